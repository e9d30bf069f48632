import PyProof.Rows.All
import HandS.TupMul
import Wide.All
import OpenK.AllK
import Wide.FinOn
import HandS.ForMost
import HandS.ForExc
import HandS.WordsExc
import HandS.ExcOwn
import HandS.TryOnly
import HandS.TupAny
import HandS.Style
import HandS.Rev
import HandS.Zip
import HandS.TupLe
import HandS.IsInst
import HandS.SortInts
import HandS.Codes
import HandS.Small
import KE.GoesNew
import KE.GoesMore
import HandS.Deep
import HandS.More
import HandS.Conv
import HandS.RaiseMore
import HandS.Ends
import HandS.Iter
import HandS.SortRule
import PySem.Challenge.RW_tautlines_k34_whole_crossings
set_option Elab.async false
set_option linter.all false
set_option maxRecDepth 100000
set_option maxHeartbeats 4000000
namespace DL
open PySem PySem.Spec L2
open PyProof.Rows hiding St
theorem tuple_mulS (l : Addr) (items : Array Value) (n : Nat) (dd : Option Addr) (sl : Array (Option Value)) (x : Int) (u : Tok) (c0 : (decide (x < -(2 ^ 63)) || decide (x ≥ 2 ^ 63)) = false) (c1 : (items.isEmpty || x == 1) = true) :
    Meets (Builtin.«tuple.__mul__» ⟨[.ref l, .int x u], []⟩) (fun _ R s => s.heap.get? l = some { cls := .type "tuple", dict := dd, data := .seq items n, slots := sl } ∧ R (.ok (.ret (Value.ref l))) s) :=
  .of_wp fun prog w A R s h => by
    obtain ⟨hp, g, d, tk, os⟩ := s
    obtain ⟨hl, h⟩ := h
    have f1 := AutoSeq1.idx_int
    wp_walk using wpAny_loadPart' hl
    repeat (first
      | (refine wpAny_ite_false (decide_eq_false (by rw [c0]; exact Bool.false_ne_true)) ?_; wp_walk using wpAny_loadPart' hl)
      | (refine wpAny_ite_true (decide_eq_true c1) ?_; wp_walk using wpAny_loadPart' hl))
    all_goals exact ⟨_, rfl, h⟩
theorem tuple_mulZ (l : Addr) (items : Array Value) (n : Nat) (dd : Option Addr) (sl : Array (Option Value)) (x : Int) (u : Tok) (c0 : (decide (x < -(2 ^ 63)) || decide (x ≥ 2 ^ 63)) = false) (c1 : (items.isEmpty || x == 1) = false) (c2 : (decide (x ≤ 0) || items.isEmpty) = true) :
    Meets (Builtin.«tuple.__mul__» ⟨[.ref l, .int x u], []⟩) (fun _ R s => s.heap.get? l = some { cls := .type "tuple", dict := dd, data := .seq items n, slots := sl } ∧
      R (.ok (.ret (Value.ref s.heap.objs.size))) { s with heap := s.heap.push { cls := Value.type "tuple", data := Data.seq #[] } }) :=
  .of_wp fun prog w A R s h => by
    obtain ⟨hp, g, d, tk, os⟩ := s
    obtain ⟨hl, h⟩ := h
    have f1 := AutoSeq1.idx_int
    wp_walk using wpAny_loadPart' hl
    repeat (first
      | (refine wpAny_ite_false (decide_eq_false (by rw [c0]; exact Bool.false_ne_true)) ?_; wp_walk using wpAny_loadPart' hl)
      | (refine wpAny_ite_false (decide_eq_false (by rw [c1]; exact Bool.false_ne_true)) ?_; wp_walk using wpAny_loadPart' hl)
      | (refine wpAny_ite_true (decide_eq_true c2) ?_; wp_walk using wpAny_loadPart' hl))
    all_goals exact ⟨_, rfl, h⟩
def rRepU (K : PySem.W.Frag) : R2 := fun x y H Q => ∃ l k xs, x = .ref l ∧ y = .int k ∧ SqT K H l xs ∧ -1000 ≤ k ∧ k ≤ 1000 ∧ xs.length ≤ 1000 ∧ ((xs = [] ∨ k = 1) → Q (.ref l) H) ∧ (xs ≠ [] → k ≠ 1 → ∀ p, H p = none → Q (.ref p) (upd H p (.tup (List.replicate k.toNat xs).flatten)))
section
variable {X : Cx}
theorem op_repU : OpR X (binaryOp .Mult) (rRepU X.K) := by
  intro pins s σ H x y v u Q I rx ry h
  obtain ⟨l, k, xs, rfl, rfl, hT, h0, h1, hz, q1, q2⟩ := h
  by_cases hs : xs = [] ∨ k = 1
  case neg =>
    have hne : xs ≠ [] := fun z => hs (.inl z)
    have hk1 : k ≠ 1 := fun z => hs (.inr z)
    by_cases h2 : 2 ≤ k
    · exact op_repT pins s σ H _ _ v u Q I rx ry ⟨l, k, xs, rfl, rfl, hT, hne, h2, h1, hz, q2 hne hk1⟩
    · cases rx
      obtain ⟨t, rfl⟩ := ry
      obtain ⟨its, r, ⟨⟨cls, dd, data, sl⟩, ho, hc, n, hd⟩, hs'⟩ := I.tuple hT
      simp only at hc hd
      subst hc hd
      have hle : its.length = xs.length := r.length.symm
      have hn : its ≠ [] := fun e => hne (by rw [e] at hle; exact List.eq_nil_of_length_eq_zero hle.symm)
      have hi : its.toArray.isEmpty = false := by
        cases its with
        | nil => exact absurd rfl hn
        | cons a b => rfl
      have c0 : (decide (k < -(2 ^ 63)) || decide (k ≥ 2 ^ 63)) = false := by
        rw [decide_eq_false (by omega), decide_eq_false (by omega)] <;> rfl
      have c1 : (its.toArray.isEmpty || k == 1) = false := by
        rw [hi, Bool.false_or]; exact beq_eq_false_iff_ne.mpr hk1
      have c2 : (decide (k ≤ 0) || its.toArray.isEmpty) = true := by
        rw [decide_eq_true (by omega)]; rfl
      have ek : k.toNat = 0 := by omega
      have q := q2 hne hk1 s.heap.objs.size (I.hok.fresh (Nat.le_refl _))
      rw [ek] at q
      refine wpAny_binaryOp_repeat_ref (T := "tuple") (U := "int") (by decide) ⟨_, ho, rfl⟩ (fun s' => typeIs_int s' k t) noFill_tuple_mul F.fills_int_mul F.slot_int_rmul repeat_tuple F.slot_int_index.lookup
        (call_meets F.slot_int_rmul (typeIs_int s k t) F.entry_int_rmul (F.args_int_rmul_2 _ _) (int_rmul_tuple k t l its.toArray n dd sl)
          ⟨ho, rfl, ⟨_, ho, rfl⟩, call_meets F.slot_tuple_mul ⟨_, ho, rfl⟩ F.entry_tuple_mul (F.args_tuple_mul_2 _ _) (tuple_mulZ l its.toArray n dd sl k t c0 c1 c2) ⟨ho, ?_⟩⟩)
      refine ⟨.ref s.heap.objs.size, _, I.laid (t' := s.toks) (o := .tup []) (fun b ob q => Heap.get?_push_of_some _ q) (Nat.le_refl _) ?_, rfl, q⟩
      exact ⟨Nat.zero_le _, [], .nil, IsTup.new _ _⟩
  case pos =>
    cases rx
    obtain ⟨t, rfl⟩ := ry
    obtain ⟨its, r, ⟨⟨cls, dd, data, sl⟩, ho, hc, n, hd⟩, hs'⟩ := I.tuple hT
    simp only at hc hd
    subst hc hd
    have c0 : (decide (k < -(2 ^ 63)) || decide (k ≥ 2 ^ 63)) = false := by
      rw [decide_eq_false (by omega), decide_eq_false (by omega)] <;> rfl
    have c1 : (its.toArray.isEmpty || k == 1) = true := by
      rcases hs with rfl | rfl
      · cases r; rfl
      · rw [show ((1 : Int) == 1) = true from rfl, Bool.or_true]
    exact wpAny_binaryOp_repeat_ref (T := "tuple") (U := "int") (by decide) ⟨_, ho, rfl⟩ (fun s' => typeIs_int s' k t) noFill_tuple_mul F.fills_int_mul F.slot_int_rmul repeat_tuple F.slot_int_index.lookup
      (call_meets F.slot_int_rmul (typeIs_int s k t) F.entry_int_rmul (F.args_int_rmul_2 _ _) (int_rmul_tuple k t l its.toArray n dd sl)
        ⟨ho, rfl, ⟨_, ho, rfl⟩, call_meets F.slot_tuple_mul ⟨_, ho, rfl⟩ F.entry_tuple_mul (F.args_tuple_mul_2 _ _) (tuple_mulS l its.toArray n dd sl k t c0 c1) ⟨ho, .ref l, H, I, rfl, q1 hs⟩⟩)
end
end DL

set_option maxRecDepth 100000
set_option maxHeartbeats 4000000
namespace DL
open PySem PySem.Spec L2
open PyProof.Rows hiding St

inductive D where
  | non | bl (b : Bool) | int (i : Int) | str (x : Str) | tup (ds : List D) | lst (ds : List D)
  | dk (ks : List Key) (ds : List D) | dt (ks : List (List Key)) (ds : List D)
  | scr (ns : List Int) | kt (ds : List D)

inductive Sl where
  | no | val (d : D) | own (d : D) | iow (d : D) | fz (d : D)
abbrev Env := List Sl
inductive Od where
  | d (x : D) | f (x : D) | s (i : Nat)
structure Exn where
  cls : Str
  arg : Option D := none
inductive Out (α : Type) where
  | ok (a : α) (e : Env) | err (x : Exn) | bad
abbrev M (α : Type) := Env → Out α
@[reducible] def bnd {α β : Type} (m : M α) (k : α → M β) : M β := fun e => match m e with
  | .ok a e1 => k a e1
  | .err x => .err x
  | .bad => .bad

def res (o : Od) (e : Env) : Option D := match o with
  | .d x => some x
  | .f x => some x
  | .s i => match e[i]? with
    | some (.val x) => some x
    | some (.own x) => some x
    | some (.iow x) => some x
    | _ => none

def KT (K : PySem.W.Frag) (p : Addr) (xs : List V) : Prop := ∃ (o : Obj) (its : Array Value) (n : Nat), K.lookup p = some o ∧ o.cls = .type "tuple" ∧ o.data = .seq its n ∧ its.size ≤ sizeLine ∧ Vals xs its.toList
def KLs (K : PySem.W.Frag) (p : Addr) (xs : List V) : Prop := ∃ (o : Obj) (its : Array Value) (n : Nat), K.lookup p = some o ∧ o.cls = .type "list" ∧ o.dict = none ∧ o.data = .seq its n ∧ its.size ≤ sizeLine ∧ Vals xs its.toList
mutual
inductive Rep (K : PySem.W.Frag) (S : Addr → Prop) (H : Hp) : V → D → Prop
  | non : Rep K S H .non .non
  | bl (b : Bool) : Rep K S H (.bl b) (.bl b)
  | int (i : Int) : Rep K S H (.int i) (.int i)
  | str (x : Str) : Rep K S H (.str x) (.str x)
  | tup {p : Addr} {xs : List V} {ds : List D} : H p = some (.tup xs) → Reps K S H xs ds → Rep K S H (.ref p) (.tup ds)
  | kt {p : Addr} {xs : List V} {ds : List D} : KT K p xs → Reps K S H xs ds → Rep K S H (.ref p) (.kt ds)
  | lst {p : Addr} {xs : List V} {ds : List D} : H p = some (.lst xs) → S p → Reps K S H xs ds → Rep K S H (.ref p) (.lst ds)
  | dk {p : Addr} {ks : List Key} {xs : List V} {ds : List D} : H p = some (.dK (ks.zip xs)) → ks.length = xs.length → S p → Reps K S H xs ds → Rep K S H (.ref p) (.dk ks ds)
  | dt {p : Addr} {ks : List (List Key)} {xs : List V} {ds : List D} : H p = some (.dT (ks.zip xs)) → ks.length = xs.length → S p → Reps K S H xs ds → Rep K S H (.ref p) (.dt ks ds)
  | scr {p : Addr} {ns : List Int} : ((∃ o, H p = some (.frz o (.lst (ns.map V.int)))) ∨ KLs K p (ns.map V.int)) → Rep K S H (.ref p) (.scr ns)
inductive Reps (K : PySem.W.Frag) (S : Addr → Prop) (H : Hp) : List V → List D → Prop
  | nil : Reps K S H [] []
  | cons {v : V} {vs : List V} {d : D} {ds : List D} : Rep K S H v d → Reps K S H vs ds → Reps K S H (v :: vs) (d :: ds)
end

def Imm (o : HO) : Prop := (∃ xs, o = .tup xs) ∨ ∃ ob u, o = .frz ob u
structure Kp (S : Addr → Prop) (H : Hp) (S1 : Addr → Prop) (H1 : Hp) : Prop where
  sub : ∀ p, S p → S1 p
  keep : ∀ p o, H p = some o → (S p ∨ Imm o) → H1 p = some o
theorem Kp.refl (S : Addr → Prop) (H : Hp) : Kp S H S H := ⟨fun _ h => h, fun _ _ h _ => h⟩
theorem Kp.trans {S S1 S2 : Addr → Prop} {H H1 H2 : Hp} (a : Kp S H S1 H1) (b : Kp S1 H1 S2 H2) : Kp S H S2 H2 :=
  ⟨fun p h => b.sub p (a.sub p h), fun p o h q => b.keep p o (a.keep p o h q) (q.imp (a.sub p) id)⟩
section
variable {K : PySem.W.Frag} {S S1 : Addr → Prop} {H H1 : Hp}
theorem Kp.sqT (k : Kp S H S1 H1) {p : Addr} {xs : List V} (h : SqT K H p xs) : SqT K H1 p xs := by
  rcases h with (h | ⟨o, h⟩) | h
  · exact .inl (.inl (k.keep _ _ h (.inr (.inl ⟨_, rfl⟩))))
  · exact .inl (.inr ⟨o, k.keep _ _ h (.inr (.inr ⟨_, _, rfl⟩))⟩)
  · exact .inr h
mutual
theorem Rep.kp (k : Kp S H S1 H1) : ∀ {v : V} {d : D}, Rep K S H v d → Rep K S1 H1 v d
  | _, _, .non => .non
  | _, _, .bl b => .bl b
  | _, _, .int i => .int i
  | _, _, .str x => .str x
  | _, _, .tup h r => .tup (k.keep _ _ h (.inr (.inl ⟨_, rfl⟩))) (Reps.kp k r)
  | _, _, .kt h r => .kt h (Reps.kp k r)
  | _, _, .lst h s r => .lst (k.keep _ _ h (.inl s)) (k.sub _ s) (Reps.kp k r)
  | _, _, .dk h l s r => .dk (k.keep _ _ h (.inl s)) l (k.sub _ s) (Reps.kp k r)
  | _, _, .dt h l s r => .dt (k.keep _ _ h (.inl s)) l (k.sub _ s) (Reps.kp k r)
  | _, _, .scr h => .scr (h.imp (fun ⟨o, h⟩ => ⟨o, k.keep _ _ h (.inr (.inr ⟨_, _, rfl⟩))⟩) id)
theorem Reps.kp (k : Kp S H S1 H1) : ∀ {vs : List V} {ds : List D}, Reps K S H vs ds → Reps K S1 H1 vs ds
  | _, _, .nil => .nil
  | _, _, .cons r t => .cons (Rep.kp k r) (Reps.kp k t)
end
theorem Reps.length : ∀ {vs : List V} {ds : List D}, Reps K S H vs ds → vs.length = ds.length
  | _, _, .nil => rfl
  | _, _, .cons _ t => by simp [Reps.length t]
theorem Reps.append : ∀ {vs ws : List V} {ds es : List D}, Reps K S H vs ds → Reps K S H ws es → Reps K S H (vs ++ ws) (ds ++ es)
  | _, _, _, _, .nil, s => s
  | _, _, _, _, .cons r t, s => .cons r (Reps.append t s)
theorem Reps.get : ∀ {vs : List V} {ds : List D} {i : Nat} {d : D}, Reps K S H vs ds → ds[i]? = some d → ∃ v, vs[i]? = some v ∧ Rep K S H v d
  | _, _, i, _, .nil, e => by simp at e
  | _, _, 0, _, .cons r _, e => by simp at e; subst e; exact ⟨_, rfl, r⟩
  | _, _, i + 1, _, .cons _ t, e => by
    obtain ⟨v, h1, h2⟩ := Reps.get (i := i) t (by simpa using e)
    exact ⟨v, by simpa using h1, h2⟩
theorem Reps.getV : ∀ {vs : List V} {ds : List D} {i : Nat} {v : V}, Reps K S H vs ds → vs[i]? = some v → ∃ d, ds[i]? = some d ∧ Rep K S H v d
  | _, _, i, _, .nil, e => by simp at e
  | _, _, 0, _, .cons r _, e => by simp at e; subst e; exact ⟨_, rfl, r⟩
  | _, _, i + 1, _, .cons _ t, e => by
    obtain ⟨v, h1, h2⟩ := Reps.getV (i := i) t (by simpa using e)
    exact ⟨v, by simpa using h1, h2⟩
theorem Reps.set {v : V} {d : D} (r : Rep K S H v d) : ∀ {vs : List V} {ds : List D} (i : Nat), Reps K S H vs ds → Reps K S H (vs.set i v) (ds.set i d)
  | _, _, _, .nil => .nil
  | _, _, 0, .cons _ t => .cons r t
  | _, _, i + 1, .cons q t => .cons q (Reps.set r i t)
theorem Reps.take : ∀ {vs : List V} {ds : List D} (n : Nat), Reps K S H vs ds → Reps K S H (vs.take n) (ds.take n)
  | _, _, 0, _ => .nil
  | _, _, _ + 1, .nil => .nil
  | _, _, n + 1, .cons r t => .cons r (Reps.take n t)
theorem Reps.drop : ∀ {vs : List V} {ds : List D} (n : Nat), Reps K S H vs ds → Reps K S H (vs.drop n) (ds.drop n)
  | _, _, 0, r => r
  | _, _, _ + 1, .nil => .nil
  | _, _, n + 1, .cons _ t => Reps.drop n t
theorem Reps.reverse : ∀ {vs : List V} {ds : List D}, Reps K S H vs ds → Reps K S H vs.reverse ds.reverse
  | _, _, .nil => .nil
  | _, _, .cons r t => by rw [List.reverse_cons, List.reverse_cons]; exact Reps.append (Reps.reverse t) (.cons r .nil)
theorem Reps.rep {vs : List V} {ds : List D} (h : Reps K S H vs ds) : ∀ k : Nat, Reps K S H (List.replicate k vs).flatten (List.replicate k ds).flatten
  | 0 => .nil
  | k + 1 => by rw [List.replicate_succ, List.replicate_succ, List.flatten_cons, List.flatten_cons]; exact h.append (Reps.rep h k)
theorem Reps.ints : ∀ {vs : List V} {ns : List Int}, Reps K S H vs (ns.map D.int) → vs = ns.map V.int
  | _, [], .nil => rfl
  | _, n :: ns, .cons r t => by
    cases r
    rw [List.map_cons, Reps.ints t]
theorem reps_ints : ∀ (ns : List Int), Reps K S H (ns.map V.int) (ns.map D.int)
  | [] => .nil
  | n :: ns => .cons (.int n) (reps_ints ns)
theorem Reps.bls : ∀ {vs : List V} {ns : List Bool}, Reps K S H vs (ns.map D.bl) → vs = ns.map V.bl
  | _, [], .nil => rfl
  | _, n :: ns, .cons r t => by
    cases r
    rw [List.map_cons, Reps.bls t]
end

structure Fx where
  K : PySem.W.Frag
  mg : Str → Option Value
  H0 : Hp
  S0 : Addr → Prop
  io : List Addr
  ent : St
  E : XK
def Top (K : PySem.W.Frag) (S : Addr → Prop) (H : Hp) (p : Addr) : D → Prop
  | .lst ds => ∃ xs, H p = some (.lst xs) ∧ Reps K S H xs ds
  | .dk ks ds => ∃ xs, H p = some (.dK (ks.zip xs)) ∧ ks.length = xs.length ∧ Reps K S H xs ds
  | .dt ks ds => ∃ xs, H p = some (.dT (ks.zip xs)) ∧ ks.length = xs.length ∧ Reps K S H xs ds
  | _ => False
def Frz (K : PySem.W.Frag) (S : Addr → Prop) (H : Hp) (p : Addr) : D → Prop
  | .dk ks ds => ∃ ob xs, H p = some (.frz ob (.dK (ks.zip xs))) ∧ ks.length = xs.length ∧ Reps K S H xs ds
  | .dt ks ds => ∃ ob xs, H p = some (.frz ob (.dT (ks.zip xs))) ∧ ks.length = xs.length ∧ Reps K S H xs ds
  | _ => False
def SlOk (F : Fx) (S : Addr → Prop) (H : Hp) : Sl → Option V → Prop
  | .no, _ => True
  | .val d, o => ∃ v, o = some v ∧ Rep F.K S H v d
  | .own d, o => ∃ p, o = some (.ref p) ∧ ¬ S p ∧ F.H0 p = none ∧ Top F.K S H p d
  | .iow d, o => ∃ p, o = some (.ref p) ∧ ¬ S p ∧ p ∈ F.io ∧ Top F.K S H p d
  | .fz d, o => ∃ p, o = some (.ref p) ∧ Frz F.K S H p d
def Mine : Sl → Prop
  | .own _ => True
  | .iow _ => True
  | _ => False
def Held (e : Env) (σ : St) (p : Addr) : Prop := ∃ (i : Nat) (s : Sl), e[i]? = some s ∧ Mine s ∧ σ[i]? = some (some (V.ref p))
structure R (F : Fx) (e : Env) (S : Addr → Prop) (σ : St) (H : Hp) : Prop where
  len : e.length = σ.length
  base : ∀ b o, F.H0 b = some o → b ∉ F.io → H b = some o
  s0 : ∀ p, F.S0 p → S p
  s1 : ∀ p, S p → F.S0 p ∨ F.H0 p = none
  s2 : ∀ p, S p → H p ≠ none
  there : ∀ p, p ∈ F.io → H p ≠ none
  sl : ∀ (i : Nat) (s : Sl) (o : Option V), e[i]? = some s → σ[i]? = some o → SlOk F S H s o
  dis : ∀ (i j : Nat) (s t : Sl) (p : Addr), e[i]? = some s → e[j]? = some t → Mine s → Mine t → σ[i]? = some (some (V.ref p)) → σ[j]? = some (some (V.ref p)) → i = j
  fix : ∀ (i : Nat) (d : D), e[i]? = some (.iow d) → σ[i]? = F.ent[i]?
structure Stp (e : Env) (S : Addr → Prop) (σ : St) (H : Hp) (e1 : Env) (S1 : Addr → Prop) (H1 : Hp) : Prop where
  sub : ∀ p, S p → S1 p
  held : ∀ p, Held e1 σ p → Held e σ p
  keep : ∀ p o, H p = some o → ¬ Held e σ p → H1 p = some o
  new : ∀ p, S1 p → S p ∨ H p = none ∨ Held e σ p
  mono : ∀ p, H1 p = none → H p = none
theorem Stp.refl (e : Env) (S : Addr → Prop) (σ : St) (H : Hp) : Stp e S σ H e S H := ⟨fun _ h => h, fun _ h => h, fun _ _ h _ => h, fun _ h => .inl h, fun _ h => h⟩
theorem Stp.trans {e e1 e2 : Env} {S S1 S2 : Addr → Prop} {σ : St} {H H1 H2 : Hp} (a : Stp e S σ H e1 S1 H1) (b : Stp e1 S1 σ H1 e2 S2 H2) : Stp e S σ H e2 S2 H2 :=
  ⟨fun p h => b.sub p (a.sub p h), fun p h => a.held p (b.held p h), fun p o h q => b.keep p o (a.keep p o h q) fun z => q (a.held p z), fun p h => by
    rcases b.new p h with h | h | h
    · exact a.new p h
    · exact .inr (.inl (a.mono p h))
    · exact .inr (.inr (a.held p h)), fun p h => a.mono p (b.mono p h)⟩
section
variable {F : Fx} {e e1 e2 : Env} {S S1 S2 : Addr → Prop} {σ : St} {H H1 H2 : Hp}
theorem Top.obj {K : PySem.W.Frag} {p : Addr} {d : D} (t : Top K S H p d) : ∃ o, H p = some o ∧ ¬ Imm o ∧ Mut (some o) := by
  cases d with
  | lst ds => obtain ⟨xs, h, _⟩ := t; exact ⟨_, h, (by rintro (⟨_, z⟩ | ⟨_, _, z⟩) <;> cases z), trivial⟩
  | dk ks ds => obtain ⟨xs, h, _⟩ := t; exact ⟨_, h, (by rintro (⟨_, z⟩ | ⟨_, _, z⟩) <;> cases z), trivial⟩
  | dt ks ds => obtain ⟨xs, h, _⟩ := t; exact ⟨_, h, (by rintro (⟨_, z⟩ | ⟨_, _, z⟩) <;> cases z), trivial⟩
  | _ => exact t.elim
theorem R.heldOk (r : R F e S σ H) {p : Addr} (h : Held e σ p) : ¬ S p ∧ ∃ o, H p = some o ∧ ¬ Imm o ∧ Mut (some o) := by
  obtain ⟨i, s, h1, hm, h2⟩ := h
  have q := r.sl i s _ h1 h2
  cases s with
  | own d => obtain ⟨p', e1, ns, _, t⟩ := q; cases e1; exact ⟨ns, t.obj⟩
  | iow d => obtain ⟨p', e1, ns, _, t⟩ := q; cases e1; exact ⟨ns, t.obj⟩
  | _ => exact hm.elim
theorem R.kp (r : R F e S σ H) (t : Stp e S σ H e1 S1 H1) : Kp S H S1 H1 := ⟨t.sub, fun p o h q => t.keep p o h fun z => by
  obtain ⟨ns, o', h', ni, _⟩ := r.heldOk z
  rcases q with q | q
  · exact ns q
  · rw [h] at h'; cases h'; exact ni q⟩
theorem Top.kp {K : PySem.W.Frag} {p : Addr} {d : D} (k : Kp S H S1 H1) (hp : H1 p = H p) (t : Top K S H p d) : Top K S1 H1 p d := by
  cases d with
  | lst ds => obtain ⟨xs, h, r⟩ := t; exact ⟨xs, hp.trans h, r.kp k⟩
  | dk ks ds => obtain ⟨xs, h, l, r⟩ := t; exact ⟨xs, hp.trans h, l, r.kp k⟩
  | dt ks ds => obtain ⟨xs, h, l, r⟩ := t; exact ⟨xs, hp.trans h, l, r.kp k⟩
  | _ => exact t.elim
theorem Frz.kp {K : PySem.W.Frag} {p : Addr} {d : D} (k : Kp S H S1 H1) (t : Frz K S H p d) : Frz K S1 H1 p d := by
  cases d with
  | dk ks ds => obtain ⟨ob, xs, h, l, r⟩ := t; exact ⟨ob, xs, k.keep _ _ h (.inr (.inr ⟨_, _, rfl⟩)), l, r.kp k⟩
  | dt ks ds => obtain ⟨ob, xs, h, l, r⟩ := t; exact ⟨ob, xs, k.keep _ _ h (.inr (.inr ⟨_, _, rfl⟩)), l, r.kp k⟩
  | _ => exact t.elim
theorem kp_new {p : Addr} {o : HO} (hp : H p = none) : Kp S H S (upd H p o) := ⟨fun _ h => h, fun q u h _ => by rw [upd_ne (ne_of_none h hp)]; exact h⟩
theorem SlOk.kp {s : Sl} {o : Option V} (k : Kp S H S1 H1) (hs : ∀ p, Mine s → o = some (.ref p) → H1 p = H p ∧ ¬ S1 p) (h : SlOk F S H s o) : SlOk F S1 H1 s o := by
  cases s with
  | no => trivial
  | val d => obtain ⟨v, e, r⟩ := h; exact ⟨v, e, r.kp k⟩
  | own d => obtain ⟨p, e, ns, h0, t⟩ := h; exact ⟨p, e, (hs p trivial e).2, h0, t.kp k (hs p trivial e).1⟩
  | iow d => obtain ⟨p, e, ns, h0, t⟩ := h; exact ⟨p, e, (hs p trivial e).2, h0, t.kp k (hs p trivial e).1⟩
  | fz d => obtain ⟨p, e, t⟩ := h; exact ⟨p, e, t.kp k⟩
theorem R.new (r : R F e S σ H) {p : Addr} {o : HO} (hp : H p = none) : R F e S σ (upd H p o) := by
  refine ⟨r.len, fun b u h nb => ?_, r.s0, r.s1, fun q h => ?_, fun q h => ?_, fun i s u h1 h2 => ?_, r.dis, r.fix⟩
  · have := r.base b u h nb
    rw [upd_ne (ne_of_none this hp)]; exact this
  · by_cases z : q = p
    · rw [z, upd_same]; exact fun z => nomatch z
    · rw [upd_ne z]; exact r.s2 q h
  · by_cases z : q = p
    · rw [z, upd_same]; exact fun z => nomatch z
    · rw [upd_ne z]; exact r.there q h
  · refine (r.sl i s u h1 h2).kp (kp_new hp) fun q m z => ?_
    obtain ⟨ns, u', hq, _⟩ := r.heldOk ⟨i, s, h1, m, by rw [h2, z]⟩
    exact ⟨upd_ne (ne_of_none hq hp), ns⟩
theorem Stp.alloc {p : Addr} {o : HO} (hp : H p = none) : Stp e S σ H e S (upd H p o) := ⟨fun _ h => h, fun _ h => h, fun q u h _ => by rw [upd_ne (ne_of_none h hp)]; exact h, fun _ h => .inl h, fun q h => by
  by_cases z : q = p
  · rw [z]; exact hp
  · rw [upd_ne z] at h; exact h⟩
theorem R.know (r : R F e S σ H) {p : Addr} (h0 : F.H0 p = none) (hp : H p ≠ none) (nh : ¬ Held e σ p) : R F e (fun q => S q ∨ q = p) σ H := by
  refine ⟨r.len, r.base, fun q h => .inl (r.s0 q h), fun q h => ?_, fun q h => ?_, r.there, fun i s u h1 h2 => ?_, r.dis, r.fix⟩
  · rcases h with h | rfl
    · exact r.s1 q h
    · exact .inr h0
  · rcases h with h | rfl
    · exact r.s2 q h
    · exact hp
  · refine (r.sl i s u h1 h2).kp ⟨fun _ h => .inl h, fun _ _ h _ => h⟩ fun q m z => ⟨rfl, ?_⟩
    have hh : Held e σ q := ⟨i, s, h1, m, by rw [h2, z]⟩
    rintro (z | rfl)
    · exact (r.heldOk hh).1 z
    · exact nh hh
theorem Stp.know {p : Addr} (t : Stp e S σ H e1 S1 H1) (hp : H p = none) : Stp e S σ H e1 (fun q => S1 q ∨ q = p) H1 := ⟨fun _ h => .inl (t.sub _ h), t.held, t.keep, fun q h => by
  rcases h with h | rfl
  · exact t.new q h
  · exact .inr (.inl hp), t.mono⟩
end

def OdOk (F : Fx) (Hs : Hp) (e : Env) (S : Addr → Prop) (σ : St) (H : Hp) (v : V) : Od → Prop
  | .d x => Rep F.K S H v x
  | .f x => ∃ p, v = .ref p ∧ ¬ S p ∧ F.H0 p = none ∧ Hs p = none ∧ ¬ Held e σ p ∧ Top F.K S H p x
  | .s i => σ[i]? = some (some v)
def RepT (K : PySem.W.Frag) (S : Addr → Prop) (H : Hp) (v : V) (d : D) : Prop := Rep K S H v d ∨ ∃ p, v = .ref p ∧ Top K S H p d
def Acc (F : Fx) (x : Exn) : Prop := ∀ C dx H1, (∀ b o, F.H0 b = some o → b ∉ F.io → H1 b = some o) → (x.arg = none → ∃ a, F.mg x.cls = some (.ref a) ∧ C = .ref a ∧ dx = none) → F.E C dx H1

def tE (F : Fx) (m : M Od) : TE := fun σ H Q => ∃ e S, R F e S σ H ∧ match m e with
  | .ok o e1 => ∀ v H1 S1, R F e1 S1 σ H1 → Stp e S σ H e1 S1 H1 → OdOk F H e1 S1 σ H1 v o → Q v H1
  | .err x => Acc F x
  | .bad => False
def tT (F : Fx) (m : M Bool) : TT := fun σ H Q => ∃ e S, R F e S σ H ∧ match m e with
  | .ok b e1 => ∀ H1 S1, R F e1 S1 σ H1 → Stp e S σ H e1 S1 H1 → Q b H1
  | .err x => Acc F x
  | .bad => False
inductive OdsOk (F : Fx) (S : Addr → Prop) (σ : St) (H : Hp) : List V → List Od → Prop
  | nil : OdsOk F S σ H [] []
  | d {v : V} {vs : List V} {x : D} {os : List Od} : Rep F.K S H v x → OdsOk F S σ H vs os → OdsOk F S σ H (v :: vs) (.d x :: os)
  | s {v : V} {vs : List V} {i : Nat} {os : List Od} : σ[i]? = some (some v) → OdsOk F S σ H vs os → OdsOk F S σ H (v :: vs) (.s i :: os)
def tA (F : Fx) (m : M (List Od)) : TA := fun σ H Q => ∃ e S, R F e S σ H ∧ match m e with
  | .ok os e1 => ∀ vs H1 S1, R F e1 S1 σ H1 → Stp e S σ H e1 S1 H1 → OdsOk F S1 σ H1 vs os → Q vs H1
  | .err x => Acc F x
  | .bad => False
inductive OutS where
  | nx (e : Env) | rt (o : Od) (e : Env) | bk (e : Env) | ct (e : Env) | err (x : Exn) | bad
abbrev MS := Env → OutS
def PostS (F : Fx) (D : Ends) (S : Addr → Prop) (H : Hp) : OutS → Prop
  | .nx e1 => ∀ σ1 H1 S1, R F e1 S1 σ1 H1 → Kp S H S1 H1 → D.nx σ1 H1
  | .rt o e1 => ∀ v σ1 H1 S1, R F e1 S1 σ1 H1 → OdOk F F.H0 e1 S1 σ1 H1 v o → D.rt v H1
  | .bk e1 => ∀ σ1 H1 S1, R F e1 S1 σ1 H1 → Kp S H S1 H1 → D.bk σ1 H1
  | .ct e1 => ∀ σ1 H1 S1, R F e1 S1 σ1 H1 → Kp S H S1 H1 → D.ct σ1 H1
  | .err x => Acc F x
  | .bad => False
def tS (F : Fx) (m : MS) : TS := fun D σ H => ∃ e S, R F e S σ H ∧ PostS F D S H (m e)

section
variable {X : Cx}
theorem pe_weak {ex : Expr} {t t' : TE} (h : PE X ex t) (w : ∀ σ H Q, t' σ H Q → t σ H Q) : PE X ex t' := ⟨fun pins s σ H Q I q => h.run pins s σ H Q I (w σ H Q q)⟩
theorem pt_weak {ex : Expr} {t t' : TT} (h : PT X ex t) (w : ∀ σ H Q, t' σ H Q → t σ H Q) : PT X ex t' := ⟨fun pins s σ H Q I q => h.run pins s σ H Q I (w σ H Q q)⟩
theorem pw_weak {ex : Expr} {t t' : TT} (h : PW X ex t) (w : ∀ σ H Q, t' σ H Q → t σ H Q) : PW X ex t' := ⟨fun wh pins s σ H Q I q => h.run wh pins s σ H Q I (w σ H Q q)⟩
theorem pa_weak {es : List Expr} {t t' : TA} (h : PA X es t) (w : ∀ σ H Q, t' σ H Q → t σ H Q) : PA X es t' := ⟨fun pos pins s σ H Q I q => h.run pos pins s σ H Q I (w σ H Q q)⟩
theorem ps_weak {st : Stmt} {t t' : TS} (h : PS X st t) (w : ∀ D σ H, t' D σ H → t D σ H) : PS X st t' := ⟨fun pins s σ H D I q => h.run pins s σ H D I (w D σ H q)⟩
theorem pss_weak {st : List Stmt} {t t' : TS} (h : PSs X st t) (w : ∀ D σ H, t' D σ H → t D σ H) : PSs X st t' := ⟨fun pins s σ H D I q => h.run pins s σ H D I (w D σ H q)⟩
end

section
variable {F : Fx} {e e1 e2 : Env} {S S1 S2 : Addr → Prop} {σ : St} {Hs H H1 H2 : Hp} {v : V} {o : Od} {x : D}
theorem OdOk.back {Hs' : Hp} (h : OdOk F Hs e S σ H v o) (m : ∀ p, Hs p = none → Hs' p = none) : OdOk F Hs' e S σ H v o := by
  cases o with
  | d x => exact h
  | s i => exact h
  | f x => obtain ⟨p, a, b, c, d, f⟩ := h; exact ⟨p, a, b, c, m p d, f⟩
theorem Top.rep {K : PySem.W.Frag} {p : Addr} (t : Top K S H p x) : Rep K (fun q => S q ∨ q = p) H (.ref p) x := by
  have k : Kp S H (fun q => S q ∨ q = p) H := ⟨fun _ z => .inl z, fun _ _ z _ => z⟩
  cases x with
  | lst ds => obtain ⟨xs, h, q⟩ := t; exact .lst h (.inr rfl) (q.kp k)
  | dk ks ds => obtain ⟨xs, h, l, q⟩ := t; exact .dk h l (.inr rfl) (q.kp k)
  | dt ks ds => obtain ⟨xs, h, l, q⟩ := t; exact .dt h l (.inr rfl) (q.kp k)
  | _ => exact t.elim
theorem OdOk.pin (h : OdOk F H e1 S1 σ H1 v o) (r : R F e1 S1 σ H1) (t : Stp e S σ H e1 S1 H1) : ∃ S2, R F e1 S2 σ H1 ∧ Stp e S σ H e1 S2 H1 ∧ ((∃ x, (o = .d x ∨ o = .f x) ∧ Rep F.K S2 H1 v x) ∨ ∃ i, o = .s i ∧ σ[i]? = some (some v)) := by
  cases o with
  | d x => exact ⟨S1, r, t, .inl ⟨x, .inl rfl, h⟩⟩
  | s i => exact ⟨S1, r, t, .inr ⟨i, rfl, h⟩⟩
  | f x =>
    obtain ⟨p, rfl, ns, h0, hs, nh, tp⟩ := h
    obtain ⟨ob, ho, _⟩ := tp.obj
    exact ⟨_, r.know h0 (by rw [ho]; exact fun z => nomatch z) nh, t.know hs, .inl ⟨x, .inr rfl, tp.rep⟩⟩
theorem res_ok (r : R F e S σ H) (h : OdOk F Hs e S σ H v o) (hx : res o e = some x) : RepT F.K S H v x := by
  cases o with
  | d y => cases hx; exact .inl h
  | f y => cases hx; obtain ⟨p, rfl, _, _, _, _, t⟩ := h; exact .inr ⟨p, rfl, t⟩
  | s i =>
    have h : σ[i]? = some (some v) := h
    unfold res at hx
    simp only at hx
    split at hx
    · rename_i y hy; cases hx; obtain ⟨u, e, q⟩ := r.sl i _ _ hy h; cases e; exact .inl q
    · rename_i y hy; cases hx; obtain ⟨u, e, _, _, q⟩ := r.sl i _ _ hy h; cases e; exact .inr ⟨u, rfl, q⟩
    · rename_i y hy; cases hx; obtain ⟨u, e, _, _, q⟩ := r.sl i _ _ hy h; cases e; exact .inr ⟨u, rfl, q⟩
    · cases hx
end
end DL

set_option maxRecDepth 100000
set_option maxHeartbeats 4000000
namespace DL
open PySem PySem.Spec L2
open PyProof.Rows hiding St

mutual
def toPy : D → PyData
  | .non => .none
  | .bl b => .bool b
  | .int i => .int i
  | .str x => .str x
  | .tup ds => .tuple (toPys ds)
  | .lst ds => .list (toPys ds)
  | .dk _ _ => .dict []
  | .dt _ _ => .dict []
  | .scr _ => .dict []
  | .kt ds => .tuple (toPys ds)
def toPys : List D → List PyData
  | [] => []
  | d :: ds => toPy d :: toPys ds
end
def shaped (d : D) : Bool := SeqAt.shaped (toPy d)
def eqD (a b : D) : Bool := PyData.eqv (toPy a) (toPy b)
section
variable {K : PySem.W.Frag} {S : Addr → Prop} {H : Hp}
mutual
theorem Rep.dp : ∀ {v : V} {d : D}, Rep K S H v d → (toPy d).canLay0 = true → Dp K H v (toPy d)
  | _, _, .non, _ => .non
  | _, _, .bl b, _ => .bl b
  | _, _, .int i, _ => .int i
  | _, _, .str x, _ => .str x
  | _, _, .tup h r, c => .tup (SqT.of h) (Reps.dp r (by simpa [toPy, PyData.canLay0] using c))
  | _, _, .kt h r, c => .tup (.inr h) (Reps.dp r (by simpa [toPy, PyData.canLay0] using c))
  | _, _, .lst h _ r, c => .lst (SqL.of h) (Reps.dp r (by simpa [toPy, PyData.canLay0] using c))
  | _, _, .dk _ _ _ _, c => by simp [toPy, PyData.canLay0] at c
  | _, _, .dt _ _ _ _, c => by simp [toPy, PyData.canLay0] at c
  | _, _, .scr _, c => by simp [toPy, PyData.canLay0] at c
theorem Reps.dp : ∀ {vs : List V} {ds : List D}, Reps K S H vs ds → PyData.canLayAll0 (toPys ds) = true → DpAll K H vs (toPys ds)
  | _, _, .nil, _ => .nil
  | _, _, .cons (d := d) (ds := ds) r t, c => by
    have c' : (toPy d).canLay0 = true ∧ PyData.canLayAll0 (toPys ds) = true := by simpa [toPys, PyData.canLayAll0] using c
    exact .cons (Rep.dp r c'.1) (Reps.dp t c'.2)
end
theorem shaped_can {d : D} (h : shaped d = true) : (toPy d).canLay0 = true := by
  have h' : ((toPy d).canLay0 && decide ((toPy d).depth ≤ 64)) = true := h
  rw [Bool.and_eq_true] at h'
  exact h'.1
theorem RepT.dp {v : V} {d : D} (r : RepT K S H v d) (c : (toPy d).canLay0 = true) : Dp K H v (toPy d) := by
  rcases r with r | ⟨p, rfl, t⟩
  · exact r.dp c
  · cases d with
    | lst ds =>
      obtain ⟨xs, h, q⟩ := t
      exact .lst (SqL.of h) (q.dp (by simpa [toPy, PyData.canLay0] using c))
    | dk ks ds => simp [toPy, PyData.canLay0] at c
    | dt ks ds => simp [toPy, PyData.canLay0] at c
    | _ => exact t.elim
end

section
variable {K : PySem.W.Frag} {S : Addr → Prop} {H : Hp} {v : V}
theorem RepT.non (r : RepT K S H v .non) : v = .non := by
  rcases r with r | ⟨_, _, t⟩
  · cases r; rfl
  · exact t.elim
theorem RepT.bl {b : Bool} (r : RepT K S H v (.bl b)) : v = .bl b := by
  rcases r with r | ⟨_, _, t⟩
  · cases r; rfl
  · exact t.elim
theorem RepT.int {i : Int} (r : RepT K S H v (.int i)) : v = .int i := by
  rcases r with r | ⟨_, _, t⟩
  · cases r; rfl
  · exact t.elim
theorem RepT.str {x : Str} (r : RepT K S H v (.str x)) : v = .str x := by
  rcases r with r | ⟨_, _, t⟩
  · cases r; rfl
  · exact t.elim
theorem RepT.kt {ds : List D} (r : RepT K S H v (.kt ds)) : ∃ p xs, v = .ref p ∧ KT K p xs ∧ Reps K S H xs ds := by
  rcases r with r | ⟨_, _, t⟩
  · cases r with
    | kt h r => exact ⟨_, _, rfl, h, r⟩
  · exact t.elim
theorem RepT.tup {ds : List D} (r : RepT K S H v (.tup ds)) : ∃ p xs, v = .ref p ∧ H p = some (.tup xs) ∧ Reps K S H xs ds := by
  rcases r with r | ⟨_, _, t⟩
  · cases r with
    | tup h r => exact ⟨_, _, rfl, h, r⟩
  · exact t.elim
theorem RepT.lst {ds : List D} (r : RepT K S H v (.lst ds)) : ∃ p xs, v = .ref p ∧ H p = some (.lst xs) ∧ Reps K S H xs ds := by
  rcases r with r | ⟨p, rfl, xs, h, r⟩
  · cases r with
    | lst h _ r => exact ⟨_, _, rfl, h, r⟩
  · exact ⟨p, xs, rfl, h, r⟩
theorem RepT.dk {ks : List Key} {ds : List D} (r : RepT K S H v (.dk ks ds)) : ∃ p xs, v = .ref p ∧ H p = some (.dK (ks.zip xs)) ∧ ks.length = xs.length ∧ Reps K S H xs ds := by
  rcases r with r | ⟨p, rfl, xs, h, l, r⟩
  · cases r with
    | dk h l _ r => exact ⟨_, _, rfl, h, l, r⟩
  · exact ⟨p, xs, rfl, h, l, r⟩
theorem RepT.dt {ks : List (List Key)} {ds : List D} (r : RepT K S H v (.dt ks ds)) : ∃ p xs, v = .ref p ∧ H p = some (.dT (ks.zip xs)) ∧ ks.length = xs.length ∧ Reps K S H xs ds := by
  rcases r with r | ⟨p, rfl, xs, h, l, r⟩
  · cases r with
    | dt h l _ r => exact ⟨_, _, rfl, h, l, r⟩
  · exact ⟨p, xs, rfl, h, l, r⟩
theorem RepT.scr {ns : List Int} (r : RepT K S H v (.scr ns)) : ∃ p, v = .ref p ∧ ((∃ o, H p = some (.frz o (.lst (ns.map V.int)))) ∨ KLs K p (ns.map V.int)) := by
  rcases r with r | ⟨_, _, t⟩
  · cases r with
    | scr h => exact ⟨_, rfl, h⟩
  · exact t.elim
end

section
variable {F : Fx} {e : Env} {S : Addr → Prop} {σ : St} {H : Hp}
theorem R.h0 (r : R F e S σ H) {p : Addr} (hp : H p = none) : F.H0 p = none := by
  cases q : F.H0 p with
  | none => rfl
  | some o =>
    by_cases hi : p ∈ F.io
    · exact absurd hp (r.there p hi)
    · rw [r.base p o q hi] at hp; cases hp
theorem R.nS (r : R F e S σ H) {p : Addr} (hp : H p = none) : ¬ S p := fun h => r.s2 p h hp
theorem R.nHeld (r : R F e S σ H) {p : Addr} (hp : H p = none) : ¬ Held e σ p := fun h => by
  obtain ⟨_, o, q, _⟩ := r.heldOk h
  rw [hp] at q; cases q
theorem fresh_lst (r : R F e S σ H) {p : Addr} (hp : H p = none) {xs : List V} {ds : List D} (q : Reps F.K S H xs ds) : OdOk F H e S σ (upd H p (.lst xs)) (.ref p) (.f (.lst ds)) :=
  ⟨p, rfl, r.nS hp, r.h0 hp, hp, r.nHeld hp, xs, upd_same, q.kp (kp_new hp)⟩
theorem fresh_tup {p : Addr} (hp : H p = none) {K : PySem.W.Frag} {xs : List V} {ds : List D} (q : Reps K S H xs ds) : Rep K S (upd H p (.tup xs)) (.ref p) (.tup ds) :=
  .tup upd_same (q.kp (kp_new hp))
end

def evVar (i : Nat) : M Od := fun e => match e[i]? with
  | some (.val d) => .ok (.d d) e
  | some (.own _) => .ok (.s i) e
  | some (.iow _) => .ok (.s i) e
  | _ => .bad
def evC (d : D) : M Od := fun e => .ok (.d d) e
section
variable {X : Cx} {F : Fx} {pos : Pos}
theorem R.at {F : Fx} {e : Env} {S : Addr → Prop} {σ : St} {H : Hp} (r : R F e S σ H) {i : Nat} {s : Sl} (h : e[i]? = some s) : ∃ o, σ[i]? = some o ∧ SlOk F S H s o := by
  have hl : i < σ.length := by rw [← r.len]; exact (List.getElem?_eq_some_iff.mp h).1
  exact ⟨σ[i], by simp [hl], r.sl i s _ h (by simp [hl])⟩
theorem de_var (i : Nat) {x : Str} (hN : X.N[i]? = some x := by rfl) (hv : Vis X.env.scope x := by first | exact Or.inl rfl | exact Or.inr (Or.inl rfl) | exact Or.inr (Or.inr rfl)) (hd : (x == ("__debug__" : Str)) = false := by decide)
    (hcd : (x == ("__classdict__" : Str)) = false := by decide) : PE X (.Name x pos) (tE F (evVar i)) := by
  refine pe_weak (pe_var hN hv hd hcd) fun σ H Q ⟨e, S, r, q⟩ => ?_
  unfold evVar at q
  split at q
  · rename_i a e1 hm; split at hm
    · rename_i d hd; cases hm; obtain ⟨o, ho, v, rfl, hr⟩ := r.at hd; exact ⟨v, ho, q v H S r (.refl _ _ _ _) hr⟩
    · rename_i d hd; cases hm; obtain ⟨o, ho, p, rfl, hr⟩ := r.at hd; exact ⟨_, ho, q _ H S r (.refl _ _ _ _) ho⟩
    · rename_i d hd; cases hm; obtain ⟨o, ho, p, rfl, hr⟩ := r.at hd; exact ⟨_, ho, q _ H S r (.refl _ _ _ _) ho⟩
    · cases hm
  · rename_i hm; split at hm <;> cases hm
  · exact q.elim
theorem de_c {d : D} {v : V} {ex : Expr} (h : PE X ex (tC v)) (hr : ∀ K S H, Rep K S H v d) : PE X ex (tE F (evC d)) :=
  pe_weak h fun σ H Q ⟨e, S, r, q⟩ => q v H S r (.refl _ _ _ _) (hr _ _ _)
theorem de_int {i j} : PE X (.Constant (.int i) j pos) (tE F (evC (.int i))) := de_c pe_int fun _ _ _ => .int i
theorem de_bl {b j} : PE X (.Constant (.bool b) j pos) (tE F (evC (.bl b))) := de_c pe_bl fun _ _ _ => .bl b
theorem de_non {j} : PE X (.Constant .none j pos) (tE F (evC .non)) := de_c pe_non fun _ _ _ => .non
theorem de_str {x j} : PE X (.Constant (.str x) j pos) (tE F (evC (.str x))) := de_c pe_str fun _ _ _ => .str x
theorem de_glob {x : Str} {v : V} {d : D} {u : Value} (hg : Gl X x) (hm : X.mg x = some u) (r : RelV v u) (hr : ∀ K S H, Rep K S H v d) (hd : (x == ("__debug__" : Str)) = false := by decide) : PE X (.Name x pos) (tE F (evC d)) :=
  de_c (pe_glob hg hm r hd) hr
end

def app2 (g : D → D → Option Od) (oa ob : Od) : M Od := fun e => match res oa e, res ob e with
  | some x, some y => (match g x y with
    | some o => .ok o e
    | none => .bad)
  | _, _ => .bad
def bin2 (g : D → D → Option Od) (ma mb : M Od) : M Od := bnd ma fun oa => bnd mb fun ob => app2 g oa ob
def app1 (g : D → Option Od) (oa : Od) : M Od := fun e => match res oa e with
  | some x => (match g x with
    | some o => .ok o e
    | none => .bad)
  | _ => .bad
def un1 (g : D → Option Od) (ma : M Od) : M Od := bnd ma fun oa => app1 g oa
def OpS (F : Fx) (r : R2) (g : D → D → Option Od) : Prop := ∀ (e : Env) (S : Addr → Prop) (σ : St) (H : Hp) (v u : V) (x y : D) (o : Od) (Q : VK), R F e S σ H → RepT F.K S H v x → RepT F.K S H u y → g x y = some o →
  (∀ w H1 S1, R F e S1 σ H1 → Stp e S σ H e S1 H1 → OdOk F H e S1 σ H1 w o → Q w H1) → r v u H Q
def UnS (F : Fx) (r : V → Hp → VK → Prop) (g : D → Option Od) : Prop := ∀ (e : Env) (S : Addr → Prop) (σ : St) (H : Hp) (v : V) (x : D) (o : Od) (Q : VK), R F e S σ H → RepT F.K S H v x → g x = some o →
  (∀ w H1 S1, R F e S1 σ H1 → Stp e S σ H e S1 H1 → OdOk F H e S1 σ H1 w o → Q w H1) → r v H Q
section
variable {F : Fx} {e e1 e2 : Env} {S S1 S2 : Addr → Prop} {σ : St} {H H1 H2 : Hp} {v : V} {o : Od} {x : D}
theorem pin_res (r1 : R F e1 S1 σ H1) (h : (∃ x, (o = .d x ∨ o = .f x) ∧ Rep F.K S1 H1 v x) ∨ ∃ i, o = .s i ∧ σ[i]? = some (some v)) (t : Stp e1 S1 σ H1 e2 S2 H2) (r2 : R F e2 S2 σ H2) (hx : res o e2 = some x) : RepT F.K S2 H2 v x := by
  rcases h with ⟨y, rfl | rfl, h⟩ | ⟨i, rfl, h⟩
  · cases hx; exact .inl (h.kp (r1.kp t))
  · cases hx; exact .inl (h.kp (r1.kp t))
  · exact res_ok r2 (show OdOk F H2 e2 S2 σ H2 v (.s i) from h) hx
theorem tE_bin {r : R2} {g : D → D → Option Od} (h : OpS F r g) {ma mb : M Od} (σ : St) (H : Hp) (Q : VK) (q : tE F (bin2 g ma mb) σ H Q) : tOp r (tE F ma) (tE F mb) σ H Q := by
  obtain ⟨e, S, r0, q⟩ := q
  refine ⟨e, S, r0, ?_⟩
  simp only [bin2, bnd] at q
  cases h1 : ma e with
  | bad => rw [h1] at q; exact q
  | err x => rw [h1] at q; exact q
  | ok oa e1 =>
    simp only [h1] at q
    refine fun v H1 S1 r1 t1 k1 => ?_
    obtain ⟨S1', r1', t1', p1⟩ := k1.pin r1 t1
    refine ⟨e1, S1', r1', ?_⟩
    cases h2 : mb e1 with
    | bad => rw [h2] at q; exact q
    | err x => rw [h2] at q; exact q
    | ok ob e2 =>
      simp only [h2] at q
      refine fun u H2 S2 r2 t2 k2 => ?_
      unfold app2 at q
      split at q
      · rename_i oo e3 hm
        split at hm
        · rename_i x y hx hy
          split at hm
          · rename_i o' hg
            cases hm
            refine h e2 S2 σ H2 v u x y oo _ r2 (pin_res r1' p1 t2 r2 hx) (res_ok r2 k2 hy) hg fun w H3 S3 r3 t3 k3 => ?_
            exact q w H3 S3 r3 ((t1'.trans t2).trans t3) (k3.back (t1'.trans t2).mono)
          · cases hm
        · cases hm
      · rename_i hm; split at hm
        · split at hm <;> cases hm
        · cases hm
      · exact q.elim
theorem tE_un {r : V → Hp → VK → Prop} {g : D → Option Od} (h : UnS F r g) {ma : M Od} (σ : St) (H : Hp) (Q : VK) (q : tE F (un1 g ma) σ H Q) : tUn r (tE F ma) σ H Q := by
  obtain ⟨e, S, r0, q⟩ := q
  refine ⟨e, S, r0, ?_⟩
  simp only [un1, bnd] at q
  cases h1 : ma e with
  | bad => rw [h1] at q; exact q
  | err x => rw [h1] at q; exact q
  | ok oa e1 =>
    simp only [h1] at q
    refine fun v H1 S1 r1 t1 k1 => ?_
    unfold app1 at q
    split at q
    · rename_i oo e3 hm
      split at hm
      · rename_i x hx
        split at hm
        · rename_i o' hg
          cases hm
          refine h e1 S1 σ H1 v x oo _ r1 (res_ok r1 k1 hx) hg fun w H3 S3 r3 t3 k3 => ?_
          exact q w H3 S3 r3 (t1.trans t3) (k3.back t1.mono)
        · cases hm
      · cases hm
    · rename_i hm; split at hm
      · split at hm <;> cases hm
      · cases hm
    · exact q.elim
end

def gAdd : D → D → Option Od
  | .int i, .int j => some (.d (.int (i + j)))
  | .str a, .str b => if a.length + b.length ≤ 16777216 then some (.d (.str (a ++ b))) else none
  | .tup a, .tup b => if a.length + b.length ≤ 16777216 then some (.d (.tup (a ++ b))) else none
  | .lst a, .lst b => if a.length + b.length ≤ 16777216 then some (.f (.lst (a ++ b))) else none
  | _, _ => none
def gSub : D → D → Option Od
  | .int i, .int j => some (.d (.int (i - j)))
  | _, _ => none
def small (i : Int) : Bool := decide (i.natAbs < 18446744073709551616)
def gMul : D → D → Option Od
  | .int i, .int j => if small i || small j then some (.d (.int (i * j))) else none
  | .tup a, .int k => if -1000 ≤ k ∧ k ≤ 1000 ∧ a.length ≤ 1000 then some (.d (.tup (List.replicate k.toNat a).flatten)) else none
  | .lst a, .int k => if -1000000 ≤ k ∧ k ≤ 1000000 ∧ a.length * k.toNat ≤ 16777216 then some (.f (.lst (List.replicate k.toNat a).flatten)) else none
  | _, _ => none
def gFdiv : D → D → Option Od
  | .int i, .int j => if j ≠ 0 ∧ j.natAbs < 1073741824 then some (.d (.int (i.fdiv j))) else none
  | _, _ => none
def gMod : D → D → Option Od
  | .int i, .int j => if j ≠ 0 then some (.d (.int (i.fmod j))) else none
  | _, _ => none
def gPow : D → D → Option Od
  | .int i, .int j => if 0 ≤ j ∧ j ≤ 1000000 ∧ small i then some (.d (.int (i ^ j.toNat))) else none
  | _, _ => none
def gNeg : D → Option Od
  | .int i => some (.d (.int (-i)))
  | _ => none
def gEq (a b : D) : Option Od := match a, b with
  | .str x, .str y => some (.d (.bl (decide (x = y))))
  | a, b => if shaped a && shaped b then some (.d (.bl (eqD a b))) else none
def gNe (a b : D) : Option Od := match a, b with
  | .str x, .str y => some (.d (.bl (!decide (x = y))))
  | a, b => if shaped a && shaped b then some (.d (.bl (!eqD a b))) else none
def gCmp (p : Int → Int → Bool) : D → D → Option Od
  | .int i, .int j => some (.d (.bl (p i j)))
  | _, _ => none
def lexLt : List Int → List Int → Bool := HT.lexLt
def intsOf : List D → Option (List Int)
  | [] => some []
  | .int i :: ds => (intsOf ds).map (i :: ·)
  | _ :: _ => none
def gLt : D → D → Option Od
  | .int i, .int j => some (.d (.bl (decide (i < j))))
  | .tup a, .tup b => match intsOf a, intsOf b with
    | some ns, some ms => some (.d (.bl (lexLt ns ms)))
    | _, _ => none
  | _, _ => none
theorem ints_eq : ∀ {ds : List D} {ns : List Int}, intsOf ds = some ns → ds = ns.map D.int
  | [], _, h => by cases h; rfl
  | .int i :: ds, ns, h => by
    simp only [intsOf, Option.map_eq_some_iff] at h
    obtain ⟨ms, h1, rfl⟩ := h
    rw [ints_eq h1]; rfl
  | .non :: _, _, h => by cases h
  | .bl _ :: _, _, h => by cases h
  | .str _ :: _, _, h => by cases h
  | .tup _ :: _, _, h => by cases h
  | .lst _ :: _, _, h => by cases h
  | .dk _ _ :: _, _, h => by cases h
  | .dt _ _ :: _, _, h => by cases h
  | .scr _ :: _, _, h => by cases h
  | .kt _ :: _, _, h => by cases h
theorem ints_map (ns : List Int) : intsOf (ns.map D.int) = some ns := by
  induction ns with
  | nil => rfl
  | cons n ns ih => simp [intsOf, ih]

section
variable {F : Fx}
theorem small_ok {i : Int} (h : small i = true) : -(2 ^ 64) < i ∧ i < 2 ^ 64 := by
  have : i.natAbs < 18446744073709551616 := of_decide_eq_true h
  omega
theorem line_eq : sizeLine = 16777216 := sizeLine_eq
theorem s_add : OpS F (fun x y H Q => rI0 (fun i j => .int (i + j)) x y H Q ∨ (∃ i j, x = .str i ∧ y = .str j ∧ i.length + j.length ≤ sizeLine ∧ Q (.str (i ++ j)) H) ∨ rCatA F.K x y H Q ∨ rCat x y H Q) gAdd := by
  intro e S σ H v u x y o Q r rx ry hg k
  unfold gAdd at hg
  split at hg
  · cases hg; cases rx.int; cases ry.int
    exact .inl ⟨_, _, rfl, rfl, k _ H S r (.refl _ _ _ _) (.int _)⟩
  · split at hg
    · rename_i hz; cases hg; cases rx.str; cases ry.str
      exact .inr (.inl ⟨_, _, rfl, rfl, by rw [line_eq]; exact hz, k _ H S r (.refl _ _ _ _) (.str _)⟩)
    · cases hg
  · split at hg
    · rename_i hz; cases hg
      obtain ⟨p, xs, rfl, hp, q⟩ := rx.tup
      obtain ⟨p', ys, rfl, hp', q'⟩ := ry.tup
      have l1 := q.length
      have l2 := q'.length
      refine .inr (.inr (.inl ⟨p, p', xs, ys, rfl, rfl, SqT.of hp, SqT.of hp', by rw [line_eq, l1, l2]; exact hz, fun h0 => ?_, fun h0 h1 => ?_, fun h0 h1 w hw => ?_⟩))
      · subst h0; cases q; exact k _ H S r (.refl _ _ _ _) (.tup hp' q')
      · subst h1; cases q'; rw [List.append_nil] at k; exact k _ H S r (.refl _ _ _ _) (.tup hp q)
      · exact k _ _ S (r.new hw) (.alloc hw) (fresh_tup hw (q.append q'))
    · cases hg
  · split at hg
    · rename_i hz; cases hg
      obtain ⟨p, xs, rfl, hp, q⟩ := rx.lst
      obtain ⟨p', ys, rfl, hp', q'⟩ := ry.lst
      have l1 := q.length
      have l2 := q'.length
      exact .inr (.inr (.inr ⟨p, p', xs, ys, rfl, rfl, hp, hp', by rw [line_eq, l1, l2]; exact hz, fun w hw => k _ _ S (r.new hw) (.alloc hw) (fresh_lst r hw (q.append q'))⟩))
    · cases hg
  · cases hg
theorem s_sub : OpS F (rI0 fun i j => .int (i - j)) gSub := by
  intro e S σ H v u x y o Q r rx ry hg k
  unfold gSub at hg
  split at hg
  · cases hg; cases rx.int; cases ry.int
    exact ⟨_, _, rfl, rfl, k _ H S r (.refl _ _ _ _) (.int _)⟩
  · cases hg
theorem s_mul : OpS F (fun x y H Q => rI CMul (fun i j => .int (i * j)) x y H Q ∨ rRepU F.K x y H Q ∨ rRep x y H Q) gMul := by
  intro e S σ H v u x y o Q r rx ry hg k
  unfold gMul at hg
  split at hg
  · split at hg
    · rename_i hz; cases hg; cases rx.int; cases ry.int
      refine .inl ⟨_, _, rfl, rfl, ?_, k _ H S r (.refl _ _ _ _) (.int _)⟩
      rw [Bool.or_eq_true] at hz
      exact hz.imp small_ok small_ok
    · cases hg
  · split at hg
    · rename_i hz; cases hg
      obtain ⟨p, xs, rfl, hp, q⟩ := rx.tup
      cases ry.int
      have l1 := q.length
      refine .inr (.inl ⟨p, _, xs, rfl, rfl, SqT.of hp, hz.1, hz.2.1, by rw [l1]; exact hz.2.2, fun hh => ?_, fun _ _ w hw => k _ _ S (r.new hw) (.alloc hw) (fresh_tup hw (q.rep _))⟩)
      rename_i a kk
      have ea : (List.replicate kk.toNat a).flatten = a := by
        rcases hh with rfl | rfl
        · cases q; simp
        · simp
      rw [ea] at k
      rcases rx with rx | ⟨_, _, tt⟩
      · exact k _ H S r (.refl _ _ _ _) rx
      · exact tt.elim
    · cases hg
  · split at hg
    · rename_i hz; cases hg
      obtain ⟨p, xs, rfl, hp, q⟩ := rx.lst
      cases ry.int
      have l1 := q.length
      exact .inr (.inr ⟨p, _, xs, rfl, rfl, hp, by omega, by omega, by rw [line_eq, l1]; exact hz.2.2, fun w hw => k _ _ S (r.new hw) (.alloc hw) (fresh_lst r hw (q.rep _))⟩)
    · cases hg
  · cases hg
theorem s_fdiv : OpS F (rI CDivN fun i j => .int (i.fdiv j)) gFdiv := by
  intro e S σ H v u x y o Q r rx ry hg k
  unfold gFdiv at hg
  split at hg
  · split at hg
    · rename_i hz; cases hg; cases rx.int; cases ry.int
      exact ⟨_, _, rfl, rfl, hz, k _ H S r (.refl _ _ _ _) (.int _)⟩
    · cases hg
  · cases hg
theorem s_mod : OpS F (rI (fun _ j => j ≠ 0) fun i j => .int (i.fmod j)) gMod := by
  intro e S σ H v u x y o Q r rx ry hg k
  unfold gMod at hg
  split at hg
  · split at hg
    · rename_i hz; cases hg; cases rx.int; cases ry.int
      exact ⟨_, _, rfl, rfl, hz, k _ H S r (.refl _ _ _ _) (.int _)⟩
    · cases hg
  · cases hg
theorem s_pow : OpS F (rI CPow fun i j => .int (i ^ j.toNat)) gPow := by
  intro e S σ H v u x y o Q r rx ry hg k
  unfold gPow at hg
  split at hg
  · split at hg
    · rename_i hz; cases hg; cases rx.int; cases ry.int
      exact ⟨_, _, rfl, rfl, ⟨hz.1, hz.2.1, of_decide_eq_true hz.2.2⟩, k _ H S r (.refl _ _ _ _) (.int _)⟩
    · cases hg
  · cases hg
theorem s_neg : UnS F (rU fun i => .int (-i)) gNeg := by
  intro e S σ H v x o Q r rx hg k
  unfold gNeg at hg
  split at hg
  · cases hg; cases rx.int
    exact ⟨_, rfl, k _ H S r (.refl _ _ _ _) (.int _)⟩
  · cases hg
theorem s_eq : OpS F (fun x y H Q => rEq x y H Q ∨ rEqD F.K x y H Q) gEq := by
  intro e S σ H v u x y o Q r rx ry hg k
  unfold gEq at hg
  split at hg
  · cases hg; cases rx.str; cases ry.str
    refine .inl ⟨rfl, ?_⟩
    rename_i a b
    have e1 : decide (V.str a = V.str b) = decide (a = b) := by rw [Bool.eq_iff_iff]; simp
    rw [e1]
    exact k _ H S r (.refl _ _ _ _) (.bl _)
  · split at hg
    · rename_i hz; cases hg
      rw [Bool.and_eq_true] at hz
      exact .inr ⟨_, _, rx.dp (shaped_can hz.1), ry.dp (shaped_can hz.2), hz.1, hz.2, k _ H S r (.refl _ _ _ _) (.bl _)⟩
    · cases hg
theorem s_ne : OpS F (fun x y H Q => rNe x y H Q ∨ rNeD F.K x y H Q) gNe := by
  intro e S σ H v u x y o Q r rx ry hg k
  unfold gNe at hg
  split at hg
  · cases hg; cases rx.str; cases ry.str
    refine .inl ⟨rfl, ?_⟩
    rename_i a b
    have e1 : decide (V.str a = V.str b) = decide (a = b) := by rw [Bool.eq_iff_iff]; simp
    rw [e1]
    exact k _ H S r (.refl _ _ _ _) (.bl _)
  · split at hg
    · rename_i hz; cases hg
      rw [Bool.and_eq_true] at hz
      exact .inr ⟨_, _, rx.dp (shaped_can hz.1), ry.dp (shaped_can hz.2), hz.1, hz.2, k _ H S r (.refl _ _ _ _) (.bl _)⟩
    · cases hg
theorem s_cmp (p : Int → Int → Bool) : OpS F (rI0 fun i j => .bl (p i j)) (gCmp p) := by
  intro e S σ H v u x y o Q r rx ry hg k
  unfold gCmp at hg
  split at hg
  · cases hg; cases rx.int; cases ry.int
    exact ⟨_, _, rfl, rfl, k _ H S r (.refl _ _ _ _) (.bl _)⟩
  · cases hg
theorem s_lt : OpS F (fun x y H Q => rI0 (fun i j => .bl (decide (i < j))) x y H Q ∨ rLtT F.K x y H Q) gLt := by
  intro e S σ H v u x y o Q r rx ry hg k
  unfold gLt at hg
  split at hg
  · cases hg; cases rx.int; cases ry.int
    exact .inl ⟨_, _, rfl, rfl, k _ H S r (.refl _ _ _ _) (.bl _)⟩
  · split at hg
    · rename_i ns ms h1 h2; cases hg
      have e1 := ints_eq h1
      have e2 := ints_eq h2
      subst e1 e2
      obtain ⟨p, xs, rfl, hp, q⟩ := rx.tup
      obtain ⟨p', ys, rfl, hp', q'⟩ := ry.tup
      cases q.ints; cases q'.ints
      exact .inr ⟨p, p', ns, ms, rfl, rfl, SqT.of hp, SqT.of hp', k _ H S r (.refl _ _ _ _) (.bl _)⟩
    · cases hg
  · cases hg
end

section
variable {X : Cx} {F : Fx} {a b c : Expr} {ma mb mc : M Od} {pos : Pos}
theorem de_bin {op : Operator} {r : R2} {g : D → D → Option Od} (ho : OpR X (binaryOp op) r) (hs : OpS F r g) (ha : PE X a (tE F ma)) (hb : PE X b (tE F mb)) : PE X (.BinOp a op b pos) (tE F (bin2 g ma mb)) :=
  pe_weak (pe_op ho ha hb) fun σ H Q q => tE_bin hs σ H Q q
theorem de_add (hK : F.K = X.K) (ha : PE X a (tE F ma)) (hb : PE X b (tE F mb)) : PE X (.BinOp a .Add b pos) (tE F (bin2 gAdd ma mb)) :=
  de_bin (op_add.or (op_add_str.or (op_catA.or op_cat))) (by rw [← hK]; exact s_add) ha hb
theorem de_sub (ha : PE X a (tE F ma)) (hb : PE X b (tE F mb)) : PE X (.BinOp a .Sub b pos) (tE F (bin2 gSub ma mb)) := de_bin op_sub s_sub ha hb
theorem de_mul (hK : F.K = X.K) (ha : PE X a (tE F ma)) (hb : PE X b (tE F mb)) : PE X (.BinOp a .Mult b pos) (tE F (bin2 gMul ma mb)) :=
  de_bin (op_mul.or (op_repU.or op_rep)) (by rw [← hK]; exact s_mul) ha hb
theorem de_fdiv (ha : PE X a (tE F ma)) (hb : PE X b (tE F mb)) : PE X (.BinOp a .FloorDiv b pos) (tE F (bin2 gFdiv ma mb)) := de_bin op_fdivN s_fdiv ha hb
theorem de_mod (ha : PE X a (tE F ma)) (hb : PE X b (tE F mb)) : PE X (.BinOp a .Mod b pos) (tE F (bin2 gMod ma mb)) := de_bin op_modN s_mod ha hb
theorem de_pow (ha : PE X a (tE F ma)) (hb : PE X b (tE F mb)) : PE X (.BinOp a .Pow b pos) (tE F (bin2 gPow ma mb)) := de_bin op_pow s_pow ha hb
theorem de_neg (ha : PE X a (tE F ma)) : PE X (.UnaryOp .USub a pos) (tE F (un1 gNeg ma)) := pe_weak (pe_un un_neg ha) fun σ H Q q => tE_un s_neg σ H Q q
end
end DL

set_option maxRecDepth 100000
set_option maxHeartbeats 4000000
namespace DL
open PySem PySem.Spec L2
open PyProof.Rows hiding St

def tst (m : M Od) : M Bool := bnd m fun o e => match res o e with
  | some (.bl b) => .ok b e
  | _ => .bad
def truthD : D → Option Bool
  | .non => some false
  | .bl b => some b
  | .int i => some (i != 0)
  | .str y => if y.length ≤ 16777216 then some ((y.length : Int) != 0) else none
  | .tup ds => some (!ds.isEmpty)
  | .kt ds => some (!ds.isEmpty)
  | .lst ds => some (!ds.isEmpty)
  | .dk ks _ => some (!ks.isEmpty)
  | _ => none
def truth (m : M Od) : M Bool := bnd m fun o e => match (res o e).bind truthD with
  | some b => .ok b e
  | _ => .bad
def andT (ma mb : M Bool) : M Bool := bnd ma fun c => if c then mb else fun e => .ok false e
def orT (ma mb : M Bool) : M Bool := bnd ma fun c => if c then (fun e => .ok true e) else mb
def notT (ma : M Bool) : M Bool := bnd ma fun c e => .ok (!c) e
def andV (ma mb : M Od) : M Od := bnd ma fun o e => match res o e with
  | some (.bl true) => mb e
  | some (.bl false) => .ok (.d (.bl false)) e
  | _ => .bad
def orV (ma mb : M Od) : M Od := bnd ma fun o e => match res o e with
  | some (.bl true) => .ok (.d (.bl true)) e
  | some (.bl false) => mb e
  | _ => .bad
def notV (ma : M Od) : M Od := bnd ma fun o e => match res o e with
  | some (.bl b) => .ok (.d (.bl (!b))) e
  | _ => .bad
def ifE (mc : M Bool) (ma mb : M Od) : M Od := bnd mc fun c => if c then ma else mb
def chain (g g' : D → D → Option Od) (ma mb mc : M Od) : M Od := bnd ma fun oa => bnd mb fun ob => bnd (app2 g oa ob) fun o => match o with
  | .d (.bl true) => bnd mc fun oc => app2 g' ob oc
  | .d (.bl false) => fun e => .ok (.d (.bl false)) e
  | _ => fun _ => .bad

section
variable {F : Fx} {e e1 e2 : Env} {S S1 S2 : Addr → Prop} {σ : St} {H H1 H2 : Hp} {v : V} {o : Od} {x : D}
theorem tT_tst {m : M Od} {Q : Bool → Hp → Prop} (q : tT F (tst m) σ H Q) : tE F m σ H fun x H' => ∃ k, x = .bl k ∧ Q k H' := by
  obtain ⟨e, S, r, q⟩ := q
  refine ⟨e, S, r, ?_⟩
  simp only [tst, bnd] at q
  cases h1 : m e with
  | bad => rw [h1] at q; exact q
  | err x => rw [h1] at q; exact q
  | ok oa e1 =>
    simp only [h1] at q
    refine fun v H1 S1 r1 t1 k1 => ?_
    split at q
    · rename_i b e3 hm
      split at hm
      · rename_i b' hx; cases hm
        cases (res_ok r1 k1 hx).bl
        exact ⟨_, rfl, q H1 S1 r1 t1⟩
      · cases hm
    · rename_i hm; split at hm <;> cases hm
    · exact q.elim
theorem truV_ok {K : PySem.W.Frag} {b : Bool} (h : RepT K S H v x) (hb : truthD x = some b) : TruV K v H b := by
  cases x with
  | non => cases hb; cases h.non; exact rfl
  | bl c => cases hb; cases h.bl; exact rfl
  | int i => cases hb; cases h.int; exact rfl
  | str y =>
    simp only [truthD] at hb
    split at hb
    · rename_i hz; cases hb; cases h.str; exact ⟨by rw [line_eq]; exact hz, rfl⟩
    · cases hb
  | tup ds =>
    cases hb; obtain ⟨p, xs, rfl, hp, q⟩ := h.tup
    refine .inr (.inl ⟨xs, SqT.of hp, ?_⟩)
    cases q <;> rfl
  | kt ds =>
    cases hb; obtain ⟨p, xs, rfl, hp, q⟩ := h.kt
    refine .inr (.inl ⟨xs, .inr hp, ?_⟩)
    cases q <;> rfl
  | lst ds =>
    cases hb; obtain ⟨p, xs, rfl, hp, q⟩ := h.lst
    refine .inl ⟨xs, SqL.of hp, ?_⟩
    cases q <;> rfl
  | dk ks ds =>
    cases hb; obtain ⟨p, xs, rfl, hp, l, q⟩ := h.dk
    refine .inr (.inr ⟨_, hp, ?_⟩)
    cases ks with
    | nil => rfl
    | cons k ks =>
      cases xs with
      | nil => cases l
      | cons x xs => rfl
  | dt ks ds => cases hb
  | scr ns => cases hb
theorem tT_truth {m : M Od} {Q : Bool → Hp → Prop} (q : tT F (truth m) σ H Q) : tE F m σ H fun x H' => ∃ k, TruV F.K x H' k ∧ Q k H' := by
  obtain ⟨e, S, r, q⟩ := q
  refine ⟨e, S, r, ?_⟩
  simp only [truth, bnd] at q
  cases h1 : m e with
  | bad => rw [h1] at q; exact q
  | err x => rw [h1] at q; exact q
  | ok oa e1 =>
    simp only [h1] at q
    refine fun v H1 S1 r1 t1 k1 => ?_
    split at q
    · rename_i b e3 hm
      split at hm
      · rename_i b' hx; cases hm
        cases hr : res oa e1 with
        | none => rw [hr] at hx; cases hx
        | some d =>
          rw [hr] at hx
          exact ⟨_, truV_ok (res_ok r1 k1 hr) hx, q H1 S1 r1 t1⟩
      · cases hm
    · rename_i hm; split at hm <;> cases hm
    · exact q.elim
theorem bnd_ok {α β : Type} {m : M α} {k : α → M β} {a : α} (h : m e = .ok a e1) : bnd m k e = k a e1 := by simp only [bnd, h]
theorem bnd_err {α β : Type} {m : M α} {k : α → M β} {x : Exn} (h : m e = .err x) : bnd m k e = .err x := by simp only [bnd, h]
theorem bnd_bad {α β : Type} {m : M α} {k : α → M β} (h : m e = .bad) : bnd m k e = .bad := by simp only [bnd, h]
end

section
variable {X : Cx} {F : Fx} {a b c : Expr} {ma mb mc : M Od} {ta tb : M Bool} {rest : List Expr} {pos : Pos}
theorem dt_cmp {op : CmpOp} {r : R2} {g : D → D → Option Od} (ho : OpR X (compareOp op) r) (hs : OpS F r g) (ha : PE X a (tE F ma)) (hb : PE X b (tE F mb)) (hm : behindInMarks op b = false) : PT X (.Compare a [op] [b] pos) (tT F (tst (bin2 g ma mb))) :=
  pt_weak (pt_cmpR ho ha hb hm) fun σ H Q q => tE_bin hs σ H _ (tT_tst q)
theorem de_cmp {op : CmpOp} {r : R2} {g : D → D → Option Od} (ho : OpR X (compareOp op) r) (hs : OpS F r g) (ha : PE X a (tE F ma)) (hb : PE X b (tE F mb)) (hm : behindInMarks op b = false) : PE X (.Compare a [op] [b] pos) (tE F (bin2 g ma mb)) :=
  pe_weak (pe_cmpR ho ha hb hm) fun σ H Q q => tE_bin hs σ H _ q
theorem dt_truth (hK : F.K = X.K) (ha : PE X a (tE F ma)) (he : ∀ whole, isTrue a X.env whole = (do let v ← whole; standAt a.pos; holding [v] (truthy v)) := by intro _; rfl) : PT X a (tT F (truth ma)) :=
  pt_weak (pt_truth ha he) fun σ H Q q => by rw [← hK]; exact tT_truth q
theorem dt_not (ha : PT X a (tT F ta)) : PT X (.UnaryOp .Not a pos) (tT F (notT ta)) := by
  refine pt_weak (pt_not ha) fun σ H Q q => ?_
  obtain ⟨e, S, r, q⟩ := q
  refine ⟨e, S, r, ?_⟩
  unfold notT bnd at q
  cases h1 : ta e with
  | bad => rw [h1] at q; exact q
  | err x => rw [h1] at q; exact q
  | ok c e1 => simp only [h1] at q; exact q
theorem dw_and1 (ha : PT X a (tT F ta)) : PW X (.BoolOp .And [a] pos) (tT F ta) := pw_and1 ha
theorem dw_or1 (ha : PT X a (tT F ta)) : PW X (.BoolOp .Or [a] pos) (tT F ta) := pw_or1 ha
theorem dw_and (ha : PT X a (tT F ta)) (hb : PW X (.BoolOp .And (b :: rest) pos) (tT F tb)) : PW X (.BoolOp .And (a :: b :: rest) pos) (tT F (andT ta tb)) := by
  refine pw_weak (pw_and ha hb) fun σ H Q q => ?_
  obtain ⟨e, S, r, q⟩ := q
  refine ⟨e, S, r, ?_⟩
  unfold andT bnd at q
  cases h1 : ta e with
  | bad => rw [h1] at q; exact q
  | err x => rw [h1] at q; exact q
  | ok c e1 =>
    simp only [h1] at q
    refine fun H1 S1 r1 t1 => ?_
    cases c with
    | true =>
      rw [if_pos rfl]
      refine ⟨e1, S1, r1, ?_⟩
      rw [if_pos rfl] at q
      cases h2 : tb e1 with
      | bad => rw [h2] at q; exact q
      | err x => rw [h2] at q; exact q
      | ok d e2 => simp only [h2] at q; exact fun H2 S2 r2 t2 => q H2 S2 r2 (t1.trans t2)
    | false =>
      rw [if_neg Bool.false_ne_true]
      exact q H1 S1 r1 t1
theorem dw_or (ha : PT X a (tT F ta)) (hb : PW X (.BoolOp .Or (b :: rest) pos) (tT F tb)) : PW X (.BoolOp .Or (a :: b :: rest) pos) (tT F (orT ta tb)) := by
  refine pw_weak (pw_or ha hb) fun σ H Q q => ?_
  obtain ⟨e, S, r, q⟩ := q
  refine ⟨e, S, r, ?_⟩
  unfold orT bnd at q
  cases h1 : ta e with
  | bad => rw [h1] at q; exact q
  | err x => rw [h1] at q; exact q
  | ok c e1 =>
    simp only [h1] at q
    refine fun H1 S1 r1 t1 => ?_
    cases c with
    | false =>
      rw [if_neg Bool.false_ne_true]
      refine ⟨e1, S1, r1, ?_⟩
      rw [if_neg Bool.false_ne_true] at q
      cases h2 : tb e1 with
      | bad => rw [h2] at q; exact q
      | err x => rw [h2] at q; exact q
      | ok d e2 => simp only [h2] at q; exact fun H2 S2 r2 t2 => q H2 S2 r2 (t1.trans t2)
    | true =>
      rw [if_pos rfl]
      exact q H1 S1 r1 t1
theorem dt_pw {ex : Expr} (h : PW X ex (tT F ta)) : PT X ex (tT F ta) := h.pt
theorem de_one {op} (h : PE X a (tE F ma)) : PE X (.BoolOp op [a] pos) (tE F ma) := pe_one h
theorem de_and (ha : PE X a (tE F ma)) (hb : PE X (.BoolOp .And (b :: rest) pos) (tE F mb)) : PE X (.BoolOp .And (a :: b :: rest) pos) (tE F (andV ma mb)) := by
  refine pe_weak (pe_and ha hb) fun σ H Q q => ?_
  obtain ⟨e, S, r, q⟩ := q
  refine ⟨e, S, r, ?_⟩
  simp only [andV, bnd] at q
  cases h1 : ma e with
  | bad => rw [h1] at q; exact q
  | err x => rw [h1] at q; exact q
  | ok oa e1 =>
    simp only [h1] at q
    refine fun v H1 S1 r1 t1 k1 => ?_
    cases hr : res oa e1 with
    | none => rw [hr] at q; exact q.elim
    | some d =>
      rw [hr] at q
      cases d with
      | bl c =>
        cases (res_ok r1 k1 hr).bl
        cases c with
        | true =>
          refine ⟨true, rfl, ?_⟩
          rw [if_pos rfl]
          refine ⟨e1, S1, r1, ?_⟩
          simp only at q
          cases h2 : mb e1 with
          | bad => rw [h2] at q; exact q
          | err x => rw [h2] at q; exact q
          | ok d e2 => simp only [h2] at q; exact fun w H2 S2 r2 t2 k2 => q w H2 S2 r2 (t1.trans t2) (k2.back t1.mono)
        | false =>
          refine ⟨false, rfl, ?_⟩
          rw [if_neg Bool.false_ne_true]
          exact q _ H1 S1 r1 t1 (.bl false)
      | _ => exact q.elim
theorem de_or (ha : PE X a (tE F ma)) (hb : PE X (.BoolOp .Or (b :: rest) pos) (tE F mb)) : PE X (.BoolOp .Or (a :: b :: rest) pos) (tE F (orV ma mb)) := by
  refine pe_weak (pe_or ha hb) fun σ H Q q => ?_
  obtain ⟨e, S, r, q⟩ := q
  refine ⟨e, S, r, ?_⟩
  simp only [orV, bnd] at q
  cases h1 : ma e with
  | bad => rw [h1] at q; exact q
  | err x => rw [h1] at q; exact q
  | ok oa e1 =>
    simp only [h1] at q
    refine fun v H1 S1 r1 t1 k1 => ?_
    cases hr : res oa e1 with
    | none => rw [hr] at q; exact q.elim
    | some d =>
      rw [hr] at q
      cases d with
      | bl c =>
        cases (res_ok r1 k1 hr).bl
        cases c with
        | false =>
          refine ⟨false, rfl, ?_⟩
          rw [if_neg Bool.false_ne_true]
          refine ⟨e1, S1, r1, ?_⟩
          simp only at q
          cases h2 : mb e1 with
          | bad => rw [h2] at q; exact q
          | err x => rw [h2] at q; exact q
          | ok d e2 => simp only [h2] at q; exact fun w H2 S2 r2 t2 k2 => q w H2 S2 r2 (t1.trans t2) (k2.back t1.mono)
        | true =>
          refine ⟨true, rfl, ?_⟩
          rw [if_pos rfl]
          exact q _ H1 S1 r1 t1 (.bl true)
      | _ => exact q.elim
theorem de_not (ha : PE X a (tE F ma)) : PE X (.UnaryOp .Not a pos) (tE F (notV ma)) := by
  refine pe_weak (pe_not ha) fun σ H Q q => ?_
  obtain ⟨e, S, r, q⟩ := q
  refine ⟨e, S, r, ?_⟩
  simp only [notV, bnd] at q
  cases h1 : ma e with
  | bad => rw [h1] at q; exact q
  | err x => rw [h1] at q; exact q
  | ok oa e1 =>
    simp only [h1] at q
    refine fun v H1 S1 r1 t1 k1 => ?_
    cases hr : res oa e1 with
    | none => rw [hr] at q; exact q.elim
    | some d =>
      rw [hr] at q
      cases d with
      | bl c => cases (res_ok r1 k1 hr).bl; exact ⟨c, rfl, q _ H1 S1 r1 t1 (.bl _)⟩
      | _ => exact q.elim
theorem de_if {tc : M Bool} (hc : PT X c (tT F tc)) (ha : PE X a (tE F ma)) (hb : PE X b (tE F mb)) : PE X (.IfExp c a b pos) (tE F (ifE tc ma mb)) := by
  refine pe_weak (pe_ifExp hc ha hb) fun σ H Q q => ?_
  obtain ⟨e, S, r, q⟩ := q
  refine ⟨e, S, r, ?_⟩
  simp only [ifE, bnd] at q
  cases h1 : tc e with
  | bad => rw [h1] at q; exact q
  | err x => rw [h1] at q; exact q
  | ok k e1 =>
    simp only [h1] at q
    refine fun H1 S1 r1 t1 => ?_
    cases k with
    | true =>
      rw [if_pos rfl] at q ⊢
      refine ⟨e1, S1, r1, ?_⟩
      cases h2 : ma e1 with
      | bad => rw [h2] at q; exact q
      | err x => rw [h2] at q; exact q
      | ok d e2 => simp only [h2] at q; exact fun w H2 S2 r2 t2 k2 => q w H2 S2 r2 (t1.trans t2) (k2.back t1.mono)
    | false =>
      rw [if_neg Bool.false_ne_true] at q ⊢
      refine ⟨e1, S1, r1, ?_⟩
      cases h2 : mb e1 with
      | bad => rw [h2] at q; exact q
      | err x => rw [h2] at q; exact q
      | ok d e2 => simp only [h2] at q; exact fun w H2 S2 r2 t2 k2 => q w H2 S2 r2 (t1.trans t2) (k2.back t1.mono)
theorem tE_chain {r r' : R2} {g g' : D → D → Option Od} (hs : OpS F r g) (hs' : OpS F r' g') (σ : St) (H : Hp) (Q : VK) (q : tE F (chain g g' ma mb mc) σ H Q) : tChain r r' (tE F ma) (tE F mb) (tE F mc) σ H Q := by
  obtain ⟨e, S, r0, q⟩ := q
  refine ⟨e, S, r0, ?_⟩
  simp only [chain, bnd] at q
  cases h1 : ma e with
  | bad => rw [h1] at q; exact q
  | err x => rw [h1] at q; exact q
  | ok oa e1 =>
    simp only [h1] at q
    refine fun v H1 S1 r1 t1 k1 => ?_
    obtain ⟨S1', r1', t1', p1⟩ := k1.pin r1 t1
    refine ⟨e1, S1', r1', ?_⟩
    cases h2 : mb e1 with
    | bad => rw [h2] at q; exact q
    | err x => rw [h2] at q; exact q
    | ok ob e2 =>
      simp only [h2] at q
      refine fun u H2 S2 r2 t2 k2 => ?_
      obtain ⟨S2', r2', t2', p2⟩ := k2.pin r2 t2
      cases h3 : app2 g oa ob e2 with
      | bad => rw [h3] at q; exact q.elim
      | err x =>
        exfalso
        unfold app2 at h3
        split at h3
        · split at h3 <;> cases h3
        · cases h3
      | ok o e3 =>
        simp only [h3] at q
        unfold app2 at h3
        split at h3
        · rename_i x y hx hy
          split at h3
          · rename_i o' hg
            cases h3
            refine hs e2 S2' σ H2 v u x y o _ r2' (pin_res r1' p1 t2' r2' hx) (pin_res r2' p2 (.refl _ _ _ _) r2' hy) hg fun w H3 S3 r3 t3 k3 => ?_
            have tt : Stp e S σ H e2 S3 H3 := (t1'.trans t2').trans t3
            cases o with
            | f _ => exact q.elim
            | s _ => exact q.elim
            | d dd =>
            cases dd with
            | bl cc =>
              have k3 : Rep F.K S3 H3 w (.bl cc) := k3
              cases k3
              cases cc with
              | true =>
                refine ⟨true, rfl, ?_⟩
                rw [if_pos rfl]
                refine ⟨e2, S3, r3, ?_⟩
                simp only [bnd] at q
                cases h4 : mc e2 with
                | bad => rw [h4] at q; exact q
                | err x => rw [h4] at q; exact q
                | ok oc e4 =>
                  simp only [h4] at q
                  refine fun w H4 S4 r4 t4 k4 => ?_
                  unfold app2 at q
                  split at q
                  · rename_i oo e5 hm
                    split at hm
                    · rename_i x' y' hx' hy'
                      split at hm
                      · rename_i o2 hg'
                        cases hm
                        refine hs' e4 S4 σ H4 u w x' y' oo _ r4 (pin_res r2' p2 (t3.trans t4) r4 hx') (res_ok r4 k4 hy') hg' fun w' H5 S5 r5 t5 k5 => ?_
                        exact q w' H5 S5 r5 ((tt.trans t4).trans t5) (k5.back (tt.trans t4).mono)
                      · cases hm
                    · cases hm
                  · rename_i hm; split at hm
                    · split at hm <;> cases hm
                    · cases hm
                  · exact q.elim
              | false =>
                refine ⟨false, rfl, ?_⟩
                rw [if_neg Bool.false_ne_true]
                exact q _ H3 S3 r3 tt (.bl false)
            | _ => exact q.elim
          · cases h3
        · cases h3
theorem de_chain {op op' : CmpOp} {r r' : R2} {g g' : D → D → Option Od} (ho : OpR X (compareOp op) r) (ho' : OpR X (compareOp op') r') (hs : OpS F r g) (hs' : OpS F r' g') (ha : PE X a (tE F ma)) (hb : PE X b (tE F mb)) (hc : PE X c (tE F mc))
    (hm : lastMarks [op, op'] [b, c] = false := by with_unfolding_all rfl) : PE X (.Compare a [op, op'] [b, c] pos) (tE F (chain g g' ma mb mc)) :=
  pe_weak (pe_chain ho ho' ha hb hc hm) fun σ H Q q => tE_chain hs hs' σ H Q q
theorem dt_chain {op op' : CmpOp} {r r' : R2} {g g' : D → D → Option Od} (ho : OpR X (compareOp op) r) (ho' : OpR X (compareOp op') r') (hs : OpS F r g) (hs' : OpS F r' g') (ha : PE X a (tE F ma)) (hb : PE X b (tE F mb)) (hc : PE X c (tE F mc))
    (hm : lastMarks [op, op'] [b, c] = false := by with_unfolding_all rfl) : PT X (.Compare a [op, op'] [b, c] pos) (tT F (tst (chain g g' ma mb mc))) :=
  pt_weak (pt_chain ho ho' ha hb hc hm) fun σ H Q q => tE_chain hs hs' σ H _ (tT_tst q)
end

def pinO : Od → Od
  | .f x => .d x
  | o => o
def nilA : M (List Od) := fun e => .ok [] e
def consA (m : M Od) (ms : M (List Od)) : M (List Od) := bnd m fun o => bnd ms fun os e => .ok (pinO o :: os) e
def resS : List Od → Env → Option (List D)
  | [], _ => some []
  | o :: os, e => match res o e, resS os e with
    | some x, some xs => some (x :: xs)
    | _, _ => none
inductive RepTs (K : PySem.W.Frag) (S : Addr → Prop) (H : Hp) : List V → List D → Prop
  | nil : RepTs K S H [] []
  | cons {v : V} {vs : List V} {d : D} {ds : List D} : RepT K S H v d → RepTs K S H vs ds → RepTs K S H (v :: vs) (d :: ds)
section
variable {F : Fx} {e e1 e2 : Env} {S S1 S2 : Addr → Prop} {σ : St} {H H1 H2 : Hp} {v : V} {o : Od} {x : D}
theorem OdsOk.kp (k : Kp S H S1 H1) : ∀ {vs : List V} {os : List Od}, OdsOk F S σ H vs os → OdsOk F S1 σ H1 vs os
  | _, _, .nil => .nil
  | _, _, .d r t => .d (r.kp k) (OdsOk.kp k t)
  | _, _, .s r t => .s r (OdsOk.kp k t)
theorem resS_ok (r : R F e S σ H) : ∀ {vs : List V} {os : List Od} {xs : List D}, OdsOk F S σ H vs os → resS os e = some xs → RepTs F.K S H vs xs
  | _, _, _, .nil, h => by cases h; exact .nil
  | _, _, _, .d (x := x) (os := os) q t, h => by
    simp only [resS] at h
    split at h
    · rename_i y ys h1 h2; cases h; cases h1; exact .cons (.inl q) (resS_ok r t h2)
    · cases h
  | _, _, _, .s (i := i) (os := os) q t, h => by
    simp only [resS] at h
    split at h
    · rename_i y ys h1 h2; cases h; exact .cons (res_ok r (show OdOk F H e S σ H _ (.s i) from q) h1) (resS_ok r t h2)
    · cases h
end
section
variable {X : Cx} {F : Fx} {ex : Expr} {es : List Expr} {m : M Od} {ms : M (List Od)}
theorem da_nil : PA X [] (tA F nilA) := pa_weak pa_nil fun σ H Q ⟨e, S, r, q⟩ => q [] H S r (.refl _ _ _ _) .nil
theorem da_cons (ha : PE X ex (tE F m)) (hr : PA X es (tA F ms)) (hs : starEach (ex :: es) X.env = (false, eval ex X.env) :: starEach es X.env := by rfl) : PA X (ex :: es) (tA F (consA m ms)) := by
  refine pa_weak (pa_cons ha hr hs) fun σ H Q q => ?_
  obtain ⟨e, S, r, q⟩ := q
  refine ⟨e, S, r, ?_⟩
  simp only [consA, bnd] at q
  cases h1 : m e with
  | bad => rw [h1] at q; exact q
  | err x => rw [h1] at q; exact q
  | ok oa e1 =>
    simp only [h1] at q
    refine fun v H1 S1 r1 t1 k1 => ?_
    obtain ⟨S1', r1', t1', p1⟩ := k1.pin r1 t1
    refine ⟨e1, S1', r1', ?_⟩
    cases h2 : ms e1 with
    | bad => rw [h2] at q; exact q
    | err x => rw [h2] at q; exact q
    | ok os e2 =>
      simp only [h2] at q
      refine fun vs H2 S2 r2 t2 k2 => q (v :: vs) H2 S2 r2 (t1'.trans t2) ?_
      rcases p1 with ⟨y, hy, p1⟩ | ⟨i, rfl, p1⟩
      · have : pinO oa = .d y := by rcases hy with rfl | rfl <;> rfl
        rw [this]; exact .d (p1.kp (r1'.kp t2)) k2
      · exact .s p1 k2
end

def leak1 (o : Od) (e : Env) : Option (D × Env) := match o with
  | .d x => some (x, e)
  | .f x => some (x, e)
  | .s i => match e[i]? with
    | some (.own x) => some (x, e.set i (.val x))
    | some (.val x) => some (x, e)
    | _ => none
def leaks : List Od → Env → Option (List D × Env)
  | [], e => some ([], e)
  | o :: os, e => match leak1 o e with
    | some (x, e1) => (match leaks os e1 with
      | some (xs, e2) => some (x :: xs, e2)
      | none => none)
    | none => none
section
variable {F : Fx} {e e1 e2 : Env} {S S1 S2 : Addr → Prop} {σ : St} {H H1 H2 : Hp} {v : V} {o : Od} {x : D}
theorem held_set {i : Nat} {s : Sl} (hm : ¬ Mine s) {p : Addr} (h : Held (e.set i s) σ p) : Held e σ p ∧ ¬ σ[i]? = some (some (V.ref p)) ∨ (Held e σ p ∧ ∃ j t, j ≠ i ∧ e[j]? = some t ∧ Mine t ∧ σ[j]? = some (some (V.ref p))) := by
  obtain ⟨j, t, h1, m, h2⟩ := h
  by_cases hj : j = i
  · subst hj
    by_cases hl : j < e.length
    · rw [List.getElem?_set_self hl] at h1; cases h1; exact absurd m hm
    · rw [List.getElem?_eq_none (by simpa using hl)] at h1; cases h1
  · rw [List.getElem?_set_ne (Ne.symm hj)] at h1
    exact .inr ⟨⟨j, t, h1, m, h2⟩, j, t, hj, h1, m, h2⟩
theorem R.leak (r : R F e S σ H) {i : Nat} (hi : e[i]? = some (.own x)) : ∃ p, σ[i]? = some (some (.ref p)) ∧ R F (e.set i (.val x)) (fun q => S q ∨ q = p) σ H ∧ Stp e S σ H (e.set i (.val x)) (fun q => S q ∨ q = p) H ∧ Rep F.K (fun q => S q ∨ q = p) H (.ref p) x := by
  obtain ⟨o, ho, p, rfl, ns, h0, t⟩ := r.at hi
  obtain ⟨ob, hob, _⟩ := t.obj
  have hl : i < e.length := (List.getElem?_eq_some_iff.mp hi).1
  have k : Kp S H (fun q => S q ∨ q = p) H := ⟨fun _ z => .inl z, fun _ _ z _ => z⟩
  have hother : ∀ (j : Nat) (s : Sl), j ≠ i → (e.set i (.val x))[j]? = some s → e[j]? = some s := fun j s hj h => by rw [List.getElem?_set_ne (Ne.symm hj)] at h; exact h
  have hself : ∀ (s : Sl), (e.set i (.val x))[i]? = some s → s = .val x := fun s h => by rw [List.getElem?_set_self hl] at h; exact (Option.some.inj h).symm
  refine ⟨p, ho, ⟨by rw [List.length_set]; exact r.len, r.base, fun q h => .inl (r.s0 q h), fun q h => ?_, fun q h => ?_, r.there, fun j s u h1 h2 => ?_, fun j j' s s' q h1 h2 m1 m2 h3 h4 => ?_, fun j d h => ?_⟩, ⟨fun _ h => .inl h, fun q h => ?_, fun _ _ h _ => h, fun q h => ?_, fun _ h => h⟩, t.rep⟩
  · rcases h with h | rfl
    · exact r.s1 q h
    · exact .inr h0
  · rcases h with h | rfl
    · exact r.s2 q h
    · rw [hob]; exact fun z => nomatch z
  · by_cases hj : j = i
    · subst hj
      cases hself s h1
      rw [ho] at h2; cases h2
      exact ⟨_, rfl, t.rep⟩
    · have h1' := hother j s hj h1
      refine (r.sl j s u h1' h2).kp k fun q m z => ⟨rfl, ?_⟩
      subst z
      rintro (z | rfl)
      · exact (r.heldOk ⟨j, s, h1', m, h2⟩).1 z
      · exact hj (r.dis j i s _ _ h1' hi m trivial h2 ho)
  · by_cases hj : j = i
    · subst hj; cases hself s h1; exact m1.elim
    · by_cases hj' : j' = i
      · subst hj'; cases hself s' h2; exact m2.elim
      · exact r.dis j j' s s' q (hother j s hj h1) (hother j' s' hj' h2) m1 m2 h3 h4
  · by_cases hj : j = i
    · subst hj; cases hself _ h
    · exact r.fix j d (hother j _ hj h)
  · rcases held_set (fun z : Mine (.val x) => z.elim) h with ⟨h, _⟩ | ⟨h, _⟩ <;> exact h
  · rcases h with h | rfl
    · exact .inl h
    · exact .inr (.inr ⟨i, _, hi, trivial, ho⟩)
theorem leak1_ok {e0 : Env} {S0 : Addr → Prop} {H0 : Hp} (r : R F e S σ H) (t : Stp e0 S0 σ H0 e S H) (h : OdOk F H0 e S σ H v o) {e1 : Env} (hx : leak1 o e = some (x, e1)) : ∃ S1, R F e1 S1 σ H ∧ Stp e0 S0 σ H0 e1 S1 H ∧ Rep F.K S1 H v x := by
  cases o with
  | d y => cases hx; exact ⟨S, r, t, h⟩
  | f y =>
    cases hx
    obtain ⟨S1, r1, t1, p⟩ := h.pin r t
    rcases p with ⟨y, hy, p⟩ | ⟨i, z, _⟩
    · rcases hy with z | z
      · cases z
      · cases z; exact ⟨S1, r1, t1, p⟩
    · cases z
  | s i =>
    have h : σ[i]? = some (some v) := h
    unfold leak1 at hx
    simp only at hx
    split at hx
    · rename_i y hy; cases hx
      obtain ⟨p, h1, r1, t1, q⟩ := r.leak hy
      rw [h] at h1; cases h1
      exact ⟨_, r1, t.trans t1, q⟩
    · rename_i y hy; cases hx
      obtain ⟨u, e, q⟩ := r.sl i _ _ hy h; cases e; exact ⟨S, r, t, q⟩
    · cases hx
theorem leaks_ok : ∀ {vs : List V} {os : List Od} {e e1 : Env} {S : Addr → Prop} {xs : List D}, R F e S σ H → OdsOk F S σ H vs os → leaks os e = some (xs, e1) → ∃ S1, R F e1 S1 σ H ∧ Stp e S σ H e1 S1 H ∧ Reps F.K S1 H vs xs
  | _, _, e, _, S, _, r, .nil, h => by cases h; exact ⟨S, r, .refl _ _ _ _, .nil⟩
  | _, _, e, _, S, _, r, .d (v := v) (x := x) (os := os) q t, h => by
    simp only [leaks, leak1] at h
    split at h
    · rename_i xs e2 h2; cases h
      obtain ⟨S1, r1, t1, q1⟩ := leaks_ok r t h2
      exact ⟨S1, r1, t1, .cons (q.kp (r.kp t1)) q1⟩
    · cases h
  | _, _, e, _, S, _, r, .s (v := v) (i := i) (os := os) q t, h => by
    simp only [leaks] at h
    split at h
    · rename_i x e1 h1
      obtain ⟨S1, r1, t1, q1⟩ := leak1_ok (v := v) r (.refl _ _ _ _) (show OdOk F H e S σ H v (.s i) from q) h1
      split at h
      · rename_i xs e2 h2; cases h
        obtain ⟨S2, r2, t2, q2⟩ := leaks_ok r1 (t.kp (r.kp t1)) h2
        exact ⟨S2, r2, t1.trans t2, .cons (q1.kp (r1.kp t2)) q2⟩
      · cases h
    · cases h
end

def mkT (ms : M (List Od)) : M Od := bnd ms fun os e => match leaks os e with
  | some (xs, e1) => if xs.length ≤ 16777216 then .ok (.d (.tup xs)) e1 else .bad
  | none => .bad
def mkL (ms : M (List Od)) : M Od := bnd ms fun os e => match leaks os e with
  | some (xs, e1) => if xs.length ≤ 16777216 then .ok (.f (.lst xs)) e1 else .bad
  | none => .bad
section
variable {X : Cx} {F : Fx} {es : List Expr} {ms : M (List Od)} {pos : Pos}
theorem de_tup {x1} (h : PA X es (tA F ms)) : PE X (.Tuple es x1 pos) (tE F (mkT ms)) := by
  refine pe_weak (pe_tup h) fun σ H Q q => ?_
  obtain ⟨e, S, r, q⟩ := q
  refine ⟨e, S, r, ?_⟩
  simp only [mkT, bnd] at q
  cases h1 : ms e with
  | bad => rw [h1] at q; exact q
  | err x => rw [h1] at q; exact q
  | ok os e1 =>
    simp only [h1] at q
    refine fun vs H1 S1 r1 t1 k1 => ?_
    cases hl : leaks os e1 with
    | none => rw [hl] at q; exact q.elim
    | some p =>
      obtain ⟨xs, e2⟩ := p
      simp only [hl] at q
      obtain ⟨S2, r2, t2, q2⟩ := leaks_ok r1 k1 hl
      have l := q2.length
      by_cases hz : xs.length ≤ 16777216
      · rw [if_pos hz] at q
        exact ⟨by rw [line_eq, l]; exact hz, fun p hp => q _ _ S2 (r2.new hp) ((t1.trans t2).trans (.alloc hp)) (fresh_tup hp q2)⟩
      · rw [if_neg hz] at q; exact q.elim
theorem de_lst (h : PA X es (tA F ms)) : PE X (.List es pos) (tE F (mkL ms)) := by
  refine pe_weak (pe_lst h) fun σ H Q q => ?_
  obtain ⟨e, S, r, q⟩ := q
  refine ⟨e, S, r, ?_⟩
  simp only [mkL, bnd] at q
  cases h1 : ms e with
  | bad => rw [h1] at q; exact q
  | err x => rw [h1] at q; exact q
  | ok os e1 =>
    simp only [h1] at q
    refine fun vs H1 S1 r1 t1 k1 => ?_
    cases hl : leaks os e1 with
    | none => rw [hl] at q; exact q.elim
    | some p =>
      obtain ⟨xs, e2⟩ := p
      simp only [hl] at q
      obtain ⟨S2, r2, t2, q2⟩ := leaks_ok r1 k1 hl
      have l := q2.length
      by_cases hz : xs.length ≤ 16777216
      · rw [if_pos hz] at q
        exact ⟨by rw [line_eq, l]; exact hz, fun p hp => q _ _ S2 (r2.new hp) ((t1.trans t2).trans (.alloc hp)) ((fresh_lst r2 hp q2).back (t1.trans t2).mono)⟩
      · rw [if_neg hz] at q; exact q.elim
end

def appA (g : List D → Option Od) (os : List Od) : M Od := fun e => match resS os e with
  | some xs => (match g xs with
    | some o => .ok o e
    | none => .bad)
  | none => .bad
def callB (g : List D → Option Od) (ms : M (List Od)) : M Od := bnd ms fun os => appA g os
def CallS (F : Fx) (r : List V → Hp → VK → Prop) (g : List D → Option Od) : Prop := ∀ (e : Env) (S : Addr → Prop) (σ : St) (H : Hp) (vs : List V) (xs : List D) (o : Od) (Q : VK), R F e S σ H → RepTs F.K S H vs xs → g xs = some o →
  (∀ w H1 S1, R F e S1 σ H1 → Stp e S σ H e S1 H1 → OdOk F H e S1 σ H1 w o → Q w H1) → r vs H Q
section
variable {F : Fx}
theorem tE_call {r : List V → Hp → VK → Prop} {g : List D → Option Od} (h : CallS F r g) {ms : M (List Od)} (σ : St) (H : Hp) (Q : VK) (q : tE F (callB g ms) σ H Q) : tCB r (tA F ms) σ H Q := by
  obtain ⟨e, S, r0, q⟩ := q
  refine ⟨e, S, r0, ?_⟩
  simp only [callB, bnd] at q
  cases h1 : ms e with
  | bad => rw [h1] at q; exact q
  | err x => rw [h1] at q; exact q
  | ok os e1 =>
    simp only [h1] at q
    refine fun vs H1 S1 r1 t1 k1 => ?_
    unfold appA at q
    cases hr : resS os e1 with
    | none => rw [hr] at q; exact q.elim
    | some xs =>
      simp only [hr] at q
      cases hg : g xs with
      | none => rw [hg] at q; exact q.elim
      | some o =>
        simp only [hg] at q
        exact h e1 S1 σ H1 vs xs o _ r1 (resS_ok r1 k1 hr) hg fun w H3 S3 r3 t3 k3 => q w H3 S3 r3 (t1.trans t3) (k3.back t1.mono)
end
def seqD : D → Option (List D)
  | .lst ds => some ds
  | .tup ds => some ds
  | .kt ds => some ds
  | _ => none
def gLen : List D → Option Od
  | [.lst ds] => some (.d (.int ds.length))
  | [.tup ds] => some (.d (.int ds.length))
  | [.kt ds] => some (.d (.int ds.length))
  | [.str x] => if x.length ≤ 16777216 then some (.d (.int x.length)) else none
  | _ => none
def gAbs : List D → Option Od
  | [.int i] => some (.d (.int (if i < 0 then -i else i)))
  | _ => none
def gInt : List D → Option Od
  | [.int i] => some (.d (.int i))
  | [.bl b] => some (.d (.int (if b then 1 else 0)))
  | _ => none
def gMax2 : List D → Option Od
  | [.int i, .int j] => some (.d (.int (if j > i then j else i)))
  | _ => none
def gMin2 : List D → Option Od
  | [.int i, .int j] => some (.d (.int (if j < i then j else i)))
  | _ => none
def gList : List D → Option Od
  | [.lst ds] => some (.f (.lst ds))
  | [.tup ds] => some (.f (.lst ds))
  | [.kt ds] => some (.f (.lst ds))
  | [.scr ns] => some (.f (.lst (ns.map D.int)))
  | _ => none
def gTuple : List D → Option Od
  | [.lst ds] => some (.d (.tup ds))
  | [.tup ds] => some (.d (.tup ds))
  | _ => none
def gSum : List D → Option Od
  | [.lst ds] => (intsOf ds).map fun ns => .d (.int ns.sum)
  | _ => none
def blsOf : List D → Option (List Bool)
  | [] => some []
  | .bl i :: ds => (blsOf ds).map (i :: ·)
  | _ :: _ => none
def gAll : List D → Option Od
  | [.lst ds] => (blsOf ds).map fun ns => .d (.bl (ns.all id))
  | _ => none
def gAny : List D → Option Od
  | [.lst ds] => (blsOf ds).map fun ns => .d (.bl (ns.any id))
  | _ => none
theorem bls_eq : ∀ {ds : List D} {ns : List Bool}, blsOf ds = some ns → ds = ns.map D.bl
  | [], _, h => by cases h; rfl
  | .bl i :: ds, ns, h => by
    simp only [blsOf, Option.map_eq_some_iff] at h
    obtain ⟨ms, h1, rfl⟩ := h
    rw [bls_eq h1]; rfl
  | .non :: _, _, h => by cases h
  | .int _ :: _, _, h => by cases h
  | .str _ :: _, _, h => by cases h
  | .tup _ :: _, _, h => by cases h
  | .lst _ :: _, _, h => by cases h
  | .dk _ _ :: _, _, h => by cases h
  | .dt _ _ :: _, _, h => by cases h
  | .scr _ :: _, _, h => by cases h
  | .kt _ :: _, _, h => by cases h
theorem bls_map (ns : List Bool) : blsOf (ns.map D.bl) = some ns := by
  induction ns with
  | nil => rfl
  | cons n ns ih => simp [blsOf, ih]
def gIsi (T : String) : D → Option Bool
  | .non => some (false)
  | .bl _ => some (T == "bool" || T == "int")
  | .int _ => some (T == "int")
  | .str _ => some (T == "str")
  | .tup _ => some (T == "tuple")
  | .kt _ => some (T == "tuple")
  | .lst _ => some (T == "list")
  | .dk _ _ => some (T == "dict")
  | .dt _ _ => some (T == "dict")
  | .scr _ => some (T == "list")
section
variable {F : Fx} {S : Addr → Prop} {H : Hp}
theorem RepTs.one {K : PySem.W.Frag} {vs : List V} {x : D} (h : RepTs K S H vs [x]) : ∃ v, vs = [v] ∧ RepT K S H v x := by
  cases h with
  | cons a b => cases b; exact ⟨_, rfl, a⟩
theorem RepTs.two {K : PySem.W.Frag} {vs : List V} {x y : D} (h : RepTs K S H vs [x, y]) : ∃ v u, vs = [v, u] ∧ RepT K S H v x ∧ RepT K S H u y := by
  cases h with
  | cons a b => obtain ⟨u, rfl, b'⟩ := b.one; exact ⟨_, u, rfl, a, b'⟩
theorem c_len : CallS F (fun xs H Q => (∃ p ys, xs = [.ref p] ∧ (SqL F.K H p ys ∨ SqT F.K H p ys) ∧ Q (.int ys.length) H) ∨ ∃ z, xs = [.str z] ∧ z.length ≤ sizeLine ∧ Q (.int z.length) H) gLen := by
  intro e S σ H vs xs o Q r rs hg k
  unfold gLen at hg
  split at hg
  · cases hg; obtain ⟨v, rfl, rx⟩ := rs.one
    obtain ⟨p, ys, rfl, hp, q⟩ := rx.lst
    exact .inl ⟨p, ys, rfl, .inl (SqL.of hp), by rw [q.length]; exact k _ H S r (.refl _ _ _ _) (.int _)⟩
  · cases hg; obtain ⟨v, rfl, rx⟩ := rs.one
    obtain ⟨p, ys, rfl, hp, q⟩ := rx.tup
    exact .inl ⟨p, ys, rfl, .inr (SqT.of hp), by rw [q.length]; exact k _ H S r (.refl _ _ _ _) (.int _)⟩
  · cases hg; obtain ⟨v, rfl, rx⟩ := rs.one
    obtain ⟨p, ys, rfl, hp, q⟩ := rx.kt
    exact .inl ⟨p, ys, rfl, .inr (.inr hp), by rw [q.length]; exact k _ H S r (.refl _ _ _ _) (.int _)⟩
  · split at hg
    · rename_i hz; cases hg; obtain ⟨v, rfl, rx⟩ := rs.one
      cases rx.str
      exact .inr ⟨_, rfl, by rw [line_eq]; exact hz, k _ H S r (.refl _ _ _ _) (.int _)⟩
    · cases hg
  · cases hg
theorem c_abs : CallS F (fun xs H Q => ∃ i, xs = [.int i] ∧ Q (.int (if i < 0 then -i else i)) H) gAbs := by
  intro e S σ H vs xs o Q r rs hg k
  unfold gAbs at hg
  split at hg
  · cases hg; obtain ⟨v, rfl, rx⟩ := rs.one; cases rx.int
    exact ⟨_, rfl, k _ H S r (.refl _ _ _ _) (.int _)⟩
  · cases hg
theorem c_int : CallS F (fun xs H Q => (∃ i, xs = [.int i] ∧ Q (.int i) H) ∨ ∃ k, xs = [.bl k] ∧ Q (.int (if k then 1 else 0)) H) gInt := by
  intro e S σ H vs xs o Q r rs hg k
  unfold gInt at hg
  split at hg
  · cases hg; obtain ⟨v, rfl, rx⟩ := rs.one; cases rx.int
    exact .inl ⟨_, rfl, k _ H S r (.refl _ _ _ _) (.int _)⟩
  · cases hg; obtain ⟨v, rfl, rx⟩ := rs.one; cases rx.bl
    exact .inr ⟨_, rfl, k _ H S r (.refl _ _ _ _) (.int _)⟩
  · cases hg
theorem c_max2 : CallS F (fun xs H Q => ∃ i j, xs = [.int i, .int j] ∧ Q (.int (if j > i then j else i)) H) gMax2 := by
  intro e S σ H vs xs o Q r rs hg k
  unfold gMax2 at hg
  split at hg
  · cases hg; obtain ⟨v, u, rfl, rx, ry⟩ := rs.two; cases rx.int; cases ry.int
    exact ⟨_, _, rfl, k _ H S r (.refl _ _ _ _) (.int _)⟩
  · cases hg
theorem c_min2 : CallS F (fun xs H Q => ∃ i j, xs = [.int i, .int j] ∧ Q (.int (if j < i then j else i)) H) gMin2 := by
  intro e S σ H vs xs o Q r rs hg k
  unfold gMin2 at hg
  split at hg
  · cases hg; obtain ⟨v, u, rfl, rx, ry⟩ := rs.two; cases rx.int; cases ry.int
    exact ⟨_, _, rfl, k _ H S r (.refl _ _ _ _) (.int _)⟩
  · cases hg
theorem c_list : CallS F (fun xs H Q => ∃ p ys, xs = [.ref p] ∧ (SqL F.K H p ys ∨ SqT F.K H p ys) ∧ ∀ l, H l = none → Q (.ref l) (upd H l (.lst ys))) gList := by
  intro e S σ H vs xs o Q r rs hg k
  unfold gList at hg
  split at hg
  · cases hg; obtain ⟨v, rfl, rx⟩ := rs.one
    obtain ⟨p, ys, rfl, hp, q⟩ := rx.lst
    exact ⟨p, ys, rfl, .inl (SqL.of hp), fun l hl => k _ _ S (r.new hl) (.alloc hl) (fresh_lst r hl q)⟩
  · cases hg; obtain ⟨v, rfl, rx⟩ := rs.one
    obtain ⟨p, ys, rfl, hp, q⟩ := rx.tup
    exact ⟨p, ys, rfl, .inr (SqT.of hp), fun l hl => k _ _ S (r.new hl) (.alloc hl) (fresh_lst r hl q)⟩
  · cases hg; obtain ⟨v, rfl, rx⟩ := rs.one
    obtain ⟨p, ys, rfl, hp, q⟩ := rx.kt
    exact ⟨p, ys, rfl, .inr (.inr hp), fun l hl => k _ _ S (r.new hl) (.alloc hl) (fresh_lst r hl q)⟩
  · cases hg; obtain ⟨v, rfl, rx⟩ := rs.one
    obtain ⟨p, rfl, hp⟩ := rx.scr
    exact ⟨p, _, rfl, .inl (hp.imp (fun ⟨ob, hp⟩ => .inr ⟨ob, hp⟩) id), fun l hl => k _ _ S (r.new hl) (.alloc hl) (fresh_lst r hl (reps_ints _))⟩
  · cases hg
theorem c_tuple : CallS F (fun xs H Q => ∃ p ys, xs = [.ref p] ∧ ((SqL F.K H p ys ∧ ∀ l, H l = none → Q (.ref l) (upd H l (.tup ys))) ∨ (SqT F.K H p ys ∧ Q (.ref p) H))) gTuple := by
  intro e S σ H vs xs o Q r rs hg k
  unfold gTuple at hg
  split at hg
  · cases hg; obtain ⟨v, rfl, rx⟩ := rs.one
    obtain ⟨p, ys, rfl, hp, q⟩ := rx.lst
    exact ⟨p, ys, rfl, .inl ⟨SqL.of hp, fun l hl => k _ _ S (r.new hl) (.alloc hl) (fresh_tup hl q)⟩⟩
  · cases hg; obtain ⟨v, rfl, rx⟩ := rs.one
    obtain ⟨p, ys, rfl, hp, q⟩ := rx.tup
    exact ⟨p, ys, rfl, .inr ⟨SqT.of hp, k _ H S r (.refl _ _ _ _) (.tup hp q)⟩⟩
  · cases hg
theorem c_sum : CallS F (rSum F.K) gSum := by
  intro e S σ H vs xs o Q r rs hg k
  unfold gSum at hg
  split at hg
  · simp only [Option.map_eq_some_iff] at hg
    obtain ⟨ns, h1, rfl⟩ := hg
    obtain ⟨v, rfl, rx⟩ := rs.one
    cases ints_eq h1
    obtain ⟨p, ys, rfl, hp, q⟩ := rx.lst
    cases q.ints
    exact ⟨p, ns, rfl, SqL.of hp, k _ H S r (.refl _ _ _ _) (.int _)⟩
  · cases hg
theorem c_all : CallS F (rAll F.K) gAll := by
  intro e S σ H vs xs o Q r rs hg k
  unfold gAll at hg
  split at hg
  · simp only [Option.map_eq_some_iff] at hg
    obtain ⟨ns, h1, rfl⟩ := hg
    obtain ⟨v, rfl, rx⟩ := rs.one
    cases bls_eq h1
    obtain ⟨p, ys, rfl, hp, q⟩ := rx.lst
    cases q.bls
    exact ⟨p, ns, rfl, SqL.of hp, k _ H S r (.refl _ _ _ _) (.bl _)⟩
  · cases hg
theorem c_any : CallS F (rAny F.K) gAny := by
  intro e S σ H vs xs o Q r rs hg k
  unfold gAny at hg
  split at hg
  · simp only [Option.map_eq_some_iff] at hg
    obtain ⟨ns, h1, rfl⟩ := hg
    obtain ⟨v, rfl, rx⟩ := rs.one
    cases bls_eq h1
    obtain ⟨p, ys, rfl, hp, q⟩ := rx.lst
    cases q.bls
    exact ⟨p, ns, rfl, SqL.of hp, k _ H S r (.refl _ _ _ _) (.bl _)⟩
  · cases hg
end
def insI (x : Int) : List Int → List Int
  | [] => [x]
  | y :: ys => if x ≤ y then x :: y :: ys else y :: insI x ys
def sortI : List Int → List Int
  | [] => []
  | x :: xs => insI x (sortI xs)
end DL

set_option maxRecDepth 100000
set_option maxHeartbeats 4000000
namespace HT
open PySem PySem.Spec PyProof.Rows L2
section
variable {prog : Program} {w : World} {A : Around} {E : Value → Shared → Prop} {s : Shared}
theorem adjust_rev (n : Nat) : Builtin.Slice.sliceAdjust none none (-1) (n : Int) = ((n : Int) - 1, -1) := by
  unfold Builtin.Slice.sliceAdjust
  simp
theorem places_rev (n : Nat) : Builtin.Slice.slicePlaces ((n : Int) - 1) (-1) (-1) = n := by
  unfold Builtin.Slice.slicePlaces
  have h1 : ¬ ((-1 : Int) > 0) := by omega
  have h2 : (- -1 : Int) = 1 := by decide
  simp only [h1, if_false, h2, Int.ediv_one]
  split <;> omega
theorem sliceApplied_rev {sl : Addr} {vl vu vs : Value} {n : Nat} {Q : Int × Int × Nat → Shared → Prop} (hs : s.heap.IsSliceOf sl vl vu vs) (pl : IsPart vl none) (pu : IsPart vu none) (ps : IsPart vs (some (-1)))
    (h : Q ((n : Int) - 1, -1, n) s) : wpAny (model prog w) A (Builtin.Slice.sliceApplied (.ref sl) (pure (n : Int))) Q E s := by
  obtain ⟨os, hos, hcs, hds⟩ := id hs
  unfold Builtin.Slice.sliceApplied Builtin.Slice.sliceFields
  refine wpAny_bind (wpAny_bind (wpAny_field hos hds (x := vl) rfl (wpAny_bind (wpAny_field hos hds (x := vu) rfl (wpAny_bind (wpAny_field hos hds (x := vs) rfl (wpAny_pure ?_)))))))
  refine wpAny_bind (slicePart_ ps ?_)
  show wpAny _ _ (if ((-1 : Int) == 0) = true then _ else _) _ _ s
  rw [if_neg (by decide)]
  refine wpAny_bind (slicePart_ pl (wpAny_bind (slicePart_ pu (wpAny_bind (wpAny_pure ?_)))))
  show wpAny _ _ (match Builtin.Slice.sliceAdjust none none (-1) (n : Int) with | (lo, hi) => pure (lo, (-1 : Int), Builtin.Slice.slicePlaces lo hi (-1))) _ _ s
  rw [adjust_rev n]
  show wpAny _ _ (pure ((n : Int) - 1, (-1 : Int), Builtin.Slice.slicePlaces ((n : Int) - 1) (-1) (-1))) _ _ s
  rw [places_rev]
  exact wpAny_pure h
theorem pick_rev (xs : Array Value) : ((List.range xs.size).filterMap fun (m : Nat) => xs[((xs.size : Int) - 1 + (m : Int) * (-1)).toNat]?).toArray = xs.toList.reverse.toArray := by
  have e : (fun (m : Nat) => xs[((xs.size : Int) - 1 + (m : Int) * (-1)).toNat]?) = fun m => xs[xs.size - 1 - m]? := by
    funext m
    have : ((xs.size : Int) - 1 + (m : Int) * (-1)).toNat = xs.size - 1 - m := by omega
    rw [this]
  rw [e]
  have := PySem.W.krv_all xs
  have h2 : ((List.range xs.size).map fun k => xs.size - 1 - k).filterMap (xs[·]?) = xs.toList.reverse := by
    rw [PySem.W.krv_range, List.filterMap_reverse, PySem.W.krv_all]
  rw [List.filterMap_map] at h2
  have e2 : ((fun x => xs[x]?) ∘ fun k => xs.size - 1 - k) = fun m => xs[xs.size - 1 - m]? := rfl
  rw [e2] at h2
  rw [h2]
theorem getItem_tuple_rev {t sl : Addr} {items : Array Value} {vl vu vs : Value} {Q : Value → Shared → Prop} (ht : IsTup s.heap t items) (hs : s.heap.IsSliceOf sl vl vu vs) (pl : IsPart vl none) (pu : IsPart vu none) (ps : IsPart vs (some (-1)))
    (h : Q (.ref s.heap.objs.size) { s with heap := s.heap.push { cls := .type "tuple", data := .seq items.toList.reverse.toArray } })
    (hsz : items.size ≤ sizeLine) : wpAny (model prog w) A (getItem (.ref t) (.ref sl)) Q E s := by
  have htake : sizeOk (.seq items.toList.reverse.toArray) := by
    show items.toList.reverse.toArray.size ≤ sizeLine
    rw [List.size_toArray, List.length_reverse, Array.length_toList]
    exact hsz
  obtain ⟨os, hos, hcs, hds⟩ := id hs
  have hTs : s.TypeIs (.ref sl) "slice" := ⟨os, hos, hcs⟩
  unfold getItem
  try with_reducible refine wpAny_holding ?_
  first | refine wpAny_bind (wpAny_pure ?_) | skip
  refine wpAny_bind (wpAny_sequenceKey ht.typeIs (by decide) ?_)
  refine wpAny_bind (wpAny_callSpecial?_slot (name := Str.ofString "__getitem__") ht.typeIs PyProof.Rows.slot_tuple_getitem
    (wpAny_call_entry PyProof.Rows.slot_tuple_getitem ht.typeIs entry_tuple_getitem ?_ (args_tuple_getitem _ _)))
  show wpAny _ _ (Builtin.Tuple.tupleItemsOf (.ref t) >>= _) _ _ s
  refine wpAny_bind (tupleItemsOf_ ht ?_)
  refine wpAny_bind (wpAny_typeOf hTs ?_)
  rw [if_pos (by decide)]
  refine wpAny_bind (sliceApplied_rev hs pl pu ps ?_)
  have hno : ¬ (((items.size : Int) - 1 == 0 && (-1 : Int) == 1 && items.size == items.size) = true) := by
    intro q
    rw [Bool.and_eq_true, Bool.and_eq_true] at q
    exact absurd q.1.2 (by decide)
  show wpAny _ _ (if ((items.size : Int) - 1 == 0 && (-1 : Int) == 1 && items.size == items.size) = true then _ else _) _ _ s
  rw [if_neg hno, pick_rev]
  first
    | exact wpAny_bind (m := Builtin.Tuple.tupleExact _) (wpAny_newObj_type (wpAny_pure ⟨_, rfl, wpAny_pure h⟩) htake)
    | exact wpAny_bind (m := Builtin.Tuple.tupleExact _) (wpAny_newObj_type (wpAny_bind (wpAny_pure (wpAny_pure ⟨_, rfl, wpAny_pure h⟩))) htake)
    | exact wpAny_bind (wpAny_bind (m := Builtin.Tuple.tupleExact _) (wpAny_newObj_type (wpAny_pure (wpAny_pure ⟨_, rfl, wpAny_pure h⟩)) htake))
    | exact wpAny_bind (wpAny_bind (m := Builtin.Tuple.tupleExact _) (wpAny_newObj_type (wpAny_pure ⟨_, rfl, wpAny_pure h⟩) htake))
end
end HT

namespace DL
open PySem PySem.Spec L2
open PyProof.Rows hiding St

def gRev : D → Option Od
  | .lst ds => some (.f (.lst ds.reverse))
  | .tup ds => some (.d (.tup ds.reverse))
  | _ => none
def rRev (K : PySem.W.Frag) : V → Hp → VK → Prop := fun x H1 Q => (∃ a xs, x = .ref a ∧ SqL K H1 a xs ∧ ∀ p, H1 p = none → Q (.ref p) (upd H1 p (.lst xs.reverse))) ∨
  ∃ a xs, x = .ref a ∧ SqT K H1 a xs ∧ ∀ p, H1 p = none → Q (.ref p) (upd H1 p (.tup xs.reverse))
theorem pe_revX {X : Cx} {te : TE} {e : Expr} {k : Nat} {p1 p2 p3 pos : Pos} (he : PE X e te) : PE X (.Subscript e (.Slice none none (some (.UnaryOp .USub (.Constant (.int 1) k p1) p2)) p3) pos) (tUn (rRev X.K) te) := by
  refine ⟨fun pins s σ H Q I h => ?_⟩
  refine Subscript_ (thn (he.run pins s σ H _ I h) fun v s1 ⟨x, H1, I1, r1, q1⟩ => ?_)
  have hst : PO X (some (.UnaryOp .USub (.Constant (.int 1) k p1) p2)) (tPart (tUn (rU fun i => .int (-i)) (tC (.int 1)))) := po_some (pe_un un_neg pe_int)
  refine wpAny_Slice (thn (po_none.run pins s1 σ H1 (fun o H2 => o = none ∧ H2 = H1) I1 ⟨rfl, rfl⟩) fun vl s2 ⟨l, H2, I2, pl, el, e2⟩ => ?_)
  subst el e2
  refine thn (po_none.run pins s2 σ H2 (fun o H3 => o = none ∧ H3 = H2) I2 ⟨rfl, rfl⟩) fun vu s3 ⟨u, H3, I3, pu, eu, e3⟩ => ?_
  subst eu e3
  refine thn (hst.run pins s3 σ H3 (fun o H4 => o = some (-1) ∧ H4 = H3) I3 ⟨1, rfl, -1, rfl, rfl, rfl⟩) fun vs s4 ⟨o, H4, I4, ps, eo, e4⟩ => ?_
  subst eo e4
  have I5 : Inv X pins σ H4 { s4 with heap := s4.heap.push { cls := .type "slice", data := .fields #[vl, vu, vs] } } := I4.kept (t' := s4.toks) fun b ob q => Heap.get?_push_of_some _ q
  rcases q1 with ⟨a, xs, ex, hx, q⟩ | ⟨a, xs, ex, hx, q⟩
  · subst ex
    cases r1
    obtain ⟨its, r, ht, hz⟩ := I5.list hx
    have hlen := r.length
    show wpAny (model X.prog X.w) X.A (subscriptTail e (.Slice none none (some (.UnaryOp .USub (.Constant (.int 1) k p1) p2)) p3) (.ref a) (.ref s4.heap.objs.size)) (EP X pins σ Q) X.xe { s4 with heap := s4.heap.push { cls := .type "slice", data := .fields #[vl, vu, vs] } }
    refine tail_any (ops := [.ref a, .ref s4.heap.objs.size]) ht.isList.typeIs (PySem.slot_list_getitem.lookup) ?_ (by with_unfolding_all rfl)
    refine wpAny_getItem_list_slice ht.isList (Heap.IsSliceOf.new _ vl vu vs) pl pu ps (by decide) ?_ (by rw [List.size_toArray]; omega)
    rw [PySem.W.krv_pick]
    refine ⟨.ref _, _, I5.laid (t' := s4.toks) (o := .lst xs.reverse) (fun b ob q => Heap.get?_push_of_some _ q) (Nat.le_refl _) ?_, rfl, q _ (I5.hok.fresh (Nat.le_refl _))⟩
    exact ⟨by rw [List.length_reverse]; exact hz, _, 0, r.reverse, Heap.get?_push_size _ rfl⟩
  · subst ex
    cases r1
    obtain ⟨its, r, ht, hz⟩ := I5.tuple hx
    have hlen := r.length
    show wpAny (model X.prog X.w) X.A (subscriptTail e (.Slice none none (some (.UnaryOp .USub (.Constant (.int 1) k p1) p2)) p3) (.ref a) (.ref s4.heap.objs.size)) (EP X pins σ Q) X.xe { s4 with heap := s4.heap.push { cls := .type "slice", data := .fields #[vl, vu, vs] } }
    refine tail_any (ops := [.ref a, .ref s4.heap.objs.size]) ht.typeIs PyProof.Rows.slot_tuple_getitem.lookup ?_ (by with_unfolding_all rfl)
    refine HT.getItem_tuple_rev ht (Heap.IsSliceOf.new _ vl vu vs) pl pu ps ?_ (by rw [List.size_toArray]; omega)
    refine ⟨.ref _, _, I5.laid (t' := s4.toks) (o := .tup xs.reverse) (fun b ob q => Heap.get?_push_of_some _ q) (Nat.le_refl _) ?_, rfl, q _ (I5.hok.fresh (Nat.le_refl _))⟩
    exact ⟨by rw [List.length_reverse]; exact hz, _, r.reverse, IsTup.new _ _⟩
theorem s_rev {F : Fx} : UnS F (rRev F.K) gRev := by
  intro e S σ H v x o Q r rx hg k
  unfold gRev at hg
  split at hg
  · cases hg
    obtain ⟨p, xs, rfl, hp, q⟩ := rx.lst
    exact .inl ⟨p, xs, rfl, SqL.of hp, fun w hw => k _ _ S (r.new hw) (.alloc hw) (fresh_lst r hw q.reverse)⟩
  · cases hg
    obtain ⟨p, xs, rfl, hp, q⟩ := rx.tup
    exact .inr ⟨p, xs, rfl, SqT.of hp, fun w hw => k _ _ S (r.new hw) (.alloc hw) (fresh_tup hw q.reverse)⟩
  · cases hg

def chAt (z : Str) (i : Int) : Option Od := (atI z.cps.toList i).map fun c => .d (.str ⟨#[c]⟩)
def gIx : D → D → Option Od
  | .lst ds, .int i => (atI ds i).map .d
  | .tup ds, .int i => (atI ds i).map .d
  | .kt ds, .int i => (atI ds i).map .d
  | .str z, .int i => if z.length ≤ 16777216 then chAt z i else none
  | _, _ => none
theorem atI_rep {K : PySem.W.Frag} {S : Addr → Prop} {H : Hp} {xs : List V} {ds : List D} {i : Int} {d : D} (q : Reps K S H xs ds) (h : atI ds i = some d) : ∃ v, atI xs i = some v ∧ Rep K S H v d := by
  unfold atI at h ⊢
  rw [q.length]
  cases e : ixN ds.length i with
  | none => rw [e] at h; cases h
  | some j =>
    rw [e] at h
    exact q.get h
theorem s_ix {F : Fx} : OpS F (rIx F.K) gIx := by
  intro e S σ H v u x y o Q r rx ry hg k
  unfold gIx at hg
  split at hg
  · simp only [Option.map_eq_some_iff] at hg
    obtain ⟨d, h1, rfl⟩ := hg
    obtain ⟨p, xs, rfl, hp, q⟩ := rx.lst
    cases ry.int
    obtain ⟨w, h2, h3⟩ := atI_rep q h1
    exact .inl ⟨p, xs, _, w, rfl, rfl, SqL.of hp, h2, k _ H S r (.refl _ _ _ _) h3⟩
  · simp only [Option.map_eq_some_iff] at hg
    obtain ⟨d, h1, rfl⟩ := hg
    obtain ⟨p, xs, rfl, hp, q⟩ := rx.tup
    cases ry.int
    obtain ⟨w, h2, h3⟩ := atI_rep q h1
    exact .inr (.inl ⟨p, xs, _, w, rfl, rfl, SqT.of hp, h2, k _ H S r (.refl _ _ _ _) h3⟩)
  · simp only [Option.map_eq_some_iff] at hg
    obtain ⟨d, h1, rfl⟩ := hg
    obtain ⟨p, xs, rfl, hp, q⟩ := rx.kt
    cases ry.int
    obtain ⟨w, h2, h3⟩ := atI_rep q h1
    exact .inr (.inl ⟨p, xs, _, w, rfl, rfl, .inr hp, h2, k _ H S r (.refl _ _ _ _) h3⟩)
  · split at hg
    · rename_i hz
      simp only [chAt, Option.map_eq_some_iff] at hg
      obtain ⟨c, h1, rfl⟩ := hg
      cases rx.str; cases ry.int
      exact .inr (.inr ⟨_, _, c, rfl, rfl, by rw [line_eq]; exact hz, h1, k _ H S r (.refl _ _ _ _) (.str _)⟩)
    · cases hg
  · cases hg
section
variable {X : Cx} {F : Fx} {a b c : Expr} {ma mb mc : M Od} {pos : Pos}
theorem de_ix (hK : F.K = X.K) (ha : PE X a (tE F ma)) (hb : PE X b (tE F mb)) (hs : PlainIx b := by exact fun _ _ => rfl) : PE X (.Subscript a b pos) (tE F (bin2 gIx ma mb)) :=
  pe_weak (pe_ix ix_seq ha hb hs) fun σ H Q q => by rw [← hK]; exact tE_bin s_ix σ H Q q
theorem de_rev (hK : F.K = X.K) {k : Nat} {p1 p2 p3 : Pos} (ha : PE X a (tE F ma)) : PE X (.Subscript a (.Slice none none (some (.UnaryOp .USub (.Constant (.int 1) k p1) p2)) p3) pos) (tE F (un1 gRev ma)) :=
  pe_weak (pe_revX ha) fun σ H Q q => by rw [← hK]; exact tE_un s_rev σ H Q q
end
def tO (F : Fx) (m : M (Option Int)) : TO := fun σ H Q => ∃ e S, R F e S σ H ∧ match m e with
  | .ok i e1 => ∀ H1 S1, R F e1 S1 σ H1 → Stp e S σ H e1 S1 H1 → Q i H1
  | .err x => Acc F x
  | .bad => False
def noP : M (Option Int) := fun e => .ok none e
def someP (m : M Od) : M (Option Int) := bnd m fun o e => match res o e with
  | some (.int i) => .ok (some i) e
  | _ => .bad
def cutD (xs : List D) (lo hi : Option Int) : List D := (xs.drop (HT.sIx xs.length 0 lo)).take (HT.sIx xs.length xs.length hi - HT.sIx xs.length 0 lo)
def gSl (lo hi : Option Int) : D → Option Od
  | .lst ds => some (.f (.lst (cutD ds lo hi)))
  | .tup ds => some (.d (.tup (cutD ds lo hi)))
  | _ => none
def slc (ma : M Od) (ml mh : M (Option Int)) : M Od := bnd ma fun oa => bnd ml fun lo => bnd mh fun hi => app1 (gSl lo hi) oa
section
variable {X : Cx} {F : Fx} {a b c : Expr} {ma mb mc : M Od} {pos p2 : Pos} {lo hi : Option Expr} {ml mh : M (Option Int)}
theorem do_none : PO X none (tO F noP) := ⟨fun pins s σ H Q I ⟨e, S, r, q⟩ => po_none.run pins s σ H Q I (q H S r (.refl _ _ _ _))⟩
theorem do_some (h : PE X a (tE F ma)) : PO X (some a) (tO F (someP ma)) := by
  refine ⟨fun pins s σ H Q I q => (po_some h).run pins s σ H Q I ?_⟩
  obtain ⟨e, S, r, q⟩ := q
  refine ⟨e, S, r, ?_⟩
  simp only [someP, bnd] at q
  cases h1 : ma e with
  | bad => rw [h1] at q; exact q
  | err x => rw [h1] at q; exact q
  | ok oa e1 =>
    simp only [h1] at q
    refine fun v H1 S1 r1 t1 k1 => ?_
    cases hr : res oa e1 with
    | none => rw [hr] at q; exact q.elim
    | some d =>
      rw [hr] at q
      cases d with
      | int i => cases (res_ok r1 k1 hr).int; exact ⟨i, rfl, q H1 S1 r1 t1⟩
      | _ => exact q.elim
theorem cut_rep {K : PySem.W.Frag} {S : Addr → Prop} {H : Hp} {xs : List V} {ds : List D} (q : Reps K S H xs ds) (l h : Option Int) : Reps K S H (cutV xs l h) (cutD ds l h) := by
  unfold cutV cutD
  rw [q.length]
  exact (q.drop _).take _
theorem sIx_all {n : Nat} {lo hi : Option Int} (h : HT.sIx n 0 lo = 0 ∧ HT.sIx n n hi = n) (ds : List D) (hl : ds.length = n) : cutD ds lo hi = ds := by
  unfold cutD
  rw [hl, h.1, h.2, List.drop_zero]
  exact List.take_of_length_le (by omega)
theorem de_sl (hK : F.K = X.K) (ha : PE X a (tE F ma)) (hl : PO X lo (tO F ml)) (hh : PO X hi (tO F mh)) : PE X (.Subscript a (.Slice lo hi none p2) pos) (tE F (slc ma ml mh)) := by
  refine pe_weak (pe_slice (sl_tupA.or sl_list) ha hl hh) fun σ H Q q => ?_
  rw [← hK]
  obtain ⟨e, S, r0, q⟩ := q
  refine ⟨e, S, r0, ?_⟩
  simp only [slc, bnd] at q
  cases h1 : ma e with
  | bad => rw [h1] at q; exact q
  | err x => rw [h1] at q; exact q
  | ok oa e1 =>
    simp only [h1] at q
    refine fun v H1 S1 r1 t1 k1 => ?_
    obtain ⟨S1', r1', t1', p1⟩ := k1.pin r1 t1
    refine ⟨e1, S1', r1', ?_⟩
    cases h2 : ml e1 with
    | bad => rw [h2] at q; exact q
    | err x => rw [h2] at q; exact q
    | ok l e2 =>
      simp only [h2] at q
      refine fun H2 S2 r2 t2 => ⟨e2, S2, r2, ?_⟩
      cases h3 : mh e2 with
      | bad => rw [h3] at q; exact q
      | err x => rw [h3] at q; exact q
      | ok h e3 =>
        simp only [h3] at q
        refine fun H3 S3 r3 t3 => ?_
        unfold app1 at q
        cases hr : res oa e3 with
        | none => rw [hr] at q; exact q.elim
        | some x =>
          simp only [hr] at q
          have rx := pin_res r1' p1 (t2.trans t3) r3 hr
          have tt := (t1'.trans t2).trans t3
          cases x with
          | lst ds =>
            simp only [gSl] at q
            obtain ⟨p, xs, rfl, hp, qq⟩ := rx.lst
            exact .inr ⟨p, xs, rfl, SqL.of hp, fun w hw => q _ _ S3 (r3.new hw) (tt.trans (.alloc hw)) ((fresh_lst r3 hw (cut_rep qq l h)).back tt.mono)⟩
          | tup ds =>
            simp only [gSl] at q
            obtain ⟨p, xs, rfl, hp, qq⟩ := rx.tup
            refine .inl ⟨p, xs, rfl, SqT.of hp, fun hw => ?_, fun hw w hn => q _ _ S3 (r3.new hn) (tt.trans (.alloc hn)) (fresh_tup hn (cut_rep qq l h))⟩
            rw [sIx_all hw ds qq.length.symm] at q
            exact q _ H3 S3 r3 tt (.tup hp qq)
          | _ => exact q.elim
end

def isNonD : D → Bool
  | .non => true
  | _ => false
def gIsN : D → D → Option Od
  | x, .non => some (.d (.bl (isNonD x)))
  | .bl a, .bl b => some (.d (.bl (decide (a = b))))
  | _, _ => none
def gNotN : D → D → Option Od
  | x, .non => some (.d (.bl (!isNonD x)))
  | .bl a, .bl b => some (.d (.bl (!decide (a = b))))
  | _, _ => none
theorem RepT.isNon {K : PySem.W.Frag} {S : Addr → Prop} {H : Hp} {v : V} {x : D} (r : RepT K S H v x) : decide (v = .non) = isNonD x := by
  cases x with
  | non => cases r.non; rfl
  | bl b => cases r.bl; rfl
  | int b => cases r.int; rfl
  | str b => cases r.str; rfl
  | tup b => obtain ⟨_, _, rfl, _⟩ := r.tup; rfl
  | kt b => obtain ⟨_, _, rfl, _⟩ := r.kt; rfl
  | lst b => obtain ⟨_, _, rfl, _⟩ := r.lst; rfl
  | dk _ b => obtain ⟨_, _, rfl, _⟩ := r.dk; rfl
  | dt _ b => obtain ⟨_, _, rfl, _⟩ := r.dt; rfl
  | scr b => obtain ⟨_, rfl, _⟩ := r.scr; rfl
section
variable {F : Fx}
theorem s_isN : OpS F (fun x y H Q => (y = .non ∧ Q (.bl (decide (x = .non))) H) ∨ ∃ a b, x = .bl a ∧ y = .bl b ∧ Q (.bl (decide (a = b))) H) gIsN := by
  intro e S σ H v u x y o Q r rx ry hg k
  unfold gIsN at hg
  split at hg
  · cases hg; cases ry.non
    refine .inl ⟨rfl, ?_⟩
    rw [rx.isNon]
    exact k _ H S r (.refl _ _ _ _) (.bl _)
  · cases hg; cases rx.bl; cases ry.bl
    exact .inr ⟨_, _, rfl, rfl, k _ H S r (.refl _ _ _ _) (.bl _)⟩
  · cases hg
theorem s_notN : OpS F (fun x y H Q => (y = .non ∧ Q (.bl (!decide (x = .non))) H) ∨ ∃ a b, x = .bl a ∧ y = .bl b ∧ Q (.bl (!decide (a = b))) H) gNotN := by
  intro e S σ H v u x y o Q r rx ry hg k
  unfold gNotN at hg
  split at hg
  · cases hg; cases ry.non
    refine .inl ⟨rfl, ?_⟩
    rw [rx.isNon]
    exact k _ H S r (.refl _ _ _ _) (.bl _)
  · cases hg; cases rx.bl; cases ry.bl
    exact .inr ⟨_, _, rfl, rfl, k _ H S r (.refl _ _ _ _) (.bl _)⟩
  · cases hg
end

def isi (T : String) (ma : M Od) : M Od := bnd ma fun o e => match (res o e).bind (gIsi T) with
  | some b => .ok (.d (.bl b)) e
  | none => .bad
def tyOfD : D → String
  | .non => "NoneType" | .bl _ => "bool" | .int _ => "int" | .str _ => "str" | .tup _ => "tuple" | .kt _ => "tuple" | .lst _ => "list" | .dk _ _ => "dict" | .dt _ _ => "dict" | .scr _ => "list"
theorem RepT.tyx {K : PySem.W.Frag} {S : Addr → Prop} {H : Hp} {v : V} {x : D} (r : RepT K S H v x) : TyX K H v (.type (tyOfD x)) := by
  cases x with
  | non => cases r.non; exact .base .non
  | bl b => cases r.bl; exact .base (.bl _)
  | int b => cases r.int; exact .base (.int _)
  | str b => cases r.str; exact .base (.str _)
  | tup b => obtain ⟨_, _, rfl, h, _⟩ := r.tup; exact .base (.tup h)
  | kt b => obtain ⟨_, _, rfl, ⟨o, _, _, h, c, _⟩, _⟩ := r.kt; exact .kTuple h c
  | lst b => obtain ⟨_, _, rfl, h, _⟩ := r.lst; exact .base (.lst h)
  | dk _ b => obtain ⟨_, _, rfl, h, _⟩ := r.dk; exact .base (.dK h)
  | dt _ b => obtain ⟨_, _, rfl, h, _⟩ := r.dt; exact .base (.dT h)
  | scr b =>
    obtain ⟨_, rfl, h⟩ := r.scr
    rcases h with ⟨o, h⟩ | ⟨o, _, _, h, c, _⟩
    · exact .base (.frz h)
    · exact .kList h c
theorem kit_all : ∀ t ∈ ["NoneType", "bool", "int", "str", "tuple", "list", "dict"], ∀ T ∈ ["int", "bool", "str", "tuple", "list", "dict"], kitB t T = some ((t == T) || (t == "bool" && T == "int")) := by decide +kernel
theorem gIsi_kit {T : String} (hT : T ∈ ["int", "bool", "str", "tuple", "list", "dict"]) {x : D} {b : Bool} (h : gIsi T x = some b) : kitB (tyOfD x) T = some b := by
  have e : gIsi T x = some ((tyOfD x == T) || (tyOfD x == "bool" && T == "int")) := by
    simp only [List.mem_cons, List.not_mem_nil, or_false] at hT
    rcases hT with rfl | rfl | rfl | rfl | rfl | rfl <;> cases x <;> rfl
  rw [e] at h
  cases h
  exact kit_all _ (by cases x <;> simp [tyOfD]) _ hT
theorem de_isi {X : Cx} {F : Fx} {a : Expr} {ma : M Od} {T : String} {Tn : Str} {p p2 pos : Pos} (hK : F.K = X.K) (hT : T ∈ ["int", "bool", "str", "tuple", "list", "dict"]) (hg : Gl X "isinstance") (hm : X.mg "isinstance" = none) (hv : bootBuiltins "isinstance" = some (.builtin "isinstance"))
    (hg2 : Gl X Tn) (hm2 : X.mg Tn = none) (hv2 : bootBuiltins Tn = some (.type T)) (ha : PE X a (tE F ma)) (hn2 : Tn ≠ "__name__" := by decide) (hd2 : (Tn == ("__debug__" : Str)) = false := by decide)
    (he : starEach [a, .Name Tn p2] X.env = (false, eval a X.env) :: starEach [.Name Tn p2] X.env := by rfl) : PE X (.Call (.Name "isinstance" p) [a, .Name Tn p2] [] pos) (tE F (isi T ma)) := by
  refine pe_weak (pe_callB call_isi hg hm hv (pa_cons ha (pa_cons (pe_bltn (v := .ty T) hg2 hm2 hv2 rfl hn2 hd2) pa_nil) he) (by decide) (by decide) he) fun σ H Q q => ?_
  obtain ⟨e, S, r0, q⟩ := q
  refine ⟨e, S, r0, ?_⟩
  simp only [isi, bnd] at q
  cases h1 : ma e with
  | bad => rw [h1] at q; exact q
  | err x => rw [h1] at q; exact q
  | ok oa e1 =>
    simp only [h1] at q
    refine fun v H1 S1 r1 t1 k1 => ?_
    cases hr : res oa e1 with
    | none => rw [hr] at q; exact q.elim
    | some d =>
      rw [hr] at q
      simp only [Option.bind_some] at q
      cases hb : gIsi T d with
      | none => rw [hb] at q; exact q.elim
      | some b =>
        rw [hb] at q
        rw [← hK]
        exact ⟨v, .ty T, _, _, b, rfl, .ty T, (res_ok r1 k1 hr).tyx, kit_ty (gIsi_kit hT hb), q _ H1 S1 r1 t1 (.bl b)⟩

section
variable {X : Cx} {F : Fx} {x : Str} {p pos : Pos} {ex : Expr} {es : List Expr} {ms : M (List Od)} {id T : String} {r : List V → Hp → VK → Prop} {g : List D → Option Od}
theorem de_callB (hc : CallR X (.builtin id) r) (hs : CallS F r g) (hg : Gl X x) (hm : X.mg x = none) (hv : bootBuiltins x = some (.builtin id)) (ha : PA X (ex :: es) (tA F ms)) (hn : x ≠ "__name__" := by decide) (hdb : (x == ("__debug__" : Str)) = false := by decide)
    (he : starEach (ex :: es) X.env = (false, eval ex X.env) :: starEach es X.env := by rfl) (hpl : (backTo pos (starEach es X.env)).any (·.1) = false := by rfl) : PE X (.Call (.Name x p) (ex :: es) [] pos) (tE F (callB g ms)) :=
  pe_weak (pe_callB hc hg hm hv ha hn hdb he hpl) fun σ H Q q => tE_call hs σ H Q q
theorem de_callTy (hc : CallR X (.type T) r) (hs : CallS F r g) (hg : Gl X x) (hm : X.mg x = none) (hv : bootBuiltins x = some (.type T)) (ha : PA X (ex :: es) (tA F ms)) (hn : x ≠ "__name__" := by decide) (hdb : (x == ("__debug__" : Str)) = false := by decide)
    (he : starEach (ex :: es) X.env = (false, eval ex X.env) :: starEach es X.env := by rfl) (hpl : (backTo pos (starEach es X.env)).any (·.1) = false := by rfl) : PE X (.Call (.Name x p) (ex :: es) [] pos) (tE F (callB g ms)) :=
  pe_weak (pe_callTy hc hg hm hv ha hn hdb he hpl) fun σ H Q q => tE_call hs σ H Q q
end

theorem insI_perm (x : Int) : ∀ ys : List Int, (insI x ys).Perm (x :: ys)
  | [] => .refl _
  | y :: ys => by
    unfold insI
    split
    · exact .refl _
    · exact ((insI_perm x ys).cons y).trans (.swap x y ys)
theorem sortI_perm : ∀ xs : List Int, (sortI xs).Perm xs
  | [] => .refl _
  | x :: xs => (insI_perm x (sortI xs)).trans ((sortI_perm xs).cons x)
theorem insI_sorted (x : Int) : ∀ ys : List Int, ys.Pairwise (· ≤ ·) → (insI x ys).Pairwise (· ≤ ·)
  | [], _ => by simp [insI]
  | y :: ys, h => by
    unfold insI
    obtain ⟨h1, h2⟩ := List.pairwise_cons.mp h
    split
    · rename_i hxy
      refine List.pairwise_cons.mpr ⟨fun z hz => ?_, h⟩
      rcases List.mem_cons.mp hz with rfl | hz
      · exact hxy
      · exact Int.le_trans hxy (h1 z hz)
    · rename_i hxy
      refine List.pairwise_cons.mpr ⟨fun z hz => ?_, insI_sorted x ys h2⟩
      rcases List.mem_cons.mp ((insI_perm x ys).mem_iff.mp hz) with rfl | hz
      · omega
      · exact h1 z hz
theorem sortI_sorted : ∀ xs : List Int, (sortI xs).Pairwise (· ≤ ·)
  | [] => .nil
  | x :: xs => insI_sorted x _ (sortI_sorted xs)
theorem sorted_uniq {xs ys : List Int} (h : xs.Perm ys) (hx : xs.Pairwise (· ≤ ·)) (hy : ys.Pairwise (· ≤ ·)) : xs = ys :=
  h.eq_of_pairwise (fun _ _ _ _ h1 h2 => Int.le_antisymm h1 h2) hx hy
def gSortedI : List D → Option Od
  | [.lst ds] => (intsOf ds).map fun ns => .f (.lst ((sortI ns).map D.int))
  | _ => none
theorem c_sortedI {F : Fx} : CallS F (rSortedI F.K) gSortedI := by
  intro e S σ H vs xs o Q r rs hg k
  unfold gSortedI at hg
  split at hg
  · simp only [Option.map_eq_some_iff] at hg
    obtain ⟨ns, h1, rfl⟩ := hg
    obtain ⟨v, rfl, rx⟩ := rs.one
    cases ints_eq h1
    obtain ⟨p, ys, rfl, hp, q⟩ := rx.lst
    cases q.ints
    refine ⟨p, ns, rfl, SqL.of hp, fun ns' w h2 h3 hw => ?_⟩
    have e1 : ns' = sortI ns := sorted_uniq (h2.trans (sortI_perm ns).symm) h3 (sortI_sorted ns)
    subst e1
    exact k _ _ S (r.new hw) (.alloc hw) (fresh_lst r hw (reps_ints _))
  · cases hg
end DL

set_option maxRecDepth 100000
set_option maxHeartbeats 4000000
namespace DL
open PySem PySem.Spec L2
open PyProof.Rows hiding St

def toSl (o : Od) (e : Env) : Option (Sl × Env) := match o with
  | .d x => some (.val x, e)
  | .f x => some (.own x, e)
  | .s i => match leak1 (.s i) e with
    | some (x, e1) => some (.val x, e1)
    | none => none
def setSl (i : Nat) (s : Sl) (e : Env) : Option Env := match e[i]? with
  | some (.iow _) => none
  | none => none
  | _ => some (e.set i s)
def SlV (F : Fx) (e : Env) (S : Addr → Prop) (σ : St) (H : Hp) (v : V) : Sl → Prop
  | .val x => Rep F.K S H v x
  | .own x => ∃ p, v = .ref p ∧ ¬ S p ∧ F.H0 p = none ∧ ¬ Held e σ p ∧ Top F.K S H p x
  | _ => False
section
variable {F : Fx} {e e1 e2 : Env} {S S1 S2 : Addr → Prop} {σ : St} {Hs H H1 H2 : Hp} {v u : V} {o : Od} {x : D} {s : Sl}
theorem OdOk.keep (h : OdOk F Hs e1 S1 σ H1 v o) (r : R F e1 S1 σ H1) (t : Stp e1 S1 σ H1 e2 S2 H2) : OdOk F Hs e2 S2 σ H2 v o := by
  cases o with
  | d x => exact Rep.kp (r.kp t) h
  | s i => exact h
  | f x =>
    obtain ⟨p, rfl, ns, h0, hs, nh, tp⟩ := h
    obtain ⟨ob, ho, _⟩ := tp.obj
    refine ⟨p, rfl, fun z => ?_, h0, hs, fun z => nh (t.held p z), tp.kp (r.kp t) ?_⟩
    · rcases t.new p z with z | z | z
      · exact ns z
      · rw [ho] at z; cases z
      · exact nh z
    · rw [t.keep p _ ho nh, ho]
theorem SlV.keep (h : SlV F e1 S1 σ H1 v s) (r : R F e1 S1 σ H1) (t : Stp e1 S1 σ H1 e2 S2 H2) : SlV F e2 S2 σ H2 v s := by
  cases s with
  | val x => exact Rep.kp (r.kp t) h
  | own x =>
    obtain ⟨p, rfl, ns, h0, nh, tp⟩ := h
    obtain ⟨ob, ho, _⟩ := tp.obj
    refine ⟨p, rfl, fun z => ?_, h0, fun z => nh (t.held p z), tp.kp (r.kp t) ?_⟩
    · rcases t.new p z with z | z | z
      · exact ns z
      · rw [ho] at z; cases z
      · exact nh z
    · rw [t.keep p _ ho nh, ho]
  | _ => exact h.elim
theorem toSl_ok (r : R F e S σ H) (h : OdOk F Hs e S σ H v o) {e1 : Env} (hx : toSl o e = some (s, e1)) : ∃ S1, R F e1 S1 σ H ∧ Stp e S σ H e1 S1 H ∧ SlV F e1 S1 σ H v s := by
  cases o with
  | d x => cases hx; exact ⟨S, r, .refl _ _ _ _, h⟩
  | f x =>
    cases hx
    obtain ⟨p, a, b, c, _, d, t⟩ := h
    exact ⟨S, r, .refl _ _ _ _, p, a, b, c, d, t⟩
  | s i =>
    simp only [toSl] at hx
    split at hx
    · rename_i y e2 hl; cases hx
      obtain ⟨S1, r1, t1, q⟩ := leak1_ok (o := .s i) (v := v) r (.refl _ _ _ _) h hl
      exact ⟨S1, r1, t1, q⟩
    · cases hx
theorem R.put (r : R F e S σ H) {i : Nat} (hs : setSl i s e = some e1) (h : SlV F e S σ H v s) : R F e1 S (σ.set i (some v)) H := by
  have hi : ∃ s0, e[i]? = some s0 ∧ (∀ d, s0 ≠ .iow d) ∧ e1 = e.set i s := by
    unfold setSl at hs
    split at hs
    · cases hs
    · cases hs
    · rename_i h1 h2
      cases hs
      cases q : e[i]? with
      | none => exact absurd q h2
      | some s0 => exact ⟨s0, rfl, fun d z => h1 d (by rw [q, z]), rfl⟩
  obtain ⟨s0, he, hni, rfl⟩ := hi
  have hl : i < e.length := (List.getElem?_eq_some_iff.mp he).1
  have hl' : i < σ.length := by rw [← r.len]; exact hl
  have heO : ∀ (j : Nat), j ≠ i → (e.set i s)[j]? = e[j]? := fun j hj => List.getElem?_set_ne (Ne.symm hj)
  have hσO : ∀ (j : Nat), j ≠ i → (σ.set i (some v))[j]? = σ[j]? := fun j hj => List.getElem?_set_ne (Ne.symm hj)
  have heS : (e.set i s)[i]? = some s := List.getElem?_set_self hl
  have hσS : (σ.set i (some v))[i]? = some (some v) := List.getElem?_set_self hl'
  have nh : ∀ p, Mine s → v = .ref p → ¬ Held e σ p := fun p m z => by
    cases s with
    | own x => obtain ⟨q, z', _, _, nh, _⟩ := h; rw [z] at z'; cases z'; exact nh
    | iow x => exact h.elim
    | _ => exact m.elim
  refine ⟨by rw [List.length_set, List.length_set]; exact r.len, r.base, r.s0, r.s1, r.s2, r.there, fun j t w h1 h2 => ?_, fun j j' t t' q h1 h2 m m' h3 h4 => ?_, fun j d h1 => ?_⟩
  · by_cases hj : j = i
    · subst hj
      rw [heS] at h1; cases h1
      rw [hσS] at h2; cases h2
      cases s with
      | val x => exact ⟨v, rfl, h⟩
      | own x => obtain ⟨p, rfl, a, b, c, d⟩ := h; exact ⟨p, rfl, a, b, d⟩
      | _ => exact h.elim
    · rw [heO j hj] at h1
      rw [hσO j hj] at h2
      exact r.sl j t w h1 h2
  · by_cases hj : j = i
    · by_cases hj' : j' = i
      · rw [hj, hj']
      · exfalso
        subst hj
        rw [heS] at h1; cases h1
        rw [hσS] at h3; cases h3
        rw [heO j' hj'] at h2
        rw [hσO j' hj'] at h4
        exact nh q m rfl ⟨j', t', h2, m', h4⟩
    · by_cases hj' : j' = i
      · exfalso
        subst hj'
        rw [heS] at h2; cases h2
        rw [hσS] at h4; cases h4
        rw [heO j hj] at h1
        rw [hσO j hj] at h3
        exact nh q m' rfl ⟨j, t, h1, m, h3⟩
      · rw [heO j hj] at h1
        rw [hσO j hj] at h3
        rw [heO j' hj'] at h2
        rw [hσO j' hj'] at h4
        exact r.dis j j' t t' q h1 h2 m m' h3 h4
  · by_cases hj : j = i
    · subst hj
      rw [heS] at h1; cases h1; exact h.elim
    · rw [heO j hj] at h1
      rw [hσO j hj]
      exact r.fix j d h1
theorem setSl_len {i : Nat} (hs : setSl i s e = some e1) : i < e.length ∧ e1 = e.set i s := by
  unfold setSl at hs
  split at hs
  · cases hs
  · cases hs
  · rename_i h1 h2
    cases hs
    refine ⟨?_, rfl⟩
    by_cases q : i < e.length
    · exact q
    · exact absurd (List.getElem?_eq_none (Nat.le_of_not_lt q)) h2
end

def nop : MS := .nx
def brk : MS := .bk
def cont : MS := .ct
def never : MS := fun _ => .bad
def seqS (a b : MS) : MS := fun e => match a e with
  | .nx e1 => b e1
  | o => o
def ifS (c : M Bool) (a b : MS) : MS := fun e => match c e with
  | .ok true e1 => a e1
  | .ok false e1 => b e1
  | .err x => .err x
  | .bad => .bad
def retS (m : M Od) : MS := fun e => match m e with
  | .ok o e1 => .rt o e1
  | .err x => .err x
  | .bad => .bad
def retN : MS := fun e => .rt (.d .non) e
def drop (m : M Od) : MS := fun e => match m e with
  | .ok _ e1 => .nx e1
  | .err x => .err x
  | .bad => .bad
def asg (i : Nat) (m : M Od) : MS := fun e => match m e with
  | .ok o e1 => (match toSl o e1 with
    | some (s, e2) => (match setSl i s e2 with
      | some e3 => .nx e3
      | none => .bad)
    | none => .bad)
  | .err x => .err x
  | .bad => .bad
section
variable {X : Cx} {F : Fx} {st : Stmt} {rest : List Stmt} {a b : MS} {m ma mb : M Od} {tc : M Bool} {ex : Expr} {pos : Pos}
theorem ds_weak {t : TS} (h : PS X st t) (w : ∀ e S D σ H, R F e S σ H → PostS F D S H (a e) → t D σ H) : PS X st (tS F a) := ps_weak h fun D σ H ⟨e, S, r, q⟩ => w e S D σ H r q
theorem PostS.kp {D : Ends} {S S1 : Addr → Prop} {H H1 : Hp} {o : OutS} (k : Kp S H S1 H1) (h : PostS F D S H o) : PostS F D S1 H1 o := by
  cases o with
  | nx e => exact fun σ2 H2 S2 r k2 => h σ2 H2 S2 r (k.trans k2)
  | bk e => exact fun σ2 H2 S2 r k2 => h σ2 H2 S2 r (k.trans k2)
  | ct e => exact fun σ2 H2 S2 r k2 => h σ2 H2 S2 r (k.trans k2)
  | _ => exact h
theorem dss_nil : PSs X [] (tS F nop) := pss_weak pss_nil fun D σ H ⟨e, S, r, q⟩ => q σ H S r (.refl _ _)
theorem dss_one (h : PS X st (tS F a)) : PSs X [st] (tS F a) := pss_one h
theorem dss_cons (h1 : PS X st (tS F a)) (h2 : PSs X rest (tS F b)) : PSs X (st :: rest) (tS F (seqS a b)) := by
  refine pss_weak (pss_cons h1 h2) fun D σ H ⟨e, S, r, q⟩ => ⟨e, S, r, ?_⟩
  simp only [seqS] at q
  cases h : a e with
  | nx e1 => rw [h] at q; exact fun σ1 H1 S1 r1 k1 => ⟨e1, S1, r1, q.kp k1⟩
  | rt o e1 => rw [h] at q; exact q
  | bk e1 => rw [h] at q; exact q
  | ct e1 => rw [h] at q; exact q
  | err x => rw [h] at q; exact q
  | bad => rw [h] at q; exact q
theorem ds_pass : PS X (.Pass pos) (tS F nop) := ps_weak ps_pass fun D σ H ⟨e, S, r, q⟩ => q σ H S r (.refl _ _)
theorem ds_break : PS X (.Break pos) (tS F brk) := ps_weak ps_break fun D σ H ⟨e, S, r, q⟩ => q σ H S r (.refl _ _)
theorem ds_cont : PS X (.Continue pos) (tS F cont) := ps_weak ps_continue fun D σ H ⟨e, S, r, q⟩ => q σ H S r (.refl _ _)
theorem ds_if {c : Expr} {sa sb : List Stmt} (hc : PT X c (tT F tc)) (ha : PSs X sa (tS F a)) (hb : PSs X sb (tS F b)) : PS X (.If c sa sb pos) (tS F (ifS tc a b)) := by
  refine ps_weak (ps_if hc ha hb) fun D σ H ⟨e, S, r, q⟩ => ⟨e, S, r, ?_⟩
  simp only [ifS] at q
  cases h : tc e with
  | bad => rw [h] at q; exact q
  | err x => rw [h] at q; exact q
  | ok c e1 =>
    rw [h] at q
    refine fun H1 S1 r1 t1 => ?_
    cases c with
    | true => rw [if_pos rfl]; exact ⟨e1, S1, r1, PostS.kp (r.kp t1) q⟩
    | false => rw [if_neg Bool.false_ne_true]; exact ⟨e1, S1, r1, PostS.kp (r.kp t1) q⟩
theorem ds_ret (h : PE X ex (tE F m)) : PS X (.Return (some ex) pos) (tS F (retS m)) := by
  refine ps_weak (ps_ret h) fun D σ H ⟨e, S, r, q⟩ => ⟨e, S, r, ?_⟩
  simp only [retS] at q
  cases h : m e with
  | bad => rw [h] at q; exact q
  | err x => rw [h] at q; exact q
  | ok o e1 => rw [h] at q; exact fun v H1 S1 r1 t1 k1 => q v σ H1 S1 r1 (k1.back fun p hp => r.h0 hp)
theorem ds_retN : PS X (.Return none pos) (tS F retN) := ps_weak ps_retN fun D σ H ⟨e, S, r, q⟩ => q .non σ H S r .non
theorem ds_expr (h : PE X ex (tE F m)) (hs : swapsWith ex none pos.line X.env = pure false := by rfl) : PS X (.Expr ex pos) (tS F (drop m)) := by
  refine ps_weak (ps_expr h hs) fun D σ H ⟨e, S, r, q⟩ => ⟨e, S, r, ?_⟩
  simp only [drop] at q
  cases h : m e with
  | bad => rw [h] at q; exact q
  | err x => rw [h] at q; exact q
  | ok o e1 => rw [h] at q; exact fun v H1 S1 r1 t1 k1 => q σ H1 S1 r1 (r.kp t1)
theorem ds_doc {x j pos'} : PS X (.Expr (.Constant (.str x) j pos) pos') (tS F nop) := ps_weak ps_doc fun D σ H ⟨e, S, r, q⟩ => q σ H S r (.refl _ _)
theorem tS_asg {i : Nat} {D : Ends} {σ : St} {H : Hp} (q : tS F (asg i m) D σ H) : tAsg (tE F m) (gName i) D σ H := by
  obtain ⟨e, S, r, q⟩ := q
  refine ⟨e, S, r, ?_⟩
  simp only [asg] at q
  cases h : m e with
  | bad => rw [h] at q; exact q
  | err x => rw [h] at q; exact q
  | ok o e1 =>
    rw [h] at q
    refine fun v H1 S1 r1 t1 k1 => ?_
    simp only at q
    cases h2 : toSl o e1 with
    | none => rw [h2] at q; exact q.elim
    | some p =>
      obtain ⟨s, e2⟩ := p
      simp only [h2] at q
      obtain ⟨S2, r2, t2, sv⟩ := toSl_ok r1 k1 h2
      cases h3 : setSl i s e2 with
      | none => rw [h3] at q; exact q.elim
      | some e3 =>
        simp only [h3] at q
        exact q _ H1 S2 (r2.put h3 sv) ((r.kp t1).trans (r1.kp t2))
theorem ds_set {i : Nat} {x : Str} {pos' : Pos} (hN : X.N.Nodup) (hi : X.N[i]? = some x) (hx : Loc X.env.scope x) (he : PE X ex (tE F m)) (hs : swapsWith ex (some (.Name x pos')) pos.line X.env = pure false := by rfl) (hf : X.fn x = true ∨ X.env.scope.names.lookup x = some .local := by first | exact .inl rfl | exact .inr rfl | assumption) :
    PS X (.Assign [.Name x pos'] ex pos) (tS F (asg i m)) := ps_weak (ps_set hN hi hx he hs hf) fun D σ H q => tS_asg q
end

def put2 (i j : Nat) (oa ob : Od) : MS := fun e => match toSl oa e with
  | some (s, e1) => (match toSl ob e1 with
    | some (t, e2) => (match setSl i s e2 with
      | some e3 => (match setSl j t e3 with
        | some e4 => .nx e4
        | none => .bad)
      | none => .bad)
    | none => .bad)
  | none => .bad
def bndS {α : Type} (m : M α) (k : α → MS) : MS := fun e => match m e with
  | .ok o e1 => k o e1
  | .err x => .err x
  | .bad => .bad
def par2 (i j : Nat) (ma mb : M Od) : MS := bndS ma fun oa => bndS mb fun ob => put2 i j oa ob
section
variable {X : Cx} {F : Fx} {ma mb : M Od} {pos : Pos}
theorem held_put {e : Env} {σ : St} {i : Nat} {s : Sl} {v : V} {p : Addr} (h : Held (e.set i s) (σ.set i (some v)) p) (hv : v ≠ .ref p) : Held e σ p := by
  obtain ⟨j, t, h1, m, h2⟩ := h
  by_cases hj : j = i
  · subst hj
    by_cases hl : j < σ.length
    · rw [List.getElem?_set_self hl] at h2; cases h2; exact absurd rfl hv
    · rw [List.getElem?_eq_none (by simpa using hl)] at h2; cases h2
  · rw [List.getElem?_set_ne (Ne.symm hj)] at h1 h2
    exact ⟨j, t, h1, m, h2⟩
theorem put2_ok {i j : Nat} {oa ob : Od} {D : Ends} {e e0 : Env} {S S0 : Addr → Prop} {σ : St} {H H0 H1 : Hp} {v u : V} (r : R F e S σ H) (ka : OdOk F H0 e S σ H v oa) (kb : OdOk F H1 e S σ H u ob) (hab : ∀ x p, oa = .f x → v = .ref p → H1 p ≠ none)
    {D' : Ends} (q : PostS F D S H (put2 i j oa ob e)) : D.nx ((σ.set i (some v)).set j (some u)) H := by
  unfold put2 at q
  cases h1 : toSl oa e with
  | none => rw [h1] at q; exact q.elim
  | some p =>
    obtain ⟨s, e1⟩ := p
    simp only [h1] at q
    obtain ⟨S1, r1, t1, sv⟩ := toSl_ok r ka h1
    have kb1 := kb.keep r t1
    cases h2 : toSl ob e1 with
    | none => rw [h2] at q; exact q.elim
    | some p =>
      obtain ⟨t, e2⟩ := p
      simp only [h2] at q
      obtain ⟨S2, r2, t2, tv⟩ := toSl_ok r1 kb1 h2
      have sv2 := sv.keep r1 t2
      cases h3 : setSl i s e2 with
      | none => rw [h3] at q; exact q.elim
      | some e3 =>
        simp only [h3] at q
        have r3 := r2.put h3 sv2
        cases h4 : setSl j t e3 with
        | none => rw [h4] at q; exact q.elim
        | some e4 =>
          simp only [h4] at q
          have tv3 : SlV F e3 S2 (σ.set i (some v)) H u t := by
            cases t with
            | val x => exact tv
            | own x =>
              obtain ⟨p, rfl, a, b, c, d⟩ := tv
              refine ⟨p, rfl, a, b, fun z => ?_, d⟩
              obtain ⟨_, rfl⟩ := setSl_len h3
              by_cases hv : v = .ref p
              · -- the same object twice
                have hob : ob = .f x := by
                  cases ob with
                  | d y => simp [toSl] at h2
                  | f y => simp [toSl] at h2; rw [h2.1]
                  | s y =>
                    simp only [toSl] at h2
                    split at h2 <;> simp at h2
                subst hob
                obtain ⟨p', e1', _, _, hn, _, _⟩ := kb
                cases e1'
                cases s with
                | own y =>
                  have hoa : oa = .f y := by
                    cases oa with
                    | d y => simp [toSl] at h1
                    | f y => simp [toSl] at h1; rw [h1.1]
                    | s y =>
                      simp only [toSl] at h1
                      split at h1 <;> simp at h1
                  exact hab y p hoa hv hn
                | val y =>
                  have : SlV F e2 S2 σ H v (.val y) := sv2
                  -- a name's slot that holds a plain value is not held
                  obtain ⟨j', t', g1, g2, g3⟩ := z
                  by_cases hj : j' = i
                  · subst hj
                    have hl : j' < e2.length := (setSl_len h3).1
                    rw [List.getElem?_set_self hl] at g1
                    cases g1; exact g2
                  · rw [List.getElem?_set_ne (Ne.symm hj)] at g1 g3
                    exact c ⟨j', t', g1, g2, g3⟩
                | _ => exact sv2.elim
              · exact c (held_put z hv)
            | _ => exact tv.elim
          exact q _ H S2 (r3.put h4 tv3) ((r.kp t1).trans (r1.kp t2))
theorem tS_par2 {i j : Nat} {D : Ends} {σ : St} {H : Hp} (q : tS F (par2 i j ma mb) D σ H) : tCons (tE F ma) (tCons (tE F mb) tNil) σ H fun vs H1 => ∃ v w, vs = [v, w] ∧ D.nx ((σ.set i (some v)).set j (some w)) H1 := by
  obtain ⟨e, S, r, q⟩ := q
  refine ⟨e, S, r, ?_⟩
  simp only [par2, bndS] at q
  cases h : ma e with
  | bad => rw [h] at q; exact q
  | err x => rw [h] at q; exact q
  | ok oa e1 =>
    simp only [h] at q
    refine fun v H1 S1 r1 t1 k1 => ⟨e1, S1, r1, ?_⟩
    cases h2 : mb e1 with
    | bad => rw [h2] at q; exact q
    | err x => rw [h2] at q; exact q
    | ok ob e2 =>
      simp only [h2] at q
      refine fun u H2 S2 r2 t2 k2 => ?_
      refine ⟨v, u, rfl, put2_ok (e0 := e) (S0 := S) (D' := D) r2 (k1.keep r1 t2) k2 (fun x p hx hv => ?_) (PostS.kp ((r.kp t1).trans (r1.kp t2)) q)⟩
      subst hx hv
      obtain ⟨p', e', _, _, _, _, tp⟩ := k1
      cases e'
      obtain ⟨ob', ho, _⟩ := tp.obj
      rw [ho]; exact fun z => nomatch z
theorem ds_par {i j : Nat} {x y : Str} {a b : Expr} {px py pt : Pos} {kt k2 pt2} (hc : X.calm = true) (hN : X.N.Nodup) (hi : X.N[i]? = some x) (hj : X.N[j]? = some y) (hij : i ≠ j)
    (hx : X.env.scope.names.lookup x = some .local) (hy : X.env.scope.names.lookup y = some .local) (ha : PE X a (tE F ma)) (hb : PE X b (tE F mb))
    (hw : swappedStores [.Tuple [.Name x px, .Name y py] kt pt] (.Tuple [a, b] k2 pt2) X.env = pure (some [x, y])) (hst : starEach [a, b] X.env = (false, eval a X.env) :: starEach [b] X.env := by rfl) (hst2 : starEach [b] X.env = (false, eval b X.env) :: starEach [] X.env := by rfl)
    (hs : swapsWithSole [.Tuple [.Name x px, .Name y py] kt pt] (.Tuple [a, b] k2 pt2) pos.line X.env = pure false := by rfl) :
    PS X (.Assign [.Tuple [.Name x px, .Name y py] kt pt] (.Tuple [a, b] k2 pt2) pos) (tS F (par2 i j ma mb)) :=
  ps_weak (ps_par hc hN hi hj hij hx hy (pa_cons ha (pa_cons hb pa_nil hst2) hst) hw hs) fun D σ H q => tS_par2 q
theorem ds_parC {i j : Nat} {x y : Str} {a b : Expr} {px py pt : Pos} {kt k2 pt2} (hc : X.calm = true) (hN : X.N.Nodup) (hi : X.N[i]? = some x) (hj : X.N[j]? = some y)
    (hx : Loc X.env.scope x) (hy : Loc X.env.scope y) (ha : PE X a (tE F ma)) (hb : PE X b (tE F mb))
    (hw : swappedStores [.Tuple [.Name x px, .Name y py] kt pt] (.Tuple [a, b] k2 pt2) X.env = pure none := by rfl)
    (hfx : X.fn x = true ∨ X.env.scope.names.lookup x = some .local := by first | exact .inl rfl | exact .inr rfl) (hfy : X.fn y = true ∨ X.env.scope.names.lookup y = some .local := by first | exact .inl rfl | exact .inr rfl)
    (hst : starEach [a, b] X.env = (false, eval a X.env) :: starEach [b] X.env := by rfl) (hst2 : starEach [b] X.env = (false, eval b X.env) :: starEach [] X.env := by rfl)
    (hs : swapsWithSole [.Tuple [.Name x px, .Name y py] kt pt] (.Tuple [a, b] k2 pt2) pos.line X.env = pure false := by rfl) :
    PS X (.Assign [.Tuple [.Name x px, .Name y py] kt pt] (.Tuple [a, b] k2 pt2) pos) (tS F (par2 i j ma mb)) := by
  refine ps_weak (ps_asg (pe_tup (pa_cons ha (pa_cons hb pa_nil hst2) hst)) (pg_tup hc (pgs_cons (pg_name (i := i) hN hi hx hfx) (pgs_cons (pg_name (i := j) hN hj hy hfy) pgs_nil))) hs hw) fun D σ H q => ?_
  obtain ⟨e, S, r, q⟩ := q
  refine ⟨e, S, r, ?_⟩
  simp only [par2, bndS] at q
  cases h : ma e with
  | bad => rw [h] at q; exact q
  | err x => rw [h] at q; exact q
  | ok oa e1 =>
    simp only [h] at q
    refine fun v H1 S1 r1 t1 k1 => ⟨e1, S1, r1, ?_⟩
    cases h2 : mb e1 with
    | bad => rw [h2] at q; exact q
    | err x => rw [h2] at q; exact q
    | ok ob e2 =>
      simp only [h2] at q
      refine fun u H2 S2 r2 t2 k2 => ?_
      refine ⟨by rw [line_eq]; show 2 ≤ 16777216; decide, fun w hw => ⟨w, [v, u], rfl, SqT.of upd_same, rfl, v, [u], rfl, u, [], rfl, rfl, ?_⟩⟩
      have r3 := r2.new (o := .tup [v, u]) hw
      have t3 : Stp e2 S2 σ H2 e2 S2 (upd H2 w (.tup [v, u])) := .alloc hw
      refine put2_ok (e0 := e) (S0 := S) (D' := D) r3 ((k1.keep r1 t2).keep r2 t3) (k2.keep r2 t3) (fun x p hx hv => ?_) (PostS.kp (((r.kp t1).trans (r1.kp t2)).trans (r2.kp t3)) q)
      subst hx hv
      obtain ⟨p', e', _, _, _, _, tp⟩ := k1
      cases e'
      obtain ⟨ob', ho, _⟩ := tp.obj
      rw [ho]; exact fun z => nomatch z
end

abbrev MG := D → Env → Option Env
abbrev MGs := List D → Env → Option Env
def tG (F : Fx) (m : MG) (vs : List Nat) : TG := fun v σ H Q => ∃ e S d e1, R F e S σ H ∧ Rep F.K S H v d ∧ m d e = some e1 ∧
  ∀ σ1, R F e1 S σ1 H → (∀ j, j ∉ vs → σ1[j]? = σ[j]?) → Q σ1 H
def tGs (F : Fx) (m : MGs) (vs : List Nat) : TGs := fun us σ H Q => ∃ e S ds e1, R F e S σ H ∧ Reps F.K S H us ds ∧ m ds e = some e1 ∧
  ∀ σ1, R F e1 S σ1 H → (∀ j, j ∉ vs → σ1[j]? = σ[j]?) → Q σ1 H
def tgN (i : Nat) : MG := fun d e => setSl i (.val d) e
def tgNil : MGs := fun ds e => match ds with
  | [] => some e
  | _ => none
def tgCons (m : MG) (ms : MGs) : MGs := fun ds e => match ds with
  | d :: ds => (match m d e with
    | some e1 => ms ds e1
    | none => none)
  | [] => none
def tgTup (n : Nat) (ms : MGs) : MG := fun d e => match d with
  | .tup ds => if ds.length = n then ms ds e else none
  | .kt ds => if ds.length = n then ms ds e else none
  | _ => none
section
variable {X : Cx} {F : Fx} {m : MG} {ms : MGs} {vs ws : List Nat} {pos : Pos}
theorem pg_weak {tg : Expr} {t t' : TG} (h : PG X tg t) (w : ∀ v σ H Q, t' v σ H Q → t v σ H Q) : PG X tg t' := ⟨fun pins s σ H v u Q I r q => h.run pins s σ H v u Q I r (w v σ H Q q)⟩
theorem pgs_weak {tg : List Expr} {t t' : TGs} (h : PGs X tg t) (w : ∀ v σ H Q, t' v σ H Q → t v σ H Q) : PGs X tg t' := ⟨fun pins s σ H v u Q I r q => h.run pins s σ H v u Q I r (w v σ H Q q)⟩
theorem dg_name (i : Nat) {x : Str} (hN : X.N.Nodup) (hi : X.N[i]? = some x) (hx : Loc X.env.scope x) (hf : X.fn x = true ∨ X.env.scope.names.lookup x = some .local := by first | exact .inl rfl | exact .inr rfl | assumption) : PG X (.Name x pos) (tG F (tgN i) [i]) := by
  refine pg_weak (pg_name (i := i) hN hi hx hf) fun v σ H Q ⟨e, S, d, e1, r, k, h, q⟩ => ?_
  exact q _ (r.put h (show SlV F e S σ H v (.val d) from k)) fun j hj => List.getElem?_set_ne (fun z => hj (by simp [z]))
theorem dgs_nil : PGs X [] (tGs F tgNil []) := by
  refine pgs_weak pgs_nil fun us σ H Q ⟨e, S, ds, e1, r, k, h, q⟩ => ?_
  cases k with
  | nil => cases h; exact ⟨rfl, q σ r fun _ _ => rfl⟩
  | cons _ _ => cases h
theorem dgs_cons {tg : Expr} {tgs : List Expr} (h1 : PG X tg (tG F m vs)) (h2 : PGs X tgs (tGs F ms ws)) (hs : (assignEach (tg :: tgs) X.env).map (·.2) = assign tg X.env :: (assignEach tgs X.env).map (·.2) := by rfl) : PGs X (tg :: tgs) (tGs F (tgCons m ms) (vs ++ ws)) := by
  refine pgs_weak (pgs_cons h1 h2 hs) fun us σ H Q ⟨e, S, ds, e1, r, k, h, q⟩ => ?_
  cases k with
  | nil => cases h
  | @cons v vs' d ds' k ks =>
    simp only [tgCons] at h
    split at h
    · rename_i e2 h3
      exact ⟨_, _, rfl, e, S, d, e2, r, k, h3, fun σ1 r1 s1 => ⟨e2, S, ds', e1, r1, ks, h, fun σ2 r2 s2 => q σ2 r2 fun j hj => (s2 j fun z => hj (List.mem_append_right _ z)).trans (s1 j fun z => hj (List.mem_append_left _ z))⟩⟩
    · cases h
theorem dg_tup {tgs : List Expr} {k : Nat} {n : Nat} (hc : X.calm = true) (hK : F.K = X.K) (h : PGs X tgs (tGs F ms vs)) (hn : (assignEach tgs X.env).length = n := by rfl) (hst : (assignEach tgs X.env).findIdx? (·.1) = none := by rfl) : PG X (.Tuple tgs k pos) (tG F (tgTup n ms) vs) := by
  refine pg_weak (pg_tup hc h hn hst) fun v σ H Q ⟨e, S, d, e1, r, kk, hh, q⟩ => ?_
  unfold tgTup at hh
  split at hh
  · split at hh
    · rename_i ds hl
      cases kk with
      | tup hp qq => exact ⟨_, _, rfl, SqT.of hp, qq.length.trans hl, e, S, _, e1, r, qq, hh, q⟩
    · cases hh
  · split at hh
    · rename_i ds hl
      cases kk with
      | kt hp qq => exact ⟨_, _, rfl, .inr (by rw [← hK]; exact hp), qq.length.trans hl, e, S, _, e1, r, qq, hh, q⟩
    · cases hh
  · cases hh
end

theorem pe_sz {X : Cx} {ex : Expr} {t : TE} (h : PE X ex t) : PE X ex (fun σ H Q => t σ H fun x H1 => (∀ a xs, x = .ref a → (SqL X.K H1 a xs ∨ SqT X.K H1 a xs) → xs.length ≤ 16777216) → Q x H1) := by
  refine ⟨fun pins s σ H Q I q => thn (h.run pins s σ H _ I q) fun v s1 ⟨x, H1, I1, r1, q1⟩ => ⟨x, H1, I1, r1, q1 fun a xs e z => ?_⟩⟩
  rw [← line_eq]
  rcases z with z | z
  · exact (I1.list z).choose_spec.2.2
  · exact (I1.tuple z).choose_spec.2.2
structure Yld (F : Fx) (S1 : Addr → Prop) (H1 : Hp) (J : It) (ds : List D) : Prop where
  go : ∀ S H i d, Kp S1 H1 S H → ds[i]? = some d → J.go i H ∧ ∀ x H', J.yld i H x H' → (H' = H ∨ ∃ T o, H T = none ∧ H' = upd H T o) ∧ Rep F.K S H' x d
  stop : ∀ S H, Kp S1 H1 S H → J.stop ds.length H
  len : ds.length ≤ 16777216
def tI (F : Fx) (m : M (List D)) : TI := fun σ H Q => ∃ e S, R F e S σ H ∧ match m e with
  | .ok ds e1 => ∀ J H1 S1, R F e1 S1 σ H1 → Stp e S σ H e1 S1 H1 → Yld F S1 H1 J ds → Q J H1
  | .err x => Acc F x
  | .bad => False
def itS (m : M Od) : M (List D) := bnd m fun o e => match leak1 o e with
  | some (.lst ds, e1) => .ok ds e1
  | _ => .bad
def itT (m : M Od) : M (List D) := bnd m fun o e => match o with
  | .d (.tup ds) => .ok ds e
  | .d (.kt ds) => .ok ds e
  | _ => .bad
def rangeD (lo : Int) (n : Nat) : List D := (List.range n).map fun i => .int (lo + (i : Nat))
def mid (j : Int) : Bool := decide (-8388608 ≤ j ∧ j ≤ 8388608)
def itR1 (ms : M (List Od)) : M (List D) := bnd ms fun os e => match resS os e with
  | some [.int j] => if mid j then .ok (rangeD 0 j.toNat) e else .bad
  | _ => .bad
def itR2 (ms : M (List Od)) : M (List D) := bnd ms fun os e => match resS os e with
  | some [.int i, .int j] => if mid i && mid j then .ok (rangeD i (j - i).toNat) e else .bad
  | _ => .bad
section
variable {X : Cx} {F : Fx} {m : M Od} {ms : M (List Od)} {tg ex : Expr} {pos p : Pos}
theorem pi_weak {t t' : TI} (h : PI X tg ex t) (w : ∀ σ H Q, t' σ H Q → t σ H Q) : PI X tg ex t' := ⟨fun pins s σ H Q I q => h.run pins s σ H Q I (w σ H Q q)⟩
theorem yld_list {K : PySem.W.Frag} (hK : F.K = K) {S : Addr → Prop} {H : Hp} {p : Addr} {xs : List V} {ds : List D} (hp : H p = some (.lst xs)) (hs : S p) (q : Reps F.K S H xs ds) (hz : xs.length ≤ 16777216) : Yld F S H (Itl K p) ds := by
  subst hK
  refine ⟨fun S1 H1 i d k h => ?_, fun S1 H1 k => ?_, by rw [← q.length]; exact hz⟩
  · have hp1 := k.keep _ _ hp (.inl hs)
    obtain ⟨v, h1, h2⟩ := (q.kp k).get h
    refine ⟨⟨xs, v, SqL.of hp1, h1⟩, fun x H' ⟨e, y⟩ => ⟨.inl e, ?_⟩⟩
    subst e
    have := y xs (SqL.of hp1)
    rw [h1] at this; cases this
    exact h2
  · exact ⟨xs, SqL.of (k.keep _ _ hp (.inl hs)), by rw [q.length]; exact Nat.le_refl _⟩
theorem yld_tup {K : PySem.W.Frag} (hK : F.K = K) {S : Addr → Prop} {H : Hp} {p : Addr} {xs : List V} {ds : List D} (hp : ∀ S1 H1, Kp S H S1 H1 → SqT K H1 p xs) (q : Reps F.K S H xs ds) (hz : xs.length ≤ 16777216) : Yld F S H (Itt K p) ds := by
  subst hK
  refine ⟨fun S1 H1 i d k h => ?_, fun S1 H1 k => ?_, by rw [← q.length]; exact hz⟩
  · have hp1 := hp S1 H1 k
    obtain ⟨v, h1, h2⟩ := (q.kp k).get h
    refine ⟨⟨xs, v, hp1, h1⟩, fun x H' ⟨e, y⟩ => ⟨.inl e, ?_⟩⟩
    subst e
    have := y xs hp1
    rw [h1] at this; cases this
    exact h2
  · exact ⟨xs, hp S1 H1 k, by rw [q.length]; exact Nat.le_refl _⟩
theorem yld_range {S : Addr → Prop} {H : Hp} (lo : Int) (n : Nat) (hz : n ≤ 16777216) : Yld F S H (Itr lo n) (rangeD lo n) := by
  refine ⟨fun S1 H1 i d k h => ?_, fun S1 H1 k => ?_, by simpa [rangeD] using hz⟩
  · unfold rangeD at h
    rw [List.getElem?_map] at h
    by_cases hi : i < n
    · rw [List.getElem?_range hi] at h
      cases h
      refine ⟨hi, fun x H' ⟨e, y⟩ => ⟨.inl e, ?_⟩⟩
      subst e y
      exact .int _
    · rw [List.getElem?_eq_none (by simpa using Nat.le_of_not_lt hi)] at h; cases h
  · show n ≤ _
    simp [rangeD]
theorem di_list (hK : F.K = X.K) (h : PE X ex (tE F m)) : PI X tg ex (tI F (itS m)) := by
  refine pi_weak (pi_list (pe_sz h)) fun σ H Q ⟨e, S, r, q⟩ => ⟨e, S, r, ?_⟩
  simp only [itS, bnd] at q
  cases h : m e with
  | bad => rw [h] at q; exact q
  | err x => rw [h] at q; exact q
  | ok o e1 =>
    simp only [h] at q
    refine fun v H1 S1 r1 t1 k1 sz => ?_
    cases hl : leak1 o e1 with
    | none => rw [hl] at q; exact q.elim
    | some pr =>
      obtain ⟨d, e2⟩ := pr
      rw [hl] at q
      obtain ⟨S2, r2, t2, kk⟩ := leak1_ok r1 t1 k1 hl
      cases d with
      | lst ds =>
        cases kk with
        | lst hp hs qq => exact ⟨_, rfl, ⟨_, SqL.of hp⟩, q _ H1 S2 r2 t2 (yld_list hK hp hs qq (sz _ _ rfl (.inl (SqL.of hp))))⟩
      | _ => exact q.elim
theorem di_tup (hK : F.K = X.K) (h : PE X ex (tE F m)) : PI X tg ex (tI F (itT m)) := by
  refine pi_weak (pi_tup (pe_sz h)) fun σ H Q ⟨e, S, r, q⟩ => ⟨e, S, r, ?_⟩
  simp only [itT, bnd] at q
  cases h : m e with
  | bad => rw [h] at q; exact q
  | err x => rw [h] at q; exact q
  | ok o e1 =>
    simp only [h] at q
    refine fun v H1 S1 r1 t1 k1 sz => ?_
    cases o with
    | f _ => exact q.elim
    | s _ => exact q.elim
    | d d =>
      cases d with
      | tup ds =>
        have kk : Rep F.K S1 H1 v (.tup ds) := k1
        cases kk with
        | tup hp qq => exact ⟨_, rfl, ⟨_, SqT.of hp⟩, q _ H1 S1 r1 t1 (yld_tup hK (fun S2 H2 k => SqT.of (k.keep _ _ hp (.inr (.inl ⟨_, rfl⟩)))) qq (sz _ _ rfl (.inr (SqT.of hp))))⟩
      | kt ds =>
        have kk : Rep F.K S1 H1 v (.kt ds) := k1
        cases kk with
        | kt hp qq =>
          rw [hK] at hp
          exact ⟨_, rfl, ⟨_, .inr hp⟩, q _ H1 S1 r1 t1 (yld_tup hK (fun S2 H2 k => .inr hp) qq (sz _ _ rfl (.inr (.inr hp))))⟩
      | _ => exact q.elim
theorem mid_ok {j : Int} (h : mid j = true) : -(2 ^ 62) ≤ j ∧ j < 2 ^ 62 ∧ -8388608 ≤ j ∧ j ≤ 8388608 := by
  have := of_decide_eq_true h
  omega
theorem di_r1 {a : Expr} (hg : Gl X "range") (hm : X.mg "range" = none) (ha : PA X [a] (tA F ms)) (hs : starEach [a] X.env = [(false, eval a X.env)] := by rfl) : PI X tg (.Call (.Name "range" p) [a] [] pos) (tI F (itR1 ms)) := by
  refine pi_weak (pi_range1 hg hm ha hs) fun σ H Q ⟨e, S, r, q⟩ => ⟨e, S, r, ?_⟩
  simp only [itR1, bnd] at q
  cases h : ms e with
  | bad => rw [h] at q; exact q
  | err x => rw [h] at q; exact q
  | ok os e1 =>
    simp only [h] at q
    refine fun vs H1 S1 r1 t1 k1 => ?_
    split at q
    · rename_i ds e2 hm
      split at hm
      · rename_i j hr
        split at hm
        · rename_i hj; cases hm
          obtain ⟨v, rfl, rx⟩ := (resS_ok r1 k1 hr).one
          cases rx.int
          obtain ⟨h1, h2, h3, h4⟩ := mid_ok hj
          exact ⟨j, rfl, h1, h2, q _ H1 S1 r1 t1 (yld_range 0 _ (by omega))⟩
        · cases hm
      · cases hm
    · rename_i hm; split at hm
      · split at hm <;> cases hm
      · cases hm
    · exact q.elim
theorem di_r2 {a b : Expr} (hg : Gl X "range") (hm : X.mg "range" = none) (ha : PA X [a, b] (tA F ms)) (hs : starEach [a, b] X.env = [(false, eval a X.env), (false, eval b X.env)] := by rfl) (hs2 : starEach [b] X.env = [(false, eval b X.env)] := by rfl) : PI X tg (.Call (.Name "range" p) [a, b] [] pos) (tI F (itR2 ms)) := by
  refine pi_weak (pi_range2 hg hm ha hs hs2) fun σ H Q ⟨e, S, r, q⟩ => ⟨e, S, r, ?_⟩
  simp only [itR2, bnd] at q
  cases h : ms e with
  | bad => rw [h] at q; exact q
  | err x => rw [h] at q; exact q
  | ok os e1 =>
    simp only [h] at q
    refine fun vs H1 S1 r1 t1 k1 => ?_
    split at q
    · rename_i ds e2 hm
      split at hm
      · rename_i i j hr
        split at hm
        · rename_i hj; cases hm
          obtain ⟨v, u, rfl, rx, ry⟩ := (resS_ok r1 k1 hr).two
          cases rx.int; cases ry.int
          rw [Bool.and_eq_true] at hj
          obtain ⟨h1, h2, h5, h6⟩ := mid_ok hj.1
          obtain ⟨h3, h4, h7, h8⟩ := mid_ok hj.2
          exact ⟨i, j, rfl, ⟨h1, h2, h3, h4⟩, q _ H1 S1 r1 t1 (yld_range i _ (by omega))⟩
        · cases hm
      · cases hm
    · rename_i hm; split at hm
      · split at hm <;> cases hm
      · cases hm
    · exact q.elim
end

def forL (mg : MG) (mb : MS) : List D → MS
  | [], e => .nx e
  | d :: ds, e => match mg d e with
    | none => .bad
    | some e1 => match mb e1 with
      | .nx e2 => forL mg mb ds e2
      | .ct e2 => forL mg mb ds e2
      | .bk e2 => .nx e2
      | .rt o e2 => .rt o e2
      | .err x => .err x
      | .bad => .bad
def forS (mi : M (List D)) (mg : MG) (mb : MS) : MS := bndS mi fun ds => forL mg mb ds
section
variable {X : Cx} {F : Fx} {mi : M (List D)} {mg : MG} {mb : MS} {vs : List Nat} {tg iter : Expr} {body : List Stmt} {pos : Pos}
theorem ds_for (hp : PassesOwn (model X.prog X.w) X.A X.env X.xe) (hc : X.calm = true) (hi : PI X tg iter (tI F mi)) (hg : PG X tg (tG F mg vs)) (hb : PSs X body (tS F mb))
    (hs : ∀ x, foldedSetIterable iter X.env x = pure x := by intro _; rfl) : PS X (.For tg iter body [] pos) (tS F (forS mi mg mb)) := by
  refine ps_weak (ps_for hp hc hi hg hb hs) fun D σ H ⟨e, S, r, q⟩ => ⟨e, S, r, ?_⟩
  simp only [forS, bndS] at q
  cases h : mi e with
  | bad => rw [h] at q; exact q
  | err x => rw [h] at q; exact q
  | ok ds e1 =>
    simp only [h] at q
    refine fun J H1 S1 r1 t1 Y => ?_
    have q : PostS F D S1 H1 (forL mg mb ds e1) := PostS.kp (r.kp t1) q
    refine ⟨fun i m σ H => m = ds.length - i ∧ i ≤ ds.length ∧ ∃ e S, R F e S σ H ∧ Kp S1 H1 S H ∧ PostS F D S1 H1 (forL mg mb (ds.drop i) e), ⟨ds.length, by simp, Nat.zero_le _, e1, S1, r1, .refl _ _, by simpa using q⟩, ?_⟩
    rintro i m σ2 H2 ⟨rfl, hi, e2, S2, r2, k2, q2⟩
    by_cases hlt : i < ds.length
    · have hd : ds[i]? = some ds[i] := by simp [hlt]
      rw [List.drop_eq_getElem_cons hlt] at q2
      simp only [forL] at q2
      obtain ⟨g1, g2⟩ := Y.go S2 H2 i _ k2 hd
      refine .inr ⟨g1, fun σ' H' => ∃ e S, R F e S σ' H' ∧ Kp S1 H1 S H' ∧ PostS F D S1 H1 (forL mg mb (ds.drop (i + 1)) e), fun σ' H' z => ⟨ds.length - (i + 1), by omega, rfl, hlt, z⟩, fun x H' y => ?_⟩
      obtain ⟨hH, kx⟩ := g2 x H' y
      have r2' : R F e2 S2 σ2 H' := by
        rcases hH with rfl | ⟨T, o, hT, rfl⟩
        · exact r2
        · exact r2.new hT
      have k2' : Kp S1 H1 S2 H' := by
        rcases hH with rfl | ⟨T, o, hT, rfl⟩
        · exact k2
        · exact k2.trans (kp_new hT)
      cases h3 : mg ds[i] e2 with
      | none => rw [h3] at q2; exact q2.elim
      | some e3 =>
        simp only [h3] at q2
        refine ⟨e2, S2, ds[i], e3, r2', kx, h3, fun σ3 r3 _ => ⟨e3, S2, r3, ?_⟩⟩
        cases h4 : mb e3 with
        | nx e4 => rw [h4] at q2; exact fun σ4 H4 S4 r4 k4 => ⟨e4, S4, r4, k2'.trans k4, q2⟩
        | ct e4 => rw [h4] at q2; exact fun σ4 H4 S4 r4 k4 => ⟨e4, S4, r4, k2'.trans k4, q2⟩
        | bk e4 => rw [h4] at q2; exact fun σ4 H4 S4 r4 k4 => q2 σ4 H4 S4 r4 (k2'.trans k4)
        | rt o e4 => rw [h4] at q2; exact q2
        | err x => rw [h4] at q2; exact q2
        | bad => rw [h4] at q2; exact q2
    · have e0 : i = ds.length := by omega
      subst e0
      rw [List.drop_length] at q2
      exact .inl ⟨Y.stop S2 H2 k2, q2 σ2 H2 S2 r2 k2⟩
end
end DL

set_option maxRecDepth 100000
set_option maxHeartbeats 4000000
namespace DL
open PySem PySem.Spec L2
open PyProof.Rows hiding St

def MGOk (m : MG) : Prop := ∀ d e e1, m d e = some e1 → e1.length = e.length ∧ ∀ (j : Nat) (s : Sl), e1[j]? = some s → Mine s → e[j]? = some s
def MGsOk (m : MGs) : Prop := ∀ ds e e1, m ds e = some e1 → e1.length = e.length ∧ ∀ (j : Nat) (s : Sl), e1[j]? = some s → Mine s → e[j]? = some s
theorem mg_name (i : Nat) : MGOk (tgN i) := fun d e e1 h => by
  obtain ⟨hl, rfl⟩ := setSl_len h
  refine ⟨List.length_set, fun j s h1 m => ?_⟩
  by_cases hj : j = i
  · subst hj
    rw [List.getElem?_set_self hl] at h1; cases h1; exact m.elim
  · rw [List.getElem?_set_ne (Ne.symm hj)] at h1; exact h1
theorem mg_nil : MGsOk tgNil := fun ds e e1 h => by
  cases ds with
  | nil => cases h; exact ⟨rfl, fun _ _ h1 _ => h1⟩
  | cons _ _ => cases h
theorem mg_cons {m : MG} {ms : MGs} (a : MGOk m) (b : MGsOk ms) : MGsOk (tgCons m ms) := fun ds e e1 h => by
  cases ds with
  | nil => cases h
  | cons d ds =>
    simp only [tgCons] at h
    split at h
    · rename_i e2 h2
      obtain ⟨l1, a1⟩ := a _ _ _ h2
      obtain ⟨l2, b1⟩ := b _ _ _ h
      exact ⟨l2.trans l1, fun j s h1 mm => a1 j s (b1 j s h1 mm) mm⟩
    · cases h
theorem mg_tup {n : Nat} {ms : MGs} (b : MGsOk ms) : MGOk (tgTup n ms) := fun d e e1 h => by
  unfold tgTup at h
  split at h
  · split at h
    · exact b _ _ _ h
    · cases h
  · split at h
    · exact b _ _ _ h
    · cases h
  · cases h
def wipeE (e : Env) : List Nat → Env
  | [] => e
  | v :: vs => (wipeE e vs).set v .no
def restE (e0 : Env) (e : Env) : List Nat → Env
  | [] => e
  | v :: vs => (restE e0 e vs).set v (match e0[v]? with
    | some (.val d) => .val d
    | _ => .no)
def lcL (mg : MG) (mc : M Bool) (me : M Od) (vs : List Nat) : List D → List D → M (List D)
  | [], acc, e => .ok acc e
  | d :: ds, acc, e => match mg d e with
    | none => .bad
    | some e1 => match mc e1 with
      | .ok true e2 => (match me e2 with
        | .ok o e3 => (match leak1 o e3 with
          | some (x, e4) => lcL mg mc me vs ds (acc ++ [x]) (wipeE e4 vs)
          | none => .bad)
        | _ => .bad)
      | .ok false e2 => lcL mg mc me vs ds acc (wipeE e2 vs)
      | _ => .bad
def lc (mi : M (List D)) (mg : MG) (mc : M Bool) (me : M Od) (vs : List Nat) : M Od := bnd mi fun ds e1 => match lcL mg mc me vs ds [] (wipeE e1 vs) with
  | .ok acc e2 => .ok (.f (.lst acc)) (restE e1 e2 vs)
  | _ => .bad
def yesT : M Bool := fun e => .ok true e
section
variable {F : Fx} {e e1 e2 : Env} {S S1 S2 : Addr → Prop} {σ : St} {H H1 H2 : Hp} {vs : List Nat}
theorem wipeE_len (e : Env) : ∀ vs : List Nat, (wipeE e vs).length = e.length
  | [] => rfl
  | v :: vs => by unfold wipeE; rw [List.length_set, wipeE_len e vs]
theorem wipeE_out {j : Nat} : ∀ {vs : List Nat}, j ∉ vs → (wipeE e vs)[j]? = e[j]?
  | [], _ => rfl
  | v :: vs, h => by
    unfold wipeE
    simp only [List.mem_cons, not_or] at h
    rw [List.getElem?_set_ne (fun z => h.1 z.symm), wipeE_out h.2]
theorem wipeE_in {j : Nat} {s : Sl} : ∀ {vs : List Nat}, j ∈ vs → (wipeE e vs)[j]? = some s → s = .no
  | v :: vs, h, q => by
    unfold wipeE at q
    by_cases hj : v = j
    · subst hj
      by_cases hl : v < (wipeE e vs).length
      · rw [List.getElem?_set_self hl] at q; exact (Option.some.inj q).symm
      · rw [List.getElem?_eq_none (by simpa using hl)] at q; cases q
    · rw [List.getElem?_set_ne hj] at q
      rcases List.mem_cons.mp h with z | z
      · exact absurd z.symm hj
      · exact wipeE_in z q
theorem wipe_in {j : Nat} {s : Option V} : ∀ {vs : List Nat}, j ∈ vs → (wipe σ vs)[j]? = some s → s = none
  | v :: vs, h, q => by
    unfold wipe at q
    by_cases hj : v = j
    · subst hj
      by_cases hl : v < (wipe σ vs).length
      · rw [List.getElem?_set_self hl] at q; exact (Option.some.inj q).symm
      · rw [List.getElem?_eq_none (by simpa using hl)] at q; cases q
    · rw [List.getElem?_set_ne hj] at q
      rcases List.mem_cons.mp h with z | z
      · exact absurd z.symm hj
      · exact wipe_in z q
theorem restE_len (e0 e : Env) : ∀ vs : List Nat, (restE e0 e vs).length = e.length
  | [] => rfl
  | v :: vs => by unfold restE; rw [List.length_set, restE_len e0 e vs]
theorem restE_out {e0 : Env} {j : Nat} : ∀ {vs : List Nat}, j ∉ vs → (restE e0 e vs)[j]? = e[j]?
  | [], _ => rfl
  | v :: vs, h => by
    unfold restE
    simp only [List.mem_cons, not_or] at h
    rw [List.getElem?_set_ne (fun z => h.1 z.symm), restE_out h.2]
theorem restE_in {e0 : Env} {j : Nat} {s : Sl} : ∀ {vs : List Nat}, j ∈ vs → (restE e0 e vs)[j]? = some s → s = .no ∨ ∃ d, s = .val d ∧ e0[j]? = some (.val d)
  | v :: vs, h, q => by
    unfold restE at q
    by_cases hj : v = j
    · subst hj
      by_cases hl : v < (restE e0 e vs).length
      · rw [List.getElem?_set_self hl] at q
        cases q
        split
        · rename_i d hd; exact .inr ⟨d, rfl, hd⟩
        · exact .inl rfl
      · rw [List.getElem?_eq_none (by simpa using hl)] at q; cases q
    · rw [List.getElem?_set_ne hj] at q
      rcases List.mem_cons.mp h with z | z
      · exact absurd z.symm hj
      · exact restE_in z q
theorem wipe_same {σ' : St} (h : ∀ j, j ∉ vs → σ'[j]? = (wipe σ vs)[j]?) (hl : σ'.length = σ.length) : wipe σ' vs = wipe σ vs := by
  apply List.ext_getElem?
  intro j
  by_cases hj : j ∈ vs
  · have h1 : (wipe σ' vs).length = (wipe σ vs).length := by rw [wipe_length, wipe_length, hl]
    cases q : (wipe σ' vs)[j]? with
    | none =>
      rw [List.getElem?_eq_none_iff] at q
      exact (List.getElem?_eq_none (by rw [← h1]; exact q)).symm
    | some s =>
      cases q' : (wipe σ vs)[j]? with
      | none =>
        rw [List.getElem?_eq_none_iff] at q'
        rw [List.getElem?_eq_none (by rw [h1]; exact q')] at q
        cases q
      | some s' => rw [wipe_in hj q, wipe_in hj q']
  · rw [wipe_out hj, h j hj]
theorem R.wipe (r : R F e S σ H) (vs : List Nat) : R F (wipeE e vs) S (L2.wipe σ vs) H := by
  refine ⟨by rw [wipeE_len, wipe_length]; exact r.len, r.base, r.s0, r.s1, r.s2, r.there, fun j s o h1 h2 => ?_, fun i j s t p h1 h2 m1 m2 h3 h4 => ?_, fun j d h1 => ?_⟩
  · by_cases hj : j ∈ vs
    · rw [wipeE_in hj h1]; trivial
    · rw [wipeE_out hj] at h1
      rw [wipe_out hj] at h2
      exact r.sl j s o h1 h2
  · by_cases hi : i ∈ vs
    · rw [wipeE_in hi h1] at m1; exact m1.elim
    · by_cases hj : j ∈ vs
      · rw [wipeE_in hj h2] at m2; exact m2.elim
      · rw [wipeE_out hi] at h1
        rw [wipe_out hi] at h3
        rw [wipeE_out hj] at h2
        rw [wipe_out hj] at h4
        exact r.dis i j s t p h1 h2 m1 m2 h3 h4
  · by_cases hj : j ∈ vs
    · cases wipeE_in hj h1
    · rw [wipeE_out hj] at h1
      rw [wipe_out hj]
      exact r.fix j d h1
theorem held_wipe {p : Addr} (h : Held (wipeE e vs) (L2.wipe σ vs) p) : Held e σ p := by
  obtain ⟨j, s, h1, m, h2⟩ := h
  by_cases hj : j ∈ vs
  · rw [wipeE_in hj h1] at m; exact m.elim
  · rw [wipeE_out hj] at h1
    rw [wipe_out hj] at h2
    exact ⟨j, s, h1, m, h2⟩
theorem wipe_wipe : wipeE (wipeE e vs) vs = wipeE e vs := by
  apply List.ext_getElem?
  intro j
  by_cases hj : j ∈ vs
  · cases q : (wipeE (wipeE e vs) vs)[j]? with
    | none =>
      rw [List.getElem?_eq_none_iff, wipeE_len] at q
      exact (List.getElem?_eq_none q).symm
    | some s =>
      cases q' : (wipeE e vs)[j]? with
      | none =>
        rw [List.getElem?_eq_none_iff] at q'
        rw [List.getElem?_eq_none (by rw [wipeE_len]; exact q')] at q
        cases q
      | some s' => rw [wipeE_in hj q, wipeE_in hj q']
  · rw [wipeE_out hj]
theorem R.chg (r : R F e S σ H) {p : Addr} {o : HO} (hp : H p ≠ none) (ns : ¬ S p) (nh : ¬ Held e σ p) (h0 : F.H0 p = none) (ni : ∀ u, H p = some u → ¬ Imm u) : R F e S σ (upd H p o) := by
  have k : Kp S H S (upd H p o) := ⟨fun _ z => z, fun q u hq z => by
    rw [upd_ne]
    · exact hq
    · rintro rfl
      rcases z with z | z
      · exact ns z
      · exact ni _ hq z⟩
  refine ⟨r.len, fun b u h nb => ?_, r.s0, r.s1, fun q h => ?_, fun q h => ?_, fun i s u h1 h2 => (r.sl i s u h1 h2).kp k fun q m z => ⟨upd_ne ?_, ?_⟩, r.dis, r.fix⟩
  · rw [upd_ne]
    · exact r.base b u h nb
    · rintro rfl; rw [h0] at h; cases h
  · by_cases z : q = p
    · rw [z, upd_same]; exact fun z => nomatch z
    · rw [upd_ne z]; exact r.s2 q h
  · by_cases z : q = p
    · rw [z, upd_same]; exact fun z => nomatch z
    · rw [upd_ne z]; exact r.there q h
  · rintro rfl; exact nh ⟨i, s, h1, m, by rw [h2, z]⟩
  · exact (r.heldOk ⟨i, s, h1, m, by rw [h2, z]⟩).1
theorem kp_chg {p : Addr} {o : HO} (ns : ¬ S p) (ni : ∀ u, H p = some u → ¬ Imm u) : Kp S H S (upd H p o) := ⟨fun _ z => z, fun q u hq z => by
    rw [upd_ne]
    · exact hq
    · rintro rfl
      rcases z with z | z
      · exact ns z
      · exact ni _ hq z⟩
theorem lst_ni {xs : List V} {u : HO} (h : H1 = H1) (e : HO.lst xs = u) : ¬ Imm u := by
  subst e
  rintro (⟨_, z⟩ | ⟨_, _, z⟩) <;> cases z
theorem R.rest (r1 : R F e1 S1 σ H1) (r : R F e S (L2.wipe σ vs) H) (k : Kp S1 H1 S H) : R F (restE e1 e vs) S σ H := by
  refine ⟨by rw [restE_len, r.len, wipe_length], r.base, r.s0, r.s1, r.s2, r.there, fun j s o h1 h2 => ?_, fun i j s t p h1 h2 m1 m2 h3 h4 => ?_, fun j d h1 => ?_⟩
  · by_cases hj : j ∈ vs
    · rcases restE_in hj h1 with rfl | ⟨d, rfl, hd⟩
      · trivial
      · obtain ⟨v, q1, q2⟩ := r1.sl j _ _ hd h2
        exact ⟨v, q1, q2.kp k⟩
    · rw [restE_out hj] at h1
      exact r.sl j s o h1 (by rw [wipe_out hj]; exact h2)
  · by_cases hi : i ∈ vs
    · rcases restE_in hi h1 with rfl | ⟨d, rfl, _⟩ <;> exact m1.elim
    · by_cases hj : j ∈ vs
      · rcases restE_in hj h2 with rfl | ⟨d, rfl, _⟩ <;> exact m2.elim
      · rw [restE_out hi] at h1
        rw [restE_out hj] at h2
        exact r.dis i j s t p h1 h2 m1 m2 (by rw [wipe_out hi]; exact h3) (by rw [wipe_out hj]; exact h4)
  · by_cases hj : j ∈ vs
    · rcases restE_in hj h1 with z | ⟨d', z, _⟩ <;> cases z
    · rw [restE_out hj] at h1
      have := r.fix j d h1
      rw [wipe_out hj] at this
      exact this
theorem held_rest {e1 : Env} {p : Addr} (h : Held (restE e1 e vs) σ p) : Held e (L2.wipe σ vs) p := by
  obtain ⟨j, s, h1, m, h2⟩ := h
  by_cases hj : j ∈ vs
  · rcases restE_in hj h1 with rfl | ⟨d, rfl, _⟩ <;> exact m.elim
  · rw [restE_out hj] at h1
    exact ⟨j, s, h1, m, by rw [wipe_out hj]; exact h2⟩
end
section
variable {X : Cx} {F : Fx} {mi : M (List D)} {mg : MG} {mc : M Bool} {me : M Od} {pos : Pos}
theorem dts_nil : PTs X [] (tT F yesT) := by
  refine ⟨fun pins s σ H Q I ⟨e, S, r, q⟩ => pts_nil.run pins s σ H Q I (q H S r (.refl _ _ _ _))⟩
theorem dts_one {c : Expr} (h : PT X c (tT F mc)) : PTs X [c] (tT F mc) := pts_one h
theorem tE_lc {vs vs' : List Nat} (hsub : ∀ j ∈ vs', j ∈ vs) (hmg : MGOk mg) {σ : St} {H : Hp} {Q : VK} (q : tE F (lc mi mg mc me vs) σ H Q) : tLc (tI F mi) (tG F mg vs') (tT F mc) (tE F me) vs σ H Q := by
  obtain ⟨e, S, r, q⟩ := q
  refine ⟨e, S, r, ?_⟩
  simp only [lc, bnd] at q
  cases h : mi e with
  | bad => rw [h] at q; exact q
  | err x => rw [h] at q; exact q
  | ok ds e1 =>
    simp only [h] at q
    refine fun J H1 S1 r1 t1 Y D hD => ?_
    have hlen := Y.len
    let Fin : Out (List _) → Prop := fun out => match out with
      | .ok acc e2 => ∀ v H2 S2, R F (restE e1 e2 vs) S2 σ H2 → Stp e S σ H (restE e1 e2 vs) S2 H2 → OdOk F H (restE e1 e2 vs) S2 σ H2 v (.f (.lst acc)) → Q v H2
      | _ => False
    have q : Fin (lcL mg mc me vs ds [] (wipeE e1 vs)) := by
      show (match lcL mg mc me vs ds [] (wipeE e1 vs) with
        | .ok acc e2 => ∀ v H2 S2, R F (restE e1 e2 vs) S2 σ H2 → Stp e S σ H (restE e1 e2 vs) S2 H2 → OdOk F H (restE e1 e2 vs) S2 σ H2 v (.f (.lst acc)) → Q v H2
        | _ => False)
      revert q
      cases lcL mg mc me vs ds [] (wipeE e1 vs) with
      | ok acc e2 => exact fun z => z
      | err x => exact fun z => z
      | bad => exact fun z => z
    let INV : Nat → Hp → Prop := fun i H2 => ∃ e2 S2 acc xs, R F e2 S2 (wipe σ vs) H2 ∧ Stp (wipeE e1 vs) S1 (wipe σ vs) H1 e2 S2 H2 ∧ H2 D = some (.lst xs) ∧ ¬ S2 D ∧ ¬ Held e2 (wipe σ vs) D ∧ Reps F.K S2 H2 xs acc ∧ xs.length ≤ i ∧ Fin (lcL mg mc me vs (ds.drop i) acc e2)
    refine ⟨fun i m H2 => m = ds.length - i ∧ i ≤ ds.length ∧ INV i H2, ⟨ds.length, by simp, Nat.zero_le _, wipeE e1 vs, S1, [], [], (r1.new hD).wipe vs, .alloc hD, upd_same, r1.nS hD, fun z => r1.nHeld hD (held_wipe z), .nil, Nat.zero_le _, by simpa using q⟩, ?_⟩
    rintro i m H2 ⟨rfl, hi, e2, S2, acc, xs, r2, t2, h2D, nsD, nhD, qa, hxl, q2⟩
    have k2 : Kp S1 H1 S2 H2 := (r1.wipe vs).kp t2
    have h0D : F.H0 D = none := r1.h0 hD
    by_cases hlt : i < ds.length
    · have hd : ds[i]? = some ds[i] := by simp [hlt]
      rw [List.drop_eq_getElem_cons hlt] at q2
      obtain ⟨g1, g2⟩ := Y.go S2 H2 i _ k2 hd
      refine .inr ⟨g1, INV (i + 1), fun H' z => ⟨ds.length - (i + 1), by omega, rfl, hlt, z⟩, fun x H' y => ?_⟩
      obtain ⟨hH, kx⟩ := g2 x H' y
      have tb : Stp e2 S2 (wipe σ vs) H2 e2 S2 H' := by
        rcases hH with rfl | ⟨T, o, hT, rfl⟩
        · exact .refl _ _ _ _
        · exact .alloc hT
      have r2' : R F e2 S2 (wipe σ vs) H' := by
        rcases hH with rfl | ⟨T, o, hT, rfl⟩
        · exact r2
        · exact r2.new hT
      have t2' := t2.trans tb
      have h2D' : H' D = some (.lst xs) := tb.keep _ _ h2D nhD
      have qa' := qa.kp (r2.kp tb)
      simp only [lcL] at q2
      cases h3 : mg ds[i] e2 with
      | none => rw [h3] at q2; exact q2.elim
      | some e3 =>
        simp only [h3] at q2
        refine ⟨e2, S2, ds[i], e3, r2', kx, h3, fun σ3 r3 same => ?_⟩
        obtain ⟨l3, mine3⟩ := hmg _ _ _ h3
        have hσ3 : σ3.length = σ.length := by
          have l1 := r3.len
          have l2 := r2.len
          rw [wipe_length] at l2
          omega
        have ws : wipe σ3 vs = wipe σ vs := wipe_same (fun j hj => same j fun z => hj (hsub j z)) hσ3
        have held3 : ∀ p, Held e3 σ3 p → Held e2 (wipe σ vs) p := by
          rintro p ⟨j, s, g1, m, g2⟩
          have g3 := mine3 j s g1 m
          by_cases hj : j ∈ vs
          · exfalso
            cases q3 : (wipe σ vs)[j]? with
            | none =>
              rw [List.getElem?_eq_none_iff, wipe_length] at q3
              rw [List.getElem?_eq_none (by rw [hσ3]; exact q3)] at g2; cases g2
            | some o =>
              have q4 := r2.sl j s o g3 q3
              have q5 := wipe_in hj q3
              subst q5
              cases s with
              | own d => obtain ⟨p', z, _⟩ := q4; cases z
              | iow d => obtain ⟨p', z, _⟩ := q4; cases z
              | _ => exact m.elim
          · exact ⟨j, s, g3, m, by rw [← same j fun z => hj (hsub j z)]; exact g2⟩
        refine ⟨ws, e3, S2, r3, ?_⟩
        -- the end of a turn
        have turn : ∀ (e6 : Env) (S6 : Addr → Prop) (H5 : Hp), R F e6 S6 σ3 H5 → Stp e3 S2 σ3 H' e6 S6 H5 → R F (wipeE e6 vs) S6 (wipe σ vs) H5 ∧ Stp (wipeE e1 vs) S1 (wipe σ vs) H1 (wipeE e6 vs) S6 H5 ∧ H5 D = some (.lst xs) ∧ ¬ S6 D ∧ ¬ Held (wipeE e6 vs) (wipe σ vs) D := by
          intro e6 S6 H5 r6 t6
          have nh3 : ¬ Held e3 σ3 D := fun z => nhD (held3 D z)
          have back : ∀ p, Held (wipeE e6 vs) (wipe σ vs) p → Held e2 (wipe σ vs) p := fun p z => by
            rw [← ws] at z
            exact held3 p (t6.held p (held_wipe z))
          refine ⟨by rw [← ws]; exact r6.wipe vs, ⟨fun p z => t6.sub p (t2'.sub p z), fun p z => t2'.held p (back p z), fun p o z nz => t6.keep p o (t2'.keep p o z nz) fun z' => nz (t2'.held p (held3 p z')), fun p z => ?_, fun p z => t2'.mono p (t6.mono p z)⟩, t6.keep _ _ h2D' nh3, fun z => ?_, fun z => nhD (back D z)⟩
          · rcases t6.new p z with z | z | z
            · exact t2'.new p z
            · exact .inr (.inl (t2'.mono p z))
            · exact .inr (.inr (t2'.held p (held3 p z)))
          · rcases t6.new D z with z | z | z
            · exact nsD z
            · rw [h2D'] at z; cases z
            · exact nh3 z
        cases h4 : mc e3 with
        | bad => rw [h4] at q2; exact q2.elim
        | err x => rw [h4] at q2; exact q2.elim
        | ok b e4 =>
          rw [h4] at q2
          refine fun H4 S4 r4 t4 => ?_
          cases b with
          | false =>
            rw [if_neg Bool.false_ne_true]
            obtain ⟨a1, a2, a3, a4, a5⟩ := turn e4 S4 H4 r4 t4
            exact ⟨_, S4, acc, xs, a1, a2, a3, a4, a5, qa'.kp (r3.kp t4), Nat.le_succ_of_le hxl, q2⟩
          | true =>
            rw [if_pos rfl]
            refine ⟨e4, S4, r4, ?_⟩
            simp only at q2
            cases h5 : me e4 with
            | bad => rw [h5] at q2; exact q2.elim
            | err x => rw [h5] at q2; exact q2.elim
            | ok o e5 =>
              simp only [h5] at q2
              refine fun y H5 S5 r5 t5 k5 => ?_
              cases hl : leak1 o e5 with
              | none => rw [hl] at q2; exact q2.elim
              | some pr =>
                obtain ⟨d, e6⟩ := pr
                simp only [hl] at q2
                obtain ⟨S6, r6, t6, kd⟩ := leak1_ok r5 t5 k5 hl
                have tt := t4.trans t6
                obtain ⟨a1, a2, a3, a4, a5⟩ := turn e6 S6 H5 r6 tt
                have ni : ∀ u, H5 D = some u → ¬ Imm u := fun u z => by rw [a3] at z; cases z; rintro (⟨_, z⟩ | ⟨_, _, z⟩) <;> cases z
                have kc : Kp S6 H5 S6 (upd H5 D (.lst (xs ++ [y]))) := kp_chg a4 ni
                refine ⟨xs, a3, by rw [line_eq]; omega, wipeE e6 vs, S6, acc ++ [d], xs ++ [y], a1.chg (by rw [a3]; exact fun z => nomatch z) a4 a5 h0D ni, ⟨a2.sub, a2.held, fun p o z nz => ?_, a2.new, fun p z => ?_⟩, upd_same, a4, a5, ((qa'.kp (r3.kp tt)).append (.cons kd .nil)).kp kc, by rw [List.length_append]; simp; omega, q2⟩
                · rw [upd_ne (ne_of_none z hD)]; exact a2.keep p o z nz
                · by_cases hp : p = D
                  · rw [hp]; exact hD
                  · rw [upd_ne hp] at z; exact a2.mono p z
    · have e0 : i = ds.length := by omega
      subst e0
      rw [List.drop_length] at q2
      refine .inl ⟨Y.stop S2 H2 k2, ?_⟩
      have q2 : ∀ v H3 S3, R F (restE e1 e2 vs) S3 σ H3 → Stp e S σ H (restE e1 e2 vs) S3 H3 → OdOk F H (restE e1 e2 vs) S3 σ H3 v (.f (.lst acc)) → Q v H3 := q2
      have back : ∀ p, Held (restE e1 e2 vs) σ p → Held e1 σ p := fun p z => held_wipe (t2.held p (held_rest z))
      refine q2 _ H2 S2 (r1.rest r2 k2) (t1.trans ⟨t2.sub, back, fun p o z nz => t2.keep p o z fun z' => nz (held_wipe z'), fun p z => ?_, t2.mono⟩) ⟨D, rfl, nsD, h0D, t1.mono D hD, fun z => nhD (held_rest z), xs, h2D, qa⟩
      rcases t2.new p z with z | z | z
      · exact .inl z
      · exact .inr (.inl z)
      · exact .inr (.inr (held_wipe z))
theorem de_lc {elt tg iter : Expr} {ifs : List Expr} {scope : Scope} {own : List (Str × Nat)} {vs' : List Nat} (hc : X.calm = true) (hN : X.N.Nodup) (hi : PI X tg iter (tI F mi)) (ok : BlkOk X.N X.env.scope scope own) (hsub : ∀ j ∈ vs', j ∈ own.map (·.2)) (hmg : MGOk mg)
    (hg : ∀ (s : Shared) (H : Hp) (C : Addr) (cl : List (Str × Addr)) (fp : List Addr), PG (X.blk s H scope (compEnvC scope cl C X.env) fp) tg (tG F mg vs')) (ht : ∀ (s : Shared) (H : Hp) (C : Addr) (cl : List (Str × Addr)) (fp : List Addr), PTs (X.blk s H scope (compEnvC scope cl C X.env) fp) ifs (tT F mc))
    (he : ∀ (s : Shared) (H : Hp) (C : Addr) (cl : List (Str × Addr)) (fp : List Addr), PE (X.blk s H scope (compEnvC scope cl C X.env) fp) elt (tE F me)) (hs : ∀ x, foldedSetIterable iter X.env x = pure x := by intro _; rfl) :
    PE X (.ListComp elt [⟨tg, iter, ifs, 0⟩] scope pos) (tE F (lc mi mg mc me (own.map (·.2)))) :=
  pe_weak (pe_lc hc hN hi ok hg ht he hs) fun σ H Q q => tE_lc hsub hmg q
theorem ds_setLc {i : Nat} {y : Str} {py : Pos} {elt tg iter : Expr} {ifs : List Expr} {scope : Scope} {own : List (Str × Nat)} {vs' : List Nat} {spos : Pos} (hc : X.calm = true) (hN : X.N.Nodup) (hy : X.N[i]? = some y) (hyl : X.env.scope.names.lookup y = some .local)
    (hsw : swapsWith (.ListComp elt [⟨tg, iter, ifs, 0⟩] scope pos) (some (.Name y py)) spos.line X.env = pure true) (hi : PI X tg iter (tI F mi)) (ok : BlkOk X.N X.env.scope scope own) (hsub : ∀ j ∈ vs', j ∈ own.map (·.2)) (hmg : MGOk mg)
    (hg : ∀ (s : Shared) (H : Hp) (C : Addr) (cl : List (Str × Addr)) (fp : List Addr), PG (X.blk s H scope (compEnvC scope cl C X.env) fp) tg (tG F mg vs')) (ht : ∀ (s : Shared) (H : Hp) (C : Addr) (cl : List (Str × Addr)) (fp : List Addr), PTs (X.blk s H scope (compEnvC scope cl C X.env) fp) ifs (tT F mc))
    (he : ∀ (s : Shared) (H : Hp) (C : Addr) (cl : List (Str × Addr)) (fp : List Addr), PE (X.blk s H scope (compEnvC scope cl C X.env) fp) elt (tE F me)) (hs : ∀ x, foldedSetIterable iter X.env x = pure x := by intro _; rfl) :
    PS X (.Assign [.Name y py] (.ListComp elt [⟨tg, iter, ifs, 0⟩] scope pos) spos) (tS F (asg i (lc mi mg mc me (own.map (·.2))))) :=
  ps_weak (ps_setLc hc hN hy hyl hsw hi ok hg ht he hs) fun D σ H q => tE_lc (Q := fun x H1 => gName i x σ H1 D.nx) hsub hmg (tS_asg q)
end
end DL

set_option maxRecDepth 100000
set_option maxHeartbeats 4000000
namespace DL
open PySem PySem.Spec L2
open PyProof.Rows hiding St

inductive Rs where
  | ok (fr : Bool) (d : D) (outs : List D) | err (x : Exn) | bad
mutual
def noList : D → Bool
  | .tup ds => noLists ds
  | .kt ds => noLists ds
  | .lst _ => false
  | .dk _ _ => false
  | .dt _ _ => false
  | _ => true
def noLists : List D → Bool
  | [] => true
  | d :: ds => noList d && noLists ds
end
def noListTop : D → Bool
  | .lst ds => noLists ds
  | .dk _ ds => noLists ds
  | .dt _ ds => noLists ds
  | _ => false
inductive ArgsOk (K : PySem.W.Frag) (S : Addr → Prop) (H : Hp) : List Bool → List V → List D → Prop
  | nil : ArgsOk K S H [] [] []
  | val {ms : List Bool} {vs : List V} {ds : List D} {v : V} {d : D} : Rep K S H v d → ArgsOk K S H ms vs ds → ArgsOk K S H (false :: ms) (v :: vs) (d :: ds)
  | io {ms : List Bool} {vs : List V} {ds : List D} {p : Addr} {d : D} : ¬ S p → Top K S H p d → ArgsOk K S H ms vs ds → ArgsOk K S H (true :: ms) (.ref p :: vs) (d :: ds)
def ios : List Bool → List V → List Addr
  | true :: ms, .ref p :: vs => p :: ios ms vs
  | true :: ms, _ :: vs => ios ms vs
  | false :: ms, _ :: vs => ios ms vs
  | _, _ => []
inductive OutsOk (K : PySem.W.Frag) (S : Addr → Prop) (H : Hp) : List Addr → List D → Prop
  | nil : OutsOk K S H [] []
  | cons {p : Addr} {ps : List Addr} {d : D} {ds : List D} : ¬ S p → Top K S H p d → OutsOk K S H ps ds → OutsOk K S H (p :: ps) (d :: ds)
structure After (K : PySem.W.Frag) (S : Addr → Prop) (H : Hp) (io : List Addr) (fr : Bool) (d : D) (outs : List D) (v : V) (S1 : Addr → Prop) (H1 : Hp) : Prop where
  sub : ∀ p, S p → S1 p
  new : ∀ p, S1 p → S p ∨ H p = none
  s2 : ∀ p, S1 p → H1 p ≠ none
  keep : ∀ b o, H b = some o → b ∉ io → H1 b = some o
  mono : ∀ p, H1 p = none → H p = none
  val : if fr = true then ∃ p, v = .ref p ∧ ¬ S1 p ∧ H p = none ∧ Top K S1 H1 p d else Rep K S1 H1 v d
  outs : OutsOk K S1 H1 io outs
def ExnOk (mg : Str → Option Value) (x : Exn) (C : Value) (dx : Option Addr) : Prop := x.arg = none → ∃ a, mg x.cls = some (.ref a) ∧ C = .ref a ∧ dx = none
def spF (K : PySem.W.Frag) (mg : Str → Option Value) (modes : List Bool) (g : List D → Rs) : Sp := fun vs H Q E => ∃ S ds, ArgsOk K S H modes vs ds ∧ (ios modes vs).Nodup ∧ (∀ p, S p → H p ≠ none) ∧ match g ds with
  | .ok fr d outs => ∀ v H1 S1, After K S H (ios modes vs) fr d outs v S1 H1 → Q v H1
  | .err x => ∀ C dx H1, (∀ b o, H b = some o → b ∉ ios modes vs → H1 b = some o) → ExnOk mg x C dx → E C dx H1
  | .bad => False
def startE (modes : List Bool) (ds : List D) (n : Nat) : Env := (modes.zip ds).map (fun p => if p.1 = true then Sl.iow p.2 else Sl.val p.2) ++ List.replicate (n - ds.length) Sl.no
def outsOf : List Bool → Env → Option (List D)
  | [], _ => some []
  | true :: ms, .iow d :: e => (outsOf ms e).map (d :: ·)
  | true :: _, _ => none
  | false :: ms, _ :: e => outsOf ms e
  | false :: _, [] => none
def endF (modes : List Bool) (fr : Bool) (d : D) (e : Env) : Rs := match outsOf modes e with
  | some outs => .ok fr d outs
  | none => .bad
def runF (modes : List Bool) (n : Nat) (m : MS) (ds : List D) : Rs := match m (startE modes ds n) with
  | .nx e => endF modes false .non e
  | .rt o e => (match o with
    | .d x => endF modes false x e
    | .f x => endF modes true x e
    | .s i => match e[i]? with
      | some (.own x) => endF modes true x e
      | some (.val x) => endF modes false x e
      | _ => .bad)
  | .err x => .err x
  | _ => .bad
section
variable {K : PySem.W.Frag} {S S1 : Addr → Prop} {H H1 : Hp}
theorem ArgsOk.len : ∀ {ms : List Bool} {vs : List V} {ds : List D}, ArgsOk K S H ms vs ds → ms.length = vs.length ∧ ms.length = ds.length
  | _, _, _, .nil => ⟨rfl, rfl⟩
  | _, _, _, .val _ t => by obtain ⟨a, b⟩ := ArgsOk.len t; exact ⟨by simp [a], by simp [b]⟩
  | _, _, _, .io _ _ t => by obtain ⟨a, b⟩ := ArgsOk.len t; exact ⟨by simp [a], by simp [b]⟩
theorem ArgsOk.at : ∀ {ms : List Bool} {vs : List V} {ds : List D} {i : Nat} {v : V}, ArgsOk K S H ms vs ds → vs[i]? = some v → ∃ b d, ms[i]? = some b ∧ ds[i]? = some d ∧ ((b = false ∧ Rep K S H v d) ∨ (b = true ∧ ∃ p, v = .ref p ∧ ¬ S p ∧ Top K S H p d ∧ p ∈ ios ms vs))
  | _, _, _, i, _, .nil, h => by simp at h
  | _, _, _, 0, _, .val r t, h => by simp at h; subst h; exact ⟨_, _, rfl, rfl, .inl ⟨rfl, r⟩⟩
  | _, _, _, 0, _, .io n r t, h => by simp at h; subst h; exact ⟨_, _, rfl, rfl, .inr ⟨rfl, _, rfl, n, r, List.mem_cons_self⟩⟩
  | _, _, _, i + 1, _, .val r t, h => by
    obtain ⟨b, d, h1, h2, h3⟩ := ArgsOk.at (i := i) t (by simpa using h)
    exact ⟨b, d, by simpa using h1, by simpa using h2, h3⟩
  | _, _, _, i + 1, _, .io n r t, h => by
    obtain ⟨b, d, h1, h2, h3⟩ := ArgsOk.at (i := i) t (by simpa using h)
    refine ⟨b, d, by simpa using h1, by simpa using h2, h3.imp id fun ⟨a, p, c, d, f, g⟩ => ⟨a, p, c, d, f, List.mem_cons_of_mem _ g⟩⟩
theorem ios_at : ∀ {ms : List Bool} {vs : List V} {i j : Nat} {p : Addr}, (ios ms vs).Nodup → ms[i]? = some true → ms[j]? = some true → vs[i]? = some (.ref p) → vs[j]? = some (.ref p) → i = j
  | [], _, i, _, _, _, h, _, _, _ => by simp at h
  | _ :: _, [], i, _, _, _, _, _, h, _ => by simp at h
  | b :: ms, v :: vs, 0, 0, p, _, _, _, _, _ => rfl
  | b :: ms, v :: vs, i + 1, j + 1, p, nd, h1, h2, h3, h4 => by
    have nd' : (ios ms vs).Nodup := by
      cases b with
      | false => exact nd
      | true =>
        cases v with
        | ref q => exact (List.nodup_cons.mp nd).2
        | _ => exact nd
    rw [ios_at (i := i) (j := j) nd' (by simpa using h1) (by simpa using h2) (by simpa using h3) (by simpa using h4)]
  | b :: ms, v :: vs, 0, j + 1, p, nd, h1, h2, h3, h4 => by
    exfalso
    simp at h1 h3
    subst h1 h3
    have := (List.nodup_cons.mp nd).1
    exact this (ios_mem (by simpa using h2) (by simpa using h4))
  | b :: ms, v :: vs, i + 1, 0, p, nd, h1, h2, h3, h4 => by
    exfalso
    simp at h2 h4
    subst h2 h4
    have := (List.nodup_cons.mp nd).1
    exact this (ios_mem (by simpa using h1) (by simpa using h3))
where ios_mem : ∀ {ms : List Bool} {vs : List V} {i : Nat} {p : Addr}, ms[i]? = some true → vs[i]? = some (.ref p) → p ∈ ios ms vs
  | [], _, i, _, h, _ => by simp at h
  | _ :: _, [], i, _, _, h => by simp at h
  | b :: ms, v :: vs, 0, p, h1, h2 => by simp at h1 h2; subst h1 h2; exact List.mem_cons_self
  | b :: ms, v :: vs, i + 1, p, h1, h2 => by
    have q := ios_mem (i := i) (ms := ms) (vs := vs) (p := p) (by simpa using h1) (by simpa using h2)
    cases b with
    | false => exact q
    | true =>
      cases v with
      | ref _ => exact List.mem_cons_of_mem _ q
      | _ => exact q
theorem startE_at : ∀ {ms : List Bool} {ds : List D} {n i : Nat} {s : Sl}, (startE ms ds n)[i]? = some s → s = .no ∨ ∃ b d, ms[i]? = some b ∧ ds[i]? = some d ∧ s = (if b = true then Sl.iow d else Sl.val d) := by
  intro ms ds n i s h
  unfold startE at h
  by_cases hi : i < (ms.zip ds).length
  · rw [List.getElem?_append_left (by simpa using hi), List.getElem?_map] at h
    cases q : (ms.zip ds)[i]? with
    | none => rw [q] at h; cases h
    | some p =>
      rw [q] at h
      cases h
      obtain ⟨b, d⟩ := p
      obtain ⟨h1, h2⟩ := List.getElem?_zip_eq_some.mp q
      exact .inr ⟨b, d, h1, h2, rfl⟩
  · rw [List.getElem?_append_right (by simpa using hi)] at h
    have := List.mem_of_getElem? h
    exact .inl (List.eq_of_mem_replicate this)
theorem OutsOk.of : ∀ {ms : List Bool} {vs : List V} {e : Env} {outs : List D}, ms.length = vs.length →
    (∀ (i : Nat) (d : D), ms[i]? = some true → e[i]? = some (.iow d) → ∃ p, vs[i]? = some (.ref p) ∧ ¬ S p ∧ Top K S H p d) → outsOf ms e = some outs → OutsOk K S H (ios ms vs) outs
  | [], vs, e, outs, _, _, h => by
    cases h
    cases vs <;> exact .nil
  | b :: ms, [], e, outs, hl, _, _ => by simp at hl
  | b :: ms, v :: vs, [], outs, _, _, h => by cases b <;> simp [outsOf] at h
  | true :: ms, v :: vs, s :: e, outs, hl, ht, h => by
    cases s with
    | iow d =>
      simp only [outsOf, Option.map_eq_some_iff] at h
      obtain ⟨os, h1, rfl⟩ := h
      obtain ⟨p, e1, a, b⟩ := ht 0 d rfl rfl
      cases e1
      exact .cons a b (OutsOk.of (by simpa using hl) (fun i d h1 h2 => by
        obtain ⟨p, q⟩ := ht (i + 1) d (by simpa using h1) (by simpa using h2)
        exact ⟨p, by simpa using q⟩) h1)
    | _ => simp [outsOf] at h
  | false :: ms, v :: vs, s :: e, outs, hl, ht, h => by
    simp only [outsOf] at h
    exact OutsOk.of (ms := ms) (vs := vs) (by simpa using hl) (fun i d h1 h2 => by
        obtain ⟨p, q⟩ := ht (i + 1) d (by simpa using h1) (by simpa using h2)
        exact ⟨p, by simpa using q⟩) h
end

section
variable {P : Program} {w : World} {K : PySem.W.Frag} {mg : Str → Option Value} {base : Heap}
theorem start_at {N : List Str} {vs : List V} {i : Nat} {o : Option V} (hi : i < vs.length) (h : (L2.start N vs)[i]? = some o) : ∃ v, o = some v ∧ vs[i]? = some v := by
  unfold L2.start at h
  rw [List.getElem?_append_left (by simpa using hi), List.getElem?_map] at h
  cases q : vs[i]? with
  | none => rw [q] at h; cases h
  | some v => rw [q] at h; cases h; exact ⟨v, rfl, rfl⟩
theorem start_R {N : List Str} {modes : List Bool} {S : Addr → Prop} {H : Hp} {vs : List V} {ds : List D} {E : XK} (hN : vs.length ≤ N.length) (a : ArgsOk K S H modes vs ds) (nd : (ios modes vs).Nodup) (s2 : ∀ p, S p → H p ≠ none) :
    R ⟨K, mg, H, S, ios modes vs, L2.start N vs, E⟩ (startE modes ds N.length) S (L2.start N vs) H := by
  obtain ⟨l1, l2⟩ := a.len
  have ioT : ∀ p, p ∈ ios modes vs → ∃ d, Top K S H p d := by
    clear nd s2 l1 l2 hN
    induction a with
    | nil => intro p h; cases h
    | val r t ih => exact ih
    | io n r t ih =>
      intro p h
      rcases List.mem_cons.mp h with rfl | h
      · exact ⟨_, r⟩
      · exact ih p h
  refine ⟨?_, fun b o h _ => h, fun p h => h, fun p h => .inl h, s2, fun p h => ?_, fun i s o h1 h2 => ?_, fun i j s t p h1 h2 m1 m2 h3 h4 => ?_, fun i d h => rfl⟩
  · unfold startE L2.start
    simp only [List.length_append, List.length_map, List.length_zip, List.length_replicate]
    omega
  · obtain ⟨d, t⟩ := ioT p h
    obtain ⟨o, ho, _⟩ := t.obj
    rw [ho]; exact fun z => nomatch z
  · rcases startE_at h1 with rfl | ⟨b, d, h3, h4, rfl⟩
    · trivial
    · have hi : i < vs.length := by rw [← l1]; exact (List.getElem?_eq_some_iff.mp h3).1
      obtain ⟨v, rfl, hv⟩ := start_at hi h2
      obtain ⟨b', d', g1, g2, g3⟩ := a.at hv
      rw [h3] at g1; cases g1
      rw [h4] at g2; cases g2
      rcases g3 with ⟨rfl, r⟩ | ⟨rfl, p, rfl, ns, t, mem⟩
      · exact ⟨v, rfl, r⟩
      · exact ⟨p, rfl, ns, mem, t⟩
  · rcases startE_at h1 with rfl | ⟨b, d, g1, g2, rfl⟩
    · exact m1.elim
    · rcases startE_at h2 with rfl | ⟨b', d', g1', g2', rfl⟩
      · exact m2.elim
      · cases b with
        | false => exact m1.elim
        | true =>
          cases b' with
          | false => exact m2.elim
          | true =>
            have hi : i < vs.length := by rw [← l1]; exact (List.getElem?_eq_some_iff.mp g1).1
            have hj : j < vs.length := by rw [← l1]; exact (List.getElem?_eq_some_iff.mp g1').1
            obtain ⟨v, e1, hv⟩ := start_at hi h3
            obtain ⟨u, e2, hu⟩ := start_at hj h4
            cases e1; cases e2
            exact ios_at nd g1 g1' hv hu
theorem fn_den {x qual : Str} {st : Stmt} {f : Addr} {fd : FuncData} {N ps : List Str} {k : Nat} {modes : List Bool} {m : MS} (Fn : Fun K x qual st f fd) (Sc : FnScope N ps (defScope st)) (hm : modes.length = ps.length) (hn : ps.length ≤ N.length)
    (hb : ∀ (cdv : Value) (A : Around) (outer : List PySem.Env) (s : Shared) (H : Hp) (E : XK) (F : Fx), Room k (A.deeper (envOfC qual (defScope st) s.heap.objs.size f cdv)) → F.K = K → F.mg = mg →
      Passes (L2.CX P w) (cxOf (L2.CX P w) P w K mg base N qual (defScope st) f cdv A outer s H E) F.E →
      (Takes (cxOf (L2.CX P w) P w K mg base N qual (defScope st) f cdv A outer s H E) (fun cls d _ H => F.E cls d H)) →
      PassesOwn (model P w) (A.deeper (envOfC qual (defScope st) s.heap.objs.size f cdv)) (cxOf (L2.CX P w) P w K mg base N qual (defScope st) f cdv A outer s H E).env (cxOf (L2.CX P w) P w K mg base N qual (defScope st) f cdv A outer s H E).xe →
      PSs (cxOf (L2.CX P w) P w K mg base N qual (defScope st) f cdv A outer s H E) (defBody st) (tS F m)) : FnOk P w K mg base (L2.CX P w) (k + 1) f fd ps (spF K mg modes (runF modes N.length m)) := by
  refine Fn.okX Sc (fun vs H Q E ⟨S, ds, a, _⟩ => a.len.1.symm.trans hm) (fun cdv A outer s H vs Q E hr h => ?_)
  obtain ⟨S, ds, a, nd, s2, q⟩ := h
  have tk : Takes (cxOf (L2.CX P w) P w K mg base N qual (defScope st) f cdv A outer s H E) (fun cls d _ H => E cls d H) := takes_of rfl rfl rfl rfl
  have l1 := a.len.1
  refine ⟨_, hb cdv A outer s H E ⟨K, mg, H, S, ios modes vs, L2.start N vs, E⟩ hr rfl rfl (passes_call tk fun _ _ _ _ h => h) tk (passes_of rfl), startE modes ds N.length, S, start_R (by rw [← l1, hm]; exact hn) a nd s2, ?_⟩
  -- the end
  have fin : ∀ {fr : Bool} {d : D} {outs : List D} {e1 : Env} {S1 : Addr → Prop} {σ1 : St} {H1 : Hp} {v : V}, R ⟨K, mg, H, S, ios modes vs, L2.start N vs, E⟩ e1 S1 σ1 H1 → outsOf modes e1 = some outs →
      (if fr = true then ∃ p, v = .ref p ∧ ¬ S1 p ∧ H p = none ∧ Top K S1 H1 p d else Rep K S1 H1 v d) → After K S H (ios modes vs) fr d outs v S1 H1 := by
    intro fr d outs e1 S1 σ1 H1 v r ho hv
    refine ⟨r.s0, r.s1, r.s2, r.base, fun p hp => ?_, hv, OutsOk.of l1 (fun i d h1 h2 => ?_) ho⟩
    · exact r.h0 hp
    · obtain ⟨o, g1, p, rfl, ns, mem, t⟩ := r.at h2
      have hi : i < vs.length := by rw [← l1]; exact (List.getElem?_eq_some_iff.mp h1).1
      have g2 := r.fix i d h2
      rw [g1] at g2
      obtain ⟨v', e2, hv'⟩ := start_at hi g2.symm
      cases e2
      exact ⟨p, hv', ns, t⟩
  unfold runF at q
  cases hm1 : m (startE modes ds N.length) with
  | bk e1 => rw [hm1] at q; exact q.elim
  | ct e1 => rw [hm1] at q; exact q.elim
  | bad => rw [hm1] at q; exact q.elim
  | err x =>
    rw [hm1] at q
    exact fun C dx H1 h1 h2 => q C dx H1 h1 h2
  | nx e1 =>
    simp only [hm1, endF] at q
    refine fun σ1 H1 S1 r k1 => ?_
    cases ho : outsOf modes e1 with
    | none => rw [ho] at q; exact q.elim
    | some outs =>
      simp only [ho] at q
      exact q _ H1 S1 (fin r ho (by rw [if_neg Bool.false_ne_true]; exact .non))
  | rt o e1 =>
    simp only [hm1, endF] at q
    refine fun v σ1 H1 S1 r k1 => ?_
    cases o with
    | d y =>
      simp only at q
      cases ho : outsOf modes e1 with
      | none => rw [ho] at q; exact q.elim
      | some outs =>
        simp only [ho] at q
        exact q _ H1 S1 (fin r ho (by rw [if_neg Bool.false_ne_true]; exact k1))
    | f y =>
      simp only at q
      cases ho : outsOf modes e1 with
      | none => rw [ho] at q; exact q.elim
      | some outs =>
        simp only [ho] at q
        obtain ⟨p, e2, ns, h0, hs, nh, t⟩ := k1
        exact q _ H1 S1 (fin r ho (by rw [if_pos rfl]; exact ⟨p, e2, ns, h0, t⟩))
    | s i =>
      simp only at q
      have k1 : σ1[i]? = some (some v) := k1
      cases he : e1[i]? with
      | none => rw [he] at q; exact q.elim
      | some sl =>
        cases sl with
        | no => rw [he] at q; exact q.elim
        | iow y => rw [he] at q; exact q.elim
        | fz y => rw [he] at q; exact q.elim
        | own y =>
          simp only [he] at q
          cases ho : outsOf modes e1 with
          | none => rw [ho] at q; exact q.elim
          | some outs =>
            simp only [ho] at q
            obtain ⟨p, e2, ns, h0, t⟩ := r.sl i _ _ he k1
            cases e2
            exact q _ H1 S1 (fin r ho (by rw [if_pos rfl]; exact ⟨p, rfl, ns, h0, t⟩))
        | val y =>
          simp only [he] at q
          cases ho : outsOf modes e1 with
          | none => rw [ho] at q; exact q.elim
          | some outs =>
            simp only [ho] at q
            obtain ⟨u, e2, t⟩ := r.sl i _ _ he k1
            cases e2
            exact q _ H1 S1 (fin r ho (by rw [if_neg Bool.false_ne_true]; exact t))
end

def argsD : List Bool → List Od → Env → Option (List D)
  | [], [], _ => some []
  | false :: ms, o :: os, e => match res o e, argsD ms os e with
    | some d, some ds => some (d :: ds)
    | _, _ => none
  | true :: ms, .s i :: os, e => match e[i]?, argsD ms os e with
    | some (.own d), some ds => some (d :: ds)
    | some (.iow d), some ds => some (d :: ds)
    | _, _ => none
  | _, _, _ => none
def ioSl : List Bool → List Od → List Nat
  | true :: ms, .s i :: os => i :: ioSl ms os
  | _ :: ms, _ :: os => ioSl ms os
  | _, _ => []
def mineAt (i : Nat) (e : Env) : Bool := match e[i]? with
  | some (.own _) => true
  | some (.iow _) => true
  | _ => false
def rdSl : List Bool → List Od → Env → List Nat
  | false :: ms, .s i :: os, e => if mineAt i e then i :: rdSl ms os e else rdSl ms os e
  | _ :: ms, _ :: os, e => rdSl ms os e
  | _, _, _ => []
def reTop : Sl → D → Sl
  | .own _, d => .own d
  | .iow _, d => .iow d
  | s, _ => s
def lookN : List Nat → List D → Nat → Option D
  | i :: is, d :: ds, j => if i = j then some d else lookN is ds j
  | _, _, _ => none
def putAt (f : Nat → Option D) : Nat → Env → Env
  | _, [] => []
  | k, s :: e => (match f k with
    | some d => reTop s d
    | none => s) :: putAt f (k + 1) e
def putIo (is : List Nat) (ds : List D) (e : Env) : Env := putAt (lookN is ds) 0 e
def leakSl : List Nat → Env → Option Env
  | [], e => some e
  | i :: is, e => match leak1 (.s i) e with
    | some (_, e1) => leakSl is e1
    | none => none
def nodupB : List Nat → Bool
  | [] => true
  | i :: is => !is.contains i && nodupB is
def callF (modes : List Bool) (g : List D → Rs) (os : List Od) : M Od := fun e => match argsD modes os e with
  | none => .bad
  | some ds =>
    if nodupB (ioSl modes os) && (rdSl modes os e).all (fun b => !(ioSl modes os).contains b) then
      match g ds with
      | .err x => .err x
      | .bad => .bad
      | .ok fr d outs =>
        if (rdSl modes os e).isEmpty then .ok (if fr then .f d else .d d) (putIo (ioSl modes os) outs e)
        else if noList d && outs.all noListTop then .ok (.d d) (putIo (ioSl modes os) outs e)
        else match leakSl (rdSl modes os e) e with
          | some e1 => .ok (if fr then .f d else .d d) (putIo (ioSl modes os) outs e1)
          | none => .bad
    else .bad
def noErr {α : Type} (m : M α) : M α := fun e => match m e with
  | .ok a e1 => .ok a e1
  | _ => .bad
def call (modes : List Bool) (g : List D → Rs) (ms : M (List Od)) : M Od := bnd ms fun os => callF modes g os
end DL

set_option maxRecDepth 100000
set_option maxHeartbeats 4000000
namespace DL
open PySem PySem.Spec L2
open PyProof.Rows hiding St

section
variable {K : PySem.W.Frag} {S S1 S2 : Addr → Prop} {H H1 : Hp}
mutual
theorem Rep.noList' : ∀ {v : V} {d : D}, Rep K S H v d → DL.noList d = true → Rep K S1 H v d
  | _, _, .non, _ => .non
  | _, _, .bl b, _ => .bl b
  | _, _, .int i, _ => .int i
  | _, _, .str x, _ => .str x
  | _, _, .tup a r, h => .tup a (Reps.noLists' r (by simpa [DL.noList] using h))
  | _, _, .kt a r, h => .kt a (Reps.noLists' r (by simpa [DL.noList] using h))
  | _, _, .lst _ _ _, h => by simp [DL.noList] at h
  | _, _, .dk _ _ _ _, h => by simp [DL.noList] at h
  | _, _, .dt _ _ _ _, h => by simp [DL.noList] at h
  | _, _, .scr a, _ => .scr a
theorem Reps.noLists' : ∀ {vs : List V} {ds : List D}, Reps K S H vs ds → DL.noLists ds = true → Reps K S1 H vs ds
  | _, _, .nil, _ => .nil
  | _, _, .cons r t, h => by
    simp only [DL.noLists, Bool.and_eq_true] at h
    exact .cons (Rep.noList' r h.1) (Reps.noLists' t h.2)
end
theorem Rep.noList {v : V} {d : D} (h : DL.noList d = true) (r : Rep K S H v d) : Rep K S1 H v d := r.noList' h
theorem Reps.noLists {vs : List V} {ds : List D} (h : DL.noLists ds = true) (r : Reps K S H vs ds) : Reps K S1 H vs ds := r.noLists' h
theorem Top.noList {p : Addr} {d : D} (h : noListTop d = true) (t : Top K S H p d) : Top K S1 H p d := by
  cases d with
  | lst ds => obtain ⟨xs, a, r⟩ := t; exact ⟨xs, a, Reps.noLists h r⟩
  | dk ks ds => obtain ⟨xs, a, l, r⟩ := t; exact ⟨xs, a, l, Reps.noLists h r⟩
  | dt ks ds => obtain ⟨xs, a, l, r⟩ := t; exact ⟨xs, a, l, Reps.noLists h r⟩
  | _ => exact t.elim
theorem top_list {p : Addr} {d : D} (t : Top K S H p d) : noList d = false := by
  cases d with
  | lst ds => rfl
  | dk ks ds => rfl
  | dt ks ds => rfl
  | _ => exact t.elim
theorem OutsOk.noList : ∀ {ps : List Addr} {ds : List D}, ds.all noListTop = true → (∀ p, S1 p → S p) → OutsOk K S H ps ds → OutsOk K S1 H ps ds
  | _, _, _, _, .nil => .nil
  | _, _, h, s, .cons n t r => by
    simp only [List.all_cons, Bool.and_eq_true] at h
    exact .cons (fun z => n (s _ z)) (Top.noList h.1 t) (OutsOk.noList h.2 s r)
theorem After.narrow {S' : Addr → Prop} {io : List Addr} {fr : Bool} {d : D} {outs : List D} {v : V} (a : After K S' H io fr d outs v S1 H1) (hs : ∀ p, S p → S' p) (hd : noList d = true) (ho : outs.all noListTop = true) :
    After K S H io false d outs v (fun p => S1 p ∧ (S p ∨ H p = none)) H1 := by
  refine ⟨fun p h => ⟨a.sub p (hs p h), .inl h⟩, fun p h => h.2, fun p h => a.s2 p h.1, a.keep, a.mono, ?_, OutsOk.noList ho (fun p h => h.1) a.outs⟩
  rw [if_neg Bool.false_ne_true]
  have q := a.val
  cases fr with
  | false => rw [if_neg Bool.false_ne_true] at q; exact Rep.noList hd q
  | true =>
    rw [if_pos rfl] at q
    obtain ⟨p, _, _, _, t⟩ := q
    rw [top_list t] at hd; cases hd
end

inductive IoA (e : Env) (σ : St) : List Nat → List Addr → Prop
  | nil : IoA e σ [] []
  | cons {i : Nat} {is : List Nat} {p : Addr} {ps : List Addr} : (∃ s, e[i]? = some s ∧ Mine s) → σ[i]? = some (some (.ref p)) → IoA e σ is ps → IoA e σ (i :: is) (p :: ps)
section
variable {F : Fx} {e e1 e2 : Env} {S S1 S2 S' : Addr → Prop} {σ : St} {Hs H H1 H2 : Hp} {v : V}
theorem IoA.mem : ∀ {is : List Nat} {ps : List Addr} {p : Addr}, IoA e σ is ps → p ∈ ps → ∃ i s, i ∈ is ∧ e[i]? = some s ∧ Mine s ∧ σ[i]? = some (some (.ref p))
  | _, _, _, .cons (i := i) ⟨s, h1, m⟩ h2 t, h => by
    rcases List.mem_cons.mp h with rfl | h
    · exact ⟨i, s, List.mem_cons_self, h1, m, h2⟩
    · obtain ⟨j, s, a, b, c, d⟩ := IoA.mem t h
      exact ⟨j, s, List.mem_cons_of_mem _ a, b, c, d⟩
theorem IoA.mem' : ∀ {is : List Nat} {ps : List Addr} {i : Nat}, IoA e σ is ps → i ∈ is → ∃ p, p ∈ ps ∧ σ[i]? = some (some (.ref p)) ∧ ∃ s, e[i]? = some s ∧ Mine s
  | _, _, _, .cons (p := p) hm h2 t, h => by
    rcases List.mem_cons.mp h with rfl | h
    · exact ⟨p, List.mem_cons_self, h2, hm⟩
    · obtain ⟨q, a, b, c⟩ := IoA.mem' t h
      exact ⟨q, List.mem_cons_of_mem _ a, b, c⟩
theorem nodupB_cons {i : Nat} {is : List Nat} (h : nodupB (i :: is) = true) : i ∉ is ∧ nodupB is = true := by
  simp only [nodupB, Bool.and_eq_true, Bool.not_eq_true', List.contains_eq_mem, decide_eq_false_iff_not] at h
  exact h
theorem IoA.nodup (r : R F e S σ H) : ∀ {is : List Nat} {ps : List Addr}, IoA e σ is ps → nodupB is = true → ps.Nodup
  | _, _, .nil, _ => .nil
  | _, _, .cons (i := i) (p := p) ⟨s, h1, m⟩ h2 t, h => by
    obtain ⟨h3, h4⟩ := nodupB_cons h
    refine List.nodup_cons.mpr ⟨fun hp => ?_, IoA.nodup r t h4⟩
    obtain ⟨j, s', a, b, c, d⟩ := t.mem hp
    exact h3 (by rw [r.dis i j s s' p h1 b m c h2 d]; exact a)
theorem mineAt_iff {i : Nat} : mineAt i e = true ↔ ∃ s, e[i]? = some s ∧ Mine s := by
  unfold mineAt
  constructor
  · intro h
    split at h
    · rename_i d hd; exact ⟨_, hd, trivial⟩
    · rename_i d hd; exact ⟨_, hd, trivial⟩
    · cases h
  · rintro ⟨s, h, m⟩
    rw [h]
    cases s with
    | own _ => rfl
    | iow _ => rfl
    | _ => exact m.elim
theorem args_ok (r : R F e S σ H) (k : Kp S H S' H) : ∀ {modes : List Bool} {os : List Od} {vs : List V} {ds : List D}, OdsOk F S σ H vs os → argsD modes os e = some ds →
    (∀ (b : Nat) (p : Addr), b ∈ rdSl modes os e → σ[b]? = some (some (.ref p)) → S' p) → (∀ (i : Nat) (p : Addr), i ∈ ioSl modes os → mineAt i e = true → σ[i]? = some (some (.ref p)) → ¬ S' p) →
    ArgsOk F.K S' H modes vs ds ∧ IoA e σ (ioSl modes os) (ios modes vs)
  | [], [], vs, ds, ok, h, _, _ => by cases h; cases ok; exact ⟨.nil, .nil⟩
  | [], _ :: _, _, _, _, h, _, _ => by simp [argsD] at h
  | true :: ms, [], _, _, _, h, _, _ => by simp [argsD] at h
  | false :: ms, [], _, _, _, h, _, _ => by simp [argsD] at h
  | false :: ms, .f x :: os, _, _, ok, h, _, _ => by cases ok
  | true :: ms, .f x :: os, _, _, ok, h, _, _ => by cases ok
  | true :: ms, .d x :: os, _, _, ok, h, _, _ => by simp [argsD] at h
  | false :: ms, .d x :: os, vs, ds, ok, h, hb, hi => by
    cases ok with
    | d q t =>
      simp only [argsD, res] at h
      split at h
      · rename_i d' ds' h1 h2
        cases h; cases h1
        obtain ⟨a, b⟩ := args_ok r k t h2 (fun b p z => hb b p (by simpa [rdSl] using z)) (fun i p z => hi i p (by simpa [ioSl] using z))
        exact ⟨.val (q.kp k) a, b⟩
      · cases h
  | false :: ms, .s i :: os, vs, ds, ok, h, hb, hi => by
    cases ok with
    | s q t =>
      simp only [argsD] at h
      split at h
      · rename_i d' ds' h1 h2
        cases h
        obtain ⟨a, b⟩ := args_ok r k t h2 (fun b p z => hb b p (by unfold rdSl; split; exact List.mem_cons_of_mem _ z; exact z)) (fun i p z => hi i p (by simpa [ioSl] using z))
        refine ⟨.val ?_ a, b⟩
        have h3 : res (.s i) e = some d' := h1
        unfold res at h1
        simp only at h1
        split at h1
        · rename_i y hy; cases h1; obtain ⟨u, e1, z⟩ := r.sl i _ _ hy q; cases e1; exact z.kp k
        · rename_i y hy; cases h1; obtain ⟨u, e1, _, _, z⟩ := r.sl i _ _ hy q; cases e1
          have sp := hb i u (by unfold rdSl; rw [if_pos (by unfold mineAt; rw [hy])]; exact List.mem_cons_self) q
          have z1 : Top F.K S' H u d' := z.kp k rfl
          cases d' with
          | lst ds => obtain ⟨xs, a, b⟩ := z1; exact .lst a sp b
          | dk ks ds => obtain ⟨xs, a, l, b⟩ := z1; exact .dk a l sp b
          | dt ks ds => obtain ⟨xs, a, l, b⟩ := z1; exact .dt a l sp b
          | _ => exact z1.elim
        · rename_i y hy; cases h1; obtain ⟨u, e1, _, _, z⟩ := r.sl i _ _ hy q; cases e1
          have sp := hb i u (by unfold rdSl; rw [if_pos (by unfold mineAt; rw [hy])]; exact List.mem_cons_self) q
          have z1 : Top F.K S' H u d' := z.kp k rfl
          cases d' with
          | lst ds => obtain ⟨xs, a, b⟩ := z1; exact .lst a sp b
          | dk ks ds => obtain ⟨xs, a, l, b⟩ := z1; exact .dk a l sp b
          | dt ks ds => obtain ⟨xs, a, l, b⟩ := z1; exact .dt a l sp b
          | _ => exact z1.elim
        · cases h1
      · cases h
  | true :: ms, .s i :: os, vs, ds, ok, h, hb, hi => by
    cases ok with
    | s q t =>
      simp only [argsD] at h
      split at h
      · rename_i d' ds' h1 h2
        cases h
        obtain ⟨a, b⟩ := args_ok r k t h2 (fun b p z => hb b p (by simpa [rdSl] using z)) (fun j p z => hi j p (by unfold ioSl; exact List.mem_cons_of_mem _ z))
        obtain ⟨p, e1, ns, h0, tp⟩ := r.sl i _ _ h1 q
        cases e1
        exact ⟨.io (hi i p (by unfold ioSl; exact List.mem_cons_self) (by unfold mineAt; rw [h1]) q) (tp.kp k rfl) a, .cons ⟨_, h1, trivial⟩ q b⟩
      · rename_i d' ds' h1 h2
        cases h
        obtain ⟨a, b⟩ := args_ok r k t h2 (fun b p z => hb b p (by simpa [rdSl] using z)) (fun j p z => hi j p (by unfold ioSl; exact List.mem_cons_of_mem _ z))
        obtain ⟨p, e1, ns, h0, tp⟩ := r.sl i _ _ h1 q
        cases e1
        exact ⟨.io (hi i p (by unfold ioSl; exact List.mem_cons_self) (by unfold mineAt; rw [h1]) q) (tp.kp k rfl) a, .cons ⟨_, h1, trivial⟩ q b⟩
      · cases h

theorem putAt_at {f : Nat → Option D} {j : Nat} : ∀ {e : Env} {k : Nat}, (putAt f k e)[j]? = e[j]?.map fun s => match f (k + j) with
    | some d => reTop s d
    | none => s := by
  induction j with
  | zero =>
    intro e k
    cases e with
    | nil => rfl
    | cons s e => rfl
  | succ j ih =>
    intro e k
    cases e with
    | nil => rfl
    | cons s e =>
      unfold putAt
      rw [List.getElem?_cons_succ, List.getElem?_cons_succ, ih]
      congr 2
      funext s
      rw [show k + 1 + j = k + (j + 1) by omega]
theorem putAt_len {f : Nat → Option D} : ∀ (e : Env) (k : Nat), (putAt f k e).length = e.length
  | [], _ => rfl
  | s :: e, k => by unfold putAt; rw [List.length_cons, List.length_cons, putAt_len e (k + 1)]
theorem lookN_none {j : Nat} : ∀ {is : List Nat} {ds : List D}, j ∉ is → lookN is ds j = none
  | [], _, _ => rfl
  | _ :: _, [], _ => rfl
  | i :: is, d :: ds, h => by
    simp only [List.mem_cons, not_or] at h
    unfold lookN
    rw [if_neg (Ne.symm h.1)]
    exact lookN_none h.2
theorem put_ok (r : R F e S σ H) {io : List Addr} (sub : ∀ p, S p → S1 p) (new : ∀ p, S1 p → S p ∨ H p = none) (s2 : ∀ p, S1 p → H1 p ≠ none) (keep : ∀ b o, H b = some o → b ∉ io → H1 b = some o) (mono : ∀ p, H1 p = none → H p = none)
    {is : List Nat} {outs : List D} (ia : IoA e σ is io) (oo : OutsOk F.K S1 H1 io outs) : R F (putIo is outs e) S1 σ H1 ∧ Stp e S σ H (putIo is outs e) S1 H1 := by
  have imm : ∀ p, p ∈ io → ¬ S p ∧ ∃ o, H p = some o ∧ ¬ Imm o := fun p hp => by
    obtain ⟨i, s, _, h1, m, h2⟩ := ia.mem hp
    obtain ⟨a, o, b, c, _⟩ := r.heldOk ⟨i, s, h1, m, h2⟩
    exact ⟨a, o, b, c⟩
  have k : Kp S H S1 H1 := ⟨sub, fun p o h q => keep p o h fun hp => by
    obtain ⟨a, o', b, c⟩ := imm p hp
    rcases q with q | q
    · exact a q
    · rw [h] at b; cases b; exact c q⟩
  have look : ∀ (j : Nat), (lookN is outs j = none ∧ j ∉ is) ∨ ∃ p d s, lookN is outs j = some d ∧ j ∈ is ∧ σ[j]? = some (some (.ref p)) ∧ ¬ S1 p ∧ Top F.K S1 H1 p d ∧ e[j]? = some s ∧ Mine s := by
    clear keep imm k
    induction ia generalizing outs with
    | nil => exact fun j => .inl ⟨rfl, by simp⟩
    | @cons i is p ps hm h2 t ih =>
      cases oo with
      | @cons _ _ d ds n tp oo =>
        intro j
        unfold lookN
        by_cases hj : i = j
        · subst hj
          rw [if_pos rfl]
          obtain ⟨s, h0, m0⟩ := hm
          exact .inr ⟨p, d, s, rfl, List.mem_cons_self, h2, n, tp, h0, m0⟩
        · rw [if_neg hj]
          rcases ih oo j with ⟨a, b⟩ | ⟨p, d, s, a, b, c⟩
          · exact .inl ⟨a, by simp only [List.mem_cons, not_or]; exact ⟨fun z => hj z.symm, b⟩⟩
          · exact .inr ⟨p, d, s, a, List.mem_cons_of_mem _ b, c⟩
  have at' : ∀ (j : Nat) (s : Sl), (putIo is outs e)[j]? = some s → (j ∉ is ∧ e[j]? = some s) ∨ ∃ p d s0, j ∈ is ∧ σ[j]? = some (some (.ref p)) ∧ ¬ S1 p ∧ Top F.K S1 H1 p d ∧ e[j]? = some s0 ∧ Mine s0 ∧ s = reTop s0 d := by
    intro j s h
    unfold putIo at h
    rw [putAt_at, Nat.zero_add] at h
    rcases look j with ⟨a, b⟩ | ⟨p, d, s0, a, b, c, n, tp, g, m⟩
    · rw [a] at h
      refine .inl ⟨b, ?_⟩
      cases q : e[j]? with
      | none => rw [q] at h; cases h
      | some s' => rw [q] at h; cases h; rfl
    · rw [a, g] at h
      cases h
      exact .inr ⟨p, d, s0, b, c, n, tp, g, m, rfl⟩
  have mine : ∀ (j : Nat) (s : Sl), (putIo is outs e)[j]? = some s → Mine s → ∃ s0, e[j]? = some s0 ∧ Mine s0 := by
    intro j s h m
    rcases at' j s h with ⟨_, a⟩ | ⟨p, d, s0, _, _, _, _, g, m0, _⟩
    · exact ⟨s, a, m⟩
    · exact ⟨s0, g, m0⟩
  refine ⟨⟨by unfold putIo; rw [putAt_len]; exact r.len, fun b o h hb => ?_, fun p h => sub p (r.s0 p h), fun p h => ?_, s2, fun p h => fun z => r.there p h (mono p z), fun j s o h1 h2 => ?_, fun i j s t p h1 h2 m1 m2 h3 h4 => ?_, fun j d h => ?_⟩, sub, fun p ⟨j, s, h1, m, h2⟩ => ?_, fun p o h nh => keep p o h fun hp => ?_, fun p h => ?_, mono⟩
  · refine keep b o (r.base b o h hb) fun hp => ?_
    obtain ⟨i, s, _, h1, m, h2⟩ := ia.mem hp
    have q := r.sl i s _ h1 h2
    cases s with
    | own d => obtain ⟨p', e1, _, h0, _⟩ := q; cases e1; rw [h] at h0; cases h0
    | iow d => obtain ⟨p', e1, _, h0, _⟩ := q; cases e1; exact hb h0
    | _ => exact m.elim
  · rcases new p h with h | h
    · exact r.s1 p h
    · exact .inr (r.h0 h)
  · rcases at' j s h1 with ⟨nj, h3⟩ | ⟨p, d, s0, hj, h3, n, tp, g, m, rfl⟩
    · refine (r.sl j s o h3 h2).kp k fun p m z => ?_
      subst z
      obtain ⟨a, ob, b, _⟩ := r.heldOk ⟨j, s, h3, m, h2⟩
      refine ⟨?_, fun z => ?_⟩
      · rw [b]
        refine keep p ob b fun hp => ?_
        obtain ⟨i, s', hi, h1', m', h2'⟩ := ia.mem hp
        exact nj (by rw [r.dis j i s s' p h3 h1' m m' h2 h2']; exact hi)
      · rcases new p z with z | z
        · exact a z
        · rw [b] at z; cases z
    · have q := r.sl j s0 o g h2
      rw [h3] at h2; cases h2
      cases s0 with
      | own d0 => obtain ⟨p', e1, _, h0, _⟩ := q; cases e1; exact ⟨p, rfl, n, h0, tp⟩
      | iow d0 => obtain ⟨p', e1, _, h0, _⟩ := q; cases e1; exact ⟨p, rfl, n, h0, tp⟩
      | _ => exact m.elim
  · obtain ⟨s0, a, b⟩ := mine i s h1 m1
    obtain ⟨t0, c, d⟩ := mine j t h2 m2
    exact r.dis i j s0 t0 p a c b d h3 h4
  · rcases at' j _ h with ⟨_, a⟩ | ⟨p, d', s0, _, _, _, _, g, m0, z⟩
    · exact r.fix j d a
    · cases s0 with
      | iow d0 => exact r.fix j d0 g
      | own d0 => cases z
      | _ => exact m0.elim
  · obtain ⟨s0, a, b⟩ := mine j s h1 m
    exact ⟨j, s0, a, b, h2⟩
  · obtain ⟨i, s, _, h1, m, h2⟩ := ia.mem hp
    exact nh ⟨i, s, h1, m, h2⟩
  · rcases new p h with h | h
    · exact .inl h
    · exact .inr (.inl h)

theorem sp_call {modes : List Bool} {g : List D → Rs} {os : List Od} {vs : List V} {ds : List D} {Q : VK} (r : R F e S σ H) (ok : OdsOk F S σ H vs os) (ha : argsD modes os e = some ds) (nd : nodupB (ioSl modes os) = true)
    (sep : (rdSl modes os e).all (fun b => !(ioSl modes os).contains b) = true)
    (q : match g ds with
      | .ok fr d outs => ((rdSl modes os e).isEmpty = true ∨ (noList d && outs.all noListTop) = true) ∧ ∀ w H1 S1, R F (putIo (ioSl modes os) outs e) S1 σ H1 → Stp e S σ H (putIo (ioSl modes os) outs e) S1 H1 → OdOk F H (putIo (ioSl modes os) outs e) S1 σ H1 w (if fr then .f d else .d d) → Q w H1
      | .err x => Acc F x
      | .bad => False) : spF F.K F.mg modes g vs H Q F.E := by
  let S' : Addr → Prop := fun p => S p ∨ ∃ b, b ∈ rdSl modes os e ∧ σ[b]? = some (some (.ref p))
  have k : Kp S H S' H := ⟨fun _ z => .inl z, fun _ _ z _ => z⟩
  have rdm : ∀ b, b ∈ rdSl modes os e → ∃ s, e[b]? = some s ∧ Mine s := by
    intro b hb
    clear ok ha nd sep q k S'
    induction modes generalizing os with
    | nil => cases os <;> simp [rdSl] at hb
    | cons m ms ih =>
      cases os with
      | nil => cases m <;> simp [rdSl] at hb
      | cons o os =>
        cases m with
        | true => exact ih (os := os) (by cases o <;> simpa [rdSl] using hb)
        | false =>
          cases o with
          | s i =>
            unfold rdSl at hb
            split at hb
            · rename_i hm
              rcases List.mem_cons.mp hb with rfl | hb
              · exact mineAt_iff.mp hm
              · exact ih hb
            · exact ih hb
          | d x => exact ih (os := os) (by simpa [rdSl] using hb)
          | f x => exact ih (os := os) (by simpa [rdSl] using hb)
  obtain ⟨ao, ia⟩ := args_ok (S' := S') r k ok ha (fun b p hb hp => .inr ⟨b, hb, hp⟩) (fun i p hi hm hp => by
    obtain ⟨s, h1, m⟩ := mineAt_iff.mp hm
    rintro (z | ⟨b, hb, z⟩)
    · exact (r.heldOk ⟨i, s, h1, m, hp⟩).1 z
    · obtain ⟨t, h2, m2⟩ := rdm b hb
      have e1 := r.dis i b s t p h1 h2 m m2 hp z
      have := List.all_eq_true.mp sep b hb
      rw [← e1] at this
      simp only [Bool.not_eq_true', List.contains_eq_mem, decide_eq_false_iff_not] at this
      exact this hi)
  refine ⟨S', ds, ao, ia.nodup r nd, fun p h => ?_, ?_⟩
  · rcases h with h | ⟨b, hb, hp⟩
    · exact r.s2 p h
    · obtain ⟨t, h2, m2⟩ := rdm b hb
      obtain ⟨_, o, ho, _⟩ := r.heldOk ⟨b, t, h2, m2, hp⟩
      rw [ho]; exact fun z => nomatch z
  · cases hg : g ds with
    | bad => rw [hg] at q; exact q
    | err x =>
      rw [hg] at q
      refine fun C dx H1 h1 h2 => q C dx H1 (fun b o hb hi => h1 b o (r.base b o hb hi) fun hp => ?_) h2
      obtain ⟨i, s, _, g1, m, g2⟩ := ia.mem hp
      have qq := r.sl i s _ g1 g2
      cases s with
      | own d => obtain ⟨p', e1, _, h0, _⟩ := qq; cases e1; rw [hb] at h0; cases h0
      | iow d => obtain ⟨p', e1, _, h0, _⟩ := qq; cases e1; exact hi h0
      | _ => exact m.elim
    | ok fr d outs =>
      rw [hg] at q
      obtain ⟨qn, q⟩ := q
      refine fun v H1 S1 a => ?_
      rcases qn with qn | qn
      · -- nothing read
        have nob : ∀ b, b ∉ rdSl modes os e := by
          cases h : rdSl modes os e with
          | nil => simp
          | cons _ _ => rw [h] at qn; cases qn
        have new : ∀ p, S1 p → S p ∨ H p = none := fun p h => by
          rcases a.new p h with (z | ⟨b, hb, _⟩) | z
          · exact .inl z
          · exact absurd hb (nob b)
          · exact .inr z
        obtain ⟨r1, t1⟩ := put_ok r (fun p h => a.sub p (.inl h)) new a.s2 a.keep a.mono ia a.outs
        refine q v H1 S1 r1 t1 ?_
        have qv := a.val
        cases fr with
        | false => rw [if_neg Bool.false_ne_true] at qv ⊢; exact qv
        | true =>
          rw [if_pos rfl] at qv ⊢
          obtain ⟨p, e1, ns, hp, t⟩ := qv
          refine ⟨p, e1, ns, r.h0 hp, hp, fun z => ?_, t⟩
          exact r.nHeld hp (t1.held p z)
      · rw [Bool.and_eq_true] at qn
        have a' := a.narrow (S := S) (fun p h => .inl h) qn.1 qn.2
        obtain ⟨r1, t1⟩ := put_ok r a'.sub a'.new a'.s2 a'.keep a'.mono ia a'.outs
        have qv := a'.val
        rw [if_neg Bool.false_ne_true] at qv
        have hfr : fr = false := by
          have := a.val
          cases fr with
          | false => rfl
          | true =>
            rw [if_pos rfl] at this
            obtain ⟨p, _, _, _, t⟩ := this
            rw [top_list t] at qn; exact absurd qn.1 (by decide)
        subst hfr
        exact q v H1 _ r1 t1 qv
theorem leakSl_ok : ∀ {bs : List Nat} {e e1 : Env} {S : Addr → Prop}, R F e S σ H → leakSl bs e = some e1 → ∃ S1, R F e1 S1 σ H ∧ Stp e S σ H e1 S1 H
  | [], e, _, S, r, h => by cases h; exact ⟨S, r, .refl _ _ _ _⟩
  | i :: is, e, e1, S, r, h => by
    simp only [leakSl] at h
    split at h
    · rename_i x e2 h2
      have : ∃ S1, R F e2 S1 σ H ∧ Stp e S σ H e2 S1 H := by
        unfold leak1 at h2
        simp only at h2
        split at h2
        · rename_i y hy; cases h2
          obtain ⟨p, h1, r1, t1, q⟩ := r.leak hy
          exact ⟨_, r1, t1⟩
        · cases h2; exact ⟨S, r, .refl _ _ _ _⟩
        · cases h2
      obtain ⟨S2, r2, t2⟩ := this
      obtain ⟨S3, r3, t3⟩ := leakSl_ok r2 h
      exact ⟨S3, r3, t2.trans t3⟩
    · cases h
end
end DL

set_option maxRecDepth 100000
set_option maxHeartbeats 4000000
namespace DL
open PySem PySem.Spec L2
open PyProof.Rows hiding St

section
variable {F : Fx} {e e1 e2 : Env} {S S1 S2 S' : Addr → Prop} {σ : St} {Hs H H1 H2 : Hp} {v : V}
theorem leakSl_at : ∀ {bs : List Nat} {e e1 : Env}, leakSl bs e = some e1 → ∀ (j : Nat), (j ∉ bs → e1[j]? = e[j]?) ∧ (j ∈ bs → ∃ x, (e[j]? = some (.own x) ∨ e[j]? = some (.val x)) ∧ e1[j]? = some (.val x))
  | [], e, _, h, j => by cases h; exact ⟨fun _ => rfl, fun h => by cases h⟩
  | i :: is, e, e1, h, j => by
    simp only [leakSl] at h
    split at h
    · rename_i x e2 h2
      have one : ∃ x, (e[i]? = some (.own x) ∨ e[i]? = some (.val x)) ∧ e2[i]? = some (.val x) ∧ ∀ (j : Nat), j ≠ i → e2[j]? = e[j]? := by
        unfold leak1 at h2
        simp only at h2
        split at h2
        · rename_i y hy; cases h2
          exact ⟨_, .inl hy, List.getElem?_set_self (List.getElem?_eq_some_iff.mp hy).1, fun j hj => List.getElem?_set_ne (Ne.symm hj)⟩
        · rename_i y hy; cases h2; exact ⟨_, .inr hy, hy, fun _ _ => rfl⟩
        · cases h2
      obtain ⟨x', h3, h4, h5⟩ := one
      obtain ⟨a, b⟩ := leakSl_at h j
      refine ⟨fun hj => ?_, fun hj => ?_⟩
      · simp only [List.mem_cons, not_or] at hj
        rw [a hj.2, h5 j hj.1]
      · by_cases hji : j = i
        · subst hji
          by_cases hm : j ∈ is
          · obtain ⟨y, h6, h7⟩ := b hm
            rw [h4] at h6
            rcases h6 with h6 | h6
            · cases h6
            · cases h6; exact ⟨_, h3, h7⟩
          · rw [a hm]; exact ⟨x', h3, h4⟩
        · rcases List.mem_cons.mp hj with z | z
          · exact absurd z hji
          · obtain ⟨y, h6, h7⟩ := b z
            rw [h5 j hji] at h6
            exact ⟨y, h6, h7⟩
    · cases h
theorem leakSl_res {bs : List Nat} (h : leakSl bs e = some e1) (o : Od) : res o e1 = res o e := by
  cases o with
  | d x => rfl
  | f x => rfl
  | s j =>
    obtain ⟨a, b⟩ := leakSl_at h j
    unfold res
    by_cases hj : j ∈ bs
    · obtain ⟨x, h6, h7⟩ := b hj
      rcases h6 with h6 | h6 <;> simp only [h6, h7]
    · simp only [a hj]
theorem leakSl_args {bs : List Nat} (h : leakSl bs e = some e1) : ∀ {modes : List Bool} {os : List Od}, (∀ i, i ∈ ioSl modes os → i ∉ bs) → (∀ b, b ∈ rdSl modes os e → b ∈ bs) → argsD modes os e1 = argsD modes os e ∧ rdSl modes os e1 = []
  | [], [], _, _ => ⟨rfl, rfl⟩
  | [], _ :: _, _, _ => ⟨rfl, rfl⟩
  | true :: _, [], _, _ => ⟨rfl, rfl⟩
  | false :: _, [], _, _ => ⟨rfl, rfl⟩
  | false :: ms, .d x :: os, h1, h2 => by
    obtain ⟨a, b⟩ := leakSl_args h (modes := ms) (os := os) (fun i hi => h1 i (by simpa [ioSl] using hi)) (fun i hi => h2 i (by simpa [rdSl] using hi))
    exact ⟨by simp only [argsD, leakSl_res h, a], by simpa [rdSl] using b⟩
  | false :: ms, .f x :: os, h1, h2 => by
    obtain ⟨a, b⟩ := leakSl_args h (modes := ms) (os := os) (fun i hi => h1 i (by simpa [ioSl] using hi)) (fun i hi => h2 i (by simpa [rdSl] using hi))
    exact ⟨by simp only [argsD, leakSl_res h, a], by simpa [rdSl] using b⟩
  | false :: ms, .s j :: os, h1, h2 => by
    obtain ⟨a, b⟩ := leakSl_args h (modes := ms) (os := os) (fun i hi => h1 i (by simpa [ioSl] using hi)) (fun i hi => h2 i (by
      unfold rdSl
      split
      · exact List.mem_cons_of_mem _ hi
      · exact hi))
    refine ⟨by simp only [argsD, leakSl_res h, a], ?_⟩
    unfold rdSl
    have hm : mineAt j e1 = false := by
      obtain ⟨c, d⟩ := leakSl_at h j
      by_cases hj : j ∈ bs
      · obtain ⟨x, _, h7⟩ := d hj
        unfold mineAt; rw [h7]
      · have : mineAt j e = false := by
          cases q : mineAt j e with
          | false => rfl
          | true => exact absurd (h2 j (by unfold rdSl; rw [if_pos q]; exact List.mem_cons_self)) hj
        unfold mineAt at this ⊢
        rw [c hj]; exact this
    rw [if_neg (by rw [hm]; decide)]
    exact b
  | true :: ms, .d x :: os, h1, h2 => by
    obtain ⟨a, b⟩ := leakSl_args h (modes := ms) (os := os) (fun i hi => h1 i (by simpa [ioSl] using hi)) (fun i hi => h2 i (by simpa [rdSl] using hi))
    exact ⟨rfl, by simpa [rdSl] using b⟩
  | true :: ms, .f x :: os, h1, h2 => by
    obtain ⟨a, b⟩ := leakSl_args h (modes := ms) (os := os) (fun i hi => h1 i (by simpa [ioSl] using hi)) (fun i hi => h2 i (by simpa [rdSl] using hi))
    exact ⟨rfl, by simpa [rdSl] using b⟩
  | true :: ms, .s j :: os, h1, h2 => by
    obtain ⟨a, b⟩ := leakSl_args h (modes := ms) (os := os) (fun i hi => h1 i (by unfold ioSl; exact List.mem_cons_of_mem _ hi)) (fun i hi => h2 i (by simpa [rdSl] using hi))
    have hj : j ∉ bs := h1 j (by unfold ioSl; exact List.mem_cons_self)
    obtain ⟨c, d⟩ := leakSl_at h j
    exact ⟨by simp only [argsD, c hj, a], by simpa [rdSl] using b⟩
theorem R.wish {EE : XK} (r : R F e S σ H) : R { F with E := EE } e S σ H := ⟨r.len, r.base, r.s0, r.s1, r.s2, r.there, r.sl, r.dis, r.fix⟩
theorem R.unwish {EE : XK} (r : R { F with E := EE } e S σ H) : R F e S σ H := ⟨r.len, r.base, r.s0, r.s1, r.s2, r.there, r.sl, r.dis, r.fix⟩
theorem OdsOk.wish {EE : XK} {vs : List V} {os : List Od} (k : OdsOk F S σ H vs os) : OdsOk { F with E := EE } S σ H vs os := by
  induction k with
  | nil => exact .nil
  | d a _ ih => exact .d a ih
  | s a _ ih => exact .s a ih
theorem OdOk.unwish {EE : XK} {o : Od} (k : OdOk { F with E := EE } Hs e S σ H v o) : OdOk F Hs e S σ H v o := by cases o <;> exact k
theorem callF_sp {EE : XK} {modes : List Bool} {g : List D → Rs} {os : List Od} {vs : List V} {Q : VK} (r0 : R F e S σ H) (k0 : OdsOk F S σ H vs os)
    (q : match callF modes g os e with
      | .ok o e1 => ∀ w H1 S1, R F e1 S1 σ H1 → Stp e S σ H e1 S1 H1 → OdOk F H e1 S1 σ H1 w o → Q w H1
      | .err x => Acc { F with E := EE } x
      | .bad => False) : spF F.K F.mg modes g vs H Q EE := by
  have r : R { F with E := EE } e S σ H := r0.wish
  have k1 : OdsOk { F with E := EE } S σ H vs os := k0.wish
  unfold callF at q
  cases ha : argsD modes os e with
  | none => rw [ha] at q; exact q.elim
  | some ds =>
    simp only [ha] at q
    by_cases hc : (nodupB (ioSl modes os) && (rdSl modes os e).all (fun b => !(ioSl modes os).contains b)) = true
    · rw [if_pos hc] at q
      rw [Bool.and_eq_true] at hc
      cases hg : g ds with
      | bad => rw [hg] at q; exact q.elim
      | err x =>
        simp only [hg] at q
        exact sp_call r k1 ha hc.1 hc.2 (by rw [hg]; exact q)
      | ok fr d outs =>
        simp only [hg] at q
        by_cases hb : (rdSl modes os e).isEmpty = true
        · rw [if_pos hb] at q
          refine sp_call r k1 ha hc.1 hc.2 ?_
          rw [hg]
          exact ⟨.inl hb, fun w H2 S2 r2 t2 k2 => q w H2 S2 r2.unwish t2 k2.unwish⟩
        · rw [if_neg hb] at q
          by_cases hl : (noList d && outs.all noListTop) = true
          · rw [if_pos hl] at q
            refine sp_call r k1 ha hc.1 hc.2 ?_
            rw [hg]
            refine ⟨.inr hl, fun w H2 S2 r2 t2 k2 => q w H2 S2 r2.unwish t2 ?_⟩
            cases fr with
            | false => exact k2
            | true =>
              obtain ⟨p, _, _, _, _, _, t⟩ := k2
              rw [Bool.and_eq_true, top_list t] at hl
              exact absurd hl.1 (by decide)
          · rw [if_neg hl] at q
            cases hk : leakSl (rdSl modes os e) e with
            | none => rw [hk] at q; exact q.elim
            | some e2 =>
              simp only [hk] at q
              obtain ⟨S2, r2, t2⟩ := leakSl_ok r hk
              have hio : ∀ i, i ∈ ioSl modes os → i ∉ rdSl modes os e := fun i hi hb => by
                have := List.all_eq_true.mp hc.2 i hb
                simp only [Bool.not_eq_true', List.contains_eq_mem, decide_eq_false_iff_not] at this
                exact this hi
              obtain ⟨a, b⟩ := leakSl_args hk hio (fun b hb => hb)
              refine sp_call r2 (k1.kp (r.kp t2)) (a.trans ha) hc.1 (by rw [b]; rfl) ?_
              rw [hg]
              exact ⟨.inl (by rw [b]; rfl), fun w H3 S3 r3 t3 k3 => q w H3 S3 r3.unwish (t2.trans t3) ((OdOk.unwish (F := F) (EE := EE) k3).back t2.mono)⟩
    · rw [if_neg hc] at q; exact q.elim
theorem tA_call {modes : List Bool} {g : List D → Rs} {ms : M (List Od)} {Q : VK} (q : tE F (call modes g ms) σ H Q) : tA F ms σ H fun vs H1 => spF F.K F.mg modes g (vs ++ []) H1 Q F.E := by
  obtain ⟨e, S, r, q⟩ := q
  refine ⟨e, S, r, ?_⟩
  simp only [call, bnd] at q
  cases h : ms e with
  | bad => rw [h] at q; exact q
  | err x => rw [h] at q; exact q
  | ok os e1 =>
    simp only [h] at q
    refine fun vs H1 S1 r1 t1 k1 => ?_
    show spF F.K F.mg modes g (vs ++ []) H1 Q F.E
    rw [List.append_nil]
    refine callF_sp r1 k1 ?_
    cases hc : callF modes g os e1 with
    | bad => rw [hc] at q; exact q
    | err x => rw [hc] at q; exact q
    | ok o e2 => simp only [hc] at q; exact fun w H2 S2 r2 t2 k2 => q w H2 S2 r2 (t1.trans t2) (k2.back t1.mono)
theorem tA_callN {modes : List Bool} {g : List D → Rs} {ms : M (List Od)} {Q : VK} (q : tE F (noErr (call modes g ms)) σ H Q) : tA F ms σ H fun vs H1 => spF F.K F.mg modes g (vs ++ []) H1 Q E0 := by
  obtain ⟨e, S, r, q⟩ := q
  refine ⟨e, S, r, ?_⟩
  simp only [noErr, call, bnd] at q
  cases h : ms e with
  | bad => rw [h] at q; exact q
  | err x => rw [h] at q; exact q.elim
  | ok os e1 =>
    simp only [h] at q
    refine fun vs H1 S1 r1 t1 k1 => ?_
    show spF F.K F.mg modes g (vs ++ []) H1 Q E0
    rw [List.append_nil]
    refine callF_sp r1 k1 ?_
    cases hc : callF modes g os e1 with
    | bad => rw [hc] at q; exact q
    | err x => rw [hc] at q; exact q.elim
    | ok o e2 => simp only [hc] at q; exact fun w H2 S2 r2 t2 k2 => q w H2 S2 r2 (t1.trans t2) (k2.back t1.mono)
end

section
variable {X : Cx} {F : Fx} {k : Nat} {f : Addr} {fd : FuncData} {ps : List Str} {modes : List Bool} {g : List D → Rs} {x : Str} {p pos : Pos} {ex : Expr} {es : List Expr} {ms : M (List Od)}
theorem de_call (hK : F.K = X.K) (hG : F.mg = X.mg) (hx : Passes (L2.CX X.prog X.w) X F.E) (Fn : FnOk X.prog X.w X.K X.mg X.base (L2.CX X.prog X.w) k f fd ps (spF X.K X.mg modes g)) (hr : Room k X.A) (hg : Gl X x) (hm : X.mg x = some (.ref f)) (hk : PySem.W.keepIn X.K (.ref f) = true) (hb : Binds X.K fd ps [])
    (ha : PA X (ex :: es) (tA F ms)) (hdb : (x == ("__debug__" : Str)) = false := by decide) (he : starEach (ex :: es) X.env = (false, eval ex X.env) :: starEach es X.env := by rfl) (hpl : (backTo pos (starEach es X.env)).any (·.1) = false := by rfl) :
    PE X (.Call (.Name x p) (ex :: es) [] pos) (tE F (call modes g ms)) :=
  pe_weak (pe_call Fn hr hg hm hk hb .nil hx ha hdb he hpl) fun σ H Q q => by rw [← hK, ← hG]; exact tA_call q
theorem de_callN (hK : F.K = X.K) (hG : F.mg = X.mg) (Fn : FnOk X.prog X.w X.K X.mg X.base (L2.CX X.prog X.w) k f fd ps (spF X.K X.mg modes g)) (hr : Room k X.A) (hg : Gl X x) (hm : X.mg x = some (.ref f)) (hk : PySem.W.keepIn X.K (.ref f) = true) (hb : Binds X.K fd ps [])
    (ha : PA X (ex :: es) (tA F ms)) (hdb : (x == ("__debug__" : Str)) = false := by decide) (he : starEach (ex :: es) X.env = (false, eval ex X.env) :: starEach es X.env := by rfl) (hpl : (backTo pos (starEach es X.env)).any (·.1) = false := by rfl) :
    PE X (.Call (.Name x p) (ex :: es) [] pos) (tE F (noErr (call modes g ms))) :=
  pe_weak (pe_call Fn hr hg hm hk hb .nil passL ha hdb he hpl) fun σ H Q q => by rw [← hK, ← hG]; exact tA_callN q
theorem de_call0 (hK : F.K = X.K) (hG : F.mg = X.mg) (hx : Passes (L2.CX X.prog X.w) X F.E) (Fn : FnOk X.prog X.w X.K X.mg X.base (L2.CX X.prog X.w) k f fd ps (spF X.K X.mg modes g)) (hr : Room k X.A) (hg : Gl X x) (hm : X.mg x = some (.ref f)) (hk : PySem.W.keepIn X.K (.ref f) = true) (hb : Binds X.K fd ps [])
    (hdb : (x == ("__debug__" : Str)) = false := by decide) : PE X (.Call (.Name x p) [] [] pos) (tE F (call modes g nilA)) :=
  pe_weak (pe_call0 Fn hr hg hm hk hb .nil hx hdb) fun σ H Q q => by
    rw [← hK, ← hG]
    obtain ⟨e, S, r, q⟩ := tA_call q
    exact q [] H S r (.refl _ _ _ _) .nil
end

def topAt (i : Nat) (e : Env) : Option D := match e[i]? with
  | some (.own d) => some d
  | some (.iow d) => some d
  | _ => none
def putTop (i : Nat) (d : D) (e : Env) : Env := putIo [i] [d] e
section
variable {F : Fx} {e e1 e2 : Env} {S S1 S2 S' : Addr → Prop} {σ : St} {Hs H H1 H2 : Hp} {v : V} {d : D}
theorem topAt_ok (r : R F e S σ H) {i : Nat} (h : topAt i e = some d) : ∃ p, σ[i]? = some (some (.ref p)) ∧ ¬ S p ∧ Held e σ p ∧ (∃ s, e[i]? = some s ∧ Mine s) ∧ Top F.K S H p d := by
  unfold topAt at h
  split at h
  · rename_i x hx; cases h
    obtain ⟨o, h1, p, rfl, ns, _, t⟩ := r.at hx
    exact ⟨p, h1, ns, ⟨i, _, hx, trivial, h1⟩, ⟨_, hx, trivial⟩, t⟩
  · rename_i x hx; cases h
    obtain ⟨o, h1, p, rfl, ns, _, t⟩ := r.at hx
    exact ⟨p, h1, ns, ⟨i, _, hx, trivial, h1⟩, ⟨_, hx, trivial⟩, t⟩
  · cases h
theorem mut_ok (r : R F e S σ H) {i : Nat} {d' : D} (h : topAt i e = some d) {p : Addr} (hp : σ[i]? = some (some (.ref p))) {o : HO} (t : Top F.K S (upd H p o) p d') : R F (putTop i d' e) S σ (upd H p o) ∧ Stp e S σ H (putTop i d' e) S (upd H p o) := by
  obtain ⟨p', h1, ns, hh, hm, t0⟩ := topAt_ok r h
  rw [hp] at h1; cases h1
  obtain ⟨ob, hob, _⟩ := t0.obj
  refine put_ok r (io := [p]) (fun _ z => z) (fun _ z => .inl z) (fun q z => ?_) (fun b o' hb hn => ?_) (fun q z => ?_) (.cons hm hp .nil) (.cons ns t .nil)
  · by_cases hq : q = p
    · rw [hq, upd_same]; exact fun z => nomatch z
    · rw [upd_ne hq]; exact r.s2 q z
  · rw [upd_ne (by simpa using hn)]; exact hb
  · by_cases hq : q = p
    · rw [hq, upd_same] at z; cases z
    · rw [upd_ne hq] at z; exact z
theorem top_upd {p : Addr} {o : HO} (ns : ¬ S p) (ni : ∀ u, H p = some u → ¬ Imm u) {xs : List V} {ds : List D} {K : PySem.W.Frag} (q : Reps K S H xs ds) : Reps K S (upd H p o) xs ds := q.kp (kp_chg ns ni)
end
def apnd (i : Nat) (m : M Od) : MS := fun e => match topAt i e with
  | some (.lst _) => (match m e with
    | .ok o e1 => (match leak1 o e1 with
      | some (x, e2) => (match topAt i e2 with
        | some (.lst ds) => if ds.length < 16777216 then .nx (putTop i (.lst (ds ++ [x])) e2) else .bad
        | _ => .bad)
      | none => .bad)
    | .err x => .err x
    | .bad => .bad)
  | _ => .bad
def stoT (i : Nat) (mi : M Od) : Od → MS := fun o e1 => match topAt i e1 with
  | some (.lst _) => (match mi e1 with
    | .ok oi e2 => (match leak1 o e2 with
      | some (x, e3) => (match topAt i e3, res oi e3 with
        | some (.lst ds), some (.int k) => (match ixN ds.length k with
          | some j => .nx (putTop i (.lst (ds.set j x)) e3)
          | none => .bad)
        | _, _ => .bad)
      | none => .bad)
    | .err x => .err x
    | .bad => .bad)
  | _ => .bad
def stoL (i : Nat) (mi m : M Od) : MS := bndS m fun o => stoT i mi o
section
variable {X : Cx} {F : Fx} {m mi : M Od} {i : Nat} {ex : Expr}
theorem Top.ni {K : PySem.W.Frag} {S : Addr → Prop} {H : Hp} {p : Addr} {d : D} (t : Top K S H p d) : ∀ u, H p = some u → ¬ Imm u := fun u h => by
  obtain ⟨o, h1, h2, _⟩ := t.obj
  rw [h] at h1; cases h1; exact h2
theorem tyV_list {K : PySem.W.Frag} {H : Hp} {p : Addr} {xs : List V} (h : H p = some (.lst xs)) : tyV K "list" (.ref p) H := Or.inl ⟨rfl, _, SqL.of h⟩
theorem tS_apnd {D : Ends} {σ : St} {H : Hp} (q : tS F (apnd i m) D σ H) : tDrop (tBM F.K "list" rAppend (tVar i) (tCons (tE F m) tNil)) D σ H := by
  obtain ⟨e, S, r, q⟩ := q
  unfold apnd at q
  cases h0 : topAt i e with
  | none => rw [h0] at q; exact q.elim
  | some d0 =>
    cases d0 with
    | lst ds0 =>
      simp only [h0] at q
      obtain ⟨p, hp, ns, hh, hm, xs0, hp0, _⟩ := topAt_ok r h0
      refine ⟨_, hp, tyV_list hp0, e, S, r, ?_⟩
      cases h1 : m e with
      | bad => rw [h1] at q; exact q
      | err x => rw [h1] at q; exact q
      | ok o e1 =>
        simp only [h1] at q
        refine fun v H1 S1 r1 t1 k1 => ?_
        cases hl : leak1 o e1 with
        | none => rw [hl] at q; exact q.elim
        | some pr =>
          obtain ⟨x, e2⟩ := pr
          simp only [hl] at q
          obtain ⟨S2, r2, t2, kx⟩ := leak1_ok r1 t1 k1 hl
          cases h2 : topAt i e2 with
          | none => rw [h2] at q; exact q.elim
          | some d2 =>
            cases d2 with
            | lst ds =>
              simp only [h2] at q
              obtain ⟨p', hp', ns', hh', hm', tp⟩ := topAt_ok r2 h2
              rw [hp] at hp'; cases hp'
              obtain ⟨xs, hxs, qx⟩ := id tp
              by_cases hz : ds.length < 16777216
              · rw [if_pos hz] at q
                have ni := tp.ni
                have tp' : Top F.K S2 (upd H1 p (.lst (xs ++ [v]))) p (.lst (ds ++ [x])) := ⟨xs ++ [v], upd_same, top_upd ns' ni (qx.append (.cons kx .nil))⟩
                obtain ⟨r3, t3⟩ := mut_ok r2 h2 hp tp'
                exact ⟨p, xs, v, rfl, rfl, hxs, by rw [line_eq, qx.length]; exact hz, q σ _ S2 r3 ((r.kp t2).trans (r2.kp t3))⟩
              · rw [if_neg hz] at q; exact q.elim
            | _ => rw [h2] at q; exact q.elim
    | _ => rw [h0] at q; exact q.elim
theorem ds_apnd {xn : Str} {p apos cpos epos : Pos} (hK : F.K = X.K) (hi : X.N[i]? = some xn) (hv : Vis X.env.scope xn) (he : PE X ex (tE F m))
    (h : PE X (.Call (.Attribute (.Name xn p) "append" apos) [ex] [] cpos) (tBM X.K "list" rAppend (tVar i) (tCons (tE F m) tNil))) (hs : swapsWith (.Call (.Attribute (.Name xn p) "append" apos) [ex] [] cpos) none epos.line X.env = pure false := by rfl) :
    PS X (.Expr (.Call (.Attribute (.Name xn p) "append" apos) [ex] [] cpos) epos) (tS F (apnd i m)) :=
  ps_weak (ps_expr h hs) fun D σ H q => by rw [← hK]; exact tS_apnd q
theorem leakK {o : Od} {v : V} {x : D} {e e1 : Env} {S : Addr → Prop} {σ : St} {H Hs : Hp} (r : R F e S σ H) (k : OdOk F Hs e S σ H v o) (hl : leak1 o e = some (x, e1)) : ∃ S1, R F e1 S1 σ H ∧ Kp S H S1 H ∧ Rep F.K S1 H v x := by
  cases o with
  | d y => cases hl; exact ⟨S, r, .refl _ _, k⟩
  | f y =>
    cases hl
    obtain ⟨p, rfl, ns, h0, hs, nh, t⟩ := k
    obtain ⟨ob, ho, _⟩ := t.obj
    exact ⟨_, r.know h0 (by rw [ho]; exact fun z => nomatch z) nh, ⟨fun _ z => .inl z, fun _ _ z _ => z⟩, t.rep⟩
  | s j =>
    obtain ⟨S1, r1, t1, q⟩ := leak1_ok (o := .s j) r (.refl _ _ _ _) k hl
    exact ⟨S1, r1, r.kp t1, q⟩
theorem int_of {o : Od} {u : V} {n : Int} {e e1 : Env} {S S1 : Addr → Prop} {σ : St} {H Hs : Hp} (k : OdOk F Hs e S σ H u o) (r1 : R F e1 S1 σ H) (h : res o e1 = some (.int n)) : u = .int n := by
  cases o with
  | d y => cases h; exact RepT.int (K := F.K) (S := S) (H := H) (.inl k)
  | f y => cases h; obtain ⟨p, _, _, _, _, _, t⟩ := k; exact t.elim
  | s j => exact (res_ok (Hs := H) (v := u) (o := .s j) r1 k h).int
theorem stoT_ok {o : Od} {v : V} {e : Env} {S : Addr → Prop} {σ : St} {H Hs : Hp} {Q : St → Hp → Prop} (r : R F e S σ H) (k : OdOk F Hs e S σ H v o)
    (q : match stoT i mi o e with
      | .nx e1 => ∀ H1 S1, R F e1 S1 σ H1 → Kp S H S1 H1 → Q σ H1
      | .err x => Acc F x
      | _ => False) : L2.gSub (tVar i) (tE F mi) rSetL v σ H Q := by
  unfold stoT at q
  cases h0 : topAt i e with
  | none => rw [h0] at q; exact q.elim
  | some d0 =>
    cases d0 with
    | lst ds0 =>
      simp only [h0] at q
      obtain ⟨p, hp, ns, hh, hm, xs0, hp0, _⟩ := topAt_ok r h0
      refine ⟨_, hp, e, S, r, ?_⟩
      cases h1 : mi e with
      | bad => rw [h1] at q; exact q
      | err x => rw [h1] at q; exact q
      | ok oi e2 =>
        simp only [h1] at q
        refine fun u H1 S1 r1 t1 k1 => ?_
        cases hl : leak1 o e2 with
        | none => rw [hl] at q; exact q.elim
        | some pr =>
          obtain ⟨x, e3⟩ := pr
          simp only [hl] at q
          obtain ⟨S2, r2, kk, kx⟩ := leakK r1 (k.keep r t1) hl
          cases h2 : topAt i e3 with
          | none => rw [h2] at q; exact q.elim
          | some d2 =>
            cases d2 with
            | lst ds =>
              cases h3 : res oi e3 with
              | none => rw [h2, h3] at q; exact q.elim
              | some di =>
                cases di with
                | int n =>
                  simp only [h2, h3] at q
                  obtain ⟨p', hp', ns', hh', hm', tp⟩ := topAt_ok r2 h2
                  rw [hp] at hp'; cases hp'
                  obtain ⟨xs, hxs, qx⟩ := id tp
                  cases int_of k1 r2 h3
                  cases h4 : ixN ds.length n with
                  | none => rw [h4] at q; exact q.elim
                  | some j =>
                    simp only [h4] at q
                    have ni := tp.ni
                    have tp' : Top F.K S2 (upd H1 p (.lst (xs.set j v))) p (.lst (ds.set j x)) := ⟨xs.set j v, upd_same, top_upd ns' ni (qx.set kx j)⟩
                    obtain ⟨r3, t3⟩ := mut_ok r2 h2 hp tp'
                    exact ⟨p, xs, n, j, rfl, rfl, hxs, by rw [qx.length]; exact h4, q _ S2 r3 (((r.kp t1).trans kk).trans (r2.kp t3))⟩
                | _ => rw [h2, h3] at q; exact q.elim
            | _ => rw [h2] at q; exact q.elim
    | _ => rw [h0] at q; exact q.elim
theorem tS_stoL {D : Ends} {σ : St} {H : Hp} (q : tS F (stoL i mi m) D σ H) : tAsg (tE F m) (L2.gSub (tVar i) (tE F mi) rSetL) D σ H := by
  obtain ⟨e, S, r, q⟩ := q
  refine ⟨e, S, r, ?_⟩
  simp only [stoL, bndS] at q
  cases h1 : m e with
  | bad => rw [h1] at q; exact q
  | err x => rw [h1] at q; exact q
  | ok o e1 =>
    simp only [h1] at q
    refine fun v H1 S1 r1 t1 k1 => stoT_ok r1 k1 ?_
    cases h2 : stoT i mi o e1 with
    | nx e2 => rw [h2] at q; exact fun H2 S2 r2 k2 => q σ H2 S2 r2 ((r.kp t1).trans k2)
    | err x => rw [h2] at q; exact q
    | bad => rw [h2] at q; exact q
    | rt _ _ =>
      exfalso
      unfold stoT at h2
      repeat (first | (split at h2) | cases h2)
    | bk _ =>
      exfalso
      unfold stoT at h2
      repeat (first | (split at h2) | cases h2)
    | ct _ =>
      exfalso
      unfold stoT at h2
      repeat (first | (split at h2) | cases h2)
theorem ds_stoL {b ex : Expr} {pos pos' : Pos} {xn : Str} {p : Pos} (hi : X.N[i]? = some xn) (hv : Vis X.env.scope xn) (hb : PE X b (tE F mi)) (he : PE X ex (tE F m)) (hs : swapsWithSole [.Subscript (.Name xn p) b pos'] ex pos.line X.env = pure false := by rfl) (hw : swappedStores [.Subscript (.Name xn p) b pos'] ex X.env = pure none := by rfl)
    (h1 : (assignEach [.Subscript (.Name xn p) b pos'] X.env).map (·.2) = [assign (.Subscript (.Name xn p) b pos') X.env] := by rfl) (hd : (xn == ("__debug__" : Str)) = false := by decide) (hcd : (xn == ("__classdict__" : Str)) = false := by decide)
    (ha : ∀ v, assign (.Subscript (.Name xn p) b pos') X.env v = (do
      let ov ← holding [v] (eval (.Name xn p) X.env)
      let iv ← holding [v, ov] (eval b X.env)
      standAt pos'
      holding [v, ov, iv] (setItem ov iv v)
      release [v, ov, iv] []) := by intro _; rfl) :
    PS X (.Assign [.Subscript (.Name xn p) b pos'] ex pos) (tS F (stoL i mi m)) :=
  ps_weak (ps_asg he (pg_sub (pe_var hi hv hd hcd) hb set_list ha) hs hw h1) fun D σ H q => tS_stoL q
def sto2 (i1 i2 : Nat) (mi1 mi2 ma mb : M Od) : MS := bndS ma fun oa => bndS mb fun ob e2 => match noListO oa, noListO ob with
  | true, true => (match stoT i1 mi1 oa e2 with
    | .nx e3 => stoT i2 mi2 ob e3
    | o => o)
  | _, _ => .bad
where noListO : Od → Bool
  | .d x => noList x
  | _ => false
theorem OdOk.rep {o : Od} (h : sto2.noListO o = true) {v : V} {e e1 : Env} {S S1 : Addr → Prop} {σ σ1 : St} {H H1 Hs : Hp} (k : OdOk F Hs e S σ H v o) (kk : Kp S H S1 H1) : OdOk F Hs e1 S1 σ1 H1 v o := by
  cases o with
  | d x => exact Rep.kp kk k
  | f _ => cases h
  | s _ => cases h
theorem stoT_out {o : Od} {e : Env} : (∃ e1, stoT i mi o e = .nx e1) ∨ (∃ x, stoT i mi o e = .err x) ∨ stoT i mi o e = .bad := by
  unfold stoT
  repeat' split
  all_goals first | exact .inl ⟨_, rfl⟩ | exact .inr (.inl ⟨_, rfl⟩) | exact .inr (.inr rfl)
theorem ds_sto2 {i1 i2 : Nat} {ma mb mi1 mi2 : M Od} {a b ea eb : Expr} {pos pos1 pos2 pt pt2 : Pos} {kt k2 : Nat} {xn yn : Str} {p1 p2 : Pos} (hc : X.calm = true) (hK : F.K = X.K) (hi : X.N[i1]? = some xn) (hv : Vis X.env.scope xn) (hj : X.N[i2]? = some yn) (hv2 : Vis X.env.scope yn)
    (ha : PE X a (tE F mi1)) (hb : PE X b (tE F mi2)) (hea : PE X ea (tE F ma)) (heb : PE X eb (tE F mb))
    (hs : swapsWithSole [.Tuple [.Subscript (.Name xn p1) a pos1, .Subscript (.Name yn p2) b pos2] kt pt] (.Tuple [ea, eb] k2 pt2) pos.line X.env = pure false := by rfl) (hw : swappedStores [.Tuple [.Subscript (.Name xn p1) a pos1, .Subscript (.Name yn p2) b pos2] kt pt] (.Tuple [ea, eb] k2 pt2) X.env = pure none := by rfl)
    (hd : (xn == ("__debug__" : Str)) = false := by decide) (hcd : (xn == ("__classdict__" : Str)) = false := by decide) (hd2 : (yn == ("__debug__" : Str)) = false := by decide) (hcd2 : (yn == ("__classdict__" : Str)) = false := by decide)
    (hst : starEach [ea, eb] X.env = (false, eval ea X.env) :: starEach [eb] X.env := by rfl) (hst2 : starEach [eb] X.env = (false, eval eb X.env) :: starEach [] X.env := by rfl)
    (haa : ∀ v, assign (.Subscript (.Name xn p1) a pos1) X.env v = (do
      let ov ← holding [v] (eval (.Name xn p1) X.env)
      let iv ← holding [v, ov] (eval a X.env)
      standAt pos1
      holding [v, ov, iv] (setItem ov iv v)
      release [v, ov, iv] []) := by intro _; rfl)
    (hab : ∀ v, assign (.Subscript (.Name yn p2) b pos2) X.env v = (do
      let ov ← holding [v] (eval (.Name yn p2) X.env)
      let iv ← holding [v, ov] (eval b X.env)
      standAt pos2
      holding [v, ov, iv] (setItem ov iv v)
      release [v, ov, iv] []) := by intro _; rfl) :
    PS X (.Assign [.Tuple [.Subscript (.Name xn p1) a pos1, .Subscript (.Name yn p2) b pos2] kt pt] (.Tuple [ea, eb] k2 pt2) pos) (tS F (sto2 i1 i2 mi1 mi2 ma mb)) := by
  refine ps_weak (ps_asg (pe_tup (pa_cons hea (pa_cons heb pa_nil hst2) hst)) (pg_tup hc (pgs_cons (pg_sub (pe_var hi hv hd hcd) ha set_list haa) (pgs_cons (pg_sub (pe_var hj hv2 hd2 hcd2) hb set_list hab) pgs_nil))) hs hw) fun D σ H q => ?_
  obtain ⟨e, S, r, q⟩ := q
  refine ⟨e, S, r, ?_⟩
  simp only [sto2, bndS] at q
  cases h : ma e with
  | bad => rw [h] at q; exact q
  | err x => rw [h] at q; exact q
  | ok oa e1 =>
    simp only [h] at q
    refine fun v H1 S1 r1 t1 k1 => ⟨e1, S1, r1, ?_⟩
    cases h2 : mb e1 with
    | bad => rw [h2] at q; exact q
    | err x => rw [h2] at q; exact q
    | ok ob e2 =>
      simp only [h2] at q
      refine fun u H2 S2 r2 t2 k2 => ?_
      refine ⟨by rw [line_eq]; show 2 ≤ 16777216; decide, fun w hw => ⟨w, [v, u], rfl, SqT.of upd_same, rfl, v, [u], rfl, ?_⟩⟩
      have r3 := r2.new (o := .tup [v, u]) hw
      have t3 : Stp e2 S2 σ H2 e2 S2 (upd H2 w (.tup [v, u])) := .alloc hw
      have k0 : Kp S H S2 (upd H2 w (.tup [v, u])) := ((r.kp t1).trans (r1.kp t2)).trans (r2.kp t3)
      cases na : sto2.noListO oa with
      | false => rw [na] at q; exact q.elim
      | true =>
        cases nb : sto2.noListO ob with
        | false => rw [na, nb] at q; exact q.elim
        | true =>
          rw [na, nb] at q
          simp only at q
          refine stoT_ok r3 ((k1.keep r1 t2).keep r2 t3) ?_
          rcases stoT_out (i := i1) (mi := mi1) (o := oa) (e := e2) with ⟨e3, h3⟩ | ⟨x, h3⟩ | h3
          · rw [h3] at q ⊢
            refine fun H4 S4 r4 k4 => ⟨u, [], rfl, ?_⟩
            refine stoT_ok r4 (k2.rep nb ((r2.kp t3).trans k4)) ?_
            simp only at q
            rcases stoT_out (i := i2) (mi := mi2) (o := ob) (e := e3) with ⟨e5, h5⟩ | ⟨x, h5⟩ | h5
            · rw [h5] at q ⊢
              exact fun H6 S6 r6 k6 => ⟨rfl, q σ H6 S6 r6 ((k0.trans k4).trans k6)⟩
            · rw [h5] at q ⊢; exact q
            · rw [h5] at q; exact q.elim
          · rw [h3] at q ⊢; exact q
          · rw [h3] at q; exact q.elim
end

def whileS : Nat → M Bool → MS → MS
  | 0, _, _ => fun _ => .bad
  | n + 1, mc, mb => fun e => match mc e with
    | .ok false e1 => .nx e1
    | .ok true e1 => (match mb e1 with
      | .nx e2 => whileS n mc mb e2
      | .ct e2 => whileS n mc mb e2
      | .bk e2 => .nx e2
      | .rt o e2 => .rt o e2
      | .err x => .err x
      | .bad => .bad)
    | .err x => .err x
    | .bad => .bad
section
variable {X : Cx} {F : Fx} {mc : M Bool} {mb : MS}
theorem ds_while (n : Nat) {c : Expr} {body : List Stmt} {pos : Pos} (hp : PassesOwn (model X.prog X.w) X.A X.env X.xe) (hc : PT X c (tT F mc)) (hb : PSs X body (tS F mb)) : PS X (.While c body [] pos) (tS F (whileS n mc mb)) := by
  refine ps_weak (ps_while hp hc hb) fun D σ H ⟨e, S, r, q⟩ => ?_
  refine ⟨fun m σ' H' => ∃ e' S', R F e' S' σ' H' ∧ Kp S H S' H' ∧ PostS F D S H (whileS m mc mb e'), ⟨n, e, S, r, .refl _ _, q⟩, ?_⟩
  rintro m σ1 H1 ⟨e1, S1, r1, k1, q1⟩
  refine ⟨e1, S1, r1, ?_⟩
  cases m with
  | zero => exact q1.elim
  | succ m =>
    simp only [whileS] at q1
    cases h : mc e1 with
    | bad => rw [h] at q1; exact q1
    | err x => rw [h] at q1; exact q1
    | ok b e2 =>
      rw [h] at q1
      refine fun H2 S2 r2 t2 => ?_
      have k2 := k1.trans (r1.kp t2)
      cases b with
      | false =>
        exact iteF (q1 σ1 H2 S2 r2 k2)
      | true =>
        refine iteT ?_
        simp only at q1
        refine ⟨fun σ' H' => ∃ e' S', R F e' S' σ' H' ∧ Kp S H S' H' ∧ PostS F D S H (whileS m mc mb e'), fun σ' H' z => ⟨m, Nat.lt_succ_self m, z⟩, e2, S2, r2, ?_⟩
        cases h4 : mb e2 with
        | nx e4 => rw [h4] at q1; exact fun σ4 H4 S4 r4 k4 => ⟨e4, S4, r4, k2.trans k4, q1⟩
        | ct e4 => rw [h4] at q1; exact fun σ4 H4 S4 r4 k4 => ⟨e4, S4, r4, k2.trans k4, q1⟩
        | bk e4 => rw [h4] at q1; exact fun σ4 H4 S4 r4 k4 => q1 σ4 H4 S4 r4 (k2.trans k4)
        | rt o e4 => rw [h4] at q1; exact q1
        | err x => rw [h4] at q1; exact q1
        | bad => rw [h4] at q1; exact q1
end

def raiseS (c : Str) : MS := fun _ => .err ⟨c, none⟩
theorem ds_raise {X : Cx} {F : Fx} {c : Str} {ex : Expr} {pos : Pos} {C : Addr} (hc : X.calm = true) (hG : F.mg = X.mg) (hm : X.mg c = some (.ref C)) (tk : Takes X (fun cls d _ H => F.E cls d H)) (he : PMk X ex (fun _ H Q => Q (.ref C) none H)) : PS X (.Raise (some ex) none pos) (tS F (raiseS c)) :=
  ps_weak (ps_raise hc tk he) fun D σ H ⟨e, S, r, q⟩ => q (.ref C) none H r.base fun _ => ⟨C, by rw [hG]; exact hm, rfl, rfl⟩
end DL

set_option maxRecDepth 100000
set_option maxHeartbeats 4000000
namespace DL
open PySem PySem.Spec L2
open PyProof.Rows hiding St

def SqX (K : PySem.W.Frag) (H : Hp) (l : Bool) (a : Addr) (xs : List V) : Prop := match l with
  | true => SqL K H a xs
  | false => SqT K H a xs
def ItX (h : Heap) (l : Bool) (it a : Addr) (i : Nat) : Prop := match l with
  | true => h.IsListIter it a i
  | false => h.IsTupleIter it a i
def IsX (h : Heap) (l : Bool) (a : Addr) (its : Array Value) : Prop := match l with
  | true => h.IsList a its
  | false => h.IsTuple a its
def objX (l : Bool) (a : Addr) : Obj := match l with
  | true => { cls := .type "list_iterator", data := .fields #[.ref a, .int 0 0] }
  | false => { cls := .type "tuple_iterator", data := .fields #[.ref a, .int 0 0] }
theorem drawsX {prog : Program} {w : World} {A : Around} (hh : A.handled = none) (l : Bool) (it a : Addr) (hne : a ≠ it) (its : Array Value) :
    Draws prog w A it [it, a] its.size (fun i v => its[i]? = some v) (fun i h => ItX h l it a i ∧ IsX h l a its) := by
  cases l with
  | true => exact Draws.list hh it a hne its
  | false => exact Draws.tuple hh it a hne its
theorem beginsX (l : Bool) (a : Addr) (its : Array Value) : Begins (.ref a) (objX l a) (fun h => IsX h l a its) := by
  cases l with
  | true => exact begins_list a its
  | false => exact begins_tuple a its
theorem ItX.obj {h : Heap} {l : Bool} {it a : Addr} {i : Nat} (x : ItX h l it a i) : ∃ o, h.get? it = some o ∧ ∀ v, o.data ≠ .cell v := by
  cases l with
  | true => obtain ⟨o, e, _, d⟩ := x; exact ⟨o, e, fun v z => by rw [d] at z; cases z⟩
  | false => obtain ⟨o, e, _, d⟩ := x; exact ⟨o, e, fun v z => by rw [d] at z; cases z⟩
theorem ItX.at {h h' : Heap} {l : Bool} {it a : Addr} {i : Nat} (x : ItX h l it a i) (k : ∀ o, h.get? it = some o → h'.get? it = some o) : ItX h' l it a i := by
  cases l with
  | true => exact Heap.IsListIter.at x k
  | false => exact Heap.IsTupleIter.at x k
theorem itX_new {h : Heap} {l : Bool} {it a : Addr} (e : h.get? it = some (objX l a)) : ItX h l it a 0 := by
  cases l with
  | true => exact ⟨_, e, rfl, rfl⟩
  | false => exact ⟨_, e, rfl, rfl⟩
section
variable {X : Cx} {pins : List (Addr × Obj)} {σ : St} {H : Hp} {s : Shared}
theorem invX (I : Inv X pins σ H s) {l : Bool} {a : Addr} {xs : List V} (h : SqX X.K H l a xs) : ∃ its : List Value, Vals xs its ∧ IsX s.heap l a its.toArray ∧ xs.length ≤ sizeLine ∧ a < s.heap.objs.size := by
  cases l with
  | true => obtain ⟨its, r, p, z⟩ := I.list h; exact ⟨its, r, p.isList, z, p.lt⟩
  | false => obtain ⟨its, r, p, z⟩ := I.tuple h; exact ⟨its, r, p, z, p.lt⟩
theorem injX (I : Inv X pins σ H s) {l : Bool} {a : Addr} {xs ys : List V} (h : SqX X.K H l a xs) (h' : SqX X.K H l a ys) : xs = ys := by
  cases l with
  | true => exact I.list_inj h h'
  | false => exact I.tuple_inj h h'
end
def Itz3 (K : PySem.W.Frag) (l1 l2 l3 : Bool) (a b c : Addr) : It :=
  ⟨fun i H => ∃ (xs ys zs : List V) (x y z : V), SqX K H l1 a xs ∧ SqX K H l2 b ys ∧ SqX K H l3 c zs ∧ xs[i]? = some x ∧ ys[i]? = some y ∧ zs[i]? = some z,
    fun i H v H' => ∃ T x y z, v = .ref T ∧ H T = none ∧ H' = upd H T (.tup [x, y, z]) ∧ (∀ xs, SqX K H l1 a xs → xs[i]? = some x) ∧ (∀ ys, SqX K H l2 b ys → ys[i]? = some y) ∧ ∀ zs, SqX K H l3 c zs → zs[i]? = some z,
    fun i H => ∃ xs ys zs : List V, SqX K H l1 a xs ∧ SqX K H l2 b ys ∧ SqX K H l3 c zs ∧ i = min (min xs.length ys.length) zs.length⟩
def Itz2 (K : PySem.W.Frag) (l1 l2 : Bool) (a b : Addr) : It :=
  ⟨fun i H => ∃ (xs ys : List V) (x y : V), SqX K H l1 a xs ∧ SqX K H l2 b ys ∧ xs[i]? = some x ∧ ys[i]? = some y,
    fun i H v H' => ∃ T x y, v = .ref T ∧ H T = none ∧ H' = upd H T (.tup [x, y]) ∧ (∀ xs, SqX K H l1 a xs → xs[i]? = some x) ∧ ∀ ys, SqX K H l2 b ys → ys[i]? = some y,
    fun i H => ∃ xs ys : List V, SqX K H l1 a xs ∧ SqX K H l2 b ys ∧ i = min xs.length ys.length⟩
def Itn (K : PySem.W.Frag) (l : Bool) (a : Addr) : It :=
  ⟨fun i H => ∃ (xs : List V) (x : V), SqX K H l a xs ∧ xs[i]? = some x,
    fun i H v H' => ∃ T x, v = .ref T ∧ H T = none ∧ H' = upd H T (.tup [.int (i : Nat), x]) ∧ ∀ xs, SqX K H l a xs → xs[i]? = some x,
    fun i H => ∃ xs : List V, SqX K H l a xs ∧ i = xs.length⟩
theorem turn_zip3 {P : Program} {w : World} {K : PySem.W.Frag} {elts : List Expr} {kk : Nat} {tpos : Pos} {N : Nat} {l1 l2 l3 : Bool} {a b c : Addr} (ha : a < N) (hb : b < N) (hc : c < N) :
    Turn P w K (.Tuple elts kk tpos) (Itz3 K l1 l2 l3 a b c) [N + 5, N + 3, N + 4, N, N + 1, N + 2] (N + 5) (fun i h => IsZip h (N + 5) (N + 3) (N + 4) .none ∧ IsTupOf3 h (N + 3) (.ref N) (.ref (N + 1)) (.ref (N + 2)) ∧ (∃ a1 a2 a3, IsTupOf3 h (N + 4) a1 a2 a3) ∧ ItX h l1 N a i ∧ ItX h l2 (N + 1) b i ∧ ItX h l3 (N + 2) c i) where
  mem := by simp
  obj := fun i h st d hd => by
    obtain ⟨hz, hTI, ⟨x, y, z, hTO⟩, h1, h2, h3⟩ := st
    simp only [List.mem_cons, List.not_mem_nil, or_false] at hd
    rcases hd with q | q | q | q | q | q
    · rw [q]; exact ⟨_, hz, fun v q => nomatch q⟩
    · rw [q]; exact ⟨_, hTI, fun v q => nomatch q⟩
    · rw [q]; exact ⟨_, hTO, fun v q => nomatch q⟩
    · rw [q]; exact h1.obj
    · rw [q]; exact h2.obj
    · rw [q]; exact h3.obj
  keep := fun i h h' st k => by
    obtain ⟨hz, hTI, ⟨x, y, z, hTO⟩, h1, h2, h3⟩ := st
    exact ⟨k _ (by simp) _ hz, k _ (by simp) _ hTI, ⟨x, y, z, k _ (by simp) _ hTO⟩, h1.at fun o q => k _ (by simp) o q, h2.at fun o q => k _ (by simp) o q, h3.at fun o q => k _ (by simp) o q⟩
  item := by
    intro X hP hw hK hcl i pins s σ H E I hf st hg
    subst hP hw hK
    obtain ⟨hz, hTI, hTO, h1, h2, h3⟩ := st
    obtain ⟨xs, ys, zs, x, y, z, qa, qb, qc, hx, hy, hzz⟩ := hg
    obtain ⟨t1, v1, p1, _, _⟩ := invX I qa
    obtain ⟨t2, v2, p2, _, _⟩ := invX I qb
    obtain ⟨t3, v3, p3, _, _⟩ := invX I qc
    have hh := I.ok.hd hcl
    have hlt : i < min (min t1.toArray.size t2.toArray.size) t3.toArray.size := by
      have e1 := (List.getElem?_eq_some_iff.mp hx).1
      have e2 := (List.getElem?_eq_some_iff.mp hy).1
      have e3 := (List.getElem?_eq_some_iff.mp hzz).1
      have l1 := v1.length
      have l2 := v2.length
      have l3 := v3.length
      simp only [List.size_toArray]
      omega
    have S := zip_sep3 (N := N) (fp1 := [a]) (fp2 := [b]) (fp3 := [c]) (by simpa using ha) (by simpa using hb) (by simpa using hc)
    have G := GoesN.zip3 (prog := X.prog) (w := X.w) (A := X.A) (elts := elts) (x1 := kk) (pos := tpos) S (drawsX (A := X.A.in1) hh l1 N a (Nat.ne_of_lt ha) t1.toArray) (drawsX (A := X.A.in1) hh l2 (N + 1) b (Nat.ne_of_lt (Nat.lt_succ_of_lt hb)) t2.toArray) (drawsX (A := X.A.in1) hh l3 (N + 2) c (Nat.ne_of_lt (Nat.lt_succ_of_lt (Nat.lt_succ_of_lt hc))) t3.toArray)
    refine G.goes i s _ _ hlt ⟨hz, hTI, hTO, ⟨h1, p1⟩, ⟨h2, p2⟩, h3, p3⟩ fun v h' tk hY hS hk htk => ?_
    obtain ⟨T, u1, u2, u3, rfl, hn, e1, e2, e3, hT⟩ := hY
    obtain ⟨hz', hTI', hTO', ⟨h1', _⟩, ⟨h2', _⟩, h3', _⟩ := hS
    obtain ⟨u1', g1, r1⟩ := v1.get hx
    obtain ⟨u2', g2, r2⟩ := v2.get hy
    obtain ⟨u3', g3, r3⟩ := v3.get hzz
    have f1 : u1' = u1 := by simpa [g1] using e1
    have f2 : u2' = u2 := by simpa [g2] using e2
    have f3 : u3' = u3 := by simpa [g3] using e3
    subst f1 f2 f3
    obtain ⟨oT, hoT, hcT, nT, hdT⟩ := hT
    have new : ObjOk X.prog X.w (upd H T (.tup [x, y, z])) h' T (.tup [x, y, z]) :=
      ⟨by show 3 ≤ sizeLine; decide, [u1', u2', u3'], .cons r1 (.cons r2 (.cons r3 .nil)), ⟨oT, hoT, hcT, nT, hdT⟩⟩
    have I1 : Inv X pins σ (upd H T (.tup [x, y, z])) { s with heap := h', toks := tk } :=
      I.turnedNew (ch := [N + 5, N + 3, N + 4, N, N + 1, N + 2]) (fun d o hd q => hk d o (fun z => hd (by simp only [List.mem_cons, List.not_mem_nil, or_false] at z ⊢; rcases z with z | z | z | z | z <;> simp [z])) q) hf hn new
    refine ⟨.ref T, _, I1, rfl, ⟨T, x, y, z, rfl, I.hok.fresh hn, rfl, fun l hl => by rw [injX I hl qa]; exact hx, fun l hl => by rw [injX I hl qb]; exact hy, fun l hl => by rw [injX I hl qc]; exact hzz⟩, ⟨hz', hTI', hTO', h1', h2', h3'⟩, fun d hd => ?_⟩
    have hdl : d < s.heap.objs.size := by
      simp only [List.mem_cons, List.not_mem_nil, or_false] at hd
      rcases hd with q | q | q | q | q | q
      · rw [q]; exact Heap.lt_size hz
      · rw [q]; exact Heap.lt_size hTI
      · rw [q]; obtain ⟨_, _, _, q⟩ := hTO; exact Heap.lt_size q
      · rw [q]; obtain ⟨_, e, _⟩ := h1.obj; exact Heap.lt_size e
      · rw [q]; obtain ⟨_, e, _⟩ := h2.obj; exact Heap.lt_size e
      · rw [q]; obtain ⟨_, e, _⟩ := h3.obj; exact Heap.lt_size e
    rw [upd_ne (Nat.ne_of_lt (Nat.lt_of_lt_of_le hdl hn))]
    exact (hf d hd).1
  done := by
    intro X hP hw hK hcl i pins s σ H E I hf st hg
    subst hP hw hK
    obtain ⟨hz, hTI, hTO, h1, h2, h3⟩ := st
    obtain ⟨xs, ys, zs, qa, qb, qc, hi⟩ := hg
    obtain ⟨t1, v1, p1, _, _⟩ := invX I qa
    obtain ⟨t2, v2, p2, _, _⟩ := invX I qb
    obtain ⟨t3, v3, p3, _, _⟩ := invX I qc
    have hh := I.ok.hd hcl
    have hi' : i = min (min t1.toArray.size t2.toArray.size) t3.toArray.size := by
      simp only [List.size_toArray]
      rw [← v1.length, ← v2.length, ← v3.length]
      exact hi
    have S := zip_sep3 (N := N) (fp1 := [a]) (fp2 := [b]) (fp3 := [c]) (by simpa using ha) (by simpa using hb) (by simpa using hc)
    have G := GoesN.zip3 (prog := X.prog) (w := X.w) (A := X.A) (elts := elts) (x1 := kk) (pos := tpos) S (drawsX (A := X.A.in1) hh l1 N a (Nat.ne_of_lt ha) t1.toArray) (drawsX (A := X.A.in1) hh l2 (N + 1) b (Nat.ne_of_lt (Nat.lt_succ_of_lt hb)) t2.toArray) (drawsX (A := X.A.in1) hh l3 (N + 2) c (Nat.ne_of_lt (Nat.lt_succ_of_lt (Nat.lt_succ_of_lt hc))) t3.toArray)
    subst hi'
    exact G.stops s _ _ ⟨hz, hTI, hTO, ⟨h1, p1⟩, ⟨h2, p2⟩, h3, p3⟩ fun h' tk hk htk => I.turnedL (ch := [N + 5, N + 3, N + 4, N, N + 1, N + 2]) (fun d o hd q => hk d o (fun z => hd (by simp only [List.mem_cons, List.not_mem_nil, or_false] at z ⊢; rcases z with z | z | z | z | z <;> simp [z])) q) hf
  self := fun A i s Q E st h => wpAny_pyIter_zip st.1 h
theorem turn_zip2 {P : Program} {w : World} {K : PySem.W.Frag} {elts : List Expr} {kk : Nat} {tpos : Pos} {N : Nat} {l1 l2 : Bool} {a b : Addr} (ha : a < N) (hb : b < N) :
    Turn P w K (.Tuple elts kk tpos) (Itz2 K l1 l2 a b) [N + 4, N + 2, N + 3, N, N + 1] (N + 4) (fun i h => IsZip h (N + 4) (N + 2) (N + 3) .none ∧ IsTupOf2 h (N + 2) (.ref N) (.ref (N + 1)) ∧ (∃ a1 a2, IsTupOf2 h (N + 3) a1 a2) ∧ ItX h l1 N a i ∧ ItX h l2 (N + 1) b i) where
  mem := by simp
  obj := fun i h st d hd => by
    obtain ⟨hz, hTI, ⟨x, y, hTO⟩, h1, h2⟩ := st
    simp only [List.mem_cons, List.not_mem_nil, or_false] at hd
    rcases hd with q | q | q | q | q
    · rw [q]; exact ⟨_, hz, fun v q => nomatch q⟩
    · rw [q]; exact ⟨_, hTI, fun v q => nomatch q⟩
    · rw [q]; exact ⟨_, hTO, fun v q => nomatch q⟩
    · rw [q]; exact h1.obj
    · rw [q]; exact h2.obj
  keep := fun i h h' st k => by
    obtain ⟨hz, hTI, ⟨x, y, hTO⟩, h1, h2⟩ := st
    exact ⟨k _ (by simp) _ hz, k _ (by simp) _ hTI, ⟨x, y, k _ (by simp) _ hTO⟩, h1.at fun o q => k _ (by simp) o q, h2.at fun o q => k _ (by simp) o q⟩
  item := by
    intro X hP hw hK hcl i pins s σ H E I hf st hg
    subst hP hw hK
    obtain ⟨hz, hTI, hTO, h1, h2⟩ := st
    obtain ⟨xs, ys, x, y, qa, qb, hx, hy⟩ := hg
    obtain ⟨t1, v1, p1, _, _⟩ := invX I qa
    obtain ⟨t2, v2, p2, _, _⟩ := invX I qb
    have hh := I.ok.hd hcl
    have hlt : i < min t1.toArray.size t2.toArray.size := by
      have e1 := (List.getElem?_eq_some_iff.mp hx).1
      have e2 := (List.getElem?_eq_some_iff.mp hy).1
      have l1 := v1.length
      have l2 := v2.length
      simp only [List.size_toArray]
      omega
    have S := zip_sep2 (N := N) (fp1 := [a]) (fp2 := [b]) (by simpa using ha) (by simpa using hb)
    have G := GoesN.zip2 (prog := X.prog) (w := X.w) (A := X.A) (elts := elts) (x1 := kk) (pos := tpos) S (drawsX (A := X.A.in1) hh l1 N a (Nat.ne_of_lt ha) t1.toArray) (drawsX (A := X.A.in1) hh l2 (N + 1) b (Nat.ne_of_lt (Nat.lt_succ_of_lt hb)) t2.toArray)
    refine G.goes i s _ _ hlt ⟨hz, hTI, hTO, ⟨h1, p1⟩, h2, p2⟩ fun v h' tk hY hS hk htk => ?_
    obtain ⟨T, u1, u2, rfl, hn, e1, e2, hT⟩ := hY
    obtain ⟨hz', hTI', hTO', ⟨h1', _⟩, h2', _⟩ := hS
    obtain ⟨u1', g1, r1⟩ := v1.get hx
    obtain ⟨u2', g2, r2⟩ := v2.get hy
    have f1 : u1' = u1 := by simpa [g1] using e1
    have f2 : u2' = u2 := by simpa [g2] using e2
    subst f1 f2
    obtain ⟨oT, hoT, hcT, nT, hdT⟩ := hT
    have new : ObjOk X.prog X.w (upd H T (.tup [x, y])) h' T (.tup [x, y]) :=
      ⟨by show 2 ≤ sizeLine; decide, [u1', u2'], .cons r1 (.cons r2 .nil), ⟨oT, hoT, hcT, nT, hdT⟩⟩
    have I1 : Inv X pins σ (upd H T (.tup [x, y])) { s with heap := h', toks := tk } :=
      I.turnedNew (ch := [N + 4, N + 2, N + 3, N, N + 1]) (fun d o hd q => hk d o (fun z => hd (by simp only [List.mem_cons, List.not_mem_nil, or_false] at z ⊢; rcases z with z | z | z | z <;> simp [z])) q) hf hn new
    refine ⟨.ref T, _, I1, rfl, ⟨T, x, y, rfl, I.hok.fresh hn, rfl, fun l hl => by rw [injX I hl qa]; exact hx, fun l hl => by rw [injX I hl qb]; exact hy⟩, ⟨hz', hTI', hTO', h1', h2'⟩, fun d hd => ?_⟩
    have hdl : d < s.heap.objs.size := by
      simp only [List.mem_cons, List.not_mem_nil, or_false] at hd
      rcases hd with q | q | q | q | q
      · rw [q]; exact Heap.lt_size hz
      · rw [q]; exact Heap.lt_size hTI
      · rw [q]; obtain ⟨_, _, q⟩ := hTO; exact Heap.lt_size q
      · rw [q]; obtain ⟨_, e, _⟩ := h1.obj; exact Heap.lt_size e
      · rw [q]; obtain ⟨_, e, _⟩ := h2.obj; exact Heap.lt_size e
    rw [upd_ne (Nat.ne_of_lt (Nat.lt_of_lt_of_le hdl hn))]
    exact (hf d hd).1
  done := by
    intro X hP hw hK hcl i pins s σ H E I hf st hg
    subst hP hw hK
    obtain ⟨hz, hTI, hTO, h1, h2⟩ := st
    obtain ⟨xs, ys, qa, qb, hi⟩ := hg
    obtain ⟨t1, v1, p1, _, _⟩ := invX I qa
    obtain ⟨t2, v2, p2, _, _⟩ := invX I qb
    have hh := I.ok.hd hcl
    have hi' : i = min t1.toArray.size t2.toArray.size := by
      simp only [List.size_toArray]
      rw [← v1.length, ← v2.length]
      exact hi
    have S := zip_sep2 (N := N) (fp1 := [a]) (fp2 := [b]) (by simpa using ha) (by simpa using hb)
    have G := GoesN.zip2 (prog := X.prog) (w := X.w) (A := X.A) (elts := elts) (x1 := kk) (pos := tpos) S (drawsX (A := X.A.in1) hh l1 N a (Nat.ne_of_lt ha) t1.toArray) (drawsX (A := X.A.in1) hh l2 (N + 1) b (Nat.ne_of_lt (Nat.lt_succ_of_lt hb)) t2.toArray)
    subst hi'
    exact G.stops s _ _ ⟨hz, hTI, hTO, ⟨h1, p1⟩, h2, p2⟩ fun h' tk hk htk => I.turnedL (ch := [N + 4, N + 2, N + 3, N, N + 1]) (fun d o hd q => hk d o (fun z => hd (by simp only [List.mem_cons, List.not_mem_nil, or_false] at z ⊢; rcases z with z | z | z | z <;> simp [z])) q) hf
  self := fun A i s Q E st h => wpAny_pyIter_zip st.1 h
theorem turn_enumX {P : Program} {w : World} {K : PySem.W.Frag} {elts : List Expr} {kk : Nat} {tpos : Pos} {N : Nat} {l : Bool} {a : Addr} (ha : a < N) :
    Turn P w K (.Tuple elts kk tpos) (Itn K l a) [N + 1, N] (N + 1) (fun i h => (∃ old, IsEnum h (N + 1) N (0 + (i : Int)) old) ∧ ItX h l N a i) where
  mem := by simp
  obj := fun i h st d hd => by
    obtain ⟨⟨old, he⟩, h1⟩ := st
    simp only [List.mem_cons, List.not_mem_nil, or_false] at hd
    rcases hd with q | q
    · rw [q]; exact ⟨_, he, fun v q => nomatch q⟩
    · rw [q]; exact h1.obj
  keep := fun i h h' st k => by
    obtain ⟨⟨old, he⟩, h1⟩ := st
    exact ⟨⟨old, k _ (by simp) _ he⟩, h1.at fun o q => k _ (by simp) o q⟩
  item := by
    intro X hP hw hK hcl i pins s σ H E I hf st hg
    subst hP hw hK
    obtain ⟨he, h1⟩ := st
    obtain ⟨xs, x, qa, hx⟩ := hg
    obtain ⟨t1, v1, p1, _, _⟩ := invX I qa
    have hh := I.ok.hd hcl
    have hlt : i < t1.toArray.size := by
      have e1 := (List.getElem?_eq_some_iff.mp hx).1
      have l1 := v1.length
      simp only [List.size_toArray]
      omega
    have G := GoesN.enumFrom (prog := X.prog) (w := X.w) (A := X.A) (elts := elts) (x1 := kk) (pos := tpos) 0 (drawsX (A := X.A.in1) hh l N a (Nat.ne_of_lt ha) t1.toArray) (N + 1) (Nat.succ_ne_self N) (by simp only [List.mem_cons, List.not_mem_nil, or_false, not_or]; exact ⟨Nat.succ_ne_self N, Nat.ne_of_gt (Nat.lt_succ_of_lt ha)⟩) (by simp)
    refine G.goes i s _ _ hlt ⟨he, h1, p1⟩ fun v h' tk hY hS hk htk => ?_
    obtain ⟨T, tt, u1, rfl, hn, e1, hT⟩ := hY
    obtain ⟨he', h1', _⟩ := hS
    obtain ⟨u1', g1, r1⟩ := v1.get hx
    have f1 : u1' = u1 := by simpa [g1] using e1
    subst f1
    obtain ⟨oT, hoT, hcT, nT, hdT⟩ := hT
    have new : ObjOk X.prog X.w (upd H T (.tup [.int (i : Nat), x])) h' T (.tup [.int (i : Nat), x]) :=
      ⟨by show 2 ≤ sizeLine; decide, [.int (0 + (i : Int)) tt, u1'], .cons ⟨tt, by rw [Int.zero_add]⟩ (.cons r1 .nil), ⟨oT, hoT, hcT, nT, hdT⟩⟩
    have I1 : Inv X pins σ (upd H T (.tup [.int (i : Nat), x])) { s with heap := h', toks := tk } :=
      I.turnedNew (ch := [N + 1, N]) (fun d o hd q => hk d o (fun z => hd (by simpa using z)) q) hf hn new
    refine ⟨.ref T, _, I1, rfl, ⟨T, x, rfl, I.hok.fresh hn, rfl, fun l hl => by rw [injX I hl qa]; exact hx⟩, ⟨he', h1'⟩, fun d hd => ?_⟩
    have hdl : d < s.heap.objs.size := by
      simp only [List.mem_cons, List.not_mem_nil, or_false] at hd
      rcases hd with q | q
      · rw [q]; obtain ⟨_, q⟩ := he; exact Heap.lt_size q
      · rw [q]; obtain ⟨_, e, _⟩ := h1.obj; exact Heap.lt_size e
    rw [upd_ne (Nat.ne_of_lt (Nat.lt_of_lt_of_le hdl hn))]
    exact (hf d hd).1
  done := by
    intro X hP hw hK hcl i pins s σ H E I hf st hg
    subst hP hw hK
    obtain ⟨he, h1⟩ := st
    obtain ⟨xs, qa, hi⟩ := hg
    obtain ⟨t1, v1, p1, _, _⟩ := invX I qa
    have hh := I.ok.hd hcl
    have hi' : i = t1.toArray.size := by
      simp only [List.size_toArray]
      rw [← v1.length]
      exact hi
    have G := GoesN.enumFrom (prog := X.prog) (w := X.w) (A := X.A) (elts := elts) (x1 := kk) (pos := tpos) 0 (drawsX (A := X.A.in1) hh l N a (Nat.ne_of_lt ha) t1.toArray) (N + 1) (Nat.succ_ne_self N) (by simp only [List.mem_cons, List.not_mem_nil, or_false, not_or]; exact ⟨Nat.succ_ne_self N, Nat.ne_of_gt (Nat.lt_succ_of_lt ha)⟩) (by simp)
    subst hi'
    exact G.stops s _ _ ⟨he, h1, p1⟩ fun h' tk hk htk => I.turnedL (ch := [N + 1, N]) (fun d o hd q => hk d o (fun z => hd (by simpa using z)) q) hf
  self := fun A i s Q E st h => by
    obtain ⟨⟨old, he⟩, _⟩ := st
    exact wpAny_pyIter_enum he h
end DL

set_option maxRecDepth 100000
set_option maxHeartbeats 4000000
namespace DL
open PySem PySem.Spec L2
open PyProof.Rows hiding St

set_option maxHeartbeats 8000000 in
theorem meets_enumerate_newB1 {v : Value} {o : Obj} {H : Heap → Prop} (B : Begins v o H) :
    Meets (Builtin.«enumerate.__new__» ⟨[.type "enumerate", v], []⟩) (fun _ R s => H s.heap ∧
      R (.ok (.ret (.ref (s.heap.push o).objs.size))) { s with heap := (s.heap.push o).push { cls := .type "enumerate", data := .fields #[.none, .bool false, .ref s.heap.objs.size, rawInt 0, .none, .none] } }) :=
  .of_wp fun prog w A R s h => by
    obtain ⟨hp, g, d, tk, os⟩ := s; obtain ⟨h1, h⟩ := h
    have hsub := sub_enumerate
    have q1 : ∀ {A' : Around} {E : Value → Shared → Prop} {Q : Value → Shared → Prop}, Q (.ref hp.objs.size) ⟨hp.push o, g, d, tk, os⟩ → wpAny (model prog w) A' (pyIter v) Q E ⟨hp, g, d, tk, os⟩ :=
      fun q => B.iter prog w _ _ ⟨hp, g, d, tk, os⟩ _ h1 q
    wp_walk
    refine wpAny_stack_any fun st => wpAny_pure ?_
    split
    · rename_i c _ _ _ _ _
      cases (c == Value.type "enumerate")
      · wp_walk using q1
        exact ⟨_, rfl, h⟩
      · wp_walk using q1
        exact ⟨_, rfl, h⟩
    · wp_walk using q1
      exact ⟨_, rfl, h⟩
theorem enum_begins1 {prog : Program} {w : World} {A : Around} {E : Value → Shared → Prop} {s : Shared} {v : Value} {o : Obj} {H : Heap → Prop} {Q : Value → Shared → Prop} (B : Begins v o H) (h1 : H s.heap)
    (h : ∀ h', IsEnum h' (s.heap.objs.size + 1) s.heap.objs.size 0 .none → h'.get? s.heap.objs.size = some o → h'.objs.size = s.heap.objs.size + 2 →
      (∀ b o, s.heap.get? b = some o → h'.get? b = some o) → Q (.ref (s.heap.objs.size + 1)) { s with heap := h' }) :
    wpAny (model prog w) A (PySem.call (.type "enumerate") [v]) Q E s := by
  refine callType_new F.called_enumerate (by decide) (F.typeCall_enumerate_1 _) (F.newCall_enumerate_1 _) (fun obj => F.args_object_init_2 obj _) F.entry_enumerate_new
    (meets_enumerate_newB1 B) ⟨h1, ?_⟩
  have hz : (s.heap.push o).objs.size = s.heap.objs.size + 1 := Heap.size_push ..
  show _ ∧ _
  rw [hz]
  have he : IsEnum ((s.heap.push o).push { cls := .type "enumerate", data := .fields #[.none, .bool false, .ref s.heap.objs.size, rawInt 0, .none, .none] }) (s.heap.objs.size + 1) s.heap.objs.size 0 .none := by
    have := Heap.get?_push_size (s.heap.push o) (o := { cls := .type "enumerate", data := .fields #[.none, .bool false, .ref s.heap.objs.size, rawInt 0, .none, .none] }) rfl
    rw [hz] at this; exact this
  refine ⟨⟨_, he, rfl⟩, h _ he (Heap.get?_push_of_some _ (Heap.get?_push_size _ B.free)) (by rw [Heap.size_push, hz]) fun b o x => Heap.get?_push_of_some _ (Heap.get?_push_of_some _ x)⟩
theorem pa_sz {X : Cx} {es : List Expr} {t : TA} (h : PA X es t) : PA X es (fun σ H Q => t σ H fun vs H1 => (∀ a xs, (SqL X.K H1 a xs ∨ SqT X.K H1 a xs) → xs.length ≤ 16777216) → Q vs H1) := by
  refine ⟨fun pos pins s σ H Q I q => thn (h.run pos pins s σ H _ I q) fun us s1 ⟨vs, H1, I1, r1, q1⟩ => ⟨vs, H1, I1, r1, q1 fun a xs z => ?_⟩⟩
  rw [← line_eq]
  rcases z with z | z
  · exact (I1.list z).choose_spec.2.2
  · exact (I1.tuple z).choose_spec.2.2
theorem sqX_sz {K : PySem.W.Frag} {H : Hp} {l : Bool} {a : Addr} {xs : List V} (h : SqX K H l a xs) (z : ∀ a xs, (SqL K H a xs ∨ SqT K H a xs) → xs.length ≤ 16777216) : xs.length ≤ 16777216 := by
  cases l with
  | true => exact z a xs (.inl h)
  | false => exact z a xs (.inr h)
theorem fp_ge {X : Cx} {pins : List (Addr × Obj)} {σ : St} {H : Hp} {s : Shared} (I : Inv X pins σ H s) {b : Addr} (h : s.heap.objs.size ≤ b) : FpOk X pins H b := I.fpOk h (I.hok.fresh h)
section
variable {X : Cx} {p pos tpos : Pos} {elts : List Expr} {kk : Nat}
def iZ2 (K : PySem.W.Frag) (ta : TA) : TI := fun σ H R => ta σ H fun vs H1 => ∃ l1 l2 a b xs ys, vs = [.ref a, .ref b] ∧ SqX K H1 l1 a xs ∧ SqX K H1 l2 b ys ∧ R (Itz2 K l1 l2 a b) H1
def iZ3 (K : PySem.W.Frag) (ta : TA) : TI := fun σ H R => ta σ H fun vs H1 => ∃ l1 l2 l3 a b c xs ys zs, vs = [.ref a, .ref b, .ref c] ∧ SqX K H1 l1 a xs ∧ SqX K H1 l2 b ys ∧ SqX K H1 l3 c zs ∧ R (Itz3 K l1 l2 l3 a b c) H1
def iEn (K : PySem.W.Frag) (ta : TA) : TI := fun σ H R => ta σ H fun vs H1 => ∃ l a xs, vs = [.ref a] ∧ SqX K H1 l a xs ∧ R (Itn K l a) H1
theorem pi_zip2X {e1 e2 : Expr} {ta : TA} (hg : Gl X "zip") (hm : X.mg "zip" = none) (ha : PA X [e1, e2] ta) (hs : starEach [e1, e2] X.env = (false, eval e1 X.env) :: starEach [e2] X.env := by rfl) (hpl : (backTo pos (starEach [e2] X.env)).any (·.1) = false := by rfl) :
    PI X (.Tuple elts kk tpos) (.Call (.Name "zip" p) [e1, e2] [] pos) (iZ2 X.K ta) := by
  refine ⟨fun pins s σ H R I h => ?_⟩
  refine Call_ (ld_blt I hg hm PyProof.Rows.boot_zip (PyProof.Rows.callWith_type1 (thn (ha.run pos pins s σ H _ I h) fun us s1 ⟨vs, H1, I1, r1, q1⟩ => ?_) hs hpl))
  obtain ⟨l1, l2, a, b, xs, ys, ex, hqx, hqy, q⟩ := q1
  subst ex
  obtain ⟨u1, u2, rfl, ru1, ru2⟩ := Vals.two r1
  cases ru1; cases ru2
  obtain ⟨t1, v1, p1, _, la⟩ := invX I1 hqx
  obtain ⟨t2, v2, p2, _, lb⟩ := invX I1 hqy
  refine zip_begins2 (beginsX l1 a t1.toArray) (beginsX l2 b t2.toArray) p1 p2 fun h' hz hTI hTO h1 h2 hsz hk => wpAny_pyIter_zip hz ?_
  have I2 : Inv X pins σ H1 { s1 with heap := h' } := I1.kept (t' := s1.toks) hk
  refine ⟨s1.heap.objs.size + 4, [s1.heap.objs.size + 4, s1.heap.objs.size + 2, s1.heap.objs.size + 3, s1.heap.objs.size, s1.heap.objs.size + 1], _, _, H1, rfl, I2, turn_zip2 la lb, ⟨hz, hTI, ⟨_, _, hTO⟩, itX_new h1, itX_new h2⟩, fun c hcm => ?_, q⟩
  refine I1.fpOk ?_ (I1.hok.fresh ?_) <;>
  · simp only [List.mem_cons, List.not_mem_nil, or_false] at hcm
    rcases hcm with z | z | z | z | z <;> rw [z] <;> first | exact Nat.le_refl _ | exact Nat.le_add_right _ _
theorem pi_zip3X {e1 e2 e3 : Expr} {ta : TA} (hg : Gl X "zip") (hm : X.mg "zip" = none) (ha : PA X [e1, e2, e3] ta) (hs : starEach [e1, e2, e3] X.env = (false, eval e1 X.env) :: starEach [e2, e3] X.env := by rfl) (hpl : (backTo pos (starEach [e2, e3] X.env)).any (·.1) = false := by rfl) :
    PI X (.Tuple elts kk tpos) (.Call (.Name "zip" p) [e1, e2, e3] [] pos) (iZ3 X.K ta) := by
  refine ⟨fun pins s σ H R I h => ?_⟩
  refine Call_ (ld_blt I hg hm PyProof.Rows.boot_zip (PyProof.Rows.callWith_type1 (thn (ha.run pos pins s σ H _ I h) fun us s1 ⟨vs, H1, I1, r1, q1⟩ => ?_) hs hpl))
  obtain ⟨l1, l2, l3, a, b, c, xs, ys, zs, ex, hqx, hqy, hqz, q⟩ := q1
  subst ex
  cases r1 with
  | cons ru1 rr =>
  obtain ⟨u2, u3, rfl, ru2, ru3⟩ := Vals.two rr
  cases ru1; cases ru2; cases ru3
  obtain ⟨t1, v1, p1, _, la⟩ := invX I1 hqx
  obtain ⟨t2, v2, p2, _, lb⟩ := invX I1 hqy
  obtain ⟨t3, v3, p3, _, lc⟩ := invX I1 hqz
  refine zip_begins3 (beginsX l1 a t1.toArray) (beginsX l2 b t2.toArray) (beginsX l3 c t3.toArray) p1 p2 p3 fun h' hz hTI hTO h1 h2 h3 hsz hk => wpAny_pyIter_zip hz ?_
  have I2 : Inv X pins σ H1 { s1 with heap := h' } := I1.kept (t' := s1.toks) hk
  refine ⟨s1.heap.objs.size + 5, [s1.heap.objs.size + 5, s1.heap.objs.size + 3, s1.heap.objs.size + 4, s1.heap.objs.size, s1.heap.objs.size + 1, s1.heap.objs.size + 2], _, _, H1, rfl, I2, turn_zip3 la lb lc, ⟨hz, hTI, ⟨_, _, _, hTO⟩, itX_new h1, itX_new h2, itX_new h3⟩, fun c hcm => ?_, q⟩
  refine I1.fpOk ?_ (I1.hok.fresh ?_) <;>
  · simp only [List.mem_cons, List.not_mem_nil, or_false] at hcm
    rcases hcm with z | z | z | z | z | z <;> rw [z] <;> first | exact Nat.le_refl _ | exact Nat.le_add_right _ _
theorem pi_enumX {e1 : Expr} {ta : TA} (hg : Gl X "enumerate") (hm : X.mg "enumerate" = none) (ha : PA X [e1] ta) (hs : starEach [e1] X.env = [(false, eval e1 X.env)] := by rfl) :
    PI X (.Tuple elts kk tpos) (.Call (.Name "enumerate" p) [e1] [] pos) (iEn X.K ta) := by
  refine ⟨fun pins s σ H R I h => ?_⟩
  refine Call_ (ld_blt I hg hm boot_enumerate (PyProof.Rows.callWith_type1 (thn (ha.run pos pins s σ H _ I h) fun us s1 ⟨vs, H1, I1, r1, q1⟩ => ?_) hs rfl))
  obtain ⟨l, a, xs, ex, hq, q⟩ := q1
  subst ex
  obtain ⟨u1, rfl, ru1⟩ := Vals.one r1
  cases ru1
  obtain ⟨t1, v1, p1, _, la⟩ := invX I1 hq
  refine enum_begins1 (beginsX l a t1.toArray) p1 fun h' he h1 hsz hk => wpAny_pyIter_enum he ?_
  have I2 : Inv X pins σ H1 { s1 with heap := h' } := I1.kept (t' := s1.toks) hk
  refine ⟨s1.heap.objs.size + 1, [s1.heap.objs.size + 1, s1.heap.objs.size], _, _, H1, rfl, I2, turn_enumX la, ⟨⟨_, he⟩, itX_new h1⟩, fun c hcm => ?_, q⟩
  refine I1.fpOk ?_ (I1.hok.fresh ?_) <;>
  · simp only [List.mem_cons, List.not_mem_nil, or_false] at hcm
    rcases hcm with z | z <;> rw [z] <;> first | exact Nat.le_refl _ | exact Nat.le_add_right _ _
end

def seqX : D → Option (List D)
  | .lst ds => some ds
  | .tup ds => some ds
  | .kt ds => some ds
  | _ => none
def zip2D : List D → List D → List D
  | x :: xs, y :: ys => .tup [x, y] :: zip2D xs ys
  | _, _ => []
def zip3D : List D → List D → List D → List D
  | x :: xs, y :: ys, z :: zs => .tup [x, y, z] :: zip3D xs ys zs
  | _, _, _ => []
def enumD : Nat → List D → List D
  | _, [] => []
  | i, x :: xs => .tup [.int (i : Nat), x] :: enumD (i + 1) xs
def itZ2 (ms : M (List Od)) : M (List D) := bnd ms fun os e => match leaks os e with
  | some ([x, y], e1) => (match seqX x, seqX y with
    | some xs, some ys => .ok (zip2D xs ys) e1
    | _, _ => .bad)
  | _ => .bad
def itZ3 (ms : M (List Od)) : M (List D) := bnd ms fun os e => match leaks os e with
  | some ([x, y, z], e1) => (match seqX x, seqX y, seqX z with
    | some xs, some ys, some zs => .ok (zip3D xs ys zs) e1
    | _, _, _ => .bad)
  | _ => .bad
def itE (ms : M (List Od)) : M (List D) := bnd ms fun os e => match leaks os e with
  | some ([x], e1) => (match seqX x with
    | some xs => .ok (enumD 0 xs) e1
    | _ => .bad)
  | _ => .bad
theorem zip2D_at : ∀ {xs ys : List D} {i : Nat} {d : D}, (zip2D xs ys)[i]? = some d → ∃ x y, xs[i]? = some x ∧ ys[i]? = some y ∧ d = .tup [x, y]
  | x :: xs, y :: ys, 0, d, h => by cases h; exact ⟨x, y, rfl, rfl, rfl⟩
  | x :: xs, y :: ys, i + 1, d, h => by
    obtain ⟨a, b, h1, h2, h3⟩ := zip2D_at (xs := xs) (ys := ys) (i := i) h
    exact ⟨a, b, h1, h2, h3⟩
  | [], _, i, d, h => by cases h
  | _ :: _, [], i, d, h => by cases h
theorem zip2D_len : ∀ (xs ys : List D), (zip2D xs ys).length = min xs.length ys.length
  | x :: xs, y :: ys => by simp [zip2D, zip2D_len xs ys]
  | [], _ => by simp [zip2D]
  | _ :: _, [] => by simp [zip2D]
theorem zip3D_at : ∀ {xs ys zs : List D} {i : Nat} {d : D}, (zip3D xs ys zs)[i]? = some d → ∃ x y z, xs[i]? = some x ∧ ys[i]? = some y ∧ zs[i]? = some z ∧ d = .tup [x, y, z]
  | x :: xs, y :: ys, z :: zs, 0, d, h => by cases h; exact ⟨x, y, z, rfl, rfl, rfl, rfl⟩
  | x :: xs, y :: ys, z :: zs, i + 1, d, h => by
    obtain ⟨a, b, c, h1, h2, h3, h4⟩ := zip3D_at (xs := xs) (ys := ys) (zs := zs) (i := i) h
    exact ⟨a, b, c, h1, h2, h3, h4⟩
  | [], _, _, i, d, h => by cases h
  | _ :: _, [], _, i, d, h => by cases h
  | _ :: _, _ :: _, [], i, d, h => by cases h
theorem zip3D_len : ∀ (xs ys zs : List D), (zip3D xs ys zs).length = min (min xs.length ys.length) zs.length
  | x :: xs, y :: ys, z :: zs => by simp only [zip3D, List.length_cons, zip3D_len xs ys zs]; omega
  | [], _, _ => by simp [zip3D]
  | _ :: _, [], _ => by simp [zip3D]
  | _ :: _, _ :: _, [] => by simp [zip3D]
theorem enumD_at : ∀ {xs : List D} {i k : Nat} {d : D}, (enumD k xs)[i]? = some d → ∃ x, xs[i]? = some x ∧ d = .tup [.int ((k + i : Nat) : Int), x]
  | x :: xs, 0, k, d, h => by cases h; exact ⟨x, rfl, rfl⟩
  | x :: xs, i + 1, k, d, h => by
    obtain ⟨a, h1, h2⟩ := enumD_at (xs := xs) (i := i) (k := k + 1) h
    exact ⟨a, h1, by rw [h2]; congr 4; omega⟩
  | [], i, k, d, h => by cases h
theorem enumD_len : ∀ (xs : List D) (k : Nat), (enumD k xs).length = xs.length
  | [], _ => rfl
  | x :: xs, k => by simp [enumD, enumD_len xs]
def StX (K : PySem.W.Frag) (S : Addr → Prop) (H : Hp) (l : Bool) (a : Addr) (xs : List V) : Prop := match l with
  | true => H a = some (.lst xs) ∧ S a
  | false => H a = some (.tup xs) ∨ KT K a xs
section
variable {K : PySem.W.Frag} {S S1 : Addr → Prop} {H H1 : Hp} {l : Bool} {a : Addr} {xs : List V}
theorem StX.kp (k : Kp S H S1 H1) (h : StX K S H l a xs) : StX K S1 H1 l a xs := by
  cases l with
  | true => exact ⟨k.keep _ _ h.1 (.inl h.2), k.sub _ h.2⟩
  | false => exact h.imp (fun h => k.keep _ _ h (.inr (.inl ⟨_, rfl⟩))) id
theorem StX.sq (h : StX K S H l a xs) : SqX K H l a xs := by
  cases l with
  | true => exact SqL.of h.1
  | false =>
    rcases h with h | h
    · exact SqT.of h
    · exact .inr h
theorem seqX_ok {v : V} {d : D} {ds : List D} (r : Rep K S H v d) (h : seqX d = some ds) : ∃ l a xs, v = .ref a ∧ StX K S H l a xs ∧ Reps K S H xs ds := by
  cases d with
  | lst es => cases h; cases r with | lst hp hs q => exact ⟨true, _, _, rfl, ⟨hp, hs⟩, q⟩
  | tup es => cases h; cases r with | tup hp q => exact ⟨false, _, _, rfl, .inl hp, q⟩
  | kt es => cases h; cases r with | kt hp q => exact ⟨false, _, _, rfl, .inr hp, q⟩
  | _ => cases h
theorem Reps.one {S : Addr → Prop} {vs : List V} {x : D} (h : Reps K S H vs [x]) : ∃ v, vs = [v] ∧ Rep K S H v x := by
  cases h with | cons r t => cases t; exact ⟨_, rfl, r⟩
theorem Reps.two {S : Addr → Prop} {vs : List V} {x y : D} (h : Reps K S H vs [x, y]) : ∃ v u, vs = [v, u] ∧ Rep K S H v x ∧ Rep K S H u y := by
  cases h with | cons r t => obtain ⟨u, rfl, q⟩ := t.one; exact ⟨_, _, rfl, r, q⟩
end
section
variable {F : Fx} {S : Addr → Prop} {H : Hp} {l1 l2 l3 : Bool} {a b c : Addr} {xs ys zs : List V} {ds es fs : List D}
theorem yld_z2 (h1 : StX F.K S H l1 a xs) (q1 : Reps F.K S H xs ds) (h2 : StX F.K S H l2 b ys) (q2 : Reps F.K S H ys es) (hz : xs.length ≤ 16777216) : Yld F S H (Itz2 F.K l1 l2 a b) (zip2D ds es) := by
  refine ⟨fun S1 H1 i d k h => ?_, fun S1 H1 k => ?_, by rw [zip2D_len, ← q1.length]; omega⟩
  · obtain ⟨x, y, hx, hy, rfl⟩ := zip2D_at h
    obtain ⟨v, g1, r1⟩ := (q1.kp k).get hx
    obtain ⟨u, g2, r2⟩ := (q2.kp k).get hy
    have s1 := (h1.kp k).sq
    have s2 := (h2.kp k).sq
    refine ⟨⟨xs, ys, v, u, s1, s2, g1, g2⟩, fun w H' ⟨T, v', u', e, hT, eH, f1, f2⟩ => ?_⟩
    subst e eH
    have := f1 xs s1
    rw [g1] at this; cases this
    have := f2 ys s2
    rw [g2] at this; cases this
    exact ⟨.inr ⟨T, _, hT, rfl⟩, fresh_tup hT (.cons r1 (.cons r2 .nil))⟩
  · exact ⟨xs, ys, (h1.kp k).sq, (h2.kp k).sq, by rw [zip2D_len, q1.length, q2.length]⟩
theorem yld_z3 (h1 : StX F.K S H l1 a xs) (q1 : Reps F.K S H xs ds) (h2 : StX F.K S H l2 b ys) (q2 : Reps F.K S H ys es) (h3 : StX F.K S H l3 c zs) (q3 : Reps F.K S H zs fs) (hz : xs.length ≤ 16777216) : Yld F S H (Itz3 F.K l1 l2 l3 a b c) (zip3D ds es fs) := by
  refine ⟨fun S1 H1 i d k h => ?_, fun S1 H1 k => ?_, by rw [zip3D_len, ← q1.length]; omega⟩
  · obtain ⟨x, y, z, hx, hy, hz, rfl⟩ := zip3D_at h
    obtain ⟨v, g1, r1⟩ := (q1.kp k).get hx
    obtain ⟨u, g2, r2⟩ := (q2.kp k).get hy
    obtain ⟨o, g3, r3⟩ := (q3.kp k).get hz
    have s1 := (h1.kp k).sq
    have s2 := (h2.kp k).sq
    have s3 := (h3.kp k).sq
    refine ⟨⟨xs, ys, zs, v, u, o, s1, s2, s3, g1, g2, g3⟩, fun w H' ⟨T, v', u', o', e, hT, eH, f1, f2, f3⟩ => ?_⟩
    subst e eH
    have := f1 xs s1
    rw [g1] at this; cases this
    have := f2 ys s2
    rw [g2] at this; cases this
    have := f3 zs s3
    rw [g3] at this; cases this
    exact ⟨.inr ⟨T, _, hT, rfl⟩, fresh_tup hT (.cons r1 (.cons r2 (.cons r3 .nil)))⟩
  · exact ⟨xs, ys, zs, (h1.kp k).sq, (h2.kp k).sq, (h3.kp k).sq, by rw [zip3D_len, q1.length, q2.length, q3.length]⟩
theorem yld_en (h1 : StX F.K S H l1 a xs) (q1 : Reps F.K S H xs ds) (hz : xs.length ≤ 16777216) : Yld F S H (Itn F.K l1 a) (enumD 0 ds) := by
  refine ⟨fun S1 H1 i d k h => ?_, fun S1 H1 k => ?_, by rw [enumD_len, ← q1.length]; omega⟩
  · obtain ⟨x, hx, rfl⟩ := enumD_at h
    obtain ⟨v, g1, r1⟩ := (q1.kp k).get hx
    have s1 := (h1.kp k).sq
    refine ⟨⟨xs, v, s1, g1⟩, fun w H' ⟨T, v', e, hT, eH, f1⟩ => ?_⟩
    subst e eH
    have := f1 xs s1
    rw [g1] at this; cases this
    exact ⟨.inr ⟨T, _, hT, rfl⟩, fresh_tup hT (.cons (by rw [Nat.zero_add]; exact .int _) (.cons r1 .nil))⟩
  · exact ⟨xs, (h1.kp k).sq, by rw [enumD_len, q1.length]⟩
end
section
variable {X : Cx} {F : Fx} {ms : M (List Od)} {tg ex : Expr} {pos p tpos : Pos} {elts : List Expr} {kk : Nat}
theorem di_zip2 (hK : F.K = X.K) {e1 e2 : Expr} (hg : Gl X "zip") (hm : X.mg "zip" = none) (ha : PA X [e1, e2] (tA F ms)) (hs : starEach [e1, e2] X.env = (false, eval e1 X.env) :: starEach [e2] X.env := by rfl) (hpl : (backTo pos (starEach [e2] X.env)).any (·.1) = false := by rfl) :
    PI X (.Tuple elts kk tpos) (.Call (.Name "zip" p) [e1, e2] [] pos) (tI F (itZ2 ms)) := by
  refine pi_weak (pi_zip2X hg hm (pa_sz ha) hs hpl) fun σ H Q ⟨e, S, r, q⟩ => ⟨e, S, r, ?_⟩
  simp only [itZ2, bnd] at q
  cases h : ms e with
  | bad => rw [h] at q; exact q
  | err x => rw [h] at q; exact q
  | ok os e1 =>
    simp only [h] at q
    refine fun vs H1 S1 r1 t1 k1 sz => ?_
    split at q
    · rename_i ds e2 hm
      split at hm
      · rename_i x y e3 hl
        split at hm
        · rename_i xs ys hx hy
          cases hm
          obtain ⟨S2, r2, t2, kk⟩ := leaks_ok r1 k1 hl
          obtain ⟨v, u, rfl, rx, ry⟩ := kk.two
          obtain ⟨l1, a, us, rfl, s1, q1⟩ := seqX_ok rx hx
          obtain ⟨l2, b, ws, rfl, s2, q2⟩ := seqX_ok ry hy
          rw [hK] at s1 s2
          refine ⟨l1, l2, a, b, us, ws, rfl, s1.sq, s2.sq, ?_⟩
          have hz := sqX_sz s1.sq sz
          rw [← hK] at s1 s2 ⊢
          exact q _ H1 S2 r2 (t1.trans t2) (yld_z2 s1 q1 s2 q2 hz)
        · cases hm
      · cases hm
    · rename_i hm
      split at hm
      · split at hm <;> cases hm
      · cases hm
    · exact q.elim
theorem di_zip3 (hK : F.K = X.K) {e1 e2 e3 : Expr} (hg : Gl X "zip") (hm : X.mg "zip" = none) (ha : PA X [e1, e2, e3] (tA F ms)) (hs : starEach [e1, e2, e3] X.env = (false, eval e1 X.env) :: starEach [e2, e3] X.env := by rfl) (hpl : (backTo pos (starEach [e2, e3] X.env)).any (·.1) = false := by rfl) :
    PI X (.Tuple elts kk tpos) (.Call (.Name "zip" p) [e1, e2, e3] [] pos) (tI F (itZ3 ms)) := by
  refine pi_weak (pi_zip3X hg hm (pa_sz ha) hs hpl) fun σ H Q ⟨e, S, r, q⟩ => ⟨e, S, r, ?_⟩
  simp only [itZ3, bnd] at q
  cases h : ms e with
  | bad => rw [h] at q; exact q
  | err x => rw [h] at q; exact q
  | ok os e1 =>
    simp only [h] at q
    refine fun vs H1 S1 r1 t1 k1 sz => ?_
    split at q
    · rename_i ds e2 hm
      split at hm
      · rename_i x y z e3 hl
        split at hm
        · rename_i xs ys zs hx hy hzz
          cases hm
          obtain ⟨S2, r2, t2, kk⟩ := leaks_ok r1 k1 hl
          cases kk with
          | cons rx kk =>
          obtain ⟨u, w, rfl, ry, rz⟩ := kk.two
          obtain ⟨l1, a, us, rfl, s1, q1⟩ := seqX_ok rx hx
          obtain ⟨l2, b, ws, rfl, s2, q2⟩ := seqX_ok ry hy
          obtain ⟨l3, c, cs, rfl, s3, q3⟩ := seqX_ok rz hzz
          rw [hK] at s1 s2 s3
          refine ⟨l1, l2, l3, a, b, c, us, ws, cs, rfl, s1.sq, s2.sq, s3.sq, ?_⟩
          have hz := sqX_sz s1.sq sz
          rw [← hK] at s1 s2 s3 ⊢
          exact q _ H1 S2 r2 (t1.trans t2) (yld_z3 s1 q1 s2 q2 s3 q3 hz)
        · cases hm
      · cases hm
    · rename_i hm
      split at hm
      · split at hm <;> cases hm
      · cases hm
    · exact q.elim
theorem di_enum (hK : F.K = X.K) {e1 : Expr} (hg : Gl X "enumerate") (hm : X.mg "enumerate" = none) (ha : PA X [e1] (tA F ms)) (hs : starEach [e1] X.env = [(false, eval e1 X.env)] := by rfl) :
    PI X (.Tuple elts kk tpos) (.Call (.Name "enumerate" p) [e1] [] pos) (tI F (itE ms)) := by
  refine pi_weak (pi_enumX hg hm (pa_sz ha) hs) fun σ H Q ⟨e, S, r, q⟩ => ⟨e, S, r, ?_⟩
  simp only [itE, bnd] at q
  cases h : ms e with
  | bad => rw [h] at q; exact q
  | err x => rw [h] at q; exact q
  | ok os e1 =>
    simp only [h] at q
    refine fun vs H1 S1 r1 t1 k1 sz => ?_
    split at q
    · rename_i ds e2 hm
      split at hm
      · rename_i x e3 hl
        split at hm
        · rename_i xs hx
          cases hm
          obtain ⟨S2, r2, t2, kk⟩ := leaks_ok r1 k1 hl
          obtain ⟨v, rfl, rx⟩ := kk.one
          obtain ⟨l1, a, us, rfl, s1, q1⟩ := seqX_ok rx hx
          rw [hK] at s1
          refine ⟨l1, a, us, rfl, s1.sq, ?_⟩
          have hz := sqX_sz s1.sq sz
          rw [← hK] at s1 ⊢
          exact q _ H1 S2 r2 (t1.trans t2) (yld_en s1 q1 hz)
        · cases hm
      · cases hm
    · rename_i hm
      split at hm
      · split at hm <;> cases hm
      · cases hm
    · exact q.elim
end
end DL

set_option maxRecDepth 100000
set_option maxHeartbeats 4000000
namespace DL
open PySem PySem.Spec L2
open PyProof.Rows hiding St

def asgT (mg : MG) (m : M Od) : MS := bndS m fun o e => match leak1 o e with
  | some (d, e1) => (match mg d e1 with
    | some e2 => .nx e2
    | none => .bad)
  | none => .bad
section
variable {X : Cx} {F : Fx} {m : M Od} {mg : MG} {vs : List Nat} {ex tg : Expr} {pos : Pos}
theorem ds_asgT (he : PE X ex (tE F m)) (hg : PG X tg (tG F mg vs)) (hs : swapsWithSole [tg] ex pos.line X.env = pure false := by rfl) (hw : swappedStores [tg] ex X.env = pure none := by rfl) (h1 : (assignEach [tg] X.env).map (·.2) = [assign tg X.env] := by rfl) :
    PS X (.Assign [tg] ex pos) (tS F (asgT mg m)) := by
  refine ps_weak (ps_asg he hg hs hw h1) fun D σ H ⟨e, S, r, q⟩ => ⟨e, S, r, ?_⟩
  simp only [asgT, bndS] at q
  cases h : m e with
  | bad => rw [h] at q; exact q
  | err x => rw [h] at q; exact q
  | ok o e1 =>
    simp only [h] at q
    refine fun v H1 S1 r1 t1 k1 => ?_
    cases hl : leak1 o e1 with
    | none => rw [hl] at q; exact q.elim
    | some pr =>
      obtain ⟨d, e2⟩ := pr
      simp only [hl] at q
      obtain ⟨S2, r2, k2, kx⟩ := leakK r1 k1 hl
      cases h3 : mg d e2 with
      | none => rw [h3] at q; exact q.elim
      | some e3 =>
        simp only [h3] at q
        exact ⟨e2, S2, d, e3, r2, kx, h3, fun σ1 r3 _ => q σ1 H1 S2 r3 ((r.kp t1).trans k2)⟩
end

def put3 (i j l : Nat) (oa ob oc : Od) : MS := fun e => match toSl oa e with
  | some (.val x, e1) => (match toSl ob e1 with
    | some (.val y, e2) => (match toSl oc e2 with
      | some (.val z, e3) => (match setSl i (.val x) e3 with
        | some e4 => (match setSl j (.val y) e4 with
          | some e5 => (match setSl l (.val z) e5 with
            | some e6 => .nx e6
            | none => .bad)
          | none => .bad)
        | none => .bad)
      | _ => .bad)
    | _ => .bad)
  | _ => .bad
def par3 (i j l : Nat) (ma mb mc : M Od) : MS := bndS ma fun oa => bndS mb fun ob => bndS mc fun oc => put3 i j l oa ob oc
section
variable {X : Cx} {F : Fx} {ma mb mc : M Od} {pos : Pos}
theorem SlV.val {e : Env} {S : Addr → Prop} {σ : St} {H : Hp} {v : V} {x : D} (h : SlV F e S σ H v (.val x)) : Rep F.K S H v x := h
theorem tS_par3 {i j l : Nat} {D : Ends} {σ : St} {H : Hp} (q : tS F (par3 i j l ma mb mc) D σ H) : tCons (tE F ma) (tCons (tE F mb) (tCons (tE F mc) tNil)) σ H fun vs H1 => ∃ v w x, vs = [v, w, x] ∧ D.nx (((σ.set i (some v)).set j (some w)).set l (some x)) H1 := by
  obtain ⟨e, S, r, q⟩ := q
  refine ⟨e, S, r, ?_⟩
  simp only [par3, bndS] at q
  cases h : ma e with
  | bad => rw [h] at q; exact q
  | err x => rw [h] at q; exact q
  | ok oa e1 =>
    simp only [h] at q
    refine fun v H1 S1 r1 t1 k1 => ⟨e1, S1, r1, ?_⟩
    cases h2 : mb e1 with
    | bad => rw [h2] at q; exact q
    | err x => rw [h2] at q; exact q
    | ok ob e2 =>
      simp only [h2] at q
      refine fun u H2 S2 r2 t2 k2 => ⟨e2, S2, r2, ?_⟩
      cases h3 : mc e2 with
      | bad => rw [h3] at q; exact q
      | err x => rw [h3] at q; exact q
      | ok oc e3 =>
        simp only [h3] at q
        refine fun w H3 S3 r3 t3 k3 => ⟨v, u, w, rfl, ?_⟩
        have ka := (k1.keep r1 t2).keep r2 t3
        have kb := k2.keep r2 t3
        unfold put3 at q
        split at q
        · rename_i x e4 g1
          obtain ⟨S4, r4, t4, s4⟩ := toSl_ok r3 ka g1
          split at q
          · rename_i y e5 g2
            obtain ⟨S5, r5, t5, s5⟩ := toSl_ok r4 (kb.keep r3 t4) g2
            split at q
            · rename_i z e6 g3
              obtain ⟨S6, r6, t6, s6⟩ := toSl_ok r5 ((k3.keep r3 t4).keep r4 t5) g3
              have f1 := ((s4.keep r4 t5).keep r5 t6).val
              have f2 := (s5.keep r5 t6).val
              have f3 := s6.val
              split at q
              · rename_i e7 p1
                have r7 := r6.put p1 (show SlV F e6 S6 σ H3 v (.val x) from f1)
                split at q
                · rename_i e8 p2
                  have r8 := r7.put p2 (show SlV F e7 S6 _ H3 u (.val y) from f2)
                  split at q
                  · rename_i e9 p3
                    have r9 := r8.put p3 (show SlV F e8 S6 _ H3 w (.val z) from f3)
                    exact q _ H3 S6 r9 (((((r.kp t1).trans (r1.kp t2)).trans (r2.kp t3)).trans (r3.kp t4)).trans ((r4.kp t5).trans (r5.kp t6)))
                  · exact q.elim
                · exact q.elim
              · exact q.elim
            · exact q.elim
          · exact q.elim
        · exact q.elim
theorem ds_par3 {i j l : Nat} {x y z : Str} {a b c : Expr} {px py pz pt : Pos} {kt k2 pt2} (hc : X.calm = true) (hN : X.N.Nodup) (hi : X.N[i]? = some x) (hj : X.N[j]? = some y) (hl : X.N[l]? = some z) (hij : i ≠ j) (hil : i ≠ l) (hjl : j ≠ l)
    (hx : X.env.scope.names.lookup x = some .local) (hy : X.env.scope.names.lookup y = some .local) (hz : X.env.scope.names.lookup z = some .local) (ha : PE X a (tE F ma)) (hb : PE X b (tE F mb)) (hcc : PE X c (tE F mc))
    (hw : swappedStores [.Tuple [.Name x px, .Name y py, .Name z pz] kt pt] (.Tuple [a, b, c] k2 pt2) X.env = pure (some [x, y, z]))
    (hst : starEach [a, b, c] X.env = (false, eval a X.env) :: starEach [b, c] X.env := by rfl) (hst2 : starEach [b, c] X.env = (false, eval b X.env) :: starEach [c] X.env := by rfl) (hst3 : starEach [c] X.env = (false, eval c X.env) :: starEach [] X.env := by rfl)
    (hs : swapsWithSole [.Tuple [.Name x px, .Name y py, .Name z pz] kt pt] (.Tuple [a, b, c] k2 pt2) pos.line X.env = pure false := by rfl) :
    PS X (.Assign [.Tuple [.Name x px, .Name y py, .Name z pz] kt pt] (.Tuple [a, b, c] k2 pt2) pos) (tS F (par3 i j l ma mb mc)) :=
  ps_weak (ps_par3 hc hN hi hj hl hij hil hjl hx hy hz (pa_cons ha (pa_cons hb (pa_cons hcc pa_nil hst3) hst2) hst) hw hs) fun D σ H q => tS_par3 q
end

def flatD : D → Bool
  | .non => true
  | .bl _ => true
  | .int _ => true
  | .str _ => true
  | _ => false
def eqF : D → D → Bool
  | .non, .non => true
  | .bl a, .bl b => a == b
  | .bl a, .int b => (if a then 1 else 0) == b
  | .int a, .bl b => a == (if b then 1 else 0)
  | .int a, .int b => a == b
  | .str a, .str b => a == b
  | _, _ => false
def gIn (neg : Bool) : D → D → Option Od := fun x y => match seqX y with
  | some ds => if flatD x && ds.all flatD then some (.d (.bl (if neg then !(ds.any fun z => eqF z x) else ds.any fun z => eqF z x))) else match y with
    | .lst ds => if shaped x && shaped (.lst ds) then some (.d (.bl (if neg then !(ds.any fun z => eqD z x) else ds.any fun z => eqD z x))) else none
    | _ => none
  | none => none
section
variable {F : Fx} {K : PySem.W.Frag} {S : Addr → Prop} {H : Hp}
theorem RepT.flat {v : V} {x : D} (r : RepT K S H v x) (h : flatD x = true) : flatV v = true ∧ Rep K S H v x := by
  rcases r with r | ⟨p, rfl, t⟩
  · cases r <;> first | exact ⟨rfl, by constructor⟩ | cases h
  · cases x <;> first | exact t.elim | cases h
theorem flat_all {vs : List V} {ds : List D} (q : Reps K S H vs ds) (h : ds.all flatD = true) : vs.all flatV = true := by
  induction ds generalizing vs with
  | nil => cases q; rfl
  | cons d ds ih =>
    cases q with
    | cons r t =>
      rw [List.all_cons, Bool.and_eq_true] at h
      rw [List.all_cons, Bool.and_eq_true]
      exact ⟨(RepT.flat (.inl r) h.1).1, ih t h.2⟩
theorem eqV_F {v u : V} {x y : D} (r : Rep K S H v x) (s : Rep K S H u y) (hx : flatD x = true) (hy : flatD y = true) : eqV v u = eqF x y := by
  cases x <;> cases y <;> first | exact Bool.noConfusion hx | exact Bool.noConfusion hy | (cases r; cases s; rfl)
theorem inV_F {v : V} {x : D} (r : Rep K S H v x) (hx : flatD x = true) : ∀ {vs : List V} {ds : List D}, Reps K S H vs ds → ds.all flatD = true → inV v vs = ds.any fun z => eqF z x
  | _, _, .nil, _ => rfl
  | _, _, .cons s t, h => by
    rw [List.all_cons, Bool.and_eq_true] at h
    show (eqV _ v || inV v _) = _
    rw [List.any_cons, eqV_F s r h.1 hx, inV_F r hx t h.2]
theorem RepT.seqX {v : V} {y : D} {ds : List D} (r : RepT K S H v y) (h : seqX y = some ds) : ∃ p xs, v = .ref p ∧ (SqL K H p xs ∨ SqT K H p xs) ∧ Reps K S H xs ds := by
  rcases r with r | ⟨p, rfl, t⟩
  · obtain ⟨l, a, xs, rfl, s, q⟩ := seqX_ok r h
    cases l with
    | true => exact ⟨a, xs, rfl, .inl s.sq, q⟩
    | false => exact ⟨a, xs, rfl, .inr s.sq, q⟩
  · cases y with
    | lst es => cases h; obtain ⟨xs, hp, q⟩ := t; exact ⟨p, xs, rfl, .inl (SqL.of hp), q⟩
    | _ => first | exact t.elim | cases h
theorem any_eqv : ∀ (ds : List D) (x : D), ((toPys ds).any fun z => PyData.eqv z (toPy x)) = ds.any fun z => eqD z x
  | [], _ => rfl
  | d :: ds, x => by
    show (PyData.eqv (toPy d) (toPy x) || (toPys ds).any fun z => PyData.eqv z (toPy x)) = _
    rw [List.any_cons, any_eqv ds x]; rfl
theorem s_in : OpS F (fun x y H Q => rIn F.K false x y H Q ∨ rInD F.K x y H Q) (gIn false) := by
  intro e S σ H v u x y o Q r rx ry hg k
  unfold gIn at hg
  split at hg
  · rename_i ds hs
    split at hg
    · rename_i hz; cases hg
      rw [Bool.and_eq_true] at hz
      obtain ⟨p, xs, rfl, hq, q⟩ := ry.seqX hs
      obtain ⟨fx, rx'⟩ := rx.flat hz.1
      refine .inl ⟨p, xs, rfl, hq, fx, flat_all q hz.2, ?_⟩
      rw [inV_F rx' hz.1 q hz.2]
      exact k _ H S r (.refl _ _ _ _) (.bl _)
    · split at hg
      · rename_i es
        split at hg
        · rename_i hz; cases hg
          rw [Bool.and_eq_true] at hz
          cases hs
          refine .inr ⟨_, _, rx.dp (shaped_can hz.1), ry.dp (shaped_can hz.2), hz.1, hz.2, ?_⟩
          rw [any_eqv]
          exact k _ H S r (.refl _ _ _ _) (.bl _)
        · cases hg
      · cases hg
  · cases hg
theorem s_notin : OpS F (fun x y H Q => rIn F.K true x y H Q ∨ rNotInD F.K x y H Q) (gIn true) := by
  intro e S σ H v u x y o Q r rx ry hg k
  unfold gIn at hg
  split at hg
  · rename_i ds hs
    split at hg
    · rename_i hz; cases hg
      rw [Bool.and_eq_true] at hz
      obtain ⟨p, xs, rfl, hq, q⟩ := ry.seqX hs
      obtain ⟨fx, rx'⟩ := rx.flat hz.1
      refine .inl ⟨p, xs, rfl, hq, fx, flat_all q hz.2, ?_⟩
      rw [inV_F rx' hz.1 q hz.2]
      exact k _ H S r (.refl _ _ _ _) (.bl _)
    · split at hg
      · rename_i es
        split at hg
        · rename_i hz; cases hg
          rw [Bool.and_eq_true] at hz
          cases hs
          refine .inr ⟨_, _, rx.dp (shaped_can hz.1), ry.dp (shaped_can hz.2), hz.1, hz.2, ?_⟩
          rw [any_eqv]
          exact k _ H S r (.refl _ _ _ _) (.bl _)
        · cases hg
      · cases hg
  · cases hg
end

def gStr : List D → Option Od
  | [.int i] => if i.natAbs.log2 < 1920 then some (.d (.str (toString i))) else none
  | [.str x] => some (.d (.str x))
  | _ => none
theorem c_str {F : Fx} : CallS F (fun xs H Q => (∃ i, xs = [.int i] ∧ i.natAbs.log2 < 1920 ∧ Q (.str (toString i)) H) ∨ ∃ a, xs = [.str a] ∧ Q (.str a) H) gStr := by
  intro e S σ H vs xs o Q r rs hg k
  unfold gStr at hg
  split at hg
  · split at hg
    · rename_i hz; cases hg
      obtain ⟨v, rfl, rx⟩ := rs.one
      cases rx.int
      exact .inl ⟨_, rfl, hz, k _ H S r (.refl _ _ _ _) (.str _)⟩
    · cases hg
  · cases hg
    obtain ⟨v, rfl, rx⟩ := rs.one
    cases rx.str
    exact .inr ⟨_, rfl, k _ H S r (.refl _ _ _ _) (.str _)⟩
  · cases hg

def mutL (i : Nat) (ms : M (List Od)) (g : List D → List D → Option (D × List D)) : M Od := fun e => match topAt i e with
  | some (.lst _) => (match ms e with
    | .ok os e1 => (match leaks os e1 with
      | some (xs, e2) => (match topAt i e2 with
        | some (.lst ds) => (match g ds xs with
          | some (y, ds') => if ds.length < 16777216 then .ok (.d y) (putTop i (.lst ds') e2) else .bad
          | none => .bad)
        | _ => .bad)
      | none => .bad)
    | .err x => .err x
    | .bad => .bad)
  | _ => .bad
def MutS (K : PySem.W.Frag) (r : V → List V → Hp → VK → Prop) (g : List D → List D → Option (D × List D)) : Prop := ∀ (S : Addr → Prop) (H : Hp) (p : Addr) (xs vs : List V) (ds es : List D) (y : D) (ds' : List D) (Q : VK),
  H p = some (.lst xs) → Reps K S H xs ds → Reps K S H vs es → g ds es = some (y, ds') → ds.length < 16777216 → (∀ v xs', Rep K S H v y → Reps K S H xs' ds' → Q v (upd H p (.lst xs'))) → r (.ref p) vs H Q
section
variable {X : Cx} {F : Fx} {ms : M (List Od)} {i : Nat} {g : List D → List D → Option (D × List D)} {r0 : V → List V → Hp → VK → Prop}
theorem tE_mutL (hr : MutS F.K r0 g) {σ : St} {H : Hp} {Q : VK} (q : tE F (mutL i ms g) σ H Q) : tBM F.K "list" r0 (tVar i) (tA F ms) σ H Q := by
  obtain ⟨e, S, r, q⟩ := q
  unfold mutL at q
  cases h0 : topAt i e with
  | none => rw [h0] at q; exact q.elim
  | some d0 =>
    cases d0 with
    | lst ds0 =>
      simp only [h0] at q
      obtain ⟨p, hp, ns, hh, hm, xs0, hp0, _⟩ := topAt_ok r h0
      refine ⟨_, hp, tyV_list hp0, e, S, r, ?_⟩
      cases h1 : ms e with
      | bad => rw [h1] at q; exact q
      | err x => rw [h1] at q; exact q
      | ok os e1 =>
        simp only [h1] at q
        refine fun vs H1 S1 r1 t1 k1 => ?_
        cases hl : leaks os e1 with
        | none => rw [hl] at q; exact q.elim
        | some pr =>
          obtain ⟨es, e2⟩ := pr
          simp only [hl] at q
          obtain ⟨S2, r2, t2, kx⟩ := leaks_ok r1 k1 hl
          cases h2 : topAt i e2 with
          | none => rw [h2] at q; exact q.elim
          | some d2 =>
            cases d2 with
            | lst ds =>
              simp only [h2] at q
              obtain ⟨p', hp', ns', hh', hm', tp⟩ := topAt_ok r2 h2
              rw [hp] at hp'; cases hp'
              obtain ⟨xs, hxs, qx⟩ := id tp
              cases h3 : g ds es with
              | none => rw [h3] at q; exact q.elim
              | some pr =>
                obtain ⟨y, ds'⟩ := pr
                simp only [h3] at q
                by_cases hz : ds.length < 16777216
                · rw [if_pos hz] at q
                  have ni := tp.ni
                  refine hr S2 H1 p xs vs ds es y ds' Q hxs qx kx h3 hz fun v xs' ry rxs => ?_
                  have tp' : Top F.K S2 (upd H1 p (.lst xs')) p (.lst ds') := ⟨xs', upd_same, top_upd ns' ni rxs⟩
                  obtain ⟨r3, t3⟩ := mut_ok r2 h2 hp tp'
                  exact q v _ S2 r3 ((t1.trans t2).trans t3) (ry.kp (r2.kp t3))
                · rw [if_neg hz] at q; exact q.elim
            | _ => rw [h2] at q; exact q.elim
    | _ => rw [h0] at q; exact q.elim
theorem de_mutL {ex : Expr} (hK : F.K = X.K) (h : PE X ex (tBM X.K "list" r0 (tVar i) (tA F ms))) (hr : MutS F.K r0 g) : PE X ex (tE F (mutL i ms g)) :=
  pe_weak h fun σ H Q q => by rw [← hK]; exact tE_mutL hr q
def gInsert : List D → List D → Option (D × List D)
  | ds, [.int i, y] => if 0 ≤ i ∧ i < 2 ^ 63 then some (.non, ds.take i.toNat ++ [y] ++ ds.drop i.toNat) else none
  | _, _ => none
theorem m_insert {K : PySem.W.Frag} : MutS K (fun x vs H Q => ∃ (l : Addr) (xs : List V) (i : Int) (y : V), x = .ref l ∧ vs = [.int i, y] ∧ H l = some (.lst xs) ∧ xs.length < sizeLine ∧ 0 ≤ i ∧ i < 2 ^ 63 ∧
    Q .non (upd H l (.lst (xs.take i.toNat ++ [y] ++ xs.drop i.toNat)))) gInsert := by
  intro S H p xs vs ds es y ds' Q hp qx kx hg hz k
  unfold gInsert at hg
  split at hg
  · split at hg
    · rename_i hi; cases hg
      obtain ⟨v, u, rfl, rv, ru⟩ := kx.two
      cases rv
      exact ⟨p, xs, _, u, rfl, rfl, hp, by rw [line_eq, qx.length]; exact hz, hi.1, hi.2, k _ _ .non (((qx.take _).append (.cons ru .nil)).append (qx.drop _))⟩
    · cases hg
  · cases hg
end
end DL

set_option maxRecDepth 100000
set_option maxHeartbeats 4000000
namespace DL
open PySem PySem.Spec L2
open PyProof.Rows hiding St

def ItS (K : PySem.W.Frag) (l : Bool) (a : Addr) : It := match l with
  | true => Itl K a
  | false => Itt K a
theorem pi_sqX {X : Cx} {tg ex : Expr} {te : TE} (he : PE X ex te) : PI X tg ex (fun σ H R => te σ H fun x H1 => ∃ l a xs, x = .ref a ∧ SqX X.K H1 l a xs ∧ R (ItS X.K l a) H1) := by
  refine ⟨fun pins s σ H R I h => ?_⟩
  refine thn (he.run pins s σ H _ I h) fun v s1 ⟨x, H1, I1, r1, q1⟩ => ?_
  obtain ⟨l, a, xs, e, hq, q⟩ := q1
  subst e
  cases r1
  cases l with
  | true =>
    obtain ⟨its, rv, p, hz⟩ := I1.list hq
    refine wpAny_pyIter_list p.isList ?_
    refine ⟨s1.heap.objs.size, [s1.heap.objs.size], _, _, H1, rfl, I1.kept (t' := s1.toks) fun b o e => Heap.get?_push_of_some _ e, turn_list a _, ⟨_, Heap.get?_push_size _ rfl, rfl, rfl⟩, fun b hb => ?_, q⟩
    have e : b = s1.heap.objs.size := by simpa using hb
    subst e
    exact I1.fpOk (Nat.le_refl _) (I1.hok.fresh (Nat.le_refl _))
  | false =>
    obtain ⟨its, rv, p, hz⟩ := I1.tuple hq
    refine wpAny_pyIter_tuple (show s1.heap.IsTuple a its.toArray from p) ?_
    refine ⟨s1.heap.objs.size, [s1.heap.objs.size], _, _, H1, rfl, I1.kept (t' := s1.toks) fun b o e => Heap.get?_push_of_some _ e, turn_tuple a _, ⟨_, Heap.get?_push_size _ rfl, rfl, rfl⟩, fun b hb => ?_, q⟩
    have e : b = s1.heap.objs.size := by simpa using hb
    subst e
    exact I1.fpOk (Nat.le_refl _) (I1.hok.fresh (Nat.le_refl _))
def itQ (m : M Od) : M (List D) := bnd m fun o e => match leak1 o e with
  | some (d, e1) => (match seqX d with
    | some ds => .ok ds e1
    | none => .bad)
  | none => .bad
section
variable {X : Cx} {F : Fx} {m : M Od} {tg ex : Expr}
theorem yld_sq {S : Addr → Prop} {H : Hp} {l : Bool} {p : Addr} {xs : List V} {ds : List D} (s : StX F.K S H l p xs) (q : Reps F.K S H xs ds) (hz : xs.length ≤ 16777216) : Yld F S H (ItS F.K l p) ds := by
  cases l with
  | true => exact yld_list rfl s.1 s.2 q hz
  | false => exact yld_tup rfl (fun S1 H1 k => (StX.kp (l := false) k s).sq) q hz
theorem di_seq (hK : F.K = X.K) (h : PE X ex (tE F m)) : PI X tg ex (tI F (itQ m)) := by
  refine pi_weak (pi_sqX (pe_sz h)) fun σ H Q ⟨e, S, r, q⟩ => ⟨e, S, r, ?_⟩
  simp only [itQ, bnd] at q
  cases h : m e with
  | bad => rw [h] at q; exact q
  | err x => rw [h] at q; exact q
  | ok o e1 =>
    simp only [h] at q
    refine fun v H1 S1 r1 t1 k1 sz => ?_
    cases hl : leak1 o e1 with
    | none => rw [hl] at q; exact q.elim
    | some pr =>
      obtain ⟨d, e2⟩ := pr
      simp only [hl] at q
      obtain ⟨S2, r2, t2, kk⟩ := leak1_ok r1 t1 k1 hl
      cases hd : seqX d with
      | none => rw [hd] at q; exact q.elim
      | some ds =>
        simp only [hd] at q
        obtain ⟨l, a, xs, rfl, s, qq⟩ := seqX_ok kk hd
        have hz : xs.length ≤ 16777216 := by
          cases l with
          | true => exact sz a xs rfl (.inl (by rw [← hK]; exact s.sq))
          | false => exact sz a xs rfl (.inr (by rw [← hK]; exact s.sq))
        rw [← hK]
        exact ⟨l, a, xs, rfl, s.sq, q _ H1 S2 r2 t2 (yld_sq s qq hz)⟩
end

def rgK (x y : Option D) (k : Int → Int → M Od) (e : Env) : Out Od := match x, y with
  | some (.int i), some (.int j) => if mid i && mid j then k i j e else .bad
  | _, _ => .bad
theorem rgK_cases (x y : Option D) (k : Int → Int → M Od) (e : Env) : rgK x y k e = .bad ∨ ∃ i j, x = some (.int i) ∧ y = some (.int j) ∧ mid i = true ∧ mid j = true ∧ rgK x y k e = k i j e := by
  unfold rgK
  split
  · split
    · rename_i i j h
      rw [Bool.and_eq_true] at h
      exact .inr ⟨i, j, rfl, rfl, h.1, h.2, rfl⟩
    · exact .inl rfl
  · exact .inl rfl
def rgE (ma mb : M Od) (k : Int → Int → M Od) : M Od := bnd ma fun oa => bnd mb fun ob e => rgK (res oa e) (res ob e) k e
def rgD (i j : Int) : List D := rangeD i (j - i).toNat
def lstR (ma mb : M Od) : M Od := rgE ma mb fun i j e => .ok (.f (.lst (rgD i j))) e
def tupR (ma mb : M Od) : M Od := rgE ma mb fun i j e => .ok (.d (.tup (rgD i j))) e
section
variable {X : Cx} {F : Fx} {ma mb : M Od} {a b : Expr}
theorem reps_rg {K : PySem.W.Frag} {S : Addr → Prop} {H : Hp} (i j : Int) : Reps K S H (rgV i j) (rgD i j) := by
  unfold rgV rgD rangeD
  induction (List.range (j - i).toNat) with
  | nil => exact .nil
  | cons x xs ih => exact .cons (.int _) ih
theorem intE {o : Od} {v : V} {e : Env} {S : Addr → Prop} {σ : St} {H Hs : Hp} {i : Int} (r : R F e S σ H) (k : OdOk F Hs e S σ H v o) (h : res o e = some (.int i)) : v = .int i := by
  have := res_ok r k h
  cases this.int; rfl
theorem tE_rg2 {k : Int → Int → M Od} {σ : St} {H : Hp} {Q : VK} {T : Int → Int → Hp → Prop} (q : tE F (rgE ma mb k) σ H Q)
    (w : ∀ i j e1 S1 H1, mid i = true → mid j = true → R F e1 S1 σ H1 → (∃ e S, R F e S σ H ∧ Stp e S σ H e1 S1 H1 ∧ match k i j e1 with
      | .ok o e2 => ∀ v H2 S2, R F e2 S2 σ H2 → Stp e S σ H e2 S2 H2 → OdOk F H e2 S2 σ H2 v o → Q v H2
      | .err x => Acc F x
      | .bad => False) → T i j H1) : tRg2 (tE F ma) (tE F mb) σ H T := by
  obtain ⟨e, S, r, q⟩ := q
  refine ⟨e, S, r, ?_⟩
  simp only [rgE, bnd] at q
  cases h : ma e with
  | bad => rw [h] at q; exact q
  | err x => rw [h] at q; exact q
  | ok oa e1 =>
    simp only [h] at q
    refine fun v H1 S1 r1 t1 k1 => ⟨e1, S1, r1, ?_⟩
    cases h2 : mb e1 with
    | bad => rw [h2] at q; exact q
    | err x => rw [h2] at q; exact q
    | ok ob e2 =>
      simp only [h2] at q
      refine fun u H2 S2 r2 t2 k2 => ?_
      rcases rgK_cases (res oa e2) (res ob e2) k e2 with hk | ⟨i, j, ha, hb, hz1, hz2, hk⟩
      · rw [hk] at q; exact q.elim
      · rw [hk] at q
        exact ⟨i, j, intE r2 (k1.keep r1 t2) ha, intE r2 k2 hb, w i j e2 S2 H2 hz1 hz2 r2 ⟨e, S, r, t1.trans t2, q⟩⟩
theorem rg_ok {i j : Int} (h1 : mid i = true) (h2 : mid j = true) : RgOk i j := by
  obtain ⟨a, b, c, d⟩ := mid_ok h1
  obtain ⟨a', b', c', d'⟩ := mid_ok h2
  exact ⟨a, b, a', b', by omega⟩
theorem tE_one {σ : St} {H : Hp} {T : Int → Int → Hp → Prop} (q : tRg2 (tE F (evC (.int 0))) (tE F ma) σ H fun i j H => i = 0 → T i j H) : tRg1 (tE F ma) σ H T := by
  obtain ⟨e, S, r, q⟩ := q
  obtain ⟨e2, S2, r2, q⟩ := q (.int 0) H S r (.refl _ _ _ _) (.int 0)
  refine ⟨e2, S2, r2, ?_⟩
  cases h : ma e2 with
  | bad => rw [h] at q; exact q
  | err x => rw [h] at q; exact q
  | ok o e1 =>
    simp only [h] at q
    refine fun v H1 S1 r1 t1 k1 => ?_
    obtain ⟨i, j, h1, h2, q⟩ := q v H1 S1 r1 t1 k1
    cases h1
    exact ⟨j, h2, q rfl⟩
theorem lst_fin {i j : Int} {e1 : Env} {S1 : Addr → Prop} {σ : St} {H H1 : Hp} {Q : VK} (r1 : R F e1 S1 σ H1) (q : ∃ e S, R F e S σ H ∧ Stp e S σ H e1 S1 H1 ∧ ∀ v H2 S2, R F e1 S2 σ H2 → Stp e S σ H e1 S2 H2 → OdOk F H e1 S2 σ H2 v (.f (.lst (rgD i j))) → Q v H2) (p : Addr) (hp : H1 p = none) : Q (.ref p) (upd H1 p (.lst (rgV i j))) := by
  obtain ⟨e, S, r, t, q⟩ := q
  exact q _ _ S1 (r1.new hp) (t.trans (.alloc hp)) ((fresh_lst r1 hp (reps_rg i j)).back fun p hp => t.mono p hp)
theorem tup_fin {i j : Int} {e1 : Env} {S1 : Addr → Prop} {σ : St} {H H1 : Hp} {Q : VK} (r1 : R F e1 S1 σ H1) (q : ∃ e S, R F e S σ H ∧ Stp e S σ H e1 S1 H1 ∧ ∀ v H2 S2, R F e1 S2 σ H2 → Stp e S σ H e1 S2 H2 → OdOk F H e1 S2 σ H2 v (.d (.tup (rgD i j))) → Q v H2) (p : Addr) (hp : H1 p = none) : Q (.ref p) (upd H1 p (.tup (rgV i j))) := by
  obtain ⟨e, S, r, t, q⟩ := q
  exact q _ _ S1 (r1.new hp) (t.trans (.alloc hp)) (fresh_tup hp (reps_rg i j))
variable {p p2 pos pos2 : Pos}
theorem de_lstR2 (hc : X.calm = true) (hg : Gl X "list") (hm : X.mg "list" = none) (hg2 : Gl X "range") (hm2 : X.mg "range" = none) (ha : PE X a (tE F ma)) (hb : PE X b (tE F mb)) (na : starEach [a, b] X.env = (false, eval a X.env) :: starEach [b] X.env := by rfl)
    (nb : starEach [b] X.env = (false, eval b X.env) :: starEach [] X.env := by rfl) (hp : (backTo pos2 (starEach [b] X.env)).any (·.1) = false := by rfl) (nc : starEach [.Call (.Name "range" p2) [a, b] [] pos2] X.env = (false, eval (.Call (.Name "range" p2) [a, b] [] pos2) X.env) :: starEach [] X.env := by rfl) :
    PE X (.Call (.Name "list" p) [.Call (.Name "range" p2) [a, b] [] pos2] [] pos) (tE F (lstR ma mb)) :=
  pe_weak (pe_listRg hc hg hm (prg_2 hg2 hm2 ha hb na nb hp) nc) fun σ H Q q => tE_rg2 q fun i j e1 S1 H1 h1 h2 r1 q => ⟨rg_ok h1 h2, fun p hp => lst_fin r1 q p hp⟩
theorem de_tupR2 (hc : X.calm = true) (hg : Gl X "tuple") (hm : X.mg "tuple" = none) (hg2 : Gl X "range") (hm2 : X.mg "range" = none) (ha : PE X a (tE F ma)) (hb : PE X b (tE F mb)) (na : starEach [a, b] X.env = (false, eval a X.env) :: starEach [b] X.env := by rfl)
    (nb : starEach [b] X.env = (false, eval b X.env) :: starEach [] X.env := by rfl) (hp : (backTo pos2 (starEach [b] X.env)).any (·.1) = false := by rfl) (nc : starEach [.Call (.Name "range" p2) [a, b] [] pos2] X.env = (false, eval (.Call (.Name "range" p2) [a, b] [] pos2) X.env) :: starEach [] X.env := by rfl) :
    PE X (.Call (.Name "tuple" p) [.Call (.Name "range" p2) [a, b] [] pos2] [] pos) (tE F (tupR ma mb)) :=
  pe_weak (pe_tupRg hc hg hm (prg_2 hg2 hm2 ha hb na nb hp) nc) fun σ H Q q => tE_rg2 q fun i j e1 S1 H1 h1 h2 r1 q => ⟨rg_ok h1 h2, fun p hp => tup_fin r1 q p hp⟩
theorem de_lstR1 (hc : X.calm = true) (hg : Gl X "list") (hm : X.mg "list" = none) (hg2 : Gl X "range") (hm2 : X.mg "range" = none) (ha : PE X a (tE F ma)) (na : starEach [a] X.env = (false, eval a X.env) :: starEach [] X.env := by rfl)
    (nc : starEach [.Call (.Name "range" p2) [a] [] pos2] X.env = (false, eval (.Call (.Name "range" p2) [a] [] pos2) X.env) :: starEach [] X.env := by rfl) :
    PE X (.Call (.Name "list" p) [.Call (.Name "range" p2) [a] [] pos2] [] pos) (tE F (lstR (evC (.int 0)) ma)) :=
  pe_weak (pe_listRg hc hg hm (prg_1 hg2 hm2 ha na) nc) fun σ H Q q => tE_one (tE_rg2 q fun i j e1 S1 H1 h1 h2 r1 q _ => ⟨rg_ok h1 h2, fun p hp => lst_fin r1 q p hp⟩)
theorem de_tupR1 (hc : X.calm = true) (hg : Gl X "tuple") (hm : X.mg "tuple" = none) (hg2 : Gl X "range") (hm2 : X.mg "range" = none) (ha : PE X a (tE F ma)) (na : starEach [a] X.env = (false, eval a X.env) :: starEach [] X.env := by rfl)
    (nc : starEach [.Call (.Name "range" p2) [a] [] pos2] X.env = (false, eval (.Call (.Name "range" p2) [a] [] pos2) X.env) :: starEach [] X.env := by rfl) :
    PE X (.Call (.Name "tuple" p) [.Call (.Name "range" p2) [a] [] pos2] [] pos) (tE F (tupR (evC (.int 0)) ma)) :=
  pe_weak (pe_tupRg hc hg hm (prg_1 hg2 hm2 ha na) nc) fun σ H Q q => tE_one (tE_rg2 q fun i j e1 S1 H1 h1 h2 r1 q _ => ⟨rg_ok h1 h2, fun p hp => tup_fin r1 q p hp⟩)
end

def At (K : PySem.W.Frag) (mg : Str → Option Value) (x : Str) (st : Stmt) (ps : List Str) : Prop := ∃ f fd, Fun K x x st f fd ∧ mg x = some (.ref f) ∧ Binds K fd ps []
def Den (P : Program) (w : World) (K : PySem.W.Frag) (mg : Str → Option Value) (base : Heap) (k : Nat) (x : Str) (ps : List Str) (modes : List Bool) (g : List D → Rs) : Prop :=
  ∃ f fd, mg x = some (.ref f) ∧ PySem.W.keepIn K (.ref f) = true ∧ Binds K fd ps [] ∧ FnOk P w K mg base (L2.CX P w) k f fd ps (spF K mg modes g)
section
variable {P : Program} {w : World} {K : PySem.W.Frag} {mg : Str → Option Value} {base : Heap} {x : Str} {ps : List Str} {modes : List Bool} {g : List D → Rs} {k j : Nat} {X : Cx} {F : Fx} {ex : Expr} {es : List Expr} {ms : M (List Od)} {p pos : Pos}
theorem Den.mono (D : Den P w K mg base k x ps modes g) (h : k ≤ j) : Den P w K mg base j x ps modes g := by
  obtain ⟨f, fd, a, b, c, d⟩ := D
  exact ⟨f, fd, a, b, c, d.mono h⟩
theorem de_callD (Dn : Den X.prog X.w X.K X.mg X.base k x ps modes g) (hK : F.K = X.K) (hG : F.mg = X.mg) (hx : Passes (L2.CX X.prog X.w) X F.E) (hr : Room k X.A) (hg : Gl X x)
    (ha : PA X (ex :: es) (tA F ms)) (hdb : (x == ("__debug__" : Str)) = false := by decide) (he : starEach (ex :: es) X.env = (false, eval ex X.env) :: starEach es X.env := by rfl) (hpl : (backTo pos (starEach es X.env)).any (·.1) = false := by rfl) :
    PE X (.Call (.Name x p) (ex :: es) [] pos) (tE F (call modes g ms)) := by
  obtain ⟨f, fd, a, b, c, d⟩ := Dn
  exact de_call hK hG hx d hr hg a b c ha hdb he hpl
theorem de_callDN (Dn : Den X.prog X.w X.K X.mg X.base k x ps modes g) (hK : F.K = X.K) (hG : F.mg = X.mg) (hr : Room k X.A) (hg : Gl X x)
    (ha : PA X (ex :: es) (tA F ms)) (hdb : (x == ("__debug__" : Str)) = false := by decide) (he : starEach (ex :: es) X.env = (false, eval ex X.env) :: starEach es X.env := by rfl) (hpl : (backTo pos (starEach es X.env)).any (·.1) = false := by rfl) :
    PE X (.Call (.Name x p) (ex :: es) [] pos) (tE F (noErr (call modes g ms))) := by
  obtain ⟨f, fd, a, b, c, d⟩ := Dn
  exact de_callN hK hG d hr hg a b c ha hdb he hpl
theorem de_callD0 (Dn : Den X.prog X.w X.K X.mg X.base k x ps modes g) (hK : F.K = X.K) (hG : F.mg = X.mg) (hx : Passes (L2.CX X.prog X.w) X F.E) (hr : Room k X.A) (hg : Gl X x)
    (hdb : (x == ("__debug__" : Str)) = false := by decide) : PE X (.Call (.Name x p) [] [] pos) (tE F (call modes g nilA)) := by
  obtain ⟨f, fd, a, b, c, d⟩ := Dn
  exact de_call0 hK hG hx d hr hg a b c hdb
theorem den_bad {st : Stmt} (A : At K mg x st ps) : Den P w K mg base k x ps modes (fun _ => .bad) := by
  obtain ⟨f, fd, a, b, c⟩ := A
  refine ⟨f, fd, b, a.kp, c, ⟨fun vs H Q E h => ?_, fun _ _ _ _ _ _ vs Q E _ _ _ _ h => ?_⟩⟩
  · obtain ⟨_, _, _, _, _, q⟩ := h; exact q.elim
  · obtain ⟨_, _, _, _, _, q⟩ := h; exact q.elim
theorem den_of {st : Stmt} {N : List Str} {m : MS} (A : At K mg x st ps) (Sc : FnScope N ps (defScope st)) (hm : modes.length = ps.length) (hn : ps.length ≤ N.length)
    (hb : ∀ (f : Addr) (cdv : Value) (A : Around) (outer : List PySem.Env) (s : Shared) (H : Hp) (E : XK) (F : Fx), Room k (A.deeper (envOfC x (defScope st) s.heap.objs.size f cdv)) → F.K = K → F.mg = mg →
      Passes (L2.CX P w) (cxOf (L2.CX P w) P w K mg base N x (defScope st) f cdv A outer s H E) F.E →
      (Takes (cxOf (L2.CX P w) P w K mg base N x (defScope st) f cdv A outer s H E) (fun cls d _ H => F.E cls d H)) →
      PassesOwn (model P w) (A.deeper (envOfC x (defScope st) s.heap.objs.size f cdv)) (cxOf (L2.CX P w) P w K mg base N x (defScope st) f cdv A outer s H E).env (cxOf (L2.CX P w) P w K mg base N x (defScope st) f cdv A outer s H E).xe →
      PSs (cxOf (L2.CX P w) P w K mg base N x (defScope st) f cdv A outer s H E) (defBody st) (tS F m)) : Den P w K mg base (k + 1) x ps modes (runF modes N.length m) := by
  obtain ⟨f, fd, a, b, c⟩ := A
  exact ⟨f, fd, b, a.kp, c, fn_den a Sc hm hn (hb f)⟩
end
end DL

set_option maxRecDepth 100000
set_option maxHeartbeats 4000000
namespace DL
open PySem PySem.Spec L2
open PyProof.Rows hiding St
def maxI : Int → List Int → Int
  | m, [] => m
  | m, x :: xs => maxI (if x > m then x else m) xs
def minI : Int → List Int → Int
  | m, [] => m
  | m, x :: xs => minI (if x < m then x else m) xs
theorem maxI_spec : ∀ (xs : List Int) (m : Int), (maxI m xs = m ∨ maxI m xs ∈ xs) ∧ m ≤ maxI m xs ∧ ∀ y ∈ xs, y ≤ maxI m xs
  | [], m => ⟨.inl rfl, Int.le_refl _, fun _ h => nomatch h⟩
  | x :: xs, m => by
    have e : maxI m (x :: xs) = maxI (if x > m then x else m) xs := rfl
    by_cases h : x > m
    · rw [if_pos h] at e
      obtain ⟨h1, h2, h3⟩ := maxI_spec xs x
      rw [e]
      refine ⟨.inr ?_, by omega, fun y hy => ?_⟩
      · rcases h1 with h1 | h1
        · rw [h1]; exact List.mem_cons_self
        · exact List.mem_cons_of_mem _ h1
      · rcases List.mem_cons.mp hy with rfl | hy
        · exact h2
        · exact h3 y hy
    · rw [if_neg h] at e
      obtain ⟨h1, h2, h3⟩ := maxI_spec xs m
      rw [e]
      refine ⟨h1.imp id (List.mem_cons_of_mem _), h2, fun y hy => ?_⟩
      rcases List.mem_cons.mp hy with rfl | hy
      · omega
      · exact h3 y hy
theorem minI_spec : ∀ (xs : List Int) (m : Int), (minI m xs = m ∨ minI m xs ∈ xs) ∧ minI m xs ≤ m ∧ ∀ y ∈ xs, minI m xs ≤ y
  | [], m => ⟨.inl rfl, Int.le_refl _, fun _ h => nomatch h⟩
  | x :: xs, m => by
    have e : minI m (x :: xs) = minI (if x < m then x else m) xs := rfl
    by_cases h : x < m
    · rw [if_pos h] at e
      obtain ⟨h1, h2, h3⟩ := minI_spec xs x
      rw [e]
      refine ⟨.inr ?_, by omega, fun y hy => ?_⟩
      · rcases h1 with h1 | h1
        · rw [h1]; exact List.mem_cons_self
        · exact List.mem_cons_of_mem _ h1
      · rcases List.mem_cons.mp hy with rfl | hy
        · exact h2
        · exact h3 y hy
    · rw [if_neg h] at e
      obtain ⟨h1, h2, h3⟩ := minI_spec xs m
      rw [e]
      refine ⟨h1.imp id (List.mem_cons_of_mem _), h2, fun y hy => ?_⟩
      rcases List.mem_cons.mp hy with rfl | hy
      · omega
      · exact h3 y hy
def gMaxL : List D → Option Od
  | [.lst ds] => match intsOf ds with
    | some (n :: ns) => some (.d (.int (maxI n ns)))
    | _ => none
  | _ => none
def gMinL : List D → Option Od
  | [.lst ds] => match intsOf ds with
    | some (n :: ns) => some (.d (.int (minI n ns)))
    | _ => none
  | _ => none
section
variable {F : Fx}
theorem c_maxL : CallS F (rMax F.K) gMaxL := by
  intro e S σ H vs xs o Q r rs hg k
  unfold gMaxL at hg
  split at hg
  · split at hg
    · rename_i n ns hn; cases hg
      obtain ⟨v, rfl, rx⟩ := rs.one
      obtain ⟨p, ys, rfl, hp, q⟩ := rx.lst
      have e1 := ints_eq hn
      subst e1
      rw [q.ints] at hp
      refine ⟨p, n :: ns, rfl, SqL.of hp, Nat.succ_pos _, fun m hm hle => ?_⟩
      obtain ⟨h1, h2, h3⟩ := maxI_spec ns n
      have e2 : m = maxI n ns := by
        have a1 : m ≤ maxI n ns := by
          rcases List.mem_cons.mp hm with rfl | hm
          · exact h2
          · exact h3 m hm
        have a2 : maxI n ns ≤ m := hle _ (by rcases h1 with h1 | h1; · rw [h1]; exact List.mem_cons_self
                                             · exact List.mem_cons_of_mem _ h1)
        omega
      subst e2
      exact k _ H S r (.refl _ _ _ _) (.int _)
    · cases hg
  · cases hg
theorem c_minL : CallS F (rMin F.K) gMinL := by
  intro e S σ H vs xs o Q r rs hg k
  unfold gMinL at hg
  split at hg
  · split at hg
    · rename_i n ns hn; cases hg
      obtain ⟨v, rfl, rx⟩ := rs.one
      obtain ⟨p, ys, rfl, hp, q⟩ := rx.lst
      have e1 := ints_eq hn
      subst e1
      rw [q.ints] at hp
      refine ⟨p, n :: ns, rfl, SqL.of hp, Nat.succ_pos _, fun m hm hle => ?_⟩
      obtain ⟨h1, h2, h3⟩ := minI_spec ns n
      have e2 : m = minI n ns := by
        have a1 : minI n ns ≤ m := by
          rcases List.mem_cons.mp hm with rfl | hm
          · exact h2
          · exact h3 m hm
        have a2 : m ≤ minI n ns := hle _ (by rcases h1 with h1 | h1; · rw [h1]; exact List.mem_cons_self
                                             · exact List.mem_cons_of_mem _ h1)
        omega
      subst e2
      exact k _ H S r (.refl _ _ _ _) (.int _)
    · cases hg
  · cases hg
end

section
variable {X : Cx} {F : Fx} {p pos : Pos} {a b c : Expr} {ms : M (List Od)}
theorem de_len (hK : F.K = X.K) (hc : X.calm = true) (hg : Gl X "len") (hm : X.mg "len" = none) (ha : PA X [a] (tA F ms)) (he : starEach [a] X.env = (false, eval a X.env) :: starEach [] X.env := by rfl) (hpl : (backTo pos (starEach [] X.env)).any (·.1) = false := by rfl) :
    PE X (.Call (.Name "len" p) [a] [] pos) (tE F (callB gLen ms)) :=
  de_callB (by rw [hK]; exact CallR.or call_len_seq call_len_str) c_len hg hm (by decide +kernel) ha (by decide) (by decide) he hpl
theorem de_abs (hK : F.K = X.K) (hc : X.calm = true) (hg : Gl X "abs") (hm : X.mg "abs" = none) (ha : PA X [a] (tA F ms)) (he : starEach [a] X.env = (false, eval a X.env) :: starEach [] X.env := by rfl) (hpl : (backTo pos (starEach [] X.env)).any (·.1) = false := by rfl) :
    PE X (.Call (.Name "abs" p) [a] [] pos) (tE F (callB gAbs ms)) :=
  de_callB (call_abs) c_abs hg hm (by decide +kernel) ha (by decide) (by decide) he hpl
theorem de_sum (hK : F.K = X.K) (hc : X.calm = true) (hg : Gl X "sum") (hm : X.mg "sum" = none) (ha : PA X [a] (tA F ms)) (he : starEach [a] X.env = (false, eval a X.env) :: starEach [] X.env := by rfl) (hpl : (backTo pos (starEach [] X.env)).any (·.1) = false := by rfl) :
    PE X (.Call (.Name "sum" p) [a] [] pos) (tE F (callB gSum ms)) :=
  de_callB (by rw [hK]; exact cr_sum hc) c_sum hg hm (by decide +kernel) ha (by decide) (by decide) he hpl
theorem de_all (hK : F.K = X.K) (hc : X.calm = true) (hg : Gl X "all") (hm : X.mg "all" = none) (ha : PA X [a] (tA F ms)) (he : starEach [a] X.env = (false, eval a X.env) :: starEach [] X.env := by rfl) (hpl : (backTo pos (starEach [] X.env)).any (·.1) = false := by rfl) :
    PE X (.Call (.Name "all" p) [a] [] pos) (tE F (callB gAll ms)) :=
  de_callB (by rw [hK]; exact cr_all hc) c_all hg hm (by decide +kernel) ha (by decide) (by decide) he hpl
theorem de_any (hK : F.K = X.K) (hc : X.calm = true) (hg : Gl X "any") (hm : X.mg "any" = none) (ha : PA X [a] (tA F ms)) (he : starEach [a] X.env = (false, eval a X.env) :: starEach [] X.env := by rfl) (hpl : (backTo pos (starEach [] X.env)).any (·.1) = false := by rfl) :
    PE X (.Call (.Name "any" p) [a] [] pos) (tE F (callB gAny ms)) :=
  de_callB (by rw [hK]; exact cr_any hc) c_any hg hm (by decide +kernel) ha (by decide) (by decide) he hpl
theorem de_sorted (hK : F.K = X.K) (hc : X.calm = true) (hg : Gl X "sorted") (hm : X.mg "sorted" = none) (ha : PA X [a] (tA F ms)) (he : starEach [a] X.env = (false, eval a X.env) :: starEach [] X.env := by rfl) (hpl : (backTo pos (starEach [] X.env)).any (·.1) = false := by rfl) :
    PE X (.Call (.Name "sorted" p) [a] [] pos) (tE F (callB gSortedI ms)) :=
  de_callB (by rw [hK]; exact cr_sortedI) c_sortedI hg hm (by decide +kernel) ha (by decide) (by decide) he hpl
theorem de_max2 (hK : F.K = X.K) (hc : X.calm = true) (hg : Gl X "max") (hm : X.mg "max" = none) (ha : PA X [a, b] (tA F ms)) (he : starEach [a, b] X.env = (false, eval a X.env) :: starEach [b] X.env := by rfl) (hpl : (backTo pos (starEach [b] X.env)).any (·.1) = false := by rfl) :
    PE X (.Call (.Name "max" p) [a, b] [] pos) (tE F (callB gMax2 ms)) :=
  de_callB (call_max2 hc) c_max2 hg hm (by decide +kernel) ha (by decide) (by decide) he hpl
theorem de_min2 (hK : F.K = X.K) (hc : X.calm = true) (hg : Gl X "min") (hm : X.mg "min" = none) (ha : PA X [a, b] (tA F ms)) (he : starEach [a, b] X.env = (false, eval a X.env) :: starEach [b] X.env := by rfl) (hpl : (backTo pos (starEach [b] X.env)).any (·.1) = false := by rfl) :
    PE X (.Call (.Name "min" p) [a, b] [] pos) (tE F (callB gMin2 ms)) :=
  de_callB (call_min2 hc) c_min2 hg hm (by decide +kernel) ha (by decide) (by decide) he hpl
theorem de_maxL (hK : F.K = X.K) (hc : X.calm = true) (hg : Gl X "max") (hm : X.mg "max" = none) (ha : PA X [a] (tA F ms)) (he : starEach [a] X.env = (false, eval a X.env) :: starEach [] X.env := by rfl) (hpl : (backTo pos (starEach [] X.env)).any (·.1) = false := by rfl) :
    PE X (.Call (.Name "max" p) [a] [] pos) (tE F (callB gMaxL ms)) :=
  de_callB (by rw [hK]; exact cr_max hc) c_maxL hg hm (by decide +kernel) ha (by decide) (by decide) he hpl
theorem de_minL (hK : F.K = X.K) (hc : X.calm = true) (hg : Gl X "min") (hm : X.mg "min" = none) (ha : PA X [a] (tA F ms)) (he : starEach [a] X.env = (false, eval a X.env) :: starEach [] X.env := by rfl) (hpl : (backTo pos (starEach [] X.env)).any (·.1) = false := by rfl) :
    PE X (.Call (.Name "min" p) [a] [] pos) (tE F (callB gMinL ms)) :=
  de_callB (by rw [hK]; exact cr_min hc) c_minL hg hm (by decide +kernel) ha (by decide) (by decide) he hpl
theorem de_intc (hK : F.K = X.K) (hc : X.calm = true) (hg : Gl X "int") (hm : X.mg "int" = none) (ha : PA X [a] (tA F ms)) (he : starEach [a] X.env = (false, eval a X.env) :: starEach [] X.env := by rfl) (hpl : (backTo pos (starEach [] X.env)).any (·.1) = false := by rfl) :
    PE X (.Call (.Name "int" p) [a] [] pos) (tE F (callB gInt ms)) :=
  de_callTy (call_int1) c_int hg hm (by decide +kernel) ha (by decide) (by decide) he hpl
theorem de_strc (hK : F.K = X.K) (hc : X.calm = true) (hg : Gl X "str") (hm : X.mg "str" = none) (ha : PA X [a] (tA F ms)) (he : starEach [a] X.env = (false, eval a X.env) :: starEach [] X.env := by rfl) (hpl : (backTo pos (starEach [] X.env)).any (·.1) = false := by rfl) :
    PE X (.Call (.Name "str" p) [a] [] pos) (tE F (callB gStr ms)) :=
  de_callTy (CallR.or call_str_int SkE.call_str_str) c_str hg hm (by decide +kernel) ha (by decide) (by decide) he hpl
theorem de_list (hK : F.K = X.K) (hc : X.calm = true) (hg : Gl X "list") (hm : X.mg "list" = none) (ha : PA X [a] (tA F ms)) (he : starEach [a] X.env = (false, eval a X.env) :: starEach [] X.env := by rfl) (hpl : (backTo pos (starEach [] X.env)).any (·.1) = false := by rfl) :
    PE X (.Call (.Name "list" p) [a] [] pos) (tE F (callB gList ms)) :=
  de_callTy (by rw [hK]; exact call_list_of) c_list hg hm (by decide +kernel) ha (by decide) (by decide) he hpl
theorem de_tuple (hK : F.K = X.K) (hc : X.calm = true) (hg : Gl X "tuple") (hm : X.mg "tuple" = none) (ha : PA X [a] (tA F ms)) (he : starEach [a] X.env = (false, eval a X.env) :: starEach [] X.env := by rfl) (hpl : (backTo pos (starEach [] X.env)).any (·.1) = false := by rfl) :
    PE X (.Call (.Name "tuple" p) [a] [] pos) (tE F (callB gTuple ms)) :=
  de_callTy (by rw [hK]; exact call_tuple_of) c_tuple hg hm (by decide +kernel) ha (by decide) (by decide) he hpl
end

section
variable {X : Cx} {F : Fx} {k : Nat}
def r_eq (F : Fx) : R2 := (fun x y H Q => rEq x y H Q ∨ rEqD F.K x y H Q)
abbrev g_eq : D → D → Option Od := gEq
theorem o_eq (hK : F.K = X.K) (hr : Room k X.A) : OpR X (compareOp .Eq) (r_eq F) := by
  unfold r_eq; rw [hK]; exact OpR.or op_eq (op_eqD hr.units)
theorem s_eq' : OpS F (r_eq F) g_eq := s_eq
def r_ne (F : Fx) : R2 := (fun x y H Q => rNe x y H Q ∨ rNeD F.K x y H Q)
abbrev g_ne : D → D → Option Od := gNe
theorem o_ne (hK : F.K = X.K) (hr : Room k X.A) : OpR X (compareOp .NotEq) (r_ne F) := by
  unfold r_ne; rw [hK]; exact OpR.or op_ne (op_neD hr.units)
theorem s_ne' : OpS F (r_ne F) g_ne := s_ne
def r_lt (F : Fx) : R2 := (fun x y H Q => rI0 (fun i j => .bl (decide (i < j))) x y H Q ∨ rLtT F.K x y H Q)
abbrev g_lt : D → D → Option Od := gLt
theorem o_lt (hK : F.K = X.K) (hr : Room k X.A) : OpR X (compareOp .Lt) (r_lt F) := by
  unfold r_lt; rw [hK]; exact OpR.or op_lt (op_ltT hr.units0)
theorem s_lt' : OpS F (r_lt F) g_lt := s_lt
def r_le (F : Fx) : R2 := (rI0 fun i j => .bl (decide (i ≤ j)))
abbrev g_le : D → D → Option Od := (gCmp fun i j => decide (i ≤ j))
theorem o_le (hK : F.K = X.K) (hr : Room k X.A) : OpR X (compareOp .LtE) (r_le F) := by
  unfold r_le; exact op_le
theorem s_le' : OpS F (r_le F) g_le := s_cmp _
def r_gt (F : Fx) : R2 := (rI0 fun i j => .bl (decide (j < i)))
abbrev g_gt : D → D → Option Od := (gCmp fun i j => decide (j < i))
theorem o_gt (hK : F.K = X.K) (hr : Room k X.A) : OpR X (compareOp .Gt) (r_gt F) := by
  unfold r_gt; exact op_gt
theorem s_gt' : OpS F (r_gt F) g_gt := s_cmp _
def r_ge (F : Fx) : R2 := (rI0 fun i j => .bl (decide (j ≤ i)))
abbrev g_ge : D → D → Option Od := (gCmp fun i j => decide (j ≤ i))
theorem o_ge (hK : F.K = X.K) (hr : Room k X.A) : OpR X (compareOp .GtE) (r_ge F) := by
  unfold r_ge; exact op_ge
theorem s_ge' : OpS F (r_ge F) g_ge := s_cmp _
def r_is (F : Fx) : R2 := (fun x y H Q => (y = .non ∧ Q (.bl (decide (x = .non))) H) ∨ ∃ a b, x = .bl a ∧ y = .bl b ∧ Q (.bl (decide (a = b))) H)
abbrev g_is : D → D → Option Od := gIsN
theorem o_is (hK : F.K = X.K) (hr : Room k X.A) : OpR X (compareOp .Is) (r_is F) := by
  unfold r_is; exact OpR.or op_isN op_is_bl
theorem s_is' : OpS F (r_is F) g_is := s_isN
def r_isnot (F : Fx) : R2 := (fun x y H Q => (y = .non ∧ Q (.bl (!decide (x = .non))) H) ∨ ∃ a b, x = .bl a ∧ y = .bl b ∧ Q (.bl (!decide (a = b))) H)
abbrev g_isnot : D → D → Option Od := gNotN
theorem o_isnot (hK : F.K = X.K) (hr : Room k X.A) : OpR X (compareOp .IsNot) (r_isnot F) := by
  unfold r_isnot; exact OpR.or op_notN op_isnot_bl
theorem s_isnot' : OpS F (r_isnot F) g_isnot := s_notN
def r_in (F : Fx) : R2 := (fun x y H Q => rIn F.K false x y H Q ∨ rInD F.K x y H Q)
abbrev g_in : D → D → Option Od := (gIn false)
theorem o_in (hK : F.K = X.K) (hr : Room k X.A) : OpR X (compareOp .In) (r_in F) := by
  unfold r_in; rw [hK]; exact OpR.or op_in_seq (op_inD (by have := hr.un; omega))
theorem s_in' : OpS F (r_in F) g_in := s_in
def r_notin (F : Fx) : R2 := (fun x y H Q => rIn F.K true x y H Q ∨ rNotInD F.K x y H Q)
abbrev g_notin : D → D → Option Od := (gIn true)
theorem o_notin (hK : F.K = X.K) (hr : Room k X.A) : OpR X (compareOp .NotIn) (r_notin F) := by
  unfold r_notin; rw [hK]; exact OpR.or op_notIn_seq (op_notInD (by have := hr.un; omega))
theorem s_notin' : OpS F (r_notin F) g_notin := s_notin
end

section
variable {X : Cx} {F : Fx} {pos : Pos}
theorem de_globI {x : Str} {n : Int} (hK : ∃ t, X.mg x = some (.int n t)) (hg : Gl X x) (hd : (x == ("__debug__" : Str)) = false := by decide) : PE X (.Name x pos) (tE F (evC (.int n))) := by
  obtain ⟨t, h⟩ := hK
  exact de_glob (v := .int n) hg h ⟨t, rfl⟩ (fun _ _ _ => .int n) hd
def ExcAt (K : PySem.W.Frag) (mg : Str → Option Value) (x : Str) : Prop := ∃ C, mg x = some (.ref C) ∧ PySem.W.excIn K C [.type "ValueError", .type "Exception", .type "BaseException", .type "object"] "ValueError.__new__" = true ∧ PySem.W.keepIn K (.ref C) = true ∧
  PySem.W.subIn K (.ref C) (.type "BaseException") = some true ∧ PySem.W.typeIn K (.ref C) = some (.type "type")
theorem ds_raiseD {x m : Str} {j : Nat} {p p2 pos pos2 : Pos} (T : ExcAt X.K X.mg x) (hc : X.calm = true) (hG : F.mg = X.mg) (tk : Takes X (fun cls d _ H => F.E cls d H)) (hg : Gl X x) (hdb : (x == ("__debug__" : Str)) = false := by decide) :
    PS X (.Raise (some (.Call (.Name x p) [.Constant (.str m) j p2] [] pos)) none pos2) (tS F (raiseS x)) := by
  obtain ⟨C, g, h1, h2, h3, h4⟩ := T
  exact ds_raise hc hG g tk (pmk_own PySem.F.excBase_ValueError h1 g h2 (raises_own h3 h4) hg hdb)
end
end DL

set_option maxRecDepth 100000
namespace DL
open PySem PySem.Spec L2
open PyProof.Rows hiding St
theorem blk_cast {N : List Str} {sc sc' scope : Scope} {own : List (Str × Nat)} (h : sc' = sc) (b : BlkOk N sc scope own) : BlkOk N sc' scope own := by rw [h]; exact b
def ifT (mc ma mb : M Bool) : M Bool := bnd mc fun c => if c then ma else mb
theorem dt_if {X : Cx} {F : Fx} {mc ma mb : M Bool} {a b c : Expr} {pos : Pos} (hc : PT X c (tT F mc)) (ha : PT X a (tT F ma)) (hb : PT X b (tT F mb)) : PT X (.IfExp c a b pos) (tT F (ifT mc ma mb)) := by
  refine ⟨fun pins s σ H Q I ⟨e, S, r, q⟩ => ?_⟩
  rw [arm_isTrue_IfExp]
  refine wpAny_bind (wpAny_mono (hc.run pins s σ H (fun c H1 => if c = true then tT F ma σ H1 Q else tT F mb σ H1 Q) I ⟨e, S, r, ?_⟩) (fun d s1 ⟨H1, I1, q1⟩ => ?_) fun _ _ x => x)
  · simp only [ifT, bnd] at q
    cases h1 : mc e with
    | bad => rw [h1] at q; exact q
    | err x => rw [h1] at q; exact q
    | ok k e1 =>
      simp only [h1] at q
      refine fun H1 S1 r1 t1 => ?_
      cases k with
      | true =>
        rw [if_pos rfl] at q ⊢
        refine ⟨e1, S1, r1, ?_⟩
        cases h2 : ma e1 with
        | bad => rw [h2] at q; exact q
        | err x => rw [h2] at q; exact q
        | ok d e2 => simp only [h2] at q; exact fun H2 S2 r2 t2 => q H2 S2 r2 (t1.trans t2)
      | false =>
        rw [if_neg Bool.false_ne_true] at q ⊢
        refine ⟨e1, S1, r1, ?_⟩
        cases h2 : mb e1 with
        | bad => rw [h2] at q; exact q
        | err x => rw [h2] at q; exact q
        | ok d e2 => simp only [h2] at q; exact fun H2 S2 r2 t2 => q H2 S2 r2 (t1.trans t2)
  · cases d with
    | true => exact ha.run pins s1 σ H1 Q I1 q1
    | false => exact hb.run pins s1 σ H1 Q I1 q1
end DL

set_option maxRecDepth 100000
set_option maxHeartbeats 4000000
namespace DL
open PySem PySem.Spec L2
open PyProof.Rows hiding St
section
variable {K : PySem.W.Frag} {h : Heap} {mg : Str → Option Value}
theorem at_mk {x : Str} {st : Stmt} {ps : List Str} {f : Addr} {oc : Value} {od an : Option Addr} {osl : Array (Option Value)} {kV doc pm cdv ct : Value} (X : K.In h) (G : h.Ns mainGlobals mg) (a : PySem.W.nsIn K mainGlobals x = some (some (.ref f)))
    (l : K.lookup f = some ⟨oc, od, .func (PySem.W.fnOf x x (defArgs st) (defBody st) (defScope st) .none kV doc pm an cdv ct), osl⟩) (c : PySem.W.codeIn K cdv x = true) (k : PySem.W.keepIn K (.ref f) = true)
    (hb : ∀ (kV doc pm : Value) (an : Option Addr) (cdv ct : Value) (us : List Value), us.length = ps.length → bindArgs (PySem.W.fnOf x x (defArgs st) (defBody st) (defScope st) .none kV doc pm an cdv ct) ⟨us, []⟩ = pure (ps.zip us)) : At K mg x st ps :=
  ⟨f, _, fun_mk l c k, PySem.W.mg_of X G a, (fun_mk l c k).binds hb⟩
theorem int_mk {x : Str} {n : Int} {t : Tok} (X : K.In h) (G : h.Ns mainGlobals mg) (a : PySem.W.nsIn K mainGlobals x = some (some (.int n t))) : ∃ t, mg x = some (.int n t) := ⟨t, PySem.W.mg_of X G a⟩
theorem exc_mk {x : Str} {C : Addr} (X : K.In h) (G : h.Ns mainGlobals mg) (a : PySem.W.nsIn K mainGlobals x = some (some (.ref C))) (e : PySem.W.excIn K C [.type "ValueError", .type "Exception", .type "BaseException", .type "object"] "ValueError.__new__" = true)
    (k : PySem.W.keepIn K (.ref C) = true) (b : PySem.W.subIn K (.ref C) (.type "BaseException") = some true) (t : PySem.W.typeIn K (.ref C) = some (.type "type")) : ExcAt K mg x := ⟨C, PySem.W.mg_of X G a, e, k, b, t⟩
end
def spOk (K : PySem.W.Frag) (modes : List Bool) (g : List D → Rs) : Sp := fun vs H Q _ => ∃ S ds, ArgsOk K S H modes vs ds ∧ (ios modes vs).Nodup ∧ (∀ p, S p → H p ≠ none) ∧ ∃ fr d outs, g ds = .ok fr d outs ∧ ∀ v H1 S1, After K S H (ios modes vs) fr d outs v S1 H1 → Q v H1
theorem law_sp {K : PySem.W.Frag} {g : List D → Rs} {H : Hp} {a : Addr} {ns : List Int} (hO : Only H) (hS : SqL K H a (ns.map V.int)) (hg : g [.scr ns] = .ok false (.bl true) []) :
    spOk K [false] g [.ref a] H (fun v _ => v = .bl true) fun _ _ _ => False := by
  refine ⟨fun _ => False, [.scr ns], .val (.scr ?_) .nil, by simp [ios], fun _ h => h.elim, _, _, _, hg, fun v H1 S1 af => ?_⟩
  · rcases hS with (h | ⟨o, h⟩) | h
    · rcases hO a with z | ⟨o, xs, z⟩
      · rw [h] at z; cases z
      · rw [h] at z; cases z
    · exact .inl ⟨o, h⟩
    · exact .inr h
  · have := af.val
    rw [if_neg Bool.false_ne_true] at this
    cases this; rfl
theorem law_walk {l : PySem.W.OpenLaw} {q : Program} {loose : List Str} {XP : (Str → Option Value) → Heap → Prop} {YP : World → Heap → Prop} {d : DefRec} {K : Params → PySem.W.Frag} {k : Nat} {g : List D → Rs} (hn : l.most = some 63) (hdf : d.params.defaults = []) (hr : Room k callerA) (hname : d.name = "law")
    (hg : ∀ ns : List Int, ns.length ≤ 63 → g [.scr ns] = .ok false (.bl true) [])
    (hY : ∀ (w : World) (h : Heap), YP w h → (K w.params).In h)
    (F : ∀ (w : World) (mg : Str → Option Value) (h : Heap), (K w.params).In h → h.Ns mainGlobals mg → ∃ f fd, mg "law" = some (.ref f) ∧ (∀ (s : Shared) (u : Value), BindsTo s fd ⟨[u], []⟩ [("script", u)]) ∧ ∀ base : Heap, FnOk l.prog w (K w.params) mg base (L2.CX l.prog w) k f fd ["script"] (spF (K w.params) mg [false] g)) :
    PySem.W.WalkO q loose XP YP l.row.toRowW d [] (fun f vs => PySem.call f vs) := by
  refine L2.walk_of (n := 63) (k := k) (x := "script") (CX := fun w => L2.CX l.prog w) (sp := fun w => spOk (K w.params) [false] g) hn (by decide) hdf hr hY (fun w mg fa h hK hns hmg => ?_) (fun w H a ns hl hO hS => law_sp hO hS (hg ns hl)) fun w H s e s' h => ?_
  · rw [hname] at hmg
    obtain ⟨f, fd, h1, h2, h3⟩ := F w mg h hK hns
    rw [hmg] at h1; cases h1
    refine ⟨fd, h2, fun base _ _ => (h3 base).imp fun vs H Q E ⟨S, ds, a, b, c, fr, d, outs, e, q⟩ => ⟨S, ds, a, b, c, ?_⟩⟩
    rw [e]; exact q
  · obtain ⟨_, _, _, _, _, _, _, _, _, _, _, _, z⟩ := h
    exact z
end DL

set_option maxRecDepth 100000
set_option maxHeartbeats 4000000
namespace DL
open PySem PySem.Spec L2
open PyProof.Rows hiding St
def keyOf : D → Option Key
  | .int i => some (.inl i)
  | .str z => some (.inr z)
  | _ => none
def keysOf : List D → Option (List Key)
  | [] => some []
  | d :: ds => match keyOf d, keysOf ds with
    | some k, some ks => some (k :: ks)
    | _, _ => none
section
variable {κ : Type} [DecidableEq κ]
def lookZ : List κ → List D → κ → Option D
  | k :: ks, d :: ds, j => if k = j then some d else lookZ ks ds j
  | _, _, _ => none
def replZ : List κ → List D → κ → D → List D
  | k :: ks, d :: ds, j, x => (if k = j then x else d) :: replZ ks ds j x
  | _, _, _, _ => []
def putZ (ks : List κ) (ds : List D) (j : κ) (x : D) : List κ × List D := match lookZ ks ds j with
  | some _ => (ks, replZ ks ds j x)
  | none => (ks ++ [j], ds ++ [x])
section
variable {K : PySem.W.Frag} {S : Addr → Prop} {H : Hp}
theorem look_some {j : κ} {d : D} : ∀ {ks : List κ} {xs : List V} {ds : List D}, Reps K S H xs ds → ks.length = xs.length → lookZ ks ds j = some d → ∃ v, valV (ks.zip xs) j = some v ∧ Rep K S H v d
  | [], _, _, _, _, h => by cases h
  | k :: ks, [], _, _, l, _ => by simp at l
  | k :: ks, x :: xs, _, .cons r t, l, h => by
    simp only [lookZ] at h
    by_cases e : k = j
    · rw [if_pos e] at h; cases h
      exact ⟨x, valV_pos (p := (k, x)) e, r⟩
    · rw [if_neg e] at h
      obtain ⟨v, h1, h2⟩ := look_some t (by simpa using l) h
      exact ⟨v, by rw [List.zip_cons_cons, valV_neg (p := (k, x)) e]; exact h1, h2⟩
theorem look_none {j : κ} : ∀ {ks : List κ} {xs : List V} {ds : List D}, Reps K S H xs ds → ks.length = xs.length → lookZ ks ds j = none → valV (ks.zip xs) j = none
  | [], _, _, _, _, _ => rfl
  | k :: ks, [], _, _, l, _ => by simp at l
  | k :: ks, x :: xs, _, .cons r t, l, h => by
    simp only [lookZ] at h
    by_cases e : k = j
    · rw [if_pos e] at h; cases h
    · rw [if_neg e] at h
      rw [List.zip_cons_cons, valV_neg (p := (k, x)) e]
      exact look_none t (by simpa using l) h
theorem repl_map (j : κ) (v : V) (x : D) (rx : Rep K S H v x) : ∀ {ks : List κ} {xs : List V} {ds : List D}, Reps K S H xs ds → ks.length = xs.length →
    ∃ ys, (ks.zip xs).map (fun kv => if kv.1 = j then (kv.1, v) else kv) = ks.zip ys ∧ ks.length = ys.length ∧ Reps K S H ys (replZ ks ds j x)
  | [], [], _, .nil, _ => ⟨[], rfl, rfl, .nil⟩
  | k :: ks, [], _, _, l => by simp at l
  | [], x :: xs, _, _, l => by simp at l
  | k :: ks, y :: xs, _, .cons r t, l => by
    obtain ⟨ys, h1, h2, h3⟩ := repl_map j v x rx (ks := ks) t (by simpa using l)
    by_cases e : k = j
    · refine ⟨v :: ys, ?_, by simp [h2], ?_⟩
      · rw [List.zip_cons_cons, List.map_cons, h1, if_pos e]; rfl
      · simp only [replZ, if_pos e]; exact .cons rx h3
    · refine ⟨y :: ys, ?_, by simp [h2], ?_⟩
      · rw [List.zip_cons_cons, List.map_cons, h1, if_neg e]; rfl
      · simp only [replZ, if_neg e]; exact .cons r h3
theorem put_rep {j : κ} {v : V} {x : D} (rx : Rep K S H v x) {ks : List κ} {xs : List V} {ds : List D} (q : Reps K S H xs ds) (l : ks.length = xs.length) :
    ∃ ys, putK (ks.zip xs) j v = (putZ ks ds j x).1.zip ys ∧ (putZ ks ds j x).1.length = ys.length ∧ Reps K S H ys (putZ ks ds j x).2 := by
  unfold putZ putK
  cases h : lookZ ks ds j with
  | some d =>
    obtain ⟨w, h1, _⟩ := look_some q l h
    rw [valV_any, h1]
    obtain ⟨ys, h2, h3, h4⟩ := repl_map j v x rx q l
    exact ⟨ys, h2, h3, h4⟩
  | none =>
    rw [valV_any, look_none q l h]
    refine ⟨xs ++ [v], ?_, by simp [l], q.append (.cons rx .nil)⟩
    show ks.zip xs ++ [(j, v)] = (ks ++ [j]).zip (xs ++ [v])
    rw [List.zip_append l]; rfl
end
end
section
variable {K : PySem.W.Frag} {S : Addr → Prop} {H : Hp}
theorem keyOf_ok {v : V} {d : D} {k : Key} (r : RepT K S H v d) (h : keyOf d = some k) : v = kV k := by
  cases d with
  | int i => cases h; exact r.int
  | str z => cases h; exact r.str
  | _ => cases h
theorem keysOf_ok : ∀ {vs : List V} {ds : List D} {ks : List Key}, Reps K S H vs ds → keysOf ds = some ks → vs = ks.map kV
  | _, _, _, .nil, h => by cases h; rfl
  | _, d :: ds, _, .cons r t, h => by
    simp only [keysOf] at h
    cases h1 : keyOf d with
    | none => rw [h1] at h; cases h
    | some k =>
      cases h2 : keysOf ds with
      | none => rw [h1, h2] at h; cases h
      | some ks =>
        rw [h1, h2] at h; cases h
        rw [keyOf_ok (.inl r) h1, keysOf_ok t h2]; rfl
end

def lookD : D → D → Option D
  | .dk ks ds, y => (keyOf y).bind fun k => lookZ ks ds k
  | .dt ks ds, .tup es => (keysOf es).bind fun k => lookZ ks ds k
  | _, _ => none
def gIx2 : D → D → Option Od
  | .lst ds, .int i => (atI ds i).map .d
  | .tup ds, .int i => (atI ds i).map .d
  | .kt ds, .int i => (atI ds i).map .d
  | .str z, .int i => if z.length ≤ 16777216 then chAt z i else none
  | .dk ks ds, y => (lookD (.dk ks ds) y).map .d
  | .dt ks ds, y => (lookD (.dt ks ds) y).map .d
  | _, _ => none
def rIxY : R2 := fun x y H Q => ∃ a v, x = .ref a ∧ DGet H a y (some v) ∧ Q v H
section
variable {X : Cx}
theorem ix_dict (hu : X.A.units + 1 < cLine) : IxR X rIxY := by
  intro value slice pins s σ H x y v u Q I rx ry h hs
  obtain ⟨a, z, rfl, g, q⟩ := h
  cases rx
  exact tail_any (dict_typeIs I g) PySem.F.slot_dict_getitem.lookup (d_getItem hu I g ry fun w' s' I' rw' => ⟨z, H, I', rw', q⟩) hs
end
theorem dget_ok {F : Fx} {S : Addr → Prop} {H : Hp} {v u : V} {x y d : D} (rx : RepT F.K S H v x) (ry : RepT F.K S H u y) (h : lookD x y = some d) : ∃ a w, v = .ref a ∧ DGet H a u (some w) ∧ Rep F.K S H w d := by
  unfold lookD at h
  split at h
  · rename_i ks ds
    obtain ⟨p, xs, rfl, hp, l, q⟩ := rx.dk
    cases h1 : keyOf y with
    | none => rw [h1] at h; cases h
    | some k =>
      rw [h1] at h
      obtain ⟨w, h2, h3⟩ := look_some q l h
      rw [keyOf_ok ry h1]
      exact ⟨p, w, rfl, by rw [← h2]; exact .k hp, h3⟩
  · rename_i ks ds es
    obtain ⟨p, xs, rfl, hp, l, q⟩ := rx.dt
    obtain ⟨p2, ys, rfl, hp2, q2⟩ := ry.tup
    cases h1 : keysOf es with
    | none => rw [h1] at h; cases h
    | some k =>
      rw [h1] at h
      obtain ⟨w, h2, h3⟩ := look_some q l h
      rw [keysOf_ok q2 h1] at hp2
      exact ⟨p, w, rfl, by rw [← h2]; exact .t hp hp2, h3⟩
  · cases h
theorem s_ix2 {F : Fx} : OpS F (fun x y H Q => rIx F.K x y H Q ∨ rIxY x y H Q) gIx2 := by
  intro e S σ H v u x y o Q r rx ry hg k
  have key : ∀ (ds : List D) (i : Int), True := fun _ _ => trivial
  unfold gIx2 at hg
  split at hg
  · exact .inl (s_ix e S σ H v u _ _ o Q r rx ry hg k)
  · exact .inl (s_ix e S σ H v u _ _ o Q r rx ry hg k)
  · exact .inl (s_ix e S σ H v u _ _ o Q r rx ry hg k)
  · exact .inl (s_ix e S σ H v u _ _ o Q r rx ry hg k)
  · simp only [Option.map_eq_some_iff] at hg
    obtain ⟨d, h1, rfl⟩ := hg
    obtain ⟨a, w, rfl, g, rw'⟩ := dget_ok rx ry h1
    exact .inr ⟨a, w, rfl, g, k _ H S r (.refl _ _ _ _) rw'⟩
  · simp only [Option.map_eq_some_iff] at hg
    obtain ⟨d, h1, rfl⟩ := hg
    obtain ⟨a, w, rfl, g, rw'⟩ := dget_ok rx ry h1
    exact .inr ⟨a, w, rfl, g, k _ H S r (.refl _ _ _ _) rw'⟩
  · cases hg
section
variable {X : Cx} {F : Fx} {a b c ex : Expr} {ma mb mc m mi : M Od} {pos p : Pos} {ms : M (List Od)} {k : Nat} {tg : Expr}
theorem de_ix2 (hK : F.K = X.K) (hr : Room k X.A) (ha : PE X a (tE F ma)) (hb : PE X b (tE F mb)) (hs : PlainIx b := by exact fun _ _ => rfl) : PE X (.Subscript a b pos) (tE F (bin2 gIx2 ma mb)) :=
  pe_weak (pe_ix (ix_seq.or (ix_dict (by have := hr.units; omega))) ha hb hs) fun σ H Q q => by rw [← hK]; exact tE_bin s_ix2 σ H Q q

def newK : M Od := fun e => .ok (.f (.dk [] [])) e
def newT : M Od := fun e => .ok (.f (.dt [] [])) e
theorem de_newK : PE X (.Dict [] [] pos) (tE F newK) :=
  pe_weak pe_dnewK fun σ H Q ⟨e, S, r, q⟩ p hp => q _ _ S (r.new hp) (.alloc hp) ⟨p, rfl, r.nS hp, r.h0 hp, hp, r.nHeld hp, [], upd_same, rfl, .nil⟩
theorem de_newT : PE X (.Dict [] [] pos) (tE F newT) :=
  pe_weak pe_dnewT fun σ H Q ⟨e, S, r, q⟩ p hp => q _ _ S (r.new hp) (.alloc hp) ⟨p, rfl, r.nS hp, r.h0 hp, hp, r.nHeld hp, [], upd_same, rfl, .nil⟩

def rangeS (lo c : Int) (n : Nat) : List D := (List.range n).map fun i => .int (lo + (i : Nat) * c)
theorem yld_rangeS {S : Addr → Prop} {H : Hp} (lo c : Int) (n : Nat) (hz : n ≤ 16777216) : Yld F S H (Itc lo c n) (rangeS lo c n) := by
  refine ⟨fun S1 H1 i d k h => ?_, fun S1 H1 k => ?_, by simpa [rangeS] using hz⟩
  · unfold rangeS at h
    rw [List.getElem?_map] at h
    by_cases hi : i < n
    · rw [List.getElem?_range hi] at h
      cases h
      refine ⟨hi, fun x H' ⟨e, y⟩ => ⟨.inl e, ?_⟩⟩
      subst e y
      exact .int _
    · rw [List.getElem?_eq_none (by simpa using Nat.le_of_not_lt hi)] at h; cases h
  · show n ≤ _
    simp [rangeS]
def itR3 (ms : M (List Od)) : M (List D) := bnd ms fun os e => match resS os e with
  | some [.int i, .int j, .int (-1)] => if mid i && mid j then .ok (rangeS i (-1) (i - j).toNat) e else .bad
  | _ => .bad
theorem di_r3 {a b c : Expr} (hg : Gl X "range") (hm : X.mg "range" = none) (ha : PA X [a, b, c] (tA F ms)) (hs : starEach [a, b, c] X.env = (false, eval a X.env) :: starEach [b, c] X.env := by rfl) (hpl : (backTo pos (starEach [b, c] X.env)).any (·.1) = false := by rfl) :
    PI X tg (.Call (.Name "range" p) [a, b, c] [] pos) (tI F (itR3 ms)) := by
  refine pi_weak (pi_range3 hg hm ha hs hpl) fun σ H Q ⟨e, S, r, q⟩ => ⟨e, S, r, ?_⟩
  simp only [itR3, bnd] at q
  cases h : ms e with
  | bad => rw [h] at q; exact q
  | err x => rw [h] at q; exact q
  | ok os e1 =>
    simp only [h] at q
    refine fun vs H1 S1 r1 t1 k1 => ?_
    split at q
    · rename_i ds e2 hm
      split at hm
      · rename_i i j hr
        split at hm
        · rename_i hj; cases hm
          have rs := resS_ok r1 k1 hr
          cases rs with
          | cons rx rs =>
            obtain ⟨v, u, rfl, ry, rz⟩ := RepTs.two rs
            cases rx.int; cases ry.int; cases rz.int
            rw [Bool.and_eq_true] at hj
            obtain ⟨h1, h2, h5, h6⟩ := mid_ok hj.1
            obtain ⟨h3, h4, h7, h8⟩ := mid_ok hj.2
            exact ⟨i, j, -1, _, rfl, RgC.neg h1 h2 h3 h4, q _ H1 S1 r1 t1 (yld_rangeS i (-1) _ (by omega))⟩
        · cases hm
      · cases hm
    · rename_i hm; split at hm
      · split at hm <;> cases hm
      · cases hm
    · exact q.elim
end

theorem PSet.or {X : Cx} {t t' : TSet} (h : PSet X t) (h' : PSet X t') : PSet X (fun o i v H Q => t o i v H Q ∨ t' o i v H Q) := by
  intro pins s σ H o i v ov iv u Q I ro ri rv q
  rcases q with q | q
  · exact h pins s σ H o i v ov iv u Q I ro ri rv q
  · exact h' pins s σ H o i v ov iv u Q I ro ri rv q
def putY (ks : List Key) (ds : List D) (y x : D) : Option D := (keyOf y).bind fun k => if ks.length < 16777216 then some (.dk (putZ ks ds k x).1 (putZ ks ds k x).2) else none
def putYT (ks : List (List Key)) (ds : List D) (y x : D) : Option D := match y with
  | .tup es => (keysOf es).bind fun k => if ks.length < 16777216 then some (.dt (putZ ks ds k x).1 (putZ ks ds k x).2) else none
  | _ => none
def stoT2 (i : Nat) (mi : M Od) : Od → MS := fun o e1 => match topAt i e1 with
  | some (.lst _) => stoT i mi o e1
  | some (.dk _ _) => (match mi e1 with
    | .ok oi e2 => (match leak1 o e2 with
      | some (x, e3) => (match topAt i e3, res oi e3 with
        | some (.dk ks ds), some y => (match putY ks ds y x with
          | some d => .nx (putTop i d e3)
          | none => .bad)
        | _, _ => .bad)
      | none => .bad)
    | .err x => .err x
    | .bad => .bad)
  | some (.dt _ _) => (match mi e1 with
    | .ok oi e2 => (match leak1 o e2 with
      | some (x, e3) => (match topAt i e3, res oi e3 with
        | some (.dt ks ds), some y => (match putYT ks ds y x with
          | some d => .nx (putTop i d e3)
          | none => .bad)
        | _, _ => .bad)
      | none => .bad)
    | .err x => .err x
    | .bad => .bad)
  | _ => .bad
def stoL2 (i : Nat) (mi m : M Od) : MS := bndS m fun o => stoT2 i mi o
def rSetY : TSet := fun o i v H Q => rSetL o i v H Q ∨ rSetD o i v H Q
section
variable {F : Fx} {m mi : M Od} {i : Nat}
theorem key_of' {o : Od} {u : V} {y : D} {k : Key} {e e1 : Env} {S S1 : Addr → Prop} {σ : St} {H Hs : Hp} (c : OdOk F Hs e S σ H u o) (r1 : R F e1 S1 σ H) (h : res o e1 = some y) (hk : keyOf y = some k) : u = kV k := by
  cases o with
  | d z => cases h; exact keyOf_ok (K := F.K) (S := S) (H := H) (.inl c) hk
  | f z =>
    cases h
    obtain ⟨p, _, _, _, _, _, t⟩ := c
    cases y <;> first | exact t.elim | cases hk
  | s j => exact keyOf_ok (res_ok (Hs := H) (v := u) (o := .s j) r1 c h) hk
theorem tup_of' {o : Od} {u : V} {es : List D} {k : List Key} {e e1 : Env} {S S1 : Addr → Prop} {σ : St} {H Hs : Hp} (c : OdOk F Hs e S σ H u o) (r1 : R F e1 S1 σ H) (h : res o e1 = some (.tup es)) (hk : keysOf es = some k) : ∃ b, u = .ref b ∧ H b = some (.tup (k.map kV)) := by
  have main : ∀ S', RepT F.K S' H u (.tup es) → ∃ b, u = .ref b ∧ H b = some (.tup (k.map kV)) := fun S' rt => by
    obtain ⟨b, xs, rfl, hb, q⟩ := rt.tup
    rw [keysOf_ok q hk] at hb
    exact ⟨b, rfl, hb⟩
  cases o with
  | d z => cases h; exact main S (.inl c)
  | f z => cases h; obtain ⟨p, _, _, _, _, _, t⟩ := c; exact t.elim
  | s j => exact main S1 (res_ok (Hs := H) (v := u) (o := .s j) r1 c h)
theorem stoT2_ok {o : Od} {v : V} {e : Env} {S : Addr → Prop} {σ : St} {H Hs : Hp} {Q : St → Hp → Prop} (r : R F e S σ H) (k : OdOk F Hs e S σ H v o)
    (q : match stoT2 i mi o e with
      | .nx e1 => ∀ H1 S1, R F e1 S1 σ H1 → Kp S H S1 H1 → Q σ H1
      | .err x => Acc F x
      | _ => False) : L2.gSub (tVar i) (tE F mi) rSetY v σ H Q := by
  unfold stoT2 at q
  cases h0 : topAt i e with
  | none => rw [h0] at q; exact q.elim
  | some d0 =>
    cases d0 with
    | lst ds0 =>
      simp only [h0] at q
      have := stoT_ok (mi := mi) r k q
      obtain ⟨w, hw, e', S', r', q'⟩ := this
      refine ⟨w, hw, e', S', r', ?_⟩
      cases h1 : mi e' with
      | bad => rw [h1] at q'; exact q'
      | err x => rw [h1] at q'; exact q'
      | ok oi e2 =>
        simp only [h1] at q' ⊢
        exact fun u H1 S1 r1 t1 k1 => .inl (q' u H1 S1 r1 t1 k1)
    | dk ks0 ds0 =>
      simp only [h0] at q
      obtain ⟨p, hp, ns, hh, hm, xs0, hp0, _⟩ := topAt_ok r h0
      refine ⟨_, hp, e, S, r, ?_⟩
      cases h1 : mi e with
      | bad => rw [h1] at q; exact q
      | err x => rw [h1] at q; exact q
      | ok oi e2 =>
        simp only [h1] at q
        refine fun u H1 S1 r1 t1 k1 => ?_
        cases hl : leak1 o e2 with
        | none => rw [hl] at q; exact q.elim
        | some pr =>
          obtain ⟨x, e3⟩ := pr
          simp only [hl] at q
          obtain ⟨S2, r2, kk, kx⟩ := leakK r1 (k.keep r t1) hl
          cases h2 : topAt i e3 with
          | none => rw [h2] at q; exact q.elim
          | some d2 =>
            cases d2 with
            | dk ks ds =>
              cases h3 : res oi e3 with
              | none => rw [h2, h3] at q; exact q.elim
              | some y =>
                simp only [h2, h3] at q
                obtain ⟨p', hp', ns', hh', hm', tp⟩ := topAt_ok r2 h2
                rw [hp] at hp'; cases hp'
                obtain ⟨xs, hxs, lx, qx⟩ := id tp
                unfold putY at q
                cases h4 : keyOf y with
                | none => rw [h4] at q; exact q.elim
                | some ky =>
                  rw [h4] at q
                  simp only [Option.bind_some] at q
                  by_cases hz : ks.length < 16777216
                  · rw [if_pos hz] at q
                    cases key_of' k1 r2 h3 h4
                    have ni := tp.ni
                    obtain ⟨ys, e1', l1', q1'⟩ := put_rep (j := ky) kx qx lx
                    have tp' : Top F.K S2 (upd H1 p (.dK (putK (ks.zip xs) ky v))) p (.dk (putZ ks ds ky x).1 (putZ ks ds ky x).2) := ⟨ys, by rw [upd_same, e1'], l1', top_upd ns' ni q1'⟩
                    obtain ⟨r3, t3⟩ := mut_ok r2 h2 hp tp'
                    exact .inr ⟨p, _, rfl, .k hxs (by rw [List.length_zip, ← lx, Nat.min_self, line_eq]; exact hz), q _ S2 r3 (((r.kp t1).trans kk).trans (r2.kp t3))⟩
                  · rw [if_neg hz] at q; exact q.elim
            | _ => rw [h2] at q; exact q.elim
    | dt ks0 ds0 =>
      simp only [h0] at q
      obtain ⟨p, hp, ns, hh, hm, xs0, hp0, _⟩ := topAt_ok r h0
      refine ⟨_, hp, e, S, r, ?_⟩
      cases h1 : mi e with
      | bad => rw [h1] at q; exact q
      | err x => rw [h1] at q; exact q
      | ok oi e2 =>
        simp only [h1] at q
        refine fun u H1 S1 r1 t1 k1 => ?_
        cases hl : leak1 o e2 with
        | none => rw [hl] at q; exact q.elim
        | some pr =>
          obtain ⟨x, e3⟩ := pr
          simp only [hl] at q
          obtain ⟨S2, r2, kk, kx⟩ := leakK r1 (k.keep r t1) hl
          cases h2 : topAt i e3 with
          | none => rw [h2] at q; exact q.elim
          | some d2 =>
            cases d2 with
            | dt ks ds =>
              cases h3 : res oi e3 with
              | none => rw [h2, h3] at q; exact q.elim
              | some y =>
                simp only [h2, h3] at q
                obtain ⟨p', hp', ns', hh', hm', tp⟩ := topAt_ok r2 h2
                rw [hp] at hp'; cases hp'
                obtain ⟨xs, hxs, lx, qx⟩ := id tp
                cases y with
                | tup es =>
                  simp only [putYT] at q
                  cases h4 : keysOf es with
                  | none => rw [h4] at q; exact q.elim
                  | some ky =>
                    rw [h4] at q
                    simp only [Option.bind_some] at q
                    by_cases hz : ks.length < 16777216
                    · rw [if_pos hz] at q
                      obtain ⟨b, rfl, hb⟩ := tup_of' k1 r2 h3 h4
                      have ni := tp.ni
                      obtain ⟨ys, e1', l1', q1'⟩ := put_rep (j := ky) kx qx lx
                      have tp' : Top F.K S2 (upd H1 p (.dT (putK (ks.zip xs) ky v))) p (.dt (putZ ks ds ky x).1 (putZ ks ds ky x).2) := ⟨ys, by rw [upd_same, e1'], l1', top_upd ns' ni q1'⟩
                      obtain ⟨r3, t3⟩ := mut_ok r2 h2 hp tp'
                      exact .inr ⟨p, _, rfl, .t hxs hb (by rw [List.length_zip, ← lx, Nat.min_self, line_eq]; exact hz), q _ S2 r3 (((r.kp t1).trans kk).trans (r2.kp t3))⟩
                    · rw [if_neg hz] at q; exact q.elim
                | _ => exact q.elim
            | _ => rw [h2] at q; exact q.elim
    | _ => rw [h0] at q; exact q.elim
theorem stoT2_out {o : Od} {e : Env} : (∃ e1, stoT2 i mi o e = .nx e1) ∨ (∃ x, stoT2 i mi o e = .err x) ∨ stoT2 i mi o e = .bad := by
  unfold stoT2
  split
  · exact stoT_out
  · repeat' split
    all_goals first | exact .inl ⟨_, rfl⟩ | exact .inr (.inl ⟨_, rfl⟩) | exact .inr (.inr rfl)
  · repeat' split
    all_goals first | exact .inl ⟨_, rfl⟩ | exact .inr (.inl ⟨_, rfl⟩) | exact .inr (.inr rfl)
  · exact .inr (.inr rfl)
theorem tS_stoL2 {D : Ends} {σ : St} {H : Hp} (q : tS F (stoL2 i mi m) D σ H) : tAsg (tE F m) (L2.gSub (tVar i) (tE F mi) rSetY) D σ H := by
  obtain ⟨e, S, r, q⟩ := q
  refine ⟨e, S, r, ?_⟩
  simp only [stoL2, bndS] at q
  cases h1 : m e with
  | bad => rw [h1] at q; exact q
  | err x => rw [h1] at q; exact q
  | ok o e1 =>
    simp only [h1] at q
    refine fun v H1 S1 r1 t1 k1 => stoT2_ok r1 k1 ?_
    rcases stoT2_out (i := i) (mi := mi) (o := o) (e := e1) with ⟨e2, h2⟩ | ⟨x, h2⟩ | h2 <;> rw [h2] at q ⊢
    · exact fun H2 S2 r2 k2 => q σ H2 S2 r2 ((r.kp t1).trans k2)
    · exact q
    · exact q
end
section
variable {X : Cx} {F : Fx} {m mi : M Od} {i k : Nat} {ms : M (List Od)}
theorem ds_stoL2 {b ex : Expr} {pos pos' : Pos} {xn : Str} {p : Pos} (hr : Room k X.A) (hi : X.N[i]? = some xn) (hv : Vis X.env.scope xn) (hb : PE X b (tE F mi)) (he : PE X ex (tE F m)) (hs : swapsWithSole [.Subscript (.Name xn p) b pos'] ex pos.line X.env = pure false := by rfl) (hw : swappedStores [.Subscript (.Name xn p) b pos'] ex X.env = pure none := by rfl)
    (h1 : (assignEach [.Subscript (.Name xn p) b pos'] X.env).map (·.2) = [assign (.Subscript (.Name xn p) b pos') X.env] := by rfl) (hd : (xn == ("__debug__" : Str)) = false := by decide) (hcd : (xn == ("__classdict__" : Str)) = false := by decide)
    (ha : ∀ v, assign (.Subscript (.Name xn p) b pos') X.env v = (do
      let ov ← holding [v] (eval (.Name xn p) X.env)
      let iv ← holding [v, ov] (eval b X.env)
      standAt pos'
      holding [v, ov, iv] (setItem ov iv v)
      release [v, ov, iv] []) := by intro _; rfl) :
    PS X (.Assign [.Subscript (.Name xn p) b pos'] ex pos) (tS F (stoL2 i mi m)) :=
  ps_weak (ps_asg he (pg_sub (pe_var hi hv hd hcd) hb (DL.PSet.or set_list (set_dict (by have := hr.units; omega))) ha) hs hw h1) fun D σ H q => tS_stoL2 q

def pairsOf : List D → Option (List (Key × D))
  | [] => some []
  | .tup [y, x] :: ds => match keyOf y, pairsOf ds with
    | some k, some r => some ((k, x) :: r)
    | _, _ => none
  | _ :: _ => none
def mergeZ (ks : List Key) (ds : List D) : List (Key × D) → List Key × List D
  | [] => (ks, ds)
  | (k, x) :: r => mergeZ (putZ ks ds k x).1 (putZ ks ds k x).2 r
def gDictP : List D → Option Od
  | [.lst ds] => (pairsOf ds).map fun r => .f (.dk (mergeZ [] [] r).1 (mergeZ [] [] r).2)
  | _ => none
section
variable {K : PySem.W.Frag} {S : Addr → Prop} {H : Hp}
theorem pairs_ok : ∀ {xs : List V} {ds : List D} {r : List (Key × D)}, Reps K S H xs ds → pairsOf ds = some r →
    ∃ (ps : List Addr) (kvs : List (Key × V)), xs = ps.map V.ref ∧ Paired (fun p kv => SqT K H p [kV kv.1, kv.2]) ps kvs ∧ kvs.map (·.1) = r.map (·.1) ∧ Reps K S H (kvs.map (·.2)) (r.map (·.2))
  | _, [], _, .nil, h => by cases h; exact ⟨[], [], rfl, .nil, rfl, .nil⟩
  | _, d :: ds, r, .cons rd t, h => by
    unfold pairsOf at h
    split at h
    · rename_i h'; cases h'
    · rename_i y x ds' heq
      cases heq
      cases h1 : keyOf y with
      | none => rw [h1] at h; cases h
      | some k =>
        cases h2 : pairsOf ds with
        | none => rw [h1, h2] at h; cases h
        | some r' =>
          rw [h1, h2] at h; cases h
          obtain ⟨ps, kvs, e1, e2, e3, e4⟩ := pairs_ok t h2
          cases rd with
          | tup hp q =>
            cases q with
            | cons r1 q =>
              cases q with
              | cons r2 q =>
                cases q
                rename_i p v1 v2
                have hv := keyOf_ok (.inl r1) h1
                subst hv
                exact ⟨p :: ps, (k, v2) :: kvs, by rw [e1]; rfl, .cons (SqT.of hp) e2, by rw [List.map_cons, e3]; rfl, .cons r2 e4⟩
    · cases h
theorem merge_rep : ∀ {kvs : List (Key × V)} {r : List (Key × D)} {ks : List Key} {xs : List V} {ds : List D}, kvs.map (·.1) = r.map (·.1) → Reps K S H (kvs.map (·.2)) (r.map (·.2)) → Reps K S H xs ds → ks.length = xs.length →
    ∃ ys, mergeK (ks.zip xs) kvs = (mergeZ ks ds r).1.zip ys ∧ (mergeZ ks ds r).1.length = ys.length ∧ Reps K S H ys (mergeZ ks ds r).2
  | [], [], ks, xs, ds, _, _, q, l => ⟨xs, rfl, l, q⟩
  | [], _ :: _, _, _, _, h, _, _, _ => by simp at h
  | _ :: _, [], _, _, _, h, _, _, _ => by simp at h
  | (k, v) :: kvs, (k', x) :: r, ks, xs, ds, h, hv, q, l => by
    simp only [List.map_cons, List.cons.injEq] at h hv
    obtain ⟨e, h⟩ := h
    have e : k = k' := e
    subst e
    cases hv with
    | cons rx hv =>
      obtain ⟨ys, e1, l1, q1⟩ := put_rep (j := k) rx q l
      obtain ⟨zs, e2, l2, q2⟩ := merge_rep (ks := (putZ ks ds k x).1) h hv q1 l1
      refine ⟨zs, ?_, l2, q2⟩
      show mergeK (putK (ks.zip xs) k v) kvs = _
      rw [e1]
      exact e2
end
theorem c_dictP {F : Fx} : CallS F (fun xs H Q => ∃ (a : Addr) (ps : List Addr) (kvs : List (Key × V)), xs = [.ref a] ∧ SqL F.K H a (ps.map V.ref) ∧ Paired (fun p kv => SqT F.K H p [kV kv.1, kv.2]) ps kvs ∧
    ∀ p, H p = none → Q (.ref p) (upd H p (.dK (mergeK [] kvs)))) gDictP := by
  intro e S σ H vs xs o Q r rs hg k
  unfold gDictP at hg
  split at hg
  · rename_i ds
    simp only [Option.map_eq_some_iff] at hg
    obtain ⟨kr, h1, rfl⟩ := hg
    obtain ⟨v, rfl, rx⟩ := rs.one
    obtain ⟨a, ys, rfl, hp, q⟩ := rx.lst
    obtain ⟨ps, kvs, rfl, e2, e3, e4⟩ := pairs_ok q h1
    obtain ⟨zs, e5, l5, q5⟩ := merge_rep (ks := []) (xs := []) (ds := []) e3 e4 .nil rfl
    refine ⟨a, ps, kvs, rfl, SqL.of hp, e2, fun p hpn => k _ _ S (r.new hpn) (.alloc hpn) ⟨p, rfl, r.nS hpn, r.h0 hpn, hpn, r.nHeld hpn, zs, ?_, l5, q5.kp (kp_new hpn)⟩⟩
    rw [upd_same]
    have e5' : mergeK [] kvs = _ := e5
    rw [e5']
  · cases hg
theorem de_dict {a : Expr} {p pos : Pos} (hK : F.K = X.K) (hc : X.calm = true) (hg : Gl X "dict") (hm : X.mg "dict" = none) (ha : PA X [a] (tA F ms)) (he : starEach [a] X.env = (false, eval a X.env) :: starEach [] X.env := by rfl) (hpl : (backTo pos (starEach [] X.env)).any (·.1) = false := by rfl) :
    PE X (.Call (.Name "dict" p) [a] [] pos) (tE F (callB gDictP ms)) :=
  de_callTy (by rw [hK]; exact call_dictP hc) c_dictP hg hm (by decide +kernel) ha (by decide) (by decide) he hpl
end
end DL

set_option maxRecDepth 100000
set_option maxHeartbeats 4000000
namespace DL
open PySem PySem.Spec L2
open PyProof.Rows hiding St
def noFz (e : Env) : Bool := e.all fun s => match s with
  | .fz _ => false
  | _ => true
theorem noFz_at {e : Env} (h : noFz e = true) {i : Nat} {d : D} : e[i]? ≠ some (.fz d) := fun z => by
  have := List.all_eq_true.mp h _ (List.mem_of_getElem? z)
  cases this
def lockM (i : Nat) (m : M Od) : M Od := fun e => match e[i]? with
  | some (.own d) => if noFz e then (match m (e.set i (.fz d)) with
    | .ok o e1 => (match e1[i]?, o with
      | some (.fz _), .s _ => .bad
      | some (.fz d1), o => if noFz (e1.set i .no) then .ok o (e1.set i (.own d1)) else .bad
      | _, _ => .bad)
    | _ => .bad) else .bad
  | _ => .bad
section
variable {K : PySem.W.Frag} {S : Addr → Prop} {H : Hp} {p : Addr} {od : Obj} {u : HO}
mutual
theorem Rep.unf (hp : H p = some (.frz od u)) (hu : ∀ zs, u ≠ .lst zs) : ∀ {v : V} {d : D}, Rep K S H v d → Rep K S (upd H p u) v d
  | _, _, .non => .non
  | _, _, .bl b => .bl b
  | _, _, .int i => .int i
  | _, _, .str x => .str x
  | _, _, .tup h r => .tup (by rw [upd_ne (ne_of h hp (fun z => by cases z))]; exact h) (Reps.unf hp hu r)
  | _, _, .kt h r => .kt h (Reps.unf hp hu r)
  | _, _, .lst h s r => .lst (by rw [upd_ne (ne_of h hp (fun z => by cases z))]; exact h) s (Reps.unf hp hu r)
  | _, _, .dk h l s r => .dk (by rw [upd_ne (ne_of h hp (fun z => by cases z))]; exact h) l s (Reps.unf hp hu r)
  | _, _, .dt h l s r => .dt (by rw [upd_ne (ne_of h hp (fun z => by cases z))]; exact h) l s (Reps.unf hp hu r)
  | _, _, .scr h => .scr (h.imp (fun ⟨o, h⟩ => ⟨o, by rw [upd_ne (ne_of h hp (fun z => by cases z; exact hu _ rfl))]; exact h⟩) id)
theorem Reps.unf (hp : H p = some (.frz od u)) (hu : ∀ zs, u ≠ .lst zs) : ∀ {vs : List V} {ds : List D}, Reps K S H vs ds → Reps K S (upd H p u) vs ds
  | _, _, .nil => .nil
  | _, _, .cons r t => .cons (Rep.unf hp hu r) (Reps.unf hp hu t)
end
theorem Top.unf {q : Addr} {d : D} (hp : H p = some (.frz od u)) (hu : ∀ zs, u ≠ .lst zs) (t : Top K S H q d) : Top K S (upd H p u) q d := by
  cases d with
  | lst ds => obtain ⟨xs, h, r⟩ := t; exact ⟨xs, by rw [upd_ne (ne_of h hp (fun z => by cases z))]; exact h, r.unf hp hu⟩
  | dk ks ds => obtain ⟨xs, h, l, r⟩ := t; exact ⟨xs, by rw [upd_ne (ne_of h hp (fun z => by cases z))]; exact h, l, r.unf hp hu⟩
  | dt ks ds => obtain ⟨xs, h, l, r⟩ := t; exact ⟨xs, by rw [upd_ne (ne_of h hp (fun z => by cases z))]; exact h, l, r.unf hp hu⟩
  | _ => exact t.elim
theorem Frz.top {d : D} (hp : H p = some (.frz od u)) (hu : ∀ zs, u ≠ .lst zs) (t : Frz K S H p d) : Top K S (upd H p u) p d := by
  cases d with
  | dk ks ds => obtain ⟨ob, xs, h, l, r⟩ := t; rw [hp] at h; cases h; exact ⟨xs, upd_same, l, r.unf hp hu⟩
  | dt ks ds => obtain ⟨ob, xs, h, l, r⟩ := t; rw [hp] at h; cases h; exact ⟨xs, upd_same, l, r.unf hp hu⟩
  | _ => exact t.elim
end
def DictO (u : HO) : Prop := (∃ kvs, u = .dK kvs) ∨ ∃ kvs, u = .dT kvs
theorem DictO.nl {u : HO} (h : DictO u) : ∀ zs, u ≠ .lst zs := by rintro zs rfl; rcases h with ⟨_, h⟩ | ⟨_, h⟩ <;> cases h
section
variable {F : Fx} {e e1 : Env} {S S1 : Addr → Prop} {σ : St} {H H1 : Hp} {i : Nat} {p : Addr} {d : D} {od : Obj} {u : HO}
theorem set_at {e : Env} {i j : Nat} {s t : Sl} (hi : i < e.length) (h : (e.set i s)[j]? = some t) : (j = i ∧ t = s) ∨ (j ≠ i ∧ e[j]? = some t) := by
  by_cases z : j = i
  · subst z
    rw [List.getElem?_set_self (by simpa using hi)] at h
    exact .inl ⟨rfl, (Option.some.inj h).symm⟩
  · rw [List.getElem?_set_ne (fun z' => z z'.symm)] at h
    exact .inr ⟨z, h⟩
theorem lock_held (r : R F e S σ H) (he : e[i]? = some (.own d)) (hσ : σ[i]? = some (some (.ref p))) {q : Addr} (h : Held (e.set i (.fz d)) σ q) : Held e σ q ∧ q ≠ p := by
  obtain ⟨j, s, h1, hm, h2⟩ := h
  have hi : i < e.length := (List.getElem?_eq_some_iff.mp he).1
  rcases set_at hi h1 with ⟨rfl, rfl⟩ | ⟨nj, h1⟩
  · exact hm.elim
  · refine ⟨⟨j, s, h1, hm, h2⟩, ?_⟩
    rintro rfl
    exact nj (r.dis j i s _ q h1 he hm trivial h2 hσ)
theorem lock_R (r : R F e S σ H) (he : e[i]? = some (.own d)) (hσ : σ[i]? = some (some (.ref p))) (hp : H p = some u) (hu : DictO u) (fz : Frz F.K S (upd H p (.frz od u)) p d) (ns : ¬ S p) (h0 : F.H0 p = none) :
    R F (e.set i (.fz d)) S σ (upd H p (.frz od u)) := by
  have hi : i < e.length := (List.getElem?_eq_some_iff.mp he).1
  have kp : Kp S H S (upd H p (.frz od u)) := kp_chg ns fun w hw => by
    rw [hp] at hw; cases hw
    rcases hu with ⟨_, rfl⟩ | ⟨_, rfl⟩ <;> rintro (⟨_, z⟩ | ⟨_, _, z⟩) <;> cases z
  refine ⟨by rw [List.length_set]; exact r.len, fun b o hb hn => ?_, r.s0, r.s1, fun q hq => ?_, fun q hq => ?_, fun j s o h1 h2 => ?_, fun j l s t q h1 h2 m1 m2 h3 h4 => ?_, fun j dd h => ?_⟩
  · have h := r.base b o hb hn
    rw [upd_ne]
    · exact h
    · rintro rfl; rw [h0] at hb; cases hb
  · by_cases z : q = p
    · rw [z, upd_same]; exact fun z => nomatch z
    · rw [upd_ne z]; exact r.s2 q hq
  · by_cases z : q = p
    · rw [z, upd_same]; exact fun z => nomatch z
    · rw [upd_ne z]; exact r.there q hq
  · rcases set_at hi h1 with ⟨rfl, rfl⟩ | ⟨nj, h1⟩
    · rw [hσ] at h2; cases h2
      exact ⟨p, rfl, fz⟩
    · refine (r.sl j s o h1 h2).kp kp fun q m z => ?_
      subst z
      have hh : Held e σ q := ⟨j, s, h1, m, h2⟩
      refine ⟨upd_ne ?_, (r.heldOk hh).1⟩
      rintro rfl
      exact nj (r.dis j i s _ q h1 he m trivial h2 hσ)
  · rcases set_at hi h1 with ⟨rfl, rfl⟩ | ⟨nj, h1⟩
    · exact m1.elim
    · rcases set_at hi h2 with ⟨rfl, rfl⟩ | ⟨nl, h2⟩
      · exact m2.elim
      · exact r.dis j l s t q h1 h2 m1 m2 h3 h4
  · rcases set_at hi h with ⟨rfl, z⟩ | ⟨nj, h⟩
    · cases z
    · exact r.fix j dd h
theorem unlock_R (r : R F e1 S1 σ H1) (he : e1[i]? = some (.fz d)) (hσ : σ[i]? = some (some (.ref p))) (hp : H1 p = some (.frz od u)) (hu : DictO u) (ns : ¬ S1 p) (h0 : F.H0 p = none) (nh : ¬ Held e1 σ p) (nf : noFz (e1.set i .no) = true) :
    R F (e1.set i (.own d)) S1 σ (upd H1 p u) := by
  have hi : i < e1.length := (List.getElem?_eq_some_iff.mp he).1
  have fz : Frz F.K S1 H1 p d := by
    obtain ⟨p', e, f⟩ := r.sl i _ _ he hσ
    cases e; exact f
  refine ⟨by rw [List.length_set]; exact r.len, fun b o hb hn => ?_, r.s0, r.s1, fun q hq => ?_, fun q hq => ?_, fun j s o h1 h2 => ?_, fun j l s t q h1 h2 m1 m2 h3 h4 => ?_, fun j dd h => ?_⟩
  · have h := r.base b o hb hn
    rw [upd_ne]
    · exact h
    · rintro rfl; rw [h0] at hb; cases hb
  · by_cases z : q = p
    · rw [z, upd_same]; exact fun z => nomatch z
    · rw [upd_ne z]; exact r.s2 q hq
  · by_cases z : q = p
    · rw [z, upd_same]; exact fun z => nomatch z
    · rw [upd_ne z]; exact r.there q hq
  · rcases set_at hi h1 with ⟨rfl, rfl⟩ | ⟨nj, h1⟩
    · rw [hσ] at h2; cases h2
      exact ⟨p, rfl, ns, h0, fz.top hp hu.nl⟩
    · have q := r.sl j s o h1 h2
      cases s with
      | no => trivial
      | val dd => obtain ⟨v, e, rr⟩ := q; exact ⟨v, e, rr.unf hp hu.nl⟩
      | own dd => obtain ⟨p', e, ns', h0', t⟩ := q; exact ⟨p', e, ns', h0', t.unf hp hu.nl⟩
      | iow dd => obtain ⟨p', e, ns', h0', t⟩ := q; exact ⟨p', e, ns', h0', t.unf hp hu.nl⟩
      | fz dd => exact absurd (show (e1.set i .no)[j]? = some (.fz dd) by rw [List.getElem?_set_ne (fun z => nj z.symm)]; exact h1) (noFz_at nf)
  · rcases set_at hi h1 with ⟨rfl, rfl⟩ | ⟨nj, g1⟩
    · rcases set_at hi h2 with ⟨rfl, rfl⟩ | ⟨nl, h2⟩
      · rfl
      · rw [hσ] at h3; cases h3
        exact absurd ⟨l, t, h2, m2, h4⟩ nh
    · rcases set_at hi h2 with ⟨rfl, rfl⟩ | ⟨nl, h2⟩
      · rw [hσ] at h4; cases h4
        exact absurd ⟨j, s, g1, m1, h3⟩ nh
      · exact r.dis j l s t q g1 h2 m1 m2 h3 h4
  · rcases set_at hi h with ⟨rfl, z⟩ | ⟨nj, h⟩
    · cases z
    · exact r.fix j dd h
theorem Top.dict {K : PySem.W.Frag} {S : Addr → Prop} {H : Hp} {p : Addr} {d : D} (t : Top K S H p d) (hd : ∀ ds, d ≠ .lst ds) : ∃ u, H p = some u ∧ DictO u ∧ ∀ od, (¬ S p) → Frz K S (upd H p (.frz od u)) p d := by
  cases d with
  | lst ds => exact absurd rfl (hd ds)
  | dk ks ds =>
    obtain ⟨xs, h, l, q⟩ := t
    refine ⟨_, h, .inl ⟨_, rfl⟩, fun od ns => ⟨od, xs, upd_same, l, q.kp (kp_chg ns fun w hw => ?_)⟩⟩
    rw [h] at hw; cases hw
    rintro (⟨_, z⟩ | ⟨_, _, z⟩) <;> cases z
  | dt ks ds =>
    obtain ⟨xs, h, l, q⟩ := t
    refine ⟨_, h, .inr ⟨_, rfl⟩, fun od ns => ⟨od, xs, upd_same, l, q.kp (kp_chg ns fun w hw => ?_)⟩⟩
    rw [h] at hw; cases hw
    rintro (⟨_, z⟩ | ⟨_, _, z⟩) <;> cases z
  | _ => exact t.elim
end
section
variable {X : Cx} {F : Fx} {m : M Od} {ex : Expr} {i : Nat}
def notLst : D → Bool
  | .lst _ => false
  | _ => true
def lockD (i : Nat) (m : M Od) : M Od := fun e => match e[i]? with
  | some (.own d) => if notLst d then lockM i m e else .bad
  | _ => .bad
theorem de_lock (h : PE X ex (tE F m)) : PE X ex (tE F (lockD i m)) := by
  refine pe_weak (pe_lock h) fun σ H Q ⟨e, S, r, q⟩ => ?_
  unfold lockD at q
  cases he : e[i]? with
  | none => rw [he] at q; exact q.elim
  | some sl =>
    cases sl with
    | own d =>
      simp only [he] at q
      cases hd : notLst d with
      | false => rw [hd] at q; exact q.elim
      | true =>
        rw [hd, if_pos rfl] at q
        unfold lockM at q
        simp only [he] at q
        cases hf : noFz e with
        | false => rw [hf] at q; exact q.elim
        | true =>
          rw [hf, if_pos rfl] at q
          obtain ⟨o0, hσ, p, e0, ns, h0, tp⟩ := r.at he
          subst e0
          obtain ⟨u, hp, hu, fz⟩ := tp.dict fun ds z => by subst z; cases hd
          have mu : Mut (some u) := by rcases hu with ⟨_, rfl⟩ | ⟨_, rfl⟩ <;> trivial
          refine ⟨p, u, hp, mu, fun od => ?_⟩
          have hi : i < e.length := (List.getElem?_eq_some_iff.mp he).1
          have rL := lock_R (od := od) r he hσ hp hu (fz od ns) ns h0
          refine ⟨_, S, rL, ?_⟩
          cases hm : m (e.set i (.fz d)) with
          | bad => rw [hm] at q; exact q
          | err x => rw [hm] at q; exact q.elim
          | ok o e1 =>
            simp only [hm] at q
            refine fun v H1 S1 r1 t1 k1 => ?_
            have nhL : ¬ Held (e.set i (.fz d)) σ p := fun z => (lock_held r he hσ z).2 rfl
            have hp1 : H1 p = some (.frz od u) := t1.keep p _ upd_same nhL
            have nh1 : ¬ Held e1 σ p := fun z => nhL (t1.held p z)
            have ns1 : ¬ S1 p := fun z => by
              rcases t1.new p z with z | z | z
              · exact ns z
              · rw [upd_same] at z; cases z
              · exact nhL z
            refine ⟨hp1, ?_⟩
            cases he1 : e1[i]? with
            | none => rw [he1] at q; cases o <;> exact q.elim
            | some s1 =>
              cases s1 with
              | fz d1 =>
                have main : (noFz (e1.set i .no) = true) → (∀ v' H2 S2, R F (e1.set i (.own d1)) S2 σ H2 → Stp e S σ H (e1.set i (.own d1)) S2 H2 → OdOk F H (e1.set i (.own d1)) S2 σ H2 v' o → Q v' H2) → (∀ j, o ≠ .s j) → Q v (upd H1 p u) := by
                  intro nf q no
                  have r2 := unlock_R r1 he1 hσ hp1 hu ns1 h0 nh1 nf
                  have hi1 : i < e1.length := (List.getElem?_eq_some_iff.mp he1).1
                  refine q v _ S1 r2 ⟨t1.sub, fun a ⟨j, s, g1, gm, g2⟩ => ?_, fun a o' ha hn => ?_, fun a ha => ?_, fun a ha => ?_⟩ ?_
                  · rcases set_at hi1 g1 with ⟨rfl, rfl⟩ | ⟨nj, g1⟩
                    · exact ⟨j, _, he, trivial, by rw [hσ] at g2 ⊢; exact g2⟩
                    · exact (lock_held r he hσ (t1.held a ⟨j, s, g1, gm, g2⟩)).1
                  · have na : a ≠ p := by rintro rfl; exact hn ⟨i, _, he, trivial, hσ⟩
                    rw [upd_ne na]
                    exact t1.keep a o' (by rw [upd_ne na]; exact ha) fun z => hn (lock_held r he hσ z).1
                  · rcases t1.new a ha with z | z | z
                    · exact .inl z
                    · by_cases na : a = p
                      · subst na; rw [upd_same] at z; cases z
                      · rw [upd_ne na] at z; exact .inr (.inl z)
                    · exact .inr (.inr (lock_held r he hσ z).1)
                  · by_cases na : a = p
                    · subst na; rw [upd_same] at ha; cases ha
                    · rw [upd_ne na] at ha
                      have := t1.mono a ha
                      rw [upd_ne na] at this; exact this
                  · cases o with
                    | d x => exact Rep.unf hp1 hu.nl k1
                    | s j => exact absurd rfl (no j)
                    | f x =>
                      obtain ⟨p', ev, a1, a2, a3, a4, a5⟩ := k1
                      have na : p' ≠ p := by rintro rfl; rw [upd_same] at a3; cases a3
                      rw [upd_ne na] at a3
                      refine ⟨p', ev, a1, a2, a3, fun ⟨j, s, g1, gm, g2⟩ => ?_, a5.unf hp1 hu.nl⟩
                      rcases set_at hi1 g1 with ⟨rfl, rfl⟩ | ⟨nj, g1⟩
                      · rw [hσ] at g2; cases g2; exact na rfl
                      · exact a4 ⟨j, s, g1, gm, g2⟩
                cases o with
                | s j => rw [he1] at q; exact q.elim
                | d x =>
                  simp only [he1] at q
                  by_cases nf : noFz (e1.set i .no) = true
                  · rw [if_pos nf] at q; exact main nf q (fun _ z => by cases z)
                  · rw [if_neg nf] at q; exact q.elim
                | f x =>
                  simp only [he1] at q
                  by_cases nf : noFz (e1.set i .no) = true
                  · rw [if_pos nf] at q; exact main nf q (fun _ z => by cases z)
                  · rw [if_neg nf] at q; exact q.elim
              | _ => rw [he1] at q; cases o <;> exact q.elim
    | _ => rw [he] at q; exact q.elim

def keyD : Key → D
  | .inl i => .int i
  | .inr z => .str z
theorem keyD_rep {K : PySem.W.Frag} {S : Addr → Prop} {H : Hp} (k : Key) : Rep K S H (kV k) (keyD k) := by
  cases k with
  | inl i => exact .int i
  | inr z => exact .str z
theorem keysD_rep {K : PySem.W.Frag} {S : Addr → Prop} {H : Hp} : ∀ ks : List Key, Reps K S H (ks.map kV) (ks.map keyD)
  | [] => .nil
  | k :: ks => .cons (keyD_rep k) (keysD_rep ks)
def itK (i : Nat) : M (List D) := fun e => match e[i]? with
  | some (.fz (.dk ks _)) => if ks.length ≤ 16777216 then .ok (ks.map keyD) e else .bad
  | some (.fz (.dt ks _)) => if ks.length ≤ 16777216 then .ok (ks.map fun k => .tup (k.map keyD)) e else .bad
  | _ => .bad
theorem zip_at {α β : Type} {xs : List α} {ys : List β} (l : xs.length = ys.length) {i : Nat} {x : α} (h : xs[i]? = some x) : ∃ y, (xs.zip ys)[i]? = some (x, y) := by
  have hi := (List.getElem?_eq_some_iff.mp h).1
  refine ⟨ys[i], ?_⟩
  rw [List.getElem?_zip_eq_some]
  exact ⟨h, by rw [List.getElem?_eq_getElem]⟩
theorem di_keys {x : Str} {p : Pos} {tg : Expr} (hN : X.N[i]? = some x := by rfl) (hv : Vis X.env.scope x := by first | exact Or.inl rfl | exact Or.inr (Or.inl rfl) | exact Or.inr (Or.inr rfl)) (hd : (x == ("__debug__" : Str)) = false := by decide)
    (hcd : (x == ("__classdict__" : Str)) = false := by decide) : PI X tg (.Name x p) (tI F (itK i)) := by
  refine pi_weak (pi_keys (pe_var hN hv hd hcd)) fun σ H Q ⟨e, S, r, q⟩ => ?_
  unfold itK at q
  cases he : e[i]? with
  | none => rw [he] at q; exact q.elim
  | some sl =>
    cases sl with
    | fz d =>
      obtain ⟨o0, hσ, a, e0, fz⟩ := r.at he
      subst e0
      cases d with
      | dk ks ds =>
        simp only [he] at q
        obtain ⟨ob, xs, hp, l, qq⟩ := fz
        by_cases hz : ks.length ≤ 16777216
        · rw [if_pos hz] at q
          refine ⟨_, hσ, a, ob, rfl, .inl ⟨_, hp, q _ H S r (.refl _ _ _ _) ⟨fun S1 H1 j dd k h => ?_, fun S1 H1 k => ?_, by rw [List.length_map]; exact hz⟩⟩⟩
          · have hp1 := k.keep _ _ hp (.inr (.inr ⟨_, _, rfl⟩))
            rw [List.getElem?_map] at h
            cases hk : ks[j]? with
            | none => rw [hk] at h; cases h
            | some kk =>
              rw [hk] at h; cases h
              obtain ⟨y, hy⟩ := zip_at l hk
              refine ⟨⟨hp1, (List.getElem?_eq_some_iff.mp hy).1⟩, fun x' H' ⟨e1, k', v', h1, h2⟩ => ⟨.inl e1, ?_⟩⟩
              subst e1 h2
              rw [hy] at h1; cases h1
              exact keyD_rep kk
          · exact ⟨k.keep _ _ hp (.inr (.inr ⟨_, _, rfl⟩)), by rw [List.length_zip, List.length_map, ← l, Nat.min_self]; exact Nat.le_refl _⟩
        · rw [if_neg hz] at q; exact q.elim
      | dt ks ds =>
        simp only [he] at q
        obtain ⟨ob, xs, hp, l, qq⟩ := fz
        by_cases hz : ks.length ≤ 16777216
        · rw [if_pos hz] at q
          refine ⟨_, hσ, a, ob, rfl, .inr ⟨_, hp, q _ H S r (.refl _ _ _ _) ⟨fun S1 H1 j dd k h => ?_, fun S1 H1 k => ?_, by rw [List.length_map]; exact hz⟩⟩⟩
          · have hp1 := k.keep _ _ hp (.inr (.inr ⟨_, _, rfl⟩))
            rw [List.getElem?_map] at h
            cases hk : ks[j]? with
            | none => rw [hk] at h; cases h
            | some kk =>
              rw [hk] at h; cases h
              obtain ⟨y, hy⟩ := zip_at l hk
              refine ⟨⟨hp1, (List.getElem?_eq_some_iff.mp hy).1⟩, fun x' H' ⟨e1, k', v', q', h1, h2, h3⟩ => ⟨.inl e1, ?_⟩⟩
              subst e1 h2
              rw [hy] at h1; cases h1
              exact .tup h3 (keysD_rep kk)
          · exact ⟨k.keep _ _ hp (.inr (.inr ⟨_, _, rfl⟩)), by rw [List.length_zip, List.length_map, ← l, Nat.min_self]; exact Nat.le_refl _⟩
        · rw [if_neg hz] at q; exact q.elim
      | _ => exact fz.elim
    | _ => rw [he] at q; exact q.elim

def ixF (i : Nat) (ob : Od) : M Od := fun e1 => match e1[i]?, res ob e1 with
  | some (.fz d), some y => (match lookD d y with
    | some x => .ok (.d x) e1
    | none => .bad)
  | _, _ => .bad
def ixV (i : Nat) (mb : M Od) : M Od := fun e => match e[i]? with
  | some (.fz _) => bnd mb (fun ob => ixF i ob) e
  | _ => bin2 gIx2 (evVar i) mb e
theorem fget_ok {F : Fx} {S : Addr → Prop} {H : Hp} {u : V} {a : Addr} {x y d : D} (fz : Frz F.K S H a x) (ry : RepT F.K S H u y) (h : lookD x y = some d) : ∃ w, DGet H a u (some w) ∧ Rep F.K S H w d := by
  unfold lookD at h
  split at h
  · rename_i ks ds
    obtain ⟨ob, xs, hp, l, q⟩ := fz
    cases h1 : keyOf y with
    | none => rw [h1] at h; cases h
    | some k =>
      rw [h1] at h
      obtain ⟨w, h2, h3⟩ := look_some q l h
      rw [keyOf_ok ry h1]
      exact ⟨w, .inl ⟨_, k, .inr ⟨ob, hp⟩, rfl, h2.symm⟩, h3⟩
  · rename_i ks ds es
    obtain ⟨ob, xs, hp, l, q⟩ := fz
    obtain ⟨p2, ys, rfl, hp2, q2⟩ := ry.tup
    cases h1 : keysOf es with
    | none => rw [h1] at h; cases h
    | some k =>
      rw [h1] at h
      obtain ⟨w, h2, h3⟩ := look_some q l h
      rw [keysOf_ok q2 h1] at hp2
      exact ⟨w, .inr ⟨_, k, p2, .inr ⟨ob, hp⟩, rfl, hp2, h2.symm⟩, h3⟩
  · cases h
theorem de_ixV {k : Nat} {x : Str} {p pos : Pos} {b : Expr} {mb : M Od} (hK : F.K = X.K) (hr : Room k X.A) (hb : PE X b (tE F mb)) (hN : X.N[i]? = some x := by rfl) (hv : Vis X.env.scope x := by first | exact Or.inl rfl | exact Or.inr (Or.inl rfl) | exact Or.inr (Or.inr rfl)) (hd : (x == ("__debug__" : Str)) = false := by decide)
    (hcd : (x == ("__classdict__" : Str)) = false := by decide) (hs : PlainIx b := by exact fun _ _ => rfl) : PE X (.Subscript (.Name x p) b pos) (tE F (ixV i mb)) := by
  have hIx : IxR X (fun x y H Q => rIx F.K x y H Q ∨ rIxY x y H Q) := by rw [hK]; exact ix_seq.or (ix_dict (by have := hr.units; omega))
  refine ⟨fun pins s σ H Q I ⟨e, S, r, q⟩ => ?_⟩
  unfold ixV at q
  have other : (match bin2 gIx2 (evVar i) mb e with
      | .ok o e1 => ∀ v H1 S1, R F e1 S1 σ H1 → Stp e S σ H e1 S1 H1 → OdOk F H e1 S1 σ H1 v o → Q v H1
      | .err x => Acc F x
      | .bad => False) → wpAny (model X.prog X.w) X.A (eval (.Subscript (.Name x p) b pos) X.env) (EP X pins σ Q) X.xe s := fun q =>
    (de_ix2 (F := F) (ma := evVar i) (mb := mb) (pos := pos) hK hr (de_var i hN hv hd hcd) hb hs).run pins s σ H Q I ⟨e, S, r, q⟩
  cases he : e[i]? with
  | none => rw [he] at q; exact other q
  | some sl =>
    cases sl with
    | fz d =>
      simp only [he] at q
      refine (pe_ix hIx (pe_var hN hv hd hcd) hb hs).run pins s σ H Q I ?_
      obtain ⟨o0, hσ, a, e0, fz⟩ := r.at he
      subst e0
      refine ⟨_, hσ, e, S, r, ?_⟩
      simp only [bnd] at q
      cases hm : mb e with
      | bad => rw [hm] at q; exact q
      | err x => rw [hm] at q; exact q
      | ok ob e1 =>
        simp only [hm] at q
        refine fun u H1 S1 r1 t1 k1 => ?_
        unfold ixF at q
        cases he1 : e1[i]? with
        | none => rw [he1] at q; exact q.elim
        | some s1 =>
          cases s1 with
          | fz d1 =>
            cases hr : res ob e1 with
            | none => rw [he1, hr] at q; exact q.elim
            | some y =>
              simp only [he1, hr] at q
              cases hl : lookD d1 y with
              | none => rw [hl] at q; exact q.elim
              | some dd =>
                simp only [hl] at q
                obtain ⟨p', e0, fz1⟩ := r1.sl i _ _ he1 hσ
                cases e0
                obtain ⟨w, g, rw'⟩ := fget_ok fz1 (res_ok r1 k1 hr) hl
                exact .inr ⟨a, w, rfl, g, q w H1 S1 r1 t1 rw'⟩
          | _ => rw [he1] at q; exact q.elim
    | no => rw [he] at q; exact other q
    | val d => rw [he] at q; exact other q
    | own d => rw [he] at q; exact other q
    | iow d => rw [he] at q; exact other q
end
end DL

set_option maxRecDepth 100000
set_option maxHeartbeats 4000000
namespace DL
open PySem PySem.Spec L2
open PyProof.Rows hiding St
section
variable {F : Fx} {e e1 e2 : Env} {S S1 S2 : Addr → Prop} {σ : St} {H H1 H2 : Hp} {m : M Od} {ms : M (List Od)}
theorem tA_cons {Q : List V → Hp → Prop} (q : tA F (consA m ms) σ H Q) : tCons (tE F m) (tA F ms) σ H Q := by
  obtain ⟨e, S, r, q⟩ := q
  refine ⟨e, S, r, ?_⟩
  simp only [consA, bnd] at q
  cases h1 : m e with
  | bad => rw [h1] at q; exact q
  | err x => rw [h1] at q; exact q
  | ok oa e1 =>
    simp only [h1] at q
    refine fun v H1 S1 r1 t1 k1 => ?_
    obtain ⟨S1', r1', t1', p1⟩ := k1.pin r1 t1
    refine ⟨e1, S1', r1', ?_⟩
    cases h2 : ms e1 with
    | bad => rw [h2] at q; exact q
    | err x => rw [h2] at q; exact q
    | ok os e2 =>
      simp only [h2] at q
      refine fun vs H2 S2 r2 t2 k2 => q (v :: vs) H2 S2 r2 (t1'.trans t2) ?_
      rcases p1 with ⟨y, hy, p1⟩ | ⟨i, rfl, p1⟩
      · have : pinO oa = .d y := by rcases hy with rfl | rfl <;> rfl
        rw [this]; exact .d (p1.kp (r1'.kp t2)) k2
      · exact .s p1 k2
def pairA : List (M Od × M Od) → M (List Od)
  | [] => nilA
  | (a, b) :: r => consA a (consA b (pairA r))
def flatV2 : List (V × V) → List V
  | [] => []
  | (x, y) :: r => x :: y :: flatV2 r
theorem tA_pairs : ∀ (l : List (M Od × M Od)) {H : Hp} {Q : List V → Hp → Prop}, tA F (pairA l) σ H Q → tPairs (l.map fun p => (tE F p.1, tE F p.2)) σ H fun ps H1 => Q (flatV2 ps) H1
  | [], H, Q, ⟨e, S, r, q⟩ => q [] H S r (.refl _ _ _ _) .nil
  | (a, b) :: r, H, Q, q => by
    have q1 := tA_cons q
    have key : ∀ {σ : St} {H : Hp} {m : M Od} {Q Q' : VK}, tE F m σ H Q → (∀ v H1, Q v H1 → Q' v H1) → tE F m σ H Q' := by
      intro σ H m Q Q' ⟨e, S, r, q⟩ h
      refine ⟨e, S, r, ?_⟩
      cases hm : m e with
      | bad => rw [hm] at q; exact q
      | err x => rw [hm] at q; exact q
      | ok o e1 => rw [hm] at q; exact fun v H1 S1 r1 t1 k1 => h v H1 (q v H1 S1 r1 t1 k1)
    refine key q1 fun v H1 q2 => key (tA_cons q2) fun w H2 q3 => ?_
    exact tA_pairs r q3
theorem R.chgU (r : R F e S σ H) {p : Addr} {u o : HO} (hp : H p = some u) (hn : ¬ Imm u) (ns : ¬ S p) (h0 : F.H0 p = none) (nh : ¬ Held e σ p) : R F e S σ (upd H p o) := by
  have kp : Kp S H S (upd H p o) := kp_chg ns fun w hw => by rw [hp] at hw; cases hw; exact hn
  refine ⟨r.len, fun b o' hb hi => ?_, r.s0, r.s1, fun q hq => ?_, fun q hq => ?_, fun j s o' h1 h2 => ?_, r.dis, r.fix⟩
  · have h := r.base b o' hb hi
    rw [upd_ne]
    · exact h
    · rintro rfl; rw [h0] at hb; cases hb
  · by_cases z : q = p
    · rw [z, upd_same]; exact fun z => nomatch z
    · rw [upd_ne z]; exact r.s2 q hq
  · by_cases z : q = p
    · rw [z, upd_same]; exact fun z => nomatch z
    · rw [upd_ne z]; exact r.there q hq
  · refine (r.sl j s o' h1 h2).kp kp fun q m z => ?_
    subst z
    have hh : Held e σ q := ⟨j, s, h1, m, h2⟩
    refine ⟨upd_ne ?_, (r.heldOk hh).1⟩
    rintro rfl
    exact nh hh
def keyPairs : List D → Option (List (Key × D))
  | [] => some []
  | y :: x :: ds => match keyOf y, keyPairs ds with
    | some k, some r => some ((k, x) :: r)
    | _, _ => none
  | _ => none
theorem keyPairs_ok {K : PySem.W.Frag} {S : Addr → Prop} {H : Hp} : ∀ {ps : List (V × V)} {xs : List D} {r : List (Key × D)}, Reps K S H (flatV2 ps) xs → keyPairs xs = some r →
    ∃ kvs : List (Key × V), ps = kvs.map (fun kv => (kV kv.1, kv.2)) ∧ kvs.map (·.1) = r.map (·.1) ∧ Reps K S H (kvs.map (·.2)) (r.map (·.2))
  | [], _, r, q, h => by
    cases q; cases h
    exact ⟨[], rfl, rfl, .nil⟩
  | (v, w) :: ps, _, r, .cons (d := y) r1 (.cons (d := x) (ds := ds) r2 q), h => by
    simp only [keyPairs] at h
    cases h1 : keyOf y with
    | none => rw [h1] at h; cases h
    | some k =>
      cases h2 : keyPairs ds with
      | none => rw [h1, h2] at h; cases h
      | some r' =>
        rw [h1, h2] at h; cases h
        obtain ⟨kvs, e1, e2, e3⟩ := keyPairs_ok q h2
        have hv := keyOf_ok (.inl r1) h1
        exact ⟨(k, w) :: kvs, by rw [hv, e1]; rfl, by rw [List.map_cons, e2]; rfl, .cons r2 e3⟩
def dispK (l : List (M Od × M Od)) : M Od := bnd (pairA l) fun os e => match leaks os e with
  | some (xs, e1) => (match keyPairs xs with
    | some r => if r.length ≤ 15 then .ok (.f (.dk (mergeZ [] [] r).1 (mergeZ [] [] r).2)) e1 else .bad
    | none => .bad)
  | none => .bad
theorem tE_disp (l : List (M Od × M Od)) {Q : VK} (q : tE F (dispK l) σ H Q) : tDisp (l.map fun p => (tE F p.1, tE F p.2)) σ H Q := by
  intro p hp
  obtain ⟨e, S, r, q⟩ := q
  have main : tA F (pairA l) σ (upd H p (.dK [])) fun vs H2 => ∀ ps, flatV2 ps = vs → H2 p = some (.dK []) ∧ ∃ kvs : List (Key × V), ps = kvs.map (fun kv => (kV kv.1, kv.2)) ∧ kvs.length ≤ 15 ∧ Q (.ref p) (upd H2 p (.dK (mergeK [] kvs))) := by
    refine ⟨e, S, r.new hp, ?_⟩
    simp only [dispK, bnd] at q
    cases hm : pairA l e with
    | bad => rw [hm] at q; exact q
    | err x => rw [hm] at q; exact q
    | ok os e1 =>
      simp only [hm] at q
      intro vs H2 S2 r2 t2 k2 ps hps
      cases hl : leaks os e1 with
      | none => rw [hl] at q; exact q.elim
      | some pr =>
        obtain ⟨xs, e2⟩ := pr
        simp only [hl] at q
        obtain ⟨S3, r3, t3, qx⟩ := leaks_ok r2 k2 hl
        cases hk : keyPairs xs with
        | none => rw [hk] at q; exact q.elim
        | some rr =>
          simp only [hk] at q
          by_cases hz : rr.length ≤ 15
          · rw [if_pos hz] at q
            have t23 := t2.trans t3
            have nhp : ¬ Held e σ p := r.nHeld hp
            have hp2 : H2 p = some (.dK []) := t2.keep p _ upd_same nhp
            have nh3 : ¬ Held e2 σ p := fun z => nhp (t23.held p z)
            have ns3 : ¬ S3 p := fun z => by
              rcases t23.new p z with z | z | z
              · exact r.nS hp z
              · rw [upd_same] at z; cases z
              · exact nhp z
            have h0 : F.H0 p = none := r.h0 hp
            have ni : ¬ Imm (.dK [] : HO) := by rintro (⟨_, z⟩ | ⟨_, _, z⟩) <;> cases z
            subst hps
            obtain ⟨kvs, e1', e2', e3'⟩ := keyPairs_ok qx hk
            have hlen : kvs.length = rr.length := by have := congrArg List.length e2'; simpa using this
            refine ⟨hp2, kvs, e1', by omega, ?_⟩
            obtain ⟨zs, m1, m2, m3⟩ := merge_rep (ks := []) (xs := []) (ds := []) e2' e3' .nil rfl
            have m1' : mergeK [] kvs = _ := m1
            refine q (.ref p) _ S3 (r3.chgU hp2 ni ns3 h0 nh3) ⟨t23.sub, fun a z => t23.held a z, fun a o ha hn => ?_, fun a ha => ?_, fun a ha => ?_⟩ ⟨p, rfl, ns3, h0, hp, nh3, zs, ?_, m2, m3.kp (kp_chg ns3 fun w hw => by rw [hp2] at hw; cases hw; exact ni)⟩
            · have na : a ≠ p := ne_of_none ha hp
              rw [upd_ne na]
              exact t23.keep a o (by rw [upd_ne na]; exact ha) hn
            · rcases t23.new a ha with z | z | z
              · exact .inl z
              · by_cases na : a = p
                · subst na; exact .inr (.inl hp)
                · rw [upd_ne na] at z; exact .inr (.inl z)
              · exact .inr (.inr z)
            · by_cases na : a = p
              · subst na; exact hp
              · rw [upd_ne na] at ha
                have := t23.mono a ha
                rw [upd_ne na] at this; exact this
            · rw [upd_same, m1']
          · rw [if_neg hz] at q; exact q.elim
  have := tA_pairs l main
  have key : ∀ (l : List (TE × TE)) {σ : St} {H : Hp} {A B : List (V × V) → Hp → Prop}, True := fun _ _ _ _ _ => trivial
  exact tPairs_mono l this fun ps H2 h => h ps rfl
where
  tPairs_mono : ∀ (l : List (M Od × M Od)) {σ : St} {H : Hp} {A B : List (V × V) → Hp → Prop}, tPairs (l.map fun p => (tE F p.1, tE F p.2)) σ H A → (∀ ps H2, A ps H2 → B ps H2) → tPairs (l.map fun p => (tE F p.1, tE F p.2)) σ H B
    | [], σ, H, A, B, h, w => w _ _ h
    | (a, b) :: r, σ, H, A, B, h, w => by
      have key : ∀ {σ : St} {H : Hp} {m : M Od} {Q Q' : VK}, tE F m σ H Q → (∀ v H1, Q v H1 → Q' v H1) → tE F m σ H Q' := by
        intro σ H m Q Q' ⟨e, S, r, q⟩ h
        refine ⟨e, S, r, ?_⟩
        cases hm : m e with
        | bad => rw [hm] at q; exact q
        | err x => rw [hm] at q; exact q
        | ok o e1 => rw [hm] at q; exact fun v H1 S1 r1 t1 k1 => h v H1 (q v H1 S1 r1 t1 k1)
      exact key h fun v H1 q2 => key q2 fun w' H2 q3 => tPairs_mono r q3 fun ps H3 h => w _ _ h
end
section
variable {X : Cx} {F : Fx}
structure DPs (X : Cx) (F : Fx) (pos : Pos) (ks : List (Option Expr)) (vs : List Expr) (l : List (M Od × M Od)) : Prop where
  run : PPs X pos ks vs (l.map fun p => (tE F p.1, tE F p.2))
theorem dp_nil {pos : Pos} : DPs X F pos [] [] [] := ⟨pps_nil⟩
theorem dp_cons {pos : Pos} {k v : Expr} {ks : List (Option Expr)} {vs : List Expr} {mk mv : M Od} {l : List (M Od × M Od)} (hk : PE X k (tE F mk)) (hv : PE X v (tE F mv)) (hr : DPs X F pos ks vs l) : DPs X F pos (some k :: ks) (v :: vs) ((mk, mv) :: l) := ⟨pps_cons hk hv hr.run⟩
theorem de_disp {pos : Pos} {keys : List (Option Expr)} {values : List Expr} {l : List (M Od × M Od)} (h : DPs X F pos keys values l) (hall : keys.all (·.isSome) = true := by rfl) (hl : keys.length = values.length := by rfl) (h0 : keys ≠ [] := by exact fun z => nomatch z)
    (h15 : keys.length ≤ 15 := by decide) : PE X (.Dict keys values pos) (tE F (dispK l)) :=
  pe_weak (pe_disp h.run hall hl h0 h15) fun σ H Q q => tE_disp l q

def dictAt (i : Nat) (e : Env) : Option D := match e[i]? with
  | some (.own d) => some d
  | some (.iow d) => some d
  | some (.val d) => some d
  | some (.fz d) => some d
  | _ => none
def lookO : D → D → Option (Option D)
  | .dk ks ds, y => (keyOf y).map fun k => lookZ ks ds k
  | .dt ks ds, .tup es => (keysOf es).map fun k => lookZ ks ds k
  | _, _ => none
def isDk : D → Bool
  | .dk _ _ => true
  | .dt _ _ => true
  | _ => false
def getF (i : Nat) (ok ox : Od) : M Od := fun e2 => match dictAt i e2, res ok e2 with
  | some d, some y => (match lookO d y, ox with
    | some (some x), _ => .ok (.d x) e2
    | some none, .d x => .ok (.d x) e2
    | _, _ => .bad)
  | _, _ => .bad
def getV (i : Nat) (mk mx : M Od) : M Od := fun e => match dictAt i e with
  | some d => if isDk d then bnd mk (fun ok => bnd mx fun ox => getF i ok ox) e else .bad
  | none => .bad
theorem rd_dict {K : PySem.W.Frag} {S : Addr → Prop} {H : Hp} {a : Addr} {u : V} {d y : D} (h : (∃ v, v = V.ref a ∧ Rep K S H v d) ∨ Top K S H a d ∨ Frz K S H a d) (ry : RepT K S H u y) :
    (∀ x, lookO d y = some (some x) → ∃ w, DGet H a u (some w) ∧ Rep K S H w x) ∧ (lookO d y = some none → DGet H a u none) := by
  have h' : (∃ ks ds xs, d = .dk ks ds ∧ Rd H a (.dK (ks.zip xs)) ∧ ks.length = xs.length ∧ Reps K S H xs ds) ∨ (∃ ks ds xs, d = .dt ks ds ∧ Rd H a (.dT (ks.zip xs)) ∧ ks.length = xs.length ∧ Reps K S H xs ds) ∨ ∀ y, lookO d y = none := by
    rcases h with ⟨v, rfl, h⟩ | h | h
    · cases h with
      | dk h l s q => exact .inl ⟨_, _, _, rfl, .inl h, l, q⟩
      | dt h l s q => exact .inr (.inl ⟨_, _, _, rfl, .inl h, l, q⟩)
      | _ => exact .inr (.inr fun y => rfl)
    · cases d with
      | dk ks ds => obtain ⟨xs, h, l, q⟩ := h; exact .inl ⟨_, _, _, rfl, .inl h, l, q⟩
      | dt ks ds => obtain ⟨xs, h, l, q⟩ := h; exact .inr (.inl ⟨_, _, _, rfl, .inl h, l, q⟩)
      | lst ds => exact .inr (.inr fun y => rfl)
      | _ => exact h.elim
    · cases d with
      | dk ks ds => obtain ⟨ob, xs, h, l, q⟩ := h; exact .inl ⟨_, _, _, rfl, .inr ⟨ob, h⟩, l, q⟩
      | dt ks ds => obtain ⟨ob, xs, h, l, q⟩ := h; exact .inr (.inl ⟨_, _, _, rfl, .inr ⟨ob, h⟩, l, q⟩)
      | _ => exact h.elim
  rcases h' with ⟨ks, ds, xs, rfl, hr, l, q⟩ | ⟨ks, ds, xs, rfl, hr, l, q⟩ | hn
  · simp only [lookO]
    cases h1 : keyOf y with
    | none => exact ⟨fun x z => (by cases z), fun z => (by cases z)⟩
    | some k =>
      have hu := keyOf_ok ry h1
      subst hu
      refine ⟨fun x z => ?_, fun z => ?_⟩
      · simp only [Option.map_some, Option.some.injEq] at z
        obtain ⟨w, h2, h3⟩ := look_some q l z
        exact ⟨w, .inl ⟨_, k, hr, rfl, h2.symm⟩, h3⟩
      · simp only [Option.map_some, Option.some.injEq] at z
        exact .inl ⟨_, k, hr, rfl, (look_none q l z).symm⟩
  · cases y with
    | tup es =>
      simp only [lookO]
      obtain ⟨b, ys, rfl, hb, qy⟩ := ry.tup
      cases h1 : keysOf es with
      | none => exact ⟨fun x z => (by cases z), fun z => (by cases z)⟩
      | some k =>
        rw [keysOf_ok qy h1] at hb
        refine ⟨fun x z => ?_, fun z => ?_⟩
        · simp only [Option.map_some, Option.some.injEq] at z
          obtain ⟨w, h2, h3⟩ := look_some q l z
          exact ⟨w, .inr ⟨_, k, b, hr, rfl, hb, h2.symm⟩, h3⟩
        · simp only [Option.map_some, Option.some.injEq] at z
          exact .inr ⟨_, k, b, hr, rfl, hb, (look_none q l z).symm⟩
    | _ => exact ⟨fun x z => (by cases z), fun z => (by cases z)⟩
  · exact ⟨fun x z => (by rw [hn] at z; cases z), fun z => (by rw [hn] at z; cases z)⟩
theorem dictAt_ok {e : Env} {S : Addr → Prop} {σ : St} {H : Hp} {i : Nat} {d : D} (r : R F e S σ H) (h : dictAt i e = some d) (hd : isDk d = true) : ∃ a, σ[i]? = some (some (.ref a)) ∧ ((∃ v, v = V.ref a ∧ Rep F.K S H v d) ∨ Top F.K S H a d ∨ Frz F.K S H a d) := by
  unfold dictAt at h
  split at h
  · rename_i x hx; cases h
    obtain ⟨o, h1, p, rfl, _, _, t⟩ := r.at hx
    exact ⟨p, h1, .inr (.inl t)⟩
  · rename_i x hx; cases h
    obtain ⟨o, h1, p, rfl, _, _, t⟩ := r.at hx
    exact ⟨p, h1, .inr (.inl t)⟩
  · rename_i x hx; cases h
    obtain ⟨o, h1, v, rfl, t⟩ := r.at hx
    cases t with
    | dk h l s q => exact ⟨_, h1, .inl ⟨_, rfl, .dk h l s q⟩⟩
    | dt h l s q => exact ⟨_, h1, .inl ⟨_, rfl, .dt h l s q⟩⟩
    | _ => cases hd
  · rename_i x hx; cases h
    obtain ⟨o, h1, p, rfl, t⟩ := r.at hx
    exact ⟨p, h1, .inr (.inr t)⟩
  · cases h
theorem isD_of {K : PySem.W.Frag} {S : Addr → Prop} {H : Hp} {a : Addr} {d : D} (h : (∃ v, v = V.ref a ∧ Rep K S H v d) ∨ Top K S H a d ∨ Frz K S H a d) (hd : isDk d = true) : IsD H a := by
  rcases h with ⟨v, rfl, h⟩ | h | h
  · cases h with
    | dk h l s q => exact .inl ⟨_, .inl h⟩
    | dt h l s q => exact .inr ⟨_, .inl h⟩
    | _ => cases hd
  · cases d with
    | dk ks ds => obtain ⟨xs, h, l, q⟩ := h; exact .inl ⟨_, .inl h⟩
    | dt ks ds => obtain ⟨xs, h, l, q⟩ := h; exact .inr ⟨_, .inl h⟩
    | _ => cases hd
  · cases d with
    | dk ks ds => obtain ⟨ob, xs, h, l, q⟩ := h; exact .inl ⟨_, .inr ⟨ob, h⟩⟩
    | dt ks ds => obtain ⟨ob, xs, h, l, q⟩ := h; exact .inr ⟨_, .inr ⟨ob, h⟩⟩
    | _ => cases hd
theorem lookO_dk {d y : D} {o : Option D} (h : lookO d y = some o) : isDk d = true := by
  unfold lookO at h
  split at h <;> first | rfl | cases h
theorem de_getV {k i : Nat} {x : Str} {p apos cpos : Pos} {a b : Expr} {mk mx : M Od} (hr : Room k X.A) (ha : PE X a (tE F mk)) (hb : PE X b (tE F mx)) (m : M2 X (.Name x p) "get" apos a b cpos) (hN : X.N[i]? = some x := by rfl) (hv : Vis X.env.scope x := by first | exact Or.inl rfl | exact Or.inr (Or.inl rfl) | exact Or.inr (Or.inr rfl))
    (hd : (x == ("__debug__" : Str)) = false := by decide) (hcd : (x == ("__classdict__" : Str)) = false := by decide) : PE X (.Call (.Attribute (.Name x p) "get" apos) [a, b] [] cpos) (tE F (getV i mk mx)) := by
  refine pe_weak (pe_dget2 (by have := hr.units; omega) (pe_var hN hv hd hcd) ha hb m) fun σ H Q ⟨e, S, r, q⟩ => ?_
  unfold getV at q
  cases h0 : dictAt i e with
  | none => rw [h0] at q; exact q.elim
  | some d =>
    simp only [h0] at q
    cases hk : isDk d with
    | false => rw [hk] at q; exact q.elim
    | true =>
      rw [hk, if_pos rfl] at q
      obtain ⟨a0, hσ, td⟩ := dictAt_ok r h0 hk
      refine ⟨_, hσ, a0, rfl, isD_of td hk, e, S, r, ?_⟩
      simp only [bnd] at q
      cases h1 : mk e with
      | bad => rw [h1] at q; exact q
      | err x => rw [h1] at q; exact q
      | ok ok e1 =>
        simp only [h1] at q
        refine fun y H1 S1 r1 t1 k1 => ?_
        obtain ⟨S1', r1', t1', p1⟩ := k1.pin r1 t1
        refine ⟨e1, S1', r1', ?_⟩
        cases h2 : mx e1 with
        | bad => rw [h2] at q; exact q
        | err x => rw [h2] at q; exact q
        | ok ox e2 =>
          simp only [h2] at q
          refine fun z H2 S2 r2 t2 k2 => ?_
          unfold getF at q
          cases h3 : dictAt i e2 with
          | none => rw [h3] at q; exact q.elim
          | some d2 =>
            cases h4 : res ok e2 with
            | none => rw [h3, h4] at q; exact q.elim
            | some yd =>
              simp only [h3, h4] at q
              cases h5 : lookO d2 yd with
              | none => rw [h5] at q; exact q.elim
              | some oo =>
                obtain ⟨a1, hσ1, td2⟩ := dictAt_ok r2 h3 (lookO_dk h5)
                rw [hσ] at hσ1; cases hσ1
                have ry := pin_res r1' p1 t2 r2 h4
                obtain ⟨g1, g2⟩ := rd_dict td2 ry
                cases oo with
                | some xd =>
                  rw [h5] at q
                  obtain ⟨w, g, rw'⟩ := g1 xd h5
                  exact ⟨some w, g, q w H2 S2 r2 (t1'.trans t2) rw'⟩
                | none =>
                  cases ox with
                  | d xd =>
                    rw [h5] at q
                    exact ⟨none, g2 h5, q z H2 S2 r2 (t1'.trans t2) k2⟩
                  | f _ => rw [h5] at q; exact q.elim
                  | s _ => rw [h5] at q; exact q.elim
end
end DL

set_option maxRecDepth 100000
set_option maxHeartbeats 4000000
namespace L2
open PySem PySem.Spec PyProof.Rows
section
variable {X : Cx}
theorem call_sortedDT (hc : X.calm = true) : CallR X (.builtin "sorted") (fun xs H Q => ∃ (a : Addr) (kvs : List (List Key × V)) (k : V → Int × Int), xs = [.ref a] ∧ Rd H a (.dT kvs) ∧
    (∀ bs, IsKeys H kvs bs → ∀ b ∈ bs, H b = some (.tup [.int (k (.ref b)).1, .int (k (.ref b)).2])) ∧
    ∀ bs ys p, IsKeys H kvs bs → SrtO.Srtd (ltP k) ys → SrtO.Stb (ltP k) ys (bs.map V.ref) → H p = none → Q (.ref p) (upd H p (.lst ys))) := by
  intro pins s σ H xs us Q I r h
  obtain ⟨d, kvs, k, rfl, hd, hk, q⟩ := h
  obtain ⟨u, rfl, rx⟩ := r.one
  cases rx
  obtain ⟨z, hs, ks, pr, o, es, ep, ho, hx, hdt, he, hn⟩ := (show ObjOk X.prog X.w H s.heap d (.dT kvs) from hd.ok I.hok)
  have l1 : es.size = ks.length := size_of_entries he
  have l2 : kvs.length = ks.length := Paired.length pr
  have isk := isKeys_of pr
  refine Calls.call_function_entry PyProof.Rows.kind_sorted PyProof.Rows.plain_sorted PyProof.Rows.entry_sorted (PyProof.Rows.args_sorted1 _) ?_
  unfold Builtin.«sorted»
  refine wpAny_bind (m := checkCount "sorted" 1 1 _) (wpAny_pure ?_)
  refine wpAny_bind (PySem.W.kdu_collect (A := X.A.in1) (kdl_raw hs hx hdt) (I.ok.hd hc) ho (by omega) fun h' tk acc kp it => ?_)
  have ea : acc.toList = ks.map fun x => Value.ref x.2.1 := by
    have hl : acc.toList.length = ks.length := by rw [Array.length_toList, it.1]; exact l1
    apply List.ext_getElem?
    intro j
    rw [List.getElem?_map]
    cases hj : acc.toList[j]? with
    | none =>
      have h1 := List.getElem?_eq_none_iff.mp hj
      rw [List.getElem?_eq_none (by omega)]
      all_goals rfl
    | some v =>
      obtain ⟨en, hen, hv⟩ := it.2 j v (by rw [← Array.getElem?_toList]; exact hj)
      have qe := entry_at he j
      rw [hen] at qe
      cases hb : ks[j]? with
      | none =>
        rw [hb] at qe
        exact nomatch (show some en = none from qe)
      | some b =>
        rw [hb] at qe
        have e2 : en = entryOfKey (tupleKind (mixKind X.prog X.w)) b := Option.some.inj qe
        rw [hv, e2]
        all_goals rfl
  have eb : acc.toList = (ks.map fun x => x.2.1).map Value.ref := by rw [ea, List.map_map]; all_goals rfl
  generalize hbs : (ks.map fun x => x.2.1) = bs at isk eb
  have hlen : bs.length = ks.length := by rw [← hbs, List.length_map]
  have I1 : Inv X pins σ H { s with heap := h', toks := tk } := I.kept kp
  have hz : acc.toList.length ≤ sizeLine := by rw [eb, List.length_map]; omega
  refine wpAny_bind (wpAny_newList ?_ hz)
  have hoL : (h'.push (seqObj "list" acc.toList.toArray 0)).get? h'.objs.size = some (seqObj "list" acc.toList.toArray 0) := Heap.get?_push_size _ rfl
  show wpAny _ _ _ _ _ { s with heap := h'.push (seqObj "list" acc.toList.toArray 0), toks := tk }
  have hp : ∀ v ∈ acc.toList, Srt.IsPair (h'.push (seqObj "list" acc.toList.toArray 0)) v (k (backV v)).1 (k (backV v)).2 := fun v hv => by
    rw [eb] at hv
    obtain ⟨t, ht, rfl⟩ := List.mem_map.mp hv
    have hh := hk bs isk t ht
    obtain ⟨_, its2, r2, o2, ho2, hc2, n2, hd2⟩ := I1.hok _ _ hh
    obtain ⟨u1, u2, rfl, ri, rj⟩ := vals2 r2
    obtain ⟨t1, rfl⟩ := ri
    obtain ⟨t2, rfl⟩ := rj
    exact ⟨t, o2, t1, t2, n2, rfl, Heap.get?_push_of_some _ ho2, hc2, hd2⟩
  have e2 : ∀ v ∈ acc.toList, ∃ a, v = Value.ref a := fun v hv => by
    rw [eb] at hv
    obtain ⟨t, ht, rfl⟩ := List.mem_map.mp hv
    exact ⟨t, rfl⟩
  refine wpAny_bind (wpAny_holding (wpAny_call_entry PyProof.Rows.slot_list_sort ⟨_, hoL, rfl⟩ PyProof.Rows.entry_list_sort
    (SrtO.list_sort_ord (s := { s with heap := h'.push (seqObj "list" acc.toList.toArray 0), toks := tk }) (SrtO.swo_lex fun u => k (backV u)) hoL hz (fun h2 => SrtO.pairs_sortableO (by omega) hp fun o e => ?_) fun out h1 h2 => ⟨_, rfl, ?_⟩) (PyProof.Rows.args_list_sort _)))
  · have e' : some o = some (seqObj "list" acc.toList.toArray 0) := e.symm.trans hoL
    cases e'
    intro c
    exact absurd (Value.type.inj c) (by decide)
  · have h3 : ∀ u ∈ out, ∃ a, u = Value.ref a := fun u hu => e2 u (h2.perm.mem_iff.mp hu)
    obtain ⟨ep', he'⟩ := PyProof.Rows.sortedHeap_at (vs := acc.toList) (out := out.toArray) hoL
    have hb : SrtO.Stb (ltP k) (out.map backV) (bs.map V.ref) := by
      have e3 : bs.map V.ref = acc.toList.map backV := by rw [eb, List.map_map]; rfl
      rw [e3]
      exact SrtO.Stb.map (ltP_swo k) backV h2
    have hlen2 : (out.map backV).length ≤ sizeLine := by
      rw [hb.len, List.length_map]; omega
    refine wpAny_pure ⟨_, rfl, .ref h'.objs.size, upd H h'.objs.size (.lst (out.map backV)), I1.laid (t' := tk) (fun b u e => ?_) (Nat.le_refl _)
      (show ObjOk X.prog X.w _ _ _ (.lst (out.map backV)) from ⟨hlen2, out, ep', vals_back h3, he'⟩), rfl, q bs _ _ isk (SrtO.srtd_map h1) hb (I1.hok.fresh (Nat.le_refl _))⟩
    have hb : b < h'.objs.size := Heap.lt_size e
    rw [PyProof.Rows.sortedHeap_old (Nat.ne_of_lt hb) (by rw [size_push']; exact Nat.lt_succ_of_lt hb)]
    exact Heap.get?_push_of_some _ e
end
end L2

namespace DL
open PySem PySem.Spec L2
open PyProof.Rows hiding St
def pairKs : List (List Key) → Option (List (Int × Int))
  | [] => some []
  | [.inl i, .inl j] :: ks => (pairKs ks).map ((i, j) :: ·)
  | _ :: _ => none
def leP (p q : Int × Int) : Bool := !SrtO.lexB q p
def insP (p : Int × Int) : List (Int × Int) → List (Int × Int)
  | [] => [p]
  | q :: r => if leP p q then p :: q :: r else q :: insP p r
def sortP : List (Int × Int) → List (Int × Int)
  | [] => []
  | p :: r => insP p (sortP r)
theorem leP_iff {p q : Int × Int} : leP p q = true ↔ p.1 < q.1 ∨ (p.1 = q.1 ∧ p.2 ≤ q.2) := by
  unfold leP
  rw [Bool.not_eq_true', SrtO.lexB_no]
  omega
theorem insP_perm (p : Int × Int) : ∀ r, (insP p r).Perm (p :: r)
  | [] => .refl _
  | q :: r => by
    unfold insP
    split
    · exact .refl _
    · exact ((insP_perm p r).cons q).trans (.swap p q r)
theorem sortP_perm : ∀ xs, (sortP xs).Perm xs
  | [] => .refl _
  | x :: xs => (insP_perm x (sortP xs)).trans ((sortP_perm xs).cons x)
theorem insP_sorted (p : Int × Int) : ∀ r : List (Int × Int), r.Pairwise (fun a b => leP a b = true) → (insP p r).Pairwise (fun a b => leP a b = true)
  | [], _ => by simp [insP]
  | q :: r, h => by
    unfold insP
    obtain ⟨h1, h2⟩ := List.pairwise_cons.mp h
    split
    · rename_i hxy
      refine List.pairwise_cons.mpr ⟨fun z hz => ?_, h⟩
      rcases List.mem_cons.mp hz with rfl | hz
      · exact hxy
      · have := leP_iff.mp (h1 z hz)
        have h3 := leP_iff.mp hxy
        exact leP_iff.mpr (by omega)
    · rename_i hxy
      refine List.pairwise_cons.mpr ⟨fun z hz => ?_, insP_sorted p r h2⟩
      rcases List.mem_cons.mp ((insP_perm p r).mem_iff.mp hz) with rfl | hz
      · have h4 : ¬ leP z q = true := hxy
        rw [leP_iff] at h4
        exact leP_iff.mpr (by omega)
      · exact h1 z hz
theorem sortP_sorted : ∀ xs, (sortP xs).Pairwise (fun a b => leP a b = true)
  | [] => .nil
  | x :: xs => insP_sorted x _ (sortP_sorted xs)
theorem sortedP_uniq {xs ys : List (Int × Int)} (h : xs.Perm ys) (hx : xs.Pairwise (fun a b => leP a b = true)) (hy : ys.Pairwise (fun a b => leP a b = true)) : xs = ys :=
  h.eq_of_pairwise (fun a b _ _ h1 h2 => by
    rw [leP_iff] at h1 h2
    exact Prod.ext (by omega) (by omega)) hx hy
def prD (p : Int × Int) : D := .tup [.int p.1, .int p.2]
def gSorted2 : List D → Option Od
  | [.dt ks _] => (pairKs ks).map fun ps => .f (.lst ((sortP ps).map prD))
  | xs => gSortedI xs
def pairAt (H : Hp) : V → Int × Int
  | .ref t => match H t with
    | some (.tup [.int i, .int j]) => (i, j)
    | _ => (0, 0)
  | _ => (0, 0)
def rSortedDT : List V → Hp → VK → Prop := fun xs H Q => ∃ (a : Addr) (kvs : List (List Key × V)) (k : V → Int × Int), xs = [.ref a] ∧ Rd H a (.dT kvs) ∧
    (∀ bs, IsKeys H kvs bs → ∀ b ∈ bs, H b = some (.tup [.int (k (.ref b)).1, .int (k (.ref b)).2])) ∧
    ∀ bs ys p, IsKeys H kvs bs → SrtO.Srtd (ltP k) ys → SrtO.Stb (ltP k) ys (bs.map V.ref) → H p = none → Q (.ref p) (upd H p (.lst ys))
theorem keys_pairs {H : Hp} : ∀ {ks : List (List Key)} {xs : List V} {bs : List Addr} {ps : List (Int × Int)}, ks.length = xs.length → IsKeys H (ks.zip xs) bs → pairKs ks = some ps →
    (∀ b ∈ bs, H b = some (.tup [.int (pairAt H (.ref b)).1, .int (pairAt H (.ref b)).2])) ∧ (bs.map V.ref).map (pairAt H) = ps
  | [], [], bs, ps, l, h, e => by
    cases h; cases e
    exact ⟨fun b hb => absurd hb List.not_mem_nil, rfl⟩
  | [], x :: xs, _, _, l, _, _ => by simp at l
  | k :: ks, [], _, _, l, _, _ => by simp at l
  | k :: ks, x :: xs, bs, ps, l, h, e => by
    cases h with
    | cons hb ht =>
      rename_i b bs
      unfold pairKs at e
      split at e
      · rename_i h'; cases h'
      · rename_i i j ks' h'; cases h'
        rw [Option.map_eq_some_iff] at e
        obtain ⟨ps', e1, rfl⟩ := e
        obtain ⟨h1, h2⟩ := keys_pairs (by simpa using l) ht e1
        have hb' : H b = some (.tup [.int i, .int j]) := hb
        have hp : pairAt H (.ref b) = (i, j) := by simp only [pairAt, hb']
        refine ⟨fun b' hb2 => ?_, ?_⟩
        · rcases List.mem_cons.mp hb2 with rfl | hb2
          · rw [hp]; exact hb'
          · exact h1 b' hb2
        · rw [List.map_cons, List.map_cons, hp, h2]
      · cases e
theorem pairs_rep {K : PySem.W.Frag} {S : Addr → Prop} {H : Hp} : ∀ {ys : List V}, (∀ y ∈ ys, ∃ b, y = V.ref b ∧ H b = some (.tup [.int (pairAt H y).1, .int (pairAt H y).2])) → Reps K S H ys ((ys.map (pairAt H)).map prD)
  | [], _ => .nil
  | y :: ys, h => by
    obtain ⟨b, e, hb⟩ := h y List.mem_cons_self
    refine .cons ?_ (pairs_rep fun y hy => h y (List.mem_cons_of_mem _ hy))
    subst e
    exact .tup hb (.cons (.int _) (.cons (.int _) .nil))
theorem c_sorted2 {F : Fx} : CallS F (fun xs H Q => rSortedI F.K xs H Q ∨ rSortedDT xs H Q) gSorted2 := by
  intro e S σ H vs xs o Q r rs hg k
  unfold gSorted2 at hg
  split at hg
  · rename_i ks ds
    rw [Option.map_eq_some_iff] at hg
    obtain ⟨ps, h1, rfl⟩ := hg
    obtain ⟨v, rfl, rx⟩ := rs.one
    obtain ⟨p, xs, rfl, hp, l, q⟩ := rx.dt
    refine .inr ⟨p, _, pairAt H, rfl, .inl hp, fun bs hb => (keys_pairs l hb h1).1, fun bs ys w hb h2 h3 hw => ?_⟩
    obtain ⟨h4, h5⟩ := keys_pairs l hb h1
    have hy : ∀ y ∈ ys, ∃ b, y = V.ref b ∧ H b = some (.tup [.int (pairAt H y).1, .int (pairAt H y).2]) := fun y hy => by
      obtain ⟨b, hb', rfl⟩ := List.mem_map.mp (h3.perm.mem_iff.mp hy)
      exact ⟨b, rfl, h4 b hb'⟩
    have e1 : ys.map (pairAt H) = sortP ps := by
      refine sortedP_uniq ?_ ?_ (sortP_sorted ps)
      · rw [← h5]
        exact (h3.perm.map _).trans (sortP_perm _).symm
      · refine List.pairwise_map.mpr (h2.imp fun {a b} z => ?_)
        have z' : SrtO.lexB (pairAt H b) (pairAt H a) = false := z
        unfold leP
        rw [z']; rfl
    have hq := pairs_rep (K := F.K) (S := S) hy
    rw [e1] at hq
    exact k _ _ S (r.new hw) (.alloc hw) (fresh_lst r hw hq)
  · exact .inl (c_sortedI e S σ H vs xs o Q r rs hg k)
section
variable {X : Cx} {F : Fx} {p pos : Pos} {a : Expr} {ms : M (List Od)}
theorem de_sorted2 (hK : F.K = X.K) (hc : X.calm = true) (hg : Gl X "sorted") (hm : X.mg "sorted" = none) (ha : PA X [a] (tA F ms)) (he : starEach [a] X.env = (false, eval a X.env) :: starEach [] X.env := by rfl) (hpl : (backTo pos (starEach [] X.env)).any (·.1) = false := by rfl) :
    PE X (.Call (.Name "sorted" p) [a] [] pos) (tE F (callB gSorted2 ms)) :=
  de_callB (by rw [hK]; exact CallR.or cr_sortedI (call_sortedDT hc)) c_sorted2 hg hm (by decide +kernel) ha (by decide) (by decide) he hpl
end
end DL

set_option maxRecDepth 100000
set_option maxHeartbeats 4000000
namespace DL
open PySem PySem.Spec L2
open PyProof.Rows hiding St
def mvS (i j : Nat) : MS := fun e => match e[j]? with
  | some (.own d) => (match setSl i (.own d) (e.set j .no) with
    | some e3 => .nx e3
    | none => .bad)
  | _ => .bad
section
variable {X : Cx} {F : Fx} {e : Env} {S : Addr → Prop} {σ : St} {H : Hp} {i j : Nat} {d : D}
theorem R.lose (r : R F e S σ H) (h : e[j]? = some (.own d)) : R F (e.set j .no) S σ H := by
  have hj : j < e.length := (List.getElem?_eq_some_iff.mp h).1
  refine ⟨by rw [List.length_set]; exact r.len, r.base, r.s0, r.s1, r.s2, r.there, fun a s o h1 h2 => ?_, fun a b s t q h1 h2 m1 m2 h3 h4 => ?_, fun a dd h1 => ?_⟩
  · rcases set_at hj h1 with ⟨rfl, rfl⟩ | ⟨na, h1⟩
    · trivial
    · exact r.sl a s o h1 h2
  · rcases set_at hj h1 with ⟨rfl, rfl⟩ | ⟨na, g1⟩
    · exact m1.elim
    · rcases set_at hj h2 with ⟨rfl, rfl⟩ | ⟨nb, g2⟩
      · exact m2.elim
      · exact r.dis a b s t q g1 g2 m1 m2 h3 h4
  · rcases set_at hj h1 with ⟨rfl, z⟩ | ⟨na, h1⟩
    · cases z
    · exact r.fix a dd h1
theorem ds_mv {x y : Str} {p' p2 pos : Pos} (hN : X.N.Nodup) (hi : X.N[i]? = some x) (hx : Loc X.env.scope x) (hj : X.N[j]? = some y := by rfl) (hv : Vis X.env.scope y := by first | exact Or.inl rfl | exact Or.inr (Or.inl rfl) | exact Or.inr (Or.inr rfl)) (hd : (y == ("__debug__" : Str)) = false := by decide)
    (hcd : (y == ("__classdict__" : Str)) = false := by decide) (hs : swapsWith (.Name y p2) (some (.Name x p')) pos.line X.env = pure false := by rfl) (hf : X.fn x = true ∨ X.env.scope.names.lookup x = some .local := by first | exact .inl rfl | exact .inr rfl | assumption) :
    PS X (.Assign [.Name x p'] (.Name y p2) pos) (tS F (mvS i j)) := by
  refine ps_weak (ps_set hN hi hx (pe_var hj hv hd hcd) hs hf) fun D σ H ⟨e, S, r, q⟩ => ?_
  unfold mvS at q
  cases he : e[j]? with
  | none => rw [he] at q; exact q.elim
  | some s =>
    cases s with
    | own d =>
      simp only [he] at q
      obtain ⟨o, hσ, p, e0, ns, h0, t⟩ := r.at he
      subst e0
      cases hs : setSl i (.own d) (e.set j .no) with
      | none => rw [hs] at q; exact q.elim
      | some e3 =>
        simp only [hs] at q
        have nh : ¬ Held (e.set j .no) σ p := fun ⟨a, s, h1, m, h2⟩ => by
          have hl : j < e.length := (List.getElem?_eq_some_iff.mp he).1
          rcases set_at hl h1 with ⟨rfl, rfl⟩ | ⟨na, h1⟩
          · exact m.elim
          · exact na (r.dis a j s _ p h1 he m trivial h2 hσ)
        exact ⟨_, hσ, q _ H S ((r.lose he).put hs ⟨p, rfl, ns, h0, nh, t⟩) (.refl _ _)⟩
    | _ => rw [he] at q; exact q.elim
end
end DL

set_option maxRecDepth 100000
set_option maxHeartbeats 4000000
namespace DL
open PySem PySem.Spec L2
open PyProof.Rows hiding St
def lcStep (mg : MG) (mc : M Bool) (me : M Od) (vs : List Nat) (d : D) : M (Option D) := fun e => match mg d e with
  | none => .bad
  | some e1 => match mc e1 with
    | .ok true e2 => (match me e2 with
      | .ok o e3 => (match leak1 o e3 with
        | some (x, e4) => .ok (some x) (wipeE e4 vs)
        | none => .bad)
      | _ => .bad)
    | .ok false e2 => .ok none (wipeE e2 vs)
    | _ => .bad
theorem lcL_cons {mg : MG} {mc : M Bool} {me : M Od} {vs : List Nat} {d : D} {ds acc : List D} {e e1 : Env} {x : Option D} (h : lcStep mg mc me vs d e = .ok x e1) : lcL mg mc me vs (d :: ds) acc e = lcL mg mc me vs ds (acc ++ x.toList) e1 := by
  simp only [lcStep] at h
  simp only [lcL]
  cases h1 : mg d e with
  | none => rw [h1] at h; cases h
  | some e2 =>
    simp only [h1] at h ⊢
    cases h2 : mc e2 with
    | bad => rw [h2] at h; cases h
    | err y => rw [h2] at h; cases h
    | ok b e3 =>
      cases b with
      | false => simp only [h2] at h ⊢; cases h; simp
      | true =>
        simp only [h2] at h ⊢
        cases h3 : me e3 with
        | bad => rw [h3] at h; cases h
        | err y => rw [h3] at h; cases h
        | ok o e4 =>
          simp only [h3] at h ⊢
          cases h4 : leak1 o e4 with
          | none => rw [h4] at h; cases h
          | some pr => obtain ⟨y, e5⟩ := pr; simp only [h4] at h ⊢; cases h; rfl
theorem lcL_map {mg : MG} {mc : M Bool} {me : M Od} {vs : List Nat} {W : Env} {f : D → Option D} : ∀ {ds acc : List D}, (∀ d ∈ ds, lcStep mg mc me vs d W = .ok (f d) W) → lcL mg mc me vs ds acc W = .ok (acc ++ ds.filterMap f) W
  | [], acc, _ => by simp [lcL]
  | d :: ds, acc, h => by
    rw [lcL_cons (h d List.mem_cons_self), lcL_map fun x hx => h x (List.mem_cons_of_mem _ hx), List.filterMap_cons, List.append_assoc]
    cases f d <;> rfl
theorem lc_eq {mi : M (List D)} {mg : MG} {mc : M Bool} {me : M Od} {vs : List Nat} {e e1 : Env} {ds : List D} (f : D → Option D) (hi : mi e = .ok ds e1) (h : ∀ d ∈ ds, lcStep mg mc me vs d (wipeE e1 vs) = .ok (f d) (wipeE e1 vs)) :
    lc mi mg mc me vs e = .ok (.f (.lst (ds.filterMap f))) (restE e1 (wipeE e1 vs) vs) := by
  simp only [lc, bnd, hi, lcL_map h, List.nil_append]
theorem lc_map {mi : M (List D)} {mg : MG} {mc : M Bool} {me : M Od} {vs : List Nat} {e e1 : Env} {ds : List D} (f : D → D) (hi : mi e = .ok ds e1) (h : ∀ d ∈ ds, lcStep mg mc me vs d (wipeE e1 vs) = .ok (some (f d)) (wipeE e1 vs)) :
    lc mi mg mc me vs e = .ok (.f (.lst (ds.map f))) (restE e1 (wipeE e1 vs) vs) := by
  rw [lc_eq (fun d => some (f d)) hi h]
  simp
theorem forL_inv {mg : MG} {mb : MS} {Q : OutS → Prop} (P : List D → Env → Prop) : ∀ {ds : List D} {e : Env}, P ds e → (∀ e, P [] e → Q (.nx e)) →
    (∀ d ds e, P (d :: ds) e → ∃ e1, mg d e = some e1 ∧ match mb e1 with
      | .nx e2 => P ds e2
      | .ct e2 => P ds e2
      | .bk e2 => Q (.nx e2)
      | o => Q o) → Q (forL mg mb ds e)
  | [], e, h, h0, _ => h0 e h
  | d :: ds, e, h, h0, hs => by
    obtain ⟨e1, h1, h2⟩ := hs d ds e h
    simp only [forL, h1]
    cases h3 : mb e1 with
    | nx e2 => rw [h3] at h2; exact forL_inv P h2 h0 hs
    | ct e2 => rw [h3] at h2; exact forL_inv P h2 h0 hs
    | bk e2 => rw [h3] at h2; exact h2
    | rt o e2 => rw [h3] at h2; exact h2
    | err x => rw [h3] at h2; exact h2
    | bad => rw [h3] at h2; exact h2
theorem forL_nx {mg : MG} {mb : MS} {d : D} {ds : List D} {e e1 e2 : Env} (h1 : mg d e = some e1) (h2 : mb e1 = .nx e2) : forL mg mb (d :: ds) e = forL mg mb ds e2 := by simp only [forL, h1, h2]
theorem forL_rt {mg : MG} {mb : MS} {d : D} {ds : List D} {e e1 e2 : Env} {o : Od} (h1 : mg d e = some e1) (h2 : mb e1 = .rt o e2) : forL mg mb (d :: ds) e = .rt o e2 := by simp only [forL, h1, h2]
theorem blsOf_map (f : D → Bool) : ∀ ds : List D, blsOf (ds.map fun d => .bl (f d)) = some (ds.map f)
  | [] => rfl
  | d :: ds => by simp [blsOf, blsOf_map f ds]
def mx (i j : Int) : Int := if j > i then j else i
def mn (i j : Int) : Int := if j < i then j else i
theorem max_int (i j : Int) : gMax2 [.int i, .int j] = some (.d (.int (mx i j))) := rfl
theorem min_int (i j : Int) : gMin2 [.int i, .int j] = some (.d (.int (mn i j))) := rfl
theorem eq_int (a b : Int) : gEq (.int a) (.int b) = some (.d (.bl (a == b))) := rfl
theorem ne_int (a b : Int) : gNe (.int a) (.int b) = some (.d (.bl (!(a == b)))) := rfl
theorem atI_nat {α : Type} (l : List α) (n : Nat) : atI l (n : Int) = l[n]? := by
  unfold atI ixN
  by_cases h : n < l.length
  · rw [if_pos (by omega), if_pos (by omega), Option.bind_some, Int.toNat_natCast]
  · rw [if_pos (by omega), if_neg (by omega), Option.bind_none, List.getElem?_eq_none (by omega)]
theorem atI_0 {α : Type} (l : List α) : atI l 0 = l[0]? := atI_nat l 0
theorem atI_1 {α : Type} (l : List α) : atI l 1 = l[1]? := atI_nat l 1
theorem atI_2 {α : Type} (l : List α) : atI l 2 = l[2]? := atI_nat l 2
theorem atI_3 {α : Type} (l : List α) : atI l 3 = l[3]? := atI_nat l 3
theorem atI_4 {α : Type} (l : List α) : atI l 4 = l[4]? := atI_nat l 4
theorem atI_5 {α : Type} (l : List α) : atI l 5 = l[5]? := atI_nat l 5
theorem atI_6 {α : Type} (l : List α) : atI l 6 = l[6]? := atI_nat l 6
theorem atI_m1 {α : Type} (l : List α) : atI l (-1) = l.getLast? := by
  unfold atI ixN
  rw [if_neg (by omega)]
  cases l with
  | nil => simp
  | cons a l =>
    rw [if_pos (by simp only [List.length_cons]; omega), Option.bind_some, List.getLast?_eq_getElem?]
    congr 1
    simp only [List.length_cons]; omega
theorem cut_tail (a : D) (l : List D) : cutD (a :: l) (some 1) none = l := by
  have e : HT.sIx (a :: l).length 0 (some 1) = 1 := by
    show (if (1 : Int) < 0 then ((1 : Int) + ((a :: l).length : Int)).toNat else min (1 : Int).toNat (a :: l).length) = 1
    rw [if_neg (by omega)]
    show min 1 (l.length + 1) = 1
    omega
  unfold cutD
  rw [e]
  show List.take ((a :: l).length - 1) (List.drop 1 (a :: l)) = l
  simp
theorem cut5_02 (a b c d e : D) : cutD [a, b, c, d, e] none (some 2) = [a, b] := rfl
theorem cut5_24 (a b c d e : D) : cutD [a, b, c, d, e] (some 2) (some 4) = [c, d] := rfl
theorem can_ints : ∀ ns : List Int, PyData.canLayAll0 (toPys (ns.map D.int)) = true
  | [] => rfl
  | n :: ns => by
    have h := can_ints ns
    show ((toPy (.int n)).canLay0 && PyData.canLayAll0 (toPys (ns.map D.int))) = true
    rw [h]; rfl
theorem dep_ints : ∀ ns : List Int, PyData.depthAll (toPys (ns.map D.int)) = 0
  | [] => rfl
  | n :: ns => by
    have h := dep_ints ns
    show max (toPy (.int n)).depth (PyData.depthAll (toPys (ns.map D.int))) = 0
    rw [h]; rfl
theorem shaped_ints (ns : List Int) : shaped (.lst (ns.map D.int)) = true := by
  show (PyData.canLayAll0 (toPys (ns.map D.int)) && decide (PyData.depthAll (toPys (ns.map D.int)) + 1 ≤ 64)) = true
  rw [can_ints, dep_ints]; rfl
theorem eq_ints_nil (ns : List Int) : gEq (.lst (ns.map D.int)) (.lst []) = some (.d (.bl ns.isEmpty)) := by
  have e : eqD (.lst (ns.map D.int)) (.lst []) = ns.isEmpty := by cases ns <;> rfl
  show (if shaped (.lst (ns.map D.int)) && shaped (.lst []) then some (Od.d (.bl (eqD (.lst (ns.map D.int)) (.lst [])))) else none) = _
  rw [shaped_ints, e]; rfl
theorem ne_ints_nil (ns : List Int) : gNe (.lst (ns.map D.int)) (.lst []) = some (.d (.bl (!ns.isEmpty))) := by
  have e : eqD (.lst (ns.map D.int)) (.lst []) = ns.isEmpty := by cases ns <;> rfl
  show (if shaped (.lst (ns.map D.int)) && shaped (.lst []) then some (Od.d (.bl (!eqD (.lst (ns.map D.int)) (.lst [])))) else none) = _
  rw [shaped_ints, e]; rfl
def ones (p : D → Bool) (ds : List D) : List D := ds.filterMap fun d => cond (p d) (some (.int 1)) none
theorem ones_eq (p : D → Bool) (ds : List D) : ones p ds = ((ds.filter p).map fun _ => (1 : Int)).map D.int := by
  induction ds with
  | nil => rfl
  | cons d ds ih =>
    unfold ones at ih ⊢
    rw [List.filterMap_cons, ih]
    cases h : p d <;> simp [h]
theorem ones_empty (p : D → Bool) (ds : List D) : ((ds.filter p).map fun _ => (1 : Int)).isEmpty = !ds.any p := by
  induction ds with
  | nil => rfl
  | cons d ds ih => cases h : p d <;> simp [h] at ih ⊢ ; assumption
theorem ne_ones (p : D → Bool) (ds : List D) : gNe (.lst (ones p ds)) (.lst []) = some (.d (.bl (ds.any p))) := by rw [ones_eq, ne_ints_nil, ones_empty, Bool.not_not]
theorem eq_ones (p : D → Bool) (ds : List D) : gEq (.lst (ones p ds)) (.lst []) = some (.d (.bl (!ds.any p))) := by rw [ones_eq, eq_ints_nil, ones_empty]
theorem lc_ones {mi : M (List D)} {mg : MG} {mc : M Bool} {me : M Od} {vs : List Nat} {e e1 : Env} {ds : List D} (p : D → Bool) (hi : mi e = .ok ds e1) (h : ∀ d ∈ ds, lcStep mg mc me vs d (wipeE e1 vs) = .ok (cond (p d) (some (.int 1)) none) (wipeE e1 vs)) :
    lc mi mg mc me vs e = .ok (.f (.lst (ones p ds))) (restE e1 (wipeE e1 vs) vs) := lc_eq _ hi h
theorem ite_out {α : Type} (b : Bool) (x y : M α) (e : Env) : (if b = true then x else y) e = if b = true then x e else y e := by cases b <;> rfl
end DL


set_option maxRecDepth 100000
set_option maxHeartbeats 4000000


set_option maxRecDepth 100000
set_option maxHeartbeats 4000000
namespace K34
open PySem PySem.Spec L2 DL
open PyProof.Rows hiding St
open DL (Env)

def top (i : Nat) : Stmt := PySem.Challenge.pw_tautlines_k34_whole_crossings.main.body.getD i (.Pass ⟨0, 0, 0, 0⟩)
structure Txt (K : PySem.W.Frag) (mg : Str → Option Value) : Prop where
  f_law_cup : At K mg "_law_cup" (top 25) ["script"]
  f_law_roll : At K mg "_law_roll" (top 26) ["cup", "many"]
  f_law_some : At K mg "_law_some" (top 27) ["cup", "things"]
  f_law_word : At K mg "_law_word" (top 30) ["cup", "many", "letters"]
  f_is_whole : At K mg "is_whole" (top 5) ["value", "low", "high"]
  f_need_whole : At K mg "need_whole" (top 6) ["value", "low", "high"]
  f_need_many : At K mg "need_many" (top 11) ["value"]
  f_is_tuple_of : At K mg "is_tuple_of" (top 7) ["value", "low", "high"]
  f_is_letter : At K mg "is_letter" (top 12) ["many", "value"]
  f_fits_word : At K mg "fits_word" (top 13) ["many", "value"]
  f_is_word : At K mg "is_word" (top 19) ["many", "value"]
  f_need_word : At K mg "need_word" (top 14) ["many", "value"]
  f_order_in : At K mg "order_in" (top 16) ["many", "letters"]
  f_order_behind : At K mg "order_behind" (top 20) ["many", "word"]
  f_sign_of : At K mg "sign_of" (top 15) ["letter"]
  f_windings : At K mg "windings" (top 21) ["many", "word"]
  f_sum_in : At K mg "sum_in" (top 18) ["letters"]
  f_sum_of : At K mg "sum_of" (top 22) ["many", "word"]
  f_back_in : At K mg "back_in" (top 17) ["letters"]
  f_back_of : At K mg "back_of" (top 23) ["many", "word"]
  f_law_order : At K mg "_law_order" (top 33) ["many", "letters"]
  f_law_sign : At K mg "_law_sign" (top 31) ["letter"]
  f_law_windings : At K mg "_law_windings" (top 35) ["many", "word"]
  f_law_back : At K mg "_law_back" (top 32) ["letters"]
  f_law_sort : At K mg "_law_sort" (top 28) ["value"]
  f_law_like : At K mg "_law_like" (top 29) ["one", "other"]
  f_law_right : At K mg "_law_right" (top 36) ["many", "word"]
  f_law_is_word : At K mg "_law_is_word" (top 34) ["many", "value", "most"]
  f_law_great_right : At K mg "_law_great_right" (top 37) ["cup"]
  f_law_written_right : At K mg "_law_written_right" (top 38) []
  b_abs : mg "abs" = none
  b_all : mg "all" = none
  b_bool : mg "bool" = none
  b_dict : mg "dict" = none
  b_int : mg "int" = none
  b_isinstance : mg "isinstance" = none
  b_len : mg "len" = none
  b_list : mg "list" = none
  b_max : mg "max" = none
  b_min : mg "min" = none
  b_range : mg "range" = none
  b_sorted : mg "sorted" = none
  b_str : mg "str" = none
  b_sum : mg "sum" = none
  b_tuple : mg "tuple" = none
  b_zip : mg "zip" = none
  c_LETTERS : ∃ t, mg "LETTERS" = some (.int 60 t)
  c_LINES : ∃ t, mg "LINES" = some (.int 8 t)
  x_InvalidNumber : ExcAt K mg "InvalidNumber"
  x_InvalidWord : ExcAt K mg "InvalidWord"
section
variable {P : Program} {w : World} {K : PySem.W.Frag} {mg : Str → Option Value} {base : Heap}
abbrev s_law_cup : Stmt := top 25
theorem sc_law_cup : FnScope ["script", "cell"] ["script"] (defScope s_law_cup) := ⟨rfl, rfl, rfl, by decide +kernel, rfl, by decide +kernel, by decide +kernel⟩
def m_law_cup : MS := seqS (asg 1 (callB gAbs (consA (bin2 gIx (bin2 gAdd (callB gList (consA (evVar 0) (nilA))) (mkL (consA (evC (.int 0)) (nilA)))) (evC (.int 0))) (nilA))))
    (retS (mkL (consA (ifE (tst (bin2 g_ge (evVar 1) (bin2 gPow (evC (.int 10)) (evC (.int 18))))) (bin2 gFdiv (evVar 1) (evC (.int 97))) (evC (.int 0))) (consA (bin2 gAdd (bin2 gMod (callB gInt (consA (bin2 gAdd (bin2 gMul (evVar 1) (evC (.int 337))) (evC (.int 4801))) (nilA))) (evC (.int 2034129307))) (evC (.int 193))) (nilA)))))
def g_law_cup : List D → Rs := runF [false] 2 m_law_cup
theorem den_law_cup (T : Txt K mg) : Den P w K mg base 1 "_law_cup" ["script"] [false] g_law_cup := by
  refine den_of T.f_law_cup sc_law_cup rfl (by decide) ?_
  intro f cdv A outer s H E F hr hK hG hx tk hp
  exact (dss_cons (ds_set sc_law_cup.nd rfl (Or.inl rfl) (de_abs hK rfl rfl T.b_abs (da_cons (de_ix hK (de_add hK (de_list hK rfl rfl T.b_list (da_cons (de_var 0) da_nil)) (de_lst (da_cons de_int da_nil))) de_int) da_nil)))
    (dss_one (ds_ret (de_lst (da_cons (de_if (dt_cmp (o_ge hK hr) s_ge' (de_var 1) (de_pow de_int de_int) (nomark _)) (de_fdiv (de_var 1) de_int) de_int) (da_cons (de_add hK (de_mod (de_intc hK rfl rfl T.b_int (da_cons (de_add hK (de_mul hK (de_var 1) de_int) de_int) da_nil)) de_int) de_int) da_nil))))))
abbrev s_law_roll : Stmt := top 26
theorem sc_law_roll : FnScope ["cup", "many", "found", "deep"] ["cup", "many"] (defScope s_law_roll) := ⟨rfl, rfl, rfl, by decide +kernel, rfl, by decide +kernel, by decide +kernel⟩
def m_law_roll : MS := seqS (ifS (tst (bin2 g_gt (bin2 gIx (evVar 0) (evC (.int 0))) (evC (.int 0))))
    (seqS (asg 2 (bin2 gMod (callB gInt (consA (bin2 gIx (evVar 0) (evC (.int 0))) (nilA))) (evVar 1)))
    (seqS (stoL 0 (evC (.int 0)) (bin2 gFdiv (bin2 gIx (evVar 0) (evC (.int 0))) (evVar 1)))
    (retS (evVar 2))))
    (nop))
    (seqS (stoL 0 (evC (.int 1)) (bin2 gMod (callB gInt (consA (bin2 gAdd (bin2 gMul (bin2 gIx (evVar 0) (evC (.int 1))) (evC (.int 30493))) (evC (.int 8513))) (nilA))) (evC (.int 2147483543))))
    (seqS (asg 3 (bin2 gMod (callB gInt (consA (bin2 gMul (bin2 gIx (evVar 0) (evC (.int 1))) (bin2 gAdd (bin2 gIx (evVar 0) (evC (.int 1))) (evC (.int 269)))) (nilA))) (evC (.int 2147483587))))
    (retS (bin2 gMod (callB gInt (consA (bin2 gFdiv (evVar 3) (evC (.int 857))) (nilA))) (evVar 1)))))
def g_law_roll : List D → Rs := runF [true, false] 4 m_law_roll
theorem den_law_roll (T : Txt K mg) : Den P w K mg base 1 "_law_roll" ["cup", "many"] [true, false] g_law_roll := by
  refine den_of T.f_law_roll sc_law_roll rfl (by decide) ?_
  intro f cdv A outer s H E F hr hK hG hx tk hp
  exact (dss_cons (ds_if (dt_cmp (o_gt hK hr) s_gt' (de_ix hK (de_var 0) de_int) de_int (nomark _)) (dss_cons (ds_set sc_law_roll.nd rfl (Or.inl rfl) (de_mod (de_intc hK rfl rfl T.b_int (da_cons (de_ix hK (de_var 0) de_int) da_nil)) (de_var 1)))
    (dss_cons (ds_stoL rfl (Or.inl rfl) de_int (de_fdiv (de_ix hK (de_var 0) de_int) (de_var 1)))
    (dss_one (ds_ret (de_var 2))))) dss_nil)
    (dss_cons (ds_stoL rfl (Or.inl rfl) de_int (de_mod (de_intc hK rfl rfl T.b_int (da_cons (de_add hK (de_mul hK (de_ix hK (de_var 0) de_int) de_int) de_int) da_nil)) de_int))
    (dss_cons (ds_set sc_law_roll.nd rfl (Or.inl rfl) (de_mod (de_intc hK rfl rfl T.b_int (da_cons (de_mul hK (de_ix hK (de_var 0) de_int) (de_add hK (de_ix hK (de_var 0) de_int) de_int)) da_nil)) de_int))
    (dss_one (ds_ret (de_mod (de_intc hK rfl rfl T.b_int (da_cons (de_fdiv (de_var 3) de_int) da_nil)) (de_var 1)))))))
abbrev s_law_some : Stmt := top 27
theorem sc_law_some : FnScope ["cup", "things"] ["cup", "things"] (defScope s_law_some) := ⟨rfl, rfl, rfl, by decide +kernel, rfl, by decide +kernel, by decide +kernel⟩
def m_law_some : MS := retS (bin2 gIx (evVar 1) (call [true, false] g_law_roll (consA (evVar 0) (consA (callB gLen (consA (evVar 1) (nilA))) (nilA)))))
def g_law_some : List D → Rs := runF [true, false] 2 m_law_some
theorem den_law_some (T : Txt K mg) : Den P w K mg base 2 "_law_some" ["cup", "things"] [true, false] g_law_some := by
  refine den_of T.f_law_some sc_law_some rfl (by decide) ?_
  intro f cdv A outer s H E F hr hK hG hx tk hp
  exact (dss_one (ds_ret (de_ix hK (de_var 1) (de_callD (den_law_roll T) hK hG hx (hr.mono (by first | decide | omega)) rfl (da_cons (de_var 0) (da_cons (de_len hK rfl rfl T.b_len (da_cons (de_var 1) da_nil)) da_nil))))))
abbrev s_law_word : Stmt := top 30
theorem sc_law_word : FnScope ["cup", "many", "letters", "found", "turn", "letter"] ["cup", "many", "letters"] (defScope s_law_word) := ⟨rfl, rfl, rfl, by decide +kernel, rfl, by decide +kernel, by decide +kernel⟩
def b_law_word_1 : MS := seqS (asg 5 (bin2 gMul (bin2 gAdd (evC (.int 1)) (call [true, false] g_law_roll (consA (evVar 0) (consA (bin2 gSub (evVar 1) (evC (.int 1))) (nilA))))) (call [true, false] g_law_some (consA (evVar 0) (consA (mkL (consA (evC (.int 1)) (consA (un1 gNeg (evC (.int 1))) (nilA)))) (nilA))))))
    (asg 3 (bin2 gAdd (evVar 3) (mkT (consA (ifE (andT (tst (bin2 g_ne (evVar 3) (mkT (nilA)))) (tst (bin2 g_eq (call [true, false] g_law_roll (consA (evVar 0) (consA (evC (.int 4)) (nilA)))) (evC (.int 0))))) (un1 gNeg (call [true, false] g_law_some (consA (evVar 0) (consA (evVar 3) (nilA))))) (evVar 5)) (nilA)))))
def l_law_word_1 : MS := forS (itR1 (consA (call [true, false] g_law_roll (consA (evVar 0) (consA (bin2 gAdd (evVar 2) (evC (.int 1))) (nilA)))) (nilA))) (tgN 4) (b_law_word_1)
def m_law_word : MS := seqS (asg 3 (mkT (nilA)))
    (seqS (l_law_word_1)
    (retS (evVar 3)))
def g_law_word : List D → Rs := runF [true, false, false] 6 m_law_word
theorem den_law_word (T : Txt K mg) : Den P w K mg base 3 "_law_word" ["cup", "many", "letters"] [true, false, false] g_law_word := by
  refine den_of T.f_law_word sc_law_word rfl (by decide) ?_
  intro f cdv A outer s H E F hr hK hG hx tk hp
  exact (dss_cons (ds_set sc_law_word.nd rfl (Or.inl rfl) (de_tup da_nil))
    (dss_cons (ds_for hp rfl (di_r1 rfl T.b_range (da_cons (de_callD (den_law_roll T) hK hG hx (hr.mono (by first | decide | omega)) rfl (da_cons (de_var 0) (da_cons (de_add hK (de_var 2) de_int) da_nil))) da_nil)) (dg_name 4 sc_law_word.nd rfl (Or.inl rfl))
    (dss_cons (ds_set sc_law_word.nd rfl (Or.inl rfl) (de_mul hK (de_add hK de_int (de_callD (den_law_roll T) hK hG hx (hr.mono (by first | decide | omega)) rfl (da_cons (de_var 0) (da_cons (de_sub (de_var 1) de_int) da_nil)))) (de_callD (den_law_some T) hK hG hx (hr.mono (by first | decide | omega)) rfl (da_cons (de_var 0) (da_cons (de_lst (da_cons de_int (da_cons (de_neg de_int) da_nil))) da_nil)))))
    (dss_one (ds_set sc_law_word.nd rfl (Or.inl rfl) (de_add hK (de_var 3) (de_tup (da_cons (de_if (dt_pw (dw_and (dt_cmp (o_ne hK hr) s_ne' (de_var 3) (de_tup da_nil) (nomark _)) (dw_and1 (dt_cmp (o_eq hK hr) s_eq' (de_callD (den_law_roll T) hK hG hx (hr.mono (by first | decide | omega)) rfl (da_cons (de_var 0) (da_cons de_int da_nil))) de_int (nomark _))))) (de_neg (de_callD (den_law_some T) hK hG hx (hr.mono (by first | decide | omega)) rfl (da_cons (de_var 0) (da_cons (de_var 3) da_nil)))) (de_var 5)) da_nil)))))))
    (dss_one (ds_ret (de_var 3)))))
abbrev s_is_whole : Stmt := top 5
theorem sc_is_whole : FnScope ["value", "low", "high"] ["value", "low", "high"] (defScope s_is_whole) := ⟨rfl, rfl, rfl, by decide +kernel, rfl, by decide +kernel, by decide +kernel⟩
def m_is_whole : MS := retS (andV (isi "int" (evVar 0)) (andV (notV (isi "bool" (evVar 0))) (chain g_le g_le (evVar 1) (evVar 0) (evVar 2))))
def g_is_whole : List D → Rs := runF [false, false, false] 3 m_is_whole
theorem den_is_whole (T : Txt K mg) : Den P w K mg base 1 "is_whole" ["value", "low", "high"] [false, false, false] g_is_whole := by
  refine den_of T.f_is_whole sc_is_whole rfl (by decide) ?_
  intro f cdv A outer s H E F hr hK hG hx tk hp
  exact (dss_one (ds_ret (de_and (de_isi hK (by decide) rfl T.b_isinstance (by decide +kernel) rfl T.b_int (by decide +kernel) (de_var 0)) (de_and (de_not (de_isi hK (by decide) rfl T.b_isinstance (by decide +kernel) rfl T.b_bool (by decide +kernel) (de_var 0))) (de_one (de_chain (o_le hK hr) (o_le hK hr) s_le' s_le' (de_var 1) (de_var 0) (de_var 2)))))))
abbrev s_need_whole : Stmt := top 6
theorem sc_need_whole : FnScope ["value", "low", "high"] ["value", "low", "high"] (defScope s_need_whole) := ⟨rfl, rfl, rfl, by decide +kernel, rfl, by decide +kernel, by decide +kernel⟩
def m_need_whole : MS := ifS (notT (truth (call [false, false, false] g_is_whole (consA (evVar 0) (consA (evVar 1) (consA (evVar 2) (nilA)))))))
    (raiseS "InvalidNumber")
    (nop)
def g_need_whole : List D → Rs := runF [false, false, false] 3 m_need_whole
theorem den_need_whole (T : Txt K mg) : Den P w K mg base 2 "need_whole" ["value", "low", "high"] [false, false, false] g_need_whole := by
  refine den_of T.f_need_whole sc_need_whole rfl (by decide) ?_
  intro f cdv A outer s H E F hr hK hG hx tk hp
  exact (dss_one (ds_if (dt_not (dt_truth hK (de_callD (den_is_whole T) hK hG hx (hr.mono (by first | decide | omega)) rfl (da_cons (de_var 0) (da_cons (de_var 1) (da_cons (de_var 2) da_nil)))))) (dss_one (ds_raiseD T.x_InvalidNumber rfl hG tk rfl)) dss_nil))
abbrev s_need_many : Stmt := top 11
theorem sc_need_many : FnScope ["value"] ["value"] (defScope s_need_many) := ⟨rfl, rfl, rfl, by decide +kernel, rfl, by decide +kernel, by decide +kernel⟩
def m_need_many : MS := drop (call [false, false, false] g_need_whole (consA (evVar 0) (consA (evC (.int 2)) (consA (evC (.int 8)) (nilA)))))
def g_need_many : List D → Rs := runF [false] 1 m_need_many
theorem den_need_many (T : Txt K mg) : Den P w K mg base 3 "need_many" ["value"] [false] g_need_many := by
  refine den_of T.f_need_many sc_need_many rfl (by decide) ?_
  intro f cdv A outer s H E F hr hK hG hx tk hp
  exact (dss_one (ds_expr (de_callD (den_need_whole T) hK hG hx (hr.mono (by first | decide | omega)) rfl (da_cons (de_var 0) (da_cons de_int (da_cons (de_globI T.c_LINES rfl) da_nil))))))
abbrev s_is_tuple_of : Stmt := top 7
theorem sc_is_tuple_of : FnScope ["value", "low", "high"] ["value", "low", "high"] (defScope s_is_tuple_of) := ⟨rfl, rfl, rfl, by decide +kernel, rfl, by decide +kernel, by decide +kernel⟩
def m_is_tuple_of : MS := retS (andV (isi "tuple" (evVar 0)) (chain g_le g_le (evVar 1) (callB gLen (consA (evVar 0) (nilA))) (evVar 2)))
def g_is_tuple_of : List D → Rs := runF [false, false, false] 3 m_is_tuple_of
theorem den_is_tuple_of (T : Txt K mg) : Den P w K mg base 1 "is_tuple_of" ["value", "low", "high"] [false, false, false] g_is_tuple_of := by
  refine den_of T.f_is_tuple_of sc_is_tuple_of rfl (by decide) ?_
  intro f cdv A outer s H E F hr hK hG hx tk hp
  exact (dss_one (ds_ret (de_and (de_isi hK (by decide) rfl T.b_isinstance (by decide +kernel) rfl T.b_tuple (by decide +kernel) (de_var 0)) (de_one (de_chain (o_le hK hr) (o_le hK hr) s_le' s_le' (de_var 1) (de_len hK rfl rfl T.b_len (da_cons (de_var 0) da_nil)) (de_var 2))))))
abbrev s_is_letter : Stmt := top 12
theorem sc_is_letter : FnScope ["many", "value"] ["many", "value"] (defScope s_is_letter) := ⟨rfl, rfl, rfl, by decide +kernel, rfl, by decide +kernel, by decide +kernel⟩
def m_is_letter : MS := retS (andV (call [false, false, false] g_is_whole (consA (evVar 1) (consA (bin2 gSub (evC (.int 1)) (evVar 0)) (consA (bin2 gSub (evVar 0) (evC (.int 1))) (nilA))))) (bin2 g_ne (evVar 1) (evC (.int 0))))
def g_is_letter : List D → Rs := runF [false, false] 2 m_is_letter
theorem den_is_letter (T : Txt K mg) : Den P w K mg base 2 "is_letter" ["many", "value"] [false, false] g_is_letter := by
  refine den_of T.f_is_letter sc_is_letter rfl (by decide) ?_
  intro f cdv A outer s H E F hr hK hG hx tk hp
  exact (dss_one (ds_ret (de_and (de_callD (den_is_whole T) hK hG hx (hr.mono (by first | decide | omega)) rfl (da_cons (de_var 1) (da_cons (de_sub de_int (de_var 0)) (da_cons (de_sub (de_var 0) de_int) da_nil)))) (de_one (de_cmp (o_ne hK hr) s_ne' (de_var 1) de_int (nomark _))))))
abbrev s_fits_word : Stmt := top 13
theorem sc_fits_word : FnScope ["many", "value", "letter"] ["many", "value"] (defScope s_fits_word) := ⟨rfl, rfl, rfl, by decide +kernel, rfl, by decide +kernel, by decide +kernel⟩
def c_fits_word_1 : M Od := lc (itQ (evVar 1)) (tgN 2) (yesT) (noErr (call [false, false] g_is_letter (consA (evVar 0) (consA (evVar 2) (nilA))))) [2]
def m_fits_word : MS := retS (andV (call [false, false, false] g_is_tuple_of (consA (evVar 1) (consA (evC (.int 0)) (consA (evC (.int 60)) (nilA))))) (callB gAll (consA (c_fits_word_1) (nilA))))
def g_fits_word : List D → Rs := runF [false, false] 3 m_fits_word
theorem den_fits_word (T : Txt K mg) : Den P w K mg base 3 "fits_word" ["many", "value"] [false, false] g_fits_word := by
  refine den_of T.f_fits_word sc_fits_word rfl (by decide) ?_
  intro f cdv A outer s H E F hr hK hG hx tk hp
  exact (dss_one (ds_ret (de_and (de_callD (den_is_tuple_of T) hK hG hx (hr.mono (by first | decide | omega)) rfl (da_cons (de_var 1) (da_cons de_int (da_cons (de_globI T.c_LETTERS rfl) da_nil)))) (de_one (de_all hK rfl rfl T.b_all (da_cons (de_lc (own := [("letter", 2)]) rfl sc_fits_word.nd (di_seq hK (de_var 1)) (blkOk_by (N := (["many", "value", "letter"] : List Str)) (sc := (defScope s_fits_word)) (by decide +kernel)) (by decide) (mg_name 2) (fun _ _ _ _ _ => (dg_name 2 sc_fits_word.nd rfl (Or.inl rfl))) (fun _ _ _ _ _ => dts_nil) (fun _ _ _ _ _ => (de_callDN (den_is_letter T) hK hG (hr.mono (by first | decide | omega)) rfl (da_cons (de_var 0) (da_cons (de_var 2) da_nil))))) da_nil))))))
abbrev s_is_word : Stmt := top 19
theorem sc_is_word : FnScope ["many", "value"] ["many", "value"] (defScope s_is_word) := ⟨rfl, rfl, rfl, by decide +kernel, rfl, by decide +kernel, by decide +kernel⟩
def m_is_word : MS := seqS (drop (call [false] g_need_many (consA (evVar 0) (nilA))))
    (retS (call [false, false] g_fits_word (consA (evVar 0) (consA (evVar 1) (nilA)))))
def g_is_word : List D → Rs := runF [false, false] 2 m_is_word
theorem den_is_word (T : Txt K mg) : Den P w K mg base 4 "is_word" ["many", "value"] [false, false] g_is_word := by
  refine den_of T.f_is_word sc_is_word rfl (by decide) ?_
  intro f cdv A outer s H E F hr hK hG hx tk hp
  exact (dss_cons (ds_expr (de_callD (den_need_many T) hK hG hx (hr.mono (by first | decide | omega)) rfl (da_cons (de_var 0) da_nil)))
    (dss_one (ds_ret (de_callD (den_fits_word T) hK hG hx (hr.mono (by first | decide | omega)) rfl (da_cons (de_var 0) (da_cons (de_var 1) da_nil))))))
abbrev s_need_word : Stmt := top 14
theorem sc_need_word : FnScope ["many", "value"] ["many", "value"] (defScope s_need_word) := ⟨rfl, rfl, rfl, by decide +kernel, rfl, by decide +kernel, by decide +kernel⟩
def m_need_word : MS := seqS (drop (call [false] g_need_many (consA (evVar 0) (nilA))))
    (ifS (notT (truth (call [false, false] g_fits_word (consA (evVar 0) (consA (evVar 1) (nilA))))))
    (raiseS "InvalidWord")
    (nop))
def g_need_word : List D → Rs := runF [false, false] 2 m_need_word
theorem den_need_word (T : Txt K mg) : Den P w K mg base 4 "need_word" ["many", "value"] [false, false] g_need_word := by
  refine den_of T.f_need_word sc_need_word rfl (by decide) ?_
  intro f cdv A outer s H E F hr hK hG hx tk hp
  exact (dss_cons (ds_expr (de_callD (den_need_many T) hK hG hx (hr.mono (by first | decide | omega)) rfl (da_cons (de_var 0) da_nil)))
    (dss_one (ds_if (dt_not (dt_truth hK (de_callD (den_fits_word T) hK hG hx (hr.mono (by first | decide | omega)) rfl (da_cons (de_var 0) (da_cons (de_var 1) da_nil))))) (dss_one (ds_raiseD T.x_InvalidWord rfl hG tk rfl)) dss_nil)))
abbrev s_order_in : Stmt := top 16
theorem sc_order_in : FnScope ["many", "letters", "found", "letter", "at"] ["many", "letters"] (defScope s_order_in) := ⟨rfl, rfl, rfl, by decide +kernel, rfl, by decide +kernel, by decide +kernel⟩
def b_order_in_1 : MS := seqS (asg 4 (bin2 gSub (callB gAbs (consA (evVar 3) (nilA))) (evC (.int 1))))
    (sto2 2 2 (evVar 4) (bin2 gAdd (evVar 4) (evC (.int 1))) (bin2 gIx (evVar 2) (bin2 gAdd (evVar 4) (evC (.int 1)))) (bin2 gIx (evVar 2) (evVar 4)))
def l_order_in_1 : MS := forS (itQ (evVar 1)) (tgN 3) (b_order_in_1)
def m_order_in : MS := seqS (asg 2 (lstR (evC (.int 1)) (bin2 gAdd (evVar 0) (evC (.int 1)))))
    (seqS (l_order_in_1)
    (retS (evVar 2)))
def g_order_in : List D → Rs := runF [false, false] 5 m_order_in
theorem den_order_in (T : Txt K mg) : Den P w K mg base 1 "order_in" ["many", "letters"] [false, false] g_order_in := by
  refine den_of T.f_order_in sc_order_in rfl (by decide) ?_
  intro f cdv A outer s H E F hr hK hG hx tk hp
  exact (dss_cons (ds_set sc_order_in.nd rfl (Or.inl rfl) (de_lstR2 rfl rfl T.b_list rfl T.b_range de_int (de_add hK (de_var 0) de_int)))
    (dss_cons (ds_for hp rfl (di_seq hK (de_var 1)) (dg_name 3 sc_order_in.nd rfl (Or.inl rfl))
    (dss_cons (ds_set sc_order_in.nd rfl (Or.inl rfl) (de_sub (de_abs hK rfl rfl T.b_abs (da_cons (de_var 3) da_nil)) de_int))
    (dss_one (ds_sto2 rfl hK rfl (Or.inl rfl) rfl (Or.inl rfl) (de_var 4) (de_add hK (de_var 4) de_int) (de_ix hK (de_var 2) (de_add hK (de_var 4) de_int)) (de_ix hK (de_var 2) (de_var 4))))))
    (dss_one (ds_ret (de_var 2)))))
abbrev s_order_behind : Stmt := top 20
theorem sc_order_behind : FnScope ["many", "word"] ["many", "word"] (defScope s_order_behind) := ⟨rfl, rfl, rfl, by decide +kernel, rfl, by decide +kernel, by decide +kernel⟩
def m_order_behind : MS := seqS (drop (call [false, false] g_need_word (consA (evVar 0) (consA (evVar 1) (nilA)))))
    (retS (callB gTuple (consA (call [false, false] g_order_in (consA (evVar 0) (consA (evVar 1) (nilA)))) (nilA))))
def g_order_behind : List D → Rs := runF [false, false] 2 m_order_behind
theorem den_order_behind (T : Txt K mg) : Den P w K mg base 5 "order_behind" ["many", "word"] [false, false] g_order_behind := by
  refine den_of T.f_order_behind sc_order_behind rfl (by decide) ?_
  intro f cdv A outer s H E F hr hK hG hx tk hp
  exact (dss_cons (ds_expr (de_callD (den_need_word T) hK hG hx (hr.mono (by first | decide | omega)) rfl (da_cons (de_var 0) (da_cons (de_var 1) da_nil))))
    (dss_one (ds_ret (de_tuple hK rfl rfl T.b_tuple (da_cons (de_callD (den_order_in T) hK hG hx (hr.mono (by first | decide | omega)) rfl (da_cons (de_var 0) (da_cons (de_var 1) da_nil))) da_nil)))))
abbrev s_sign_of : Stmt := top 15
theorem sc_sign_of : FnScope ["letter"] ["letter"] (defScope s_sign_of) := ⟨rfl, rfl, rfl, by decide +kernel, rfl, by decide +kernel, by decide +kernel⟩
def m_sign_of : MS := retS (ifE (tst (bin2 g_gt (evVar 0) (evC (.int 0)))) (evC (.int 1)) (un1 gNeg (evC (.int 1))))
def g_sign_of : List D → Rs := runF [false] 1 m_sign_of
theorem den_sign_of (T : Txt K mg) : Den P w K mg base 1 "sign_of" ["letter"] [false] g_sign_of := by
  refine den_of T.f_sign_of sc_sign_of rfl (by decide) ?_
  intro f cdv A outer s H E F hr hK hG hx tk hp
  exact (dss_one (ds_ret (de_if (dt_cmp (o_gt hK hr) s_gt' (de_var 0) de_int (nomark _)) de_int (de_neg de_int))))
abbrev s_windings : Stmt := top 21
theorem sc_windings : FnScope ["many", "word", "hang", "found", "letter", "at", "pair"] ["many", "word"] (defScope s_windings) := ⟨rfl, rfl, rfl, by decide +kernel, rfl, by decide +kernel, by decide +kernel⟩
def b_windings_1 : MS := seqS (asg 5 (bin2 gSub (callB gAbs (consA (evVar 4) (nilA))) (evC (.int 1))))
    (seqS (asg 6 (mkT (consA (callB gMin2 (consA (bin2 gIx2 (evVar 2) (evVar 5)) (consA (bin2 gIx2 (evVar 2) (bin2 gAdd (evVar 5) (evC (.int 1)))) (nilA)))) (consA (callB gMax2 (consA (bin2 gIx2 (evVar 2) (evVar 5)) (consA (bin2 gIx2 (evVar 2) (bin2 gAdd (evVar 5) (evC (.int 1)))) (nilA)))) (nilA)))))
    (seqS (stoL2 3 (evVar 6) (bin2 gAdd (getV 3 (evVar 6) (evC (.int 0))) (call [false] g_sign_of (consA (evVar 4) (nilA)))))
    (sto2 2 2 (evVar 5) (bin2 gAdd (evVar 5) (evC (.int 1))) (bin2 gIx2 (evVar 2) (bin2 gAdd (evVar 5) (evC (.int 1)))) (bin2 gIx2 (evVar 2) (evVar 5)))))
def l_windings_1 : MS := forS (itQ (evVar 1)) (tgN 4) (b_windings_1)
def c_windings_1 : M Od := lc (itQ (callB gSorted2 (consA (evVar 3) (nilA)))) (tgN 6) (tst (bin2 g_ne (ixV 3 (evVar 6)) (evC (.int 0)))) (bin2 gAdd (evVar 6) (mkT (consA (ixV 3 (evVar 6)) (nilA)))) [6]
def m_windings : MS := seqS (drop (call [false, false] g_need_word (consA (evVar 0) (consA (evVar 1) (nilA)))))
    (seqS (par2 2 3 (lstR (evC (.int 1)) (bin2 gAdd (evVar 0) (evC (.int 1)))) (newT))
    (seqS (l_windings_1)
    (retS (callB gTuple (consA (c_windings_1) (nilA))))))
def g_windings : List D → Rs := runF [false, false] 7 m_windings
theorem den_windings (T : Txt K mg) : Den P w K mg base 5 "windings" ["many", "word"] [false, false] g_windings := by
  refine den_of T.f_windings sc_windings rfl (by decide) ?_
  intro f cdv A outer s H E F hr hK hG hx tk hp
  exact (dss_cons (ds_expr (de_callD (den_need_word T) hK hG hx (hr.mono (by first | decide | omega)) rfl (da_cons (de_var 0) (da_cons (de_var 1) da_nil))))
    (dss_cons (ds_parC rfl sc_windings.nd rfl rfl (Or.inl rfl) (Or.inr rfl) (de_lstR2 rfl rfl T.b_list rfl T.b_range de_int (de_add hK (de_var 0) de_int)) de_newT)
    (dss_cons (ds_for hp rfl (di_seq hK (de_var 1)) (dg_name 4 sc_windings.nd rfl (Or.inl rfl))
    (dss_cons (ds_set sc_windings.nd rfl (Or.inl rfl) (de_sub (de_abs hK rfl rfl T.b_abs (da_cons (de_var 4) da_nil)) de_int))
    (dss_cons (ds_set sc_windings.nd rfl (Or.inl rfl) (de_tup (da_cons (de_min2 hK rfl rfl T.b_min (da_cons (de_ix2 hK hr (de_var 2) (de_var 5)) (da_cons (de_ix2 hK hr (de_var 2) (de_add hK (de_var 5) de_int)) da_nil))) (da_cons (de_max2 hK rfl rfl T.b_max (da_cons (de_ix2 hK hr (de_var 2) (de_var 5)) (da_cons (de_ix2 hK hr (de_var 2) (de_add hK (de_var 5) de_int)) da_nil))) da_nil))))
    (dss_cons (ds_stoL2 hr rfl (Or.inr (Or.inl rfl)) (de_var 6) (de_add hK (de_getV (i := 3) hr (de_var 6) de_int ⟨rfl, rfl, rfl, rfl⟩) (de_callD (den_sign_of T) hK hG hx (hr.mono (by first | decide | omega)) rfl (da_cons (de_var 4) da_nil))))
    (dss_one (ds_sto2 rfl hK rfl (Or.inl rfl) rfl (Or.inl rfl) (de_var 5) (de_add hK (de_var 5) de_int) (de_ix2 hK hr (de_var 2) (de_add hK (de_var 5) de_int)) (de_ix2 hK hr (de_var 2) (de_var 5))))))))
    (dss_one (ds_ret (de_tuple hK rfl rfl T.b_tuple (da_cons (de_lc (own := [("pair", 6)]) rfl sc_windings.nd (di_seq hK (de_sorted2 hK rfl rfl T.b_sorted (da_cons (de_var 3) da_nil))) (blkOk_by (N := (["many", "word", "hang", "found", "letter", "at", "pair"] : List Str)) (sc := (defScope s_windings)) (by decide +kernel)) (by decide) (mg_name 6) (fun _ _ _ _ _ => (dg_name 6 sc_windings.nd rfl (Or.inl rfl))) (fun _ _ _ _ _ => (dts_one (dt_cmp (o_ne hK hr) s_ne' (de_ixV (i := 3) hK hr (de_var 6)) de_int (nomark _)))) (fun _ _ _ _ _ => (de_add hK (de_var 6) (de_tup (da_cons (de_ixV (i := 3) hK hr (de_var 6)) da_nil))))) da_nil)))))))
abbrev s_sum_in : Stmt := top 18
theorem sc_sum_in : FnScope ["letters", "letter"] ["letters"] (defScope s_sum_in) := ⟨rfl, rfl, rfl, by decide +kernel, rfl, by decide +kernel, by decide +kernel⟩
def c_sum_in_1 : M Od := lc (itQ (evVar 0)) (tgN 1) (yesT) (noErr (call [false] g_sign_of (consA (evVar 1) (nilA)))) [1]
def m_sum_in : MS := retS (callB gSum (consA (c_sum_in_1) (nilA)))
def g_sum_in : List D → Rs := runF [false] 2 m_sum_in
theorem den_sum_in (T : Txt K mg) : Den P w K mg base 2 "sum_in" ["letters"] [false] g_sum_in := by
  refine den_of T.f_sum_in sc_sum_in rfl (by decide) ?_
  intro f cdv A outer s H E F hr hK hG hx tk hp
  exact (dss_one (ds_ret (de_sum hK rfl rfl T.b_sum (da_cons (de_lc (own := [("letter", 1)]) rfl sc_sum_in.nd (di_seq hK (de_var 0)) (blkOk_by (N := (["letters", "letter"] : List Str)) (sc := (defScope s_sum_in)) (by decide +kernel)) (by decide) (mg_name 1) (fun _ _ _ _ _ => (dg_name 1 sc_sum_in.nd rfl (Or.inl rfl))) (fun _ _ _ _ _ => dts_nil) (fun _ _ _ _ _ => (de_callDN (den_sign_of T) hK hG (hr.mono (by first | decide | omega)) rfl (da_cons (de_var 1) da_nil)))) da_nil))))
abbrev s_sum_of : Stmt := top 22
theorem sc_sum_of : FnScope ["many", "word"] ["many", "word"] (defScope s_sum_of) := ⟨rfl, rfl, rfl, by decide +kernel, rfl, by decide +kernel, by decide +kernel⟩
def m_sum_of : MS := seqS (drop (call [false, false] g_need_word (consA (evVar 0) (consA (evVar 1) (nilA)))))
    (retS (call [false] g_sum_in (consA (evVar 1) (nilA))))
def g_sum_of : List D → Rs := runF [false, false] 2 m_sum_of
theorem den_sum_of (T : Txt K mg) : Den P w K mg base 5 "sum_of" ["many", "word"] [false, false] g_sum_of := by
  refine den_of T.f_sum_of sc_sum_of rfl (by decide) ?_
  intro f cdv A outer s H E F hr hK hG hx tk hp
  exact (dss_cons (ds_expr (de_callD (den_need_word T) hK hG hx (hr.mono (by first | decide | omega)) rfl (da_cons (de_var 0) (da_cons (de_var 1) da_nil))))
    (dss_one (ds_ret (de_callD (den_sum_in T) hK hG hx (hr.mono (by first | decide | omega)) rfl (da_cons (de_var 1) da_nil)))))
abbrev s_back_in : Stmt := top 17
theorem sc_back_in : FnScope ["letters", "letter"] ["letters"] (defScope s_back_in) := ⟨rfl, rfl, rfl, by decide +kernel, rfl, by decide +kernel, by decide +kernel⟩
def c_back_in_1 : M Od := lc (itQ (un1 gRev (evVar 0))) (tgN 1) (yesT) (un1 gNeg (evVar 1)) [1]
def m_back_in : MS := retS (callB gTuple (consA (c_back_in_1) (nilA)))
def g_back_in : List D → Rs := runF [false] 2 m_back_in
theorem den_back_in (T : Txt K mg) : Den P w K mg base 1 "back_in" ["letters"] [false] g_back_in := by
  refine den_of T.f_back_in sc_back_in rfl (by decide) ?_
  intro f cdv A outer s H E F hr hK hG hx tk hp
  exact (dss_one (ds_ret (de_tuple hK rfl rfl T.b_tuple (da_cons (de_lc (own := [("letter", 1)]) rfl sc_back_in.nd (di_seq hK (de_rev hK (de_var 0))) (blkOk_by (N := (["letters", "letter"] : List Str)) (sc := (defScope s_back_in)) (by decide +kernel)) (by decide) (mg_name 1) (fun _ _ _ _ _ => (dg_name 1 sc_back_in.nd rfl (Or.inl rfl))) (fun _ _ _ _ _ => dts_nil) (fun _ _ _ _ _ => (de_neg (de_var 1)))) da_nil))))
abbrev s_back_of : Stmt := top 23
theorem sc_back_of : FnScope ["many", "word"] ["many", "word"] (defScope s_back_of) := ⟨rfl, rfl, rfl, by decide +kernel, rfl, by decide +kernel, by decide +kernel⟩
def m_back_of : MS := seqS (drop (call [false, false] g_need_word (consA (evVar 0) (consA (evVar 1) (nilA)))))
    (retS (call [false] g_back_in (consA (evVar 1) (nilA))))
def g_back_of : List D → Rs := runF [false, false] 2 m_back_of
theorem den_back_of (T : Txt K mg) : Den P w K mg base 5 "back_of" ["many", "word"] [false, false] g_back_of := by
  refine den_of T.f_back_of sc_back_of rfl (by decide) ?_
  intro f cdv A outer s H E F hr hK hG hx tk hp
  exact (dss_cons (ds_expr (de_callD (den_need_word T) hK hG hx (hr.mono (by first | decide | omega)) rfl (da_cons (de_var 0) (da_cons (de_var 1) da_nil))))
    (dss_one (ds_ret (de_callD (den_back_in T) hK hG hx (hr.mono (by first | decide | omega)) rfl (da_cons (de_var 1) da_nil)))))
abbrev s_law_order : Stmt := top 33
theorem sc_law_order : FnScope ["many", "letters", "found", "letter", "at", "line"] ["many", "letters"] (defScope s_law_order) := ⟨rfl, rfl, rfl, by decide +kernel, rfl, by decide +kernel, by decide +kernel⟩
def c_law_order_1 : M Od := lc (itR1 (consA (evVar 0) (nilA))) (tgN 5) (yesT) (bin2 gAdd (evVar 5) (evC (.int 1))) [5]
def b_law_order_1 : MS := seqS (asg 4 (bin2 gSub (callB gAbs (consA (evVar 3) (nilA))) (evC (.int 1))))
    (asg 2 (bin2 gAdd (bin2 gAdd (slc (evVar 2) noP (someP (evVar 4))) (mkL (consA (bin2 gIx (evVar 2) (bin2 gAdd (evVar 4) (evC (.int 1)))) (consA (bin2 gIx (evVar 2) (evVar 4)) (nilA))))) (slc (evVar 2) (someP (bin2 gAdd (evVar 4) (evC (.int 2)))) noP)))
def l_law_order_1 : MS := forS (itQ (evVar 1)) (tgN 3) (b_law_order_1)
def m_law_order : MS := seqS (asg 2 (c_law_order_1))
    (seqS (l_law_order_1)
    (retS (callB gTuple (consA (evVar 2) (nilA)))))
def g_law_order : List D → Rs := runF [false, false] 6 m_law_order
theorem den_law_order (T : Txt K mg) : Den P w K mg base 1 "_law_order" ["many", "letters"] [false, false] g_law_order := by
  refine den_of T.f_law_order sc_law_order rfl (by decide) ?_
  intro f cdv A outer s H E F hr hK hG hx tk hp
  exact (dss_cons (ds_setLc (own := [("line", 5)]) (i := 2) rfl sc_law_order.nd rfl rfl (sw_true rfl rfl rfl (by decide +kernel)) (di_r1 rfl T.b_range (da_cons (de_var 0) da_nil)) (blkOk_by (N := (["many", "letters", "found", "letter", "at", "line"] : List Str)) (sc := (defScope s_law_order)) (by decide +kernel)) (by decide) (mg_name 5) (fun _ _ _ _ _ => (dg_name 5 sc_law_order.nd rfl (Or.inl rfl))) (fun _ _ _ _ _ => dts_nil) (fun _ _ _ _ _ => (de_add hK (de_var 5) de_int)))
    (dss_cons (ds_for hp rfl (di_seq hK (de_var 1)) (dg_name 3 sc_law_order.nd rfl (Or.inl rfl))
    (dss_cons (ds_set sc_law_order.nd rfl (Or.inl rfl) (de_sub (de_abs hK rfl rfl T.b_abs (da_cons (de_var 3) da_nil)) de_int))
    (dss_one (ds_set sc_law_order.nd rfl (Or.inl rfl) (de_add hK (de_add hK (de_sl hK (de_var 2) do_none (do_some (de_var 4))) (de_lst (da_cons (de_ix hK (de_var 2) (de_add hK (de_var 4) de_int)) (da_cons (de_ix hK (de_var 2) (de_var 4)) da_nil)))) (de_sl hK (de_var 2) (do_some (de_add hK (de_var 4) de_int)) do_none))))))
    (dss_one (ds_ret (de_tuple hK rfl rfl T.b_tuple (da_cons (de_var 2) da_nil))))))
abbrev s_law_sign : Stmt := top 31
theorem sc_law_sign : FnScope ["letter"] ["letter"] (defScope s_law_sign) := ⟨rfl, rfl, rfl, by decide +kernel, rfl, by decide +kernel, by decide +kernel⟩
def m_law_sign : MS := retS (ifE (tst (bin2 g_gt (evVar 0) (evC (.int 0)))) (evC (.int 1)) (un1 gNeg (evC (.int 1))))
def g_law_sign : List D → Rs := runF [false] 1 m_law_sign
theorem den_law_sign (T : Txt K mg) : Den P w K mg base 1 "_law_sign" ["letter"] [false] g_law_sign := by
  refine den_of T.f_law_sign sc_law_sign rfl (by decide) ?_
  intro f cdv A outer s H E F hr hK hG hx tk hp
  exact (dss_one (ds_ret (de_if (dt_cmp (o_gt hK hr) s_gt' (de_var 0) de_int (nomark _)) de_int (de_neg de_int))))
abbrev s_law_windings : Stmt := top 35
theorem sc_law_windings : FnScope ["many", "word", "found", "one", "other", "own", "total", "letter", "at", "turned", "line"] ["many", "word"] (defScope s_law_windings) := ⟨rfl, rfl, rfl, by decide +kernel, rfl, by decide +kernel, by decide +kernel⟩
def c_law_windings_1 : M Od := lc (itK 5) (tgN 10) (yesT) (mkT (consA (evVar 10) (consA (ifE (tst (bin2 g_eq (ixV 5 (evVar 10)) (evVar 8))) (bin2 gAdd (evVar 8) (evC (.int 1))) (ifE (tst (bin2 g_eq (ixV 5 (evVar 10)) (bin2 gAdd (evVar 8) (evC (.int 1))))) (evVar 8) (ixV 5 (evVar 10)))) (nilA)))) [10]
def b_law_windings_1 : MS := seqS (asg 8 (callB gAbs (consA (evVar 7) (nilA))))
    (seqS (asg 9 (callB gDictP (consA (lockD 5 (c_law_windings_1)) (nilA))))
    (seqS (ifS (tst (bin2 g_eq (callB gSorted2 (consA (mkL (consA (ixV 5 (evVar 3)) (consA (ixV 5 (evVar 4)) (nilA)))) (nilA))) (mkL (consA (evVar 8) (consA (bin2 gAdd (evVar 8) (evC (.int 1))) (nilA))))))
    (asg 6 (bin2 gAdd (evVar 6) (call [false] g_law_sign (consA (evVar 7) (nilA)))))
    (nop))
    (mvS 5 9)))
def l_law_windings_1 : MS := forS (itQ (evVar 1)) (tgN 7) (b_law_windings_1)
def b_law_windings_2 : MS := seqS (par2 5 6 (dispK [(evVar 3, evVar 3), (evVar 4, evVar 4)]) (evC (.int 0)))
    (seqS (l_law_windings_1)
    (asg 2 (bin2 gAdd (evVar 2) (ifE (tst (bin2 g_ne (evVar 6) (evC (.int 0)))) (mkL (consA (mkT (consA (evVar 3) (consA (evVar 4) (consA (evVar 6) (nilA))))) (nilA))) (mkL (nilA))))))
def l_law_windings_2 : MS := forS (itR2 (consA (bin2 gAdd (evVar 3) (evC (.int 1))) (consA (bin2 gAdd (evVar 0) (evC (.int 1))) (nilA)))) (tgN 4) (b_law_windings_2)
def b_law_windings_3 : MS := l_law_windings_2
def l_law_windings_3 : MS := forS (itR2 (consA (evC (.int 1)) (consA (bin2 gAdd (evVar 0) (evC (.int 1))) (nilA)))) (tgN 3) (b_law_windings_3)
def m_law_windings : MS := seqS (asg 2 (mkL (nilA)))
    (seqS (l_law_windings_3)
    (retS (callB gTuple (consA (evVar 2) (nilA)))))
def g_law_windings : List D → Rs := runF [false, false] 11 m_law_windings
theorem den_law_windings (T : Txt K mg) : Den P w K mg base 2 "_law_windings" ["many", "word"] [false, false] g_law_windings := by
  refine den_of T.f_law_windings sc_law_windings rfl (by decide) ?_
  intro f cdv A outer s H E F hr hK hG hx tk hp
  exact (dss_cons (ds_set sc_law_windings.nd rfl (Or.inl rfl) (de_lst da_nil))
    (dss_cons (ds_for hp rfl (di_r2 rfl T.b_range (da_cons de_int (da_cons (de_add hK (de_var 0) de_int) da_nil))) (dg_name 3 sc_law_windings.nd rfl (Or.inl rfl))
    (dss_one (ds_for hp rfl (di_r2 rfl T.b_range (da_cons (de_add hK (de_var 3) de_int) (da_cons (de_add hK (de_var 0) de_int) da_nil))) (dg_name 4 sc_law_windings.nd rfl (Or.inl rfl))
    (dss_cons (ds_parC rfl sc_law_windings.nd rfl rfl (Or.inr rfl) (Or.inl rfl) (de_disp (dp_cons (de_var 3) (de_var 3) (dp_cons (de_var 4) (de_var 4) dp_nil))) de_int)
    (dss_cons (ds_for hp rfl (di_seq hK (de_var 1)) (dg_name 7 sc_law_windings.nd rfl (Or.inl rfl))
    (dss_cons (ds_set sc_law_windings.nd rfl (Or.inr rfl) (de_abs hK rfl rfl T.b_abs (da_cons (de_var 7) da_nil)))
    (dss_cons (ds_set sc_law_windings.nd rfl (Or.inl rfl) (de_dict hK rfl rfl T.b_dict (da_cons (de_lock (de_lc (own := [("line", 10)]) rfl sc_law_windings.nd (di_keys (i := 5)) (blkOk_by (N := (["many", "word", "found", "one", "other", "own", "total", "letter", "at", "turned", "line"] : List Str)) (sc := (defScope s_law_windings)) (by decide +kernel)) (by decide) (mg_name 10) (fun _ _ _ _ _ => (dg_name 10 sc_law_windings.nd rfl (Or.inl rfl))) (fun _ _ _ _ _ => dts_nil) (fun _ _ _ _ _ => (de_tup (da_cons (de_var 10) (da_cons (de_if (dt_cmp (o_eq hK hr) s_eq' (de_ixV (i := 5) hK hr (de_var 10)) (de_var 8) (nomark _)) (de_add hK (de_var 8) de_int) (de_if (dt_cmp (o_eq hK hr) s_eq' (de_ixV (i := 5) hK hr (de_var 10)) (de_add hK (de_var 8) de_int) (nomark _)) (de_var 8) (de_ixV (i := 5) hK hr (de_var 10)))) da_nil)))))) da_nil)))
    (dss_cons (ds_if (dt_cmp (o_eq hK hr) s_eq' (de_sorted2 hK rfl rfl T.b_sorted (da_cons (de_lst (da_cons (de_ixV (i := 5) hK hr (de_var 3)) (da_cons (de_ixV (i := 5) hK hr (de_var 4)) da_nil))) da_nil)) (de_lst (da_cons (de_var 8) (da_cons (de_add hK (de_var 8) de_int) da_nil))) (nomark _)) (dss_one (ds_set sc_law_windings.nd rfl (Or.inl rfl) (de_add hK (de_var 6) (de_callD (den_law_sign T) hK hG hx (hr.mono (by first | decide | omega)) rfl (da_cons (de_var 7) da_nil))))) dss_nil)
    (dss_one (ds_mv sc_law_windings.nd rfl (Or.inr rfl)))))))
    (dss_one (ds_set sc_law_windings.nd rfl (Or.inl rfl) (de_add hK (de_var 2) (de_if (dt_cmp (o_ne hK hr) s_ne' (de_var 6) de_int (nomark _)) (de_lst (da_cons (de_tup (da_cons (de_var 3) (da_cons (de_var 4) (da_cons (de_var 6) da_nil)))) da_nil)) (de_lst da_nil))))))))))
    (dss_one (ds_ret (de_tuple hK rfl rfl T.b_tuple (da_cons (de_var 2) da_nil))))))
abbrev s_law_back : Stmt := top 32
theorem sc_law_back : FnScope ["letters", "letter"] ["letters"] (defScope s_law_back) := ⟨rfl, rfl, rfl, by decide +kernel, rfl, by decide +kernel, by decide +kernel⟩
def c_law_back_1 : M Od := lc (itQ (un1 gRev (evVar 0))) (tgN 1) (yesT) (un1 gNeg (evVar 1)) [1]
def m_law_back : MS := retS (callB gTuple (consA (c_law_back_1) (nilA)))
def g_law_back : List D → Rs := runF [false] 2 m_law_back
theorem den_law_back (T : Txt K mg) : Den P w K mg base 1 "_law_back" ["letters"] [false] g_law_back := by
  refine den_of T.f_law_back sc_law_back rfl (by decide) ?_
  intro f cdv A outer s H E F hr hK hG hx tk hp
  exact (dss_one (ds_ret (de_tuple hK rfl rfl T.b_tuple (da_cons (de_lc (own := [("letter", 1)]) rfl sc_law_back.nd (di_seq hK (de_rev hK (de_var 0))) (blkOk_by (N := (["letters", "letter"] : List Str)) (sc := (defScope s_law_back)) (by decide +kernel)) (by decide) (mg_name 1) (fun _ _ _ _ _ => (dg_name 1 sc_law_back.nd rfl (Or.inl rfl))) (fun _ _ _ _ _ => dts_nil) (fun _ _ _ _ _ => (de_neg (de_var 1)))) da_nil))))
abbrev s_law_sort : Stmt := top 28
theorem sc_law_sort : FnScope ["value"] ["value"] (defScope s_law_sort) := ⟨rfl, rfl, rfl, by decide +kernel, rfl, by decide +kernel, by decide +kernel⟩
def m_law_sort : MS := seqS (ifS (orT (tst (bin2 g_is (evVar 0) (evC .non))) (truth (isi "bool" (evVar 0))))
    (retS (ifE (tst (bin2 g_is (evVar 0) (evC .non))) (evC (.int 0)) (evC (.int 1))))
    (nop))
    (seqS (ifS (orT (truth (isi "int" (evVar 0))) (truth (isi "str" (evVar 0))))
    (retS (ifE (truth (isi "int" (evVar 0))) (evC (.int 2)) (evC (.int 3))))
    (nop))
    (retS (ifE (truth (isi "tuple" (evVar 0))) (evC (.int 4)) (ifE (truth (isi "list" (evVar 0))) (evC (.int 5)) (evC (.int 6))))))
def g_law_sort : List D → Rs := runF [false] 1 m_law_sort
theorem den_law_sort (T : Txt K mg) : Den P w K mg base 1 "_law_sort" ["value"] [false] g_law_sort := by
  refine den_of T.f_law_sort sc_law_sort rfl (by decide) ?_
  intro f cdv A outer s H E F hr hK hG hx tk hp
  exact (dss_cons (ds_if (dt_pw (dw_or (dt_cmp (o_is hK hr) s_is' (de_var 0) de_non (nomark _)) (dw_or1 (dt_truth hK (de_isi hK (by decide) rfl T.b_isinstance (by decide +kernel) rfl T.b_bool (by decide +kernel) (de_var 0)))))) (dss_one (ds_ret (de_if (dt_cmp (o_is hK hr) s_is' (de_var 0) de_non (nomark _)) de_int de_int))) dss_nil)
    (dss_cons (ds_if (dt_pw (dw_or (dt_truth hK (de_isi hK (by decide) rfl T.b_isinstance (by decide +kernel) rfl T.b_int (by decide +kernel) (de_var 0))) (dw_or1 (dt_truth hK (de_isi hK (by decide) rfl T.b_isinstance (by decide +kernel) rfl T.b_str (by decide +kernel) (de_var 0)))))) (dss_one (ds_ret (de_if (dt_truth hK (de_isi hK (by decide) rfl T.b_isinstance (by decide +kernel) rfl T.b_int (by decide +kernel) (de_var 0))) de_int de_int))) dss_nil)
    (dss_one (ds_ret (de_if (dt_truth hK (de_isi hK (by decide) rfl T.b_isinstance (by decide +kernel) rfl T.b_tuple (by decide +kernel) (de_var 0))) de_int (de_if (dt_truth hK (de_isi hK (by decide) rfl T.b_isinstance (by decide +kernel) rfl T.b_list (by decide +kernel) (de_var 0))) de_int de_int))))))
abbrev s_law_like : Stmt := top 29
theorem sc_law_like : FnScope ["one", "other", "sort", "first", "second"] ["one", "other"] (defScope s_law_like) := ⟨rfl, rfl, rfl, by decide +kernel, rfl, by decide +kernel, by decide +kernel⟩
def c_law_like_1 (rec : List D → Rs) : M Od := lc (itZ2 (consA (evVar 0) (consA (evVar 1) (nilA)))) (tgTup 2 (tgCons (tgN 3) (tgCons (tgN 4) (tgNil)))) (notT (truth (noErr (call [false, false] rec (consA (evVar 3) (consA (evVar 4) (nilA))))))) (evC (.int 1)) [3, 4]
def m_law_like (rec : List D → Rs) : MS := seqS (asg 2 (call [false] g_law_sort (consA (evVar 1) (nilA))))
    (seqS (ifS (orT (tst (bin2 g_ne (call [false] g_law_sort (consA (evVar 0) (nilA))) (evVar 2))) (tst (bin2 g_eq (evVar 2) (evC (.int 6)))))
    (retS (evC (.bl false)))
    (nop))
    (seqS (ifS (tst (bin2 g_in (evVar 2) (mkT (consA (evC (.int 4)) (consA (evC (.int 5)) (nilA))))))
    (retS (andV (bin2 g_eq (callB gLen (consA (evVar 0) (nilA))) (callB gLen (consA (evVar 1) (nilA)))) (bin2 g_eq ((c_law_like_1 rec)) (mkL (nilA)))))
    (nop))
    (retS (bin2 g_eq (evVar 0) (evVar 1)))))
def g_law_like : Nat → List D → Rs
  | 0 => fun _ => .bad
  | n + 1 => runF [false, false] 5 (m_law_like (g_law_like n))
theorem den_law_like (T : Txt K mg) : ∀ n : Nat, Den P w K mg base (n + 2) "_law_like" ["one", "other"] [false, false] (g_law_like n)
  | 0 => den_bad T.f_law_like
  | n + 1 => by
    have ih := den_law_like T n
    show Den P w K mg base (n + 2 + 1) _ _ _ (runF [false, false] 5 (m_law_like (g_law_like n)))
    refine den_of (k := n + 2) T.f_law_like sc_law_like rfl (by decide) ?_
    intro f cdv A outer s H E F hr hK hG hx tk hp
    exact (dss_cons (ds_set sc_law_like.nd rfl (Or.inl rfl) (de_callD (den_law_sort T) hK hG hx (hr.mono (by first | decide | omega)) rfl (da_cons (de_var 1) da_nil)))
    (dss_cons (ds_if (dt_pw (dw_or (dt_cmp (o_ne hK hr) s_ne' (de_callD (den_law_sort T) hK hG hx (hr.mono (by first | decide | omega)) rfl (da_cons (de_var 0) da_nil)) (de_var 2) (nomark _)) (dw_or1 (dt_cmp (o_eq hK hr) s_eq' (de_var 2) de_int (nomark _))))) (dss_one (ds_ret de_bl)) dss_nil)
    (dss_cons (ds_if (dt_cmp (o_in hK hr) s_in' (de_var 2) (de_tup (da_cons de_int (da_cons de_int da_nil))) rfl) (dss_one (ds_ret (de_and (de_cmp (o_eq hK hr) s_eq' (de_len hK rfl rfl T.b_len (da_cons (de_var 0) da_nil)) (de_len hK rfl rfl T.b_len (da_cons (de_var 1) da_nil)) (nomark _)) (de_one (de_cmp (o_eq hK hr) s_eq' (de_lc (own := [("first", 3), ("second", 4)]) rfl sc_law_like.nd (di_zip2 hK rfl T.b_zip (da_cons (de_var 0) (da_cons (de_var 1) da_nil))) (blkOk_by (N := (["one", "other", "sort", "first", "second"] : List Str)) (sc := (defScope s_law_like)) (by decide +kernel)) (by decide) (mg_tup (mg_cons (mg_name 3) (mg_cons (mg_name 4) mg_nil))) (fun _ _ _ _ _ => (dg_tup rfl hK (dgs_cons (dg_name 3 sc_law_like.nd rfl (Or.inl rfl)) (dgs_cons (dg_name 4 sc_law_like.nd rfl (Or.inl rfl)) dgs_nil)))) (fun _ _ _ _ _ => (dts_one (dt_not (dt_truth hK (de_callDN ih hK hG hr rfl (da_cons (de_var 3) (da_cons (de_var 4) da_nil))))))) (fun _ _ _ _ _ => de_int)) (de_lst da_nil) (nomark _)))))) dss_nil)
    (dss_one (ds_ret (de_cmp (o_eq hK hr) s_eq' (de_var 0) (de_var 1) (nomark _)))))))
abbrev s_law_right : Stmt := top 36
theorem sc_law_right : FnScope ["many", "word", "told", "due", "letter"] ["many", "word"] (defScope s_law_right) := ⟨rfl, rfl, rfl, by decide +kernel, rfl, by decide +kernel, by decide +kernel⟩
def c_law_right_1 : M Od := lc (itQ (evVar 1)) (tgN 4) (yesT) (noErr (call [false] g_law_sign (consA (evVar 4) (nilA)))) [4]
def m_law_right : MS := seqS (asg 2 (mkL (consA (call [false, false] g_is_word (consA (evVar 0) (consA (evVar 1) (nilA)))) (consA (call [false, false] g_order_behind (consA (evVar 0) (consA (evVar 1) (nilA)))) (consA (call [false, false] g_windings (consA (evVar 0) (consA (evVar 1) (nilA)))) (consA (call [false, false] g_sum_of (consA (evVar 0) (consA (evVar 1) (nilA)))) (consA (call [false, false] g_back_of (consA (evVar 0) (consA (evVar 1) (nilA)))) (nilA))))))))
    (seqS (asg 3 (mkL (consA (evC (.bl true)) (consA (call [false, false] g_law_order (consA (evVar 0) (consA (evVar 1) (nilA)))) (consA (call [false, false] g_law_windings (consA (evVar 0) (consA (evVar 1) (nilA)))) (consA (callB gSum (consA (c_law_right_1) (nilA))) (consA (call [false] g_law_back (consA (evVar 1) (nilA))) (nilA))))))))
    (retS (call [false, false] (g_law_like 8) (consA (evVar 2) (consA (evVar 3) (nilA))))))
def g_law_right : List D → Rs := runF [false, false] 5 m_law_right
theorem den_law_right (T : Txt K mg) : Den P w K mg base 11 "_law_right" ["many", "word"] [false, false] g_law_right := by
  refine den_of T.f_law_right sc_law_right rfl (by decide) ?_
  intro f cdv A outer s H E F hr hK hG hx tk hp
  exact (dss_cons (ds_set sc_law_right.nd rfl (Or.inl rfl) (de_lst (da_cons (de_callD (den_is_word T) hK hG hx (hr.mono (by first | decide | omega)) rfl (da_cons (de_var 0) (da_cons (de_var 1) da_nil))) (da_cons (de_callD (den_order_behind T) hK hG hx (hr.mono (by first | decide | omega)) rfl (da_cons (de_var 0) (da_cons (de_var 1) da_nil))) (da_cons (de_callD (den_windings T) hK hG hx (hr.mono (by first | decide | omega)) rfl (da_cons (de_var 0) (da_cons (de_var 1) da_nil))) (da_cons (de_callD (den_sum_of T) hK hG hx (hr.mono (by first | decide | omega)) rfl (da_cons (de_var 0) (da_cons (de_var 1) da_nil))) (da_cons (de_callD (den_back_of T) hK hG hx (hr.mono (by first | decide | omega)) rfl (da_cons (de_var 0) (da_cons (de_var 1) da_nil))) da_nil)))))))
    (dss_cons (ds_set sc_law_right.nd rfl (Or.inl rfl) (de_lst (da_cons de_bl (da_cons (de_callD (den_law_order T) hK hG hx (hr.mono (by first | decide | omega)) rfl (da_cons (de_var 0) (da_cons (de_var 1) da_nil))) (da_cons (de_callD (den_law_windings T) hK hG hx (hr.mono (by first | decide | omega)) rfl (da_cons (de_var 0) (da_cons (de_var 1) da_nil))) (da_cons (de_sum hK rfl rfl T.b_sum (da_cons (de_lc (own := [("letter", 4)]) rfl sc_law_right.nd (di_seq hK (de_var 1)) (blkOk_by (N := (["many", "word", "told", "due", "letter"] : List Str)) (sc := (defScope s_law_right)) (by decide +kernel)) (by decide) (mg_name 4) (fun _ _ _ _ _ => (dg_name 4 sc_law_right.nd rfl (Or.inl rfl))) (fun _ _ _ _ _ => dts_nil) (fun _ _ _ _ _ => (de_callDN (den_law_sign T) hK hG (hr.mono (by first | decide | omega)) rfl (da_cons (de_var 4) da_nil)))) da_nil)) (da_cons (de_callD (den_law_back T) hK hG hx (hr.mono (by first | decide | omega)) rfl (da_cons (de_var 1) da_nil)) da_nil)))))))
    (dss_one (ds_ret (de_callD (den_law_like T 8) hK hG hx (hr.mono (by first | decide | omega)) rfl (da_cons (de_var 2) (da_cons (de_var 3) da_nil)))))))
abbrev s_law_is_word : Stmt := top 34
theorem sc_law_is_word : FnScope ["many", "value", "most", "one"] ["many", "value", "most"] (defScope s_law_is_word) := ⟨rfl, rfl, rfl, by decide +kernel, rfl, by decide +kernel, by decide +kernel⟩
def c_law_is_word_1 : M Od := lc (itQ (evVar 1)) (tgN 3) (orT (tst (bin2 g_ne (noErr (call [false] g_law_sort (consA (evVar 3) (nilA)))) (evC (.int 2)))) (notT (tst (chain g_le g_lt (evC (.int 1)) (callB gAbs (consA (evVar 3) (nilA))) (evVar 0))))) (evVar 3) [3]
def m_law_is_word : MS := seqS (ifS (orT (notT (truth (isi "tuple" (evVar 1)))) (tst (bin2 g_gt (callB gLen (consA (evVar 1) (nilA))) (evVar 2))))
    (retS (evC (.bl false)))
    (nop))
    (retS (bin2 g_eq (c_law_is_word_1) (mkL (nilA))))
def g_law_is_word : List D → Rs := runF [false, false, false] 4 m_law_is_word
theorem den_law_is_word (T : Txt K mg) : Den P w K mg base 2 "_law_is_word" ["many", "value", "most"] [false, false, false] g_law_is_word := by
  refine den_of T.f_law_is_word sc_law_is_word rfl (by decide) ?_
  intro f cdv A outer s H E F hr hK hG hx tk hp
  exact (dss_cons (ds_if (dt_pw (dw_or (dt_not (dt_truth hK (de_isi hK (by decide) rfl T.b_isinstance (by decide +kernel) rfl T.b_tuple (by decide +kernel) (de_var 1)))) (dw_or1 (dt_cmp (o_gt hK hr) s_gt' (de_len hK rfl rfl T.b_len (da_cons (de_var 1) da_nil)) (de_var 2) (nomark _))))) (dss_one (ds_ret de_bl)) dss_nil)
    (dss_one (ds_ret (de_cmp (o_eq hK hr) s_eq' (de_lc (own := [("one", 3)]) rfl sc_law_is_word.nd (di_seq hK (de_var 1)) (blkOk_by (N := (["many", "value", "most", "one"] : List Str)) (sc := (defScope s_law_is_word)) (by decide +kernel)) (by decide) (mg_name 3) (fun _ _ _ _ _ => (dg_name 3 sc_law_is_word.nd rfl (Or.inl rfl))) (fun _ _ _ _ _ => (dts_one (dt_pw (dw_or (dt_cmp (o_ne hK hr) s_ne' (de_callDN (den_law_sort T) hK hG (hr.mono (by first | decide | omega)) rfl (da_cons (de_var 3) da_nil)) de_int (nomark _)) (dw_or1 (dt_not (dt_chain (o_le hK hr) (o_lt hK hr) s_le' s_lt' de_int (de_abs hK rfl rfl T.b_abs (da_cons (de_var 3) da_nil)) (de_var 0)))))))) (fun _ _ _ _ _ => (de_var 3))) (de_lst da_nil) (nomark _)))))
abbrev s_law_great_right : Stmt := top 37
theorem sc_law_great_right : FnScope ["cup", "many", "sign", "place", "word", "swapped", "told", "row", "whole", "lines", "pairs", "one", "due", "line", "letter", "other", "at"] ["cup"] (defScope s_law_great_right) := ⟨rfl, rfl, rfl, by decide +kernel, rfl, by decide +kernel, by decide +kernel⟩
def c_law_great_right_1 : M Od := lc (itR2 (consA (evC (.int 1)) (consA (bin2 gAdd (evVar 1) (evC (.int 1))) (nilA)))) (tgN 13) (yesT) (ifE (tst (bin2 g_eq (evVar 13) (evVar 3))) (bin2 gAdd (evVar 3) (evC (.int 1))) (ifE (tst (bin2 g_eq (evVar 13) (bin2 gAdd (evVar 3) (evC (.int 1))))) (evVar 3) (evVar 13))) [13]
def c_law_great_right_2 : M Od := lc (itR2 (consA (evC (.int 1)) (consA (evVar 1) (nilA)))) (tgN 14) (yesT) (bin2 gMul (evVar 2) (evVar 14)) [14]
def c_law_great_right_3 : M Od := lc (itR2 (consA (evC (.int 1)) (consA (bin2 gAdd (evVar 1) (evC (.int 1))) (nilA)))) (tgN 13) (yesT) (evVar 13) [13]
def c_law_great_right_4 : M Od := lc (itQ (evVar 9)) (tgN 15) (tst (bin2 g_gt (evVar 15) (evVar 11))) (mkT (consA (evVar 11) (consA (evVar 15) (consA (bin2 gMul (evC (.int 2)) (evVar 2)) (nilA))))) [15]
def b_law_great_right_1 : MS := asg 10 (bin2 gAdd (evVar 10) (c_law_great_right_4))
def l_law_great_right_1 : MS := forS (itQ (evVar 9)) (tgN 11) (b_law_great_right_1)
def c_law_great_right_5 : M Od := lc (itQ (slc (evVar 9) (someP (evC (.int 1))) noP)) (tgN 13) (yesT) (mkT (consA (evC (.int 1)) (consA (evVar 13) (consA (evVar 2) (nilA))))) [13]
def c_law_great_right_6 : M Od := lc (itR1 (consA (evC (.int 60)) (nilA))) (tgN 16) (yesT) (bin2 gAdd (bin2 gMod (callB gInt (consA (bin2 gMul (evVar 16) (evC (.int 5))) (nilA))) (evC (.int 7))) (evC (.int 1))) [16]
def m_law_great_right : MS := seqS (par2 1 2 (bin2 gAdd (evC (.int 2)) (call [true, false] g_law_roll (consA (evVar 0) (consA (evC (.int 7)) (nilA))))) (call [true, false] g_law_some (consA (evVar 0) (consA (mkL (consA (evC (.int 1)) (consA (un1 gNeg (evC (.int 1))) (nilA)))) (nilA)))))
    (seqS (asg 3 (bin2 gAdd (evC (.int 1)) (call [true, false] g_law_roll (consA (evVar 0) (consA (bin2 gSub (evVar 1) (evC (.int 1))) (nilA))))))
    (seqS (asg 4 (bin2 gMul (mkT (consA (bin2 gMul (evVar 3) (evVar 2)) (nilA))) (evC (.int 59))))
    (seqS (asg 5 (callB gTuple (consA (c_law_great_right_1) (nilA))))
    (seqS (asg 6 (mkL (consA (call [false, false] g_order_behind (consA (evVar 1) (consA (evVar 4) (nilA)))) (consA (call [false, false] g_windings (consA (evVar 1) (consA (evVar 4) (nilA)))) (consA (call [false, false] g_sum_of (consA (evVar 1) (consA (evVar 4) (nilA)))) (consA (call [false, false] g_back_of (consA (evVar 1) (consA (evVar 4) (nilA)))) (consA (call [false, false] g_windings (consA (evVar 1) (consA (bin2 gAdd (evVar 4) (mkT (consA (bin2 gMul (un1 gNeg (evVar 3)) (evVar 2)) (nilA)))) (nilA)))) (nilA))))))))
    (seqS (ifS (notT (truth (call [false, false] (g_law_like 8) (consA (evVar 6) (consA (mkL (consA (evVar 5) (consA (mkT (consA (mkT (consA (evVar 3) (consA (bin2 gAdd (evVar 3) (evC (.int 1))) (consA (bin2 gMul (evC (.int 59)) (evVar 2)) (nilA))))) (nilA))) (consA (bin2 gMul (evC (.int 59)) (evVar 2)) (consA (bin2 gMul (mkT (consA (bin2 gMul (un1 gNeg (evVar 3)) (evVar 2)) (nilA))) (evC (.int 59))) (consA (mkT (consA (mkT (consA (evVar 3) (consA (bin2 gAdd (evVar 3) (evC (.int 1))) (consA (bin2 gMul (evC (.int 58)) (evVar 2)) (nilA))))) (nilA))) (nilA))))))) (nilA))))))
    (retS (evC (.bl false)))
    (nop))
    (seqS (asg 7 (callB gTuple (consA (c_law_great_right_2) (nilA))))
    (seqS (par2 8 9 (bin2 gMul (evVar 7) (evVar 1)) (callB gTuple (consA (c_law_great_right_3) (nilA))))
    (seqS (asg 10 (mkL (nilA)))
    (seqS (l_law_great_right_1)
    (seqS (asg 6 (mkL (consA (call [false, false] g_order_behind (consA (evVar 1) (consA (evVar 8) (nilA)))) (consA (call [false, false] g_windings (consA (evVar 1) (consA (evVar 8) (nilA)))) (consA (call [false, false] g_sum_of (consA (evVar 1) (consA (evVar 8) (nilA)))) (consA (call [false, false] g_order_behind (consA (evVar 1) (consA (evVar 7) (nilA)))) (consA (call [false, false] g_windings (consA (evVar 1) (consA (evVar 7) (nilA)))) (nilA))))))))
    (seqS (asg 12 (mkL (consA (evVar 9) (consA (callB gTuple (consA (evVar 10) (nilA))) (consA (bin2 gMul (bin2 gMul (evVar 2) (evVar 1)) (bin2 gSub (evVar 1) (evC (.int 1)))) (consA (bin2 gAdd (slc (evVar 9) (someP (evC (.int 1))) noP) (slc (evVar 9) noP (someP (evC (.int 1))))) (consA (callB gTuple (consA (c_law_great_right_5) (nilA))) (nilA))))))))
    (retS (andV (call [false, false] (g_law_like 8) (consA (evVar 6) (consA (evVar 12) (nilA)))) (call [false, false] g_law_right (consA (evC (.int 8)) (consA (callB gTuple (consA (c_law_great_right_6) (nilA))) (nilA)))))))))))))))))
def g_law_great_right : List D → Rs := runF [true] 17 m_law_great_right
theorem den_law_great_right (T : Txt K mg) : Den P w K mg base 12 "_law_great_right" ["cup"] [true] g_law_great_right := by
  refine den_of T.f_law_great_right sc_law_great_right rfl (by decide) ?_
  intro f cdv A outer s H E F hr hK hG hx tk hp
  exact (dss_cons (ds_parC rfl sc_law_great_right.nd rfl rfl (Or.inl rfl) (Or.inr rfl) (de_add hK de_int (de_callD (den_law_roll T) hK hG hx (hr.mono (by first | decide | omega)) rfl (da_cons (de_var 0) (da_cons de_int da_nil)))) (de_callD (den_law_some T) hK hG hx (hr.mono (by first | decide | omega)) rfl (da_cons (de_var 0) (da_cons (de_lst (da_cons de_int (da_cons (de_neg de_int) da_nil))) da_nil))))
    (dss_cons (ds_set sc_law_great_right.nd rfl (Or.inr rfl) (de_add hK de_int (de_callD (den_law_roll T) hK hG hx (hr.mono (by first | decide | omega)) rfl (da_cons (de_var 0) (da_cons (de_sub (de_var 1) de_int) da_nil)))))
    (dss_cons (ds_set sc_law_great_right.nd rfl (Or.inl rfl) (de_mul hK (de_tup (da_cons (de_mul hK (de_var 3) (de_var 2)) da_nil)) de_int))
    (dss_cons (ds_set sc_law_great_right.nd rfl (Or.inl rfl) (de_tuple hK rfl rfl T.b_tuple (da_cons (de_lc (own := [("line", 13)]) rfl sc_law_great_right.nd (di_r2 rfl T.b_range (da_cons de_int (da_cons (de_add hK (de_var 1) de_int) da_nil))) (blkOk_by (N := (["cup", "many", "sign", "place", "word", "swapped", "told", "row", "whole", "lines", "pairs", "one", "due", "line", "letter", "other", "at"] : List Str)) (sc := (defScope s_law_great_right)) (by decide +kernel)) (by decide) (mg_name 13) (fun _ _ _ _ _ => (dg_name 13 sc_law_great_right.nd rfl (Or.inl rfl))) (fun _ _ _ _ _ => dts_nil) (fun _ _ _ _ _ => (de_if (dt_cmp (o_eq hK hr) s_eq' (de_var 13) (de_var 3) (nomark _)) (de_add hK (de_var 3) de_int) (de_if (dt_cmp (o_eq hK hr) s_eq' (de_var 13) (de_add hK (de_var 3) de_int) (nomark _)) (de_var 3) (de_var 13))))) da_nil)))
    (dss_cons (ds_set sc_law_great_right.nd rfl (Or.inl rfl) (de_lst (da_cons (de_callD (den_order_behind T) hK hG hx (hr.mono (by first | decide | omega)) rfl (da_cons (de_var 1) (da_cons (de_var 4) da_nil))) (da_cons (de_callD (den_windings T) hK hG hx (hr.mono (by first | decide | omega)) rfl (da_cons (de_var 1) (da_cons (de_var 4) da_nil))) (da_cons (de_callD (den_sum_of T) hK hG hx (hr.mono (by first | decide | omega)) rfl (da_cons (de_var 1) (da_cons (de_var 4) da_nil))) (da_cons (de_callD (den_back_of T) hK hG hx (hr.mono (by first | decide | omega)) rfl (da_cons (de_var 1) (da_cons (de_var 4) da_nil))) (da_cons (de_callD (den_windings T) hK hG hx (hr.mono (by first | decide | omega)) rfl (da_cons (de_var 1) (da_cons (de_add hK (de_var 4) (de_tup (da_cons (de_mul hK (de_neg (de_var 3)) (de_var 2)) da_nil))) da_nil))) da_nil)))))))
    (dss_cons (ds_if (dt_not (dt_truth hK (de_callD (den_law_like T 8) hK hG hx (hr.mono (by first | decide | omega)) rfl (da_cons (de_var 6) (da_cons (de_lst (da_cons (de_var 5) (da_cons (de_tup (da_cons (de_tup (da_cons (de_var 3) (da_cons (de_add hK (de_var 3) de_int) (da_cons (de_mul hK de_int (de_var 2)) da_nil)))) da_nil)) (da_cons (de_mul hK de_int (de_var 2)) (da_cons (de_mul hK (de_tup (da_cons (de_mul hK (de_neg (de_var 3)) (de_var 2)) da_nil)) de_int) (da_cons (de_tup (da_cons (de_tup (da_cons (de_var 3) (da_cons (de_add hK (de_var 3) de_int) (da_cons (de_mul hK de_int (de_var 2)) da_nil)))) da_nil)) da_nil)))))) da_nil))))) (dss_one (ds_ret de_bl)) dss_nil)
    (dss_cons (ds_set sc_law_great_right.nd rfl (Or.inl rfl) (de_tuple hK rfl rfl T.b_tuple (da_cons (de_lc (own := [("letter", 14)]) rfl sc_law_great_right.nd (di_r2 rfl T.b_range (da_cons de_int (da_cons (de_var 1) da_nil))) (blkOk_by (N := (["cup", "many", "sign", "place", "word", "swapped", "told", "row", "whole", "lines", "pairs", "one", "due", "line", "letter", "other", "at"] : List Str)) (sc := (defScope s_law_great_right)) (by decide +kernel)) (by decide) (mg_name 14) (fun _ _ _ _ _ => (dg_name 14 sc_law_great_right.nd rfl (Or.inl rfl))) (fun _ _ _ _ _ => dts_nil) (fun _ _ _ _ _ => (de_mul hK (de_var 2) (de_var 14)))) da_nil)))
    (dss_cons (ds_par rfl sc_law_great_right.nd rfl rfl (by decide) rfl rfl (de_mul hK (de_var 7) (de_var 1)) (de_tuple hK rfl rfl T.b_tuple (da_cons (de_lc (own := [("line", 13)]) rfl sc_law_great_right.nd (di_r2 rfl T.b_range (da_cons de_int (da_cons (de_add hK (de_var 1) de_int) da_nil))) (blkOk_by (N := (["cup", "many", "sign", "place", "word", "swapped", "told", "row", "whole", "lines", "pairs", "one", "due", "line", "letter", "other", "at"] : List Str)) (sc := (defScope s_law_great_right)) (by decide +kernel)) (by decide) (mg_name 13) (fun _ _ _ _ _ => (dg_name 13 sc_law_great_right.nd rfl (Or.inl rfl))) (fun _ _ _ _ _ => dts_nil) (fun _ _ _ _ _ => (de_var 13))) da_nil)) rfl)
    (dss_cons (ds_set sc_law_great_right.nd rfl (Or.inl rfl) (de_lst da_nil))
    (dss_cons (ds_for hp rfl (di_seq hK (de_var 9)) (dg_name 11 sc_law_great_right.nd rfl (Or.inr rfl))
    (dss_one (ds_set sc_law_great_right.nd rfl (Or.inl rfl) (de_add hK (de_var 10) (de_lc (own := [("other", 15)]) rfl sc_law_great_right.nd (di_seq hK (de_var 9)) (blkOk_by (N := (["cup", "many", "sign", "place", "word", "swapped", "told", "row", "whole", "lines", "pairs", "one", "due", "line", "letter", "other", "at"] : List Str)) (sc := (defScope s_law_great_right)) (by decide +kernel)) (by decide) (mg_name 15) (fun _ _ _ _ _ => (dg_name 15 sc_law_great_right.nd rfl (Or.inl rfl))) (fun _ _ _ _ _ => (dts_one (dt_cmp (o_gt hK hr) s_gt' (de_var 15) (de_var 11) (nomark _)))) (fun _ _ _ _ _ => (de_tup (da_cons (de_var 11) (da_cons (de_var 15) (da_cons (de_mul hK de_int (de_var 2)) da_nil))))))))))
    (dss_cons (ds_set sc_law_great_right.nd rfl (Or.inl rfl) (de_lst (da_cons (de_callD (den_order_behind T) hK hG hx (hr.mono (by first | decide | omega)) rfl (da_cons (de_var 1) (da_cons (de_var 8) da_nil))) (da_cons (de_callD (den_windings T) hK hG hx (hr.mono (by first | decide | omega)) rfl (da_cons (de_var 1) (da_cons (de_var 8) da_nil))) (da_cons (de_callD (den_sum_of T) hK hG hx (hr.mono (by first | decide | omega)) rfl (da_cons (de_var 1) (da_cons (de_var 8) da_nil))) (da_cons (de_callD (den_order_behind T) hK hG hx (hr.mono (by first | decide | omega)) rfl (da_cons (de_var 1) (da_cons (de_var 7) da_nil))) (da_cons (de_callD (den_windings T) hK hG hx (hr.mono (by first | decide | omega)) rfl (da_cons (de_var 1) (da_cons (de_var 7) da_nil))) da_nil)))))))
    (dss_cons (ds_set sc_law_great_right.nd rfl (Or.inl rfl) (de_lst (da_cons (de_var 9) (da_cons (de_tuple hK rfl rfl T.b_tuple (da_cons (de_var 10) da_nil)) (da_cons (de_mul hK (de_mul hK (de_var 2) (de_var 1)) (de_sub (de_var 1) de_int)) (da_cons (de_add hK (de_sl hK (de_var 9) (do_some de_int) do_none) (de_sl hK (de_var 9) do_none (do_some de_int))) (da_cons (de_tuple hK rfl rfl T.b_tuple (da_cons (de_lc (own := [("line", 13)]) rfl sc_law_great_right.nd (di_seq hK (de_sl hK (de_var 9) (do_some de_int) do_none)) (blkOk_by (N := (["cup", "many", "sign", "place", "word", "swapped", "told", "row", "whole", "lines", "pairs", "one", "due", "line", "letter", "other", "at"] : List Str)) (sc := (defScope s_law_great_right)) (by decide +kernel)) (by decide) (mg_name 13) (fun _ _ _ _ _ => (dg_name 13 sc_law_great_right.nd rfl (Or.inl rfl))) (fun _ _ _ _ _ => dts_nil) (fun _ _ _ _ _ => (de_tup (da_cons de_int (da_cons (de_var 13) (da_cons (de_var 2) da_nil)))))) da_nil)) da_nil)))))))
    (dss_one (ds_ret (de_and (de_callD (den_law_like T 8) hK hG hx (hr.mono (by first | decide | omega)) rfl (da_cons (de_var 6) (da_cons (de_var 12) da_nil))) (de_one (de_callD (den_law_right T) hK hG hx (hr.mono (by first | decide | omega)) rfl (da_cons de_int (da_cons (de_tuple hK rfl rfl T.b_tuple (da_cons (de_lc (own := [("at", 16)]) rfl sc_law_great_right.nd (di_r1 rfl T.b_range (da_cons de_int da_nil)) (blkOk_by (N := (["cup", "many", "sign", "place", "word", "swapped", "told", "row", "whole", "lines", "pairs", "one", "due", "line", "letter", "other", "at"] : List Str)) (sc := (defScope s_law_great_right)) (by decide +kernel)) (by decide) (mg_name 16) (fun _ _ _ _ _ => (dg_name 16 sc_law_great_right.nd rfl (Or.inl rfl))) (fun _ _ _ _ _ => dts_nil) (fun _ _ _ _ _ => (de_add hK (de_mod (de_intc hK rfl rfl T.b_int (da_cons (de_mul hK (de_var 16) de_int) da_nil)) de_int) de_int))) da_nil)) da_nil)))))))))))))))))))
abbrev s_law_written_right : Stmt := top 38
theorem sc_law_written_right : FnScope ["told", "fine", "odds", "one"] [] (defScope s_law_written_right) := ⟨rfl, rfl, rfl, by decide +kernel, rfl, by decide +kernel, by decide +kernel⟩
def c_law_written_right_1 : M Od := lc (itQ (bin2 gAdd (evVar 1) (evVar 2))) (tgN 3) (yesT) (noErr (call [false, false] g_is_word (consA (evC (.int 8)) (consA (evVar 3) (nilA))))) [3]
def m_law_written_right : MS := seqS (asg 0 (mkL (consA (call [false, false] g_order_behind (consA (evC (.int 3)) (consA (mkT (consA (evC (.int 1)) (consA (un1 gNeg (evC (.int 2))) (nilA)))) (nilA)))) (consA (call [false, false] g_windings (consA (evC (.int 3)) (consA (mkT (consA (evC (.int 1)) (consA (evC (.int 1)) (consA (un1 gNeg (evC (.int 2))) (nilA))))) (nilA)))) (consA (call [false, false] g_windings (consA (evC (.int 3)) (consA (mkT (consA (evC (.int 1)) (consA (un1 gNeg (evC (.int 2))) (consA (evC (.int 1)) (consA (un1 gNeg (evC (.int 2))) (consA (evC (.int 1)) (consA (un1 gNeg (evC (.int 2))) (nilA)))))))) (nilA)))) (consA (call [false, false] g_sum_of (consA (evC (.int 3)) (consA (mkT (consA (evC (.int 1)) (consA (evC (.int 1)) (consA (un1 gNeg (evC (.int 2))) (nilA))))) (nilA)))) (consA (call [false, false] g_back_of (consA (evC (.int 3)) (consA (mkT (consA (evC (.int 1)) (consA (evC (.int 1)) (consA (un1 gNeg (evC (.int 2))) (nilA))))) (nilA)))) (nilA))))))))
    (seqS (asg 0 (bin2 gAdd (evVar 0) (mkL (consA (call [false, false] g_order_behind (consA (evC (.int 2)) (consA (mkT (nilA)) (nilA)))) (consA (call [false, false] g_windings (consA (evC (.int 8)) (consA (mkT (nilA)) (nilA)))) (consA (call [false, false] g_sum_of (consA (evC (.int 2)) (consA (mkT (nilA)) (nilA)))) (consA (call [false, false] g_back_of (consA (evC (.int 2)) (consA (mkT (nilA)) (nilA)))) (consA (call [false, false] g_order_behind (consA (evC (.int 3)) (consA (mkT (consA (evC (.int 2)) (consA (evC (.int 1)) (nilA)))) (nilA)))) (nilA)))))))))
    (seqS (ifS (notT (truth (call [false, false] (g_law_like 8) (consA (evVar 0) (consA (mkL (consA (mkT (consA (evC (.int 2)) (consA (evC (.int 3)) (consA (evC (.int 1)) (nilA))))) (consA (mkT (consA (mkT (consA (evC (.int 1)) (consA (evC (.int 2)) (consA (evC (.int 2)) (nilA))))) (consA (mkT (consA (evC (.int 2)) (consA (evC (.int 3)) (consA (un1 gNeg (evC (.int 1))) (nilA))))) (nilA)))) (consA (mkT (nilA)) (consA (evC (.int 1)) (consA (mkT (consA (evC (.int 2)) (consA (un1 gNeg (evC (.int 1))) (consA (un1 gNeg (evC (.int 1))) (nilA))))) (consA (mkT (consA (evC (.int 1)) (consA (evC (.int 2)) (nilA)))) (consA (mkT (nilA)) (consA (evC (.int 0)) (consA (mkT (nilA)) (consA (mkT (consA (evC (.int 3)) (consA (evC (.int 1)) (consA (evC (.int 2)) (nilA))))) (nilA)))))))))))) (nilA))))))
    (retS (evC (.bl false)))
    (nop))
    (seqS (asg 1 (mkL (consA (mkT (nilA)) (consA (mkT (consA (evC (.int 7)) (nilA))) (consA (mkT (consA (un1 gNeg (evC (.int 7))) (nilA))) (consA (bin2 gMul (mkT (consA (evC (.int 1)) (consA (un1 gNeg (evC (.int 1))) (nilA)))) (evC (.int 30))) (consA (mkT (consA (evC (.int 1)) (consA (evC (.int 2)) (consA (evC (.int 3)) (consA (evC (.int 4)) (consA (evC (.int 5)) (consA (evC (.int 6)) (consA (evC (.int 7)) (consA (un1 gNeg (evC (.int 7))) (nilA)))))))))) (nilA))))))))
    (seqS (asg 2 (mkL (consA (evC .non) (consA (mkL (nilA)) (consA (mkL (consA (evC (.int 1)) (nilA))) (consA (mkT (consA (evC (.int 8)) (nilA))) (consA (mkT (consA (un1 gNeg (evC (.int 8))) (nilA))) (consA (mkT (consA (evC (.int 0)) (nilA))) (consA (bin2 gMul (mkT (consA (evC (.int 1)) (nilA))) (evC (.int 61))) (consA (mkT (consA (evC (.bl true)) (nilA))) (consA (mkT (consA (evC (.str "1")) (nilA))) (consA (mkT (consA (evC (.int 1)) (consA (evC .non) (nilA)))) (consA (evC (.int 1)) (consA (mkT (consA (mkT (consA (evC (.int 1)) (nilA))) (nilA))) (consA (mkT (consA (evC (.int 1)) (consA (evC (.int 2)) (consA (evC (.int 0)) (nilA))))) (consA (mkT (consA (un1 gNeg (bin2 gPow (evC (.int 10)) (evC (.int 30)))) (nilA))) (nilA)))))))))))))))))
    (retS (andV (call [false, false] (g_law_like 8) (consA (c_law_written_right_1) (consA (bin2 gAdd (bin2 gMul (mkL (consA (evC (.bl true)) (nilA))) (evC (.int 5))) (bin2 gMul (mkL (consA (evC (.bl false)) (nilA))) (callB gLen (consA (evVar 2) (nilA))))) (nilA)))) (bin2 g_is (call [false, false] g_is_word (consA (evC (.int 2)) (consA (mkT (consA (evC (.int 2)) (nilA))) (nilA)))) (evC (.bl false)))))))))
def g_law_written_right : List D → Rs := runF [] 4 m_law_written_right
theorem den_law_written_right (T : Txt K mg) : Den P w K mg base 11 "_law_written_right" [] [] g_law_written_right := by
  refine den_of T.f_law_written_right sc_law_written_right rfl (by decide) ?_
  intro f cdv A outer s H E F hr hK hG hx tk hp
  exact (dss_cons (ds_set sc_law_written_right.nd rfl (Or.inl rfl) (de_lst (da_cons (de_callD (den_order_behind T) hK hG hx (hr.mono (by first | decide | omega)) rfl (da_cons de_int (da_cons (de_tup (da_cons de_int (da_cons (de_neg de_int) da_nil))) da_nil))) (da_cons (de_callD (den_windings T) hK hG hx (hr.mono (by first | decide | omega)) rfl (da_cons de_int (da_cons (de_tup (da_cons de_int (da_cons de_int (da_cons (de_neg de_int) da_nil)))) da_nil))) (da_cons (de_callD (den_windings T) hK hG hx (hr.mono (by first | decide | omega)) rfl (da_cons de_int (da_cons (de_tup (da_cons de_int (da_cons (de_neg de_int) (da_cons de_int (da_cons (de_neg de_int) (da_cons de_int (da_cons (de_neg de_int) da_nil))))))) da_nil))) (da_cons (de_callD (den_sum_of T) hK hG hx (hr.mono (by first | decide | omega)) rfl (da_cons de_int (da_cons (de_tup (da_cons de_int (da_cons de_int (da_cons (de_neg de_int) da_nil)))) da_nil))) (da_cons (de_callD (den_back_of T) hK hG hx (hr.mono (by first | decide | omega)) rfl (da_cons de_int (da_cons (de_tup (da_cons de_int (da_cons de_int (da_cons (de_neg de_int) da_nil)))) da_nil))) da_nil)))))))
    (dss_cons (ds_set sc_law_written_right.nd rfl (Or.inl rfl) (de_add hK (de_var 0) (de_lst (da_cons (de_callD (den_order_behind T) hK hG hx (hr.mono (by first | decide | omega)) rfl (da_cons de_int (da_cons (de_tup da_nil) da_nil))) (da_cons (de_callD (den_windings T) hK hG hx (hr.mono (by first | decide | omega)) rfl (da_cons de_int (da_cons (de_tup da_nil) da_nil))) (da_cons (de_callD (den_sum_of T) hK hG hx (hr.mono (by first | decide | omega)) rfl (da_cons de_int (da_cons (de_tup da_nil) da_nil))) (da_cons (de_callD (den_back_of T) hK hG hx (hr.mono (by first | decide | omega)) rfl (da_cons de_int (da_cons (de_tup da_nil) da_nil))) (da_cons (de_callD (den_order_behind T) hK hG hx (hr.mono (by first | decide | omega)) rfl (da_cons de_int (da_cons (de_tup (da_cons de_int (da_cons de_int da_nil))) da_nil))) da_nil))))))))
    (dss_cons (ds_if (dt_not (dt_truth hK (de_callD (den_law_like T 8) hK hG hx (hr.mono (by first | decide | omega)) rfl (da_cons (de_var 0) (da_cons (de_lst (da_cons (de_tup (da_cons de_int (da_cons de_int (da_cons de_int da_nil)))) (da_cons (de_tup (da_cons (de_tup (da_cons de_int (da_cons de_int (da_cons de_int da_nil)))) (da_cons (de_tup (da_cons de_int (da_cons de_int (da_cons (de_neg de_int) da_nil)))) da_nil))) (da_cons (de_tup da_nil) (da_cons de_int (da_cons (de_tup (da_cons de_int (da_cons (de_neg de_int) (da_cons (de_neg de_int) da_nil)))) (da_cons (de_tup (da_cons de_int (da_cons de_int da_nil))) (da_cons (de_tup da_nil) (da_cons de_int (da_cons (de_tup da_nil) (da_cons (de_tup (da_cons de_int (da_cons de_int (da_cons de_int da_nil)))) da_nil))))))))))) da_nil))))) (dss_one (ds_ret de_bl)) dss_nil)
    (dss_cons (ds_set sc_law_written_right.nd rfl (Or.inl rfl) (de_lst (da_cons (de_tup da_nil) (da_cons (de_tup (da_cons de_int da_nil)) (da_cons (de_tup (da_cons (de_neg de_int) da_nil)) (da_cons (de_mul hK (de_tup (da_cons de_int (da_cons (de_neg de_int) da_nil))) de_int) (da_cons (de_tup (da_cons de_int (da_cons de_int (da_cons de_int (da_cons de_int (da_cons de_int (da_cons de_int (da_cons de_int (da_cons (de_neg de_int) da_nil))))))))) da_nil)))))))
    (dss_cons (ds_set sc_law_written_right.nd rfl (Or.inl rfl) (de_lst (da_cons de_non (da_cons (de_lst da_nil) (da_cons (de_lst (da_cons de_int da_nil)) (da_cons (de_tup (da_cons de_int da_nil)) (da_cons (de_tup (da_cons (de_neg de_int) da_nil)) (da_cons (de_tup (da_cons de_int da_nil)) (da_cons (de_mul hK (de_tup (da_cons de_int da_nil)) de_int) (da_cons (de_tup (da_cons de_bl da_nil)) (da_cons (de_tup (da_cons de_str da_nil)) (da_cons (de_tup (da_cons de_int (da_cons de_non da_nil))) (da_cons de_int (da_cons (de_tup (da_cons (de_tup (da_cons de_int da_nil)) da_nil)) (da_cons (de_tup (da_cons de_int (da_cons de_int (da_cons de_int da_nil)))) (da_cons (de_tup (da_cons (de_neg (de_pow de_int de_int)) da_nil)) da_nil))))))))))))))))
    (dss_one (ds_ret (de_and (de_callD (den_law_like T 8) hK hG hx (hr.mono (by first | decide | omega)) rfl (da_cons (de_lc (own := [("one", 3)]) rfl sc_law_written_right.nd (di_seq hK (de_add hK (de_var 1) (de_var 2))) (blkOk_by (N := (["told", "fine", "odds", "one"] : List Str)) (sc := (defScope s_law_written_right)) (by decide +kernel)) (by decide) (mg_name 3) (fun _ _ _ _ _ => (dg_name 3 sc_law_written_right.nd rfl (Or.inl rfl))) (fun _ _ _ _ _ => dts_nil) (fun _ _ _ _ _ => (de_callDN (den_is_word T) hK hG (hr.mono (by first | decide | omega)) rfl (da_cons de_int (da_cons (de_var 3) da_nil))))) (da_cons (de_add hK (de_mul hK (de_lst (da_cons de_bl da_nil)) de_int) (de_mul hK (de_lst (da_cons de_bl da_nil)) (de_len hK rfl rfl T.b_len (da_cons (de_var 2) da_nil)))) da_nil))) (de_one (de_cmp (o_is hK hr) s_is' (de_callD (den_is_word T) hK hG hx (hr.mono (by first | decide | omega)) rfl (da_cons de_int (da_cons (de_tup (da_cons de_int da_nil)) da_nil))) de_bl (nomark _)))))))))))
abbrev s_law : Stmt := top 39
theorem sc_law : FnScope ["script", "cup", "turn", "many", "word", "more", "at", "odd", "value"] ["script"] (defScope s_law) := ⟨rfl, rfl, rfl, by decide +kernel, rfl, by decide +kernel, by decide +kernel⟩
def b_law_1 : MS := ifS (notT (truth (call [false, false] (g_law_like 8) (consA (call [false, false] g_is_word (consA (evVar 3) (consA (evVar 8) (nilA)))) (consA (call [false, false, false] g_law_is_word (consA (evVar 3) (consA (evVar 8) (consA (evC (.int 60)) (nilA))))) (nilA))))))
    (retS (evC (.bl false)))
    (nop)
def l_law_1 : MS := forS (itQ (mkT (consA (bin2 gAdd (bin2 gAdd (slc (evVar 4) noP (someP (evVar 6))) (mkT (consA (evVar 7) (nilA)))) (slc (evVar 4) (someP (bin2 gAdd (evVar 6) (evC (.int 1)))) noP)) (consA (callB gList (consA (evVar 4) (nilA))) (consA (bin2 gAdd (evVar 4) (mkT (consA (evVar 7) (nilA)))) (nilA)))))) (tgN 8) (b_law_1)
def b_law_2 : MS := seqS (asg 6 (call [true, false] g_law_roll (consA (evVar 1) (consA (bin2 gAdd (callB gLen (consA (evVar 4) (nilA))) (evC (.int 1))) (nilA)))))
    (seqS (asg 7 (call [true, false] g_law_some (consA (evVar 1) (consA (mkL (consA (evVar 3) (consA (un1 gNeg (evVar 3)) (consA (evC (.int 0)) (consA (evC (.bl true)) (consA (evC .non) (consA (bin2 gSub (evVar 3) (evC (.int 1))) (consA (bin2 gSub (evC (.int 1)) (evVar 3)) (consA (evC (.str "1")) (consA (mkT (consA (evC (.int 1)) (nilA))) (nilA))))))))))) (nilA)))))
    (l_law_1))
def l_law_2 : MS := forS (itR1 (consA (evC (.int 4)) (nilA))) (tgN 5) (b_law_2)
def b_law_3 : MS := seqS (asg 3 (bin2 gAdd (evC (.int 2)) (call [true, false] g_law_roll (consA (evVar 1) (consA (evC (.int 6)) (nilA))))))
    (seqS (asg 4 (call [true, false, false] g_law_word (consA (evVar 1) (consA (evVar 3) (consA (call [true, false] g_law_some (consA (evVar 1) (consA (mkL (consA (evC (.int 3)) (consA (evC (.int 9)) (consA (evC (.int 20)) (nilA))))) (nilA)))) (nilA))))))
    (seqS (ifS (notT (truth (call [false, false] g_law_right (consA (evVar 3) (consA (evVar 4) (nilA))))))
    (retS (evC (.bl false)))
    (nop))
    (l_law_2)))
def l_law_3 : MS := forS (itR1 (consA (evC (.int 6)) (nilA))) (tgN 2) (b_law_3)
def m_law : MS := seqS (asg 1 (call [false] g_law_cup (consA (evVar 0) (nilA))))
    (seqS (l_law_3)
    (retS (andV (call [true] g_law_great_right (consA (evVar 1) (nilA))) (call [] g_law_written_right nilA))))
def g_law : List D → Rs := runF [false] 9 m_law
theorem fn_law (T : Txt K mg) {f : Addr} {fd : FuncData} (a : Fun K "law" "law" s_law f fd) : FnOk P w K mg base (L2.CX P w) 13 f fd ["script"] (spF K mg [false] g_law) := by
  refine fn_den a sc_law rfl (by decide) ?_
  intro cdv A outer s H E F hr hK hG hx tk hp
  exact (dss_cons (ds_set sc_law.nd rfl (Or.inl rfl) (de_callD (den_law_cup T) hK hG hx (hr.mono (by first | decide | omega)) rfl (da_cons (de_var 0) da_nil)))
    (dss_cons (ds_for hp rfl (di_r1 rfl T.b_range (da_cons de_int da_nil)) (dg_name 2 sc_law.nd rfl (Or.inl rfl))
    (dss_cons (ds_set sc_law.nd rfl (Or.inl rfl) (de_add hK de_int (de_callD (den_law_roll T) hK hG hx (hr.mono (by first | decide | omega)) rfl (da_cons (de_var 1) (da_cons de_int da_nil)))))
    (dss_cons (ds_set sc_law.nd rfl (Or.inl rfl) (de_callD (den_law_word T) hK hG hx (hr.mono (by first | decide | omega)) rfl (da_cons (de_var 1) (da_cons (de_var 3) (da_cons (de_callD (den_law_some T) hK hG hx (hr.mono (by first | decide | omega)) rfl (da_cons (de_var 1) (da_cons (de_lst (da_cons de_int (da_cons de_int (da_cons de_int da_nil)))) da_nil))) da_nil)))))
    (dss_cons (ds_if (dt_not (dt_truth hK (de_callD (den_law_right T) hK hG hx (hr.mono (by first | decide | omega)) rfl (da_cons (de_var 3) (da_cons (de_var 4) da_nil))))) (dss_one (ds_ret de_bl)) dss_nil)
    (dss_one (ds_for hp rfl (di_r1 rfl T.b_range (da_cons de_int da_nil)) (dg_name 5 sc_law.nd rfl (Or.inl rfl))
    (dss_cons (ds_set sc_law.nd rfl (Or.inl rfl) (de_callD (den_law_roll T) hK hG hx (hr.mono (by first | decide | omega)) rfl (da_cons (de_var 1) (da_cons (de_add hK (de_len hK rfl rfl T.b_len (da_cons (de_var 4) da_nil)) de_int) da_nil))))
    (dss_cons (ds_set sc_law.nd rfl (Or.inl rfl) (de_callD (den_law_some T) hK hG hx (hr.mono (by first | decide | omega)) rfl (da_cons (de_var 1) (da_cons (de_lst (da_cons (de_var 3) (da_cons (de_neg (de_var 3)) (da_cons de_int (da_cons de_bl (da_cons de_non (da_cons (de_sub (de_var 3) de_int) (da_cons (de_sub de_int (de_var 3)) (da_cons de_str (da_cons (de_tup (da_cons de_int da_nil)) da_nil)))))))))) da_nil))))
    (dss_one (ds_for hp rfl (di_seq hK (de_tup (da_cons (de_add hK (de_add hK (de_sl hK (de_var 4) do_none (do_some (de_var 6))) (de_tup (da_cons (de_var 7) da_nil))) (de_sl hK (de_var 4) (do_some (de_add hK (de_var 6) de_int)) do_none)) (da_cons (de_list hK rfl rfl T.b_list (da_cons (de_var 4) da_nil)) (da_cons (de_add hK (de_var 4) (de_tup (da_cons (de_var 7) da_nil))) da_nil))))) (dg_name 8 sc_law.nd rfl (Or.inl rfl))
    (dss_one (ds_if (dt_not (dt_truth hK (de_callD (den_law_like T 8) hK hG hx (hr.mono (by first | decide | omega)) rfl (da_cons (de_callD (den_is_word T) hK hG hx (hr.mono (by first | decide | omega)) rfl (da_cons (de_var 3) (da_cons (de_var 8) da_nil))) (da_cons (de_callD (den_law_is_word T) hK hG hx (hr.mono (by first | decide | omega)) rfl (da_cons (de_var 3) (da_cons (de_var 8) (da_cons de_int da_nil)))) da_nil))))) (dss_one (ds_ret de_bl)) dss_nil))))))))))))
    (dss_one (ds_ret (de_and (de_callD (den_law_great_right T) hK hG hx (hr.mono (by first | decide | omega)) rfl (da_cons (de_var 1) da_nil)) (de_one (de_callD0 (den_law_written_right T) hK hG hx (hr.mono (by first | decide | omega)) rfl)))))))
end
end K34

set_option maxRecDepth 100000
set_option maxHeartbeats 4000000
namespace K34
open PySem PySem.Spec L2 DL
open PyProof.Rows hiding St
open DL (Env)
def wh (v : D) (lo hi : Int) : Bool := match v with
  | .int i => decide (lo ≤ i) && decide (i ≤ hi)
  | _ => false
theorem is_whole_eq (v : D) (lo hi : Int) : g_is_whole [v, .int lo, .int hi] = .ok false (.bl (wh v lo hi)) [] := by
  unfold g_is_whole m_is_whole
  cases v with
  | int i => by_cases h : lo ≤ i <;> simp only [DL.runF, DL.startE, DL.endF, DL.outsOf, DL.seqS, DL.ifS, DL.retS, DL.retN, DL.drop, DL.noList, DL.noLists, DL.noListTop, DL.asg, DL.asgT, DL.toSl, DL.setSl, DL.leak1, DL.leaks, bnd, DL.bndS, DL.evVar, DL.evC, DL.res, DL.resS, DL.bin2, DL.un1, DL.app1, DL.app2, DL.callB, DL.appA, DL.pinO, DL.nilA, DL.consA, DL.mkT, DL.mkL, DL.tst, DL.truth, DL.truthD, DL.andT, DL.orT, DL.notT, DL.andV, DL.orV, DL.notV, DL.ifE, DL.ifT, DL.chain, DL.isi, DL.gIsi, DL.gLen, DL.gAbs, DL.gInt, DL.max_int, DL.min_int, DL.gList, DL.gTuple, DL.gAdd, DL.gSub, DL.gMul, DL.gFdiv, DL.gMod, DL.gPow, DL.gNeg, DL.gCmp, DL.gLt, DL.eq_int, DL.ne_int, DL.gIx, DL.gRev, DL.gSl, DL.slc, DL.noP, DL.someP, DL.gIsN, DL.gNotN, DL.isNonD, DL.seqX, DL.seqD, DL.itQ, DL.itR1, DL.itR2, DL.call, DL.noErr, DL.callF, DL.argsD, DL.ioSl, DL.rdSl, DL.mineAt, DL.nodupB, DL.leakSl, DL.putIo, DL.lookN, DL.putAt, DL.reTop, DL.topAt, DL.putTop, DL.apnd, DL.stoL, DL.stoT, DL.par2, DL.put2, DL.par3, DL.put3, DL.tgN, DL.tgTup, DL.tgCons, DL.tgNil, DL.forS, DL.wipeE, DL.restE, DL.yesT, DL.lcStep, DL.mutL, DL.gInsert, DL.raiseS, DL.nop, DL.brk, DL.cont, DL.ite_out, List.map_cons, List.map_nil, List.zip_cons_cons, List.zip_nil_right, List.zip_nil_left, List.length_cons, List.length_nil, List.cons_append, List.nil_append, List.replicate_succ, List.replicate_zero, List.getElem?_cons_zero, List.getElem?_cons_succ, List.getElem?_nil, List.set_cons_zero, List.set_cons_succ, List.all_cons, List.all_nil, List.isEmpty_nil, List.isEmpty_cons, List.contains_nil, List.contains_cons, List.elem_nil, Bool.false_eq_true, if_true, if_false, ite_true, ite_false, reduceIte, Bool.and_true, Bool.true_and, Bool.and_false, Bool.false_and, Bool.or_true, Bool.true_or, Bool.or_false, Bool.false_or, Bool.not_true, Bool.not_false, Option.bind_some, Option.bind_none, Option.map_some, Option.map_none, Nat.reduceAdd, Nat.reduceSub, Nat.reduceEqDiff, Nat.reduceLeDiff, Nat.zero_add, decide_true, decide_false, beq_self_eq_true, String.reduceBEq, String.reduceEq, reduceCtorEq, Int.reduceNeg, Int.reduceLT, Int.reduceLE, Int.reduceAdd, Int.reduceSub, Int.reduceMul, Int.reduceEq, Int.reduceBEq, Int.natCast_zero, Int.natCast_one, Int.cast_ofNat_Int, DL.atI_0, DL.atI_1, DL.atI_2, DL.atI_3, DL.atI_4, DL.atI_5, DL.atI_6, DL.cut_tail, DL.cut5_02, DL.cut5_24, List.take_succ_cons, List.take_zero, List.take_nil, List.drop_succ_cons, List.drop_zero, List.drop_nil, Int.toNat_natCast, Int.reduceToNat, Int.reducePow, Nat.reducePow, Nat.reduceMul, and_self, and_true, true_and, List.length_map, List.map_map, decide_eq_true_eq, wh, h]
  | bl b => simp only [DL.runF, DL.startE, DL.endF, DL.outsOf, DL.seqS, DL.ifS, DL.retS, DL.retN, DL.drop, DL.noList, DL.noLists, DL.noListTop, DL.asg, DL.asgT, DL.toSl, DL.setSl, DL.leak1, DL.leaks, bnd, DL.bndS, DL.evVar, DL.evC, DL.res, DL.resS, DL.bin2, DL.un1, DL.app1, DL.app2, DL.callB, DL.appA, DL.pinO, DL.nilA, DL.consA, DL.mkT, DL.mkL, DL.tst, DL.truth, DL.truthD, DL.andT, DL.orT, DL.notT, DL.andV, DL.orV, DL.notV, DL.ifE, DL.ifT, DL.chain, DL.isi, DL.gIsi, DL.gLen, DL.gAbs, DL.gInt, DL.max_int, DL.min_int, DL.gList, DL.gTuple, DL.gAdd, DL.gSub, DL.gMul, DL.gFdiv, DL.gMod, DL.gPow, DL.gNeg, DL.gCmp, DL.gLt, DL.eq_int, DL.ne_int, DL.gIx, DL.gRev, DL.gSl, DL.slc, DL.noP, DL.someP, DL.gIsN, DL.gNotN, DL.isNonD, DL.seqX, DL.seqD, DL.itQ, DL.itR1, DL.itR2, DL.call, DL.noErr, DL.callF, DL.argsD, DL.ioSl, DL.rdSl, DL.mineAt, DL.nodupB, DL.leakSl, DL.putIo, DL.lookN, DL.putAt, DL.reTop, DL.topAt, DL.putTop, DL.apnd, DL.stoL, DL.stoT, DL.par2, DL.put2, DL.par3, DL.put3, DL.tgN, DL.tgTup, DL.tgCons, DL.tgNil, DL.forS, DL.wipeE, DL.restE, DL.yesT, DL.lcStep, DL.mutL, DL.gInsert, DL.raiseS, DL.nop, DL.brk, DL.cont, DL.ite_out, List.map_cons, List.map_nil, List.zip_cons_cons, List.zip_nil_right, List.zip_nil_left, List.length_cons, List.length_nil, List.cons_append, List.nil_append, List.replicate_succ, List.replicate_zero, List.getElem?_cons_zero, List.getElem?_cons_succ, List.getElem?_nil, List.set_cons_zero, List.set_cons_succ, List.all_cons, List.all_nil, List.isEmpty_nil, List.isEmpty_cons, List.contains_nil, List.contains_cons, List.elem_nil, Bool.false_eq_true, if_true, if_false, ite_true, ite_false, reduceIte, Bool.and_true, Bool.true_and, Bool.and_false, Bool.false_and, Bool.or_true, Bool.true_or, Bool.or_false, Bool.false_or, Bool.not_true, Bool.not_false, Option.bind_some, Option.bind_none, Option.map_some, Option.map_none, Nat.reduceAdd, Nat.reduceSub, Nat.reduceEqDiff, Nat.reduceLeDiff, Nat.zero_add, decide_true, decide_false, beq_self_eq_true, String.reduceBEq, String.reduceEq, reduceCtorEq, Int.reduceNeg, Int.reduceLT, Int.reduceLE, Int.reduceAdd, Int.reduceSub, Int.reduceMul, Int.reduceEq, Int.reduceBEq, Int.natCast_zero, Int.natCast_one, Int.cast_ofNat_Int, DL.atI_0, DL.atI_1, DL.atI_2, DL.atI_3, DL.atI_4, DL.atI_5, DL.atI_6, DL.cut_tail, DL.cut5_02, DL.cut5_24, List.take_succ_cons, List.take_zero, List.take_nil, List.drop_succ_cons, List.drop_zero, List.drop_nil, Int.toNat_natCast, Int.reduceToNat, Int.reducePow, Nat.reducePow, Nat.reduceMul, and_self, and_true, true_and, List.length_map, List.map_map, decide_eq_true_eq, wh]
  | _ => simp only [DL.runF, DL.startE, DL.endF, DL.outsOf, DL.seqS, DL.ifS, DL.retS, DL.retN, DL.drop, DL.noList, DL.noLists, DL.noListTop, DL.asg, DL.asgT, DL.toSl, DL.setSl, DL.leak1, DL.leaks, bnd, DL.bndS, DL.evVar, DL.evC, DL.res, DL.resS, DL.bin2, DL.un1, DL.app1, DL.app2, DL.callB, DL.appA, DL.pinO, DL.nilA, DL.consA, DL.mkT, DL.mkL, DL.tst, DL.truth, DL.truthD, DL.andT, DL.orT, DL.notT, DL.andV, DL.orV, DL.notV, DL.ifE, DL.ifT, DL.chain, DL.isi, DL.gIsi, DL.gLen, DL.gAbs, DL.gInt, DL.max_int, DL.min_int, DL.gList, DL.gTuple, DL.gAdd, DL.gSub, DL.gMul, DL.gFdiv, DL.gMod, DL.gPow, DL.gNeg, DL.gCmp, DL.gLt, DL.eq_int, DL.ne_int, DL.gIx, DL.gRev, DL.gSl, DL.slc, DL.noP, DL.someP, DL.gIsN, DL.gNotN, DL.isNonD, DL.seqX, DL.seqD, DL.itQ, DL.itR1, DL.itR2, DL.call, DL.noErr, DL.callF, DL.argsD, DL.ioSl, DL.rdSl, DL.mineAt, DL.nodupB, DL.leakSl, DL.putIo, DL.lookN, DL.putAt, DL.reTop, DL.topAt, DL.putTop, DL.apnd, DL.stoL, DL.stoT, DL.par2, DL.put2, DL.par3, DL.put3, DL.tgN, DL.tgTup, DL.tgCons, DL.tgNil, DL.forS, DL.wipeE, DL.restE, DL.yesT, DL.lcStep, DL.mutL, DL.gInsert, DL.raiseS, DL.nop, DL.brk, DL.cont, DL.ite_out, List.map_cons, List.map_nil, List.zip_cons_cons, List.zip_nil_right, List.zip_nil_left, List.length_cons, List.length_nil, List.cons_append, List.nil_append, List.replicate_succ, List.replicate_zero, List.getElem?_cons_zero, List.getElem?_cons_succ, List.getElem?_nil, List.set_cons_zero, List.set_cons_succ, List.all_cons, List.all_nil, List.isEmpty_nil, List.isEmpty_cons, List.contains_nil, List.contains_cons, List.elem_nil, Bool.false_eq_true, if_true, if_false, ite_true, ite_false, reduceIte, Bool.and_true, Bool.true_and, Bool.and_false, Bool.false_and, Bool.or_true, Bool.true_or, Bool.or_false, Bool.false_or, Bool.not_true, Bool.not_false, Option.bind_some, Option.bind_none, Option.map_some, Option.map_none, Nat.reduceAdd, Nat.reduceSub, Nat.reduceEqDiff, Nat.reduceLeDiff, Nat.zero_add, decide_true, decide_false, beq_self_eq_true, String.reduceBEq, String.reduceEq, reduceCtorEq, Int.reduceNeg, Int.reduceLT, Int.reduceLE, Int.reduceAdd, Int.reduceSub, Int.reduceMul, Int.reduceEq, Int.reduceBEq, Int.natCast_zero, Int.natCast_one, Int.cast_ofNat_Int, DL.atI_0, DL.atI_1, DL.atI_2, DL.atI_3, DL.atI_4, DL.atI_5, DL.atI_6, DL.cut_tail, DL.cut5_02, DL.cut5_24, List.take_succ_cons, List.take_zero, List.take_nil, List.drop_succ_cons, List.drop_zero, List.drop_nil, Int.toNat_natCast, Int.reduceToNat, Int.reducePow, Nat.reducePow, Nat.reduceMul, and_self, and_true, true_and, List.length_map, List.map_map, decide_eq_true_eq, wh]
def isTup (v : D) (lo hi : Int) : Bool := match v with
  | .tup ds => decide (lo ≤ ds.length) && decide ((ds.length : Int) ≤ hi)
  | .kt ds => decide (lo ≤ ds.length) && decide ((ds.length : Int) ≤ hi)
  | _ => false
theorem is_tuple_of_eq (v : D) (lo hi : Int) : g_is_tuple_of [v, .int lo, .int hi] = .ok false (.bl (isTup v lo hi)) [] := by
  unfold g_is_tuple_of m_is_tuple_of
  cases v with
  | tup ds => by_cases h : lo ≤ ds.length <;> simp only [DL.runF, DL.startE, DL.endF, DL.outsOf, DL.seqS, DL.ifS, DL.retS, DL.retN, DL.drop, DL.noList, DL.noLists, DL.noListTop, DL.asg, DL.asgT, DL.toSl, DL.setSl, DL.leak1, DL.leaks, bnd, DL.bndS, DL.evVar, DL.evC, DL.res, DL.resS, DL.bin2, DL.un1, DL.app1, DL.app2, DL.callB, DL.appA, DL.pinO, DL.nilA, DL.consA, DL.mkT, DL.mkL, DL.tst, DL.truth, DL.truthD, DL.andT, DL.orT, DL.notT, DL.andV, DL.orV, DL.notV, DL.ifE, DL.ifT, DL.chain, DL.isi, DL.gIsi, DL.gLen, DL.gAbs, DL.gInt, DL.max_int, DL.min_int, DL.gList, DL.gTuple, DL.gAdd, DL.gSub, DL.gMul, DL.gFdiv, DL.gMod, DL.gPow, DL.gNeg, DL.gCmp, DL.gLt, DL.eq_int, DL.ne_int, DL.gIx, DL.gRev, DL.gSl, DL.slc, DL.noP, DL.someP, DL.gIsN, DL.gNotN, DL.isNonD, DL.seqX, DL.seqD, DL.itQ, DL.itR1, DL.itR2, DL.call, DL.noErr, DL.callF, DL.argsD, DL.ioSl, DL.rdSl, DL.mineAt, DL.nodupB, DL.leakSl, DL.putIo, DL.lookN, DL.putAt, DL.reTop, DL.topAt, DL.putTop, DL.apnd, DL.stoL, DL.stoT, DL.par2, DL.put2, DL.par3, DL.put3, DL.tgN, DL.tgTup, DL.tgCons, DL.tgNil, DL.forS, DL.wipeE, DL.restE, DL.yesT, DL.lcStep, DL.mutL, DL.gInsert, DL.raiseS, DL.nop, DL.brk, DL.cont, DL.ite_out, List.map_cons, List.map_nil, List.zip_cons_cons, List.zip_nil_right, List.zip_nil_left, List.length_cons, List.length_nil, List.cons_append, List.nil_append, List.replicate_succ, List.replicate_zero, List.getElem?_cons_zero, List.getElem?_cons_succ, List.getElem?_nil, List.set_cons_zero, List.set_cons_succ, List.all_cons, List.all_nil, List.isEmpty_nil, List.isEmpty_cons, List.contains_nil, List.contains_cons, List.elem_nil, Bool.false_eq_true, if_true, if_false, ite_true, ite_false, reduceIte, Bool.and_true, Bool.true_and, Bool.and_false, Bool.false_and, Bool.or_true, Bool.true_or, Bool.or_false, Bool.false_or, Bool.not_true, Bool.not_false, Option.bind_some, Option.bind_none, Option.map_some, Option.map_none, Nat.reduceAdd, Nat.reduceSub, Nat.reduceEqDiff, Nat.reduceLeDiff, Nat.zero_add, decide_true, decide_false, beq_self_eq_true, String.reduceBEq, String.reduceEq, reduceCtorEq, Int.reduceNeg, Int.reduceLT, Int.reduceLE, Int.reduceAdd, Int.reduceSub, Int.reduceMul, Int.reduceEq, Int.reduceBEq, Int.natCast_zero, Int.natCast_one, Int.cast_ofNat_Int, DL.atI_0, DL.atI_1, DL.atI_2, DL.atI_3, DL.atI_4, DL.atI_5, DL.atI_6, DL.cut_tail, DL.cut5_02, DL.cut5_24, List.take_succ_cons, List.take_zero, List.take_nil, List.drop_succ_cons, List.drop_zero, List.drop_nil, Int.toNat_natCast, Int.reduceToNat, Int.reducePow, Nat.reducePow, Nat.reduceMul, and_self, and_true, true_and, List.length_map, List.map_map, decide_eq_true_eq, isTup, h]
  | kt ds => by_cases h : lo ≤ ds.length <;> simp only [DL.runF, DL.startE, DL.endF, DL.outsOf, DL.seqS, DL.ifS, DL.retS, DL.retN, DL.drop, DL.noList, DL.noLists, DL.noListTop, DL.asg, DL.asgT, DL.toSl, DL.setSl, DL.leak1, DL.leaks, bnd, DL.bndS, DL.evVar, DL.evC, DL.res, DL.resS, DL.bin2, DL.un1, DL.app1, DL.app2, DL.callB, DL.appA, DL.pinO, DL.nilA, DL.consA, DL.mkT, DL.mkL, DL.tst, DL.truth, DL.truthD, DL.andT, DL.orT, DL.notT, DL.andV, DL.orV, DL.notV, DL.ifE, DL.ifT, DL.chain, DL.isi, DL.gIsi, DL.gLen, DL.gAbs, DL.gInt, DL.max_int, DL.min_int, DL.gList, DL.gTuple, DL.gAdd, DL.gSub, DL.gMul, DL.gFdiv, DL.gMod, DL.gPow, DL.gNeg, DL.gCmp, DL.gLt, DL.eq_int, DL.ne_int, DL.gIx, DL.gRev, DL.gSl, DL.slc, DL.noP, DL.someP, DL.gIsN, DL.gNotN, DL.isNonD, DL.seqX, DL.seqD, DL.itQ, DL.itR1, DL.itR2, DL.call, DL.noErr, DL.callF, DL.argsD, DL.ioSl, DL.rdSl, DL.mineAt, DL.nodupB, DL.leakSl, DL.putIo, DL.lookN, DL.putAt, DL.reTop, DL.topAt, DL.putTop, DL.apnd, DL.stoL, DL.stoT, DL.par2, DL.put2, DL.par3, DL.put3, DL.tgN, DL.tgTup, DL.tgCons, DL.tgNil, DL.forS, DL.wipeE, DL.restE, DL.yesT, DL.lcStep, DL.mutL, DL.gInsert, DL.raiseS, DL.nop, DL.brk, DL.cont, DL.ite_out, List.map_cons, List.map_nil, List.zip_cons_cons, List.zip_nil_right, List.zip_nil_left, List.length_cons, List.length_nil, List.cons_append, List.nil_append, List.replicate_succ, List.replicate_zero, List.getElem?_cons_zero, List.getElem?_cons_succ, List.getElem?_nil, List.set_cons_zero, List.set_cons_succ, List.all_cons, List.all_nil, List.isEmpty_nil, List.isEmpty_cons, List.contains_nil, List.contains_cons, List.elem_nil, Bool.false_eq_true, if_true, if_false, ite_true, ite_false, reduceIte, Bool.and_true, Bool.true_and, Bool.and_false, Bool.false_and, Bool.or_true, Bool.true_or, Bool.or_false, Bool.false_or, Bool.not_true, Bool.not_false, Option.bind_some, Option.bind_none, Option.map_some, Option.map_none, Nat.reduceAdd, Nat.reduceSub, Nat.reduceEqDiff, Nat.reduceLeDiff, Nat.zero_add, decide_true, decide_false, beq_self_eq_true, String.reduceBEq, String.reduceEq, reduceCtorEq, Int.reduceNeg, Int.reduceLT, Int.reduceLE, Int.reduceAdd, Int.reduceSub, Int.reduceMul, Int.reduceEq, Int.reduceBEq, Int.natCast_zero, Int.natCast_one, Int.cast_ofNat_Int, DL.atI_0, DL.atI_1, DL.atI_2, DL.atI_3, DL.atI_4, DL.atI_5, DL.atI_6, DL.cut_tail, DL.cut5_02, DL.cut5_24, List.take_succ_cons, List.take_zero, List.take_nil, List.drop_succ_cons, List.drop_zero, List.drop_nil, Int.toNat_natCast, Int.reduceToNat, Int.reducePow, Nat.reducePow, Nat.reduceMul, and_self, and_true, true_and, List.length_map, List.map_map, decide_eq_true_eq, isTup, h]
  | _ => simp only [DL.runF, DL.startE, DL.endF, DL.outsOf, DL.seqS, DL.ifS, DL.retS, DL.retN, DL.drop, DL.noList, DL.noLists, DL.noListTop, DL.asg, DL.asgT, DL.toSl, DL.setSl, DL.leak1, DL.leaks, bnd, DL.bndS, DL.evVar, DL.evC, DL.res, DL.resS, DL.bin2, DL.un1, DL.app1, DL.app2, DL.callB, DL.appA, DL.pinO, DL.nilA, DL.consA, DL.mkT, DL.mkL, DL.tst, DL.truth, DL.truthD, DL.andT, DL.orT, DL.notT, DL.andV, DL.orV, DL.notV, DL.ifE, DL.ifT, DL.chain, DL.isi, DL.gIsi, DL.gLen, DL.gAbs, DL.gInt, DL.max_int, DL.min_int, DL.gList, DL.gTuple, DL.gAdd, DL.gSub, DL.gMul, DL.gFdiv, DL.gMod, DL.gPow, DL.gNeg, DL.gCmp, DL.gLt, DL.eq_int, DL.ne_int, DL.gIx, DL.gRev, DL.gSl, DL.slc, DL.noP, DL.someP, DL.gIsN, DL.gNotN, DL.isNonD, DL.seqX, DL.seqD, DL.itQ, DL.itR1, DL.itR2, DL.call, DL.noErr, DL.callF, DL.argsD, DL.ioSl, DL.rdSl, DL.mineAt, DL.nodupB, DL.leakSl, DL.putIo, DL.lookN, DL.putAt, DL.reTop, DL.topAt, DL.putTop, DL.apnd, DL.stoL, DL.stoT, DL.par2, DL.put2, DL.par3, DL.put3, DL.tgN, DL.tgTup, DL.tgCons, DL.tgNil, DL.forS, DL.wipeE, DL.restE, DL.yesT, DL.lcStep, DL.mutL, DL.gInsert, DL.raiseS, DL.nop, DL.brk, DL.cont, DL.ite_out, List.map_cons, List.map_nil, List.zip_cons_cons, List.zip_nil_right, List.zip_nil_left, List.length_cons, List.length_nil, List.cons_append, List.nil_append, List.replicate_succ, List.replicate_zero, List.getElem?_cons_zero, List.getElem?_cons_succ, List.getElem?_nil, List.set_cons_zero, List.set_cons_succ, List.all_cons, List.all_nil, List.isEmpty_nil, List.isEmpty_cons, List.contains_nil, List.contains_cons, List.elem_nil, Bool.false_eq_true, if_true, if_false, ite_true, ite_false, reduceIte, Bool.and_true, Bool.true_and, Bool.and_false, Bool.false_and, Bool.or_true, Bool.true_or, Bool.or_false, Bool.false_or, Bool.not_true, Bool.not_false, Option.bind_some, Option.bind_none, Option.map_some, Option.map_none, Nat.reduceAdd, Nat.reduceSub, Nat.reduceEqDiff, Nat.reduceLeDiff, Nat.zero_add, decide_true, decide_false, beq_self_eq_true, String.reduceBEq, String.reduceEq, reduceCtorEq, Int.reduceNeg, Int.reduceLT, Int.reduceLE, Int.reduceAdd, Int.reduceSub, Int.reduceMul, Int.reduceEq, Int.reduceBEq, Int.natCast_zero, Int.natCast_one, Int.cast_ofNat_Int, DL.atI_0, DL.atI_1, DL.atI_2, DL.atI_3, DL.atI_4, DL.atI_5, DL.atI_6, DL.cut_tail, DL.cut5_02, DL.cut5_24, List.take_succ_cons, List.take_zero, List.take_nil, List.drop_succ_cons, List.drop_zero, List.drop_nil, Int.toNat_natCast, Int.reduceToNat, Int.reducePow, Nat.reducePow, Nat.reduceMul, and_self, and_true, true_and, List.length_map, List.map_map, decide_eq_true_eq, isTup]
theorem isTup_ne {ds : List D} {n : Int} (h : (ds.length : Int) ≠ n) : isTup (.tup ds) n n = false := by
  show (decide (n ≤ (ds.length : Int)) && decide ((ds.length : Int) ≤ n)) = false
  by_cases h1 : n ≤ ds.length
  · rw [decide_eq_true h1, decide_eq_false (by omega)]; rfl
  · rw [decide_eq_false h1]; rfl
theorem isTup_eq {ds : List D} {n : Int} (h : (ds.length : Int) = n) : isTup (.tup ds) n n = true := by
  show (decide (n ≤ (ds.length : Int)) && decide ((ds.length : Int) ≤ n)) = true
  rw [decide_eq_true (by omega), decide_eq_true (by omega)]; rfl
def noK : D → Bool
  | .kt _ => false
  | _ => true
theorem wh_true {a lo hi : Int} (h1 : lo ≤ a) (h2 : a ≤ hi) : wh (.int a) lo hi = true := by
  simp only [wh, decide_eq_true h1, decide_eq_true h2]; rfl
theorem all_true {α : Type} : ∀ l : List α, (l.map fun _ => true).all id = true
  | [] => rfl
  | x :: l => by simp
theorem blsOf_true {α : Type} : ∀ l : List α, blsOf (l.map fun _ => D.bl true) = some (l.map fun _ => true)
  | [] => rfl
  | x :: l => by simp [blsOf, blsOf_true l]
theorem need_whole_ok {x lo hi : Int} (h1 : lo ≤ x) (h2 : x ≤ hi) : g_need_whole [.int x, .int lo, .int hi] = .ok false .non [] := by
  unfold g_need_whole m_need_whole
  simp only [DL.runF, DL.startE, DL.endF, DL.outsOf, DL.seqS, DL.ifS, DL.retS, DL.retN, DL.drop, DL.noList, DL.noLists, DL.noListTop, DL.asg, DL.asgT, DL.toSl, DL.setSl, DL.leak1, DL.leaks, bnd, DL.bndS, DL.evVar, DL.evC, DL.res, DL.resS, DL.bin2, DL.un1, DL.app1, DL.app2, DL.callB, DL.appA, DL.pinO, DL.nilA, DL.consA, DL.mkT, DL.mkL, DL.tst, DL.truth, DL.truthD, DL.andT, DL.orT, DL.notT, DL.andV, DL.orV, DL.notV, DL.ifE, DL.ifT, DL.chain, DL.isi, DL.gIsi, DL.gLen, DL.gAbs, DL.gInt, DL.max_int, DL.min_int, DL.gList, DL.gTuple, DL.gAdd, DL.gSub, DL.gMul, DL.gFdiv, DL.gMod, DL.gPow, DL.gNeg, DL.gCmp, DL.gLt, DL.eq_int, DL.ne_int, DL.gIx, DL.gRev, DL.gSl, DL.slc, DL.noP, DL.someP, DL.gIsN, DL.gNotN, DL.isNonD, DL.seqX, DL.seqD, DL.itQ, DL.itR1, DL.itR2, DL.call, DL.noErr, DL.callF, DL.argsD, DL.ioSl, DL.rdSl, DL.mineAt, DL.nodupB, DL.leakSl, DL.putIo, DL.lookN, DL.putAt, DL.reTop, DL.topAt, DL.putTop, DL.apnd, DL.stoL, DL.stoT, DL.par2, DL.put2, DL.par3, DL.put3, DL.tgN, DL.tgTup, DL.tgCons, DL.tgNil, DL.forS, DL.wipeE, DL.restE, DL.yesT, DL.lcStep, DL.mutL, DL.gInsert, DL.raiseS, DL.nop, DL.brk, DL.cont, DL.ite_out, List.map_cons, List.map_nil, List.zip_cons_cons, List.zip_nil_right, List.zip_nil_left, List.length_cons, List.length_nil, List.cons_append, List.nil_append, List.replicate_succ, List.replicate_zero, List.getElem?_cons_zero, List.getElem?_cons_succ, List.getElem?_nil, List.set_cons_zero, List.set_cons_succ, List.all_cons, List.all_nil, List.isEmpty_nil, List.isEmpty_cons, List.contains_nil, List.contains_cons, List.elem_nil, Bool.false_eq_true, if_true, if_false, ite_true, ite_false, reduceIte, Bool.and_true, Bool.true_and, Bool.and_false, Bool.false_and, Bool.or_true, Bool.true_or, Bool.or_false, Bool.false_or, Bool.not_true, Bool.not_false, Option.bind_some, Option.bind_none, Option.map_some, Option.map_none, Nat.reduceAdd, Nat.reduceSub, Nat.reduceEqDiff, Nat.reduceLeDiff, Nat.zero_add, decide_true, decide_false, beq_self_eq_true, String.reduceBEq, String.reduceEq, reduceCtorEq, Int.reduceNeg, Int.reduceLT, Int.reduceLE, Int.reduceAdd, Int.reduceSub, Int.reduceMul, Int.reduceEq, Int.reduceBEq, Int.natCast_zero, Int.natCast_one, Int.cast_ofNat_Int, DL.atI_0, DL.atI_1, DL.atI_2, DL.atI_3, DL.atI_4, DL.atI_5, DL.atI_6, DL.cut_tail, DL.cut5_02, DL.cut5_24, List.take_succ_cons, List.take_zero, List.take_nil, List.drop_succ_cons, List.drop_zero, List.drop_nil, Int.toNat_natCast, Int.reduceToNat, Int.reducePow, Nat.reducePow, Nat.reduceMul, and_self, and_true, true_and, List.length_map, List.map_map, decide_eq_true_eq, is_whole_eq, wh_true h1 h2]
def nk : Nat → D → Bool
  | 0, _ => true
  | n + 1, v => match v with
    | .kt _ => false
    | .tup ds => ds.all (nk n)
    | .lst ds => ds.all (nk n)
    | .dk _ _ => false
    | .dt _ _ => false
    | .scr _ => false
    | _ => true
theorem nk_noK {n : Nat} {v : D} (h : nk (n + 1) v = true) : noK v = true := by
  cases v <;> first | rfl | exact h
theorem all_map {α : Type} (f : α → Bool) (l : List α) : (l.map f).all id = l.all f := by
  induction l with
  | nil => rfl
  | cons x l ih => simp [ih]
def sortN : D → Int
  | .non => 0
  | .bl _ => 1
  | .int _ => 2
  | .str _ => 3
  | .tup _ => 4
  | .kt _ => 4
  | .lst _ => 5
  | .scr _ => 5
  | _ => 6
theorem law_sort_eq (v : D) : g_law_sort [v] = .ok false (.int (sortN v)) [] := by
  unfold g_law_sort m_law_sort
  cases v <;> simp only [DL.runF, DL.startE, DL.endF, DL.outsOf, DL.seqS, DL.ifS, DL.retS, DL.retN, DL.drop, DL.noList, DL.noLists, DL.noListTop, DL.asg, DL.asgT, DL.toSl, DL.setSl, DL.leak1, DL.leaks, bnd, DL.bndS, DL.evVar, DL.evC, DL.res, DL.resS, DL.bin2, DL.un1, DL.app1, DL.app2, DL.callB, DL.appA, DL.pinO, DL.nilA, DL.consA, DL.mkT, DL.mkL, DL.tst, DL.truth, DL.truthD, DL.andT, DL.orT, DL.notT, DL.andV, DL.orV, DL.notV, DL.ifE, DL.ifT, DL.chain, DL.isi, DL.gIsi, DL.gLen, DL.gAbs, DL.gInt, DL.max_int, DL.min_int, DL.gList, DL.gTuple, DL.gAdd, DL.gSub, DL.gMul, DL.gFdiv, DL.gMod, DL.gPow, DL.gNeg, DL.gCmp, DL.gLt, DL.eq_int, DL.ne_int, DL.gIx, DL.gRev, DL.gSl, DL.slc, DL.noP, DL.someP, DL.gIsN, DL.gNotN, DL.isNonD, DL.seqX, DL.seqD, DL.itQ, DL.itR1, DL.itR2, DL.call, DL.noErr, DL.callF, DL.argsD, DL.ioSl, DL.rdSl, DL.mineAt, DL.nodupB, DL.leakSl, DL.putIo, DL.lookN, DL.putAt, DL.reTop, DL.topAt, DL.putTop, DL.apnd, DL.stoL, DL.stoT, DL.par2, DL.put2, DL.par3, DL.put3, DL.tgN, DL.tgTup, DL.tgCons, DL.tgNil, DL.forS, DL.wipeE, DL.restE, DL.yesT, DL.lcStep, DL.mutL, DL.gInsert, DL.raiseS, DL.nop, DL.brk, DL.cont, DL.ite_out, List.map_cons, List.map_nil, List.zip_cons_cons, List.zip_nil_right, List.zip_nil_left, List.length_cons, List.length_nil, List.cons_append, List.nil_append, List.replicate_succ, List.replicate_zero, List.getElem?_cons_zero, List.getElem?_cons_succ, List.getElem?_nil, List.set_cons_zero, List.set_cons_succ, List.all_cons, List.all_nil, List.isEmpty_nil, List.isEmpty_cons, List.contains_nil, List.contains_cons, List.elem_nil, Bool.false_eq_true, if_true, if_false, ite_true, ite_false, reduceIte, Bool.and_true, Bool.true_and, Bool.and_false, Bool.false_and, Bool.or_true, Bool.true_or, Bool.or_false, Bool.false_or, Bool.not_true, Bool.not_false, Option.bind_some, Option.bind_none, Option.map_some, Option.map_none, Nat.reduceAdd, Nat.reduceSub, Nat.reduceEqDiff, Nat.reduceLeDiff, Nat.zero_add, decide_true, decide_false, beq_self_eq_true, String.reduceBEq, String.reduceEq, reduceCtorEq, Int.reduceNeg, Int.reduceLT, Int.reduceLE, Int.reduceAdd, Int.reduceSub, Int.reduceMul, Int.reduceEq, Int.reduceBEq, Int.natCast_zero, Int.natCast_one, Int.cast_ofNat_Int, DL.atI_0, DL.atI_1, DL.atI_2, DL.atI_3, DL.atI_4, DL.atI_5, DL.atI_6, DL.cut_tail, DL.cut5_02, DL.cut5_24, List.take_succ_cons, List.take_zero, List.take_nil, List.drop_succ_cons, List.drop_zero, List.drop_nil, Int.toNat_natCast, Int.reduceToNat, Int.reducePow, Nat.reducePow, Nat.reduceMul, and_self, and_true, true_and, List.length_map, List.map_map, decide_eq_true_eq, sortN]
abbrev cupD (c : Int × Int) : D := .lst [.int c.1, .int c.2]
theorem fmod_rng {a m : Int} (h : 0 < m) : 0 ≤ a.fmod m ∧ a.fmod m < m := by
  rw [Int.fmod_eq_emod_of_nonneg a (by omega)]
  exact ⟨Int.emod_nonneg a (by omega), Int.emod_lt_of_pos a h⟩
theorem roll_ok (c : Int × Int) {m : Int} (h1 : 1 ≤ m) (h2 : m < 1073741824) : ∃ r c', 0 ≤ r ∧ r < m ∧ g_law_roll [cupD c, .int m] = .ok false (.int r) [cupD c'] := by
  unfold g_law_roll m_law_roll
  have hm0 : m ≠ 0 := by omega
  have hma : m.natAbs < 1073741824 := by omega
  cases hc : decide (0 < c.1) with
  | true =>
    obtain ⟨a1, a2⟩ := fmod_rng (a := c.1) (m := m) (by omega)
    refine ⟨c.1.fmod m, (c.1.fdiv m, c.2), a1, a2, ?_⟩
    simp only [DL.runF, DL.startE, DL.endF, DL.outsOf, DL.seqS, DL.ifS, DL.retS, DL.retN, DL.drop, DL.noList, DL.noLists, DL.noListTop, DL.asg, DL.asgT, DL.toSl, DL.setSl, DL.leak1, DL.leaks, bnd, DL.bndS, DL.evVar, DL.evC, DL.res, DL.resS, DL.bin2, DL.un1, DL.app1, DL.app2, DL.callB, DL.appA, DL.pinO, DL.nilA, DL.consA, DL.mkT, DL.mkL, DL.tst, DL.truth, DL.truthD, DL.andT, DL.orT, DL.notT, DL.andV, DL.orV, DL.notV, DL.ifE, DL.ifT, DL.chain, DL.isi, DL.gIsi, DL.gLen, DL.gAbs, DL.gInt, DL.max_int, DL.min_int, DL.gList, DL.gTuple, DL.gAdd, DL.gSub, DL.gMul, DL.gFdiv, DL.gMod, DL.gPow, DL.gNeg, DL.gCmp, DL.gLt, DL.eq_int, DL.ne_int, DL.gIx, DL.gRev, DL.gSl, DL.slc, DL.noP, DL.someP, DL.gIsN, DL.gNotN, DL.isNonD, DL.seqX, DL.seqD, DL.itQ, DL.itR1, DL.itR2, DL.call, DL.noErr, DL.callF, DL.argsD, DL.ioSl, DL.rdSl, DL.mineAt, DL.nodupB, DL.leakSl, DL.putIo, DL.lookN, DL.putAt, DL.reTop, DL.topAt, DL.putTop, DL.apnd, DL.stoL, DL.stoT, DL.par2, DL.put2, DL.par3, DL.put3, DL.tgN, DL.tgTup, DL.tgCons, DL.tgNil, DL.forS, DL.wipeE, DL.restE, DL.yesT, DL.lcStep, DL.mutL, DL.gInsert, DL.raiseS, DL.nop, DL.brk, DL.cont, DL.ite_out, List.map_cons, List.map_nil, List.zip_cons_cons, List.zip_nil_right, List.zip_nil_left, List.length_cons, List.length_nil, List.cons_append, List.nil_append, List.replicate_succ, List.replicate_zero, List.getElem?_cons_zero, List.getElem?_cons_succ, List.getElem?_nil, List.set_cons_zero, List.set_cons_succ, List.all_cons, List.all_nil, List.isEmpty_nil, List.isEmpty_cons, List.contains_nil, List.contains_cons, List.elem_nil, Bool.false_eq_true, if_true, if_false, ite_true, ite_false, reduceIte, Bool.and_true, Bool.true_and, Bool.and_false, Bool.false_and, Bool.or_true, Bool.true_or, Bool.or_false, Bool.false_or, Bool.not_true, Bool.not_false, Option.bind_some, Option.bind_none, Option.map_some, Option.map_none, Nat.reduceAdd, Nat.reduceSub, Nat.reduceEqDiff, Nat.reduceLeDiff, Nat.zero_add, decide_true, decide_false, beq_self_eq_true, String.reduceBEq, String.reduceEq, reduceCtorEq, Int.reduceNeg, Int.reduceLT, Int.reduceLE, Int.reduceAdd, Int.reduceSub, Int.reduceMul, Int.reduceEq, Int.reduceBEq, Int.natCast_zero, Int.natCast_one, Int.cast_ofNat_Int, DL.atI_0, DL.atI_1, DL.atI_2, DL.atI_3, DL.atI_4, DL.atI_5, DL.atI_6, DL.cut_tail, DL.cut5_02, DL.cut5_24, List.take_succ_cons, List.take_zero, List.take_nil, List.drop_succ_cons, List.drop_zero, List.drop_nil, Int.toNat_natCast, Int.reduceToNat, Int.reducePow, Nat.reducePow, Nat.reduceMul, and_self, and_true, true_and, List.length_map, List.map_map, decide_eq_true_eq, hc, hm0, hma, ixN, ne_eq, not_false_eq_true, Nat.lt_add_one]
  | false =>
    have b := fmod_rng (a := c.2 * 30493 + 8513) (m := 2147483543) (by decide)
    generalize hx : (c.2 * 30493 + 8513).fmod 2147483543 = x at b
    have hs : small x = true := by unfold small; rw [decide_eq_true_eq]; omega
    have hs2 : small 30493 = true := rfl
    obtain ⟨a1, a2⟩ := fmod_rng (a := (((x * (x + 269)).fmod 2147483587).fdiv 857)) (m := m) (by omega)
    refine ⟨_, (c.1, x), a1, a2, ?_⟩
    have e1 : (2147483543 : Int) ≠ 0 := by decide
    have e2 : (2147483587 : Int) ≠ 0 := by decide
    have e3 : (857 : Int) ≠ 0 ∧ (857 : Int).natAbs < 1073741824 := by decide
    simp only [DL.runF, DL.startE, DL.endF, DL.outsOf, DL.seqS, DL.ifS, DL.retS, DL.retN, DL.drop, DL.noList, DL.noLists, DL.noListTop, DL.asg, DL.asgT, DL.toSl, DL.setSl, DL.leak1, DL.leaks, bnd, DL.bndS, DL.evVar, DL.evC, DL.res, DL.resS, DL.bin2, DL.un1, DL.app1, DL.app2, DL.callB, DL.appA, DL.pinO, DL.nilA, DL.consA, DL.mkT, DL.mkL, DL.tst, DL.truth, DL.truthD, DL.andT, DL.orT, DL.notT, DL.andV, DL.orV, DL.notV, DL.ifE, DL.ifT, DL.chain, DL.isi, DL.gIsi, DL.gLen, DL.gAbs, DL.gInt, DL.max_int, DL.min_int, DL.gList, DL.gTuple, DL.gAdd, DL.gSub, DL.gMul, DL.gFdiv, DL.gMod, DL.gPow, DL.gNeg, DL.gCmp, DL.gLt, DL.eq_int, DL.ne_int, DL.gIx, DL.gRev, DL.gSl, DL.slc, DL.noP, DL.someP, DL.gIsN, DL.gNotN, DL.isNonD, DL.seqX, DL.seqD, DL.itQ, DL.itR1, DL.itR2, DL.call, DL.noErr, DL.callF, DL.argsD, DL.ioSl, DL.rdSl, DL.mineAt, DL.nodupB, DL.leakSl, DL.putIo, DL.lookN, DL.putAt, DL.reTop, DL.topAt, DL.putTop, DL.apnd, DL.stoL, DL.stoT, DL.par2, DL.put2, DL.par3, DL.put3, DL.tgN, DL.tgTup, DL.tgCons, DL.tgNil, DL.forS, DL.wipeE, DL.restE, DL.yesT, DL.lcStep, DL.mutL, DL.gInsert, DL.raiseS, DL.nop, DL.brk, DL.cont, DL.ite_out, List.map_cons, List.map_nil, List.zip_cons_cons, List.zip_nil_right, List.zip_nil_left, List.length_cons, List.length_nil, List.cons_append, List.nil_append, List.replicate_succ, List.replicate_zero, List.getElem?_cons_zero, List.getElem?_cons_succ, List.getElem?_nil, List.set_cons_zero, List.set_cons_succ, List.all_cons, List.all_nil, List.isEmpty_nil, List.isEmpty_cons, List.contains_nil, List.contains_cons, List.elem_nil, Bool.false_eq_true, if_true, if_false, ite_true, ite_false, reduceIte, Bool.and_true, Bool.true_and, Bool.and_false, Bool.false_and, Bool.or_true, Bool.true_or, Bool.or_false, Bool.false_or, Bool.not_true, Bool.not_false, Option.bind_some, Option.bind_none, Option.map_some, Option.map_none, Nat.reduceAdd, Nat.reduceSub, Nat.reduceEqDiff, Nat.reduceLeDiff, Nat.zero_add, decide_true, decide_false, beq_self_eq_true, String.reduceBEq, String.reduceEq, reduceCtorEq, Int.reduceNeg, Int.reduceLT, Int.reduceLE, Int.reduceAdd, Int.reduceSub, Int.reduceMul, Int.reduceEq, Int.reduceBEq, Int.natCast_zero, Int.natCast_one, Int.cast_ofNat_Int, DL.atI_0, DL.atI_1, DL.atI_2, DL.atI_3, DL.atI_4, DL.atI_5, DL.atI_6, DL.cut_tail, DL.cut5_02, DL.cut5_24, List.take_succ_cons, List.take_zero, List.take_nil, List.drop_succ_cons, List.drop_zero, List.drop_nil, Int.toNat_natCast, Int.reduceToNat, Int.reducePow, Nat.reducePow, Nat.reduceMul, and_self, and_true, true_and, List.length_map, List.map_map, decide_eq_true_eq, hc, hm0, hma, ixN, hs, hs2, hx, e1, e2, e3, ne_eq, not_false_eq_true]
theorem some_ok (c : Int × Int) (ds : List D) (h1 : ds ≠ []) (h2 : ds.length < 1073741824) (l : Bool) : ∃ d c', d ∈ ds ∧ g_law_some [cupD c, cond l (.lst ds) (.tup ds)] = .ok false d [cupD c'] := by
  have hl : 0 < ds.length := by cases ds with
    | nil => exact absurd rfl h1
    | cons a b => exact Nat.succ_pos _
  obtain ⟨r, c', r0, r1, hr⟩ := roll_ok c (m := (ds.length : Int)) (by omega) (by omega)
  have hi : r.toNat < ds.length := by omega
  refine ⟨ds[r.toNat], c', List.getElem_mem hi, ?_⟩
  have e : atI ds r = some ds[r.toNat] := by
    have := atI_nat ds r.toNat
    rw [Int.toNat_of_nonneg r0] at this
    rw [this, List.getElem?_eq_getElem hi]
  unfold g_law_some m_law_some
  cases l <;> simp only [DL.runF, DL.startE, DL.endF, DL.outsOf, DL.seqS, DL.ifS, DL.retS, DL.retN, DL.drop, DL.noList, DL.noLists, DL.noListTop, DL.asg, DL.asgT, DL.toSl, DL.setSl, DL.leak1, DL.leaks, bnd, DL.bndS, DL.evVar, DL.evC, DL.res, DL.resS, DL.bin2, DL.un1, DL.app1, DL.app2, DL.callB, DL.appA, DL.pinO, DL.nilA, DL.consA, DL.mkT, DL.mkL, DL.tst, DL.truth, DL.truthD, DL.andT, DL.orT, DL.notT, DL.andV, DL.orV, DL.notV, DL.ifE, DL.ifT, DL.chain, DL.isi, DL.gIsi, DL.gLen, DL.gAbs, DL.gInt, DL.max_int, DL.min_int, DL.gList, DL.gTuple, DL.gAdd, DL.gSub, DL.gMul, DL.gFdiv, DL.gMod, DL.gPow, DL.gNeg, DL.gCmp, DL.gLt, DL.eq_int, DL.ne_int, DL.gIx, DL.gRev, DL.gSl, DL.slc, DL.noP, DL.someP, DL.gIsN, DL.gNotN, DL.isNonD, DL.seqX, DL.seqD, DL.itQ, DL.itR1, DL.itR2, DL.call, DL.noErr, DL.callF, DL.argsD, DL.ioSl, DL.rdSl, DL.mineAt, DL.nodupB, DL.leakSl, DL.putIo, DL.lookN, DL.putAt, DL.reTop, DL.topAt, DL.putTop, DL.apnd, DL.stoL, DL.stoT, DL.par2, DL.put2, DL.par3, DL.put3, DL.tgN, DL.tgTup, DL.tgCons, DL.tgNil, DL.forS, DL.wipeE, DL.restE, DL.yesT, DL.lcStep, DL.mutL, DL.gInsert, DL.raiseS, DL.nop, DL.brk, DL.cont, DL.ite_out, List.map_cons, List.map_nil, List.zip_cons_cons, List.zip_nil_right, List.zip_nil_left, List.length_cons, List.length_nil, List.cons_append, List.nil_append, List.replicate_succ, List.replicate_zero, List.getElem?_cons_zero, List.getElem?_cons_succ, List.getElem?_nil, List.set_cons_zero, List.set_cons_succ, List.all_cons, List.all_nil, List.isEmpty_nil, List.isEmpty_cons, List.contains_nil, List.contains_cons, List.elem_nil, Bool.false_eq_true, if_true, if_false, ite_true, ite_false, reduceIte, Bool.and_true, Bool.true_and, Bool.and_false, Bool.false_and, Bool.or_true, Bool.true_or, Bool.or_false, Bool.false_or, Bool.not_true, Bool.not_false, Option.bind_some, Option.bind_none, Option.map_some, Option.map_none, Nat.reduceAdd, Nat.reduceSub, Nat.reduceEqDiff, Nat.reduceLeDiff, Nat.zero_add, decide_true, decide_false, beq_self_eq_true, String.reduceBEq, String.reduceEq, reduceCtorEq, Int.reduceNeg, Int.reduceLT, Int.reduceLE, Int.reduceAdd, Int.reduceSub, Int.reduceMul, Int.reduceEq, Int.reduceBEq, Int.natCast_zero, Int.natCast_one, Int.cast_ofNat_Int, DL.atI_0, DL.atI_1, DL.atI_2, DL.atI_3, DL.atI_4, DL.atI_5, DL.atI_6, DL.cut_tail, DL.cut5_02, DL.cut5_24, List.take_succ_cons, List.take_zero, List.take_nil, List.drop_succ_cons, List.drop_zero, List.drop_nil, Int.toNat_natCast, Int.reduceToNat, Int.reducePow, Nat.reducePow, Nat.reduceMul, and_self, and_true, true_and, List.length_map, List.map_map, decide_eq_true_eq, cond_true, cond_false, hr, e]
theorem eq_bl (a b : Bool) : gEq (.bl a) (.bl b) = some (.d (.bl (a == b))) := rfl
theorem eq_non : gEq .non .non = some (.d (.bl true)) := rfl
theorem eq_str (a b : Str) : gEq (.str a) (.str b) = some (.d (.bl (decide (a = b)))) := rfl
def Pl : Nat → D → Prop
  | 0, v => flatD v = true
  | n + 1, v => flatD v = true ∨ ∃ ds, (v = .tup ds ∨ v = .lst ds) ∧ ∀ d ∈ ds, Pl n d
theorem zip_self : ∀ {ds : List D} {x : D}, x ∈ zip2D ds ds → ∃ d ∈ ds, x = .tup [d, d]
  | d :: ds, x, h => by
    rcases List.mem_cons.mp (show x ∈ D.tup [d, d] :: zip2D ds ds from h) with rfl | h
    · exact ⟨d, List.mem_cons_self, rfl⟩
    · obtain ⟨e, he, r⟩ := zip_self h
      exact ⟨e, List.mem_cons_of_mem _ he, r⟩
  | [], x, h => by cases h
theorem like_flat (rec : List D → Rs) {v : D} (h : flatD v = true) : runF [false, false] 5 (m_law_like rec) [v, v] = .ok false (.bl true) [] := by
  unfold m_law_like
  cases v <;> first | exact Bool.noConfusion h | simp only [DL.runF, DL.startE, DL.endF, DL.outsOf, DL.seqS, DL.ifS, DL.retS, DL.retN, DL.drop, DL.noList, DL.noLists, DL.noListTop, DL.asg, DL.asgT, DL.toSl, DL.setSl, DL.leak1, DL.leaks, bnd, DL.bndS, DL.evVar, DL.evC, DL.res, DL.resS, DL.bin2, DL.un1, DL.app1, DL.app2, DL.callB, DL.appA, DL.pinO, DL.nilA, DL.consA, DL.mkT, DL.mkL, DL.tst, DL.truth, DL.truthD, DL.andT, DL.orT, DL.notT, DL.andV, DL.orV, DL.notV, DL.ifE, DL.ifT, DL.chain, DL.isi, DL.gIsi, DL.gLen, DL.gAbs, DL.gInt, DL.max_int, DL.min_int, DL.gList, DL.gTuple, DL.gAdd, DL.gSub, DL.gMul, DL.gFdiv, DL.gMod, DL.gPow, DL.gNeg, DL.gCmp, DL.gLt, DL.eq_int, DL.ne_int, DL.gIx, DL.gRev, DL.gSl, DL.slc, DL.noP, DL.someP, DL.gIsN, DL.gNotN, DL.isNonD, DL.seqX, DL.seqD, DL.itQ, DL.itR1, DL.itR2, DL.call, DL.noErr, DL.callF, DL.argsD, DL.ioSl, DL.rdSl, DL.mineAt, DL.nodupB, DL.leakSl, DL.putIo, DL.lookN, DL.putAt, DL.reTop, DL.topAt, DL.putTop, DL.apnd, DL.stoL, DL.stoT, DL.par2, DL.put2, DL.par3, DL.put3, DL.tgN, DL.tgTup, DL.tgCons, DL.tgNil, DL.forS, DL.wipeE, DL.restE, DL.yesT, DL.lcStep, DL.mutL, DL.gInsert, DL.raiseS, DL.nop, DL.brk, DL.cont, DL.ite_out, List.map_cons, List.map_nil, List.zip_cons_cons, List.zip_nil_right, List.zip_nil_left, List.length_cons, List.length_nil, List.cons_append, List.nil_append, List.replicate_succ, List.replicate_zero, List.getElem?_cons_zero, List.getElem?_cons_succ, List.getElem?_nil, List.set_cons_zero, List.set_cons_succ, List.all_cons, List.all_nil, List.isEmpty_nil, List.isEmpty_cons, List.contains_nil, List.contains_cons, List.elem_nil, Bool.false_eq_true, if_true, if_false, ite_true, ite_false, reduceIte, Bool.and_true, Bool.true_and, Bool.and_false, Bool.false_and, Bool.or_true, Bool.true_or, Bool.or_false, Bool.false_or, Bool.not_true, Bool.not_false, Option.bind_some, Option.bind_none, Option.map_some, Option.map_none, Nat.reduceAdd, Nat.reduceSub, Nat.reduceEqDiff, Nat.reduceLeDiff, Nat.zero_add, decide_true, decide_false, beq_self_eq_true, String.reduceBEq, String.reduceEq, reduceCtorEq, Int.reduceNeg, Int.reduceLT, Int.reduceLE, Int.reduceAdd, Int.reduceSub, Int.reduceMul, Int.reduceEq, Int.reduceBEq, Int.natCast_zero, Int.natCast_one, Int.cast_ofNat_Int, DL.atI_0, DL.atI_1, DL.atI_2, DL.atI_3, DL.atI_4, DL.atI_5, DL.atI_6, DL.cut_tail, DL.cut5_02, DL.cut5_24, List.take_succ_cons, List.take_zero, List.take_nil, List.drop_succ_cons, List.drop_zero, List.drop_nil, Int.toNat_natCast, Int.reduceToNat, Int.reducePow, Nat.reducePow, Nat.reduceMul, and_self, and_true, true_and, List.length_map, List.map_map, decide_eq_true_eq, law_sort_eq, sortN, gIn, flatD, eqF, List.any_cons, List.any_nil, eq_bl, eq_non, eq_str]
theorem like_refl : ∀ (n : Nat) (v : D), Pl n v → g_law_like (n + 1) [v, v] = .ok false (.bl true) []
  | 0, v, h => like_flat _ h
  | n + 1, v, h => by
    rcases h with h | ⟨ds, hv, hd⟩
    · exact like_flat _ h
    · have hc : ∀ (s : D), c_law_like_1 (g_law_like (n + 1)) [.val v, .val v, .val s, .no, .no] = .ok (.f (.lst (ones (fun _ => false) (zip2D ds ds)))) [.val v, .val v, .val s, .no, .no] := by
        intro s
        unfold c_law_like_1
        rcases hv with rfl | rfl
        · refine (lc_ones (ds := zip2D ds ds) (fun _ => false) (by simp only [DL.runF, DL.startE, DL.endF, DL.outsOf, DL.seqS, DL.ifS, DL.retS, DL.retN, DL.drop, DL.noList, DL.noLists, DL.noListTop, DL.asg, DL.asgT, DL.toSl, DL.setSl, DL.leak1, DL.leaks, bnd, DL.bndS, DL.evVar, DL.evC, DL.res, DL.resS, DL.bin2, DL.un1, DL.app1, DL.app2, DL.callB, DL.appA, DL.pinO, DL.nilA, DL.consA, DL.mkT, DL.mkL, DL.tst, DL.truth, DL.truthD, DL.andT, DL.orT, DL.notT, DL.andV, DL.orV, DL.notV, DL.ifE, DL.ifT, DL.chain, DL.isi, DL.gIsi, DL.gLen, DL.gAbs, DL.gInt, DL.max_int, DL.min_int, DL.gList, DL.gTuple, DL.gAdd, DL.gSub, DL.gMul, DL.gFdiv, DL.gMod, DL.gPow, DL.gNeg, DL.gCmp, DL.gLt, DL.eq_int, DL.ne_int, DL.gIx, DL.gRev, DL.gSl, DL.slc, DL.noP, DL.someP, DL.gIsN, DL.gNotN, DL.isNonD, DL.seqX, DL.seqD, DL.itQ, DL.itR1, DL.itR2, DL.call, DL.noErr, DL.callF, DL.argsD, DL.ioSl, DL.rdSl, DL.mineAt, DL.nodupB, DL.leakSl, DL.putIo, DL.lookN, DL.putAt, DL.reTop, DL.topAt, DL.putTop, DL.apnd, DL.stoL, DL.stoT, DL.par2, DL.put2, DL.par3, DL.put3, DL.tgN, DL.tgTup, DL.tgCons, DL.tgNil, DL.forS, DL.wipeE, DL.restE, DL.yesT, DL.lcStep, DL.mutL, DL.gInsert, DL.raiseS, DL.nop, DL.brk, DL.cont, DL.ite_out, List.map_cons, List.map_nil, List.zip_cons_cons, List.zip_nil_right, List.zip_nil_left, List.length_cons, List.length_nil, List.cons_append, List.nil_append, List.replicate_succ, List.replicate_zero, List.getElem?_cons_zero, List.getElem?_cons_succ, List.getElem?_nil, List.set_cons_zero, List.set_cons_succ, List.all_cons, List.all_nil, List.isEmpty_nil, List.isEmpty_cons, List.contains_nil, List.contains_cons, List.elem_nil, Bool.false_eq_true, if_true, if_false, ite_true, ite_false, reduceIte, Bool.and_true, Bool.true_and, Bool.and_false, Bool.false_and, Bool.or_true, Bool.true_or, Bool.or_false, Bool.false_or, Bool.not_true, Bool.not_false, Option.bind_some, Option.bind_none, Option.map_some, Option.map_none, Nat.reduceAdd, Nat.reduceSub, Nat.reduceEqDiff, Nat.reduceLeDiff, Nat.zero_add, decide_true, decide_false, beq_self_eq_true, String.reduceBEq, String.reduceEq, reduceCtorEq, Int.reduceNeg, Int.reduceLT, Int.reduceLE, Int.reduceAdd, Int.reduceSub, Int.reduceMul, Int.reduceEq, Int.reduceBEq, Int.natCast_zero, Int.natCast_one, Int.cast_ofNat_Int, DL.atI_0, DL.atI_1, DL.atI_2, DL.atI_3, DL.atI_4, DL.atI_5, DL.atI_6, DL.cut_tail, DL.cut5_02, DL.cut5_24, List.take_succ_cons, List.take_zero, List.take_nil, List.drop_succ_cons, List.drop_zero, List.drop_nil, Int.toNat_natCast, Int.reduceToNat, Int.reducePow, Nat.reducePow, Nat.reduceMul, and_self, and_true, true_and, List.length_map, List.map_map, decide_eq_true_eq, itZ2]; rfl) fun x hx => ?_).trans rfl
          obtain ⟨d, hd', rfl⟩ := zip_self hx
          simp only [DL.runF, DL.startE, DL.endF, DL.outsOf, DL.seqS, DL.ifS, DL.retS, DL.retN, DL.drop, DL.noList, DL.noLists, DL.noListTop, DL.asg, DL.asgT, DL.toSl, DL.setSl, DL.leak1, DL.leaks, bnd, DL.bndS, DL.evVar, DL.evC, DL.res, DL.resS, DL.bin2, DL.un1, DL.app1, DL.app2, DL.callB, DL.appA, DL.pinO, DL.nilA, DL.consA, DL.mkT, DL.mkL, DL.tst, DL.truth, DL.truthD, DL.andT, DL.orT, DL.notT, DL.andV, DL.orV, DL.notV, DL.ifE, DL.ifT, DL.chain, DL.isi, DL.gIsi, DL.gLen, DL.gAbs, DL.gInt, DL.max_int, DL.min_int, DL.gList, DL.gTuple, DL.gAdd, DL.gSub, DL.gMul, DL.gFdiv, DL.gMod, DL.gPow, DL.gNeg, DL.gCmp, DL.gLt, DL.eq_int, DL.ne_int, DL.gIx, DL.gRev, DL.gSl, DL.slc, DL.noP, DL.someP, DL.gIsN, DL.gNotN, DL.isNonD, DL.seqX, DL.seqD, DL.itQ, DL.itR1, DL.itR2, DL.call, DL.noErr, DL.callF, DL.argsD, DL.ioSl, DL.rdSl, DL.mineAt, DL.nodupB, DL.leakSl, DL.putIo, DL.lookN, DL.putAt, DL.reTop, DL.topAt, DL.putTop, DL.apnd, DL.stoL, DL.stoT, DL.par2, DL.put2, DL.par3, DL.put3, DL.tgN, DL.tgTup, DL.tgCons, DL.tgNil, DL.forS, DL.wipeE, DL.restE, DL.yesT, DL.lcStep, DL.mutL, DL.gInsert, DL.raiseS, DL.nop, DL.brk, DL.cont, DL.ite_out, List.map_cons, List.map_nil, List.zip_cons_cons, List.zip_nil_right, List.zip_nil_left, List.length_cons, List.length_nil, List.cons_append, List.nil_append, List.replicate_succ, List.replicate_zero, List.getElem?_cons_zero, List.getElem?_cons_succ, List.getElem?_nil, List.set_cons_zero, List.set_cons_succ, List.all_cons, List.all_nil, List.isEmpty_nil, List.isEmpty_cons, List.contains_nil, List.contains_cons, List.elem_nil, Bool.false_eq_true, if_true, if_false, ite_true, ite_false, reduceIte, Bool.and_true, Bool.true_and, Bool.and_false, Bool.false_and, Bool.or_true, Bool.true_or, Bool.or_false, Bool.false_or, Bool.not_true, Bool.not_false, Option.bind_some, Option.bind_none, Option.map_some, Option.map_none, Nat.reduceAdd, Nat.reduceSub, Nat.reduceEqDiff, Nat.reduceLeDiff, Nat.zero_add, decide_true, decide_false, beq_self_eq_true, String.reduceBEq, String.reduceEq, reduceCtorEq, Int.reduceNeg, Int.reduceLT, Int.reduceLE, Int.reduceAdd, Int.reduceSub, Int.reduceMul, Int.reduceEq, Int.reduceBEq, Int.natCast_zero, Int.natCast_one, Int.cast_ofNat_Int, DL.atI_0, DL.atI_1, DL.atI_2, DL.atI_3, DL.atI_4, DL.atI_5, DL.atI_6, DL.cut_tail, DL.cut5_02, DL.cut5_24, List.take_succ_cons, List.take_zero, List.take_nil, List.drop_succ_cons, List.drop_zero, List.drop_nil, Int.toNat_natCast, Int.reduceToNat, Int.reducePow, Nat.reducePow, Nat.reduceMul, and_self, and_true, true_and, List.length_map, List.map_map, decide_eq_true_eq, like_refl n d (hd d hd'), cond_false]
        · refine (lc_ones (ds := zip2D ds ds) (fun _ => false) (by simp only [DL.runF, DL.startE, DL.endF, DL.outsOf, DL.seqS, DL.ifS, DL.retS, DL.retN, DL.drop, DL.noList, DL.noLists, DL.noListTop, DL.asg, DL.asgT, DL.toSl, DL.setSl, DL.leak1, DL.leaks, bnd, DL.bndS, DL.evVar, DL.evC, DL.res, DL.resS, DL.bin2, DL.un1, DL.app1, DL.app2, DL.callB, DL.appA, DL.pinO, DL.nilA, DL.consA, DL.mkT, DL.mkL, DL.tst, DL.truth, DL.truthD, DL.andT, DL.orT, DL.notT, DL.andV, DL.orV, DL.notV, DL.ifE, DL.ifT, DL.chain, DL.isi, DL.gIsi, DL.gLen, DL.gAbs, DL.gInt, DL.max_int, DL.min_int, DL.gList, DL.gTuple, DL.gAdd, DL.gSub, DL.gMul, DL.gFdiv, DL.gMod, DL.gPow, DL.gNeg, DL.gCmp, DL.gLt, DL.eq_int, DL.ne_int, DL.gIx, DL.gRev, DL.gSl, DL.slc, DL.noP, DL.someP, DL.gIsN, DL.gNotN, DL.isNonD, DL.seqX, DL.seqD, DL.itQ, DL.itR1, DL.itR2, DL.call, DL.noErr, DL.callF, DL.argsD, DL.ioSl, DL.rdSl, DL.mineAt, DL.nodupB, DL.leakSl, DL.putIo, DL.lookN, DL.putAt, DL.reTop, DL.topAt, DL.putTop, DL.apnd, DL.stoL, DL.stoT, DL.par2, DL.put2, DL.par3, DL.put3, DL.tgN, DL.tgTup, DL.tgCons, DL.tgNil, DL.forS, DL.wipeE, DL.restE, DL.yesT, DL.lcStep, DL.mutL, DL.gInsert, DL.raiseS, DL.nop, DL.brk, DL.cont, DL.ite_out, List.map_cons, List.map_nil, List.zip_cons_cons, List.zip_nil_right, List.zip_nil_left, List.length_cons, List.length_nil, List.cons_append, List.nil_append, List.replicate_succ, List.replicate_zero, List.getElem?_cons_zero, List.getElem?_cons_succ, List.getElem?_nil, List.set_cons_zero, List.set_cons_succ, List.all_cons, List.all_nil, List.isEmpty_nil, List.isEmpty_cons, List.contains_nil, List.contains_cons, List.elem_nil, Bool.false_eq_true, if_true, if_false, ite_true, ite_false, reduceIte, Bool.and_true, Bool.true_and, Bool.and_false, Bool.false_and, Bool.or_true, Bool.true_or, Bool.or_false, Bool.false_or, Bool.not_true, Bool.not_false, Option.bind_some, Option.bind_none, Option.map_some, Option.map_none, Nat.reduceAdd, Nat.reduceSub, Nat.reduceEqDiff, Nat.reduceLeDiff, Nat.zero_add, decide_true, decide_false, beq_self_eq_true, String.reduceBEq, String.reduceEq, reduceCtorEq, Int.reduceNeg, Int.reduceLT, Int.reduceLE, Int.reduceAdd, Int.reduceSub, Int.reduceMul, Int.reduceEq, Int.reduceBEq, Int.natCast_zero, Int.natCast_one, Int.cast_ofNat_Int, DL.atI_0, DL.atI_1, DL.atI_2, DL.atI_3, DL.atI_4, DL.atI_5, DL.atI_6, DL.cut_tail, DL.cut5_02, DL.cut5_24, List.take_succ_cons, List.take_zero, List.take_nil, List.drop_succ_cons, List.drop_zero, List.drop_nil, Int.toNat_natCast, Int.reduceToNat, Int.reducePow, Nat.reducePow, Nat.reduceMul, and_self, and_true, true_and, List.length_map, List.map_map, decide_eq_true_eq, itZ2]; rfl) fun x hx => ?_).trans rfl
          obtain ⟨d, hd', rfl⟩ := zip_self hx
          simp only [DL.runF, DL.startE, DL.endF, DL.outsOf, DL.seqS, DL.ifS, DL.retS, DL.retN, DL.drop, DL.noList, DL.noLists, DL.noListTop, DL.asg, DL.asgT, DL.toSl, DL.setSl, DL.leak1, DL.leaks, bnd, DL.bndS, DL.evVar, DL.evC, DL.res, DL.resS, DL.bin2, DL.un1, DL.app1, DL.app2, DL.callB, DL.appA, DL.pinO, DL.nilA, DL.consA, DL.mkT, DL.mkL, DL.tst, DL.truth, DL.truthD, DL.andT, DL.orT, DL.notT, DL.andV, DL.orV, DL.notV, DL.ifE, DL.ifT, DL.chain, DL.isi, DL.gIsi, DL.gLen, DL.gAbs, DL.gInt, DL.max_int, DL.min_int, DL.gList, DL.gTuple, DL.gAdd, DL.gSub, DL.gMul, DL.gFdiv, DL.gMod, DL.gPow, DL.gNeg, DL.gCmp, DL.gLt, DL.eq_int, DL.ne_int, DL.gIx, DL.gRev, DL.gSl, DL.slc, DL.noP, DL.someP, DL.gIsN, DL.gNotN, DL.isNonD, DL.seqX, DL.seqD, DL.itQ, DL.itR1, DL.itR2, DL.call, DL.noErr, DL.callF, DL.argsD, DL.ioSl, DL.rdSl, DL.mineAt, DL.nodupB, DL.leakSl, DL.putIo, DL.lookN, DL.putAt, DL.reTop, DL.topAt, DL.putTop, DL.apnd, DL.stoL, DL.stoT, DL.par2, DL.put2, DL.par3, DL.put3, DL.tgN, DL.tgTup, DL.tgCons, DL.tgNil, DL.forS, DL.wipeE, DL.restE, DL.yesT, DL.lcStep, DL.mutL, DL.gInsert, DL.raiseS, DL.nop, DL.brk, DL.cont, DL.ite_out, List.map_cons, List.map_nil, List.zip_cons_cons, List.zip_nil_right, List.zip_nil_left, List.length_cons, List.length_nil, List.cons_append, List.nil_append, List.replicate_succ, List.replicate_zero, List.getElem?_cons_zero, List.getElem?_cons_succ, List.getElem?_nil, List.set_cons_zero, List.set_cons_succ, List.all_cons, List.all_nil, List.isEmpty_nil, List.isEmpty_cons, List.contains_nil, List.contains_cons, List.elem_nil, Bool.false_eq_true, if_true, if_false, ite_true, ite_false, reduceIte, Bool.and_true, Bool.true_and, Bool.and_false, Bool.false_and, Bool.or_true, Bool.true_or, Bool.or_false, Bool.false_or, Bool.not_true, Bool.not_false, Option.bind_some, Option.bind_none, Option.map_some, Option.map_none, Nat.reduceAdd, Nat.reduceSub, Nat.reduceEqDiff, Nat.reduceLeDiff, Nat.zero_add, decide_true, decide_false, beq_self_eq_true, String.reduceBEq, String.reduceEq, reduceCtorEq, Int.reduceNeg, Int.reduceLT, Int.reduceLE, Int.reduceAdd, Int.reduceSub, Int.reduceMul, Int.reduceEq, Int.reduceBEq, Int.natCast_zero, Int.natCast_one, Int.cast_ofNat_Int, DL.atI_0, DL.atI_1, DL.atI_2, DL.atI_3, DL.atI_4, DL.atI_5, DL.atI_6, DL.cut_tail, DL.cut5_02, DL.cut5_24, List.take_succ_cons, List.take_zero, List.take_nil, List.drop_succ_cons, List.drop_zero, List.drop_nil, Int.toNat_natCast, Int.reduceToNat, Int.reducePow, Nat.reducePow, Nat.reduceMul, and_self, and_true, true_and, List.length_map, List.map_map, decide_eq_true_eq, like_refl n d (hd d hd'), cond_false]
      have hn : (zip2D ds ds).any (fun _ => false) = false := by
        rw [List.any_eq_false]; intro x _; exact Bool.false_ne_true
      show runF [false, false] 5 (m_law_like (g_law_like (n + 1))) [v, v] = _
      unfold m_law_like
      rcases hv with rfl | rfl <;> simp only [DL.runF, DL.startE, DL.endF, DL.outsOf, DL.seqS, DL.ifS, DL.retS, DL.retN, DL.drop, DL.noList, DL.noLists, DL.noListTop, DL.asg, DL.asgT, DL.toSl, DL.setSl, DL.leak1, DL.leaks, bnd, DL.bndS, DL.evVar, DL.evC, DL.res, DL.resS, DL.bin2, DL.un1, DL.app1, DL.app2, DL.callB, DL.appA, DL.pinO, DL.nilA, DL.consA, DL.mkT, DL.mkL, DL.tst, DL.truth, DL.truthD, DL.andT, DL.orT, DL.notT, DL.andV, DL.orV, DL.notV, DL.ifE, DL.ifT, DL.chain, DL.isi, DL.gIsi, DL.gLen, DL.gAbs, DL.gInt, DL.max_int, DL.min_int, DL.gList, DL.gTuple, DL.gAdd, DL.gSub, DL.gMul, DL.gFdiv, DL.gMod, DL.gPow, DL.gNeg, DL.gCmp, DL.gLt, DL.eq_int, DL.ne_int, DL.gIx, DL.gRev, DL.gSl, DL.slc, DL.noP, DL.someP, DL.gIsN, DL.gNotN, DL.isNonD, DL.seqX, DL.seqD, DL.itQ, DL.itR1, DL.itR2, DL.call, DL.noErr, DL.callF, DL.argsD, DL.ioSl, DL.rdSl, DL.mineAt, DL.nodupB, DL.leakSl, DL.putIo, DL.lookN, DL.putAt, DL.reTop, DL.topAt, DL.putTop, DL.apnd, DL.stoL, DL.stoT, DL.par2, DL.put2, DL.par3, DL.put3, DL.tgN, DL.tgTup, DL.tgCons, DL.tgNil, DL.forS, DL.wipeE, DL.restE, DL.yesT, DL.lcStep, DL.mutL, DL.gInsert, DL.raiseS, DL.nop, DL.brk, DL.cont, DL.ite_out, List.map_cons, List.map_nil, List.zip_cons_cons, List.zip_nil_right, List.zip_nil_left, List.length_cons, List.length_nil, List.cons_append, List.nil_append, List.replicate_succ, List.replicate_zero, List.getElem?_cons_zero, List.getElem?_cons_succ, List.getElem?_nil, List.set_cons_zero, List.set_cons_succ, List.all_cons, List.all_nil, List.isEmpty_nil, List.isEmpty_cons, List.contains_nil, List.contains_cons, List.elem_nil, Bool.false_eq_true, if_true, if_false, ite_true, ite_false, reduceIte, Bool.and_true, Bool.true_and, Bool.and_false, Bool.false_and, Bool.or_true, Bool.true_or, Bool.or_false, Bool.false_or, Bool.not_true, Bool.not_false, Option.bind_some, Option.bind_none, Option.map_some, Option.map_none, Nat.reduceAdd, Nat.reduceSub, Nat.reduceEqDiff, Nat.reduceLeDiff, Nat.zero_add, decide_true, decide_false, beq_self_eq_true, String.reduceBEq, String.reduceEq, reduceCtorEq, Int.reduceNeg, Int.reduceLT, Int.reduceLE, Int.reduceAdd, Int.reduceSub, Int.reduceMul, Int.reduceEq, Int.reduceBEq, Int.natCast_zero, Int.natCast_one, Int.cast_ofNat_Int, DL.atI_0, DL.atI_1, DL.atI_2, DL.atI_3, DL.atI_4, DL.atI_5, DL.atI_6, DL.cut_tail, DL.cut5_02, DL.cut5_24, List.take_succ_cons, List.take_zero, List.take_nil, List.drop_succ_cons, List.drop_zero, List.drop_nil, Int.toNat_natCast, Int.reduceToNat, Int.reducePow, Nat.reducePow, Nat.reduceMul, and_self, and_true, true_and, List.length_map, List.map_map, decide_eq_true_eq, law_sort_eq, sortN, gIn, flatD, eqF, List.any_cons, List.any_nil, hc, eq_ones, hn]
theorem pl_flat {v : D} (h : flatD v = true) : ∀ n, Pl n v
  | 0 => h
  | _ + 1 => .inl h
theorem cup_ok (ns : List Int) (hl : ns.length ≤ 63) : ∃ c, g_law_cup [.scr ns] = .ok true (cupD c) [] := by
  have e : ∃ z : Int, (ns.map D.int ++ [D.int 0])[0]? = some (.int z) := by
    cases ns with
    | nil => exact ⟨0, rfl⟩
    | cons n ns => exact ⟨n, rfl⟩
  obtain ⟨z, hz⟩ := e
  have h1 : ns.length + 1 ≤ 16777216 := by omega
  have h2 : small 337 = true := rfl
  have h3 : small 10 = true := rfl
  have h4 : (2034129307 : Int) ≠ 0 := by decide
  have h5 : (97 : Int) ≠ 0 ∧ (97 : Int).natAbs < 1073741824 := by decide
  have h6 : ((0 : Int) ≤ 18 ∧ (18 : Int) ≤ 1000000 ∧ True) := by decide
  unfold g_law_cup m_law_cup
  by_cases hc : (1000000000000000000 : Int) ≤ (if z < 0 then -z else z)
  · exact ⟨((if z < 0 then -z else z).fdiv 97, ((if z < 0 then -z else z) * 337 + 4801).fmod 2034129307 + 193), by simp only [DL.runF, DL.startE, DL.endF, DL.outsOf, DL.seqS, DL.ifS, DL.retS, DL.retN, DL.drop, DL.noList, DL.noLists, DL.noListTop, DL.asg, DL.asgT, DL.toSl, DL.setSl, DL.leak1, DL.leaks, bnd, DL.bndS, DL.evVar, DL.evC, DL.res, DL.resS, DL.bin2, DL.un1, DL.app1, DL.app2, DL.callB, DL.appA, DL.pinO, DL.nilA, DL.consA, DL.mkT, DL.mkL, DL.tst, DL.truth, DL.truthD, DL.andT, DL.orT, DL.notT, DL.andV, DL.orV, DL.notV, DL.ifE, DL.ifT, DL.chain, DL.isi, DL.gIsi, DL.gLen, DL.gAbs, DL.gInt, DL.max_int, DL.min_int, DL.gList, DL.gTuple, DL.gAdd, DL.gSub, DL.gMul, DL.gFdiv, DL.gMod, DL.gPow, DL.gNeg, DL.gCmp, DL.gLt, DL.eq_int, DL.ne_int, DL.gIx, DL.gRev, DL.gSl, DL.slc, DL.noP, DL.someP, DL.gIsN, DL.gNotN, DL.isNonD, DL.seqX, DL.seqD, DL.itQ, DL.itR1, DL.itR2, DL.call, DL.noErr, DL.callF, DL.argsD, DL.ioSl, DL.rdSl, DL.mineAt, DL.nodupB, DL.leakSl, DL.putIo, DL.lookN, DL.putAt, DL.reTop, DL.topAt, DL.putTop, DL.apnd, DL.stoL, DL.stoT, DL.par2, DL.put2, DL.par3, DL.put3, DL.tgN, DL.tgTup, DL.tgCons, DL.tgNil, DL.forS, DL.wipeE, DL.restE, DL.yesT, DL.lcStep, DL.mutL, DL.gInsert, DL.raiseS, DL.nop, DL.brk, DL.cont, DL.ite_out, List.map_cons, List.map_nil, List.zip_cons_cons, List.zip_nil_right, List.zip_nil_left, List.length_cons, List.length_nil, List.cons_append, List.nil_append, List.replicate_succ, List.replicate_zero, List.getElem?_cons_zero, List.getElem?_cons_succ, List.getElem?_nil, List.set_cons_zero, List.set_cons_succ, List.all_cons, List.all_nil, List.isEmpty_nil, List.isEmpty_cons, List.contains_nil, List.contains_cons, List.elem_nil, Bool.false_eq_true, if_true, if_false, ite_true, ite_false, reduceIte, Bool.and_true, Bool.true_and, Bool.and_false, Bool.false_and, Bool.or_true, Bool.true_or, Bool.or_false, Bool.false_or, Bool.not_true, Bool.not_false, Option.bind_some, Option.bind_none, Option.map_some, Option.map_none, Nat.reduceAdd, Nat.reduceSub, Nat.reduceEqDiff, Nat.reduceLeDiff, Nat.zero_add, decide_true, decide_false, beq_self_eq_true, String.reduceBEq, String.reduceEq, reduceCtorEq, Int.reduceNeg, Int.reduceLT, Int.reduceLE, Int.reduceAdd, Int.reduceSub, Int.reduceMul, Int.reduceEq, Int.reduceBEq, Int.natCast_zero, Int.natCast_one, Int.cast_ofNat_Int, DL.atI_0, DL.atI_1, DL.atI_2, DL.atI_3, DL.atI_4, DL.atI_5, DL.atI_6, DL.cut_tail, DL.cut5_02, DL.cut5_24, List.take_succ_cons, List.take_zero, List.take_nil, List.drop_succ_cons, List.drop_zero, List.drop_nil, Int.toNat_natCast, Int.reduceToNat, Int.reducePow, Nat.reducePow, Nat.reduceMul, and_self, and_true, true_and, List.length_map, List.map_map, decide_eq_true_eq, h1, hz, h2, h3, h4, h5, hc, ne_eq, not_false_eq_true]⟩
  · exact ⟨(0, ((if z < 0 then -z else z) * 337 + 4801).fmod 2034129307 + 193), by simp only [DL.runF, DL.startE, DL.endF, DL.outsOf, DL.seqS, DL.ifS, DL.retS, DL.retN, DL.drop, DL.noList, DL.noLists, DL.noListTop, DL.asg, DL.asgT, DL.toSl, DL.setSl, DL.leak1, DL.leaks, bnd, DL.bndS, DL.evVar, DL.evC, DL.res, DL.resS, DL.bin2, DL.un1, DL.app1, DL.app2, DL.callB, DL.appA, DL.pinO, DL.nilA, DL.consA, DL.mkT, DL.mkL, DL.tst, DL.truth, DL.truthD, DL.andT, DL.orT, DL.notT, DL.andV, DL.orV, DL.notV, DL.ifE, DL.ifT, DL.chain, DL.isi, DL.gIsi, DL.gLen, DL.gAbs, DL.gInt, DL.max_int, DL.min_int, DL.gList, DL.gTuple, DL.gAdd, DL.gSub, DL.gMul, DL.gFdiv, DL.gMod, DL.gPow, DL.gNeg, DL.gCmp, DL.gLt, DL.eq_int, DL.ne_int, DL.gIx, DL.gRev, DL.gSl, DL.slc, DL.noP, DL.someP, DL.gIsN, DL.gNotN, DL.isNonD, DL.seqX, DL.seqD, DL.itQ, DL.itR1, DL.itR2, DL.call, DL.noErr, DL.callF, DL.argsD, DL.ioSl, DL.rdSl, DL.mineAt, DL.nodupB, DL.leakSl, DL.putIo, DL.lookN, DL.putAt, DL.reTop, DL.topAt, DL.putTop, DL.apnd, DL.stoL, DL.stoT, DL.par2, DL.put2, DL.par3, DL.put3, DL.tgN, DL.tgTup, DL.tgCons, DL.tgNil, DL.forS, DL.wipeE, DL.restE, DL.yesT, DL.lcStep, DL.mutL, DL.gInsert, DL.raiseS, DL.nop, DL.brk, DL.cont, DL.ite_out, List.map_cons, List.map_nil, List.zip_cons_cons, List.zip_nil_right, List.zip_nil_left, List.length_cons, List.length_nil, List.cons_append, List.nil_append, List.replicate_succ, List.replicate_zero, List.getElem?_cons_zero, List.getElem?_cons_succ, List.getElem?_nil, List.set_cons_zero, List.set_cons_succ, List.all_cons, List.all_nil, List.isEmpty_nil, List.isEmpty_cons, List.contains_nil, List.contains_cons, List.elem_nil, Bool.false_eq_true, if_true, if_false, ite_true, ite_false, reduceIte, Bool.and_true, Bool.true_and, Bool.and_false, Bool.false_and, Bool.or_true, Bool.true_or, Bool.or_false, Bool.false_or, Bool.not_true, Bool.not_false, Option.bind_some, Option.bind_none, Option.map_some, Option.map_none, Nat.reduceAdd, Nat.reduceSub, Nat.reduceEqDiff, Nat.reduceLeDiff, Nat.zero_add, decide_true, decide_false, beq_self_eq_true, String.reduceBEq, String.reduceEq, reduceCtorEq, Int.reduceNeg, Int.reduceLT, Int.reduceLE, Int.reduceAdd, Int.reduceSub, Int.reduceMul, Int.reduceEq, Int.reduceBEq, Int.natCast_zero, Int.natCast_one, Int.cast_ofNat_Int, DL.atI_0, DL.atI_1, DL.atI_2, DL.atI_3, DL.atI_4, DL.atI_5, DL.atI_6, DL.cut_tail, DL.cut5_02, DL.cut5_24, List.take_succ_cons, List.take_zero, List.take_nil, List.drop_succ_cons, List.drop_zero, List.drop_nil, Int.toNat_natCast, Int.reduceToNat, Int.reducePow, Nat.reducePow, Nat.reduceMul, and_self, and_true, true_and, List.length_map, List.map_map, decide_eq_true_eq, h1, hz, h2, h3, h4, h5, hc, ne_eq, not_false_eq_true]⟩
abbrev NV (x : Sl) : Prop := x = .no ∨ ∃ d, x = .val d
abbrev encW (w : List Int) : D := .tup (w.map D.int)
theorem need_many_ok {m : Int} (h1 : 2 ≤ m) (h2 : m ≤ 8) : g_need_many [.int m] = .ok false .non [] := by
  unfold g_need_many m_need_many
  simp only [DL.runF, DL.startE, DL.endF, DL.outsOf, DL.seqS, DL.ifS, DL.retS, DL.retN, DL.drop, DL.noList, DL.noLists, DL.noListTop, DL.asg, DL.asgT, DL.toSl, DL.setSl, DL.leak1, DL.leaks, bnd, DL.bndS, DL.evVar, DL.evC, DL.res, DL.resS, DL.bin2, DL.un1, DL.app1, DL.app2, DL.callB, DL.appA, DL.pinO, DL.nilA, DL.consA, DL.mkT, DL.mkL, DL.tst, DL.truth, DL.truthD, DL.andT, DL.orT, DL.notT, DL.andV, DL.orV, DL.notV, DL.ifE, DL.ifT, DL.chain, DL.isi, DL.gIsi, DL.gLen, DL.gAbs, DL.gInt, DL.max_int, DL.min_int, DL.gList, DL.gTuple, DL.gAdd, DL.gSub, DL.gMul, DL.gFdiv, DL.gMod, DL.gPow, DL.gNeg, DL.gCmp, DL.gLt, DL.eq_int, DL.ne_int, DL.gIx, DL.gRev, DL.gSl, DL.slc, DL.noP, DL.someP, DL.gIsN, DL.gNotN, DL.isNonD, DL.seqX, DL.seqD, DL.itQ, DL.itR1, DL.itR2, DL.call, DL.noErr, DL.callF, DL.argsD, DL.ioSl, DL.rdSl, DL.mineAt, DL.nodupB, DL.leakSl, DL.putIo, DL.lookN, DL.putAt, DL.reTop, DL.topAt, DL.putTop, DL.apnd, DL.stoL, DL.stoT, DL.par2, DL.put2, DL.par3, DL.put3, DL.tgN, DL.tgTup, DL.tgCons, DL.tgNil, DL.forS, DL.wipeE, DL.restE, DL.yesT, DL.lcStep, DL.mutL, DL.gInsert, DL.raiseS, DL.nop, DL.brk, DL.cont, DL.ite_out, List.map_cons, List.map_nil, List.zip_cons_cons, List.zip_nil_right, List.zip_nil_left, List.length_cons, List.length_nil, List.cons_append, List.nil_append, List.replicate_succ, List.replicate_zero, List.getElem?_cons_zero, List.getElem?_cons_succ, List.getElem?_nil, List.set_cons_zero, List.set_cons_succ, List.all_cons, List.all_nil, List.isEmpty_nil, List.isEmpty_cons, List.contains_nil, List.contains_cons, List.elem_nil, Bool.false_eq_true, if_true, if_false, ite_true, ite_false, reduceIte, Bool.and_true, Bool.true_and, Bool.and_false, Bool.false_and, Bool.or_true, Bool.true_or, Bool.or_false, Bool.false_or, Bool.not_true, Bool.not_false, Option.bind_some, Option.bind_none, Option.map_some, Option.map_none, Nat.reduceAdd, Nat.reduceSub, Nat.reduceEqDiff, Nat.reduceLeDiff, Nat.zero_add, decide_true, decide_false, beq_self_eq_true, String.reduceBEq, String.reduceEq, reduceCtorEq, Int.reduceNeg, Int.reduceLT, Int.reduceLE, Int.reduceAdd, Int.reduceSub, Int.reduceMul, Int.reduceEq, Int.reduceBEq, Int.natCast_zero, Int.natCast_one, Int.cast_ofNat_Int, DL.atI_0, DL.atI_1, DL.atI_2, DL.atI_3, DL.atI_4, DL.atI_5, DL.atI_6, DL.cut_tail, DL.cut5_02, DL.cut5_24, List.take_succ_cons, List.take_zero, List.take_nil, List.drop_succ_cons, List.drop_zero, List.drop_nil, Int.toNat_natCast, Int.reduceToNat, Int.reducePow, Nat.reducePow, Nat.reduceMul, and_self, and_true, true_and, List.length_map, List.map_map, decide_eq_true_eq, need_whole_ok h1 h2]
def letB (m : Int) (d : D) : Bool := match d with
  | .int i => wh (.int i) (1 - m) (m - 1) && !(i == 0)
  | _ => false
theorem wh_int {d : D} {a b : Int} (h : wh d a b = true) : ∃ i, d = .int i := by
  cases d <;> first | exact ⟨_, rfl⟩ | exact Bool.noConfusion h
theorem is_letter_eq (m : Int) (d : D) : g_is_letter [.int m, d] = .ok false (.bl (letB m d)) [] := by
  unfold g_is_letter m_is_letter
  cases h : wh d (1 - m) (m - 1) with
  | true =>
    obtain ⟨i, rfl⟩ := wh_int h
    simp only [DL.runF, DL.startE, DL.endF, DL.outsOf, DL.seqS, DL.ifS, DL.retS, DL.retN, DL.drop, DL.noList, DL.noLists, DL.noListTop, DL.asg, DL.asgT, DL.toSl, DL.setSl, DL.leak1, DL.leaks, bnd, DL.bndS, DL.evVar, DL.evC, DL.res, DL.resS, DL.bin2, DL.un1, DL.app1, DL.app2, DL.callB, DL.appA, DL.pinO, DL.nilA, DL.consA, DL.mkT, DL.mkL, DL.tst, DL.truth, DL.truthD, DL.andT, DL.orT, DL.notT, DL.andV, DL.orV, DL.notV, DL.ifE, DL.ifT, DL.chain, DL.isi, DL.gIsi, DL.gLen, DL.gAbs, DL.gInt, DL.max_int, DL.min_int, DL.gList, DL.gTuple, DL.gAdd, DL.gSub, DL.gMul, DL.gFdiv, DL.gMod, DL.gPow, DL.gNeg, DL.gCmp, DL.gLt, DL.eq_int, DL.ne_int, DL.gIx, DL.gRev, DL.gSl, DL.slc, DL.noP, DL.someP, DL.gIsN, DL.gNotN, DL.isNonD, DL.seqX, DL.seqD, DL.itQ, DL.itR1, DL.itR2, DL.call, DL.noErr, DL.callF, DL.argsD, DL.ioSl, DL.rdSl, DL.mineAt, DL.nodupB, DL.leakSl, DL.putIo, DL.lookN, DL.putAt, DL.reTop, DL.topAt, DL.putTop, DL.apnd, DL.stoL, DL.stoT, DL.par2, DL.put2, DL.par3, DL.put3, DL.tgN, DL.tgTup, DL.tgCons, DL.tgNil, DL.forS, DL.wipeE, DL.restE, DL.yesT, DL.lcStep, DL.mutL, DL.gInsert, DL.raiseS, DL.nop, DL.brk, DL.cont, DL.ite_out, List.map_cons, List.map_nil, List.zip_cons_cons, List.zip_nil_right, List.zip_nil_left, List.length_cons, List.length_nil, List.cons_append, List.nil_append, List.replicate_succ, List.replicate_zero, List.getElem?_cons_zero, List.getElem?_cons_succ, List.getElem?_nil, List.set_cons_zero, List.set_cons_succ, List.all_cons, List.all_nil, List.isEmpty_nil, List.isEmpty_cons, List.contains_nil, List.contains_cons, List.elem_nil, Bool.false_eq_true, if_true, if_false, ite_true, ite_false, reduceIte, Bool.and_true, Bool.true_and, Bool.and_false, Bool.false_and, Bool.or_true, Bool.true_or, Bool.or_false, Bool.false_or, Bool.not_true, Bool.not_false, Option.bind_some, Option.bind_none, Option.map_some, Option.map_none, Nat.reduceAdd, Nat.reduceSub, Nat.reduceEqDiff, Nat.reduceLeDiff, Nat.zero_add, decide_true, decide_false, beq_self_eq_true, String.reduceBEq, String.reduceEq, reduceCtorEq, Int.reduceNeg, Int.reduceLT, Int.reduceLE, Int.reduceAdd, Int.reduceSub, Int.reduceMul, Int.reduceEq, Int.reduceBEq, Int.natCast_zero, Int.natCast_one, Int.cast_ofNat_Int, DL.atI_0, DL.atI_1, DL.atI_2, DL.atI_3, DL.atI_4, DL.atI_5, DL.atI_6, DL.cut_tail, DL.cut5_02, DL.cut5_24, List.take_succ_cons, List.take_zero, List.take_nil, List.drop_succ_cons, List.drop_zero, List.drop_nil, Int.toNat_natCast, Int.reduceToNat, Int.reducePow, Nat.reducePow, Nat.reduceMul, and_self, and_true, true_and, List.length_map, List.map_map, decide_eq_true_eq, is_whole_eq, h, letB]
  | false =>
    have e : letB m d = false := by
      cases d <;> first | rfl | (simp only [letB, h]; rfl)
    simp only [DL.runF, DL.startE, DL.endF, DL.outsOf, DL.seqS, DL.ifS, DL.retS, DL.retN, DL.drop, DL.noList, DL.noLists, DL.noListTop, DL.asg, DL.asgT, DL.toSl, DL.setSl, DL.leak1, DL.leaks, bnd, DL.bndS, DL.evVar, DL.evC, DL.res, DL.resS, DL.bin2, DL.un1, DL.app1, DL.app2, DL.callB, DL.appA, DL.pinO, DL.nilA, DL.consA, DL.mkT, DL.mkL, DL.tst, DL.truth, DL.truthD, DL.andT, DL.orT, DL.notT, DL.andV, DL.orV, DL.notV, DL.ifE, DL.ifT, DL.chain, DL.isi, DL.gIsi, DL.gLen, DL.gAbs, DL.gInt, DL.max_int, DL.min_int, DL.gList, DL.gTuple, DL.gAdd, DL.gSub, DL.gMul, DL.gFdiv, DL.gMod, DL.gPow, DL.gNeg, DL.gCmp, DL.gLt, DL.eq_int, DL.ne_int, DL.gIx, DL.gRev, DL.gSl, DL.slc, DL.noP, DL.someP, DL.gIsN, DL.gNotN, DL.isNonD, DL.seqX, DL.seqD, DL.itQ, DL.itR1, DL.itR2, DL.call, DL.noErr, DL.callF, DL.argsD, DL.ioSl, DL.rdSl, DL.mineAt, DL.nodupB, DL.leakSl, DL.putIo, DL.lookN, DL.putAt, DL.reTop, DL.topAt, DL.putTop, DL.apnd, DL.stoL, DL.stoT, DL.par2, DL.put2, DL.par3, DL.put3, DL.tgN, DL.tgTup, DL.tgCons, DL.tgNil, DL.forS, DL.wipeE, DL.restE, DL.yesT, DL.lcStep, DL.mutL, DL.gInsert, DL.raiseS, DL.nop, DL.brk, DL.cont, DL.ite_out, List.map_cons, List.map_nil, List.zip_cons_cons, List.zip_nil_right, List.zip_nil_left, List.length_cons, List.length_nil, List.cons_append, List.nil_append, List.replicate_succ, List.replicate_zero, List.getElem?_cons_zero, List.getElem?_cons_succ, List.getElem?_nil, List.set_cons_zero, List.set_cons_succ, List.all_cons, List.all_nil, List.isEmpty_nil, List.isEmpty_cons, List.contains_nil, List.contains_cons, List.elem_nil, Bool.false_eq_true, if_true, if_false, ite_true, ite_false, reduceIte, Bool.and_true, Bool.true_and, Bool.and_false, Bool.false_and, Bool.or_true, Bool.true_or, Bool.or_false, Bool.false_or, Bool.not_true, Bool.not_false, Option.bind_some, Option.bind_none, Option.map_some, Option.map_none, Nat.reduceAdd, Nat.reduceSub, Nat.reduceEqDiff, Nat.reduceLeDiff, Nat.zero_add, decide_true, decide_false, beq_self_eq_true, String.reduceBEq, String.reduceEq, reduceCtorEq, Int.reduceNeg, Int.reduceLT, Int.reduceLE, Int.reduceAdd, Int.reduceSub, Int.reduceMul, Int.reduceEq, Int.reduceBEq, Int.natCast_zero, Int.natCast_one, Int.cast_ofNat_Int, DL.atI_0, DL.atI_1, DL.atI_2, DL.atI_3, DL.atI_4, DL.atI_5, DL.atI_6, DL.cut_tail, DL.cut5_02, DL.cut5_24, List.take_succ_cons, List.take_zero, List.take_nil, List.drop_succ_cons, List.drop_zero, List.drop_nil, Int.toNat_natCast, Int.reduceToNat, Int.reducePow, Nat.reducePow, Nat.reduceMul, and_self, and_true, true_and, List.length_map, List.map_map, decide_eq_true_eq, is_whole_eq, h, e]
def wordB (m : Int) (v : D) : Bool := isTup v 0 60 && (match v with
  | .tup ds => ds.all (letB m)
  | _ => false)
theorem blsOf_let (m : Int) (ds : List D) : blsOf (ds.map fun d => .bl (letB m d)) = some (ds.map (letB m)) := blsOf_map _ _
theorem fits_word_eq (m : Int) (v : D) (hv : noK v = true) : g_fits_word [.int m, v] = .ok false (.bl (wordB m v)) [] := by
  unfold g_fits_word m_fits_word
  cases h : isTup v 0 60 with
  | false => simp only [DL.runF, DL.startE, DL.endF, DL.outsOf, DL.seqS, DL.ifS, DL.retS, DL.retN, DL.drop, DL.noList, DL.noLists, DL.noListTop, DL.asg, DL.asgT, DL.toSl, DL.setSl, DL.leak1, DL.leaks, bnd, DL.bndS, DL.evVar, DL.evC, DL.res, DL.resS, DL.bin2, DL.un1, DL.app1, DL.app2, DL.callB, DL.appA, DL.pinO, DL.nilA, DL.consA, DL.mkT, DL.mkL, DL.tst, DL.truth, DL.truthD, DL.andT, DL.orT, DL.notT, DL.andV, DL.orV, DL.notV, DL.ifE, DL.ifT, DL.chain, DL.isi, DL.gIsi, DL.gLen, DL.gAbs, DL.gInt, DL.max_int, DL.min_int, DL.gList, DL.gTuple, DL.gAdd, DL.gSub, DL.gMul, DL.gFdiv, DL.gMod, DL.gPow, DL.gNeg, DL.gCmp, DL.gLt, DL.eq_int, DL.ne_int, DL.gIx, DL.gRev, DL.gSl, DL.slc, DL.noP, DL.someP, DL.gIsN, DL.gNotN, DL.isNonD, DL.seqX, DL.seqD, DL.itQ, DL.itR1, DL.itR2, DL.call, DL.noErr, DL.callF, DL.argsD, DL.ioSl, DL.rdSl, DL.mineAt, DL.nodupB, DL.leakSl, DL.putIo, DL.lookN, DL.putAt, DL.reTop, DL.topAt, DL.putTop, DL.apnd, DL.stoL, DL.stoT, DL.par2, DL.put2, DL.par3, DL.put3, DL.tgN, DL.tgTup, DL.tgCons, DL.tgNil, DL.forS, DL.wipeE, DL.restE, DL.yesT, DL.lcStep, DL.mutL, DL.gInsert, DL.raiseS, DL.nop, DL.brk, DL.cont, DL.ite_out, List.map_cons, List.map_nil, List.zip_cons_cons, List.zip_nil_right, List.zip_nil_left, List.length_cons, List.length_nil, List.cons_append, List.nil_append, List.replicate_succ, List.replicate_zero, List.getElem?_cons_zero, List.getElem?_cons_succ, List.getElem?_nil, List.set_cons_zero, List.set_cons_succ, List.all_cons, List.all_nil, List.isEmpty_nil, List.isEmpty_cons, List.contains_nil, List.contains_cons, List.elem_nil, Bool.false_eq_true, if_true, if_false, ite_true, ite_false, reduceIte, Bool.and_true, Bool.true_and, Bool.and_false, Bool.false_and, Bool.or_true, Bool.true_or, Bool.or_false, Bool.false_or, Bool.not_true, Bool.not_false, Option.bind_some, Option.bind_none, Option.map_some, Option.map_none, Nat.reduceAdd, Nat.reduceSub, Nat.reduceEqDiff, Nat.reduceLeDiff, Nat.zero_add, decide_true, decide_false, beq_self_eq_true, String.reduceBEq, String.reduceEq, reduceCtorEq, Int.reduceNeg, Int.reduceLT, Int.reduceLE, Int.reduceAdd, Int.reduceSub, Int.reduceMul, Int.reduceEq, Int.reduceBEq, Int.natCast_zero, Int.natCast_one, Int.cast_ofNat_Int, DL.atI_0, DL.atI_1, DL.atI_2, DL.atI_3, DL.atI_4, DL.atI_5, DL.atI_6, DL.cut_tail, DL.cut5_02, DL.cut5_24, List.take_succ_cons, List.take_zero, List.take_nil, List.drop_succ_cons, List.drop_zero, List.drop_nil, Int.toNat_natCast, Int.reduceToNat, Int.reducePow, Nat.reducePow, Nat.reduceMul, and_self, and_true, true_and, List.length_map, List.map_map, decide_eq_true_eq, is_tuple_of_eq, h, wordB]
  | true =>
    cases v with
    | tup ds =>
      have hc : c_fits_word_1 [.val (.int m), .val (.tup ds), .no] = .ok (.f (.lst (ds.map fun d => .bl (letB m d)))) [.val (.int m), .val (.tup ds), .no] := by
        unfold c_fits_word_1
        refine (lc_map (ds := ds) (fun d => .bl (letB m d)) (by simp only [DL.runF, DL.startE, DL.endF, DL.outsOf, DL.seqS, DL.ifS, DL.retS, DL.retN, DL.drop, DL.noList, DL.noLists, DL.noListTop, DL.asg, DL.asgT, DL.toSl, DL.setSl, DL.leak1, DL.leaks, bnd, DL.bndS, DL.evVar, DL.evC, DL.res, DL.resS, DL.bin2, DL.un1, DL.app1, DL.app2, DL.callB, DL.appA, DL.pinO, DL.nilA, DL.consA, DL.mkT, DL.mkL, DL.tst, DL.truth, DL.truthD, DL.andT, DL.orT, DL.notT, DL.andV, DL.orV, DL.notV, DL.ifE, DL.ifT, DL.chain, DL.isi, DL.gIsi, DL.gLen, DL.gAbs, DL.gInt, DL.max_int, DL.min_int, DL.gList, DL.gTuple, DL.gAdd, DL.gSub, DL.gMul, DL.gFdiv, DL.gMod, DL.gPow, DL.gNeg, DL.gCmp, DL.gLt, DL.eq_int, DL.ne_int, DL.gIx, DL.gRev, DL.gSl, DL.slc, DL.noP, DL.someP, DL.gIsN, DL.gNotN, DL.isNonD, DL.seqX, DL.seqD, DL.itQ, DL.itR1, DL.itR2, DL.call, DL.noErr, DL.callF, DL.argsD, DL.ioSl, DL.rdSl, DL.mineAt, DL.nodupB, DL.leakSl, DL.putIo, DL.lookN, DL.putAt, DL.reTop, DL.topAt, DL.putTop, DL.apnd, DL.stoL, DL.stoT, DL.par2, DL.put2, DL.par3, DL.put3, DL.tgN, DL.tgTup, DL.tgCons, DL.tgNil, DL.forS, DL.wipeE, DL.restE, DL.yesT, DL.lcStep, DL.mutL, DL.gInsert, DL.raiseS, DL.nop, DL.brk, DL.cont, DL.ite_out, List.map_cons, List.map_nil, List.zip_cons_cons, List.zip_nil_right, List.zip_nil_left, List.length_cons, List.length_nil, List.cons_append, List.nil_append, List.replicate_succ, List.replicate_zero, List.getElem?_cons_zero, List.getElem?_cons_succ, List.getElem?_nil, List.set_cons_zero, List.set_cons_succ, List.all_cons, List.all_nil, List.isEmpty_nil, List.isEmpty_cons, List.contains_nil, List.contains_cons, List.elem_nil, Bool.false_eq_true, if_true, if_false, ite_true, ite_false, reduceIte, Bool.and_true, Bool.true_and, Bool.and_false, Bool.false_and, Bool.or_true, Bool.true_or, Bool.or_false, Bool.false_or, Bool.not_true, Bool.not_false, Option.bind_some, Option.bind_none, Option.map_some, Option.map_none, Nat.reduceAdd, Nat.reduceSub, Nat.reduceEqDiff, Nat.reduceLeDiff, Nat.zero_add, decide_true, decide_false, beq_self_eq_true, String.reduceBEq, String.reduceEq, reduceCtorEq, Int.reduceNeg, Int.reduceLT, Int.reduceLE, Int.reduceAdd, Int.reduceSub, Int.reduceMul, Int.reduceEq, Int.reduceBEq, Int.natCast_zero, Int.natCast_one, Int.cast_ofNat_Int, DL.atI_0, DL.atI_1, DL.atI_2, DL.atI_3, DL.atI_4, DL.atI_5, DL.atI_6, DL.cut_tail, DL.cut5_02, DL.cut5_24, List.take_succ_cons, List.take_zero, List.take_nil, List.drop_succ_cons, List.drop_zero, List.drop_nil, Int.toNat_natCast, Int.reduceToNat, Int.reducePow, Nat.reducePow, Nat.reduceMul, and_self, and_true, true_and, List.length_map, List.map_map, decide_eq_true_eq]; rfl) fun d hd => ?_).trans rfl
        simp only [DL.runF, DL.startE, DL.endF, DL.outsOf, DL.seqS, DL.ifS, DL.retS, DL.retN, DL.drop, DL.noList, DL.noLists, DL.noListTop, DL.asg, DL.asgT, DL.toSl, DL.setSl, DL.leak1, DL.leaks, bnd, DL.bndS, DL.evVar, DL.evC, DL.res, DL.resS, DL.bin2, DL.un1, DL.app1, DL.app2, DL.callB, DL.appA, DL.pinO, DL.nilA, DL.consA, DL.mkT, DL.mkL, DL.tst, DL.truth, DL.truthD, DL.andT, DL.orT, DL.notT, DL.andV, DL.orV, DL.notV, DL.ifE, DL.ifT, DL.chain, DL.isi, DL.gIsi, DL.gLen, DL.gAbs, DL.gInt, DL.max_int, DL.min_int, DL.gList, DL.gTuple, DL.gAdd, DL.gSub, DL.gMul, DL.gFdiv, DL.gMod, DL.gPow, DL.gNeg, DL.gCmp, DL.gLt, DL.eq_int, DL.ne_int, DL.gIx, DL.gRev, DL.gSl, DL.slc, DL.noP, DL.someP, DL.gIsN, DL.gNotN, DL.isNonD, DL.seqX, DL.seqD, DL.itQ, DL.itR1, DL.itR2, DL.call, DL.noErr, DL.callF, DL.argsD, DL.ioSl, DL.rdSl, DL.mineAt, DL.nodupB, DL.leakSl, DL.putIo, DL.lookN, DL.putAt, DL.reTop, DL.topAt, DL.putTop, DL.apnd, DL.stoL, DL.stoT, DL.par2, DL.put2, DL.par3, DL.put3, DL.tgN, DL.tgTup, DL.tgCons, DL.tgNil, DL.forS, DL.wipeE, DL.restE, DL.yesT, DL.lcStep, DL.mutL, DL.gInsert, DL.raiseS, DL.nop, DL.brk, DL.cont, DL.ite_out, List.map_cons, List.map_nil, List.zip_cons_cons, List.zip_nil_right, List.zip_nil_left, List.length_cons, List.length_nil, List.cons_append, List.nil_append, List.replicate_succ, List.replicate_zero, List.getElem?_cons_zero, List.getElem?_cons_succ, List.getElem?_nil, List.set_cons_zero, List.set_cons_succ, List.all_cons, List.all_nil, List.isEmpty_nil, List.isEmpty_cons, List.contains_nil, List.contains_cons, List.elem_nil, Bool.false_eq_true, if_true, if_false, ite_true, ite_false, reduceIte, Bool.and_true, Bool.true_and, Bool.and_false, Bool.false_and, Bool.or_true, Bool.true_or, Bool.or_false, Bool.false_or, Bool.not_true, Bool.not_false, Option.bind_some, Option.bind_none, Option.map_some, Option.map_none, Nat.reduceAdd, Nat.reduceSub, Nat.reduceEqDiff, Nat.reduceLeDiff, Nat.zero_add, decide_true, decide_false, beq_self_eq_true, String.reduceBEq, String.reduceEq, reduceCtorEq, Int.reduceNeg, Int.reduceLT, Int.reduceLE, Int.reduceAdd, Int.reduceSub, Int.reduceMul, Int.reduceEq, Int.reduceBEq, Int.natCast_zero, Int.natCast_one, Int.cast_ofNat_Int, DL.atI_0, DL.atI_1, DL.atI_2, DL.atI_3, DL.atI_4, DL.atI_5, DL.atI_6, DL.cut_tail, DL.cut5_02, DL.cut5_24, List.take_succ_cons, List.take_zero, List.take_nil, List.drop_succ_cons, List.drop_zero, List.drop_nil, Int.toNat_natCast, Int.reduceToNat, Int.reducePow, Nat.reducePow, Nat.reduceMul, and_self, and_true, true_and, List.length_map, List.map_map, decide_eq_true_eq, is_letter_eq]
      simp only [DL.runF, DL.startE, DL.endF, DL.outsOf, DL.seqS, DL.ifS, DL.retS, DL.retN, DL.drop, DL.noList, DL.noLists, DL.noListTop, DL.asg, DL.asgT, DL.toSl, DL.setSl, DL.leak1, DL.leaks, bnd, DL.bndS, DL.evVar, DL.evC, DL.res, DL.resS, DL.bin2, DL.un1, DL.app1, DL.app2, DL.callB, DL.appA, DL.pinO, DL.nilA, DL.consA, DL.mkT, DL.mkL, DL.tst, DL.truth, DL.truthD, DL.andT, DL.orT, DL.notT, DL.andV, DL.orV, DL.notV, DL.ifE, DL.ifT, DL.chain, DL.isi, DL.gIsi, DL.gLen, DL.gAbs, DL.gInt, DL.max_int, DL.min_int, DL.gList, DL.gTuple, DL.gAdd, DL.gSub, DL.gMul, DL.gFdiv, DL.gMod, DL.gPow, DL.gNeg, DL.gCmp, DL.gLt, DL.eq_int, DL.ne_int, DL.gIx, DL.gRev, DL.gSl, DL.slc, DL.noP, DL.someP, DL.gIsN, DL.gNotN, DL.isNonD, DL.seqX, DL.seqD, DL.itQ, DL.itR1, DL.itR2, DL.call, DL.noErr, DL.callF, DL.argsD, DL.ioSl, DL.rdSl, DL.mineAt, DL.nodupB, DL.leakSl, DL.putIo, DL.lookN, DL.putAt, DL.reTop, DL.topAt, DL.putTop, DL.apnd, DL.stoL, DL.stoT, DL.par2, DL.put2, DL.par3, DL.put3, DL.tgN, DL.tgTup, DL.tgCons, DL.tgNil, DL.forS, DL.wipeE, DL.restE, DL.yesT, DL.lcStep, DL.mutL, DL.gInsert, DL.raiseS, DL.nop, DL.brk, DL.cont, DL.ite_out, List.map_cons, List.map_nil, List.zip_cons_cons, List.zip_nil_right, List.zip_nil_left, List.length_cons, List.length_nil, List.cons_append, List.nil_append, List.replicate_succ, List.replicate_zero, List.getElem?_cons_zero, List.getElem?_cons_succ, List.getElem?_nil, List.set_cons_zero, List.set_cons_succ, List.all_cons, List.all_nil, List.isEmpty_nil, List.isEmpty_cons, List.contains_nil, List.contains_cons, List.elem_nil, Bool.false_eq_true, if_true, if_false, ite_true, ite_false, reduceIte, Bool.and_true, Bool.true_and, Bool.and_false, Bool.false_and, Bool.or_true, Bool.true_or, Bool.or_false, Bool.false_or, Bool.not_true, Bool.not_false, Option.bind_some, Option.bind_none, Option.map_some, Option.map_none, Nat.reduceAdd, Nat.reduceSub, Nat.reduceEqDiff, Nat.reduceLeDiff, Nat.zero_add, decide_true, decide_false, beq_self_eq_true, String.reduceBEq, String.reduceEq, reduceCtorEq, Int.reduceNeg, Int.reduceLT, Int.reduceLE, Int.reduceAdd, Int.reduceSub, Int.reduceMul, Int.reduceEq, Int.reduceBEq, Int.natCast_zero, Int.natCast_one, Int.cast_ofNat_Int, DL.atI_0, DL.atI_1, DL.atI_2, DL.atI_3, DL.atI_4, DL.atI_5, DL.atI_6, DL.cut_tail, DL.cut5_02, DL.cut5_24, List.take_succ_cons, List.take_zero, List.take_nil, List.drop_succ_cons, List.drop_zero, List.drop_nil, Int.toNat_natCast, Int.reduceToNat, Int.reducePow, Nat.reducePow, Nat.reduceMul, and_self, and_true, true_and, List.length_map, List.map_map, decide_eq_true_eq, is_tuple_of_eq, h, hc, gAll, blsOf_let, all_map, wordB]
    | kt ds => cases hv
    | _ => exact Bool.noConfusion h
theorem is_word_eq {m : Int} (h1 : 2 ≤ m) (h2 : m ≤ 8) (v : D) (hv : noK v = true) : g_is_word [.int m, v] = .ok false (.bl (wordB m v)) [] := by
  unfold g_is_word m_is_word
  simp only [DL.runF, DL.startE, DL.endF, DL.outsOf, DL.seqS, DL.ifS, DL.retS, DL.retN, DL.drop, DL.noList, DL.noLists, DL.noListTop, DL.asg, DL.asgT, DL.toSl, DL.setSl, DL.leak1, DL.leaks, bnd, DL.bndS, DL.evVar, DL.evC, DL.res, DL.resS, DL.bin2, DL.un1, DL.app1, DL.app2, DL.callB, DL.appA, DL.pinO, DL.nilA, DL.consA, DL.mkT, DL.mkL, DL.tst, DL.truth, DL.truthD, DL.andT, DL.orT, DL.notT, DL.andV, DL.orV, DL.notV, DL.ifE, DL.ifT, DL.chain, DL.isi, DL.gIsi, DL.gLen, DL.gAbs, DL.gInt, DL.max_int, DL.min_int, DL.gList, DL.gTuple, DL.gAdd, DL.gSub, DL.gMul, DL.gFdiv, DL.gMod, DL.gPow, DL.gNeg, DL.gCmp, DL.gLt, DL.eq_int, DL.ne_int, DL.gIx, DL.gRev, DL.gSl, DL.slc, DL.noP, DL.someP, DL.gIsN, DL.gNotN, DL.isNonD, DL.seqX, DL.seqD, DL.itQ, DL.itR1, DL.itR2, DL.call, DL.noErr, DL.callF, DL.argsD, DL.ioSl, DL.rdSl, DL.mineAt, DL.nodupB, DL.leakSl, DL.putIo, DL.lookN, DL.putAt, DL.reTop, DL.topAt, DL.putTop, DL.apnd, DL.stoL, DL.stoT, DL.par2, DL.put2, DL.par3, DL.put3, DL.tgN, DL.tgTup, DL.tgCons, DL.tgNil, DL.forS, DL.wipeE, DL.restE, DL.yesT, DL.lcStep, DL.mutL, DL.gInsert, DL.raiseS, DL.nop, DL.brk, DL.cont, DL.ite_out, List.map_cons, List.map_nil, List.zip_cons_cons, List.zip_nil_right, List.zip_nil_left, List.length_cons, List.length_nil, List.cons_append, List.nil_append, List.replicate_succ, List.replicate_zero, List.getElem?_cons_zero, List.getElem?_cons_succ, List.getElem?_nil, List.set_cons_zero, List.set_cons_succ, List.all_cons, List.all_nil, List.isEmpty_nil, List.isEmpty_cons, List.contains_nil, List.contains_cons, List.elem_nil, Bool.false_eq_true, if_true, if_false, ite_true, ite_false, reduceIte, Bool.and_true, Bool.true_and, Bool.and_false, Bool.false_and, Bool.or_true, Bool.true_or, Bool.or_false, Bool.false_or, Bool.not_true, Bool.not_false, Option.bind_some, Option.bind_none, Option.map_some, Option.map_none, Nat.reduceAdd, Nat.reduceSub, Nat.reduceEqDiff, Nat.reduceLeDiff, Nat.zero_add, decide_true, decide_false, beq_self_eq_true, String.reduceBEq, String.reduceEq, reduceCtorEq, Int.reduceNeg, Int.reduceLT, Int.reduceLE, Int.reduceAdd, Int.reduceSub, Int.reduceMul, Int.reduceEq, Int.reduceBEq, Int.natCast_zero, Int.natCast_one, Int.cast_ofNat_Int, DL.atI_0, DL.atI_1, DL.atI_2, DL.atI_3, DL.atI_4, DL.atI_5, DL.atI_6, DL.cut_tail, DL.cut5_02, DL.cut5_24, List.take_succ_cons, List.take_zero, List.take_nil, List.drop_succ_cons, List.drop_zero, List.drop_nil, Int.toNat_natCast, Int.reduceToNat, Int.reducePow, Nat.reducePow, Nat.reduceMul, and_self, and_true, true_and, List.length_map, List.map_map, decide_eq_true_eq, need_many_ok h1 h2, fits_word_eq m v hv]
structure WOk (m : Int) (w : List Int) : Prop where
  m1 : 2 ≤ m
  m2 : m ≤ 8
  n : w.length ≤ 60
  l : ∀ l ∈ w, l ≠ 0 ∧ -m < l ∧ l < m
theorem letB_ok {m l : Int} (h : l ≠ 0 ∧ -m < l ∧ l < m) : letB m (.int l) = true := by
  have : wh (.int l) (1 - m) (m - 1) = true := wh_true (by omega) (by omega)
  simp only [letB, this, beq_eq_false_iff_ne.mpr h.1]; rfl
theorem wordB_ok {m : Int} {w : List Int} (h : WOk m w) : wordB m (encW w) = true := by
  have e2 : isTup (encW w) 0 60 = true := by
    show (decide ((0 : Int) ≤ ((w.map D.int).length : Int)) && decide (((w.map D.int).length : Int) ≤ 60)) = true
    rw [List.length_map, decide_eq_true (by omega), decide_eq_true (by have := h.n; omega)]; rfl
  unfold wordB
  rw [e2]
  show (true && (w.map D.int).all (letB m)) = true
  rw [Bool.true_and, List.all_eq_true]
  intro d hd
  obtain ⟨l, hl, rfl⟩ := List.mem_map.mp hd
  exact letB_ok (h.l l hl)
theorem is_word_ok {m : Int} {w : List Int} (h : WOk m w) : g_is_word [.int m, encW w] = .ok false (.bl true) [] := by
  rw [is_word_eq h.m1 h.m2 _ rfl, wordB_ok h]
theorem need_word_ok {m : Int} {w : List Int} (h : WOk m w) : g_need_word [.int m, encW w] = .ok false .non [] := by
  unfold g_need_word m_need_word
  simp only [DL.runF, DL.startE, DL.endF, DL.outsOf, DL.seqS, DL.ifS, DL.retS, DL.retN, DL.drop, DL.noList, DL.noLists, DL.noListTop, DL.asg, DL.asgT, DL.toSl, DL.setSl, DL.leak1, DL.leaks, bnd, DL.bndS, DL.evVar, DL.evC, DL.res, DL.resS, DL.bin2, DL.un1, DL.app1, DL.app2, DL.callB, DL.appA, DL.pinO, DL.nilA, DL.consA, DL.mkT, DL.mkL, DL.tst, DL.truth, DL.truthD, DL.andT, DL.orT, DL.notT, DL.andV, DL.orV, DL.notV, DL.ifE, DL.ifT, DL.chain, DL.isi, DL.gIsi, DL.gLen, DL.gAbs, DL.gInt, DL.max_int, DL.min_int, DL.gList, DL.gTuple, DL.gAdd, DL.gSub, DL.gMul, DL.gFdiv, DL.gMod, DL.gPow, DL.gNeg, DL.gCmp, DL.gLt, DL.eq_int, DL.ne_int, DL.gIx, DL.gRev, DL.gSl, DL.slc, DL.noP, DL.someP, DL.gIsN, DL.gNotN, DL.isNonD, DL.seqX, DL.seqD, DL.itQ, DL.itR1, DL.itR2, DL.call, DL.noErr, DL.callF, DL.argsD, DL.ioSl, DL.rdSl, DL.mineAt, DL.nodupB, DL.leakSl, DL.putIo, DL.lookN, DL.putAt, DL.reTop, DL.topAt, DL.putTop, DL.apnd, DL.stoL, DL.stoT, DL.par2, DL.put2, DL.par3, DL.put3, DL.tgN, DL.tgTup, DL.tgCons, DL.tgNil, DL.forS, DL.wipeE, DL.restE, DL.yesT, DL.lcStep, DL.mutL, DL.gInsert, DL.raiseS, DL.nop, DL.brk, DL.cont, DL.ite_out, List.map_cons, List.map_nil, List.zip_cons_cons, List.zip_nil_right, List.zip_nil_left, List.length_cons, List.length_nil, List.cons_append, List.nil_append, List.replicate_succ, List.replicate_zero, List.getElem?_cons_zero, List.getElem?_cons_succ, List.getElem?_nil, List.set_cons_zero, List.set_cons_succ, List.all_cons, List.all_nil, List.isEmpty_nil, List.isEmpty_cons, List.contains_nil, List.contains_cons, List.elem_nil, Bool.false_eq_true, if_true, if_false, ite_true, ite_false, reduceIte, Bool.and_true, Bool.true_and, Bool.and_false, Bool.false_and, Bool.or_true, Bool.true_or, Bool.or_false, Bool.false_or, Bool.not_true, Bool.not_false, Option.bind_some, Option.bind_none, Option.map_some, Option.map_none, Nat.reduceAdd, Nat.reduceSub, Nat.reduceEqDiff, Nat.reduceLeDiff, Nat.zero_add, decide_true, decide_false, beq_self_eq_true, String.reduceBEq, String.reduceEq, reduceCtorEq, Int.reduceNeg, Int.reduceLT, Int.reduceLE, Int.reduceAdd, Int.reduceSub, Int.reduceMul, Int.reduceEq, Int.reduceBEq, Int.natCast_zero, Int.natCast_one, Int.cast_ofNat_Int, DL.atI_0, DL.atI_1, DL.atI_2, DL.atI_3, DL.atI_4, DL.atI_5, DL.atI_6, DL.cut_tail, DL.cut5_02, DL.cut5_24, List.take_succ_cons, List.take_zero, List.take_nil, List.drop_succ_cons, List.drop_zero, List.drop_nil, Int.toNat_natCast, Int.reduceToNat, Int.reducePow, Nat.reducePow, Nat.reduceMul, and_self, and_true, true_and, List.length_map, List.map_map, decide_eq_true_eq, need_many_ok h.m1 h.m2, fits_word_eq m (encW w) rfl, wordB_ok h]
end K34

set_option maxRecDepth 100000
set_option maxHeartbeats 4000000
namespace K34
open PySem PySem.Spec L2 DL
open PyProof.Rows hiding St
open DL (Env)
theorem ixN_nat {n a : Nat} (h : a < n) : ixN n (a : Int) = some a := by
  unfold ixN
  rw [if_pos (by omega), if_pos (by omega), Int.toNat_natCast]
theorem cut_take (ds : List D) {a : Nat} (h : a ≤ ds.length) : cutD ds none (some (a : Int)) = ds.take a := by
  have e : HT.sIx ds.length ds.length (some (a : Int)) = a := by
    show (if (a : Int) < 0 then ((a : Int) + (ds.length : Int)).toNat else min (a : Int).toNat ds.length) = a
    rw [if_neg (by omega), Int.toNat_natCast]
    omega
  unfold DL.cutD
  rw [e]
  show ((ds.drop 0).take (a - 0)) = _
  rw [List.drop_zero, Nat.sub_zero]
theorem cut_drop (ds : List D) {a : Nat} (h : a ≤ ds.length) : cutD ds (some (a : Int)) none = ds.drop a := by
  have e : HT.sIx ds.length 0 (some (a : Int)) = a := by
    show (if (a : Int) < 0 then ((a : Int) + (ds.length : Int)).toNat else min (a : Int).toNat ds.length) = a
    rw [if_neg (by omega), Int.toNat_natCast]
    omega
  unfold DL.cutD
  rw [e]
  show List.take (ds.length - a) (ds.drop a) = _
  rw [List.take_of_length_le]
  rw [List.length_drop]; omega
def swp (h : List Int) (a : Nat) : List Int := (h.set a (h.getD (a + 1) 0)).set (a + 1) (h.getD a 0)
theorem swp_len (h : List Int) (a : Nat) : (swp h a).length = h.length := by simp [swp]
theorem swp_cut : ∀ (h : List Int) (a : Nat), a + 1 < h.length → h.take a ++ [h.getD (a + 1) 0, h.getD a 0] ++ h.drop (a + 2) = swp h a
  | [], a, H => by simp at H
  | [x], a, H => by simp at H
  | x :: y :: t, 0, H => rfl
  | x :: y :: t, a + 1, H => by
    have := swp_cut (y :: t) a (by simp only [List.length_cons] at H ⊢; omega)
    show x :: (List.take a (y :: t) ++ [(y :: t).getD (a + 1) 0, (y :: t).getD a 0] ++ List.drop (a + 2) (y :: t)) = x :: swp (y :: t) a
    rw [this]
theorem at_map {h : List Int} {a : Nat} {A : Int} (hA : A = a) (H : a < h.length) : atI (h.map D.int) A = some (.int (h.getD a 0)) := by
  subst hA
  rw [DL.atI_nat, List.getElem?_map, List.getElem?_eq_getElem H]
  simp [List.getD_eq_getElem?_getD, H]
theorem order_core (M W : D) (h : List Int) (l A : Int) (a : Nat) (hl : (if l < 0 then -l else l) - 1 = A) (hA : A = a) (H : a + 1 < h.length) (x : Sl) (hx : NV x) :
    b_order_in_1 [.val M, .val W, .own (.lst (h.map D.int)), .val (.int l), x] = .nx [.val M, .val W, .own (.lst ((swp h a).map D.int)), .val (.int l), .val (.int A)] := by
  have e1 := at_map hA (show a < h.length by omega)
  have e2 := at_map (A := A + 1) (a := a + 1) (by omega) H
  have i1 : ixN h.length A = some a := by rw [hA]; exact ixN_nat (by omega)
  have i2 : ixN h.length (A + 1) = some (a + 1) := by
    rw [hA]; exact ixN_nat H
  have e3 : (swp h a).map D.int = ((h.map D.int).set a (.int (h.getD (a + 1) 0))).set (a + 1) (.int (h.getD a 0)) := by
    simp only [swp, List.map_set]
  unfold b_order_in_1
  rw [e3]
  rcases hx with rfl | ⟨d, rfl⟩ <;> simp only [DL.runF, DL.startE, DL.endF, DL.outsOf, DL.seqS, DL.ifS, DL.retS, DL.retN, DL.drop, DL.noList, DL.noLists, DL.noListTop, DL.asg, DL.asgT, DL.toSl, DL.setSl, DL.leak1, DL.leaks, bnd, DL.bndS, DL.evVar, DL.evC, DL.res, DL.resS, DL.bin2, DL.un1, DL.app1, DL.app2, DL.callB, DL.appA, DL.pinO, DL.nilA, DL.consA, DL.mkT, DL.mkL, DL.tst, DL.truth, DL.truthD, DL.andT, DL.orT, DL.notT, DL.andV, DL.orV, DL.notV, DL.ifE, DL.ifT, DL.chain, DL.isi, DL.gIsi, DL.gLen, DL.gAbs, DL.gInt, DL.max_int, DL.min_int, DL.gList, DL.gTuple, DL.gAdd, DL.gSub, DL.gMul, DL.gFdiv, DL.gMod, DL.gPow, DL.gNeg, DL.gCmp, DL.gLt, DL.eq_int, DL.ne_int, DL.gIx, DL.gRev, DL.gSl, DL.slc, DL.noP, DL.someP, DL.gIsN, DL.gNotN, DL.isNonD, DL.seqX, DL.seqD, DL.itQ, DL.itR1, DL.itR2, DL.call, DL.noErr, DL.callF, DL.argsD, DL.ioSl, DL.rdSl, DL.mineAt, DL.nodupB, DL.leakSl, DL.putIo, DL.lookN, DL.putAt, DL.reTop, DL.topAt, DL.putTop, DL.apnd, DL.stoL, DL.stoT, DL.par2, DL.put2, DL.par3, DL.put3, DL.tgN, DL.tgTup, DL.tgCons, DL.tgNil, DL.forS, DL.wipeE, DL.restE, DL.yesT, DL.lcStep, DL.mutL, DL.gInsert, DL.raiseS, DL.nop, DL.brk, DL.cont, DL.ite_out, List.map_cons, List.map_nil, List.zip_cons_cons, List.zip_nil_right, List.zip_nil_left, List.length_cons, List.length_nil, List.cons_append, List.nil_append, List.replicate_succ, List.replicate_zero, List.getElem?_cons_zero, List.getElem?_cons_succ, List.getElem?_nil, List.set_cons_zero, List.set_cons_succ, List.all_cons, List.all_nil, List.isEmpty_nil, List.isEmpty_cons, List.contains_nil, List.contains_cons, List.elem_nil, Bool.false_eq_true, if_true, if_false, ite_true, ite_false, reduceIte, Bool.and_true, Bool.true_and, Bool.and_false, Bool.false_and, Bool.or_true, Bool.true_or, Bool.or_false, Bool.false_or, Bool.not_true, Bool.not_false, Option.bind_some, Option.bind_none, Option.map_some, Option.map_none, Nat.reduceAdd, Nat.reduceSub, Nat.reduceEqDiff, Nat.reduceLeDiff, Nat.zero_add, decide_true, decide_false, beq_self_eq_true, String.reduceBEq, String.reduceEq, reduceCtorEq, Int.reduceNeg, Int.reduceLT, Int.reduceLE, Int.reduceAdd, Int.reduceSub, Int.reduceMul, Int.reduceEq, Int.reduceBEq, Int.natCast_zero, Int.natCast_one, Int.cast_ofNat_Int, DL.atI_0, DL.atI_1, DL.atI_2, DL.atI_3, DL.atI_4, DL.atI_5, DL.atI_6, DL.cut_tail, DL.cut5_02, DL.cut5_24, List.take_succ_cons, List.take_zero, List.take_nil, List.drop_succ_cons, List.drop_zero, List.drop_nil, Int.toNat_natCast, Int.reduceToNat, Int.reducePow, Nat.reducePow, Nat.reduceMul, and_self, and_true, true_and, List.length_map, List.map_map, decide_eq_true_eq, DL.gIx2, DL.stoL2, DL.stoT2, DL.putY, DL.putYT, DL.lookD, DL.keyOf, DL.keysOf, DL.ixV, DL.ixF, DL.getV, DL.getF, DL.dictAt, DL.lookO, DL.isDk, DL.dispK, DL.pairA, DL.keyPairs, DL.mergeZ, DL.gDictP, DL.pairsOf, DL.lockD, DL.lockM, DL.notLst, DL.noFz, DL.itK, DL.keyD, DL.mvS, DL.sto2, DL.sto2.noListO, DL.gSorted2, DL.newK, DL.newT, DL.lstR, DL.rgE, DL.rgK, DL.rgD, hl, e1, e2, i1, i2, List.length_set, noList]
def hng : List Int → List Int → List Int
  | h, [] => h
  | h, l :: w => hng (swp h (l.natAbs - 1)) w
theorem hng_len : ∀ (w h : List Int), (hng h w).length = h.length
  | [], h => rfl
  | l :: w, h => by rw [hng, hng_len w, swp_len]
def Fit (n : Nat) (w : List Int) : Prop := ∀ l ∈ w, l ≠ 0 ∧ l.natAbs < n
theorem fit_abs {l : Int} (h : l ≠ 0) : (if l < 0 then -l else l) - 1 = ((l.natAbs - 1 : Nat) : Int) := by
  split <;> omega
theorem order_loop (M W : D) : ∀ (w h : List Int) (x y : Sl), Fit h.length w → NV x → NV y → ∃ x' y', NV x' ∧ NV y' ∧
    forL (tgN 3) b_order_in_1 (w.map D.int) [.val M, .val W, .own (.lst (h.map D.int)), x, y] = .nx [.val M, .val W, .own (.lst ((hng h w).map D.int)), x', y']
  | [], h, x, y, hf, hx, hy => ⟨x, y, hx, hy, rfl⟩
  | l :: w, h, x, y, hf, hx, hy => by
    obtain ⟨l0, l1⟩ := hf l List.mem_cons_self
    have hb := order_core M W h l _ _ (fit_abs l0) rfl (by omega) y hy
    have hg : tgN 3 (.int l) [.val M, .val W, .own (.lst (h.map D.int)), x, y] = some [.val M, .val W, .own (.lst (h.map D.int)), .val (.int l), y] := by rcases hx with rfl | ⟨d, rfl⟩ <;> rfl
    rw [List.map_cons, forL_nx hg hb]
    exact order_loop M W w _ _ _ (by rw [swp_len]; exact fun l hl => hf l (List.mem_cons_of_mem _ hl)) (.inr ⟨_, rfl⟩) (.inr ⟨_, rfl⟩)
def lins (n : Nat) : List Int := (List.range n).map fun (i : Nat) => 1 + (i : Int)
theorem lins_len (n : Nat) : (lins n).length = n := by simp [lins]
theorem rangeD_lins (n : Nat) : rangeD 1 n = (lins n).map D.int := by simp [rangeD, lins]
theorem WOk.fit {m : Int} {w : List Int} (h : WOk m w) : Fit m.toNat w := fun l hl => by
  have := h.l l hl
  have := h.m1
  omega
theorem order_in_ok {m : Int} {w : List Int} (h : WOk m w) : g_order_in [.int m, encW w] = .ok true (.lst ((hng (lins m.toNat) w).map D.int)) [] := by
  have e : (m + 1 - 1).toNat = m.toNat := by omega
  have m1 : mid 1 = true := rfl
  have m2 : mid (m + 1) = true := by
    have := h.m1; have := h.m2
    unfold mid; rw [decide_eq_true_eq]; omega
  obtain ⟨x', y', _, _, hl⟩ := order_loop (.int m) (encW w) w (lins m.toNat) .no .no (by rw [lins_len]; exact h.fit) (.inl rfl) (.inl rfl)
  have hl1 : l_order_in_1 [.val (.int m), .val (encW w), .own (.lst ((lins m.toNat).map D.int)), .no, .no] = .nx [.val (.int m), .val (encW w), .own (.lst ((hng (lins m.toNat) w).map D.int)), x', y'] := by
    unfold l_order_in_1
    simp only [DL.runF, DL.startE, DL.endF, DL.outsOf, DL.seqS, DL.ifS, DL.retS, DL.retN, DL.drop, DL.noList, DL.noLists, DL.noListTop, DL.asg, DL.asgT, DL.toSl, DL.setSl, DL.leak1, DL.leaks, bnd, DL.bndS, DL.evVar, DL.evC, DL.res, DL.resS, DL.bin2, DL.un1, DL.app1, DL.app2, DL.callB, DL.appA, DL.pinO, DL.nilA, DL.consA, DL.mkT, DL.mkL, DL.tst, DL.truth, DL.truthD, DL.andT, DL.orT, DL.notT, DL.andV, DL.orV, DL.notV, DL.ifE, DL.ifT, DL.chain, DL.isi, DL.gIsi, DL.gLen, DL.gAbs, DL.gInt, DL.max_int, DL.min_int, DL.gList, DL.gTuple, DL.gAdd, DL.gSub, DL.gMul, DL.gFdiv, DL.gMod, DL.gPow, DL.gNeg, DL.gCmp, DL.gLt, DL.eq_int, DL.ne_int, DL.gIx, DL.gRev, DL.gSl, DL.slc, DL.noP, DL.someP, DL.gIsN, DL.gNotN, DL.isNonD, DL.seqX, DL.seqD, DL.itQ, DL.itR1, DL.itR2, DL.call, DL.noErr, DL.callF, DL.argsD, DL.ioSl, DL.rdSl, DL.mineAt, DL.nodupB, DL.leakSl, DL.putIo, DL.lookN, DL.putAt, DL.reTop, DL.topAt, DL.putTop, DL.apnd, DL.stoL, DL.stoT, DL.par2, DL.put2, DL.par3, DL.put3, DL.tgN, DL.tgTup, DL.tgCons, DL.tgNil, DL.forS, DL.wipeE, DL.restE, DL.yesT, DL.lcStep, DL.mutL, DL.gInsert, DL.raiseS, DL.nop, DL.brk, DL.cont, DL.ite_out, List.map_cons, List.map_nil, List.zip_cons_cons, List.zip_nil_right, List.zip_nil_left, List.length_cons, List.length_nil, List.cons_append, List.nil_append, List.replicate_succ, List.replicate_zero, List.getElem?_cons_zero, List.getElem?_cons_succ, List.getElem?_nil, List.set_cons_zero, List.set_cons_succ, List.all_cons, List.all_nil, List.isEmpty_nil, List.isEmpty_cons, List.contains_nil, List.contains_cons, List.elem_nil, Bool.false_eq_true, if_true, if_false, ite_true, ite_false, reduceIte, Bool.and_true, Bool.true_and, Bool.and_false, Bool.false_and, Bool.or_true, Bool.true_or, Bool.or_false, Bool.false_or, Bool.not_true, Bool.not_false, Option.bind_some, Option.bind_none, Option.map_some, Option.map_none, Nat.reduceAdd, Nat.reduceSub, Nat.reduceEqDiff, Nat.reduceLeDiff, Nat.zero_add, decide_true, decide_false, beq_self_eq_true, String.reduceBEq, String.reduceEq, reduceCtorEq, Int.reduceNeg, Int.reduceLT, Int.reduceLE, Int.reduceAdd, Int.reduceSub, Int.reduceMul, Int.reduceEq, Int.reduceBEq, Int.natCast_zero, Int.natCast_one, Int.cast_ofNat_Int, DL.atI_0, DL.atI_1, DL.atI_2, DL.atI_3, DL.atI_4, DL.atI_5, DL.atI_6, DL.cut_tail, DL.cut5_02, DL.cut5_24, List.take_succ_cons, List.take_zero, List.take_nil, List.drop_succ_cons, List.drop_zero, List.drop_nil, Int.toNat_natCast, Int.reduceToNat, Int.reducePow, Nat.reducePow, Nat.reduceMul, and_self, and_true, true_and, List.length_map, List.map_map, decide_eq_true_eq, DL.gIx2, DL.stoL2, DL.stoT2, DL.putY, DL.putYT, DL.lookD, DL.keyOf, DL.keysOf, DL.ixV, DL.ixF, DL.getV, DL.getF, DL.dictAt, DL.lookO, DL.isDk, DL.dispK, DL.pairA, DL.keyPairs, DL.mergeZ, DL.gDictP, DL.pairsOf, DL.lockD, DL.lockM, DL.notLst, DL.noFz, DL.itK, DL.keyD, DL.mvS, DL.sto2, DL.sto2.noListO, DL.gSorted2, DL.newK, DL.newT, DL.lstR, DL.rgE, DL.rgK, DL.rgD]
    exact hl
  unfold g_order_in m_order_in
  simp only [DL.runF, DL.startE, DL.endF, DL.outsOf, DL.seqS, DL.ifS, DL.retS, DL.retN, DL.drop, DL.noList, DL.noLists, DL.noListTop, DL.asg, DL.asgT, DL.toSl, DL.setSl, DL.leak1, DL.leaks, bnd, DL.bndS, DL.evVar, DL.evC, DL.res, DL.resS, DL.bin2, DL.un1, DL.app1, DL.app2, DL.callB, DL.appA, DL.pinO, DL.nilA, DL.consA, DL.mkT, DL.mkL, DL.tst, DL.truth, DL.truthD, DL.andT, DL.orT, DL.notT, DL.andV, DL.orV, DL.notV, DL.ifE, DL.ifT, DL.chain, DL.isi, DL.gIsi, DL.gLen, DL.gAbs, DL.gInt, DL.max_int, DL.min_int, DL.gList, DL.gTuple, DL.gAdd, DL.gSub, DL.gMul, DL.gFdiv, DL.gMod, DL.gPow, DL.gNeg, DL.gCmp, DL.gLt, DL.eq_int, DL.ne_int, DL.gIx, DL.gRev, DL.gSl, DL.slc, DL.noP, DL.someP, DL.gIsN, DL.gNotN, DL.isNonD, DL.seqX, DL.seqD, DL.itQ, DL.itR1, DL.itR2, DL.call, DL.noErr, DL.callF, DL.argsD, DL.ioSl, DL.rdSl, DL.mineAt, DL.nodupB, DL.leakSl, DL.putIo, DL.lookN, DL.putAt, DL.reTop, DL.topAt, DL.putTop, DL.apnd, DL.stoL, DL.stoT, DL.par2, DL.put2, DL.par3, DL.put3, DL.tgN, DL.tgTup, DL.tgCons, DL.tgNil, DL.forS, DL.wipeE, DL.restE, DL.yesT, DL.lcStep, DL.mutL, DL.gInsert, DL.raiseS, DL.nop, DL.brk, DL.cont, DL.ite_out, List.map_cons, List.map_nil, List.zip_cons_cons, List.zip_nil_right, List.zip_nil_left, List.length_cons, List.length_nil, List.cons_append, List.nil_append, List.replicate_succ, List.replicate_zero, List.getElem?_cons_zero, List.getElem?_cons_succ, List.getElem?_nil, List.set_cons_zero, List.set_cons_succ, List.all_cons, List.all_nil, List.isEmpty_nil, List.isEmpty_cons, List.contains_nil, List.contains_cons, List.elem_nil, Bool.false_eq_true, if_true, if_false, ite_true, ite_false, reduceIte, Bool.and_true, Bool.true_and, Bool.and_false, Bool.false_and, Bool.or_true, Bool.true_or, Bool.or_false, Bool.false_or, Bool.not_true, Bool.not_false, Option.bind_some, Option.bind_none, Option.map_some, Option.map_none, Nat.reduceAdd, Nat.reduceSub, Nat.reduceEqDiff, Nat.reduceLeDiff, Nat.zero_add, decide_true, decide_false, beq_self_eq_true, String.reduceBEq, String.reduceEq, reduceCtorEq, Int.reduceNeg, Int.reduceLT, Int.reduceLE, Int.reduceAdd, Int.reduceSub, Int.reduceMul, Int.reduceEq, Int.reduceBEq, Int.natCast_zero, Int.natCast_one, Int.cast_ofNat_Int, DL.atI_0, DL.atI_1, DL.atI_2, DL.atI_3, DL.atI_4, DL.atI_5, DL.atI_6, DL.cut_tail, DL.cut5_02, DL.cut5_24, List.take_succ_cons, List.take_zero, List.take_nil, List.drop_succ_cons, List.drop_zero, List.drop_nil, Int.toNat_natCast, Int.reduceToNat, Int.reducePow, Nat.reducePow, Nat.reduceMul, and_self, and_true, true_and, List.length_map, List.map_map, decide_eq_true_eq, DL.gIx2, DL.stoL2, DL.stoT2, DL.putY, DL.putYT, DL.lookD, DL.keyOf, DL.keysOf, DL.ixV, DL.ixF, DL.getV, DL.getF, DL.dictAt, DL.lookO, DL.isDk, DL.dispK, DL.pairA, DL.keyPairs, DL.mergeZ, DL.gDictP, DL.pairsOf, DL.lockD, DL.lockM, DL.notLst, DL.noFz, DL.itK, DL.keyD, DL.mvS, DL.sto2, DL.sto2.noListO, DL.gSorted2, DL.newK, DL.newT, DL.lstR, DL.rgE, DL.rgK, DL.rgD, m1, m2, e, rangeD_lins, hl1]
theorem order_behind_ok {m : Int} {w : List Int} (h : WOk m w) : g_order_behind [.int m, encW w] = .ok false (.tup ((hng (lins m.toNat) w).map D.int)) [] := by
  unfold g_order_behind m_order_behind
  simp only [DL.runF, DL.startE, DL.endF, DL.outsOf, DL.seqS, DL.ifS, DL.retS, DL.retN, DL.drop, DL.noList, DL.noLists, DL.noListTop, DL.asg, DL.asgT, DL.toSl, DL.setSl, DL.leak1, DL.leaks, bnd, DL.bndS, DL.evVar, DL.evC, DL.res, DL.resS, DL.bin2, DL.un1, DL.app1, DL.app2, DL.callB, DL.appA, DL.pinO, DL.nilA, DL.consA, DL.mkT, DL.mkL, DL.tst, DL.truth, DL.truthD, DL.andT, DL.orT, DL.notT, DL.andV, DL.orV, DL.notV, DL.ifE, DL.ifT, DL.chain, DL.isi, DL.gIsi, DL.gLen, DL.gAbs, DL.gInt, DL.max_int, DL.min_int, DL.gList, DL.gTuple, DL.gAdd, DL.gSub, DL.gMul, DL.gFdiv, DL.gMod, DL.gPow, DL.gNeg, DL.gCmp, DL.gLt, DL.eq_int, DL.ne_int, DL.gIx, DL.gRev, DL.gSl, DL.slc, DL.noP, DL.someP, DL.gIsN, DL.gNotN, DL.isNonD, DL.seqX, DL.seqD, DL.itQ, DL.itR1, DL.itR2, DL.call, DL.noErr, DL.callF, DL.argsD, DL.ioSl, DL.rdSl, DL.mineAt, DL.nodupB, DL.leakSl, DL.putIo, DL.lookN, DL.putAt, DL.reTop, DL.topAt, DL.putTop, DL.apnd, DL.stoL, DL.stoT, DL.par2, DL.put2, DL.par3, DL.put3, DL.tgN, DL.tgTup, DL.tgCons, DL.tgNil, DL.forS, DL.wipeE, DL.restE, DL.yesT, DL.lcStep, DL.mutL, DL.gInsert, DL.raiseS, DL.nop, DL.brk, DL.cont, DL.ite_out, List.map_cons, List.map_nil, List.zip_cons_cons, List.zip_nil_right, List.zip_nil_left, List.length_cons, List.length_nil, List.cons_append, List.nil_append, List.replicate_succ, List.replicate_zero, List.getElem?_cons_zero, List.getElem?_cons_succ, List.getElem?_nil, List.set_cons_zero, List.set_cons_succ, List.all_cons, List.all_nil, List.isEmpty_nil, List.isEmpty_cons, List.contains_nil, List.contains_cons, List.elem_nil, Bool.false_eq_true, if_true, if_false, ite_true, ite_false, reduceIte, Bool.and_true, Bool.true_and, Bool.and_false, Bool.false_and, Bool.or_true, Bool.true_or, Bool.or_false, Bool.false_or, Bool.not_true, Bool.not_false, Option.bind_some, Option.bind_none, Option.map_some, Option.map_none, Nat.reduceAdd, Nat.reduceSub, Nat.reduceEqDiff, Nat.reduceLeDiff, Nat.zero_add, decide_true, decide_false, beq_self_eq_true, String.reduceBEq, String.reduceEq, reduceCtorEq, Int.reduceNeg, Int.reduceLT, Int.reduceLE, Int.reduceAdd, Int.reduceSub, Int.reduceMul, Int.reduceEq, Int.reduceBEq, Int.natCast_zero, Int.natCast_one, Int.cast_ofNat_Int, DL.atI_0, DL.atI_1, DL.atI_2, DL.atI_3, DL.atI_4, DL.atI_5, DL.atI_6, DL.cut_tail, DL.cut5_02, DL.cut5_24, List.take_succ_cons, List.take_zero, List.take_nil, List.drop_succ_cons, List.drop_zero, List.drop_nil, Int.toNat_natCast, Int.reduceToNat, Int.reducePow, Nat.reducePow, Nat.reduceMul, and_self, and_true, true_and, List.length_map, List.map_map, decide_eq_true_eq, DL.gIx2, DL.stoL2, DL.stoT2, DL.putY, DL.putYT, DL.lookD, DL.keyOf, DL.keysOf, DL.ixV, DL.ixF, DL.getV, DL.getF, DL.dictAt, DL.lookO, DL.isDk, DL.dispK, DL.pairA, DL.keyPairs, DL.mergeZ, DL.gDictP, DL.pairsOf, DL.lockD, DL.lockM, DL.notLst, DL.noFz, DL.itK, DL.keyD, DL.mvS, DL.sto2, DL.sto2.noListO, DL.gSorted2, DL.newK, DL.newT, DL.lstR, DL.rgE, DL.rgK, DL.rgD, need_word_ok h, order_in_ok h]
theorem law_core (M W : D) (h : List Int) (l A : Int) (a : Nat) (hl : (if l < 0 then -l else l) - 1 = A) (hA : A = a) (H : a + 1 < h.length) (hz : h.length ≤ 100) (x z : Sl) (hx : NV x) :
    b_law_order_1 [.val M, .val W, .own (.lst (h.map D.int)), .val (.int l), x, z] = .nx [.val M, .val W, .own (.lst ((swp h a).map D.int)), .val (.int l), .val (.int A), z] := by
  have e1 := at_map hA (show a < h.length by omega)
  have e2 := at_map (A := A + 1) (a := a + 1) (by omega) H
  have c1 : cutD (h.map D.int) none (some A) = (h.take a).map D.int := by
    rw [hA, cut_take _ (by rw [List.length_map]; omega), List.map_take]
  have c2 : cutD (h.map D.int) (some (A + 2)) none = (h.drop (a + 2)).map D.int := by
    rw [hA]
    have := cut_drop (h.map D.int) (a := a + 2) (by rw [List.length_map]; omega)
    rw [List.map_drop, ← this]; rfl
  have e3 : (swp h a).map D.int = ((h.take a).map D.int ++ [.int (h.getD (a + 1) 0), .int (h.getD a 0)]) ++ (h.drop (a + 2)).map D.int := by
    rw [← swp_cut h a H]
    simp
  have f1 : (List.take a h).length ≤ 16777214 := by rw [List.length_take]; omega
  have f2 : (List.take a h).length + 2 + (List.drop (a + 2) h).length ≤ 16777216 := by rw [List.length_take, List.length_drop]; omega
  have e5 : A + 1 + 1 = A + 2 := by omega
  unfold b_law_order_1
  rw [e3]
  rcases hx with rfl | ⟨d, rfl⟩ <;> simp only [DL.runF, DL.startE, DL.endF, DL.outsOf, DL.seqS, DL.ifS, DL.retS, DL.retN, DL.drop, DL.noList, DL.noLists, DL.noListTop, DL.asg, DL.asgT, DL.toSl, DL.setSl, DL.leak1, DL.leaks, bnd, DL.bndS, DL.evVar, DL.evC, DL.res, DL.resS, DL.bin2, DL.un1, DL.app1, DL.app2, DL.callB, DL.appA, DL.pinO, DL.nilA, DL.consA, DL.mkT, DL.mkL, DL.tst, DL.truth, DL.truthD, DL.andT, DL.orT, DL.notT, DL.andV, DL.orV, DL.notV, DL.ifE, DL.ifT, DL.chain, DL.isi, DL.gIsi, DL.gLen, DL.gAbs, DL.gInt, DL.max_int, DL.min_int, DL.gList, DL.gTuple, DL.gAdd, DL.gSub, DL.gMul, DL.gFdiv, DL.gMod, DL.gPow, DL.gNeg, DL.gCmp, DL.gLt, DL.eq_int, DL.ne_int, DL.gIx, DL.gRev, DL.gSl, DL.slc, DL.noP, DL.someP, DL.gIsN, DL.gNotN, DL.isNonD, DL.seqX, DL.seqD, DL.itQ, DL.itR1, DL.itR2, DL.call, DL.noErr, DL.callF, DL.argsD, DL.ioSl, DL.rdSl, DL.mineAt, DL.nodupB, DL.leakSl, DL.putIo, DL.lookN, DL.putAt, DL.reTop, DL.topAt, DL.putTop, DL.apnd, DL.stoL, DL.stoT, DL.par2, DL.put2, DL.par3, DL.put3, DL.tgN, DL.tgTup, DL.tgCons, DL.tgNil, DL.forS, DL.wipeE, DL.restE, DL.yesT, DL.lcStep, DL.mutL, DL.gInsert, DL.raiseS, DL.nop, DL.brk, DL.cont, DL.ite_out, List.map_cons, List.map_nil, List.zip_cons_cons, List.zip_nil_right, List.zip_nil_left, List.length_cons, List.length_nil, List.cons_append, List.nil_append, List.replicate_succ, List.replicate_zero, List.getElem?_cons_zero, List.getElem?_cons_succ, List.getElem?_nil, List.set_cons_zero, List.set_cons_succ, List.all_cons, List.all_nil, List.isEmpty_nil, List.isEmpty_cons, List.contains_nil, List.contains_cons, List.elem_nil, Bool.false_eq_true, if_true, if_false, ite_true, ite_false, reduceIte, Bool.and_true, Bool.true_and, Bool.and_false, Bool.false_and, Bool.or_true, Bool.true_or, Bool.or_false, Bool.false_or, Bool.not_true, Bool.not_false, Option.bind_some, Option.bind_none, Option.map_some, Option.map_none, Nat.reduceAdd, Nat.reduceSub, Nat.reduceEqDiff, Nat.reduceLeDiff, Nat.zero_add, decide_true, decide_false, beq_self_eq_true, String.reduceBEq, String.reduceEq, reduceCtorEq, Int.reduceNeg, Int.reduceLT, Int.reduceLE, Int.reduceAdd, Int.reduceSub, Int.reduceMul, Int.reduceEq, Int.reduceBEq, Int.natCast_zero, Int.natCast_one, Int.cast_ofNat_Int, DL.atI_0, DL.atI_1, DL.atI_2, DL.atI_3, DL.atI_4, DL.atI_5, DL.atI_6, DL.cut_tail, DL.cut5_02, DL.cut5_24, List.take_succ_cons, List.take_zero, List.take_nil, List.drop_succ_cons, List.drop_zero, List.drop_nil, Int.toNat_natCast, Int.reduceToNat, Int.reducePow, Nat.reducePow, Nat.reduceMul, and_self, and_true, true_and, List.length_map, List.map_map, decide_eq_true_eq, DL.gIx2, DL.stoL2, DL.stoT2, DL.putY, DL.putYT, DL.lookD, DL.keyOf, DL.keysOf, DL.ixV, DL.ixF, DL.getV, DL.getF, DL.dictAt, DL.lookO, DL.isDk, DL.dispK, DL.pairA, DL.keyPairs, DL.mergeZ, DL.gDictP, DL.pairsOf, DL.lockD, DL.lockM, DL.notLst, DL.noFz, DL.itK, DL.keyD, DL.mvS, DL.sto2, DL.sto2.noListO, DL.gSorted2, DL.newK, DL.newT, DL.lstR, DL.rgE, DL.rgK, DL.rgD, hl, e1, e2, c1, c2, f1, f2, List.length_append]
theorem law_loop (M W : D) : ∀ (w h : List Int) (x y z : Sl), Fit h.length w → h.length ≤ 100 → NV x → NV y → ∃ x' y', NV x' ∧ NV y' ∧
    forL (tgN 3) b_law_order_1 (w.map D.int) [.val M, .val W, .own (.lst (h.map D.int)), x, y, z] = .nx [.val M, .val W, .own (.lst ((hng h w).map D.int)), x', y', z]
  | [], h, x, y, z, hf, hz, hx, hy => ⟨x, y, hx, hy, rfl⟩
  | l :: w, h, x, y, z, hf, hz, hx, hy => by
    obtain ⟨l0, l1⟩ := hf l List.mem_cons_self
    have hb := law_core M W h l _ _ (fit_abs l0) rfl (by omega) hz y z hy
    have hg : tgN 3 (.int l) [.val M, .val W, .own (.lst (h.map D.int)), x, y, z] = some [.val M, .val W, .own (.lst (h.map D.int)), .val (.int l), y, z] := by rcases hx with rfl | ⟨d, rfl⟩ <;> rfl
    rw [List.map_cons, forL_nx hg hb]
    exact law_loop M W w _ _ _ _ (by rw [swp_len]; exact fun l hl => hf l (List.mem_cons_of_mem _ hl)) (by rw [swp_len]; exact hz) (.inr ⟨_, rfl⟩) (.inr ⟨_, rfl⟩)
theorem lins_law (n : Nat) : (rangeD 0 n).map (fun d => match d with | .int i => D.int (i + 1) | _ => .non) = (lins n).map D.int := by
  simp only [rangeD, lins, List.map_map]
  apply List.map_congr_left
  intro i _
  show D.int (0 + (i : Int) + 1) = D.int (1 + (i : Int))
  congr 1; omega
theorem law_order_ok {m : Int} {w : List Int} (h : WOk m w) : g_law_order [.int m, encW w] = .ok false (.tup ((hng (lins m.toNat) w).map D.int)) [] := by
  have m2 : mid m = true := by
    have := h.m1; have := h.m2
    unfold mid; rw [decide_eq_true_eq]; omega
  have hc : c_law_order_1 [.val (.int m), .val (encW w), .no, .no, .no, .no] = .ok (.f (.lst ((lins m.toNat).map D.int))) [.val (.int m), .val (encW w), .no, .no, .no, .no] := by
    unfold c_law_order_1
    rw [← lins_law]
    refine (lc_map (ds := rangeD 0 m.toNat) (e1 := [.val (.int m), .val (encW w), .no, .no, .no, .no]) _ (by simp only [DL.runF, DL.startE, DL.endF, DL.outsOf, DL.seqS, DL.ifS, DL.retS, DL.retN, DL.drop, DL.noList, DL.noLists, DL.noListTop, DL.asg, DL.asgT, DL.toSl, DL.setSl, DL.leak1, DL.leaks, bnd, DL.bndS, DL.evVar, DL.evC, DL.res, DL.resS, DL.bin2, DL.un1, DL.app1, DL.app2, DL.callB, DL.appA, DL.pinO, DL.nilA, DL.consA, DL.mkT, DL.mkL, DL.tst, DL.truth, DL.truthD, DL.andT, DL.orT, DL.notT, DL.andV, DL.orV, DL.notV, DL.ifE, DL.ifT, DL.chain, DL.isi, DL.gIsi, DL.gLen, DL.gAbs, DL.gInt, DL.max_int, DL.min_int, DL.gList, DL.gTuple, DL.gAdd, DL.gSub, DL.gMul, DL.gFdiv, DL.gMod, DL.gPow, DL.gNeg, DL.gCmp, DL.gLt, DL.eq_int, DL.ne_int, DL.gIx, DL.gRev, DL.gSl, DL.slc, DL.noP, DL.someP, DL.gIsN, DL.gNotN, DL.isNonD, DL.seqX, DL.seqD, DL.itQ, DL.itR1, DL.itR2, DL.call, DL.noErr, DL.callF, DL.argsD, DL.ioSl, DL.rdSl, DL.mineAt, DL.nodupB, DL.leakSl, DL.putIo, DL.lookN, DL.putAt, DL.reTop, DL.topAt, DL.putTop, DL.apnd, DL.stoL, DL.stoT, DL.par2, DL.put2, DL.par3, DL.put3, DL.tgN, DL.tgTup, DL.tgCons, DL.tgNil, DL.forS, DL.wipeE, DL.restE, DL.yesT, DL.lcStep, DL.mutL, DL.gInsert, DL.raiseS, DL.nop, DL.brk, DL.cont, DL.ite_out, List.map_cons, List.map_nil, List.zip_cons_cons, List.zip_nil_right, List.zip_nil_left, List.length_cons, List.length_nil, List.cons_append, List.nil_append, List.replicate_succ, List.replicate_zero, List.getElem?_cons_zero, List.getElem?_cons_succ, List.getElem?_nil, List.set_cons_zero, List.set_cons_succ, List.all_cons, List.all_nil, List.isEmpty_nil, List.isEmpty_cons, List.contains_nil, List.contains_cons, List.elem_nil, Bool.false_eq_true, if_true, if_false, ite_true, ite_false, reduceIte, Bool.and_true, Bool.true_and, Bool.and_false, Bool.false_and, Bool.or_true, Bool.true_or, Bool.or_false, Bool.false_or, Bool.not_true, Bool.not_false, Option.bind_some, Option.bind_none, Option.map_some, Option.map_none, Nat.reduceAdd, Nat.reduceSub, Nat.reduceEqDiff, Nat.reduceLeDiff, Nat.zero_add, decide_true, decide_false, beq_self_eq_true, String.reduceBEq, String.reduceEq, reduceCtorEq, Int.reduceNeg, Int.reduceLT, Int.reduceLE, Int.reduceAdd, Int.reduceSub, Int.reduceMul, Int.reduceEq, Int.reduceBEq, Int.natCast_zero, Int.natCast_one, Int.cast_ofNat_Int, DL.atI_0, DL.atI_1, DL.atI_2, DL.atI_3, DL.atI_4, DL.atI_5, DL.atI_6, DL.cut_tail, DL.cut5_02, DL.cut5_24, List.take_succ_cons, List.take_zero, List.take_nil, List.drop_succ_cons, List.drop_zero, List.drop_nil, Int.toNat_natCast, Int.reduceToNat, Int.reducePow, Nat.reducePow, Nat.reduceMul, and_self, and_true, true_and, List.length_map, List.map_map, decide_eq_true_eq, DL.gIx2, DL.stoL2, DL.stoT2, DL.putY, DL.putYT, DL.lookD, DL.keyOf, DL.keysOf, DL.ixV, DL.ixF, DL.getV, DL.getF, DL.dictAt, DL.lookO, DL.isDk, DL.dispK, DL.pairA, DL.keyPairs, DL.mergeZ, DL.gDictP, DL.pairsOf, DL.lockD, DL.lockM, DL.notLst, DL.noFz, DL.itK, DL.keyD, DL.mvS, DL.sto2, DL.sto2.noListO, DL.gSorted2, DL.newK, DL.newT, DL.lstR, DL.rgE, DL.rgK, DL.rgD, m2]) fun d hd => ?_).trans rfl
    unfold rangeD at hd
    obtain ⟨i, _, rfl⟩ := List.mem_map.mp hd
    generalize (0 + (i : Int)) = I
    simp only [DL.runF, DL.startE, DL.endF, DL.outsOf, DL.seqS, DL.ifS, DL.retS, DL.retN, DL.drop, DL.noList, DL.noLists, DL.noListTop, DL.asg, DL.asgT, DL.toSl, DL.setSl, DL.leak1, DL.leaks, bnd, DL.bndS, DL.evVar, DL.evC, DL.res, DL.resS, DL.bin2, DL.un1, DL.app1, DL.app2, DL.callB, DL.appA, DL.pinO, DL.nilA, DL.consA, DL.mkT, DL.mkL, DL.tst, DL.truth, DL.truthD, DL.andT, DL.orT, DL.notT, DL.andV, DL.orV, DL.notV, DL.ifE, DL.ifT, DL.chain, DL.isi, DL.gIsi, DL.gLen, DL.gAbs, DL.gInt, DL.max_int, DL.min_int, DL.gList, DL.gTuple, DL.gAdd, DL.gSub, DL.gMul, DL.gFdiv, DL.gMod, DL.gPow, DL.gNeg, DL.gCmp, DL.gLt, DL.eq_int, DL.ne_int, DL.gIx, DL.gRev, DL.gSl, DL.slc, DL.noP, DL.someP, DL.gIsN, DL.gNotN, DL.isNonD, DL.seqX, DL.seqD, DL.itQ, DL.itR1, DL.itR2, DL.call, DL.noErr, DL.callF, DL.argsD, DL.ioSl, DL.rdSl, DL.mineAt, DL.nodupB, DL.leakSl, DL.putIo, DL.lookN, DL.putAt, DL.reTop, DL.topAt, DL.putTop, DL.apnd, DL.stoL, DL.stoT, DL.par2, DL.put2, DL.par3, DL.put3, DL.tgN, DL.tgTup, DL.tgCons, DL.tgNil, DL.forS, DL.wipeE, DL.restE, DL.yesT, DL.lcStep, DL.mutL, DL.gInsert, DL.raiseS, DL.nop, DL.brk, DL.cont, DL.ite_out, List.map_cons, List.map_nil, List.zip_cons_cons, List.zip_nil_right, List.zip_nil_left, List.length_cons, List.length_nil, List.cons_append, List.nil_append, List.replicate_succ, List.replicate_zero, List.getElem?_cons_zero, List.getElem?_cons_succ, List.getElem?_nil, List.set_cons_zero, List.set_cons_succ, List.all_cons, List.all_nil, List.isEmpty_nil, List.isEmpty_cons, List.contains_nil, List.contains_cons, List.elem_nil, Bool.false_eq_true, if_true, if_false, ite_true, ite_false, reduceIte, Bool.and_true, Bool.true_and, Bool.and_false, Bool.false_and, Bool.or_true, Bool.true_or, Bool.or_false, Bool.false_or, Bool.not_true, Bool.not_false, Option.bind_some, Option.bind_none, Option.map_some, Option.map_none, Nat.reduceAdd, Nat.reduceSub, Nat.reduceEqDiff, Nat.reduceLeDiff, Nat.zero_add, decide_true, decide_false, beq_self_eq_true, String.reduceBEq, String.reduceEq, reduceCtorEq, Int.reduceNeg, Int.reduceLT, Int.reduceLE, Int.reduceAdd, Int.reduceSub, Int.reduceMul, Int.reduceEq, Int.reduceBEq, Int.natCast_zero, Int.natCast_one, Int.cast_ofNat_Int, DL.atI_0, DL.atI_1, DL.atI_2, DL.atI_3, DL.atI_4, DL.atI_5, DL.atI_6, DL.cut_tail, DL.cut5_02, DL.cut5_24, List.take_succ_cons, List.take_zero, List.take_nil, List.drop_succ_cons, List.drop_zero, List.drop_nil, Int.toNat_natCast, Int.reduceToNat, Int.reducePow, Nat.reducePow, Nat.reduceMul, and_self, and_true, true_and, List.length_map, List.map_map, decide_eq_true_eq, DL.gIx2, DL.stoL2, DL.stoT2, DL.putY, DL.putYT, DL.lookD, DL.keyOf, DL.keysOf, DL.ixV, DL.ixF, DL.getV, DL.getF, DL.dictAt, DL.lookO, DL.isDk, DL.dispK, DL.pairA, DL.keyPairs, DL.mergeZ, DL.gDictP, DL.pairsOf, DL.lockD, DL.lockM, DL.notLst, DL.noFz, DL.itK, DL.keyD, DL.mvS, DL.sto2, DL.sto2.noListO, DL.gSorted2, DL.newK, DL.newT, DL.lstR, DL.rgE, DL.rgK, DL.rgD]
  obtain ⟨x', y', _, _, hl⟩ := law_loop (.int m) (encW w) w (lins m.toNat) .no .no .no (by rw [lins_len]; exact h.fit) (by rw [lins_len]; have := h.m2; omega) (.inl rfl) (.inl rfl)
  have hl1 : l_law_order_1 [.val (.int m), .val (encW w), .own (.lst ((lins m.toNat).map D.int)), .no, .no, .no] = .nx [.val (.int m), .val (encW w), .own (.lst ((hng (lins m.toNat) w).map D.int)), x', y', .no] := by
    unfold l_law_order_1
    simp only [DL.runF, DL.startE, DL.endF, DL.outsOf, DL.seqS, DL.ifS, DL.retS, DL.retN, DL.drop, DL.noList, DL.noLists, DL.noListTop, DL.asg, DL.asgT, DL.toSl, DL.setSl, DL.leak1, DL.leaks, bnd, DL.bndS, DL.evVar, DL.evC, DL.res, DL.resS, DL.bin2, DL.un1, DL.app1, DL.app2, DL.callB, DL.appA, DL.pinO, DL.nilA, DL.consA, DL.mkT, DL.mkL, DL.tst, DL.truth, DL.truthD, DL.andT, DL.orT, DL.notT, DL.andV, DL.orV, DL.notV, DL.ifE, DL.ifT, DL.chain, DL.isi, DL.gIsi, DL.gLen, DL.gAbs, DL.gInt, DL.max_int, DL.min_int, DL.gList, DL.gTuple, DL.gAdd, DL.gSub, DL.gMul, DL.gFdiv, DL.gMod, DL.gPow, DL.gNeg, DL.gCmp, DL.gLt, DL.eq_int, DL.ne_int, DL.gIx, DL.gRev, DL.gSl, DL.slc, DL.noP, DL.someP, DL.gIsN, DL.gNotN, DL.isNonD, DL.seqX, DL.seqD, DL.itQ, DL.itR1, DL.itR2, DL.call, DL.noErr, DL.callF, DL.argsD, DL.ioSl, DL.rdSl, DL.mineAt, DL.nodupB, DL.leakSl, DL.putIo, DL.lookN, DL.putAt, DL.reTop, DL.topAt, DL.putTop, DL.apnd, DL.stoL, DL.stoT, DL.par2, DL.put2, DL.par3, DL.put3, DL.tgN, DL.tgTup, DL.tgCons, DL.tgNil, DL.forS, DL.wipeE, DL.restE, DL.yesT, DL.lcStep, DL.mutL, DL.gInsert, DL.raiseS, DL.nop, DL.brk, DL.cont, DL.ite_out, List.map_cons, List.map_nil, List.zip_cons_cons, List.zip_nil_right, List.zip_nil_left, List.length_cons, List.length_nil, List.cons_append, List.nil_append, List.replicate_succ, List.replicate_zero, List.getElem?_cons_zero, List.getElem?_cons_succ, List.getElem?_nil, List.set_cons_zero, List.set_cons_succ, List.all_cons, List.all_nil, List.isEmpty_nil, List.isEmpty_cons, List.contains_nil, List.contains_cons, List.elem_nil, Bool.false_eq_true, if_true, if_false, ite_true, ite_false, reduceIte, Bool.and_true, Bool.true_and, Bool.and_false, Bool.false_and, Bool.or_true, Bool.true_or, Bool.or_false, Bool.false_or, Bool.not_true, Bool.not_false, Option.bind_some, Option.bind_none, Option.map_some, Option.map_none, Nat.reduceAdd, Nat.reduceSub, Nat.reduceEqDiff, Nat.reduceLeDiff, Nat.zero_add, decide_true, decide_false, beq_self_eq_true, String.reduceBEq, String.reduceEq, reduceCtorEq, Int.reduceNeg, Int.reduceLT, Int.reduceLE, Int.reduceAdd, Int.reduceSub, Int.reduceMul, Int.reduceEq, Int.reduceBEq, Int.natCast_zero, Int.natCast_one, Int.cast_ofNat_Int, DL.atI_0, DL.atI_1, DL.atI_2, DL.atI_3, DL.atI_4, DL.atI_5, DL.atI_6, DL.cut_tail, DL.cut5_02, DL.cut5_24, List.take_succ_cons, List.take_zero, List.take_nil, List.drop_succ_cons, List.drop_zero, List.drop_nil, Int.toNat_natCast, Int.reduceToNat, Int.reducePow, Nat.reducePow, Nat.reduceMul, and_self, and_true, true_and, List.length_map, List.map_map, decide_eq_true_eq, DL.gIx2, DL.stoL2, DL.stoT2, DL.putY, DL.putYT, DL.lookD, DL.keyOf, DL.keysOf, DL.ixV, DL.ixF, DL.getV, DL.getF, DL.dictAt, DL.lookO, DL.isDk, DL.dispK, DL.pairA, DL.keyPairs, DL.mergeZ, DL.gDictP, DL.pairsOf, DL.lockD, DL.lockM, DL.notLst, DL.noFz, DL.itK, DL.keyD, DL.mvS, DL.sto2, DL.sto2.noListO, DL.gSorted2, DL.newK, DL.newT, DL.lstR, DL.rgE, DL.rgK, DL.rgD]
    exact hl
  unfold g_law_order m_law_order
  simp only [DL.runF, DL.startE, DL.endF, DL.outsOf, DL.seqS, DL.ifS, DL.retS, DL.retN, DL.drop, DL.noList, DL.noLists, DL.noListTop, DL.asg, DL.asgT, DL.toSl, DL.setSl, DL.leak1, DL.leaks, bnd, DL.bndS, DL.evVar, DL.evC, DL.res, DL.resS, DL.bin2, DL.un1, DL.app1, DL.app2, DL.callB, DL.appA, DL.pinO, DL.nilA, DL.consA, DL.mkT, DL.mkL, DL.tst, DL.truth, DL.truthD, DL.andT, DL.orT, DL.notT, DL.andV, DL.orV, DL.notV, DL.ifE, DL.ifT, DL.chain, DL.isi, DL.gIsi, DL.gLen, DL.gAbs, DL.gInt, DL.max_int, DL.min_int, DL.gList, DL.gTuple, DL.gAdd, DL.gSub, DL.gMul, DL.gFdiv, DL.gMod, DL.gPow, DL.gNeg, DL.gCmp, DL.gLt, DL.eq_int, DL.ne_int, DL.gIx, DL.gRev, DL.gSl, DL.slc, DL.noP, DL.someP, DL.gIsN, DL.gNotN, DL.isNonD, DL.seqX, DL.seqD, DL.itQ, DL.itR1, DL.itR2, DL.call, DL.noErr, DL.callF, DL.argsD, DL.ioSl, DL.rdSl, DL.mineAt, DL.nodupB, DL.leakSl, DL.putIo, DL.lookN, DL.putAt, DL.reTop, DL.topAt, DL.putTop, DL.apnd, DL.stoL, DL.stoT, DL.par2, DL.put2, DL.par3, DL.put3, DL.tgN, DL.tgTup, DL.tgCons, DL.tgNil, DL.forS, DL.wipeE, DL.restE, DL.yesT, DL.lcStep, DL.mutL, DL.gInsert, DL.raiseS, DL.nop, DL.brk, DL.cont, DL.ite_out, List.map_cons, List.map_nil, List.zip_cons_cons, List.zip_nil_right, List.zip_nil_left, List.length_cons, List.length_nil, List.cons_append, List.nil_append, List.replicate_succ, List.replicate_zero, List.getElem?_cons_zero, List.getElem?_cons_succ, List.getElem?_nil, List.set_cons_zero, List.set_cons_succ, List.all_cons, List.all_nil, List.isEmpty_nil, List.isEmpty_cons, List.contains_nil, List.contains_cons, List.elem_nil, Bool.false_eq_true, if_true, if_false, ite_true, ite_false, reduceIte, Bool.and_true, Bool.true_and, Bool.and_false, Bool.false_and, Bool.or_true, Bool.true_or, Bool.or_false, Bool.false_or, Bool.not_true, Bool.not_false, Option.bind_some, Option.bind_none, Option.map_some, Option.map_none, Nat.reduceAdd, Nat.reduceSub, Nat.reduceEqDiff, Nat.reduceLeDiff, Nat.zero_add, decide_true, decide_false, beq_self_eq_true, String.reduceBEq, String.reduceEq, reduceCtorEq, Int.reduceNeg, Int.reduceLT, Int.reduceLE, Int.reduceAdd, Int.reduceSub, Int.reduceMul, Int.reduceEq, Int.reduceBEq, Int.natCast_zero, Int.natCast_one, Int.cast_ofNat_Int, DL.atI_0, DL.atI_1, DL.atI_2, DL.atI_3, DL.atI_4, DL.atI_5, DL.atI_6, DL.cut_tail, DL.cut5_02, DL.cut5_24, List.take_succ_cons, List.take_zero, List.take_nil, List.drop_succ_cons, List.drop_zero, List.drop_nil, Int.toNat_natCast, Int.reduceToNat, Int.reducePow, Nat.reducePow, Nat.reduceMul, and_self, and_true, true_and, List.length_map, List.map_map, decide_eq_true_eq, DL.gIx2, DL.stoL2, DL.stoT2, DL.putY, DL.putYT, DL.lookD, DL.keyOf, DL.keysOf, DL.ixV, DL.ixF, DL.getV, DL.getF, DL.dictAt, DL.lookO, DL.isDk, DL.dispK, DL.pairA, DL.keyPairs, DL.mergeZ, DL.gDictP, DL.pairsOf, DL.lockD, DL.lockM, DL.notLst, DL.noFz, DL.itK, DL.keyD, DL.mvS, DL.sto2, DL.sto2.noListO, DL.gSorted2, DL.newK, DL.newT, DL.lstR, DL.rgE, DL.rgK, DL.rgD, hc, hl1]
end K34

set_option maxRecDepth 100000
set_option maxHeartbeats 4000000
namespace K34
open PySem PySem.Spec L2 DL
open PyProof.Rows hiding St
open DL (Env)
def sgn (l : Int) : Int := if 0 < l then 1 else -1
theorem sign_of_eq (l : Int) : g_sign_of [.int l] = .ok false (.int (sgn l)) [] := by
  unfold g_sign_of m_sign_of sgn
  by_cases h : 0 < l <;> simp only [DL.runF, DL.startE, DL.endF, DL.outsOf, DL.seqS, DL.ifS, DL.retS, DL.retN, DL.drop, DL.noList, DL.noLists, DL.noListTop, DL.asg, DL.asgT, DL.toSl, DL.setSl, DL.leak1, DL.leaks, bnd, DL.bndS, DL.evVar, DL.evC, DL.res, DL.resS, DL.bin2, DL.un1, DL.app1, DL.app2, DL.callB, DL.appA, DL.pinO, DL.nilA, DL.consA, DL.mkT, DL.mkL, DL.tst, DL.truth, DL.truthD, DL.andT, DL.orT, DL.notT, DL.andV, DL.orV, DL.notV, DL.ifE, DL.ifT, DL.chain, DL.isi, DL.gIsi, DL.gLen, DL.gAbs, DL.gInt, DL.max_int, DL.min_int, DL.gList, DL.gTuple, DL.gAdd, DL.gSub, DL.gMul, DL.gFdiv, DL.gMod, DL.gPow, DL.gNeg, DL.gCmp, DL.gLt, DL.eq_int, DL.ne_int, DL.gIx, DL.gRev, DL.gSl, DL.slc, DL.noP, DL.someP, DL.gIsN, DL.gNotN, DL.isNonD, DL.seqX, DL.seqD, DL.itQ, DL.itR1, DL.itR2, DL.call, DL.noErr, DL.callF, DL.argsD, DL.ioSl, DL.rdSl, DL.mineAt, DL.nodupB, DL.leakSl, DL.putIo, DL.lookN, DL.putAt, DL.reTop, DL.topAt, DL.putTop, DL.apnd, DL.stoL, DL.stoT, DL.par2, DL.put2, DL.par3, DL.put3, DL.tgN, DL.tgTup, DL.tgCons, DL.tgNil, DL.forS, DL.wipeE, DL.restE, DL.yesT, DL.lcStep, DL.mutL, DL.gInsert, DL.raiseS, DL.nop, DL.brk, DL.cont, DL.ite_out, List.map_cons, List.map_nil, List.zip_cons_cons, List.zip_nil_right, List.zip_nil_left, List.length_cons, List.length_nil, List.cons_append, List.nil_append, List.replicate_succ, List.replicate_zero, List.getElem?_cons_zero, List.getElem?_cons_succ, List.getElem?_nil, List.set_cons_zero, List.set_cons_succ, List.all_cons, List.all_nil, List.isEmpty_nil, List.isEmpty_cons, List.contains_nil, List.contains_cons, List.elem_nil, Bool.false_eq_true, if_true, if_false, ite_true, ite_false, reduceIte, Bool.and_true, Bool.true_and, Bool.and_false, Bool.false_and, Bool.or_true, Bool.true_or, Bool.or_false, Bool.false_or, Bool.not_true, Bool.not_false, Option.bind_some, Option.bind_none, Option.map_some, Option.map_none, Nat.reduceAdd, Nat.reduceSub, Nat.reduceEqDiff, Nat.reduceLeDiff, Nat.zero_add, decide_true, decide_false, beq_self_eq_true, String.reduceBEq, String.reduceEq, reduceCtorEq, Int.reduceNeg, Int.reduceLT, Int.reduceLE, Int.reduceAdd, Int.reduceSub, Int.reduceMul, Int.reduceEq, Int.reduceBEq, Int.natCast_zero, Int.natCast_one, Int.cast_ofNat_Int, DL.atI_0, DL.atI_1, DL.atI_2, DL.atI_3, DL.atI_4, DL.atI_5, DL.atI_6, DL.cut_tail, DL.cut5_02, DL.cut5_24, List.take_succ_cons, List.take_zero, List.take_nil, List.drop_succ_cons, List.drop_zero, List.drop_nil, Int.toNat_natCast, Int.reduceToNat, Int.reducePow, Nat.reducePow, Nat.reduceMul, and_self, and_true, true_and, List.length_map, List.map_map, decide_eq_true_eq, h]
theorem law_sign_eq (l : Int) : g_law_sign [.int l] = .ok false (.int (sgn l)) [] := by
  unfold g_law_sign m_law_sign sgn
  by_cases h : 0 < l <;> simp only [DL.runF, DL.startE, DL.endF, DL.outsOf, DL.seqS, DL.ifS, DL.retS, DL.retN, DL.drop, DL.noList, DL.noLists, DL.noListTop, DL.asg, DL.asgT, DL.toSl, DL.setSl, DL.leak1, DL.leaks, bnd, DL.bndS, DL.evVar, DL.evC, DL.res, DL.resS, DL.bin2, DL.un1, DL.app1, DL.app2, DL.callB, DL.appA, DL.pinO, DL.nilA, DL.consA, DL.mkT, DL.mkL, DL.tst, DL.truth, DL.truthD, DL.andT, DL.orT, DL.notT, DL.andV, DL.orV, DL.notV, DL.ifE, DL.ifT, DL.chain, DL.isi, DL.gIsi, DL.gLen, DL.gAbs, DL.gInt, DL.max_int, DL.min_int, DL.gList, DL.gTuple, DL.gAdd, DL.gSub, DL.gMul, DL.gFdiv, DL.gMod, DL.gPow, DL.gNeg, DL.gCmp, DL.gLt, DL.eq_int, DL.ne_int, DL.gIx, DL.gRev, DL.gSl, DL.slc, DL.noP, DL.someP, DL.gIsN, DL.gNotN, DL.isNonD, DL.seqX, DL.seqD, DL.itQ, DL.itR1, DL.itR2, DL.call, DL.noErr, DL.callF, DL.argsD, DL.ioSl, DL.rdSl, DL.mineAt, DL.nodupB, DL.leakSl, DL.putIo, DL.lookN, DL.putAt, DL.reTop, DL.topAt, DL.putTop, DL.apnd, DL.stoL, DL.stoT, DL.par2, DL.put2, DL.par3, DL.put3, DL.tgN, DL.tgTup, DL.tgCons, DL.tgNil, DL.forS, DL.wipeE, DL.restE, DL.yesT, DL.lcStep, DL.mutL, DL.gInsert, DL.raiseS, DL.nop, DL.brk, DL.cont, DL.ite_out, List.map_cons, List.map_nil, List.zip_cons_cons, List.zip_nil_right, List.zip_nil_left, List.length_cons, List.length_nil, List.cons_append, List.nil_append, List.replicate_succ, List.replicate_zero, List.getElem?_cons_zero, List.getElem?_cons_succ, List.getElem?_nil, List.set_cons_zero, List.set_cons_succ, List.all_cons, List.all_nil, List.isEmpty_nil, List.isEmpty_cons, List.contains_nil, List.contains_cons, List.elem_nil, Bool.false_eq_true, if_true, if_false, ite_true, ite_false, reduceIte, Bool.and_true, Bool.true_and, Bool.and_false, Bool.false_and, Bool.or_true, Bool.true_or, Bool.or_false, Bool.false_or, Bool.not_true, Bool.not_false, Option.bind_some, Option.bind_none, Option.map_some, Option.map_none, Nat.reduceAdd, Nat.reduceSub, Nat.reduceEqDiff, Nat.reduceLeDiff, Nat.zero_add, decide_true, decide_false, beq_self_eq_true, String.reduceBEq, String.reduceEq, reduceCtorEq, Int.reduceNeg, Int.reduceLT, Int.reduceLE, Int.reduceAdd, Int.reduceSub, Int.reduceMul, Int.reduceEq, Int.reduceBEq, Int.natCast_zero, Int.natCast_one, Int.cast_ofNat_Int, DL.atI_0, DL.atI_1, DL.atI_2, DL.atI_3, DL.atI_4, DL.atI_5, DL.atI_6, DL.cut_tail, DL.cut5_02, DL.cut5_24, List.take_succ_cons, List.take_zero, List.take_nil, List.drop_succ_cons, List.drop_zero, List.drop_nil, Int.toNat_natCast, Int.reduceToNat, Int.reducePow, Nat.reducePow, Nat.reduceMul, and_self, and_true, true_and, List.length_map, List.map_map, decide_eq_true_eq, h]
theorem ints_map : ∀ ns : List Int, intsOf (ns.map D.int) = some ns
  | [] => rfl
  | n :: ns => by
    show (intsOf (ns.map D.int)).map (n :: ·) = _
    rw [ints_map ns]; rfl
def sgD (d : D) : D := match d with
  | .int l => .int (sgn l)
  | _ => .non
def ngD (d : D) : D := match d with
  | .int l => .int (-l)
  | _ => .non
theorem map_sgD (w : List Int) : (w.map D.int).map sgD = (w.map sgn).map D.int := by
  rw [List.map_map, List.map_map]; rfl
theorem map_ngD (w : List Int) : ((w.map D.int).reverse).map ngD = (w.reverse.map fun l => -l).map D.int := by
  rw [← List.map_reverse, List.map_map, List.map_map]; rfl
theorem sum_in_ok (w : List Int) : g_sum_in [encW w] = .ok false (.int (w.map sgn).sum) [] := by
  have hc : c_sum_in_1 [.val (encW w), .no] = .ok (.f (.lst ((w.map sgn).map D.int))) [.val (encW w), .no] := by
    unfold c_sum_in_1
    rw [← map_sgD]
    refine (lc_map (ds := w.map D.int) (e1 := [.val (encW w), .no]) sgD (by simp only [DL.runF, DL.startE, DL.endF, DL.outsOf, DL.seqS, DL.ifS, DL.retS, DL.retN, DL.drop, DL.noList, DL.noLists, DL.noListTop, DL.asg, DL.asgT, DL.toSl, DL.setSl, DL.leak1, DL.leaks, bnd, DL.bndS, DL.evVar, DL.evC, DL.res, DL.resS, DL.bin2, DL.un1, DL.app1, DL.app2, DL.callB, DL.appA, DL.pinO, DL.nilA, DL.consA, DL.mkT, DL.mkL, DL.tst, DL.truth, DL.truthD, DL.andT, DL.orT, DL.notT, DL.andV, DL.orV, DL.notV, DL.ifE, DL.ifT, DL.chain, DL.isi, DL.gIsi, DL.gLen, DL.gAbs, DL.gInt, DL.max_int, DL.min_int, DL.gList, DL.gTuple, DL.gAdd, DL.gSub, DL.gMul, DL.gFdiv, DL.gMod, DL.gPow, DL.gNeg, DL.gCmp, DL.gLt, DL.eq_int, DL.ne_int, DL.gIx, DL.gRev, DL.gSl, DL.slc, DL.noP, DL.someP, DL.gIsN, DL.gNotN, DL.isNonD, DL.seqX, DL.seqD, DL.itQ, DL.itR1, DL.itR2, DL.call, DL.noErr, DL.callF, DL.argsD, DL.ioSl, DL.rdSl, DL.mineAt, DL.nodupB, DL.leakSl, DL.putIo, DL.lookN, DL.putAt, DL.reTop, DL.topAt, DL.putTop, DL.apnd, DL.stoL, DL.stoT, DL.par2, DL.put2, DL.par3, DL.put3, DL.tgN, DL.tgTup, DL.tgCons, DL.tgNil, DL.forS, DL.wipeE, DL.restE, DL.yesT, DL.lcStep, DL.mutL, DL.gInsert, DL.raiseS, DL.nop, DL.brk, DL.cont, DL.ite_out, List.map_cons, List.map_nil, List.zip_cons_cons, List.zip_nil_right, List.zip_nil_left, List.length_cons, List.length_nil, List.cons_append, List.nil_append, List.replicate_succ, List.replicate_zero, List.getElem?_cons_zero, List.getElem?_cons_succ, List.getElem?_nil, List.set_cons_zero, List.set_cons_succ, List.all_cons, List.all_nil, List.isEmpty_nil, List.isEmpty_cons, List.contains_nil, List.contains_cons, List.elem_nil, Bool.false_eq_true, if_true, if_false, ite_true, ite_false, reduceIte, Bool.and_true, Bool.true_and, Bool.and_false, Bool.false_and, Bool.or_true, Bool.true_or, Bool.or_false, Bool.false_or, Bool.not_true, Bool.not_false, Option.bind_some, Option.bind_none, Option.map_some, Option.map_none, Nat.reduceAdd, Nat.reduceSub, Nat.reduceEqDiff, Nat.reduceLeDiff, Nat.zero_add, decide_true, decide_false, beq_self_eq_true, String.reduceBEq, String.reduceEq, reduceCtorEq, Int.reduceNeg, Int.reduceLT, Int.reduceLE, Int.reduceAdd, Int.reduceSub, Int.reduceMul, Int.reduceEq, Int.reduceBEq, Int.natCast_zero, Int.natCast_one, Int.cast_ofNat_Int, DL.atI_0, DL.atI_1, DL.atI_2, DL.atI_3, DL.atI_4, DL.atI_5, DL.atI_6, DL.cut_tail, DL.cut5_02, DL.cut5_24, List.take_succ_cons, List.take_zero, List.take_nil, List.drop_succ_cons, List.drop_zero, List.drop_nil, Int.toNat_natCast, Int.reduceToNat, Int.reducePow, Nat.reducePow, Nat.reduceMul, and_self, and_true, true_and, List.length_map, List.map_map, decide_eq_true_eq]) fun d hd => ?_).trans rfl
    obtain ⟨l, hl, rfl⟩ := List.mem_map.mp hd
    simp only [DL.runF, DL.startE, DL.endF, DL.outsOf, DL.seqS, DL.ifS, DL.retS, DL.retN, DL.drop, DL.noList, DL.noLists, DL.noListTop, DL.asg, DL.asgT, DL.toSl, DL.setSl, DL.leak1, DL.leaks, bnd, DL.bndS, DL.evVar, DL.evC, DL.res, DL.resS, DL.bin2, DL.un1, DL.app1, DL.app2, DL.callB, DL.appA, DL.pinO, DL.nilA, DL.consA, DL.mkT, DL.mkL, DL.tst, DL.truth, DL.truthD, DL.andT, DL.orT, DL.notT, DL.andV, DL.orV, DL.notV, DL.ifE, DL.ifT, DL.chain, DL.isi, DL.gIsi, DL.gLen, DL.gAbs, DL.gInt, DL.max_int, DL.min_int, DL.gList, DL.gTuple, DL.gAdd, DL.gSub, DL.gMul, DL.gFdiv, DL.gMod, DL.gPow, DL.gNeg, DL.gCmp, DL.gLt, DL.eq_int, DL.ne_int, DL.gIx, DL.gRev, DL.gSl, DL.slc, DL.noP, DL.someP, DL.gIsN, DL.gNotN, DL.isNonD, DL.seqX, DL.seqD, DL.itQ, DL.itR1, DL.itR2, DL.call, DL.noErr, DL.callF, DL.argsD, DL.ioSl, DL.rdSl, DL.mineAt, DL.nodupB, DL.leakSl, DL.putIo, DL.lookN, DL.putAt, DL.reTop, DL.topAt, DL.putTop, DL.apnd, DL.stoL, DL.stoT, DL.par2, DL.put2, DL.par3, DL.put3, DL.tgN, DL.tgTup, DL.tgCons, DL.tgNil, DL.forS, DL.wipeE, DL.restE, DL.yesT, DL.lcStep, DL.mutL, DL.gInsert, DL.raiseS, DL.nop, DL.brk, DL.cont, DL.ite_out, List.map_cons, List.map_nil, List.zip_cons_cons, List.zip_nil_right, List.zip_nil_left, List.length_cons, List.length_nil, List.cons_append, List.nil_append, List.replicate_succ, List.replicate_zero, List.getElem?_cons_zero, List.getElem?_cons_succ, List.getElem?_nil, List.set_cons_zero, List.set_cons_succ, List.all_cons, List.all_nil, List.isEmpty_nil, List.isEmpty_cons, List.contains_nil, List.contains_cons, List.elem_nil, Bool.false_eq_true, if_true, if_false, ite_true, ite_false, reduceIte, Bool.and_true, Bool.true_and, Bool.and_false, Bool.false_and, Bool.or_true, Bool.true_or, Bool.or_false, Bool.false_or, Bool.not_true, Bool.not_false, Option.bind_some, Option.bind_none, Option.map_some, Option.map_none, Nat.reduceAdd, Nat.reduceSub, Nat.reduceEqDiff, Nat.reduceLeDiff, Nat.zero_add, decide_true, decide_false, beq_self_eq_true, String.reduceBEq, String.reduceEq, reduceCtorEq, Int.reduceNeg, Int.reduceLT, Int.reduceLE, Int.reduceAdd, Int.reduceSub, Int.reduceMul, Int.reduceEq, Int.reduceBEq, Int.natCast_zero, Int.natCast_one, Int.cast_ofNat_Int, DL.atI_0, DL.atI_1, DL.atI_2, DL.atI_3, DL.atI_4, DL.atI_5, DL.atI_6, DL.cut_tail, DL.cut5_02, DL.cut5_24, List.take_succ_cons, List.take_zero, List.take_nil, List.drop_succ_cons, List.drop_zero, List.drop_nil, Int.toNat_natCast, Int.reduceToNat, Int.reducePow, Nat.reducePow, Nat.reduceMul, and_self, and_true, true_and, List.length_map, List.map_map, decide_eq_true_eq, sign_of_eq, sgD]
  unfold g_sum_in m_sum_in
  generalize w.map sgn = ns at hc ⊢
  simp only [DL.runF, DL.startE, DL.endF, DL.outsOf, DL.seqS, DL.ifS, DL.retS, DL.retN, DL.drop, DL.noList, DL.noLists, DL.noListTop, DL.asg, DL.asgT, DL.toSl, DL.setSl, DL.leak1, DL.leaks, bnd, DL.bndS, DL.evVar, DL.evC, DL.res, DL.resS, DL.bin2, DL.un1, DL.app1, DL.app2, DL.callB, DL.appA, DL.pinO, DL.nilA, DL.consA, DL.mkT, DL.mkL, DL.tst, DL.truth, DL.truthD, DL.andT, DL.orT, DL.notT, DL.andV, DL.orV, DL.notV, DL.ifE, DL.ifT, DL.chain, DL.isi, DL.gIsi, DL.gLen, DL.gAbs, DL.gInt, DL.max_int, DL.min_int, DL.gList, DL.gTuple, DL.gAdd, DL.gSub, DL.gMul, DL.gFdiv, DL.gMod, DL.gPow, DL.gNeg, DL.gCmp, DL.gLt, DL.eq_int, DL.ne_int, DL.gIx, DL.gRev, DL.gSl, DL.slc, DL.noP, DL.someP, DL.gIsN, DL.gNotN, DL.isNonD, DL.seqX, DL.seqD, DL.itQ, DL.itR1, DL.itR2, DL.call, DL.noErr, DL.callF, DL.argsD, DL.ioSl, DL.rdSl, DL.mineAt, DL.nodupB, DL.leakSl, DL.putIo, DL.lookN, DL.putAt, DL.reTop, DL.topAt, DL.putTop, DL.apnd, DL.stoL, DL.stoT, DL.par2, DL.put2, DL.par3, DL.put3, DL.tgN, DL.tgTup, DL.tgCons, DL.tgNil, DL.forS, DL.wipeE, DL.restE, DL.yesT, DL.lcStep, DL.mutL, DL.gInsert, DL.raiseS, DL.nop, DL.brk, DL.cont, DL.ite_out, List.map_cons, List.map_nil, List.zip_cons_cons, List.zip_nil_right, List.zip_nil_left, List.length_cons, List.length_nil, List.cons_append, List.nil_append, List.replicate_succ, List.replicate_zero, List.getElem?_cons_zero, List.getElem?_cons_succ, List.getElem?_nil, List.set_cons_zero, List.set_cons_succ, List.all_cons, List.all_nil, List.isEmpty_nil, List.isEmpty_cons, List.contains_nil, List.contains_cons, List.elem_nil, Bool.false_eq_true, if_true, if_false, ite_true, ite_false, reduceIte, Bool.and_true, Bool.true_and, Bool.and_false, Bool.false_and, Bool.or_true, Bool.true_or, Bool.or_false, Bool.false_or, Bool.not_true, Bool.not_false, Option.bind_some, Option.bind_none, Option.map_some, Option.map_none, Nat.reduceAdd, Nat.reduceSub, Nat.reduceEqDiff, Nat.reduceLeDiff, Nat.zero_add, decide_true, decide_false, beq_self_eq_true, String.reduceBEq, String.reduceEq, reduceCtorEq, Int.reduceNeg, Int.reduceLT, Int.reduceLE, Int.reduceAdd, Int.reduceSub, Int.reduceMul, Int.reduceEq, Int.reduceBEq, Int.natCast_zero, Int.natCast_one, Int.cast_ofNat_Int, DL.atI_0, DL.atI_1, DL.atI_2, DL.atI_3, DL.atI_4, DL.atI_5, DL.atI_6, DL.cut_tail, DL.cut5_02, DL.cut5_24, List.take_succ_cons, List.take_zero, List.take_nil, List.drop_succ_cons, List.drop_zero, List.drop_nil, Int.toNat_natCast, Int.reduceToNat, Int.reducePow, Nat.reducePow, Nat.reduceMul, and_self, and_true, true_and, List.length_map, List.map_map, decide_eq_true_eq, hc, gSum, ints_map]
theorem sum_of_ok {m : Int} {w : List Int} (h : WOk m w) : g_sum_of [.int m, encW w] = .ok false (.int (w.map sgn).sum) [] := by
  unfold g_sum_of m_sum_of
  simp only [DL.runF, DL.startE, DL.endF, DL.outsOf, DL.seqS, DL.ifS, DL.retS, DL.retN, DL.drop, DL.noList, DL.noLists, DL.noListTop, DL.asg, DL.asgT, DL.toSl, DL.setSl, DL.leak1, DL.leaks, bnd, DL.bndS, DL.evVar, DL.evC, DL.res, DL.resS, DL.bin2, DL.un1, DL.app1, DL.app2, DL.callB, DL.appA, DL.pinO, DL.nilA, DL.consA, DL.mkT, DL.mkL, DL.tst, DL.truth, DL.truthD, DL.andT, DL.orT, DL.notT, DL.andV, DL.orV, DL.notV, DL.ifE, DL.ifT, DL.chain, DL.isi, DL.gIsi, DL.gLen, DL.gAbs, DL.gInt, DL.max_int, DL.min_int, DL.gList, DL.gTuple, DL.gAdd, DL.gSub, DL.gMul, DL.gFdiv, DL.gMod, DL.gPow, DL.gNeg, DL.gCmp, DL.gLt, DL.eq_int, DL.ne_int, DL.gIx, DL.gRev, DL.gSl, DL.slc, DL.noP, DL.someP, DL.gIsN, DL.gNotN, DL.isNonD, DL.seqX, DL.seqD, DL.itQ, DL.itR1, DL.itR2, DL.call, DL.noErr, DL.callF, DL.argsD, DL.ioSl, DL.rdSl, DL.mineAt, DL.nodupB, DL.leakSl, DL.putIo, DL.lookN, DL.putAt, DL.reTop, DL.topAt, DL.putTop, DL.apnd, DL.stoL, DL.stoT, DL.par2, DL.put2, DL.par3, DL.put3, DL.tgN, DL.tgTup, DL.tgCons, DL.tgNil, DL.forS, DL.wipeE, DL.restE, DL.yesT, DL.lcStep, DL.mutL, DL.gInsert, DL.raiseS, DL.nop, DL.brk, DL.cont, DL.ite_out, List.map_cons, List.map_nil, List.zip_cons_cons, List.zip_nil_right, List.zip_nil_left, List.length_cons, List.length_nil, List.cons_append, List.nil_append, List.replicate_succ, List.replicate_zero, List.getElem?_cons_zero, List.getElem?_cons_succ, List.getElem?_nil, List.set_cons_zero, List.set_cons_succ, List.all_cons, List.all_nil, List.isEmpty_nil, List.isEmpty_cons, List.contains_nil, List.contains_cons, List.elem_nil, Bool.false_eq_true, if_true, if_false, ite_true, ite_false, reduceIte, Bool.and_true, Bool.true_and, Bool.and_false, Bool.false_and, Bool.or_true, Bool.true_or, Bool.or_false, Bool.false_or, Bool.not_true, Bool.not_false, Option.bind_some, Option.bind_none, Option.map_some, Option.map_none, Nat.reduceAdd, Nat.reduceSub, Nat.reduceEqDiff, Nat.reduceLeDiff, Nat.zero_add, decide_true, decide_false, beq_self_eq_true, String.reduceBEq, String.reduceEq, reduceCtorEq, Int.reduceNeg, Int.reduceLT, Int.reduceLE, Int.reduceAdd, Int.reduceSub, Int.reduceMul, Int.reduceEq, Int.reduceBEq, Int.natCast_zero, Int.natCast_one, Int.cast_ofNat_Int, DL.atI_0, DL.atI_1, DL.atI_2, DL.atI_3, DL.atI_4, DL.atI_5, DL.atI_6, DL.cut_tail, DL.cut5_02, DL.cut5_24, List.take_succ_cons, List.take_zero, List.take_nil, List.drop_succ_cons, List.drop_zero, List.drop_nil, Int.toNat_natCast, Int.reduceToNat, Int.reducePow, Nat.reducePow, Nat.reduceMul, and_self, and_true, true_and, List.length_map, List.map_map, decide_eq_true_eq, need_word_ok h, sum_in_ok]
theorem back_in_ok (w : List Int) : g_back_in [encW w] = .ok false (encW (w.reverse.map fun l => -l)) [] := by
  have hc : c_back_in_1 [.val (encW w), .no] = .ok (.f (.lst ((w.reverse.map fun l => -l).map D.int))) [.val (encW w), .no] := by
    unfold c_back_in_1
    rw [← map_ngD]
    refine (lc_map (ds := (w.map D.int).reverse) (e1 := [.val (encW w), .no]) ngD (by simp only [DL.runF, DL.startE, DL.endF, DL.outsOf, DL.seqS, DL.ifS, DL.retS, DL.retN, DL.drop, DL.noList, DL.noLists, DL.noListTop, DL.asg, DL.asgT, DL.toSl, DL.setSl, DL.leak1, DL.leaks, bnd, DL.bndS, DL.evVar, DL.evC, DL.res, DL.resS, DL.bin2, DL.un1, DL.app1, DL.app2, DL.callB, DL.appA, DL.pinO, DL.nilA, DL.consA, DL.mkT, DL.mkL, DL.tst, DL.truth, DL.truthD, DL.andT, DL.orT, DL.notT, DL.andV, DL.orV, DL.notV, DL.ifE, DL.ifT, DL.chain, DL.isi, DL.gIsi, DL.gLen, DL.gAbs, DL.gInt, DL.max_int, DL.min_int, DL.gList, DL.gTuple, DL.gAdd, DL.gSub, DL.gMul, DL.gFdiv, DL.gMod, DL.gPow, DL.gNeg, DL.gCmp, DL.gLt, DL.eq_int, DL.ne_int, DL.gIx, DL.gRev, DL.gSl, DL.slc, DL.noP, DL.someP, DL.gIsN, DL.gNotN, DL.isNonD, DL.seqX, DL.seqD, DL.itQ, DL.itR1, DL.itR2, DL.call, DL.noErr, DL.callF, DL.argsD, DL.ioSl, DL.rdSl, DL.mineAt, DL.nodupB, DL.leakSl, DL.putIo, DL.lookN, DL.putAt, DL.reTop, DL.topAt, DL.putTop, DL.apnd, DL.stoL, DL.stoT, DL.par2, DL.put2, DL.par3, DL.put3, DL.tgN, DL.tgTup, DL.tgCons, DL.tgNil, DL.forS, DL.wipeE, DL.restE, DL.yesT, DL.lcStep, DL.mutL, DL.gInsert, DL.raiseS, DL.nop, DL.brk, DL.cont, DL.ite_out, List.map_cons, List.map_nil, List.zip_cons_cons, List.zip_nil_right, List.zip_nil_left, List.length_cons, List.length_nil, List.cons_append, List.nil_append, List.replicate_succ, List.replicate_zero, List.getElem?_cons_zero, List.getElem?_cons_succ, List.getElem?_nil, List.set_cons_zero, List.set_cons_succ, List.all_cons, List.all_nil, List.isEmpty_nil, List.isEmpty_cons, List.contains_nil, List.contains_cons, List.elem_nil, Bool.false_eq_true, if_true, if_false, ite_true, ite_false, reduceIte, Bool.and_true, Bool.true_and, Bool.and_false, Bool.false_and, Bool.or_true, Bool.true_or, Bool.or_false, Bool.false_or, Bool.not_true, Bool.not_false, Option.bind_some, Option.bind_none, Option.map_some, Option.map_none, Nat.reduceAdd, Nat.reduceSub, Nat.reduceEqDiff, Nat.reduceLeDiff, Nat.zero_add, decide_true, decide_false, beq_self_eq_true, String.reduceBEq, String.reduceEq, reduceCtorEq, Int.reduceNeg, Int.reduceLT, Int.reduceLE, Int.reduceAdd, Int.reduceSub, Int.reduceMul, Int.reduceEq, Int.reduceBEq, Int.natCast_zero, Int.natCast_one, Int.cast_ofNat_Int, DL.atI_0, DL.atI_1, DL.atI_2, DL.atI_3, DL.atI_4, DL.atI_5, DL.atI_6, DL.cut_tail, DL.cut5_02, DL.cut5_24, List.take_succ_cons, List.take_zero, List.take_nil, List.drop_succ_cons, List.drop_zero, List.drop_nil, Int.toNat_natCast, Int.reduceToNat, Int.reducePow, Nat.reducePow, Nat.reduceMul, and_self, and_true, true_and, List.length_map, List.map_map, decide_eq_true_eq]) fun d hd => ?_).trans rfl
    rw [← List.map_reverse] at hd
    obtain ⟨l, hl, rfl⟩ := List.mem_map.mp hd
    simp only [DL.runF, DL.startE, DL.endF, DL.outsOf, DL.seqS, DL.ifS, DL.retS, DL.retN, DL.drop, DL.noList, DL.noLists, DL.noListTop, DL.asg, DL.asgT, DL.toSl, DL.setSl, DL.leak1, DL.leaks, bnd, DL.bndS, DL.evVar, DL.evC, DL.res, DL.resS, DL.bin2, DL.un1, DL.app1, DL.app2, DL.callB, DL.appA, DL.pinO, DL.nilA, DL.consA, DL.mkT, DL.mkL, DL.tst, DL.truth, DL.truthD, DL.andT, DL.orT, DL.notT, DL.andV, DL.orV, DL.notV, DL.ifE, DL.ifT, DL.chain, DL.isi, DL.gIsi, DL.gLen, DL.gAbs, DL.gInt, DL.max_int, DL.min_int, DL.gList, DL.gTuple, DL.gAdd, DL.gSub, DL.gMul, DL.gFdiv, DL.gMod, DL.gPow, DL.gNeg, DL.gCmp, DL.gLt, DL.eq_int, DL.ne_int, DL.gIx, DL.gRev, DL.gSl, DL.slc, DL.noP, DL.someP, DL.gIsN, DL.gNotN, DL.isNonD, DL.seqX, DL.seqD, DL.itQ, DL.itR1, DL.itR2, DL.call, DL.noErr, DL.callF, DL.argsD, DL.ioSl, DL.rdSl, DL.mineAt, DL.nodupB, DL.leakSl, DL.putIo, DL.lookN, DL.putAt, DL.reTop, DL.topAt, DL.putTop, DL.apnd, DL.stoL, DL.stoT, DL.par2, DL.put2, DL.par3, DL.put3, DL.tgN, DL.tgTup, DL.tgCons, DL.tgNil, DL.forS, DL.wipeE, DL.restE, DL.yesT, DL.lcStep, DL.mutL, DL.gInsert, DL.raiseS, DL.nop, DL.brk, DL.cont, DL.ite_out, List.map_cons, List.map_nil, List.zip_cons_cons, List.zip_nil_right, List.zip_nil_left, List.length_cons, List.length_nil, List.cons_append, List.nil_append, List.replicate_succ, List.replicate_zero, List.getElem?_cons_zero, List.getElem?_cons_succ, List.getElem?_nil, List.set_cons_zero, List.set_cons_succ, List.all_cons, List.all_nil, List.isEmpty_nil, List.isEmpty_cons, List.contains_nil, List.contains_cons, List.elem_nil, Bool.false_eq_true, if_true, if_false, ite_true, ite_false, reduceIte, Bool.and_true, Bool.true_and, Bool.and_false, Bool.false_and, Bool.or_true, Bool.true_or, Bool.or_false, Bool.false_or, Bool.not_true, Bool.not_false, Option.bind_some, Option.bind_none, Option.map_some, Option.map_none, Nat.reduceAdd, Nat.reduceSub, Nat.reduceEqDiff, Nat.reduceLeDiff, Nat.zero_add, decide_true, decide_false, beq_self_eq_true, String.reduceBEq, String.reduceEq, reduceCtorEq, Int.reduceNeg, Int.reduceLT, Int.reduceLE, Int.reduceAdd, Int.reduceSub, Int.reduceMul, Int.reduceEq, Int.reduceBEq, Int.natCast_zero, Int.natCast_one, Int.cast_ofNat_Int, DL.atI_0, DL.atI_1, DL.atI_2, DL.atI_3, DL.atI_4, DL.atI_5, DL.atI_6, DL.cut_tail, DL.cut5_02, DL.cut5_24, List.take_succ_cons, List.take_zero, List.take_nil, List.drop_succ_cons, List.drop_zero, List.drop_nil, Int.toNat_natCast, Int.reduceToNat, Int.reducePow, Nat.reducePow, Nat.reduceMul, and_self, and_true, true_and, List.length_map, List.map_map, decide_eq_true_eq, ngD]
  unfold g_back_in m_back_in
  generalize (w.reverse.map fun l => -l) = ns at hc ⊢
  simp only [DL.runF, DL.startE, DL.endF, DL.outsOf, DL.seqS, DL.ifS, DL.retS, DL.retN, DL.drop, DL.noList, DL.noLists, DL.noListTop, DL.asg, DL.asgT, DL.toSl, DL.setSl, DL.leak1, DL.leaks, bnd, DL.bndS, DL.evVar, DL.evC, DL.res, DL.resS, DL.bin2, DL.un1, DL.app1, DL.app2, DL.callB, DL.appA, DL.pinO, DL.nilA, DL.consA, DL.mkT, DL.mkL, DL.tst, DL.truth, DL.truthD, DL.andT, DL.orT, DL.notT, DL.andV, DL.orV, DL.notV, DL.ifE, DL.ifT, DL.chain, DL.isi, DL.gIsi, DL.gLen, DL.gAbs, DL.gInt, DL.max_int, DL.min_int, DL.gList, DL.gTuple, DL.gAdd, DL.gSub, DL.gMul, DL.gFdiv, DL.gMod, DL.gPow, DL.gNeg, DL.gCmp, DL.gLt, DL.eq_int, DL.ne_int, DL.gIx, DL.gRev, DL.gSl, DL.slc, DL.noP, DL.someP, DL.gIsN, DL.gNotN, DL.isNonD, DL.seqX, DL.seqD, DL.itQ, DL.itR1, DL.itR2, DL.call, DL.noErr, DL.callF, DL.argsD, DL.ioSl, DL.rdSl, DL.mineAt, DL.nodupB, DL.leakSl, DL.putIo, DL.lookN, DL.putAt, DL.reTop, DL.topAt, DL.putTop, DL.apnd, DL.stoL, DL.stoT, DL.par2, DL.put2, DL.par3, DL.put3, DL.tgN, DL.tgTup, DL.tgCons, DL.tgNil, DL.forS, DL.wipeE, DL.restE, DL.yesT, DL.lcStep, DL.mutL, DL.gInsert, DL.raiseS, DL.nop, DL.brk, DL.cont, DL.ite_out, List.map_cons, List.map_nil, List.zip_cons_cons, List.zip_nil_right, List.zip_nil_left, List.length_cons, List.length_nil, List.cons_append, List.nil_append, List.replicate_succ, List.replicate_zero, List.getElem?_cons_zero, List.getElem?_cons_succ, List.getElem?_nil, List.set_cons_zero, List.set_cons_succ, List.all_cons, List.all_nil, List.isEmpty_nil, List.isEmpty_cons, List.contains_nil, List.contains_cons, List.elem_nil, Bool.false_eq_true, if_true, if_false, ite_true, ite_false, reduceIte, Bool.and_true, Bool.true_and, Bool.and_false, Bool.false_and, Bool.or_true, Bool.true_or, Bool.or_false, Bool.false_or, Bool.not_true, Bool.not_false, Option.bind_some, Option.bind_none, Option.map_some, Option.map_none, Nat.reduceAdd, Nat.reduceSub, Nat.reduceEqDiff, Nat.reduceLeDiff, Nat.zero_add, decide_true, decide_false, beq_self_eq_true, String.reduceBEq, String.reduceEq, reduceCtorEq, Int.reduceNeg, Int.reduceLT, Int.reduceLE, Int.reduceAdd, Int.reduceSub, Int.reduceMul, Int.reduceEq, Int.reduceBEq, Int.natCast_zero, Int.natCast_one, Int.cast_ofNat_Int, DL.atI_0, DL.atI_1, DL.atI_2, DL.atI_3, DL.atI_4, DL.atI_5, DL.atI_6, DL.cut_tail, DL.cut5_02, DL.cut5_24, List.take_succ_cons, List.take_zero, List.take_nil, List.drop_succ_cons, List.drop_zero, List.drop_nil, Int.toNat_natCast, Int.reduceToNat, Int.reducePow, Nat.reducePow, Nat.reduceMul, and_self, and_true, true_and, List.length_map, List.map_map, decide_eq_true_eq, hc]
theorem back_of_ok {m : Int} {w : List Int} (h : WOk m w) : g_back_of [.int m, encW w] = .ok false (encW (w.reverse.map fun l => -l)) [] := by
  unfold g_back_of m_back_of
  simp only [DL.runF, DL.startE, DL.endF, DL.outsOf, DL.seqS, DL.ifS, DL.retS, DL.retN, DL.drop, DL.noList, DL.noLists, DL.noListTop, DL.asg, DL.asgT, DL.toSl, DL.setSl, DL.leak1, DL.leaks, bnd, DL.bndS, DL.evVar, DL.evC, DL.res, DL.resS, DL.bin2, DL.un1, DL.app1, DL.app2, DL.callB, DL.appA, DL.pinO, DL.nilA, DL.consA, DL.mkT, DL.mkL, DL.tst, DL.truth, DL.truthD, DL.andT, DL.orT, DL.notT, DL.andV, DL.orV, DL.notV, DL.ifE, DL.ifT, DL.chain, DL.isi, DL.gIsi, DL.gLen, DL.gAbs, DL.gInt, DL.max_int, DL.min_int, DL.gList, DL.gTuple, DL.gAdd, DL.gSub, DL.gMul, DL.gFdiv, DL.gMod, DL.gPow, DL.gNeg, DL.gCmp, DL.gLt, DL.eq_int, DL.ne_int, DL.gIx, DL.gRev, DL.gSl, DL.slc, DL.noP, DL.someP, DL.gIsN, DL.gNotN, DL.isNonD, DL.seqX, DL.seqD, DL.itQ, DL.itR1, DL.itR2, DL.call, DL.noErr, DL.callF, DL.argsD, DL.ioSl, DL.rdSl, DL.mineAt, DL.nodupB, DL.leakSl, DL.putIo, DL.lookN, DL.putAt, DL.reTop, DL.topAt, DL.putTop, DL.apnd, DL.stoL, DL.stoT, DL.par2, DL.put2, DL.par3, DL.put3, DL.tgN, DL.tgTup, DL.tgCons, DL.tgNil, DL.forS, DL.wipeE, DL.restE, DL.yesT, DL.lcStep, DL.mutL, DL.gInsert, DL.raiseS, DL.nop, DL.brk, DL.cont, DL.ite_out, List.map_cons, List.map_nil, List.zip_cons_cons, List.zip_nil_right, List.zip_nil_left, List.length_cons, List.length_nil, List.cons_append, List.nil_append, List.replicate_succ, List.replicate_zero, List.getElem?_cons_zero, List.getElem?_cons_succ, List.getElem?_nil, List.set_cons_zero, List.set_cons_succ, List.all_cons, List.all_nil, List.isEmpty_nil, List.isEmpty_cons, List.contains_nil, List.contains_cons, List.elem_nil, Bool.false_eq_true, if_true, if_false, ite_true, ite_false, reduceIte, Bool.and_true, Bool.true_and, Bool.and_false, Bool.false_and, Bool.or_true, Bool.true_or, Bool.or_false, Bool.false_or, Bool.not_true, Bool.not_false, Option.bind_some, Option.bind_none, Option.map_some, Option.map_none, Nat.reduceAdd, Nat.reduceSub, Nat.reduceEqDiff, Nat.reduceLeDiff, Nat.zero_add, decide_true, decide_false, beq_self_eq_true, String.reduceBEq, String.reduceEq, reduceCtorEq, Int.reduceNeg, Int.reduceLT, Int.reduceLE, Int.reduceAdd, Int.reduceSub, Int.reduceMul, Int.reduceEq, Int.reduceBEq, Int.natCast_zero, Int.natCast_one, Int.cast_ofNat_Int, DL.atI_0, DL.atI_1, DL.atI_2, DL.atI_3, DL.atI_4, DL.atI_5, DL.atI_6, DL.cut_tail, DL.cut5_02, DL.cut5_24, List.take_succ_cons, List.take_zero, List.take_nil, List.drop_succ_cons, List.drop_zero, List.drop_nil, Int.toNat_natCast, Int.reduceToNat, Int.reducePow, Nat.reducePow, Nat.reduceMul, and_self, and_true, true_and, List.length_map, List.map_map, decide_eq_true_eq, need_word_ok h, back_in_ok]
theorem law_back_ok (w : List Int) : g_law_back [encW w] = .ok false (encW (w.reverse.map fun l => -l)) [] := by
  have hc : c_law_back_1 [.val (encW w), .no] = .ok (.f (.lst ((w.reverse.map fun l => -l).map D.int))) [.val (encW w), .no] := by
    unfold c_law_back_1
    rw [← map_ngD]
    refine (lc_map (ds := (w.map D.int).reverse) (e1 := [.val (encW w), .no]) ngD (by simp only [DL.runF, DL.startE, DL.endF, DL.outsOf, DL.seqS, DL.ifS, DL.retS, DL.retN, DL.drop, DL.noList, DL.noLists, DL.noListTop, DL.asg, DL.asgT, DL.toSl, DL.setSl, DL.leak1, DL.leaks, bnd, DL.bndS, DL.evVar, DL.evC, DL.res, DL.resS, DL.bin2, DL.un1, DL.app1, DL.app2, DL.callB, DL.appA, DL.pinO, DL.nilA, DL.consA, DL.mkT, DL.mkL, DL.tst, DL.truth, DL.truthD, DL.andT, DL.orT, DL.notT, DL.andV, DL.orV, DL.notV, DL.ifE, DL.ifT, DL.chain, DL.isi, DL.gIsi, DL.gLen, DL.gAbs, DL.gInt, DL.max_int, DL.min_int, DL.gList, DL.gTuple, DL.gAdd, DL.gSub, DL.gMul, DL.gFdiv, DL.gMod, DL.gPow, DL.gNeg, DL.gCmp, DL.gLt, DL.eq_int, DL.ne_int, DL.gIx, DL.gRev, DL.gSl, DL.slc, DL.noP, DL.someP, DL.gIsN, DL.gNotN, DL.isNonD, DL.seqX, DL.seqD, DL.itQ, DL.itR1, DL.itR2, DL.call, DL.noErr, DL.callF, DL.argsD, DL.ioSl, DL.rdSl, DL.mineAt, DL.nodupB, DL.leakSl, DL.putIo, DL.lookN, DL.putAt, DL.reTop, DL.topAt, DL.putTop, DL.apnd, DL.stoL, DL.stoT, DL.par2, DL.put2, DL.par3, DL.put3, DL.tgN, DL.tgTup, DL.tgCons, DL.tgNil, DL.forS, DL.wipeE, DL.restE, DL.yesT, DL.lcStep, DL.mutL, DL.gInsert, DL.raiseS, DL.nop, DL.brk, DL.cont, DL.ite_out, List.map_cons, List.map_nil, List.zip_cons_cons, List.zip_nil_right, List.zip_nil_left, List.length_cons, List.length_nil, List.cons_append, List.nil_append, List.replicate_succ, List.replicate_zero, List.getElem?_cons_zero, List.getElem?_cons_succ, List.getElem?_nil, List.set_cons_zero, List.set_cons_succ, List.all_cons, List.all_nil, List.isEmpty_nil, List.isEmpty_cons, List.contains_nil, List.contains_cons, List.elem_nil, Bool.false_eq_true, if_true, if_false, ite_true, ite_false, reduceIte, Bool.and_true, Bool.true_and, Bool.and_false, Bool.false_and, Bool.or_true, Bool.true_or, Bool.or_false, Bool.false_or, Bool.not_true, Bool.not_false, Option.bind_some, Option.bind_none, Option.map_some, Option.map_none, Nat.reduceAdd, Nat.reduceSub, Nat.reduceEqDiff, Nat.reduceLeDiff, Nat.zero_add, decide_true, decide_false, beq_self_eq_true, String.reduceBEq, String.reduceEq, reduceCtorEq, Int.reduceNeg, Int.reduceLT, Int.reduceLE, Int.reduceAdd, Int.reduceSub, Int.reduceMul, Int.reduceEq, Int.reduceBEq, Int.natCast_zero, Int.natCast_one, Int.cast_ofNat_Int, DL.atI_0, DL.atI_1, DL.atI_2, DL.atI_3, DL.atI_4, DL.atI_5, DL.atI_6, DL.cut_tail, DL.cut5_02, DL.cut5_24, List.take_succ_cons, List.take_zero, List.take_nil, List.drop_succ_cons, List.drop_zero, List.drop_nil, Int.toNat_natCast, Int.reduceToNat, Int.reducePow, Nat.reducePow, Nat.reduceMul, and_self, and_true, true_and, List.length_map, List.map_map, decide_eq_true_eq]) fun d hd => ?_).trans rfl
    rw [← List.map_reverse] at hd
    obtain ⟨l, hl, rfl⟩ := List.mem_map.mp hd
    simp only [DL.runF, DL.startE, DL.endF, DL.outsOf, DL.seqS, DL.ifS, DL.retS, DL.retN, DL.drop, DL.noList, DL.noLists, DL.noListTop, DL.asg, DL.asgT, DL.toSl, DL.setSl, DL.leak1, DL.leaks, bnd, DL.bndS, DL.evVar, DL.evC, DL.res, DL.resS, DL.bin2, DL.un1, DL.app1, DL.app2, DL.callB, DL.appA, DL.pinO, DL.nilA, DL.consA, DL.mkT, DL.mkL, DL.tst, DL.truth, DL.truthD, DL.andT, DL.orT, DL.notT, DL.andV, DL.orV, DL.notV, DL.ifE, DL.ifT, DL.chain, DL.isi, DL.gIsi, DL.gLen, DL.gAbs, DL.gInt, DL.max_int, DL.min_int, DL.gList, DL.gTuple, DL.gAdd, DL.gSub, DL.gMul, DL.gFdiv, DL.gMod, DL.gPow, DL.gNeg, DL.gCmp, DL.gLt, DL.eq_int, DL.ne_int, DL.gIx, DL.gRev, DL.gSl, DL.slc, DL.noP, DL.someP, DL.gIsN, DL.gNotN, DL.isNonD, DL.seqX, DL.seqD, DL.itQ, DL.itR1, DL.itR2, DL.call, DL.noErr, DL.callF, DL.argsD, DL.ioSl, DL.rdSl, DL.mineAt, DL.nodupB, DL.leakSl, DL.putIo, DL.lookN, DL.putAt, DL.reTop, DL.topAt, DL.putTop, DL.apnd, DL.stoL, DL.stoT, DL.par2, DL.put2, DL.par3, DL.put3, DL.tgN, DL.tgTup, DL.tgCons, DL.tgNil, DL.forS, DL.wipeE, DL.restE, DL.yesT, DL.lcStep, DL.mutL, DL.gInsert, DL.raiseS, DL.nop, DL.brk, DL.cont, DL.ite_out, List.map_cons, List.map_nil, List.zip_cons_cons, List.zip_nil_right, List.zip_nil_left, List.length_cons, List.length_nil, List.cons_append, List.nil_append, List.replicate_succ, List.replicate_zero, List.getElem?_cons_zero, List.getElem?_cons_succ, List.getElem?_nil, List.set_cons_zero, List.set_cons_succ, List.all_cons, List.all_nil, List.isEmpty_nil, List.isEmpty_cons, List.contains_nil, List.contains_cons, List.elem_nil, Bool.false_eq_true, if_true, if_false, ite_true, ite_false, reduceIte, Bool.and_true, Bool.true_and, Bool.and_false, Bool.false_and, Bool.or_true, Bool.true_or, Bool.or_false, Bool.false_or, Bool.not_true, Bool.not_false, Option.bind_some, Option.bind_none, Option.map_some, Option.map_none, Nat.reduceAdd, Nat.reduceSub, Nat.reduceEqDiff, Nat.reduceLeDiff, Nat.zero_add, decide_true, decide_false, beq_self_eq_true, String.reduceBEq, String.reduceEq, reduceCtorEq, Int.reduceNeg, Int.reduceLT, Int.reduceLE, Int.reduceAdd, Int.reduceSub, Int.reduceMul, Int.reduceEq, Int.reduceBEq, Int.natCast_zero, Int.natCast_one, Int.cast_ofNat_Int, DL.atI_0, DL.atI_1, DL.atI_2, DL.atI_3, DL.atI_4, DL.atI_5, DL.atI_6, DL.cut_tail, DL.cut5_02, DL.cut5_24, List.take_succ_cons, List.take_zero, List.take_nil, List.drop_succ_cons, List.drop_zero, List.drop_nil, Int.toNat_natCast, Int.reduceToNat, Int.reducePow, Nat.reducePow, Nat.reduceMul, and_self, and_true, true_and, List.length_map, List.map_map, decide_eq_true_eq, ngD]
  unfold g_law_back m_law_back
  generalize (w.reverse.map fun l => -l) = ns at hc ⊢
  simp only [DL.runF, DL.startE, DL.endF, DL.outsOf, DL.seqS, DL.ifS, DL.retS, DL.retN, DL.drop, DL.noList, DL.noLists, DL.noListTop, DL.asg, DL.asgT, DL.toSl, DL.setSl, DL.leak1, DL.leaks, bnd, DL.bndS, DL.evVar, DL.evC, DL.res, DL.resS, DL.bin2, DL.un1, DL.app1, DL.app2, DL.callB, DL.appA, DL.pinO, DL.nilA, DL.consA, DL.mkT, DL.mkL, DL.tst, DL.truth, DL.truthD, DL.andT, DL.orT, DL.notT, DL.andV, DL.orV, DL.notV, DL.ifE, DL.ifT, DL.chain, DL.isi, DL.gIsi, DL.gLen, DL.gAbs, DL.gInt, DL.max_int, DL.min_int, DL.gList, DL.gTuple, DL.gAdd, DL.gSub, DL.gMul, DL.gFdiv, DL.gMod, DL.gPow, DL.gNeg, DL.gCmp, DL.gLt, DL.eq_int, DL.ne_int, DL.gIx, DL.gRev, DL.gSl, DL.slc, DL.noP, DL.someP, DL.gIsN, DL.gNotN, DL.isNonD, DL.seqX, DL.seqD, DL.itQ, DL.itR1, DL.itR2, DL.call, DL.noErr, DL.callF, DL.argsD, DL.ioSl, DL.rdSl, DL.mineAt, DL.nodupB, DL.leakSl, DL.putIo, DL.lookN, DL.putAt, DL.reTop, DL.topAt, DL.putTop, DL.apnd, DL.stoL, DL.stoT, DL.par2, DL.put2, DL.par3, DL.put3, DL.tgN, DL.tgTup, DL.tgCons, DL.tgNil, DL.forS, DL.wipeE, DL.restE, DL.yesT, DL.lcStep, DL.mutL, DL.gInsert, DL.raiseS, DL.nop, DL.brk, DL.cont, DL.ite_out, List.map_cons, List.map_nil, List.zip_cons_cons, List.zip_nil_right, List.zip_nil_left, List.length_cons, List.length_nil, List.cons_append, List.nil_append, List.replicate_succ, List.replicate_zero, List.getElem?_cons_zero, List.getElem?_cons_succ, List.getElem?_nil, List.set_cons_zero, List.set_cons_succ, List.all_cons, List.all_nil, List.isEmpty_nil, List.isEmpty_cons, List.contains_nil, List.contains_cons, List.elem_nil, Bool.false_eq_true, if_true, if_false, ite_true, ite_false, reduceIte, Bool.and_true, Bool.true_and, Bool.and_false, Bool.false_and, Bool.or_true, Bool.true_or, Bool.or_false, Bool.false_or, Bool.not_true, Bool.not_false, Option.bind_some, Option.bind_none, Option.map_some, Option.map_none, Nat.reduceAdd, Nat.reduceSub, Nat.reduceEqDiff, Nat.reduceLeDiff, Nat.zero_add, decide_true, decide_false, beq_self_eq_true, String.reduceBEq, String.reduceEq, reduceCtorEq, Int.reduceNeg, Int.reduceLT, Int.reduceLE, Int.reduceAdd, Int.reduceSub, Int.reduceMul, Int.reduceEq, Int.reduceBEq, Int.natCast_zero, Int.natCast_one, Int.cast_ofNat_Int, DL.atI_0, DL.atI_1, DL.atI_2, DL.atI_3, DL.atI_4, DL.atI_5, DL.atI_6, DL.cut_tail, DL.cut5_02, DL.cut5_24, List.take_succ_cons, List.take_zero, List.take_nil, List.drop_succ_cons, List.drop_zero, List.drop_nil, Int.toNat_natCast, Int.reduceToNat, Int.reducePow, Nat.reducePow, Nat.reduceMul, and_self, and_true, true_and, List.length_map, List.map_map, decide_eq_true_eq, hc]
theorem law_sum_ok (M : D) (w : List Int) (x y : Sl) : c_law_right_1 [.val M, .val (encW w), x, y, .no] = .ok (.f (.lst ((w.map sgn).map D.int))) [.val M, .val (encW w), x, y, .no] := by
  unfold c_law_right_1
  rw [← map_sgD]
  refine (lc_map (ds := w.map D.int) (e1 := [.val M, .val (encW w), x, y, .no]) sgD (by simp only [DL.runF, DL.startE, DL.endF, DL.outsOf, DL.seqS, DL.ifS, DL.retS, DL.retN, DL.drop, DL.noList, DL.noLists, DL.noListTop, DL.asg, DL.asgT, DL.toSl, DL.setSl, DL.leak1, DL.leaks, bnd, DL.bndS, DL.evVar, DL.evC, DL.res, DL.resS, DL.bin2, DL.un1, DL.app1, DL.app2, DL.callB, DL.appA, DL.pinO, DL.nilA, DL.consA, DL.mkT, DL.mkL, DL.tst, DL.truth, DL.truthD, DL.andT, DL.orT, DL.notT, DL.andV, DL.orV, DL.notV, DL.ifE, DL.ifT, DL.chain, DL.isi, DL.gIsi, DL.gLen, DL.gAbs, DL.gInt, DL.max_int, DL.min_int, DL.gList, DL.gTuple, DL.gAdd, DL.gSub, DL.gMul, DL.gFdiv, DL.gMod, DL.gPow, DL.gNeg, DL.gCmp, DL.gLt, DL.eq_int, DL.ne_int, DL.gIx, DL.gRev, DL.gSl, DL.slc, DL.noP, DL.someP, DL.gIsN, DL.gNotN, DL.isNonD, DL.seqX, DL.seqD, DL.itQ, DL.itR1, DL.itR2, DL.call, DL.noErr, DL.callF, DL.argsD, DL.ioSl, DL.rdSl, DL.mineAt, DL.nodupB, DL.leakSl, DL.putIo, DL.lookN, DL.putAt, DL.reTop, DL.topAt, DL.putTop, DL.apnd, DL.stoL, DL.stoT, DL.par2, DL.put2, DL.par3, DL.put3, DL.tgN, DL.tgTup, DL.tgCons, DL.tgNil, DL.forS, DL.wipeE, DL.restE, DL.yesT, DL.lcStep, DL.mutL, DL.gInsert, DL.raiseS, DL.nop, DL.brk, DL.cont, DL.ite_out, List.map_cons, List.map_nil, List.zip_cons_cons, List.zip_nil_right, List.zip_nil_left, List.length_cons, List.length_nil, List.cons_append, List.nil_append, List.replicate_succ, List.replicate_zero, List.getElem?_cons_zero, List.getElem?_cons_succ, List.getElem?_nil, List.set_cons_zero, List.set_cons_succ, List.all_cons, List.all_nil, List.isEmpty_nil, List.isEmpty_cons, List.contains_nil, List.contains_cons, List.elem_nil, Bool.false_eq_true, if_true, if_false, ite_true, ite_false, reduceIte, Bool.and_true, Bool.true_and, Bool.and_false, Bool.false_and, Bool.or_true, Bool.true_or, Bool.or_false, Bool.false_or, Bool.not_true, Bool.not_false, Option.bind_some, Option.bind_none, Option.map_some, Option.map_none, Nat.reduceAdd, Nat.reduceSub, Nat.reduceEqDiff, Nat.reduceLeDiff, Nat.zero_add, decide_true, decide_false, beq_self_eq_true, String.reduceBEq, String.reduceEq, reduceCtorEq, Int.reduceNeg, Int.reduceLT, Int.reduceLE, Int.reduceAdd, Int.reduceSub, Int.reduceMul, Int.reduceEq, Int.reduceBEq, Int.natCast_zero, Int.natCast_one, Int.cast_ofNat_Int, DL.atI_0, DL.atI_1, DL.atI_2, DL.atI_3, DL.atI_4, DL.atI_5, DL.atI_6, DL.cut_tail, DL.cut5_02, DL.cut5_24, List.take_succ_cons, List.take_zero, List.take_nil, List.drop_succ_cons, List.drop_zero, List.drop_nil, Int.toNat_natCast, Int.reduceToNat, Int.reducePow, Nat.reducePow, Nat.reduceMul, and_self, and_true, true_and, List.length_map, List.map_map, decide_eq_true_eq]) fun d hd => ?_).trans rfl
  obtain ⟨l, hl, rfl⟩ := List.mem_map.mp hd
  simp only [DL.runF, DL.startE, DL.endF, DL.outsOf, DL.seqS, DL.ifS, DL.retS, DL.retN, DL.drop, DL.noList, DL.noLists, DL.noListTop, DL.asg, DL.asgT, DL.toSl, DL.setSl, DL.leak1, DL.leaks, bnd, DL.bndS, DL.evVar, DL.evC, DL.res, DL.resS, DL.bin2, DL.un1, DL.app1, DL.app2, DL.callB, DL.appA, DL.pinO, DL.nilA, DL.consA, DL.mkT, DL.mkL, DL.tst, DL.truth, DL.truthD, DL.andT, DL.orT, DL.notT, DL.andV, DL.orV, DL.notV, DL.ifE, DL.ifT, DL.chain, DL.isi, DL.gIsi, DL.gLen, DL.gAbs, DL.gInt, DL.max_int, DL.min_int, DL.gList, DL.gTuple, DL.gAdd, DL.gSub, DL.gMul, DL.gFdiv, DL.gMod, DL.gPow, DL.gNeg, DL.gCmp, DL.gLt, DL.eq_int, DL.ne_int, DL.gIx, DL.gRev, DL.gSl, DL.slc, DL.noP, DL.someP, DL.gIsN, DL.gNotN, DL.isNonD, DL.seqX, DL.seqD, DL.itQ, DL.itR1, DL.itR2, DL.call, DL.noErr, DL.callF, DL.argsD, DL.ioSl, DL.rdSl, DL.mineAt, DL.nodupB, DL.leakSl, DL.putIo, DL.lookN, DL.putAt, DL.reTop, DL.topAt, DL.putTop, DL.apnd, DL.stoL, DL.stoT, DL.par2, DL.put2, DL.par3, DL.put3, DL.tgN, DL.tgTup, DL.tgCons, DL.tgNil, DL.forS, DL.wipeE, DL.restE, DL.yesT, DL.lcStep, DL.mutL, DL.gInsert, DL.raiseS, DL.nop, DL.brk, DL.cont, DL.ite_out, List.map_cons, List.map_nil, List.zip_cons_cons, List.zip_nil_right, List.zip_nil_left, List.length_cons, List.length_nil, List.cons_append, List.nil_append, List.replicate_succ, List.replicate_zero, List.getElem?_cons_zero, List.getElem?_cons_succ, List.getElem?_nil, List.set_cons_zero, List.set_cons_succ, List.all_cons, List.all_nil, List.isEmpty_nil, List.isEmpty_cons, List.contains_nil, List.contains_cons, List.elem_nil, Bool.false_eq_true, if_true, if_false, ite_true, ite_false, reduceIte, Bool.and_true, Bool.true_and, Bool.and_false, Bool.false_and, Bool.or_true, Bool.true_or, Bool.or_false, Bool.false_or, Bool.not_true, Bool.not_false, Option.bind_some, Option.bind_none, Option.map_some, Option.map_none, Nat.reduceAdd, Nat.reduceSub, Nat.reduceEqDiff, Nat.reduceLeDiff, Nat.zero_add, decide_true, decide_false, beq_self_eq_true, String.reduceBEq, String.reduceEq, reduceCtorEq, Int.reduceNeg, Int.reduceLT, Int.reduceLE, Int.reduceAdd, Int.reduceSub, Int.reduceMul, Int.reduceEq, Int.reduceBEq, Int.natCast_zero, Int.natCast_one, Int.cast_ofNat_Int, DL.atI_0, DL.atI_1, DL.atI_2, DL.atI_3, DL.atI_4, DL.atI_5, DL.atI_6, DL.cut_tail, DL.cut5_02, DL.cut5_24, List.take_succ_cons, List.take_zero, List.take_nil, List.drop_succ_cons, List.drop_zero, List.drop_nil, Int.toNat_natCast, Int.reduceToNat, Int.reducePow, Nat.reducePow, Nat.reduceMul, and_self, and_true, true_and, List.length_map, List.map_map, decide_eq_true_eq, law_sign_eq, sgD]
abbrev Tb := List ((Int × Int) × Int)
def ksA (A : Tb) : List (List Key) := A.map fun x => [.inl x.1.1, .inl x.1.2]
def dsA (A : Tb) : List D := A.map fun x => .int x.2
def lookA : Tb → Int × Int → Option Int
  | [], _ => none
  | (q, v) :: A, p => if q = p then some v else lookA A p
def replA (A : Tb) (p : Int × Int) (v : Int) : Tb := A.map fun x => (x.1, if x.1 = p then v else x.2)
def putA (A : Tb) (p : Int × Int) (v : Int) : Tb := match lookA A p with
  | some _ => replA A p v
  | none => A ++ [(p, v)]
theorem key_eq (q p : Int × Int) : (([.inl q.1, .inl q.2] : List Key) = [.inl p.1, .inl p.2]) ↔ q = p := by
  constructor
  · intro h
    simp only [List.cons.injEq, Sum.inl.injEq, and_true] at h
    exact Prod.ext h.1 h.2
  · rintro rfl; rfl
theorem look_A : ∀ (A : Tb) (p : Int × Int), lookZ (ksA A) (dsA A) [.inl p.1, .inl p.2] = (lookA A p).map D.int
  | [], p => rfl
  | (q, v) :: A, p => by
    show (if ([.inl q.1, .inl q.2] : List Key) = [.inl p.1, .inl p.2] then some (D.int v) else lookZ (ksA A) (dsA A) [.inl p.1, .inl p.2]) = _
    unfold lookA
    by_cases h : q = p
    · rw [if_pos ((key_eq q p).mpr h), if_pos h]; rfl
    · rw [if_neg (fun z => h ((key_eq q p).mp z)), if_neg h, look_A A p]
theorem repl_A : ∀ (A : Tb) (p : Int × Int) (v : Int), replZ (ksA A) (dsA A) [.inl p.1, .inl p.2] (.int v) = dsA (replA A p v)
  | [], p, v => rfl
  | (q, u) :: A, p, v => by
    show (if ([.inl q.1, .inl q.2] : List Key) = [.inl p.1, .inl p.2] then D.int v else D.int u) :: replZ (ksA A) (dsA A) [.inl p.1, .inl p.2] (.int v) = D.int (if q = p then v else u) :: dsA (replA A p v)
    rw [repl_A A p v]
    by_cases h : q = p
    · rw [if_pos ((key_eq q p).mpr h), if_pos h]
    · rw [if_neg (fun z => h ((key_eq q p).mp z)), if_neg h]
theorem ks_repl (A : Tb) (p : Int × Int) (v : Int) : ksA (replA A p v) = ksA A := by
  unfold ksA replA
  rw [List.map_map]; rfl
theorem put_A (A : Tb) (p : Int × Int) (v : Int) : putZ (ksA A) (dsA A) [.inl p.1, .inl p.2] (.int v) = (ksA (putA A p v), dsA (putA A p v)) := by
  unfold putZ putA
  rw [look_A]
  cases h : lookA A p with
  | some u => rw [Option.map_some]; show (_, _) = _; rw [repl_A, ks_repl]
  | none => rw [Option.map_none]; simp [ksA, dsA]
theorem pairKs_A : ∀ A : Tb, pairKs (ksA A) = some (A.map (·.1))
  | [] => rfl
  | x :: A => by
    show (pairKs (ksA A)).map ((x.1.1, x.1.2) :: ·) = _
    rw [pairKs_A A]; rfl
def keyH (h : List Int) (a : Nat) : Int × Int := (mn (h.getD a 0) (h.getD (a + 1) 0), mx (h.getD a 0) (h.getD (a + 1) 0))
def tot (A : Tb) (p : Int × Int) : Int := (lookA A p).getD 0
theorem wind_core (M W : D) (h : List Int) (T : Tb) (l A x y : Int) (a : Nat) (p : Int × Int) (ks ks' : List (List Key)) (ds ds' : List D) (t : Int) (hl : (if l < 0 then -l else l) - 1 = A)
    (e1 : atI (h.map D.int) A = some (.int x)) (e2 : atI (h.map D.int) (A + 1) = some (.int y)) (hp : (mn x y, mx x y) = p)
    (i1 : ixN h.length A = some a) (i2 : ixN h.length (A + 1) = some (a + 1))
    (hz : ks.length < 16777216) (hk : (lookZ ks ds [.inl p.1, .inl p.2] = none ∧ t = 0) ∨ lookZ ks ds [.inl p.1, .inl p.2] = some (.int t)) (hq : putZ ks ds [.inl p.1, .inl p.2] (.int (t + sgn l)) = (ks', ds')) (u v : Sl) (hu : NV u) (hv : NV v) :
    b_windings_1 [.val M, .val W, .own (.lst (h.map D.int)), .own (.dt ks ds), .val (.int l), u, v] =
      .nx [.val M, .val W, .own (.lst (((h.map D.int).set a (.int y)).set (a + 1) (.int x))), .own (.dt ks' ds'), .val (.int l), .val (.int A), .val (.tup [.int p.1, .int p.2])] := by
  subst hp
  unfold b_windings_1
  rcases hk with ⟨hk, rfl⟩ | hk <;> rcases hu with rfl | ⟨_, rfl⟩ <;> rcases hv with rfl | ⟨_, rfl⟩ <;> simp only [DL.runF, DL.startE, DL.endF, DL.outsOf, DL.seqS, DL.ifS, DL.retS, DL.retN, DL.drop, DL.noList, DL.noLists, DL.noListTop, DL.asg, DL.asgT, DL.toSl, DL.setSl, DL.leak1, DL.leaks, bnd, DL.bndS, DL.evVar, DL.evC, DL.res, DL.resS, DL.bin2, DL.un1, DL.app1, DL.app2, DL.callB, DL.appA, DL.pinO, DL.nilA, DL.consA, DL.mkT, DL.mkL, DL.tst, DL.truth, DL.truthD, DL.andT, DL.orT, DL.notT, DL.andV, DL.orV, DL.notV, DL.ifE, DL.ifT, DL.chain, DL.isi, DL.gIsi, DL.gLen, DL.gAbs, DL.gInt, DL.max_int, DL.min_int, DL.gList, DL.gTuple, DL.gAdd, DL.gSub, DL.gMul, DL.gFdiv, DL.gMod, DL.gPow, DL.gNeg, DL.gCmp, DL.gLt, DL.eq_int, DL.ne_int, DL.gIx, DL.gRev, DL.gSl, DL.slc, DL.noP, DL.someP, DL.gIsN, DL.gNotN, DL.isNonD, DL.seqX, DL.seqD, DL.itQ, DL.itR1, DL.itR2, DL.call, DL.noErr, DL.callF, DL.argsD, DL.ioSl, DL.rdSl, DL.mineAt, DL.nodupB, DL.leakSl, DL.putIo, DL.lookN, DL.putAt, DL.reTop, DL.topAt, DL.putTop, DL.apnd, DL.stoL, DL.stoT, DL.par2, DL.put2, DL.par3, DL.put3, DL.tgN, DL.tgTup, DL.tgCons, DL.tgNil, DL.forS, DL.wipeE, DL.restE, DL.yesT, DL.lcStep, DL.mutL, DL.gInsert, DL.raiseS, DL.nop, DL.brk, DL.cont, DL.ite_out, List.map_cons, List.map_nil, List.zip_cons_cons, List.zip_nil_right, List.zip_nil_left, List.length_cons, List.length_nil, List.cons_append, List.nil_append, List.replicate_succ, List.replicate_zero, List.getElem?_cons_zero, List.getElem?_cons_succ, List.getElem?_nil, List.set_cons_zero, List.set_cons_succ, List.all_cons, List.all_nil, List.isEmpty_nil, List.isEmpty_cons, List.contains_nil, List.contains_cons, List.elem_nil, Bool.false_eq_true, if_true, if_false, ite_true, ite_false, reduceIte, Bool.and_true, Bool.true_and, Bool.and_false, Bool.false_and, Bool.or_true, Bool.true_or, Bool.or_false, Bool.false_or, Bool.not_true, Bool.not_false, Option.bind_some, Option.bind_none, Option.map_some, Option.map_none, Nat.reduceAdd, Nat.reduceSub, Nat.reduceEqDiff, Nat.reduceLeDiff, Nat.zero_add, decide_true, decide_false, beq_self_eq_true, String.reduceBEq, String.reduceEq, reduceCtorEq, Int.reduceNeg, Int.reduceLT, Int.reduceLE, Int.reduceAdd, Int.reduceSub, Int.reduceMul, Int.reduceEq, Int.reduceBEq, Int.natCast_zero, Int.natCast_one, Int.cast_ofNat_Int, DL.atI_0, DL.atI_1, DL.atI_2, DL.atI_3, DL.atI_4, DL.atI_5, DL.atI_6, DL.cut_tail, DL.cut5_02, DL.cut5_24, List.take_succ_cons, List.take_zero, List.take_nil, List.drop_succ_cons, List.drop_zero, List.drop_nil, Int.toNat_natCast, Int.reduceToNat, Int.reducePow, Nat.reducePow, Nat.reduceMul, and_self, and_true, true_and, List.length_map, List.map_map, decide_eq_true_eq, DL.gIx2, DL.stoL2, DL.stoT2, DL.putY, DL.putYT, DL.lookD, DL.keyOf, DL.keysOf, DL.ixV, DL.ixF, DL.getV, DL.getF, DL.dictAt, DL.lookO, DL.isDk, DL.dispK, DL.pairA, DL.keyPairs, DL.mergeZ, DL.gDictP, DL.pairsOf, DL.lockD, DL.lockM, DL.notLst, DL.noFz, DL.itK, DL.keyD, DL.mvS, DL.sto2, DL.sto2.noListO, DL.gSorted2, DL.newK, DL.newT, DL.lstR, DL.rgE, DL.rgK, DL.rgD, hl, e1, e2, i1, i2, List.length_set, noList, hz, hk, hq, sign_of_eq]
end K34

set_option maxRecDepth 100000
set_option maxHeartbeats 4000000
namespace K34
open PySem PySem.Spec L2 DL
open PyProof.Rows hiding St
open DL (Env)
def wndH : List Int → Tb → List Int → Tb
  | _, A, [] => A
  | h, A, l :: w => wndH (swp h (l.natAbs - 1)) (putA A (keyH h (l.natAbs - 1)) (tot A (keyH h (l.natAbs - 1)) + sgn l)) w
theorem putA_len (A : Tb) (p : Int × Int) (v : Int) : (putA A p v).length ≤ A.length + 1 := by
  unfold putA
  split
  · unfold replA; rw [List.length_map]; omega
  · simp
theorem ksA_len (A : Tb) : (ksA A).length = A.length := by simp [ksA]
theorem swp_map (h : List Int) (a : Nat) : ((h.map D.int).set a (.int (h.getD (a + 1) 0))).set (a + 1) (.int (h.getD a 0)) = (swp h a).map D.int := by
  simp only [swp, List.map_set]
theorem wind_body (M W : D) (h : List Int) (T : Tb) (l : Int) (l0 : l ≠ 0) (a : Nat) (ha : l.natAbs - 1 = a) (H : a + 1 < h.length) (hz : T.length < 16777216) (u v : Sl) (hu : NV u) (hv : NV v) :
    ∃ u' v', NV u' ∧ NV v' ∧ b_windings_1 [.val M, .val W, .own (.lst (h.map D.int)), .own (.dt (ksA T) (dsA T)), .val (.int l), u, v] =
      .nx [.val M, .val W, .own (.lst ((swp h a).map D.int)), .own (.dt (ksA (putA T (keyH h a) (tot T (keyH h a) + sgn l))) (dsA (putA T (keyH h a) (tot T (keyH h a) + sgn l)))), .val (.int l), u', v'] := by
  have hk : (lookZ (ksA T) (dsA T) [.inl (keyH h a).1, .inl (keyH h a).2] = none ∧ tot T (keyH h a) = 0) ∨ lookZ (ksA T) (dsA T) [.inl (keyH h a).1, .inl (keyH h a).2] = some (.int (tot T (keyH h a))) := by
    rw [look_A]
    unfold tot
    cases lookA T (keyH h a) with
    | none => exact .inl ⟨rfl, rfl⟩
    | some x => exact .inr rfl
  have hb := wind_core M W h T l ((a : Nat) : Int) _ _ a (keyH h a) (ksA T) _ (dsA T) _ (tot T (keyH h a)) (by rw [fit_abs l0, ha]) (at_map rfl (by omega)) (at_map (by omega) H) rfl (ixN_nat (by omega)) (ixN_nat H) (by rw [ksA_len]; exact hz) hk (put_A T (keyH h a) (tot T (keyH h a) + sgn l)) u v hu hv
  rw [swp_map] at hb
  exact ⟨_, _, .inr ⟨_, rfl⟩, .inr ⟨_, rfl⟩, hb⟩
theorem wind_loop (M W : D) : ∀ (w h : List Int) (T : Tb) (x y z : Sl), Fit h.length w → T.length + w.length < 16777216 → NV x → NV y → NV z → ∃ x' y' z', NV x' ∧ NV y' ∧ NV z' ∧
    forL (tgN 4) b_windings_1 (w.map D.int) [.val M, .val W, .own (.lst (h.map D.int)), .own (.dt (ksA T) (dsA T)), x, y, z] = .nx [.val M, .val W, .own (.lst ((hng h w).map D.int)), .own (.dt (ksA (wndH h T w)) (dsA (wndH h T w))), x', y', z']
  | [], h, T, x, y, z, hf, hz, hx, hy, hw => ⟨x, y, z, hx, hy, hw, rfl⟩
  | l :: w, h, T, x, y, z, hf, hz, hx, hy, hw => by
    obtain ⟨l0, l1⟩ := hf l List.mem_cons_self
    simp only [List.length_cons] at hz
    obtain ⟨u', v', hu, hv, hb⟩ := wind_body M W h T l l0 _ rfl (by omega) (by omega) y z hy hw
    have hg : tgN 4 (.int l) [.val M, .val W, .own (.lst (h.map D.int)), .own (.dt (ksA T) (dsA T)), x, y, z] = some [.val M, .val W, .own (.lst (h.map D.int)), .own (.dt (ksA T) (dsA T)), .val (.int l), y, z] := by rcases hx with rfl | ⟨d, rfl⟩ <;> rfl
    rw [List.map_cons, forL_nx hg hb]
    have hq := putA_len T (keyH h (l.natAbs - 1)) (tot T (keyH h (l.natAbs - 1)) + sgn l)
    exact wind_loop M W w _ _ _ _ _ (by rw [swp_len]; exact fun l hl => hf l (List.mem_cons_of_mem _ hl)) (by omega) (.inr ⟨_, rfl⟩) hu hv
theorem look_mem : ∀ {A : Tb} {p : Int × Int}, p ∈ A.map (·.1) → lookA A p = some (tot A p)
  | [], p, h => by cases h
  | (q, v) :: A, p, h => by
    by_cases e : q = p
    · unfold tot lookA; rw [if_pos e]; rfl
    · have : p ∈ A.map (·.1) := by
        rcases List.mem_cons.mp h with h | h
        · exact absurd h.symm e
        · exact h
      have r := look_mem this
      have e1 : lookA ((q, v) :: A) p = lookA A p := by
        show (if q = p then some v else lookA A p) = _
        rw [if_neg e]
      unfold tot
      rw [e1, r]; rfl
def tri (t : Int) (p : Int × Int) : Option D := cond (t == 0) none (some (.tup [.int p.1, .int p.2, .int t]))
def triD (A : Tb) (d : D) : Option D := match d with
  | .tup [.int i, .int j] => tri (tot A (i, j)) (i, j)
  | _ => none
theorem tri_step (M W H : D) (ks : List (List Key)) (ds : List D) (x y : Sl) (i j t : Int) (h : lookZ ks ds [.inl i, .inl j] = some (.int t)) :
    lcStep (tgN 6) (tst (bin2 g_ne (ixV 3 (evVar 6)) (evC (.int 0)))) (bin2 gAdd (evVar 6) (mkT (consA (ixV 3 (evVar 6)) (nilA)))) [6] (.tup [.int i, .int j]) [.val M, .val W, .own H, .own (.dt ks ds), x, y, .no] = .ok (tri t (i, j)) [.val M, .val W, .own H, .own (.dt ks ds), x, y, .no] := by
  unfold tri
  cases ht : (t == 0) <;> simp only [DL.runF, DL.startE, DL.endF, DL.outsOf, DL.seqS, DL.ifS, DL.retS, DL.retN, DL.drop, DL.noList, DL.noLists, DL.noListTop, DL.asg, DL.asgT, DL.toSl, DL.setSl, DL.leak1, DL.leaks, bnd, DL.bndS, DL.evVar, DL.evC, DL.res, DL.resS, DL.bin2, DL.un1, DL.app1, DL.app2, DL.callB, DL.appA, DL.pinO, DL.nilA, DL.consA, DL.mkT, DL.mkL, DL.tst, DL.truth, DL.truthD, DL.andT, DL.orT, DL.notT, DL.andV, DL.orV, DL.notV, DL.ifE, DL.ifT, DL.chain, DL.isi, DL.gIsi, DL.gLen, DL.gAbs, DL.gInt, DL.max_int, DL.min_int, DL.gList, DL.gTuple, DL.gAdd, DL.gSub, DL.gMul, DL.gFdiv, DL.gMod, DL.gPow, DL.gNeg, DL.gCmp, DL.gLt, DL.eq_int, DL.ne_int, DL.gIx, DL.gRev, DL.gSl, DL.slc, DL.noP, DL.someP, DL.gIsN, DL.gNotN, DL.isNonD, DL.seqX, DL.seqD, DL.itQ, DL.itR1, DL.itR2, DL.call, DL.noErr, DL.callF, DL.argsD, DL.ioSl, DL.rdSl, DL.mineAt, DL.nodupB, DL.leakSl, DL.putIo, DL.lookN, DL.putAt, DL.reTop, DL.topAt, DL.putTop, DL.apnd, DL.stoL, DL.stoT, DL.par2, DL.put2, DL.par3, DL.put3, DL.tgN, DL.tgTup, DL.tgCons, DL.tgNil, DL.forS, DL.wipeE, DL.restE, DL.yesT, DL.lcStep, DL.mutL, DL.gInsert, DL.raiseS, DL.nop, DL.brk, DL.cont, DL.ite_out, List.map_cons, List.map_nil, List.zip_cons_cons, List.zip_nil_right, List.zip_nil_left, List.length_cons, List.length_nil, List.cons_append, List.nil_append, List.replicate_succ, List.replicate_zero, List.getElem?_cons_zero, List.getElem?_cons_succ, List.getElem?_nil, List.set_cons_zero, List.set_cons_succ, List.all_cons, List.all_nil, List.isEmpty_nil, List.isEmpty_cons, List.contains_nil, List.contains_cons, List.elem_nil, Bool.false_eq_true, if_true, if_false, ite_true, ite_false, reduceIte, Bool.and_true, Bool.true_and, Bool.and_false, Bool.false_and, Bool.or_true, Bool.true_or, Bool.or_false, Bool.false_or, Bool.not_true, Bool.not_false, Option.bind_some, Option.bind_none, Option.map_some, Option.map_none, Nat.reduceAdd, Nat.reduceSub, Nat.reduceEqDiff, Nat.reduceLeDiff, Nat.zero_add, decide_true, decide_false, beq_self_eq_true, String.reduceBEq, String.reduceEq, reduceCtorEq, Int.reduceNeg, Int.reduceLT, Int.reduceLE, Int.reduceAdd, Int.reduceSub, Int.reduceMul, Int.reduceEq, Int.reduceBEq, Int.natCast_zero, Int.natCast_one, Int.cast_ofNat_Int, DL.atI_0, DL.atI_1, DL.atI_2, DL.atI_3, DL.atI_4, DL.atI_5, DL.atI_6, DL.cut_tail, DL.cut5_02, DL.cut5_24, List.take_succ_cons, List.take_zero, List.take_nil, List.drop_succ_cons, List.drop_zero, List.drop_nil, Int.toNat_natCast, Int.reduceToNat, Int.reducePow, Nat.reducePow, Nat.reduceMul, and_self, and_true, true_and, List.length_map, List.map_map, decide_eq_true_eq, DL.gIx2, DL.stoL2, DL.stoT2, DL.putY, DL.putYT, DL.lookD, DL.keyOf, DL.keysOf, DL.ixV, DL.ixF, DL.getV, DL.getF, DL.dictAt, DL.lookO, DL.isDk, DL.dispK, DL.pairA, DL.keyPairs, DL.mergeZ, DL.gDictP, DL.pairsOf, DL.lockD, DL.lockM, DL.notLst, DL.noFz, DL.itK, DL.keyD, DL.mvS, DL.sto2, DL.sto2.noListO, DL.gSorted2, DL.newK, DL.newT, DL.lstR, DL.rgE, DL.rgK, DL.rgD, h, ht, cond_true, cond_false]
theorem tri_list (A : Tb) (ps : List (Int × Int)) : (ps.map DL.prD).filterMap (triD A) = ps.filterMap fun p => tri (tot A p) p := by
  rw [List.filterMap_map]; rfl
theorem wind_tris (M W H : D) (A : Tb) (x y z : Sl) (hz : NV z) (hA : A.length < 16777216) :
    c_windings_1 [.val M, .val W, .own H, .own (.dt (ksA A) (dsA A)), x, y, z] = .ok (.f (.lst ((sortP (A.map (·.1))).filterMap fun p => tri (tot A p) p))) [.val M, .val W, .own H, .own (.dt (ksA A) (dsA A)), x, y, z] := by
  unfold c_windings_1
  rw [← tri_list]
  refine (lc_eq (ds := (sortP (A.map (·.1))).map DL.prD) (e1 := [.val M, .val W, .own H, .own (.dt (ksA A) (dsA A)), x, y, z]) (triD A) (by simp only [DL.runF, DL.startE, DL.endF, DL.outsOf, DL.seqS, DL.ifS, DL.retS, DL.retN, DL.drop, DL.noList, DL.noLists, DL.noListTop, DL.asg, DL.asgT, DL.toSl, DL.setSl, DL.leak1, DL.leaks, bnd, DL.bndS, DL.evVar, DL.evC, DL.res, DL.resS, DL.bin2, DL.un1, DL.app1, DL.app2, DL.callB, DL.appA, DL.pinO, DL.nilA, DL.consA, DL.mkT, DL.mkL, DL.tst, DL.truth, DL.truthD, DL.andT, DL.orT, DL.notT, DL.andV, DL.orV, DL.notV, DL.ifE, DL.ifT, DL.chain, DL.isi, DL.gIsi, DL.gLen, DL.gAbs, DL.gInt, DL.max_int, DL.min_int, DL.gList, DL.gTuple, DL.gAdd, DL.gSub, DL.gMul, DL.gFdiv, DL.gMod, DL.gPow, DL.gNeg, DL.gCmp, DL.gLt, DL.eq_int, DL.ne_int, DL.gIx, DL.gRev, DL.gSl, DL.slc, DL.noP, DL.someP, DL.gIsN, DL.gNotN, DL.isNonD, DL.seqX, DL.seqD, DL.itQ, DL.itR1, DL.itR2, DL.call, DL.noErr, DL.callF, DL.argsD, DL.ioSl, DL.rdSl, DL.mineAt, DL.nodupB, DL.leakSl, DL.putIo, DL.lookN, DL.putAt, DL.reTop, DL.topAt, DL.putTop, DL.apnd, DL.stoL, DL.stoT, DL.par2, DL.put2, DL.par3, DL.put3, DL.tgN, DL.tgTup, DL.tgCons, DL.tgNil, DL.forS, DL.wipeE, DL.restE, DL.yesT, DL.lcStep, DL.mutL, DL.gInsert, DL.raiseS, DL.nop, DL.brk, DL.cont, DL.ite_out, List.map_cons, List.map_nil, List.zip_cons_cons, List.zip_nil_right, List.zip_nil_left, List.length_cons, List.length_nil, List.cons_append, List.nil_append, List.replicate_succ, List.replicate_zero, List.getElem?_cons_zero, List.getElem?_cons_succ, List.getElem?_nil, List.set_cons_zero, List.set_cons_succ, List.all_cons, List.all_nil, List.isEmpty_nil, List.isEmpty_cons, List.contains_nil, List.contains_cons, List.elem_nil, Bool.false_eq_true, if_true, if_false, ite_true, ite_false, reduceIte, Bool.and_true, Bool.true_and, Bool.and_false, Bool.false_and, Bool.or_true, Bool.true_or, Bool.or_false, Bool.false_or, Bool.not_true, Bool.not_false, Option.bind_some, Option.bind_none, Option.map_some, Option.map_none, Nat.reduceAdd, Nat.reduceSub, Nat.reduceEqDiff, Nat.reduceLeDiff, Nat.zero_add, decide_true, decide_false, beq_self_eq_true, String.reduceBEq, String.reduceEq, reduceCtorEq, Int.reduceNeg, Int.reduceLT, Int.reduceLE, Int.reduceAdd, Int.reduceSub, Int.reduceMul, Int.reduceEq, Int.reduceBEq, Int.natCast_zero, Int.natCast_one, Int.cast_ofNat_Int, DL.atI_0, DL.atI_1, DL.atI_2, DL.atI_3, DL.atI_4, DL.atI_5, DL.atI_6, DL.cut_tail, DL.cut5_02, DL.cut5_24, List.take_succ_cons, List.take_zero, List.take_nil, List.drop_succ_cons, List.drop_zero, List.drop_nil, Int.toNat_natCast, Int.reduceToNat, Int.reducePow, Nat.reducePow, Nat.reduceMul, and_self, and_true, true_and, List.length_map, List.map_map, decide_eq_true_eq, DL.gIx2, DL.stoL2, DL.stoT2, DL.putY, DL.putYT, DL.lookD, DL.keyOf, DL.keysOf, DL.ixV, DL.ixF, DL.getV, DL.getF, DL.dictAt, DL.lookO, DL.isDk, DL.dispK, DL.pairA, DL.keyPairs, DL.mergeZ, DL.gDictP, DL.pairsOf, DL.lockD, DL.lockM, DL.notLst, DL.noFz, DL.itK, DL.keyD, DL.mvS, DL.sto2, DL.sto2.noListO, DL.gSorted2, DL.newK, DL.newT, DL.lstR, DL.rgE, DL.rgK, DL.rgD, pairKs_A]) fun d hd => ?_).trans ?_
  · obtain ⟨p, hp, rfl⟩ := List.mem_map.mp hd
    have hm := look_mem ((sortP_perm _).mem_iff.mp hp)
    exact tri_step M W H _ _ x y p.1 p.2 (tot A p) (by rw [look_A, hm]; rfl)
  · rcases hz with rfl | ⟨d, rfl⟩ <;> rfl
def wnd (n : Nat) (w : List Int) : Tb := wndH (lins n) [] w
theorem wndH_len : ∀ (w h : List Int) (T : Tb), (wndH h T w).length ≤ T.length + w.length
  | [], h, T => by simp [wndH]
  | l :: w, h, T => by
    have h1 := wndH_len w (swp h (l.natAbs - 1)) (putA T (keyH h (l.natAbs - 1)) (tot T (keyH h (l.natAbs - 1)) + sgn l))
    have h2 := putA_len T (keyH h (l.natAbs - 1)) (tot T (keyH h (l.natAbs - 1)) + sgn l)
    simp only [wndH, List.length_cons]
    omega
theorem windings_ok {m : Int} {w : List Int} (h : WOk m w) : g_windings [.int m, encW w] = .ok false (.tup ((sortP ((wnd m.toNat w).map (·.1))).filterMap fun p => tri (tot (wnd m.toNat w) p) p)) [] := by
  have e : (m + 1 - 1).toNat = m.toNat := by omega
  have m1 : mid 1 = true := rfl
  have m2 : mid (m + 1) = true := by
    have := h.m1; have := h.m2
    unfold mid; rw [decide_eq_true_eq]; omega
  have hn := h.n
  obtain ⟨x', y', z', hx, hy, hz, hl⟩ := wind_loop (.int m) (encW w) w (lins m.toNat) [] .no .no .no (by rw [lins_len]; exact h.fit) (by simp only [List.length_nil]; omega) (.inl rfl) (.inl rfl) (.inl rfl)
  have hl1 : l_windings_1 [.val (.int m), .val (encW w), .own (.lst ((lins m.toNat).map D.int)), .own (.dt [] []), .no, .no, .no] = .nx [.val (.int m), .val (encW w), .own (.lst ((hng (lins m.toNat) w).map D.int)), .own (.dt (ksA (wnd m.toNat w)) (dsA (wnd m.toNat w))), x', y', z'] := by
    unfold l_windings_1
    simp only [DL.runF, DL.startE, DL.endF, DL.outsOf, DL.seqS, DL.ifS, DL.retS, DL.retN, DL.drop, DL.noList, DL.noLists, DL.noListTop, DL.asg, DL.asgT, DL.toSl, DL.setSl, DL.leak1, DL.leaks, bnd, DL.bndS, DL.evVar, DL.evC, DL.res, DL.resS, DL.bin2, DL.un1, DL.app1, DL.app2, DL.callB, DL.appA, DL.pinO, DL.nilA, DL.consA, DL.mkT, DL.mkL, DL.tst, DL.truth, DL.truthD, DL.andT, DL.orT, DL.notT, DL.andV, DL.orV, DL.notV, DL.ifE, DL.ifT, DL.chain, DL.isi, DL.gIsi, DL.gLen, DL.gAbs, DL.gInt, DL.max_int, DL.min_int, DL.gList, DL.gTuple, DL.gAdd, DL.gSub, DL.gMul, DL.gFdiv, DL.gMod, DL.gPow, DL.gNeg, DL.gCmp, DL.gLt, DL.eq_int, DL.ne_int, DL.gIx, DL.gRev, DL.gSl, DL.slc, DL.noP, DL.someP, DL.gIsN, DL.gNotN, DL.isNonD, DL.seqX, DL.seqD, DL.itQ, DL.itR1, DL.itR2, DL.call, DL.noErr, DL.callF, DL.argsD, DL.ioSl, DL.rdSl, DL.mineAt, DL.nodupB, DL.leakSl, DL.putIo, DL.lookN, DL.putAt, DL.reTop, DL.topAt, DL.putTop, DL.apnd, DL.stoL, DL.stoT, DL.par2, DL.put2, DL.par3, DL.put3, DL.tgN, DL.tgTup, DL.tgCons, DL.tgNil, DL.forS, DL.wipeE, DL.restE, DL.yesT, DL.lcStep, DL.mutL, DL.gInsert, DL.raiseS, DL.nop, DL.brk, DL.cont, DL.ite_out, List.map_cons, List.map_nil, List.zip_cons_cons, List.zip_nil_right, List.zip_nil_left, List.length_cons, List.length_nil, List.cons_append, List.nil_append, List.replicate_succ, List.replicate_zero, List.getElem?_cons_zero, List.getElem?_cons_succ, List.getElem?_nil, List.set_cons_zero, List.set_cons_succ, List.all_cons, List.all_nil, List.isEmpty_nil, List.isEmpty_cons, List.contains_nil, List.contains_cons, List.elem_nil, Bool.false_eq_true, if_true, if_false, ite_true, ite_false, reduceIte, Bool.and_true, Bool.true_and, Bool.and_false, Bool.false_and, Bool.or_true, Bool.true_or, Bool.or_false, Bool.false_or, Bool.not_true, Bool.not_false, Option.bind_some, Option.bind_none, Option.map_some, Option.map_none, Nat.reduceAdd, Nat.reduceSub, Nat.reduceEqDiff, Nat.reduceLeDiff, Nat.zero_add, decide_true, decide_false, beq_self_eq_true, String.reduceBEq, String.reduceEq, reduceCtorEq, Int.reduceNeg, Int.reduceLT, Int.reduceLE, Int.reduceAdd, Int.reduceSub, Int.reduceMul, Int.reduceEq, Int.reduceBEq, Int.natCast_zero, Int.natCast_one, Int.cast_ofNat_Int, DL.atI_0, DL.atI_1, DL.atI_2, DL.atI_3, DL.atI_4, DL.atI_5, DL.atI_6, DL.cut_tail, DL.cut5_02, DL.cut5_24, List.take_succ_cons, List.take_zero, List.take_nil, List.drop_succ_cons, List.drop_zero, List.drop_nil, Int.toNat_natCast, Int.reduceToNat, Int.reducePow, Nat.reducePow, Nat.reduceMul, and_self, and_true, true_and, List.length_map, List.map_map, decide_eq_true_eq, DL.gIx2, DL.stoL2, DL.stoT2, DL.putY, DL.putYT, DL.lookD, DL.keyOf, DL.keysOf, DL.ixV, DL.ixF, DL.getV, DL.getF, DL.dictAt, DL.lookO, DL.isDk, DL.dispK, DL.pairA, DL.keyPairs, DL.mergeZ, DL.gDictP, DL.pairsOf, DL.lockD, DL.lockM, DL.notLst, DL.noFz, DL.itK, DL.keyD, DL.mvS, DL.sto2, DL.sto2.noListO, DL.gSorted2, DL.newK, DL.newT, DL.lstR, DL.rgE, DL.rgK, DL.rgD]
    exact hl
  have hL := wndH_len w (lins m.toNat) []
  have hc := wind_tris (.int m) (encW w) (.lst ((hng (lins m.toNat) w).map D.int)) (wnd m.toNat w) x' y' z' hz (by unfold wnd; simp only [List.length_nil] at hL; omega)
  unfold g_windings m_windings
  generalize wnd m.toNat w = A at hl1 hc ⊢
  simp only [DL.runF, DL.startE, DL.endF, DL.outsOf, DL.seqS, DL.ifS, DL.retS, DL.retN, DL.drop, DL.noList, DL.noLists, DL.noListTop, DL.asg, DL.asgT, DL.toSl, DL.setSl, DL.leak1, DL.leaks, bnd, DL.bndS, DL.evVar, DL.evC, DL.res, DL.resS, DL.bin2, DL.un1, DL.app1, DL.app2, DL.callB, DL.appA, DL.pinO, DL.nilA, DL.consA, DL.mkT, DL.mkL, DL.tst, DL.truth, DL.truthD, DL.andT, DL.orT, DL.notT, DL.andV, DL.orV, DL.notV, DL.ifE, DL.ifT, DL.chain, DL.isi, DL.gIsi, DL.gLen, DL.gAbs, DL.gInt, DL.max_int, DL.min_int, DL.gList, DL.gTuple, DL.gAdd, DL.gSub, DL.gMul, DL.gFdiv, DL.gMod, DL.gPow, DL.gNeg, DL.gCmp, DL.gLt, DL.eq_int, DL.ne_int, DL.gIx, DL.gRev, DL.gSl, DL.slc, DL.noP, DL.someP, DL.gIsN, DL.gNotN, DL.isNonD, DL.seqX, DL.seqD, DL.itQ, DL.itR1, DL.itR2, DL.call, DL.noErr, DL.callF, DL.argsD, DL.ioSl, DL.rdSl, DL.mineAt, DL.nodupB, DL.leakSl, DL.putIo, DL.lookN, DL.putAt, DL.reTop, DL.topAt, DL.putTop, DL.apnd, DL.stoL, DL.stoT, DL.par2, DL.put2, DL.par3, DL.put3, DL.tgN, DL.tgTup, DL.tgCons, DL.tgNil, DL.forS, DL.wipeE, DL.restE, DL.yesT, DL.lcStep, DL.mutL, DL.gInsert, DL.raiseS, DL.nop, DL.brk, DL.cont, DL.ite_out, List.map_cons, List.map_nil, List.zip_cons_cons, List.zip_nil_right, List.zip_nil_left, List.length_cons, List.length_nil, List.cons_append, List.nil_append, List.replicate_succ, List.replicate_zero, List.getElem?_cons_zero, List.getElem?_cons_succ, List.getElem?_nil, List.set_cons_zero, List.set_cons_succ, List.all_cons, List.all_nil, List.isEmpty_nil, List.isEmpty_cons, List.contains_nil, List.contains_cons, List.elem_nil, Bool.false_eq_true, if_true, if_false, ite_true, ite_false, reduceIte, Bool.and_true, Bool.true_and, Bool.and_false, Bool.false_and, Bool.or_true, Bool.true_or, Bool.or_false, Bool.false_or, Bool.not_true, Bool.not_false, Option.bind_some, Option.bind_none, Option.map_some, Option.map_none, Nat.reduceAdd, Nat.reduceSub, Nat.reduceEqDiff, Nat.reduceLeDiff, Nat.zero_add, decide_true, decide_false, beq_self_eq_true, String.reduceBEq, String.reduceEq, reduceCtorEq, Int.reduceNeg, Int.reduceLT, Int.reduceLE, Int.reduceAdd, Int.reduceSub, Int.reduceMul, Int.reduceEq, Int.reduceBEq, Int.natCast_zero, Int.natCast_one, Int.cast_ofNat_Int, DL.atI_0, DL.atI_1, DL.atI_2, DL.atI_3, DL.atI_4, DL.atI_5, DL.atI_6, DL.cut_tail, DL.cut5_02, DL.cut5_24, List.take_succ_cons, List.take_zero, List.take_nil, List.drop_succ_cons, List.drop_zero, List.drop_nil, Int.toNat_natCast, Int.reduceToNat, Int.reducePow, Nat.reducePow, Nat.reduceMul, and_self, and_true, true_and, List.length_map, List.map_map, decide_eq_true_eq, DL.gIx2, DL.stoL2, DL.stoT2, DL.putY, DL.putYT, DL.lookD, DL.keyOf, DL.keysOf, DL.ixV, DL.ixF, DL.getV, DL.getF, DL.dictAt, DL.lookO, DL.isDk, DL.dispK, DL.pairA, DL.keyPairs, DL.mergeZ, DL.gDictP, DL.pairsOf, DL.lockD, DL.lockM, DL.notLst, DL.noFz, DL.itK, DL.keyD, DL.mvS, DL.sto2, DL.sto2.noListO, DL.gSorted2, DL.newK, DL.newT, DL.lstR, DL.rgE, DL.rgK, DL.rgD, need_word_ok h, m1, m2, e, rangeD_lins, hl1, hc]
end K34

set_option maxRecDepth 100000
set_option maxHeartbeats 4000000
namespace K34
open PySem PySem.Spec L2 DL
open PyProof.Rows hiding St
open DL (Env)
def fl (A r : Int) : Int := cond (r == A) (A + 1) (cond (r == A + 1) A r)
theorem turn_step (M W F O T L : D) (ks : List Key) (ds : List D) (i j k r A : Int) (h : lookZ ks ds (.inl k) = some (.int r)) :
    lcStep (tgN 10) yesT (mkT (consA (evVar 10) (consA (ifE (tst (bin2 g_eq (ixV 5 (evVar 10)) (evVar 8))) (bin2 gAdd (evVar 8) (evC (.int 1))) (ifE (tst (bin2 g_eq (ixV 5 (evVar 10)) (bin2 gAdd (evVar 8) (evC (.int 1))))) (evVar 8) (ixV 5 (evVar 10)))) (nilA)))) [10] (.int k)
      [.val M, .val W, .own F, .val (.int i), .val (.int j), .fz (.dk ks ds), .val T, .val L, .val (.int A), .no, .no] = .ok (some (.tup [.int k, .int (fl A r)])) [.val M, .val W, .own F, .val (.int i), .val (.int j), .fz (.dk ks ds), .val T, .val L, .val (.int A), .no, .no] := by
  unfold fl
  cases h1 : (r == A) <;> cases h2 : (r == A + 1) <;> simp only [DL.runF, DL.startE, DL.endF, DL.outsOf, DL.seqS, DL.ifS, DL.retS, DL.retN, DL.drop, DL.noList, DL.noLists, DL.noListTop, DL.asg, DL.asgT, DL.toSl, DL.setSl, DL.leak1, DL.leaks, bnd, DL.bndS, DL.evVar, DL.evC, DL.res, DL.resS, DL.bin2, DL.un1, DL.app1, DL.app2, DL.callB, DL.appA, DL.pinO, DL.nilA, DL.consA, DL.mkT, DL.mkL, DL.tst, DL.truth, DL.truthD, DL.andT, DL.orT, DL.notT, DL.andV, DL.orV, DL.notV, DL.ifE, DL.ifT, DL.chain, DL.isi, DL.gIsi, DL.gLen, DL.gAbs, DL.gInt, DL.max_int, DL.min_int, DL.gList, DL.gTuple, DL.gAdd, DL.gSub, DL.gMul, DL.gFdiv, DL.gMod, DL.gPow, DL.gNeg, DL.gCmp, DL.gLt, DL.eq_int, DL.ne_int, DL.gIx, DL.gRev, DL.gSl, DL.slc, DL.noP, DL.someP, DL.gIsN, DL.gNotN, DL.isNonD, DL.seqX, DL.seqD, DL.itQ, DL.itR1, DL.itR2, DL.call, DL.noErr, DL.callF, DL.argsD, DL.ioSl, DL.rdSl, DL.mineAt, DL.nodupB, DL.leakSl, DL.putIo, DL.lookN, DL.putAt, DL.reTop, DL.topAt, DL.putTop, DL.apnd, DL.stoL, DL.stoT, DL.par2, DL.put2, DL.par3, DL.put3, DL.tgN, DL.tgTup, DL.tgCons, DL.tgNil, DL.forS, DL.wipeE, DL.restE, DL.yesT, DL.lcStep, DL.mutL, DL.gInsert, DL.raiseS, DL.nop, DL.brk, DL.cont, DL.ite_out, List.map_cons, List.map_nil, List.zip_cons_cons, List.zip_nil_right, List.zip_nil_left, List.length_cons, List.length_nil, List.cons_append, List.nil_append, List.replicate_succ, List.replicate_zero, List.getElem?_cons_zero, List.getElem?_cons_succ, List.getElem?_nil, List.set_cons_zero, List.set_cons_succ, List.all_cons, List.all_nil, List.isEmpty_nil, List.isEmpty_cons, List.contains_nil, List.contains_cons, List.elem_nil, Bool.false_eq_true, if_true, if_false, ite_true, ite_false, reduceIte, Bool.and_true, Bool.true_and, Bool.and_false, Bool.false_and, Bool.or_true, Bool.true_or, Bool.or_false, Bool.false_or, Bool.not_true, Bool.not_false, Option.bind_some, Option.bind_none, Option.map_some, Option.map_none, Nat.reduceAdd, Nat.reduceSub, Nat.reduceEqDiff, Nat.reduceLeDiff, Nat.zero_add, decide_true, decide_false, beq_self_eq_true, String.reduceBEq, String.reduceEq, reduceCtorEq, Int.reduceNeg, Int.reduceLT, Int.reduceLE, Int.reduceAdd, Int.reduceSub, Int.reduceMul, Int.reduceEq, Int.reduceBEq, Int.natCast_zero, Int.natCast_one, Int.cast_ofNat_Int, DL.atI_0, DL.atI_1, DL.atI_2, DL.atI_3, DL.atI_4, DL.atI_5, DL.atI_6, DL.cut_tail, DL.cut5_02, DL.cut5_24, List.take_succ_cons, List.take_zero, List.take_nil, List.drop_succ_cons, List.drop_zero, List.drop_nil, Int.toNat_natCast, Int.reduceToNat, Int.reducePow, Nat.reducePow, Nat.reduceMul, and_self, and_true, true_and, List.length_map, List.map_map, decide_eq_true_eq, DL.gIx2, DL.stoL2, DL.stoT2, DL.putY, DL.putYT, DL.lookD, DL.keyOf, DL.keysOf, DL.ixV, DL.ixF, DL.getV, DL.getF, DL.dictAt, DL.lookO, DL.isDk, DL.dispK, DL.pairA, DL.keyPairs, DL.mergeZ, DL.gDictP, DL.pairsOf, DL.lockD, DL.lockM, DL.notLst, DL.noFz, DL.itK, DL.keyD, DL.mvS, DL.sto2, DL.sto2.noListO, DL.gSorted2, DL.newK, DL.newT, DL.lstR, DL.rgE, DL.rgK, DL.rgD, h, h1, h2, cond_true, cond_false]
def flD (i p q A : Int) (d : D) : D := match d with
  | .int k => .tup [.int k, .int (fl A (if k = i then p else q))]
  | _ => .non
theorem turn_list (M W F O T L : D) (i j p q A : Int) (hij : i ≠ j) :
    c_law_windings_1 [.val M, .val W, .own F, .val (.int i), .val (.int j), .fz (.dk [.inl i, .inl j] [.int p, .int q]), .val T, .val L, .val (.int A), .no, .no] = .ok (.f (.lst [.tup [.int i, .int (fl A p)], .tup [.int j, .int (fl A q)]]))
      [.val M, .val W, .own F, .val (.int i), .val (.int j), .fz (.dk [.inl i, .inl j] [.int p, .int q]), .val T, .val L, .val (.int A), .no, .no] := by
  have hji : ¬ j = i := fun e => hij e.symm
  have hl : [D.int i, D.int j].map (flD i p q A) = [.tup [.int i, .int (fl A p)], .tup [.int j, .int (fl A q)]] := by
    simp only [List.map_cons, List.map_nil, flD, if_true, if_neg hji]
  unfold c_law_windings_1
  rw [← hl]
  refine (lc_map (ds := [D.int i, D.int j]) (e1 := [.val M, .val W, .own F, .val (.int i), .val (.int j), .fz (.dk [.inl i, .inl j] [.int p, .int q]), .val T, .val L, .val (.int A), .no, .no]) (flD i p q A) (by simp only [DL.runF, DL.startE, DL.endF, DL.outsOf, DL.seqS, DL.ifS, DL.retS, DL.retN, DL.drop, DL.noList, DL.noLists, DL.noListTop, DL.asg, DL.asgT, DL.toSl, DL.setSl, DL.leak1, DL.leaks, bnd, DL.bndS, DL.evVar, DL.evC, DL.res, DL.resS, DL.bin2, DL.un1, DL.app1, DL.app2, DL.callB, DL.appA, DL.pinO, DL.nilA, DL.consA, DL.mkT, DL.mkL, DL.tst, DL.truth, DL.truthD, DL.andT, DL.orT, DL.notT, DL.andV, DL.orV, DL.notV, DL.ifE, DL.ifT, DL.chain, DL.isi, DL.gIsi, DL.gLen, DL.gAbs, DL.gInt, DL.max_int, DL.min_int, DL.gList, DL.gTuple, DL.gAdd, DL.gSub, DL.gMul, DL.gFdiv, DL.gMod, DL.gPow, DL.gNeg, DL.gCmp, DL.gLt, DL.eq_int, DL.ne_int, DL.gIx, DL.gRev, DL.gSl, DL.slc, DL.noP, DL.someP, DL.gIsN, DL.gNotN, DL.isNonD, DL.seqX, DL.seqD, DL.itQ, DL.itR1, DL.itR2, DL.call, DL.noErr, DL.callF, DL.argsD, DL.ioSl, DL.rdSl, DL.mineAt, DL.nodupB, DL.leakSl, DL.putIo, DL.lookN, DL.putAt, DL.reTop, DL.topAt, DL.putTop, DL.apnd, DL.stoL, DL.stoT, DL.par2, DL.put2, DL.par3, DL.put3, DL.tgN, DL.tgTup, DL.tgCons, DL.tgNil, DL.forS, DL.wipeE, DL.restE, DL.yesT, DL.lcStep, DL.mutL, DL.gInsert, DL.raiseS, DL.nop, DL.brk, DL.cont, DL.ite_out, List.map_cons, List.map_nil, List.zip_cons_cons, List.zip_nil_right, List.zip_nil_left, List.length_cons, List.length_nil, List.cons_append, List.nil_append, List.replicate_succ, List.replicate_zero, List.getElem?_cons_zero, List.getElem?_cons_succ, List.getElem?_nil, List.set_cons_zero, List.set_cons_succ, List.all_cons, List.all_nil, List.isEmpty_nil, List.isEmpty_cons, List.contains_nil, List.contains_cons, List.elem_nil, Bool.false_eq_true, if_true, if_false, ite_true, ite_false, reduceIte, Bool.and_true, Bool.true_and, Bool.and_false, Bool.false_and, Bool.or_true, Bool.true_or, Bool.or_false, Bool.false_or, Bool.not_true, Bool.not_false, Option.bind_some, Option.bind_none, Option.map_some, Option.map_none, Nat.reduceAdd, Nat.reduceSub, Nat.reduceEqDiff, Nat.reduceLeDiff, Nat.zero_add, decide_true, decide_false, beq_self_eq_true, String.reduceBEq, String.reduceEq, reduceCtorEq, Int.reduceNeg, Int.reduceLT, Int.reduceLE, Int.reduceAdd, Int.reduceSub, Int.reduceMul, Int.reduceEq, Int.reduceBEq, Int.natCast_zero, Int.natCast_one, Int.cast_ofNat_Int, DL.atI_0, DL.atI_1, DL.atI_2, DL.atI_3, DL.atI_4, DL.atI_5, DL.atI_6, DL.cut_tail, DL.cut5_02, DL.cut5_24, List.take_succ_cons, List.take_zero, List.take_nil, List.drop_succ_cons, List.drop_zero, List.drop_nil, Int.toNat_natCast, Int.reduceToNat, Int.reducePow, Nat.reducePow, Nat.reduceMul, and_self, and_true, true_and, List.length_map, List.map_map, decide_eq_true_eq, DL.gIx2, DL.stoL2, DL.stoT2, DL.putY, DL.putYT, DL.lookD, DL.keyOf, DL.keysOf, DL.ixV, DL.ixF, DL.getV, DL.getF, DL.dictAt, DL.lookO, DL.isDk, DL.dispK, DL.pairA, DL.keyPairs, DL.mergeZ, DL.gDictP, DL.pairsOf, DL.lockD, DL.lockM, DL.notLst, DL.noFz, DL.itK, DL.keyD, DL.mvS, DL.sto2, DL.sto2.noListO, DL.gSorted2, DL.newK, DL.newT, DL.lstR, DL.rgE, DL.rgK, DL.rgD]) fun d hd => ?_).trans rfl
  simp only [List.mem_cons, List.not_mem_nil, or_false] at hd
  rcases hd with rfl | rfl
  · have := turn_step M W F O T L [.inl i, .inl j] [.int p, .int q] i j i p A (by simp only [lookZ, if_true])
    have e : flD i p q A (.int i) = .tup [.int i, .int (fl A p)] := by simp only [flD, if_true]
    rw [e]
    exact this
  · have := turn_step M W F O T L [.inl i, .inl j] [.int p, .int q] i j j q A (by simp only [lookZ, Sum.inl.injEq, if_neg hij, if_true])
    have e : flD i p q A (.int j) = .tup [.int j, .int (fl A q)] := by simp only [flD, if_neg hji]
    rw [e]
    exact this
theorem turned (M W F O T L : D) (Fs : List D) (i j p q A : Int) (hij : i ≠ j) :
    (callB gDictP (consA (lockD 5 (c_law_windings_1)) (nilA))) [.val M, .val W, .own (.lst Fs), .val (.int i), .val (.int j), .own (.dk [.inl i, .inl j] [.int p, .int q]), .val T, .val L, .val (.int A), .no, .no] = .ok (.f (.dk [.inl i, .inl j] [.int (fl A p), .int (fl A q)]))
      [.val M, .val W, .own (.lst Fs), .val (.int i), .val (.int j), .own (.dk [.inl i, .inl j] [.int p, .int q]), .val T, .val L, .val (.int A), .no, .no] := by
  have hij' : (i = j) = False := eq_false hij
  have hc := turn_list M W (.lst Fs) O T L i j p q A hij
  simp only [DL.runF, DL.startE, DL.endF, DL.outsOf, DL.seqS, DL.ifS, DL.retS, DL.retN, DL.drop, DL.noList, DL.noLists, DL.noListTop, DL.asg, DL.asgT, DL.toSl, DL.setSl, DL.leak1, DL.leaks, bnd, DL.bndS, DL.evVar, DL.evC, DL.res, DL.resS, DL.bin2, DL.un1, DL.app1, DL.app2, DL.callB, DL.appA, DL.pinO, DL.nilA, DL.consA, DL.mkT, DL.mkL, DL.tst, DL.truth, DL.truthD, DL.andT, DL.orT, DL.notT, DL.andV, DL.orV, DL.notV, DL.ifE, DL.ifT, DL.chain, DL.isi, DL.gIsi, DL.gLen, DL.gAbs, DL.gInt, DL.max_int, DL.min_int, DL.gList, DL.gTuple, DL.gAdd, DL.gSub, DL.gMul, DL.gFdiv, DL.gMod, DL.gPow, DL.gNeg, DL.gCmp, DL.gLt, DL.eq_int, DL.ne_int, DL.gIx, DL.gRev, DL.gSl, DL.slc, DL.noP, DL.someP, DL.gIsN, DL.gNotN, DL.isNonD, DL.seqX, DL.seqD, DL.itQ, DL.itR1, DL.itR2, DL.call, DL.noErr, DL.callF, DL.argsD, DL.ioSl, DL.rdSl, DL.mineAt, DL.nodupB, DL.leakSl, DL.putIo, DL.lookN, DL.putAt, DL.reTop, DL.topAt, DL.putTop, DL.apnd, DL.stoL, DL.stoT, DL.par2, DL.put2, DL.par3, DL.put3, DL.tgN, DL.tgTup, DL.tgCons, DL.tgNil, DL.forS, DL.wipeE, DL.restE, DL.yesT, DL.lcStep, DL.mutL, DL.gInsert, DL.raiseS, DL.nop, DL.brk, DL.cont, DL.ite_out, List.map_cons, List.map_nil, List.zip_cons_cons, List.zip_nil_right, List.zip_nil_left, List.length_cons, List.length_nil, List.cons_append, List.nil_append, List.replicate_succ, List.replicate_zero, List.getElem?_cons_zero, List.getElem?_cons_succ, List.getElem?_nil, List.set_cons_zero, List.set_cons_succ, List.all_cons, List.all_nil, List.isEmpty_nil, List.isEmpty_cons, List.contains_nil, List.contains_cons, List.elem_nil, Bool.false_eq_true, if_true, if_false, ite_true, ite_false, reduceIte, Bool.and_true, Bool.true_and, Bool.and_false, Bool.false_and, Bool.or_true, Bool.true_or, Bool.or_false, Bool.false_or, Bool.not_true, Bool.not_false, Option.bind_some, Option.bind_none, Option.map_some, Option.map_none, Nat.reduceAdd, Nat.reduceSub, Nat.reduceEqDiff, Nat.reduceLeDiff, Nat.zero_add, decide_true, decide_false, beq_self_eq_true, String.reduceBEq, String.reduceEq, reduceCtorEq, Int.reduceNeg, Int.reduceLT, Int.reduceLE, Int.reduceAdd, Int.reduceSub, Int.reduceMul, Int.reduceEq, Int.reduceBEq, Int.natCast_zero, Int.natCast_one, Int.cast_ofNat_Int, DL.atI_0, DL.atI_1, DL.atI_2, DL.atI_3, DL.atI_4, DL.atI_5, DL.atI_6, DL.cut_tail, DL.cut5_02, DL.cut5_24, List.take_succ_cons, List.take_zero, List.take_nil, List.drop_succ_cons, List.drop_zero, List.drop_nil, Int.toNat_natCast, Int.reduceToNat, Int.reducePow, Nat.reducePow, Nat.reduceMul, and_self, and_true, true_and, List.length_map, List.map_map, decide_eq_true_eq, DL.gIx2, DL.stoL2, DL.stoT2, DL.putY, DL.putYT, DL.lookD, DL.keyOf, DL.keysOf, DL.ixV, DL.ixF, DL.getV, DL.getF, DL.dictAt, DL.lookO, DL.isDk, DL.dispK, DL.pairA, DL.keyPairs, DL.mergeZ, DL.gDictP, DL.pairsOf, DL.lockD, DL.lockM, DL.notLst, DL.noFz, DL.itK, DL.keyD, DL.mvS, DL.sto2, DL.sto2.noListO, DL.gSorted2, DL.newK, DL.newT, DL.lstR, DL.rgE, DL.rgK, DL.rgD, hc, putZ, lookZ, Sum.inl.injEq, hij']
def cB (p q A : Int) : Bool := if p ≤ q then p == A && (q == A + 1 && true) else q == A && (p == A + 1 && true)
theorem sorted_two (p q A : Int) : ∃ ns : List Int, gSortedI [.lst [.int p, .int q]] = some (.f (.lst (ns.map D.int))) ∧ gEq (.lst (ns.map D.int)) (.lst [.int A, .int (A + 1)]) = some (.d (.bl (cB p q A))) := by
  refine ⟨sortI [p, q], rfl, ?_⟩
  unfold cB
  have e : sortI [p, q] = if p ≤ q then [p, q] else [q, p] := rfl
  rw [e]
  by_cases h : p ≤ q
  · rw [if_pos h, if_pos h]; rfl
  · rw [if_neg h, if_neg h]; rfl
theorem law_wind_body (M W O : D) (Fs : List D) (i j p q t l A : Int) (hij : i ≠ j) (hl : (if l < 0 then -l else l) = A) (x : Sl) (hx : NV x) :
    b_law_windings_1 [.val M, .val W, .own (.lst Fs), .val (.int i), .val (.int j), .own (.dk [.inl i, .inl j] [.int p, .int q]), .val (.int t), .val (.int l), x, .no, .no] =
      .nx [.val M, .val W, .own (.lst Fs), .val (.int i), .val (.int j), .own (.dk [.inl i, .inl j] [.int (fl A p), .int (fl A q)]), .val (.int (t + cond (cB p q A) (sgn l) 0)), .val (.int l), .val (.int A), .no, .no] := by
  have ht := turned M W O O (.int t) (.int l) Fs i j p q A hij
  obtain ⟨ns, s1, s2⟩ := sorted_two p q A
  have l1 : lookZ [Sum.inl i, Sum.inl j] [D.int p, D.int q] (Sum.inl i : Key) = some (.int p) := by simp only [lookZ, if_true]
  have l2 : lookZ [Sum.inl i, Sum.inl j] [D.int p, D.int q] (Sum.inl j : Key) = some (.int q) := by simp only [lookZ, Sum.inl.injEq, if_neg hij, if_true]
  have a0 : t + 0 = t := by omega
  unfold b_law_windings_1
  generalize callB gDictP (consA (lockD 5 (c_law_windings_1)) (nilA)) = dd at ht ⊢
  cases hb : cB p q A <;> rw [hb] at s2 <;> rcases hx with rfl | ⟨_, rfl⟩ <;> simp only [DL.runF, DL.startE, DL.endF, DL.outsOf, DL.seqS, DL.ifS, DL.retS, DL.retN, DL.drop, DL.noList, DL.noLists, DL.noListTop, DL.asg, DL.asgT, DL.toSl, DL.setSl, DL.leak1, DL.leaks, bnd, DL.bndS, DL.evVar, DL.evC, DL.res, DL.resS, DL.bin2, DL.un1, DL.app1, DL.app2, DL.callB, DL.appA, DL.pinO, DL.nilA, DL.consA, DL.mkT, DL.mkL, DL.tst, DL.truth, DL.truthD, DL.andT, DL.orT, DL.notT, DL.andV, DL.orV, DL.notV, DL.ifE, DL.ifT, DL.chain, DL.isi, DL.gIsi, DL.gLen, DL.gAbs, DL.gInt, DL.max_int, DL.min_int, DL.gList, DL.gTuple, DL.gAdd, DL.gSub, DL.gMul, DL.gFdiv, DL.gMod, DL.gPow, DL.gNeg, DL.gCmp, DL.gLt, DL.eq_int, DL.ne_int, DL.gIx, DL.gRev, DL.gSl, DL.slc, DL.noP, DL.someP, DL.gIsN, DL.gNotN, DL.isNonD, DL.seqX, DL.seqD, DL.itQ, DL.itR1, DL.itR2, DL.call, DL.noErr, DL.callF, DL.argsD, DL.ioSl, DL.rdSl, DL.mineAt, DL.nodupB, DL.leakSl, DL.putIo, DL.lookN, DL.putAt, DL.reTop, DL.topAt, DL.putTop, DL.apnd, DL.stoL, DL.stoT, DL.par2, DL.put2, DL.par3, DL.put3, DL.tgN, DL.tgTup, DL.tgCons, DL.tgNil, DL.forS, DL.wipeE, DL.restE, DL.yesT, DL.lcStep, DL.mutL, DL.gInsert, DL.raiseS, DL.nop, DL.brk, DL.cont, DL.ite_out, List.map_cons, List.map_nil, List.zip_cons_cons, List.zip_nil_right, List.zip_nil_left, List.length_cons, List.length_nil, List.cons_append, List.nil_append, List.replicate_succ, List.replicate_zero, List.getElem?_cons_zero, List.getElem?_cons_succ, List.getElem?_nil, List.set_cons_zero, List.set_cons_succ, List.all_cons, List.all_nil, List.isEmpty_nil, List.isEmpty_cons, List.contains_nil, List.contains_cons, List.elem_nil, Bool.false_eq_true, if_true, if_false, ite_true, ite_false, reduceIte, Bool.and_true, Bool.true_and, Bool.and_false, Bool.false_and, Bool.or_true, Bool.true_or, Bool.or_false, Bool.false_or, Bool.not_true, Bool.not_false, Option.bind_some, Option.bind_none, Option.map_some, Option.map_none, Nat.reduceAdd, Nat.reduceSub, Nat.reduceEqDiff, Nat.reduceLeDiff, Nat.zero_add, decide_true, decide_false, beq_self_eq_true, String.reduceBEq, String.reduceEq, reduceCtorEq, Int.reduceNeg, Int.reduceLT, Int.reduceLE, Int.reduceAdd, Int.reduceSub, Int.reduceMul, Int.reduceEq, Int.reduceBEq, Int.natCast_zero, Int.natCast_one, Int.cast_ofNat_Int, DL.atI_0, DL.atI_1, DL.atI_2, DL.atI_3, DL.atI_4, DL.atI_5, DL.atI_6, DL.cut_tail, DL.cut5_02, DL.cut5_24, List.take_succ_cons, List.take_zero, List.take_nil, List.drop_succ_cons, List.drop_zero, List.drop_nil, Int.toNat_natCast, Int.reduceToNat, Int.reducePow, Nat.reducePow, Nat.reduceMul, and_self, and_true, true_and, List.length_map, List.map_map, decide_eq_true_eq, DL.gIx2, DL.stoL2, DL.stoT2, DL.putY, DL.putYT, DL.lookD, DL.keyOf, DL.keysOf, DL.ixV, DL.ixF, DL.getV, DL.getF, DL.dictAt, DL.lookO, DL.isDk, DL.dispK, DL.pairA, DL.keyPairs, DL.mergeZ, DL.gDictP, DL.pairsOf, DL.lockD, DL.lockM, DL.notLst, DL.noFz, DL.itK, DL.keyD, DL.mvS, DL.sto2, DL.sto2.noListO, DL.gSorted2, DL.newK, DL.newT, DL.lstR, DL.rgE, DL.rgK, DL.rgD, hl, ht, l1, l2, s1, s2, law_sign_eq, cond_true, cond_false, a0]
end K34

set_option maxRecDepth 100000
set_option maxHeartbeats 4000000
namespace K34
open PySem PySem.Spec L2 DL
open PyProof.Rows hiding St
open DL (Env)
def lawT : List Int → Int → Int → Int → Int
  | [], _, _, t => t
  | l :: w, p, q, t => lawT w (fl (if l < 0 then -l else l) p) (fl (if l < 0 then -l else l) q) (t + cond (cB p q (if l < 0 then -l else l)) (sgn l) 0)
theorem law_wind_loop (M W : D) (Fs : List D) (i j : Int) (hij : i ≠ j) : ∀ (w : List Int) (p q t : Int) (x y : Sl), NV x → NV y → ∃ p' q' x' y', NV x' ∧ NV y' ∧
    forL (tgN 7) b_law_windings_1 (w.map D.int) [.val M, .val W, .own (.lst Fs), .val (.int i), .val (.int j), .own (.dk [.inl i, .inl j] [.int p, .int q]), .val (.int t), x, y, .no, .no] =
      .nx [.val M, .val W, .own (.lst Fs), .val (.int i), .val (.int j), .own (.dk [.inl i, .inl j] [.int p', .int q']), .val (.int (lawT w p q t)), x', y', .no, .no]
  | [], p, q, t, x, y, hx, hy => ⟨p, q, x, y, hx, hy, rfl⟩
  | l :: w, p, q, t, x, y, hx, hy => by
    have hb := law_wind_body M W (.int 0) Fs i j p q t l _ hij rfl y hy
    have hg : tgN 7 (.int l) [.val M, .val W, .own (.lst Fs), .val (.int i), .val (.int j), .own (.dk [.inl i, .inl j] [.int p, .int q]), .val (.int t), x, y, .no, .no] = some [.val M, .val W, .own (.lst Fs), .val (.int i), .val (.int j), .own (.dk [.inl i, .inl j] [.int p, .int q]), .val (.int t), .val (.int l), y, .no, .no] := by rcases hx with rfl | ⟨d, rfl⟩ <;> rfl
    rw [List.map_cons, forL_nx hg hb]
    exact law_wind_loop M W Fs i j hij w _ _ _ _ _ (.inr ⟨_, rfl⟩) (.inr ⟨_, rfl⟩)
abbrev OV (x : Sl) : Prop := x = .no ∨ ∃ d, x = .own d
theorem law_wind_pair (M : D) (w : List Int) (Fs : List D) (hF : Fs.length ≤ 1000000) (i j : Int) (hij : i ≠ j) (x5 x6 x7 x8 : Sl) (h5 : OV x5) (h6 : NV x6) (h7 : NV x7) (h8 : NV x8) : ∃ y5 y6 y7 y8, OV y5 ∧ NV y6 ∧ NV y7 ∧ NV y8 ∧
    b_law_windings_2 [.val M, .val (encW w), .own (.lst Fs), .val (.int i), .val (.int j), x5, x6, x7, x8, .no, .no] = .nx [.val M, .val (encW w), .own (.lst (Fs ++ (tri (lawT w i j 0) (i, j)).toList)), .val (.int i), .val (.int j), y5, y6, y7, y8, .no, .no] := by
  obtain ⟨p', q', x', y', hx, hy, hl⟩ := law_wind_loop M (encW w) Fs i j hij w i j 0 x7 x8 h7 h8
  have hl1 : l_law_windings_1 [.val M, .val (encW w), .own (.lst Fs), .val (.int i), .val (.int j), .own (.dk [.inl i, .inl j] [.int i, .int j]), .val (.int 0), x7, x8, .no, .no] = .nx [.val M, .val (encW w), .own (.lst Fs), .val (.int i), .val (.int j), .own (.dk [.inl i, .inl j] [.int p', .int q']), .val (.int (lawT w i j 0)), x', y', .no, .no] := by
    unfold l_law_windings_1
    simp only [DL.runF, DL.startE, DL.endF, DL.outsOf, DL.seqS, DL.ifS, DL.retS, DL.retN, DL.drop, DL.noList, DL.noLists, DL.noListTop, DL.asg, DL.asgT, DL.toSl, DL.setSl, DL.leak1, DL.leaks, bnd, DL.bndS, DL.evVar, DL.evC, DL.res, DL.resS, DL.bin2, DL.un1, DL.app1, DL.app2, DL.callB, DL.appA, DL.pinO, DL.nilA, DL.consA, DL.mkT, DL.mkL, DL.tst, DL.truth, DL.truthD, DL.andT, DL.orT, DL.notT, DL.andV, DL.orV, DL.notV, DL.ifE, DL.ifT, DL.chain, DL.isi, DL.gIsi, DL.gLen, DL.gAbs, DL.gInt, DL.max_int, DL.min_int, DL.gList, DL.gTuple, DL.gAdd, DL.gSub, DL.gMul, DL.gFdiv, DL.gMod, DL.gPow, DL.gNeg, DL.gCmp, DL.gLt, DL.eq_int, DL.ne_int, DL.gIx, DL.gRev, DL.gSl, DL.slc, DL.noP, DL.someP, DL.gIsN, DL.gNotN, DL.isNonD, DL.seqX, DL.seqD, DL.itQ, DL.itR1, DL.itR2, DL.call, DL.noErr, DL.callF, DL.argsD, DL.ioSl, DL.rdSl, DL.mineAt, DL.nodupB, DL.leakSl, DL.putIo, DL.lookN, DL.putAt, DL.reTop, DL.topAt, DL.putTop, DL.apnd, DL.stoL, DL.stoT, DL.par2, DL.put2, DL.par3, DL.put3, DL.tgN, DL.tgTup, DL.tgCons, DL.tgNil, DL.forS, DL.wipeE, DL.restE, DL.yesT, DL.lcStep, DL.mutL, DL.gInsert, DL.raiseS, DL.nop, DL.brk, DL.cont, DL.ite_out, List.map_cons, List.map_nil, List.zip_cons_cons, List.zip_nil_right, List.zip_nil_left, List.length_cons, List.length_nil, List.cons_append, List.nil_append, List.replicate_succ, List.replicate_zero, List.getElem?_cons_zero, List.getElem?_cons_succ, List.getElem?_nil, List.set_cons_zero, List.set_cons_succ, List.all_cons, List.all_nil, List.isEmpty_nil, List.isEmpty_cons, List.contains_nil, List.contains_cons, List.elem_nil, Bool.false_eq_true, if_true, if_false, ite_true, ite_false, reduceIte, Bool.and_true, Bool.true_and, Bool.and_false, Bool.false_and, Bool.or_true, Bool.true_or, Bool.or_false, Bool.false_or, Bool.not_true, Bool.not_false, Option.bind_some, Option.bind_none, Option.map_some, Option.map_none, Nat.reduceAdd, Nat.reduceSub, Nat.reduceEqDiff, Nat.reduceLeDiff, Nat.zero_add, decide_true, decide_false, beq_self_eq_true, String.reduceBEq, String.reduceEq, reduceCtorEq, Int.reduceNeg, Int.reduceLT, Int.reduceLE, Int.reduceAdd, Int.reduceSub, Int.reduceMul, Int.reduceEq, Int.reduceBEq, Int.natCast_zero, Int.natCast_one, Int.cast_ofNat_Int, DL.atI_0, DL.atI_1, DL.atI_2, DL.atI_3, DL.atI_4, DL.atI_5, DL.atI_6, DL.cut_tail, DL.cut5_02, DL.cut5_24, List.take_succ_cons, List.take_zero, List.take_nil, List.drop_succ_cons, List.drop_zero, List.drop_nil, Int.toNat_natCast, Int.reduceToNat, Int.reducePow, Nat.reducePow, Nat.reduceMul, and_self, and_true, true_and, List.length_map, List.map_map, decide_eq_true_eq, DL.gIx2, DL.stoL2, DL.stoT2, DL.putY, DL.putYT, DL.lookD, DL.keyOf, DL.keysOf, DL.ixV, DL.ixF, DL.getV, DL.getF, DL.dictAt, DL.lookO, DL.isDk, DL.dispK, DL.pairA, DL.keyPairs, DL.mergeZ, DL.gDictP, DL.pairsOf, DL.lockD, DL.lockM, DL.notLst, DL.noFz, DL.itK, DL.keyD, DL.mvS, DL.sto2, DL.sto2.noListO, DL.gSorted2, DL.newK, DL.newT, DL.lstR, DL.rgE, DL.rgK, DL.rgD]
    exact hl
  refine ⟨.own (.dk [.inl i, .inl j] [.int p', .int q']), .val (.int (lawT w i j 0)), x', y', .inr ⟨_, rfl⟩, .inr ⟨_, rfl⟩, hx, hy, ?_⟩
  have hij' : (i = j) = False := eq_false hij
  have hz1 : Fs.length + 1 ≤ 16777216 := by omega
  have hz2 : Fs.length + 0 ≤ 16777216 := by omega
  have hz3 : Fs.length ≤ 16777215 := by omega
  have hz4 : Fs.length ≤ 16777216 := by omega
  unfold b_law_windings_2 tri
  generalize lawT w i j 0 = t at hl1 ⊢
  cases ht : (t == 0) <;> rcases h5 with rfl | ⟨_, rfl⟩ <;> rcases h6 with rfl | ⟨_, rfl⟩ <;>
    simp only [DL.runF, DL.startE, DL.endF, DL.outsOf, DL.seqS, DL.ifS, DL.retS, DL.retN, DL.drop, DL.noList, DL.noLists, DL.noListTop, DL.asg, DL.asgT, DL.toSl, DL.setSl, DL.leak1, DL.leaks, bnd, DL.bndS, DL.evVar, DL.evC, DL.res, DL.resS, DL.bin2, DL.un1, DL.app1, DL.app2, DL.callB, DL.appA, DL.pinO, DL.nilA, DL.consA, DL.mkT, DL.mkL, DL.tst, DL.truth, DL.truthD, DL.andT, DL.orT, DL.notT, DL.andV, DL.orV, DL.notV, DL.ifE, DL.ifT, DL.chain, DL.isi, DL.gIsi, DL.gLen, DL.gAbs, DL.gInt, DL.max_int, DL.min_int, DL.gList, DL.gTuple, DL.gAdd, DL.gSub, DL.gMul, DL.gFdiv, DL.gMod, DL.gPow, DL.gNeg, DL.gCmp, DL.gLt, DL.eq_int, DL.ne_int, DL.gIx, DL.gRev, DL.gSl, DL.slc, DL.noP, DL.someP, DL.gIsN, DL.gNotN, DL.isNonD, DL.seqX, DL.seqD, DL.itQ, DL.itR1, DL.itR2, DL.call, DL.noErr, DL.callF, DL.argsD, DL.ioSl, DL.rdSl, DL.mineAt, DL.nodupB, DL.leakSl, DL.putIo, DL.lookN, DL.putAt, DL.reTop, DL.topAt, DL.putTop, DL.apnd, DL.stoL, DL.stoT, DL.par2, DL.put2, DL.par3, DL.put3, DL.tgN, DL.tgTup, DL.tgCons, DL.tgNil, DL.forS, DL.wipeE, DL.restE, DL.yesT, DL.lcStep, DL.mutL, DL.gInsert, DL.raiseS, DL.nop, DL.brk, DL.cont, DL.ite_out, List.map_cons, List.map_nil, List.zip_cons_cons, List.zip_nil_right, List.zip_nil_left, List.length_cons, List.length_nil, List.cons_append, List.nil_append, List.replicate_succ, List.replicate_zero, List.getElem?_cons_zero, List.getElem?_cons_succ, List.getElem?_nil, List.set_cons_zero, List.set_cons_succ, List.all_cons, List.all_nil, List.isEmpty_nil, List.isEmpty_cons, List.contains_nil, List.contains_cons, List.elem_nil, Bool.false_eq_true, if_true, if_false, ite_true, ite_false, reduceIte, Bool.and_true, Bool.true_and, Bool.and_false, Bool.false_and, Bool.or_true, Bool.true_or, Bool.or_false, Bool.false_or, Bool.not_true, Bool.not_false, Option.bind_some, Option.bind_none, Option.map_some, Option.map_none, Nat.reduceAdd, Nat.reduceSub, Nat.reduceEqDiff, Nat.reduceLeDiff, Nat.zero_add, decide_true, decide_false, beq_self_eq_true, String.reduceBEq, String.reduceEq, reduceCtorEq, Int.reduceNeg, Int.reduceLT, Int.reduceLE, Int.reduceAdd, Int.reduceSub, Int.reduceMul, Int.reduceEq, Int.reduceBEq, Int.natCast_zero, Int.natCast_one, Int.cast_ofNat_Int, DL.atI_0, DL.atI_1, DL.atI_2, DL.atI_3, DL.atI_4, DL.atI_5, DL.atI_6, DL.cut_tail, DL.cut5_02, DL.cut5_24, List.take_succ_cons, List.take_zero, List.take_nil, List.drop_succ_cons, List.drop_zero, List.drop_nil, Int.toNat_natCast, Int.reduceToNat, Int.reducePow, Nat.reducePow, Nat.reduceMul, and_self, and_true, true_and, List.length_map, List.map_map, decide_eq_true_eq, DL.gIx2, DL.stoL2, DL.stoT2, DL.putY, DL.putYT, DL.lookD, DL.keyOf, DL.keysOf, DL.ixV, DL.ixF, DL.getV, DL.getF, DL.dictAt, DL.lookO, DL.isDk, DL.dispK, DL.pairA, DL.keyPairs, DL.mergeZ, DL.gDictP, DL.pairsOf, DL.lockD, DL.lockM, DL.notLst, DL.noFz, DL.itK, DL.keyD, DL.mvS, DL.sto2, DL.sto2.noListO, DL.gSorted2, DL.newK, DL.newT, DL.lstR, DL.rgE, DL.rgK, DL.rgD, putZ, lookZ, Sum.inl.injEq, hij', hl1, ht, cond_true, cond_false, hz1, hz2, hz3, hz4, Nat.add_zero, Option.toList_some, Option.toList_none, List.append_nil]
end K34

set_option maxRecDepth 100000
set_option maxHeartbeats 4000000
namespace K34
open PySem PySem.Spec L2 DL
open PyProof.Rows hiding St
open DL (Env)
def rng (lo : Int) (n : Nat) : List Int := (List.range n).map fun (k : Nat) => lo + (k : Int)
theorem rangeD_rng (lo : Int) (n : Nat) : rangeD lo n = (rng lo n).map D.int := by simp [rangeD, rng]
theorem rng_len (lo : Int) (n : Nat) : (rng lo n).length = n := by simp [rng]
theorem rng_mem {lo : Int} {n : Nat} {j : Int} : j ∈ rng lo n ↔ lo ≤ j ∧ j < lo + n := by
  unfold rng
  rw [List.mem_map]
  constructor
  · rintro ⟨k, hk, rfl⟩
    have := List.mem_range.mp hk
    omega
  · rintro ⟨h1, h2⟩
    exact ⟨(j - lo).toNat, List.mem_range.mpr (by omega), by omega⟩
theorem lins_mem {n : Nat} {i : Int} : i ∈ lins n ↔ 1 ≤ i ∧ i ≤ n := by
  have : lins n = rng 1 n := rfl
  rw [this, rng_mem]
  omega
def rowT (w : List Int) (i : Int) (js : List Int) : List D := js.filterMap fun j => tri (lawT w i j 0) (i, j)
theorem rowT_len (w : List Int) (i : Int) (js : List Int) : (rowT w i js).length ≤ js.length := List.length_filterMap_le _ _
theorem inner_loop (M : D) (w : List Int) (i : Int) : ∀ (js : List Int) (Fs : List D) (x4 x5 x6 x7 x8 : Sl), (∀ j ∈ js, i ≠ j) → Fs.length + js.length ≤ 1000000 → NV x4 → OV x5 → NV x6 → NV x7 → NV x8 → ∃ y4 y5 y6 y7 y8, NV y4 ∧ OV y5 ∧ NV y6 ∧ NV y7 ∧ NV y8 ∧
    forL (tgN 4) b_law_windings_2 (js.map D.int) [.val M, .val (encW w), .own (.lst Fs), .val (.int i), x4, x5, x6, x7, x8, .no, .no] = .nx [.val M, .val (encW w), .own (.lst (Fs ++ rowT w i js)), .val (.int i), y4, y5, y6, y7, y8, .no, .no]
  | [], Fs, x4, x5, x6, x7, x8, hj, hz, h4, h5, h6, h7, h8 => ⟨x4, x5, x6, x7, x8, h4, h5, h6, h7, h8, by rw [rowT, List.filterMap_nil, List.append_nil]; rfl⟩
  | j :: js, Fs, x4, x5, x6, x7, x8, hj, hz, h4, h5, h6, h7, h8 => by
    simp only [List.length_cons] at hz
    obtain ⟨y5, y6, y7, y8, k5, k6, k7, k8, hb⟩ := law_wind_pair M w Fs (by omega) i j (hj j List.mem_cons_self) x5 x6 x7 x8 h5 h6 h7 h8
    have hg : tgN 4 (.int j) [.val M, .val (encW w), .own (.lst Fs), .val (.int i), x4, x5, x6, x7, x8, .no, .no] = some [.val M, .val (encW w), .own (.lst Fs), .val (.int i), .val (.int j), x5, x6, x7, x8, .no, .no] := by rcases h4 with rfl | ⟨d, rfl⟩ <;> rfl
    rw [List.map_cons, forL_nx hg hb]
    have hl : (tri (lawT w i j 0) (i, j)).toList.length ≤ 1 := by cases tri (lawT w i j 0) (i, j) <;> simp
    obtain ⟨z4, z5, z6, z7, z8, g4, g5, g6, g7, g8, e⟩ := inner_loop M w i js (Fs ++ (tri (lawT w i j 0) (i, j)).toList) _ y5 y6 y7 y8 (fun j h => hj j (List.mem_cons_of_mem _ h)) (by rw [List.length_append]; omega) (.inr ⟨_, rfl⟩) k5 k6 k7 k8
    refine ⟨z4, z5, z6, z7, z8, g4, g5, g6, g7, g8, ?_⟩
    rw [e]
    have : Fs ++ (tri (lawT w i j 0) (i, j)).toList ++ rowT w i js = Fs ++ rowT w i (j :: js) := by
      unfold rowT
      rw [List.filterMap_cons]
      cases tri (lawT w i j 0) (i, j) <;> simp
    rw [this]
def laterL (m i : Int) : List Int := rng (i + 1) (m + 1 - (i + 1)).toNat
theorem outer_loop {m : Int} (m2 : m ≤ 8) (w : List Int) : ∀ (is : List Int) (Fs : List D) (x3 x4 x5 x6 x7 x8 : Sl), (∀ i ∈ is, 1 ≤ i ∧ i ≤ m) → Fs.length + is.length * 10 ≤ 1000 → NV x3 → NV x4 → OV x5 → NV x6 → NV x7 → NV x8 → ∃ y3 y4 y5 y6 y7 y8, NV y3 ∧ NV y4 ∧ OV y5 ∧ NV y6 ∧ NV y7 ∧ NV y8 ∧
    forL (tgN 3) b_law_windings_3 (is.map D.int) [.val (.int m), .val (encW w), .own (.lst Fs), x3, x4, x5, x6, x7, x8, .no, .no] = .nx [.val (.int m), .val (encW w), .own (.lst (Fs ++ is.flatMap fun i => rowT w i (laterL m i))), y3, y4, y5, y6, y7, y8, .no, .no]
  | [], Fs, x3, x4, x5, x6, x7, x8, hj, hz, h3, h4, h5, h6, h7, h8 => ⟨x3, x4, x5, x6, x7, x8, h3, h4, h5, h6, h7, h8, by rw [List.flatMap_nil, List.append_nil]; rfl⟩
  | i :: is, Fs, x3, x4, x5, x6, x7, x8, hj, hz, h3, h4, h5, h6, h7, h8 => by
    simp only [List.length_cons] at hz
    obtain ⟨i1, i2⟩ := hj i List.mem_cons_self
    have hL : (laterL m i).length ≤ 8 := by unfold laterL; rw [rng_len]; omega
    obtain ⟨y4, y5, y6, y7, y8, k4, k5, k6, k7, k8, hb⟩ := inner_loop (.int m) w i (laterL m i) Fs x4 x5 x6 x7 x8 (fun j h => by
      have := rng_mem.mp h; omega) (by omega) h4 h5 h6 h7 h8
    have hg : tgN 3 (.int i) [.val (.int m), .val (encW w), .own (.lst Fs), x3, x4, x5, x6, x7, x8, .no, .no] = some [.val (.int m), .val (encW w), .own (.lst Fs), .val (.int i), x4, x5, x6, x7, x8, .no, .no] := by rcases h3 with rfl | ⟨d, rfl⟩ <;> rfl
    have c1 : mid (i + 1) = true := by unfold mid; rw [decide_eq_true_eq]; omega
    have c2 : mid (m + 1) = true := by unfold mid; rw [decide_eq_true_eq]; omega
    have hb3 : b_law_windings_3 [.val (.int m), .val (encW w), .own (.lst Fs), .val (.int i), x4, x5, x6, x7, x8, .no, .no] = .nx [.val (.int m), .val (encW w), .own (.lst (Fs ++ rowT w i (laterL m i))), .val (.int i), y4, y5, y6, y7, y8, .no, .no] := by
      unfold b_law_windings_3 l_law_windings_2
      rw [← hb]
      unfold laterL
      rw [← rangeD_rng]
      simp only [DL.runF, DL.startE, DL.endF, DL.outsOf, DL.seqS, DL.ifS, DL.retS, DL.retN, DL.drop, DL.noList, DL.noLists, DL.noListTop, DL.asg, DL.asgT, DL.toSl, DL.setSl, DL.leak1, DL.leaks, bnd, DL.bndS, DL.evVar, DL.evC, DL.res, DL.resS, DL.bin2, DL.un1, DL.app1, DL.app2, DL.callB, DL.appA, DL.pinO, DL.nilA, DL.consA, DL.mkT, DL.mkL, DL.tst, DL.truth, DL.truthD, DL.andT, DL.orT, DL.notT, DL.andV, DL.orV, DL.notV, DL.ifE, DL.ifT, DL.chain, DL.isi, DL.gIsi, DL.gLen, DL.gAbs, DL.gInt, DL.max_int, DL.min_int, DL.gList, DL.gTuple, DL.gAdd, DL.gSub, DL.gMul, DL.gFdiv, DL.gMod, DL.gPow, DL.gNeg, DL.gCmp, DL.gLt, DL.eq_int, DL.ne_int, DL.gIx, DL.gRev, DL.gSl, DL.slc, DL.noP, DL.someP, DL.gIsN, DL.gNotN, DL.isNonD, DL.seqX, DL.seqD, DL.itQ, DL.itR1, DL.itR2, DL.call, DL.noErr, DL.callF, DL.argsD, DL.ioSl, DL.rdSl, DL.mineAt, DL.nodupB, DL.leakSl, DL.putIo, DL.lookN, DL.putAt, DL.reTop, DL.topAt, DL.putTop, DL.apnd, DL.stoL, DL.stoT, DL.par2, DL.put2, DL.par3, DL.put3, DL.tgN, DL.tgTup, DL.tgCons, DL.tgNil, DL.forS, DL.wipeE, DL.restE, DL.yesT, DL.lcStep, DL.mutL, DL.gInsert, DL.raiseS, DL.nop, DL.brk, DL.cont, DL.ite_out, List.map_cons, List.map_nil, List.zip_cons_cons, List.zip_nil_right, List.zip_nil_left, List.length_cons, List.length_nil, List.cons_append, List.nil_append, List.replicate_succ, List.replicate_zero, List.getElem?_cons_zero, List.getElem?_cons_succ, List.getElem?_nil, List.set_cons_zero, List.set_cons_succ, List.all_cons, List.all_nil, List.isEmpty_nil, List.isEmpty_cons, List.contains_nil, List.contains_cons, List.elem_nil, Bool.false_eq_true, if_true, if_false, ite_true, ite_false, reduceIte, Bool.and_true, Bool.true_and, Bool.and_false, Bool.false_and, Bool.or_true, Bool.true_or, Bool.or_false, Bool.false_or, Bool.not_true, Bool.not_false, Option.bind_some, Option.bind_none, Option.map_some, Option.map_none, Nat.reduceAdd, Nat.reduceSub, Nat.reduceEqDiff, Nat.reduceLeDiff, Nat.zero_add, decide_true, decide_false, beq_self_eq_true, String.reduceBEq, String.reduceEq, reduceCtorEq, Int.reduceNeg, Int.reduceLT, Int.reduceLE, Int.reduceAdd, Int.reduceSub, Int.reduceMul, Int.reduceEq, Int.reduceBEq, Int.natCast_zero, Int.natCast_one, Int.cast_ofNat_Int, DL.atI_0, DL.atI_1, DL.atI_2, DL.atI_3, DL.atI_4, DL.atI_5, DL.atI_6, DL.cut_tail, DL.cut5_02, DL.cut5_24, List.take_succ_cons, List.take_zero, List.take_nil, List.drop_succ_cons, List.drop_zero, List.drop_nil, Int.toNat_natCast, Int.reduceToNat, Int.reducePow, Nat.reducePow, Nat.reduceMul, and_self, and_true, true_and, List.length_map, List.map_map, decide_eq_true_eq, DL.gIx2, DL.stoL2, DL.stoT2, DL.putY, DL.putYT, DL.lookD, DL.keyOf, DL.keysOf, DL.ixV, DL.ixF, DL.getV, DL.getF, DL.dictAt, DL.lookO, DL.isDk, DL.dispK, DL.pairA, DL.keyPairs, DL.mergeZ, DL.gDictP, DL.pairsOf, DL.lockD, DL.lockM, DL.notLst, DL.noFz, DL.itK, DL.keyD, DL.mvS, DL.sto2, DL.sto2.noListO, DL.gSorted2, DL.newK, DL.newT, DL.lstR, DL.rgE, DL.rgK, DL.rgD, c1, c2]
    rw [List.map_cons, forL_nx hg hb3]
    have hr := rowT_len w i (laterL m i)
    obtain ⟨z3, z4, z5, z6, z7, z8, g3, g4, g5, g6, g7, g8, e⟩ := outer_loop m2 w is (Fs ++ rowT w i (laterL m i)) _ y4 y5 y6 y7 y8 (fun i h => hj i (List.mem_cons_of_mem _ h)) (by rw [List.length_append]; omega) (.inr ⟨_, rfl⟩) k4 k5 k6 k7 k8
    refine ⟨z3, z4, z5, z6, z7, z8, g3, g4, g5, g6, g7, g8, ?_⟩
    rw [e, List.flatMap_cons, List.append_assoc]
theorem law_windings_ok {m : Int} {w : List Int} (h : WOk m w) : g_law_windings [.int m, encW w] = .ok false (.tup ((lins m.toNat).flatMap fun i => rowT w i (laterL m i))) [] := by
  have e : (m + 1 - 1).toNat = m.toNat := by omega
  have h1 := h.m1
  have h2 := h.m2
  have m1 : mid 1 = true := rfl
  have m2 : mid (m + 1) = true := by unfold mid; rw [decide_eq_true_eq]; omega
  obtain ⟨y3, y4, y5, y6, y7, y8, _, _, _, _, _, _, hl⟩ := outer_loop h.m2 w (lins m.toNat) [] .no .no .no .no .no .no (fun i hi => by
    have := lins_mem.mp hi; omega) (by rw [lins_len]; simp only [List.length_nil]; omega) (.inl rfl) (.inl rfl) (.inl rfl) (.inl rfl) (.inl rfl) (.inl rfl)
  rw [List.nil_append] at hl
  have hl1 : l_law_windings_3 [.val (.int m), .val (encW w), .own (.lst []), .no, .no, .no, .no, .no, .no, .no, .no] = .nx [.val (.int m), .val (encW w), .own (.lst ((lins m.toNat).flatMap fun i => rowT w i (laterL m i))), y3, y4, y5, y6, y7, y8, .no, .no] := by
    unfold l_law_windings_3
    rw [← hl]
    simp only [DL.runF, DL.startE, DL.endF, DL.outsOf, DL.seqS, DL.ifS, DL.retS, DL.retN, DL.drop, DL.noList, DL.noLists, DL.noListTop, DL.asg, DL.asgT, DL.toSl, DL.setSl, DL.leak1, DL.leaks, bnd, DL.bndS, DL.evVar, DL.evC, DL.res, DL.resS, DL.bin2, DL.un1, DL.app1, DL.app2, DL.callB, DL.appA, DL.pinO, DL.nilA, DL.consA, DL.mkT, DL.mkL, DL.tst, DL.truth, DL.truthD, DL.andT, DL.orT, DL.notT, DL.andV, DL.orV, DL.notV, DL.ifE, DL.ifT, DL.chain, DL.isi, DL.gIsi, DL.gLen, DL.gAbs, DL.gInt, DL.max_int, DL.min_int, DL.gList, DL.gTuple, DL.gAdd, DL.gSub, DL.gMul, DL.gFdiv, DL.gMod, DL.gPow, DL.gNeg, DL.gCmp, DL.gLt, DL.eq_int, DL.ne_int, DL.gIx, DL.gRev, DL.gSl, DL.slc, DL.noP, DL.someP, DL.gIsN, DL.gNotN, DL.isNonD, DL.seqX, DL.seqD, DL.itQ, DL.itR1, DL.itR2, DL.call, DL.noErr, DL.callF, DL.argsD, DL.ioSl, DL.rdSl, DL.mineAt, DL.nodupB, DL.leakSl, DL.putIo, DL.lookN, DL.putAt, DL.reTop, DL.topAt, DL.putTop, DL.apnd, DL.stoL, DL.stoT, DL.par2, DL.put2, DL.par3, DL.put3, DL.tgN, DL.tgTup, DL.tgCons, DL.tgNil, DL.forS, DL.wipeE, DL.restE, DL.yesT, DL.lcStep, DL.mutL, DL.gInsert, DL.raiseS, DL.nop, DL.brk, DL.cont, DL.ite_out, List.map_cons, List.map_nil, List.zip_cons_cons, List.zip_nil_right, List.zip_nil_left, List.length_cons, List.length_nil, List.cons_append, List.nil_append, List.replicate_succ, List.replicate_zero, List.getElem?_cons_zero, List.getElem?_cons_succ, List.getElem?_nil, List.set_cons_zero, List.set_cons_succ, List.all_cons, List.all_nil, List.isEmpty_nil, List.isEmpty_cons, List.contains_nil, List.contains_cons, List.elem_nil, Bool.false_eq_true, if_true, if_false, ite_true, ite_false, reduceIte, Bool.and_true, Bool.true_and, Bool.and_false, Bool.false_and, Bool.or_true, Bool.true_or, Bool.or_false, Bool.false_or, Bool.not_true, Bool.not_false, Option.bind_some, Option.bind_none, Option.map_some, Option.map_none, Nat.reduceAdd, Nat.reduceSub, Nat.reduceEqDiff, Nat.reduceLeDiff, Nat.zero_add, decide_true, decide_false, beq_self_eq_true, String.reduceBEq, String.reduceEq, reduceCtorEq, Int.reduceNeg, Int.reduceLT, Int.reduceLE, Int.reduceAdd, Int.reduceSub, Int.reduceMul, Int.reduceEq, Int.reduceBEq, Int.natCast_zero, Int.natCast_one, Int.cast_ofNat_Int, DL.atI_0, DL.atI_1, DL.atI_2, DL.atI_3, DL.atI_4, DL.atI_5, DL.atI_6, DL.cut_tail, DL.cut5_02, DL.cut5_24, List.take_succ_cons, List.take_zero, List.take_nil, List.drop_succ_cons, List.drop_zero, List.drop_nil, Int.toNat_natCast, Int.reduceToNat, Int.reducePow, Nat.reducePow, Nat.reduceMul, and_self, and_true, true_and, List.length_map, List.map_map, decide_eq_true_eq, DL.gIx2, DL.stoL2, DL.stoT2, DL.putY, DL.putYT, DL.lookD, DL.keyOf, DL.keysOf, DL.ixV, DL.ixF, DL.getV, DL.getF, DL.dictAt, DL.lookO, DL.isDk, DL.dispK, DL.pairA, DL.keyPairs, DL.mergeZ, DL.gDictP, DL.pairsOf, DL.lockD, DL.lockM, DL.notLst, DL.noFz, DL.itK, DL.keyD, DL.mvS, DL.sto2, DL.sto2.noListO, DL.gSorted2, DL.newK, DL.newT, DL.lstR, DL.rgE, DL.rgK, DL.rgD, m1, m2, e, rangeD_lins]
  unfold g_law_windings m_law_windings
  generalize ((lins m.toNat).flatMap fun i => rowT w i (laterL m i)) = R at hl1 ⊢
  simp only [DL.runF, DL.startE, DL.endF, DL.outsOf, DL.seqS, DL.ifS, DL.retS, DL.retN, DL.drop, DL.noList, DL.noLists, DL.noListTop, DL.asg, DL.asgT, DL.toSl, DL.setSl, DL.leak1, DL.leaks, bnd, DL.bndS, DL.evVar, DL.evC, DL.res, DL.resS, DL.bin2, DL.un1, DL.app1, DL.app2, DL.callB, DL.appA, DL.pinO, DL.nilA, DL.consA, DL.mkT, DL.mkL, DL.tst, DL.truth, DL.truthD, DL.andT, DL.orT, DL.notT, DL.andV, DL.orV, DL.notV, DL.ifE, DL.ifT, DL.chain, DL.isi, DL.gIsi, DL.gLen, DL.gAbs, DL.gInt, DL.max_int, DL.min_int, DL.gList, DL.gTuple, DL.gAdd, DL.gSub, DL.gMul, DL.gFdiv, DL.gMod, DL.gPow, DL.gNeg, DL.gCmp, DL.gLt, DL.eq_int, DL.ne_int, DL.gIx, DL.gRev, DL.gSl, DL.slc, DL.noP, DL.someP, DL.gIsN, DL.gNotN, DL.isNonD, DL.seqX, DL.seqD, DL.itQ, DL.itR1, DL.itR2, DL.call, DL.noErr, DL.callF, DL.argsD, DL.ioSl, DL.rdSl, DL.mineAt, DL.nodupB, DL.leakSl, DL.putIo, DL.lookN, DL.putAt, DL.reTop, DL.topAt, DL.putTop, DL.apnd, DL.stoL, DL.stoT, DL.par2, DL.put2, DL.par3, DL.put3, DL.tgN, DL.tgTup, DL.tgCons, DL.tgNil, DL.forS, DL.wipeE, DL.restE, DL.yesT, DL.lcStep, DL.mutL, DL.gInsert, DL.raiseS, DL.nop, DL.brk, DL.cont, DL.ite_out, List.map_cons, List.map_nil, List.zip_cons_cons, List.zip_nil_right, List.zip_nil_left, List.length_cons, List.length_nil, List.cons_append, List.nil_append, List.replicate_succ, List.replicate_zero, List.getElem?_cons_zero, List.getElem?_cons_succ, List.getElem?_nil, List.set_cons_zero, List.set_cons_succ, List.all_cons, List.all_nil, List.isEmpty_nil, List.isEmpty_cons, List.contains_nil, List.contains_cons, List.elem_nil, Bool.false_eq_true, if_true, if_false, ite_true, ite_false, reduceIte, Bool.and_true, Bool.true_and, Bool.and_false, Bool.false_and, Bool.or_true, Bool.true_or, Bool.or_false, Bool.false_or, Bool.not_true, Bool.not_false, Option.bind_some, Option.bind_none, Option.map_some, Option.map_none, Nat.reduceAdd, Nat.reduceSub, Nat.reduceEqDiff, Nat.reduceLeDiff, Nat.zero_add, decide_true, decide_false, beq_self_eq_true, String.reduceBEq, String.reduceEq, reduceCtorEq, Int.reduceNeg, Int.reduceLT, Int.reduceLE, Int.reduceAdd, Int.reduceSub, Int.reduceMul, Int.reduceEq, Int.reduceBEq, Int.natCast_zero, Int.natCast_one, Int.cast_ofNat_Int, DL.atI_0, DL.atI_1, DL.atI_2, DL.atI_3, DL.atI_4, DL.atI_5, DL.atI_6, DL.cut_tail, DL.cut5_02, DL.cut5_24, List.take_succ_cons, List.take_zero, List.take_nil, List.drop_succ_cons, List.drop_zero, List.drop_nil, Int.toNat_natCast, Int.reduceToNat, Int.reducePow, Nat.reducePow, Nat.reduceMul, and_self, and_true, true_and, List.length_map, List.map_map, decide_eq_true_eq, DL.gIx2, DL.stoL2, DL.stoT2, DL.putY, DL.putYT, DL.lookD, DL.keyOf, DL.keysOf, DL.ixV, DL.ixF, DL.getV, DL.getF, DL.dictAt, DL.lookO, DL.isDk, DL.dispK, DL.pairA, DL.keyPairs, DL.mergeZ, DL.gDictP, DL.pairsOf, DL.lockD, DL.lockM, DL.notLst, DL.noFz, DL.itK, DL.keyD, DL.mvS, DL.sto2, DL.sto2.noListO, DL.gSorted2, DL.newK, DL.newT, DL.lstR, DL.rgE, DL.rgK, DL.rgD, hl1]
end K34

set_option maxRecDepth 100000
set_option maxHeartbeats 4000000
namespace K34
open PySem PySem.Spec L2 DL
open PyProof.Rows hiding St
open DL (Env)
def fN (a k : Nat) : Nat := if k = a then a + 1 else if k = a + 1 then a else k
theorem swp_get {h : List Int} {a : Nat} (H : a + 1 < h.length) (k : Nat) : (swp h a).getD k 0 = h.getD (fN a k) 0 := by
  unfold swp fN
  rw [List.getD_eq_getElem?_getD, List.getElem?_set, List.getElem?_set, List.length_set]
  by_cases h1 : k = a
  · subst h1
    rw [if_neg (by omega), if_pos rfl, if_pos (by omega), if_pos rfl]
    rfl
  · rw [if_neg h1]
    by_cases h2 : k = a + 1
    · subst h2
      rw [if_pos rfl, if_pos H, if_pos rfl]; rfl
    · rw [if_neg (by omega), if_neg (by omega), if_neg h2, List.getD_eq_getElem?_getD]
theorem fN_lt {a k n : Nat} (H : a + 1 < n) (hk : k < n) : fN a k < n := by
  unfold fN
  split
  · omega
  · split <;> omega
theorem fN_fN (a k : Nat) : fN a (fN a k) = k := by
  by_cases h1 : k = a
  · rw [h1]; simp [fN]
  · by_cases h2 : k = a + 1
    · rw [h2]; simp [fN]
    · simp [fN, h1, h2]
structure Hg (n : Nat) (h : List Int) : Prop where
  len : h.length = n
  inj : ∀ a b, a < n → b < n → h.getD a 0 = h.getD b 0 → a = b
  rg : ∀ a, a < n → 1 ≤ h.getD a 0 ∧ h.getD a 0 ≤ n
theorem Hg.swp {n : Nat} {h : List Int} (g : Hg n h) {a : Nat} (H : a + 1 < n) : Hg n (swp h a) := by
  have H' : a + 1 < h.length := by rw [g.len]; exact H
  refine ⟨by rw [swp_len, g.len], fun x y hx hy e => ?_, fun x hx => ?_⟩
  · rw [swp_get H', swp_get H'] at e
    have := g.inj _ _ (fN_lt H hx) (fN_lt H hy) e
    rw [← fN_fN a x, this, fN_fN]
  · rw [swp_get H']
    exact g.rg _ (fN_lt H hx)
theorem lins_get {n a : Nat} (h : a < n) : (lins n).getD a 0 = 1 + (a : Int) := by
  unfold lins
  rw [List.getD_eq_getElem?_getD, List.getElem?_map, List.getElem?_range h]
  rfl
theorem lins_hg (n : Nat) : Hg n (lins n) := by
  refine ⟨lins_len n, fun a b ha hb e => ?_, fun a ha => ?_⟩
  · rw [lins_get ha, lins_get hb] at e
    omega
  · rw [lins_get ha]
    omega
theorem look_cons (q : Int × Int) (u : Int) (A : Tb) (r : Int × Int) : lookA ((q, u) :: A) r = if q = r then some u else lookA A r := rfl
theorem look_repl (A : Tb) (p : Int × Int) (v : Int) (r : Int × Int) : lookA (replA A p v) r = if p = r then (lookA A r).map (fun _ => v) else lookA A r := by
  induction A with
  | nil => simp [lookA, replA]
  | cons x A ih =>
    obtain ⟨q, u⟩ := x
    show (if q = r then some (if q = p then v else u) else lookA (replA A p v) r) = _
    rw [look_cons]
    by_cases h : q = r
    · rw [if_pos h, if_pos h]
      by_cases h2 : p = r
      · rw [if_pos h2, if_pos (by rw [h, h2])]; rfl
      · rw [if_neg h2, if_neg (fun z => h2 (by rw [← z, h]))]
    · rw [if_neg h, if_neg h, ih]
theorem look_app (A : Tb) (p : Int × Int) (v : Int) (r : Int × Int) : lookA (A ++ [(p, v)]) r = (lookA A r).or (if p = r then some v else none) := by
  induction A with
  | nil => rfl
  | cons x A ih =>
    obtain ⟨q, u⟩ := x
    show (if q = r then some u else lookA (A ++ [(p, v)]) r) = _
    rw [look_cons]
    by_cases h : q = r
    · rw [if_pos h, if_pos h]; rfl
    · rw [if_neg h, if_neg h, ih]
theorem look_put (A : Tb) (p : Int × Int) (v : Int) (r : Int × Int) : lookA (putA A p v) r = if p = r then some v else lookA A r := by
  unfold putA
  cases h : lookA A p with
  | some u =>
    show lookA (replA A p v) r = _
    rw [look_repl]
    by_cases e : p = r
    · subst e; rw [if_pos rfl, if_pos rfl, h]; rfl
    · rw [if_neg e, if_neg e]
  | none =>
    show lookA (A ++ [(p, v)]) r = _
    rw [look_app]
    by_cases e : p = r
    · subst e; rw [if_pos rfl, if_pos rfl, h]; rfl
    · rw [if_neg e, if_neg e]; simp
theorem tot_put (A : Tb) (p : Int × Int) (v : Int) (r : Int × Int) : tot (putA A p v) r = if p = r then v else tot A r := by
  unfold tot
  rw [look_put]
  split <;> rfl
theorem look_none : ∀ {A : Tb} {p : Int × Int}, lookA A p = none → p ∉ A.map (·.1)
  | [], p, _, h => by cases h
  | (q, v) :: A, p, e, h => by
    unfold lookA at e
    by_cases z : q = p
    · rw [if_pos z] at e; cases e
    · rw [if_neg z] at e
      rcases List.mem_cons.mp h with h | h
      · exact z h.symm
      · exact look_none e h
theorem look_not : ∀ {A : Tb} {p : Int × Int}, p ∉ A.map (·.1) → lookA A p = none
  | [], p, _ => rfl
  | (q, v) :: A, p, h => by
    unfold lookA
    rw [if_neg (fun z => h (List.mem_cons.mpr (.inl z.symm)))]
    exact look_not fun z => h (List.mem_cons_of_mem _ z)
def KOk (n : Nat) (A : Tb) : Prop := (A.map (·.1)).Nodup ∧ ∀ p ∈ A.map (·.1), 1 ≤ p.1 ∧ p.1 < p.2 ∧ p.2 ≤ (n : Int)
theorem kok_put {n : Nat} {A : Tb} (h : KOk n A) {p : Int × Int} (hp : 1 ≤ p.1 ∧ p.1 < p.2 ∧ p.2 ≤ (n : Int)) (v : Int) : KOk n (putA A p v) := by
  unfold putA
  cases e : lookA A p with
  | some u =>
    have : (replA A p v).map (·.1) = A.map (·.1) := by unfold replA; rw [List.map_map]; rfl
    show KOk n (replA A p v)
    unfold KOk
    rw [this]; exact h
  | none =>
    show KOk n (A ++ [(p, v)])
    unfold KOk
    rw [List.map_append]
    refine ⟨List.nodup_append.mpr ⟨h.1, by simp, fun a ha b hb z => ?_⟩, fun q hq => ?_⟩
    · simp only [List.map_cons, List.map_nil, List.mem_singleton] at hb
      subst hb z
      exact look_none e ha
    · rcases List.mem_append.mp hq with hq | hq
      · exact h.2 q hq
      · simp only [List.map_cons, List.map_nil, List.mem_singleton] at hq
        subst hq; exact hp
theorem key_ok {n : Nat} {h : List Int} (g : Hg n h) {a : Nat} (H : a + 1 < n) : 1 ≤ (keyH h a).1 ∧ (keyH h a).1 < (keyH h a).2 ∧ (keyH h a).2 ≤ (n : Int) := by
  have h1 := g.rg a (by omega)
  have h2 := g.rg (a + 1) H
  have h3 : h.getD a 0 ≠ h.getD (a + 1) 0 := fun e => by
    have := g.inj _ _ (by omega) H e
    omega
  unfold keyH mn mx
  generalize h.getD a 0 = x at *
  generalize h.getD (a + 1) 0 = y at *
  by_cases c : y < x
  · rw [if_pos c, if_neg (by omega)]
    exact ⟨h2.1, c, h1.2⟩
  · rw [if_neg c, if_pos (by omega)]
    exact ⟨h1.1, by show x < y; omega, h2.2⟩
theorem kok_wnd {n : Nat} : ∀ (w : List Int) {h : List Int} {A : Tb}, Hg n h → KOk n A → Fit n w → KOk n (wndH h A w)
  | [], h, A, _, k, _ => k
  | l :: w, h, A, g, k, f => by
    obtain ⟨l0, l1⟩ := f l List.mem_cons_self
    have H : l.natAbs - 1 + 1 < n := by omega
    exact kok_wnd w (g.swp H) (kok_put k (key_ok g H) _) fun l hl => f l (List.mem_cons_of_mem _ hl)
theorem fl_nat (a P : Nat) : fl ((a : Int) + 1) ((P : Int) + 1) = (fN a P : Int) + 1 := by
  unfold fl fN
  by_cases h1 : P = a
  · rw [if_pos h1, beq_iff_eq.mpr (by omega), cond_true]; omega
  · rw [if_neg h1, beq_eq_false_iff_ne.mpr (by omega), cond_false]
    by_cases h2 : P = a + 1
    · rw [if_pos h2, beq_iff_eq.mpr (by omega), cond_true]
    · rw [if_neg h2, beq_eq_false_iff_ne.mpr (by omega), cond_false]
theorem cB_iff (a P Q : Nat) : cB ((P : Int) + 1) ((Q : Int) + 1) ((a : Int) + 1) = true ↔ (P = a ∧ Q = a + 1) ∨ (Q = a ∧ P = a + 1) := by
  unfold cB
  by_cases h : (P : Int) + 1 ≤ (Q : Int) + 1
  · rw [if_pos h]
    simp only [Bool.and_true, Bool.and_eq_true, beq_iff_eq]
    omega
  · rw [if_neg h]
    simp only [Bool.and_true, Bool.and_eq_true, beq_iff_eq]
    omega
theorem key_iff {n : Nat} {h : List Int} (g : Hg n h) {a P Q : Nat} (H : a + 1 < n) (hP : P < n) (hQ : Q < n) {i j : Int} (ei : h.getD P 0 = i) (ej : h.getD Q 0 = j) (hij : i < j) :
    keyH h a = (i, j) ↔ (P = a ∧ Q = a + 1) ∨ (Q = a ∧ P = a + 1) := by
  constructor
  · intro e
    unfold keyH mn mx at e
    have e1 := congrArg Prod.fst e
    have e2 := congrArg Prod.snd e
    simp only at e1 e2
    by_cases c : h.getD (a + 1) 0 < h.getD a 0
    · rw [if_pos c] at e1
      rw [if_neg (by omega)] at e2
      exact .inr ⟨g.inj _ _ hQ (by omega) (by rw [ej, e2]), g.inj _ _ hP H (by rw [ei, e1])⟩
    · rw [if_neg c] at e1
      have c2 : h.getD (a + 1) 0 > h.getD a 0 := by
        rcases Int.lt_trichotomy (h.getD (a + 1) 0) (h.getD a 0) with z | z | z
        · exact absurd z c
        · exact absurd (g.inj _ _ H (by omega) z) (by omega)
        · exact z
      rw [if_pos c2] at e2
      exact .inl ⟨g.inj _ _ hP (by omega) (by rw [ei, e1]), g.inj _ _ hQ H (by rw [ej, e2])⟩
  · rintro (⟨rfl, rfl⟩ | ⟨rfl, rfl⟩)
    · unfold keyH mn mx
      rw [ei, ej, if_neg (by omega), if_pos hij]
    · unfold keyH mn mx
      rw [ei, ej, if_pos hij, if_neg (by omega)]
theorem tot_law {n : Nat} : ∀ (w : List Int) {h : List Int} {A : Tb} {P Q : Nat} {i j t : Int}, Hg n h → Fit n w → P < n → Q < n → h.getD P 0 = i → h.getD Q 0 = j → i < j → tot A (i, j) = t →
    tot (wndH h A w) (i, j) = lawT w ((P : Int) + 1) ((Q : Int) + 1) t
  | [], h, A, P, Q, i, j, t, g, f, hP, hQ, ei, ej, hij, ht => ht
  | l :: w, h, A, P, Q, i, j, t, g, f, hP, hQ, ei, ej, hij, ht => by
    obtain ⟨l0, l1⟩ := f l List.mem_cons_self
    obtain ⟨a, ha⟩ : ∃ a, l.natAbs - 1 = a := ⟨_, rfl⟩
    have H : a + 1 < n := by omega
    have H' : a + 1 < h.length := by rw [g.len]; exact H
    have hA : (if l < 0 then -l else l) = (a : Int) + 1 := by split <;> omega
    show tot (wndH (swp h (l.natAbs - 1)) (putA A (keyH h (l.natAbs - 1)) (tot A (keyH h (l.natAbs - 1)) + sgn l)) w) (i, j) = lawT w (fl (if l < 0 then -l else l) _) (fl (if l < 0 then -l else l) _) (t + cond (cB _ _ (if l < 0 then -l else l)) (sgn l) 0)
    rw [ha, hA, fl_nat, fl_nat]
    refine tot_law w (g.swp H) (fun l hl => f l (List.mem_cons_of_mem _ hl)) (fN_lt H hP) (fN_lt H hQ) (by rw [swp_get H', fN_fN, ei]) (by rw [swp_get H', fN_fN, ej]) hij ?_
    rw [tot_put]
    by_cases hk : keyH h a = (i, j)
    · have hc := (cB_iff a P Q).mpr ((key_iff g H hP hQ ei ej hij).mp hk)
      rw [if_pos hk, hc, cond_true, hk, ht]
    · have hc : cB ((P : Int) + 1) ((Q : Int) + 1) ((a : Int) + 1) = false := by
        cases z : cB ((P : Int) + 1) ((Q : Int) + 1) ((a : Int) + 1) with
        | false => rfl
        | true => exact absurd ((key_iff g H hP hQ ei ej hij).mpr ((cB_iff a P Q).mp z)) hk
      rw [if_neg hk, hc, cond_false, ht]; omega
theorem wnd_law {n : Nat} {w : List Int} (f : Fit n w) {i j : Int} (h1 : 1 ≤ i) (h2 : i < j) (h3 : j ≤ n) : tot (wnd n w) (i, j) = lawT w i j 0 := by
  have := tot_law w (P := (i - 1).toNat) (Q := (j - 1).toNat) (i := i) (j := j) (t := 0) (A := []) (lins_hg n) f (by omega) (by omega) (by rw [lins_get (by omega)]; omega) (by rw [lins_get (by omega)]; omega) h2 rfl
  have e1 : (((i - 1).toNat : Nat) : Int) + 1 = i := by omega
  have e2 : (((j - 1).toNat : Nat) : Int) + 1 = j := by omega
  rw [e1, e2] at this
  exact this
def allP (m : Int) : List (Int × Int) := (lins m.toNat).flatMap fun i => (laterL m i).map fun j => (i, j)
theorem allP_mem {m : Int} {p : Int × Int} : p ∈ allP m ↔ 1 ≤ p.1 ∧ p.1 < p.2 ∧ p.2 ≤ m := by
  unfold allP laterL
  rw [List.mem_flatMap]
  constructor
  · rintro ⟨i, hi, h⟩
    obtain ⟨j, hj, rfl⟩ := List.mem_map.mp h
    have := lins_mem.mp hi
    have := rng_mem.mp hj
    simp only
    omega
  · rintro ⟨h1, h2, h3⟩
    exact ⟨p.1, lins_mem.mpr (by omega), List.mem_map.mpr ⟨p.2, rng_mem.mpr (by omega), rfl⟩⟩
theorem allP_ok {m : Int} (h1 : 2 ≤ m) (h2 : m ≤ 8) : (allP m).Nodup ∧ (allP m).Pairwise fun a b => leP a b = true := by
  have : m = 2 ∨ m = 3 ∨ m = 4 ∨ m = 5 ∨ m = 6 ∨ m = 7 ∨ m = 8 := by omega
  rcases this with rfl | rfl | rfl | rfl | rfl | rfl | rfl <;> decide +kernel
def trip (w : List Int) (p : Int × Int) : D := .tup [.int p.1, .int p.2, .int (lawT w p.1 p.2 0)]
theorem tri_filter (w : List Int) : ∀ ps : List (Int × Int), (ps.filterMap fun p => tri (lawT w p.1 p.2 0) p) = (ps.filter fun p => !(lawT w p.1 p.2 0 == 0)).map (trip w)
  | [] => rfl
  | p :: ps => by
    rw [List.filterMap_cons, tri_filter w ps]
    unfold tri
    cases h : (lawT w p.1 p.2 0 == 0) with
    | true => rw [cond_true, List.filter_cons_of_neg (by simp [h])]
    | false => rw [cond_false, List.filter_cons_of_pos (by simp [h])]; rfl
theorem flat_rows (w : List Int) (m : Int) : ∀ is : List Int, (is.flatMap fun i => rowT w i (laterL m i)) = (is.flatMap fun i => (laterL m i).map fun j => (i, j)).filterMap fun p => tri (lawT w p.1 p.2 0) p
  | [] => rfl
  | i :: is => by
    rw [List.flatMap_cons, List.flatMap_cons, List.filterMap_append, flat_rows w m is, List.filterMap_map]
    rfl
theorem filterMap_same {α β : Type} {f g : α → Option β} : ∀ {l : List α}, (∀ x ∈ l, f x = g x) → l.filterMap f = l.filterMap g
  | [], _ => rfl
  | x :: l, h => by
    rw [List.filterMap_cons, List.filterMap_cons, h x List.mem_cons_self, filterMap_same fun y hy => h y (List.mem_cons_of_mem _ hy)]
theorem windings_same {m : Int} {w : List Int} (h : WOk m w) : ((sortP ((wnd m.toNat w).map (·.1))).filterMap fun p => tri (tot (wnd m.toNat w) p) p) = (lins m.toNat).flatMap fun i => rowT w i (laterL m i) := by
  have hk : KOk m.toNat (wnd m.toNat w) := kok_wnd w (lins_hg _) ⟨List.nodup_nil, fun p hp => by cases hp⟩ h.fit
  have hm := h.m1
  have e1 : ((sortP ((wnd m.toNat w).map (·.1))).filterMap fun p => tri (tot (wnd m.toNat w) p) p) = (sortP ((wnd m.toNat w).map (·.1))).filterMap fun p => tri (lawT w p.1 p.2 0) p := filterMap_same fun p hp => by
    have := hk.2 p ((sortP_perm _).mem_iff.mp hp)
    rw [show tot (wnd m.toNat w) p = lawT w p.1 p.2 0 from wnd_law h.fit this.1 this.2.1 this.2.2]
  rw [e1, flat_rows, tri_filter, tri_filter]
  congr 1
  show _ = (allP m).filter _
  obtain ⟨a1, a2⟩ := allP_ok h.m1 h.m2
  have n1 : (sortP ((wnd m.toNat w).map (·.1))).Nodup := (sortP_perm _).nodup_iff.mpr hk.1
  refine sortedP_uniq ?_ ((sortP_sorted _).filter _) (a2.filter _)
  refine (List.perm_ext_iff_of_nodup (List.Pairwise.filter _ n1) (List.Pairwise.filter _ a1)).mpr fun p => ?_
  rw [List.mem_filter, List.mem_filter]
  constructor
  · rintro ⟨h1, h2⟩
    have := hk.2 p ((sortP_perm _).mem_iff.mp h1)
    exact ⟨allP_mem.mpr ⟨this.1, this.2.1, by omega⟩, h2⟩
  · rintro ⟨h1, h2⟩
    refine ⟨?_, h2⟩
    have hv := allP_mem.mp h1
    by_cases hp : p ∈ (wnd m.toNat w).map (·.1)
    · exact (sortP_perm _).mem_iff.mpr hp
    · exfalso
      have e := wnd_law h.fit hv.1 hv.2.1 (by omega)
      have e2 : tot (wnd m.toNat w) p = 0 := by unfold tot; rw [look_not hp]; rfl
      have e3 : lawT w p.1 p.2 0 = 0 := by rw [← e]; exact e2
      rw [e3] at h2
      exact absurd h2 (by decide)
theorem windings_law {m : Int} {w : List Int} (h : WOk m w) : g_windings [.int m, encW w] = .ok false (.tup ((lins m.toNat).flatMap fun i => rowT w i (laterL m i))) [] := by
  rw [windings_ok h, windings_same h]
end K34

set_option maxRecDepth 100000
set_option maxHeartbeats 4000000
namespace K34
open PySem PySem.Spec L2 DL
open PyProof.Rows hiding St
open DL (Env)
def rows (m : Int) (w : List Int) : List D := (lins m.toNat).flatMap fun i => rowT w i (laterL m i)
theorem rows_mem {m : Int} {w : List Int} {d : D} (h : d ∈ rows m w) : ∃ a b c : Int, d = .tup [.int a, .int b, .int c] := by
  obtain ⟨i, _, h⟩ := List.mem_flatMap.mp h
  obtain ⟨j, _, h⟩ := List.mem_filterMap.mp h
  unfold tri at h
  cases ht : (lawT w i j 0 == 0) with
  | true => rw [ht] at h; cases h
  | false => rw [ht, cond_false] at h; exact ⟨_, _, _, (Option.some.inj h).symm⟩
theorem pl_ints (n : Nat) (ns : List Int) : Pl (n + 1) (.tup (ns.map D.int)) := .inr ⟨_, .inl rfl, fun d hd => by
  obtain ⟨i, _, rfl⟩ := List.mem_map.mp hd
  exact pl_flat rfl n⟩
theorem pl_rows (n : Nat) (m : Int) (w : List Int) : Pl (n + 2) (.tup (rows m w)) := .inr ⟨_, .inl rfl, fun d hd => by
  obtain ⟨a, b, c, rfl⟩ := rows_mem hd
  exact pl_ints n [a, b, c]⟩
theorem like_right (b : Bool) (os : List Int) (m : Int) (w : List Int) (s : Int) (bs : List Int) :
    g_law_like 8 [.lst [.bl b, .tup (os.map D.int), .tup (rows m w), .int s, .tup (bs.map D.int)], .lst [.bl b, .tup (os.map D.int), .tup (rows m w), .int s, .tup (bs.map D.int)]] = .ok false (.bl true) [] := by
  refine like_refl 7 _ (.inr ⟨_, .inr rfl, fun d hd => ?_⟩)
  simp only [List.mem_cons, List.not_mem_nil, or_false] at hd
  rcases hd with rfl | rfl | rfl | rfl | rfl
  · exact pl_flat rfl _
  · exact pl_ints _ _
  · exact pl_rows _ _ _
  · exact pl_flat rfl _
  · exact pl_ints _ _
theorem right_ok {m : Int} {w : List Int} (h : WOk m w) : g_law_right [.int m, encW w] = .ok false (.bl true) [] := by
  have a1 := is_word_ok h
  have a2 := order_behind_ok h
  have a3 : g_windings [.int m, encW w] = .ok false (.tup (rows m w)) [] := windings_law h
  have a4 := sum_of_ok h
  have a5 := back_of_ok h
  have b2 := law_order_ok h
  have b3 : g_law_windings [.int m, encW w] = .ok false (.tup (rows m w)) [] := law_windings_ok h
  have b5 := law_back_ok w
  have b4 := fun x => law_sum_ok (.int m) w x .no
  have e := like_right true (hng (lins m.toNat) w) m w (w.map sgn).sum (w.reverse.map fun l => -l)
  unfold g_law_right m_law_right
  generalize hng (lins m.toNat) w = os at *
  generalize rows m w = rs at *
  generalize w.map sgn = ss at *
  generalize (w.reverse.map fun l => -l) = bs at *
  generalize w.map D.int = ws at *
  simp only [DL.runF, DL.startE, DL.endF, DL.outsOf, DL.seqS, DL.ifS, DL.retS, DL.retN, DL.drop, DL.noList, DL.noLists, DL.noListTop, DL.asg, DL.asgT, DL.toSl, DL.setSl, DL.leak1, DL.leaks, bnd, DL.bndS, DL.evVar, DL.evC, DL.res, DL.resS, DL.bin2, DL.un1, DL.app1, DL.app2, DL.callB, DL.appA, DL.pinO, DL.nilA, DL.consA, DL.mkT, DL.mkL, DL.tst, DL.truth, DL.truthD, DL.andT, DL.orT, DL.notT, DL.andV, DL.orV, DL.notV, DL.ifE, DL.ifT, DL.chain, DL.isi, DL.gIsi, DL.gLen, DL.gAbs, DL.gInt, DL.max_int, DL.min_int, DL.gList, DL.gTuple, DL.gAdd, DL.gSub, DL.gMul, DL.gFdiv, DL.gMod, DL.gPow, DL.gNeg, DL.gCmp, DL.gLt, DL.eq_int, DL.ne_int, DL.gIx, DL.gRev, DL.gSl, DL.slc, DL.noP, DL.someP, DL.gIsN, DL.gNotN, DL.isNonD, DL.seqX, DL.seqD, DL.itQ, DL.itR1, DL.itR2, DL.call, DL.noErr, DL.callF, DL.argsD, DL.ioSl, DL.rdSl, DL.mineAt, DL.nodupB, DL.leakSl, DL.putIo, DL.lookN, DL.putAt, DL.reTop, DL.topAt, DL.putTop, DL.apnd, DL.stoL, DL.stoT, DL.par2, DL.put2, DL.par3, DL.put3, DL.tgN, DL.tgTup, DL.tgCons, DL.tgNil, DL.forS, DL.wipeE, DL.restE, DL.yesT, DL.lcStep, DL.mutL, DL.gInsert, DL.raiseS, DL.nop, DL.brk, DL.cont, DL.ite_out, List.map_cons, List.map_nil, List.zip_cons_cons, List.zip_nil_right, List.zip_nil_left, List.length_cons, List.length_nil, List.cons_append, List.nil_append, List.replicate_succ, List.replicate_zero, List.getElem?_cons_zero, List.getElem?_cons_succ, List.getElem?_nil, List.set_cons_zero, List.set_cons_succ, List.all_cons, List.all_nil, List.isEmpty_nil, List.isEmpty_cons, List.contains_nil, List.contains_cons, List.elem_nil, Bool.false_eq_true, if_true, if_false, ite_true, ite_false, reduceIte, Bool.and_true, Bool.true_and, Bool.and_false, Bool.false_and, Bool.or_true, Bool.true_or, Bool.or_false, Bool.false_or, Bool.not_true, Bool.not_false, Option.bind_some, Option.bind_none, Option.map_some, Option.map_none, Nat.reduceAdd, Nat.reduceSub, Nat.reduceEqDiff, Nat.reduceLeDiff, Nat.zero_add, decide_true, decide_false, beq_self_eq_true, String.reduceBEq, String.reduceEq, reduceCtorEq, Int.reduceNeg, Int.reduceLT, Int.reduceLE, Int.reduceAdd, Int.reduceSub, Int.reduceMul, Int.reduceEq, Int.reduceBEq, Int.natCast_zero, Int.natCast_one, Int.cast_ofNat_Int, DL.atI_0, DL.atI_1, DL.atI_2, DL.atI_3, DL.atI_4, DL.atI_5, DL.atI_6, DL.cut_tail, DL.cut5_02, DL.cut5_24, List.take_succ_cons, List.take_zero, List.take_nil, List.drop_succ_cons, List.drop_zero, List.drop_nil, Int.toNat_natCast, Int.reduceToNat, Int.reducePow, Nat.reducePow, Nat.reduceMul, and_self, and_true, true_and, List.length_map, List.map_map, decide_eq_true_eq, a1, a2, a3, a4, a5, b2, b3, b4, b5, gSum, ints_map, e]
end K34

set_option maxRecDepth 100000
set_option maxHeartbeats 4000000
namespace K34
open PySem PySem.Spec L2 DL
open PyProof.Rows hiding St
open DL (Env)
def One (d : D) : Prop := (∃ i : Int, d = .int i) ∨ d = .bl true ∨ d = .non ∨ d = .str "1" ∨ d = .tup [.int 1]
theorem one_lay : ∀ {ds : List D}, (∀ d ∈ ds, One d) → PyData.canLayAll0 (toPys ds) = true ∧ PyData.depthAll (toPys ds) ≤ 1
  | [], _ => ⟨rfl, Nat.zero_le _⟩
  | d :: ds, h => by
    obtain ⟨h1, h2⟩ := one_lay (ds := ds) fun x hx => h x (List.mem_cons_of_mem _ hx)
    have k : (toPy d).canLay0 = true ∧ (toPy d).depth ≤ 1 := by
      rcases h d List.mem_cons_self with ⟨i, rfl⟩ | rfl | rfl | rfl | rfl
      · exact ⟨rfl, Nat.zero_le _⟩
      · exact ⟨rfl, Nat.zero_le _⟩
      · exact ⟨rfl, Nat.zero_le _⟩
      · exact ⟨by decide +kernel, by decide +kernel⟩
      · exact ⟨by decide +kernel, by decide +kernel⟩
    refine ⟨?_, ?_⟩
    · show ((toPy d).canLay0 && PyData.canLayAll0 (toPys ds)) = true
      rw [k.1, h1]; rfl
    · show max (toPy d).depth (PyData.depthAll (toPys ds)) ≤ 1
      have := k.2
      omega
theorem eq_one_nil {ds : List D} (h : ∀ d ∈ ds, One d) : gEq (.lst ds) (.lst []) = some (.d (.bl ds.isEmpty)) := by
  obtain ⟨h1, h2⟩ := one_lay h
  have hs : shaped (.lst ds) = true := by
    show (PyData.canLayAll0 (toPys ds) && decide (PyData.depthAll (toPys ds) + 1 ≤ 64)) = true
    rw [h1, decide_eq_true (by omega)]; rfl
  have e : eqD (.lst ds) (.lst []) = ds.isEmpty := by cases ds <;> rfl
  show (if shaped (.lst ds) && shaped (.lst []) then some (Od.d (.bl (eqD (.lst ds) (.lst [])))) else none) = _
  rw [hs, e]; rfl
def badL (m : Int) (d : D) : Bool := match d with
  | .int i => !(decide (1 ≤ (if i < 0 then -i else i)) && decide ((if i < 0 then -i else i) < m))
  | _ => true
theorem bad_let {m : Int} (d : D) : badL m d = !letB m d := by
  cases d with
  | int i =>
    show (!(decide (1 ≤ (if i < 0 then -i else i)) && decide ((if i < 0 then -i else i) < m))) = !((decide (1 - m ≤ i) && decide (i ≤ m - 1)) && !(i == 0))
    congr 1
    rw [Bool.eq_iff_iff]
    simp only [Bool.and_eq_true, decide_eq_true_eq, Bool.not_eq_true', beq_eq_false_iff_ne, ne_eq]
    by_cases h : i < 0
    · rw [if_pos h]; omega
    · rw [if_neg h]; omega
  | _ => rfl
theorem is_word_step (m : Int) (V X : D) (d : D) (h : One d) :
    lcStep (tgN 3) (orT (tst (bin2 g_ne (noErr (DL.call [false] g_law_sort (consA (evVar 3) (nilA)))) (evC (.int 2)))) (notT (tst (chain g_le g_lt (evC (.int 1)) (callB gAbs (consA (evVar 3) (nilA))) (evVar 0))))) (evVar 3) [3] d [.val (.int m), .val V, .val X, .no] = .ok (cond (badL m d) (some d) none) [.val (.int m), .val V, .val X, .no] := by
  rcases h with ⟨i, rfl⟩ | rfl | rfl | rfl | rfl
  · cases h1 : decide (1 ≤ (if i < 0 then -i else i)) <;> cases h2 : decide ((if i < 0 then -i else i) < m) <;> simp only [DL.runF, DL.startE, DL.endF, DL.outsOf, DL.seqS, DL.ifS, DL.retS, DL.retN, DL.drop, DL.noList, DL.noLists, DL.noListTop, DL.asg, DL.asgT, DL.toSl, DL.setSl, DL.leak1, DL.leaks, bnd, DL.bndS, DL.evVar, DL.evC, DL.res, DL.resS, DL.bin2, DL.un1, DL.app1, DL.app2, DL.callB, DL.appA, DL.pinO, DL.nilA, DL.consA, DL.mkT, DL.mkL, DL.tst, DL.truth, DL.truthD, DL.andT, DL.orT, DL.notT, DL.andV, DL.orV, DL.notV, DL.ifE, DL.ifT, DL.chain, DL.isi, DL.gIsi, DL.gLen, DL.gAbs, DL.gInt, DL.max_int, DL.min_int, DL.gList, DL.gTuple, DL.gAdd, DL.gSub, DL.gMul, DL.gFdiv, DL.gMod, DL.gPow, DL.gNeg, DL.gCmp, DL.gLt, DL.eq_int, DL.ne_int, DL.gIx, DL.gRev, DL.gSl, DL.slc, DL.noP, DL.someP, DL.gIsN, DL.gNotN, DL.isNonD, DL.seqX, DL.seqD, DL.itQ, DL.itR1, DL.itR2, DL.call, DL.noErr, DL.callF, DL.argsD, DL.ioSl, DL.rdSl, DL.mineAt, DL.nodupB, DL.leakSl, DL.putIo, DL.lookN, DL.putAt, DL.reTop, DL.topAt, DL.putTop, DL.apnd, DL.stoL, DL.stoT, DL.par2, DL.put2, DL.par3, DL.put3, DL.tgN, DL.tgTup, DL.tgCons, DL.tgNil, DL.forS, DL.wipeE, DL.restE, DL.yesT, DL.lcStep, DL.mutL, DL.gInsert, DL.raiseS, DL.nop, DL.brk, DL.cont, DL.ite_out, List.map_cons, List.map_nil, List.zip_cons_cons, List.zip_nil_right, List.zip_nil_left, List.length_cons, List.length_nil, List.cons_append, List.nil_append, List.replicate_succ, List.replicate_zero, List.getElem?_cons_zero, List.getElem?_cons_succ, List.getElem?_nil, List.set_cons_zero, List.set_cons_succ, List.all_cons, List.all_nil, List.isEmpty_nil, List.isEmpty_cons, List.contains_nil, List.contains_cons, List.elem_nil, Bool.false_eq_true, if_true, if_false, ite_true, ite_false, reduceIte, Bool.and_true, Bool.true_and, Bool.and_false, Bool.false_and, Bool.or_true, Bool.true_or, Bool.or_false, Bool.false_or, Bool.not_true, Bool.not_false, Option.bind_some, Option.bind_none, Option.map_some, Option.map_none, Nat.reduceAdd, Nat.reduceSub, Nat.reduceEqDiff, Nat.reduceLeDiff, Nat.zero_add, decide_true, decide_false, beq_self_eq_true, String.reduceBEq, String.reduceEq, reduceCtorEq, Int.reduceNeg, Int.reduceLT, Int.reduceLE, Int.reduceAdd, Int.reduceSub, Int.reduceMul, Int.reduceEq, Int.reduceBEq, Int.natCast_zero, Int.natCast_one, Int.cast_ofNat_Int, DL.atI_0, DL.atI_1, DL.atI_2, DL.atI_3, DL.atI_4, DL.atI_5, DL.atI_6, DL.cut_tail, DL.cut5_02, DL.cut5_24, List.take_succ_cons, List.take_zero, List.take_nil, List.drop_succ_cons, List.drop_zero, List.drop_nil, Int.toNat_natCast, Int.reduceToNat, Int.reducePow, Nat.reducePow, Nat.reduceMul, and_self, and_true, true_and, List.length_map, List.map_map, decide_eq_true_eq, law_sort_eq, sortN, badL, h1, h2, cond_true, cond_false]
  · simp only [DL.runF, DL.startE, DL.endF, DL.outsOf, DL.seqS, DL.ifS, DL.retS, DL.retN, DL.drop, DL.noList, DL.noLists, DL.noListTop, DL.asg, DL.asgT, DL.toSl, DL.setSl, DL.leak1, DL.leaks, bnd, DL.bndS, DL.evVar, DL.evC, DL.res, DL.resS, DL.bin2, DL.un1, DL.app1, DL.app2, DL.callB, DL.appA, DL.pinO, DL.nilA, DL.consA, DL.mkT, DL.mkL, DL.tst, DL.truth, DL.truthD, DL.andT, DL.orT, DL.notT, DL.andV, DL.orV, DL.notV, DL.ifE, DL.ifT, DL.chain, DL.isi, DL.gIsi, DL.gLen, DL.gAbs, DL.gInt, DL.max_int, DL.min_int, DL.gList, DL.gTuple, DL.gAdd, DL.gSub, DL.gMul, DL.gFdiv, DL.gMod, DL.gPow, DL.gNeg, DL.gCmp, DL.gLt, DL.eq_int, DL.ne_int, DL.gIx, DL.gRev, DL.gSl, DL.slc, DL.noP, DL.someP, DL.gIsN, DL.gNotN, DL.isNonD, DL.seqX, DL.seqD, DL.itQ, DL.itR1, DL.itR2, DL.call, DL.noErr, DL.callF, DL.argsD, DL.ioSl, DL.rdSl, DL.mineAt, DL.nodupB, DL.leakSl, DL.putIo, DL.lookN, DL.putAt, DL.reTop, DL.topAt, DL.putTop, DL.apnd, DL.stoL, DL.stoT, DL.par2, DL.put2, DL.par3, DL.put3, DL.tgN, DL.tgTup, DL.tgCons, DL.tgNil, DL.forS, DL.wipeE, DL.restE, DL.yesT, DL.lcStep, DL.mutL, DL.gInsert, DL.raiseS, DL.nop, DL.brk, DL.cont, DL.ite_out, List.map_cons, List.map_nil, List.zip_cons_cons, List.zip_nil_right, List.zip_nil_left, List.length_cons, List.length_nil, List.cons_append, List.nil_append, List.replicate_succ, List.replicate_zero, List.getElem?_cons_zero, List.getElem?_cons_succ, List.getElem?_nil, List.set_cons_zero, List.set_cons_succ, List.all_cons, List.all_nil, List.isEmpty_nil, List.isEmpty_cons, List.contains_nil, List.contains_cons, List.elem_nil, Bool.false_eq_true, if_true, if_false, ite_true, ite_false, reduceIte, Bool.and_true, Bool.true_and, Bool.and_false, Bool.false_and, Bool.or_true, Bool.true_or, Bool.or_false, Bool.false_or, Bool.not_true, Bool.not_false, Option.bind_some, Option.bind_none, Option.map_some, Option.map_none, Nat.reduceAdd, Nat.reduceSub, Nat.reduceEqDiff, Nat.reduceLeDiff, Nat.zero_add, decide_true, decide_false, beq_self_eq_true, String.reduceBEq, String.reduceEq, reduceCtorEq, Int.reduceNeg, Int.reduceLT, Int.reduceLE, Int.reduceAdd, Int.reduceSub, Int.reduceMul, Int.reduceEq, Int.reduceBEq, Int.natCast_zero, Int.natCast_one, Int.cast_ofNat_Int, DL.atI_0, DL.atI_1, DL.atI_2, DL.atI_3, DL.atI_4, DL.atI_5, DL.atI_6, DL.cut_tail, DL.cut5_02, DL.cut5_24, List.take_succ_cons, List.take_zero, List.take_nil, List.drop_succ_cons, List.drop_zero, List.drop_nil, Int.toNat_natCast, Int.reduceToNat, Int.reducePow, Nat.reducePow, Nat.reduceMul, and_self, and_true, true_and, List.length_map, List.map_map, decide_eq_true_eq, law_sort_eq, sortN, badL, cond_true]
  · simp only [DL.runF, DL.startE, DL.endF, DL.outsOf, DL.seqS, DL.ifS, DL.retS, DL.retN, DL.drop, DL.noList, DL.noLists, DL.noListTop, DL.asg, DL.asgT, DL.toSl, DL.setSl, DL.leak1, DL.leaks, bnd, DL.bndS, DL.evVar, DL.evC, DL.res, DL.resS, DL.bin2, DL.un1, DL.app1, DL.app2, DL.callB, DL.appA, DL.pinO, DL.nilA, DL.consA, DL.mkT, DL.mkL, DL.tst, DL.truth, DL.truthD, DL.andT, DL.orT, DL.notT, DL.andV, DL.orV, DL.notV, DL.ifE, DL.ifT, DL.chain, DL.isi, DL.gIsi, DL.gLen, DL.gAbs, DL.gInt, DL.max_int, DL.min_int, DL.gList, DL.gTuple, DL.gAdd, DL.gSub, DL.gMul, DL.gFdiv, DL.gMod, DL.gPow, DL.gNeg, DL.gCmp, DL.gLt, DL.eq_int, DL.ne_int, DL.gIx, DL.gRev, DL.gSl, DL.slc, DL.noP, DL.someP, DL.gIsN, DL.gNotN, DL.isNonD, DL.seqX, DL.seqD, DL.itQ, DL.itR1, DL.itR2, DL.call, DL.noErr, DL.callF, DL.argsD, DL.ioSl, DL.rdSl, DL.mineAt, DL.nodupB, DL.leakSl, DL.putIo, DL.lookN, DL.putAt, DL.reTop, DL.topAt, DL.putTop, DL.apnd, DL.stoL, DL.stoT, DL.par2, DL.put2, DL.par3, DL.put3, DL.tgN, DL.tgTup, DL.tgCons, DL.tgNil, DL.forS, DL.wipeE, DL.restE, DL.yesT, DL.lcStep, DL.mutL, DL.gInsert, DL.raiseS, DL.nop, DL.brk, DL.cont, DL.ite_out, List.map_cons, List.map_nil, List.zip_cons_cons, List.zip_nil_right, List.zip_nil_left, List.length_cons, List.length_nil, List.cons_append, List.nil_append, List.replicate_succ, List.replicate_zero, List.getElem?_cons_zero, List.getElem?_cons_succ, List.getElem?_nil, List.set_cons_zero, List.set_cons_succ, List.all_cons, List.all_nil, List.isEmpty_nil, List.isEmpty_cons, List.contains_nil, List.contains_cons, List.elem_nil, Bool.false_eq_true, if_true, if_false, ite_true, ite_false, reduceIte, Bool.and_true, Bool.true_and, Bool.and_false, Bool.false_and, Bool.or_true, Bool.true_or, Bool.or_false, Bool.false_or, Bool.not_true, Bool.not_false, Option.bind_some, Option.bind_none, Option.map_some, Option.map_none, Nat.reduceAdd, Nat.reduceSub, Nat.reduceEqDiff, Nat.reduceLeDiff, Nat.zero_add, decide_true, decide_false, beq_self_eq_true, String.reduceBEq, String.reduceEq, reduceCtorEq, Int.reduceNeg, Int.reduceLT, Int.reduceLE, Int.reduceAdd, Int.reduceSub, Int.reduceMul, Int.reduceEq, Int.reduceBEq, Int.natCast_zero, Int.natCast_one, Int.cast_ofNat_Int, DL.atI_0, DL.atI_1, DL.atI_2, DL.atI_3, DL.atI_4, DL.atI_5, DL.atI_6, DL.cut_tail, DL.cut5_02, DL.cut5_24, List.take_succ_cons, List.take_zero, List.take_nil, List.drop_succ_cons, List.drop_zero, List.drop_nil, Int.toNat_natCast, Int.reduceToNat, Int.reducePow, Nat.reducePow, Nat.reduceMul, and_self, and_true, true_and, List.length_map, List.map_map, decide_eq_true_eq, law_sort_eq, sortN, badL, cond_true]
  · simp only [DL.runF, DL.startE, DL.endF, DL.outsOf, DL.seqS, DL.ifS, DL.retS, DL.retN, DL.drop, DL.noList, DL.noLists, DL.noListTop, DL.asg, DL.asgT, DL.toSl, DL.setSl, DL.leak1, DL.leaks, bnd, DL.bndS, DL.evVar, DL.evC, DL.res, DL.resS, DL.bin2, DL.un1, DL.app1, DL.app2, DL.callB, DL.appA, DL.pinO, DL.nilA, DL.consA, DL.mkT, DL.mkL, DL.tst, DL.truth, DL.truthD, DL.andT, DL.orT, DL.notT, DL.andV, DL.orV, DL.notV, DL.ifE, DL.ifT, DL.chain, DL.isi, DL.gIsi, DL.gLen, DL.gAbs, DL.gInt, DL.max_int, DL.min_int, DL.gList, DL.gTuple, DL.gAdd, DL.gSub, DL.gMul, DL.gFdiv, DL.gMod, DL.gPow, DL.gNeg, DL.gCmp, DL.gLt, DL.eq_int, DL.ne_int, DL.gIx, DL.gRev, DL.gSl, DL.slc, DL.noP, DL.someP, DL.gIsN, DL.gNotN, DL.isNonD, DL.seqX, DL.seqD, DL.itQ, DL.itR1, DL.itR2, DL.call, DL.noErr, DL.callF, DL.argsD, DL.ioSl, DL.rdSl, DL.mineAt, DL.nodupB, DL.leakSl, DL.putIo, DL.lookN, DL.putAt, DL.reTop, DL.topAt, DL.putTop, DL.apnd, DL.stoL, DL.stoT, DL.par2, DL.put2, DL.par3, DL.put3, DL.tgN, DL.tgTup, DL.tgCons, DL.tgNil, DL.forS, DL.wipeE, DL.restE, DL.yesT, DL.lcStep, DL.mutL, DL.gInsert, DL.raiseS, DL.nop, DL.brk, DL.cont, DL.ite_out, List.map_cons, List.map_nil, List.zip_cons_cons, List.zip_nil_right, List.zip_nil_left, List.length_cons, List.length_nil, List.cons_append, List.nil_append, List.replicate_succ, List.replicate_zero, List.getElem?_cons_zero, List.getElem?_cons_succ, List.getElem?_nil, List.set_cons_zero, List.set_cons_succ, List.all_cons, List.all_nil, List.isEmpty_nil, List.isEmpty_cons, List.contains_nil, List.contains_cons, List.elem_nil, Bool.false_eq_true, if_true, if_false, ite_true, ite_false, reduceIte, Bool.and_true, Bool.true_and, Bool.and_false, Bool.false_and, Bool.or_true, Bool.true_or, Bool.or_false, Bool.false_or, Bool.not_true, Bool.not_false, Option.bind_some, Option.bind_none, Option.map_some, Option.map_none, Nat.reduceAdd, Nat.reduceSub, Nat.reduceEqDiff, Nat.reduceLeDiff, Nat.zero_add, decide_true, decide_false, beq_self_eq_true, String.reduceBEq, String.reduceEq, reduceCtorEq, Int.reduceNeg, Int.reduceLT, Int.reduceLE, Int.reduceAdd, Int.reduceSub, Int.reduceMul, Int.reduceEq, Int.reduceBEq, Int.natCast_zero, Int.natCast_one, Int.cast_ofNat_Int, DL.atI_0, DL.atI_1, DL.atI_2, DL.atI_3, DL.atI_4, DL.atI_5, DL.atI_6, DL.cut_tail, DL.cut5_02, DL.cut5_24, List.take_succ_cons, List.take_zero, List.take_nil, List.drop_succ_cons, List.drop_zero, List.drop_nil, Int.toNat_natCast, Int.reduceToNat, Int.reducePow, Nat.reducePow, Nat.reduceMul, and_self, and_true, true_and, List.length_map, List.map_map, decide_eq_true_eq, law_sort_eq, sortN, badL, cond_true]
  · simp only [DL.runF, DL.startE, DL.endF, DL.outsOf, DL.seqS, DL.ifS, DL.retS, DL.retN, DL.drop, DL.noList, DL.noLists, DL.noListTop, DL.asg, DL.asgT, DL.toSl, DL.setSl, DL.leak1, DL.leaks, bnd, DL.bndS, DL.evVar, DL.evC, DL.res, DL.resS, DL.bin2, DL.un1, DL.app1, DL.app2, DL.callB, DL.appA, DL.pinO, DL.nilA, DL.consA, DL.mkT, DL.mkL, DL.tst, DL.truth, DL.truthD, DL.andT, DL.orT, DL.notT, DL.andV, DL.orV, DL.notV, DL.ifE, DL.ifT, DL.chain, DL.isi, DL.gIsi, DL.gLen, DL.gAbs, DL.gInt, DL.max_int, DL.min_int, DL.gList, DL.gTuple, DL.gAdd, DL.gSub, DL.gMul, DL.gFdiv, DL.gMod, DL.gPow, DL.gNeg, DL.gCmp, DL.gLt, DL.eq_int, DL.ne_int, DL.gIx, DL.gRev, DL.gSl, DL.slc, DL.noP, DL.someP, DL.gIsN, DL.gNotN, DL.isNonD, DL.seqX, DL.seqD, DL.itQ, DL.itR1, DL.itR2, DL.call, DL.noErr, DL.callF, DL.argsD, DL.ioSl, DL.rdSl, DL.mineAt, DL.nodupB, DL.leakSl, DL.putIo, DL.lookN, DL.putAt, DL.reTop, DL.topAt, DL.putTop, DL.apnd, DL.stoL, DL.stoT, DL.par2, DL.put2, DL.par3, DL.put3, DL.tgN, DL.tgTup, DL.tgCons, DL.tgNil, DL.forS, DL.wipeE, DL.restE, DL.yesT, DL.lcStep, DL.mutL, DL.gInsert, DL.raiseS, DL.nop, DL.brk, DL.cont, DL.ite_out, List.map_cons, List.map_nil, List.zip_cons_cons, List.zip_nil_right, List.zip_nil_left, List.length_cons, List.length_nil, List.cons_append, List.nil_append, List.replicate_succ, List.replicate_zero, List.getElem?_cons_zero, List.getElem?_cons_succ, List.getElem?_nil, List.set_cons_zero, List.set_cons_succ, List.all_cons, List.all_nil, List.isEmpty_nil, List.isEmpty_cons, List.contains_nil, List.contains_cons, List.elem_nil, Bool.false_eq_true, if_true, if_false, ite_true, ite_false, reduceIte, Bool.and_true, Bool.true_and, Bool.and_false, Bool.false_and, Bool.or_true, Bool.true_or, Bool.or_false, Bool.false_or, Bool.not_true, Bool.not_false, Option.bind_some, Option.bind_none, Option.map_some, Option.map_none, Nat.reduceAdd, Nat.reduceSub, Nat.reduceEqDiff, Nat.reduceLeDiff, Nat.zero_add, decide_true, decide_false, beq_self_eq_true, String.reduceBEq, String.reduceEq, reduceCtorEq, Int.reduceNeg, Int.reduceLT, Int.reduceLE, Int.reduceAdd, Int.reduceSub, Int.reduceMul, Int.reduceEq, Int.reduceBEq, Int.natCast_zero, Int.natCast_one, Int.cast_ofNat_Int, DL.atI_0, DL.atI_1, DL.atI_2, DL.atI_3, DL.atI_4, DL.atI_5, DL.atI_6, DL.cut_tail, DL.cut5_02, DL.cut5_24, List.take_succ_cons, List.take_zero, List.take_nil, List.drop_succ_cons, List.drop_zero, List.drop_nil, Int.toNat_natCast, Int.reduceToNat, Int.reducePow, Nat.reducePow, Nat.reduceMul, and_self, and_true, true_and, List.length_map, List.map_map, decide_eq_true_eq, law_sort_eq, sortN, badL, cond_true]
theorem filterMap_bad (p : D → Bool) : ∀ ds : List D, (ds.filterMap fun d => cond (p d) (some d) none) = ds.filter p
  | [] => rfl
  | d :: ds => by
    rw [List.filterMap_cons, filterMap_bad p ds]
    cases h : p d with
    | true => rw [cond_true, List.filter_cons_of_pos h]
    | false => rw [cond_false, List.filter_cons_of_neg (by simp [h])]
theorem filter_empty (m : Int) : ∀ ds : List D, (ds.filter (badL m)).isEmpty = ds.all (letB m)
  | [] => rfl
  | d :: ds => by
    have hb := bad_let (m := m) d
    rw [List.all_cons, ← filter_empty m ds]
    cases h : letB m d with
    | true => rw [List.filter_cons_of_neg (by rw [hb, h]; decide)]; rfl
    | false => rw [List.filter_cons_of_pos (by rw [hb, h]; rfl)]; rfl
theorem is_word_list (m : Int) (ds : List D) (h : ∀ d ∈ ds, One d) (X : D) : c_law_is_word_1 [.val (.int m), .val (.tup ds), .val X, .no] = .ok (.f (.lst (ds.filter (badL m)))) [.val (.int m), .val (.tup ds), .val X, .no] := by
  unfold c_law_is_word_1
  rw [← filterMap_bad]
  exact (lc_eq (ds := ds) (e1 := [.val (.int m), .val (.tup ds), .val X, .no]) (fun d => cond (badL m d) (some d) none) (by simp only [DL.runF, DL.startE, DL.endF, DL.outsOf, DL.seqS, DL.ifS, DL.retS, DL.retN, DL.drop, DL.noList, DL.noLists, DL.noListTop, DL.asg, DL.asgT, DL.toSl, DL.setSl, DL.leak1, DL.leaks, bnd, DL.bndS, DL.evVar, DL.evC, DL.res, DL.resS, DL.bin2, DL.un1, DL.app1, DL.app2, DL.callB, DL.appA, DL.pinO, DL.nilA, DL.consA, DL.mkT, DL.mkL, DL.tst, DL.truth, DL.truthD, DL.andT, DL.orT, DL.notT, DL.andV, DL.orV, DL.notV, DL.ifE, DL.ifT, DL.chain, DL.isi, DL.gIsi, DL.gLen, DL.gAbs, DL.gInt, DL.max_int, DL.min_int, DL.gList, DL.gTuple, DL.gAdd, DL.gSub, DL.gMul, DL.gFdiv, DL.gMod, DL.gPow, DL.gNeg, DL.gCmp, DL.gLt, DL.eq_int, DL.ne_int, DL.gIx, DL.gRev, DL.gSl, DL.slc, DL.noP, DL.someP, DL.gIsN, DL.gNotN, DL.isNonD, DL.seqX, DL.seqD, DL.itQ, DL.itR1, DL.itR2, DL.call, DL.noErr, DL.callF, DL.argsD, DL.ioSl, DL.rdSl, DL.mineAt, DL.nodupB, DL.leakSl, DL.putIo, DL.lookN, DL.putAt, DL.reTop, DL.topAt, DL.putTop, DL.apnd, DL.stoL, DL.stoT, DL.par2, DL.put2, DL.par3, DL.put3, DL.tgN, DL.tgTup, DL.tgCons, DL.tgNil, DL.forS, DL.wipeE, DL.restE, DL.yesT, DL.lcStep, DL.mutL, DL.gInsert, DL.raiseS, DL.nop, DL.brk, DL.cont, DL.ite_out, List.map_cons, List.map_nil, List.zip_cons_cons, List.zip_nil_right, List.zip_nil_left, List.length_cons, List.length_nil, List.cons_append, List.nil_append, List.replicate_succ, List.replicate_zero, List.getElem?_cons_zero, List.getElem?_cons_succ, List.getElem?_nil, List.set_cons_zero, List.set_cons_succ, List.all_cons, List.all_nil, List.isEmpty_nil, List.isEmpty_cons, List.contains_nil, List.contains_cons, List.elem_nil, Bool.false_eq_true, if_true, if_false, ite_true, ite_false, reduceIte, Bool.and_true, Bool.true_and, Bool.and_false, Bool.false_and, Bool.or_true, Bool.true_or, Bool.or_false, Bool.false_or, Bool.not_true, Bool.not_false, Option.bind_some, Option.bind_none, Option.map_some, Option.map_none, Nat.reduceAdd, Nat.reduceSub, Nat.reduceEqDiff, Nat.reduceLeDiff, Nat.zero_add, decide_true, decide_false, beq_self_eq_true, String.reduceBEq, String.reduceEq, reduceCtorEq, Int.reduceNeg, Int.reduceLT, Int.reduceLE, Int.reduceAdd, Int.reduceSub, Int.reduceMul, Int.reduceEq, Int.reduceBEq, Int.natCast_zero, Int.natCast_one, Int.cast_ofNat_Int, DL.atI_0, DL.atI_1, DL.atI_2, DL.atI_3, DL.atI_4, DL.atI_5, DL.atI_6, DL.cut_tail, DL.cut5_02, DL.cut5_24, List.take_succ_cons, List.take_zero, List.take_nil, List.drop_succ_cons, List.drop_zero, List.drop_nil, Int.toNat_natCast, Int.reduceToNat, Int.reducePow, Nat.reducePow, Nat.reduceMul, and_self, and_true, true_and, List.length_map, List.map_map, decide_eq_true_eq]) fun d hd => is_word_step m (.tup ds) X d (h d hd)).trans rfl
theorem law_is_word_tup {m : Int} (ds : List D) (h : ∀ d ∈ ds, One d) : g_law_is_word [.int m, .tup ds, .int 60] = .ok false (.bl (wordB m (.tup ds))) [] := by
  have e0 : wordB m (.tup ds) = (decide ((ds.length : Int) ≤ 60) && ds.all (letB m)) := by
    show ((decide ((0 : Int) ≤ (ds.length : Int)) && decide ((ds.length : Int) ≤ 60)) && ds.all (letB m)) = _
    rw [decide_eq_true (show (0 : Int) ≤ (ds.length : Int) by omega), Bool.true_and]
  have hc := is_word_list m ds h (.int 60)
  have he := eq_one_nil (ds := ds.filter (badL m)) fun d hd => h d (List.mem_filter.mp hd).1
  rw [filter_empty] at he
  rw [e0]
  unfold g_law_is_word m_law_is_word
  by_cases hl : (60 : Int) < (ds.length : Int)
  · have h1 : decide ((60 : Int) < (ds.length : Int)) = true := decide_eq_true hl
    have h2 : decide ((ds.length : Int) ≤ 60) = false := decide_eq_false (by omega)
    simp only [DL.runF, DL.startE, DL.endF, DL.outsOf, DL.seqS, DL.ifS, DL.retS, DL.retN, DL.drop, DL.noList, DL.noLists, DL.noListTop, DL.asg, DL.asgT, DL.toSl, DL.setSl, DL.leak1, DL.leaks, bnd, DL.bndS, DL.evVar, DL.evC, DL.res, DL.resS, DL.bin2, DL.un1, DL.app1, DL.app2, DL.callB, DL.appA, DL.pinO, DL.nilA, DL.consA, DL.mkT, DL.mkL, DL.tst, DL.truth, DL.truthD, DL.andT, DL.orT, DL.notT, DL.andV, DL.orV, DL.notV, DL.ifE, DL.ifT, DL.chain, DL.isi, DL.gIsi, DL.gLen, DL.gAbs, DL.gInt, DL.max_int, DL.min_int, DL.gList, DL.gTuple, DL.gAdd, DL.gSub, DL.gMul, DL.gFdiv, DL.gMod, DL.gPow, DL.gNeg, DL.gCmp, DL.gLt, DL.eq_int, DL.ne_int, DL.gIx, DL.gRev, DL.gSl, DL.slc, DL.noP, DL.someP, DL.gIsN, DL.gNotN, DL.isNonD, DL.seqX, DL.seqD, DL.itQ, DL.itR1, DL.itR2, DL.call, DL.noErr, DL.callF, DL.argsD, DL.ioSl, DL.rdSl, DL.mineAt, DL.nodupB, DL.leakSl, DL.putIo, DL.lookN, DL.putAt, DL.reTop, DL.topAt, DL.putTop, DL.apnd, DL.stoL, DL.stoT, DL.par2, DL.put2, DL.par3, DL.put3, DL.tgN, DL.tgTup, DL.tgCons, DL.tgNil, DL.forS, DL.wipeE, DL.restE, DL.yesT, DL.lcStep, DL.mutL, DL.gInsert, DL.raiseS, DL.nop, DL.brk, DL.cont, DL.ite_out, List.map_cons, List.map_nil, List.zip_cons_cons, List.zip_nil_right, List.zip_nil_left, List.length_cons, List.length_nil, List.cons_append, List.nil_append, List.replicate_succ, List.replicate_zero, List.getElem?_cons_zero, List.getElem?_cons_succ, List.getElem?_nil, List.set_cons_zero, List.set_cons_succ, List.all_cons, List.all_nil, List.isEmpty_nil, List.isEmpty_cons, List.contains_nil, List.contains_cons, List.elem_nil, Bool.false_eq_true, if_true, if_false, ite_true, ite_false, reduceIte, Bool.and_true, Bool.true_and, Bool.and_false, Bool.false_and, Bool.or_true, Bool.true_or, Bool.or_false, Bool.false_or, Bool.not_true, Bool.not_false, Option.bind_some, Option.bind_none, Option.map_some, Option.map_none, Nat.reduceAdd, Nat.reduceSub, Nat.reduceEqDiff, Nat.reduceLeDiff, Nat.zero_add, decide_true, decide_false, beq_self_eq_true, String.reduceBEq, String.reduceEq, reduceCtorEq, Int.reduceNeg, Int.reduceLT, Int.reduceLE, Int.reduceAdd, Int.reduceSub, Int.reduceMul, Int.reduceEq, Int.reduceBEq, Int.natCast_zero, Int.natCast_one, Int.cast_ofNat_Int, DL.atI_0, DL.atI_1, DL.atI_2, DL.atI_3, DL.atI_4, DL.atI_5, DL.atI_6, DL.cut_tail, DL.cut5_02, DL.cut5_24, List.take_succ_cons, List.take_zero, List.take_nil, List.drop_succ_cons, List.drop_zero, List.drop_nil, Int.toNat_natCast, Int.reduceToNat, Int.reducePow, Nat.reducePow, Nat.reduceMul, and_self, and_true, true_and, List.length_map, List.map_map, decide_eq_true_eq, h1, h2]
  · have h1 : decide ((60 : Int) < (ds.length : Int)) = false := decide_eq_false hl
    have h2 : decide ((ds.length : Int) ≤ 60) = true := decide_eq_true (by omega)
    simp only [DL.runF, DL.startE, DL.endF, DL.outsOf, DL.seqS, DL.ifS, DL.retS, DL.retN, DL.drop, DL.noList, DL.noLists, DL.noListTop, DL.asg, DL.asgT, DL.toSl, DL.setSl, DL.leak1, DL.leaks, bnd, DL.bndS, DL.evVar, DL.evC, DL.res, DL.resS, DL.bin2, DL.un1, DL.app1, DL.app2, DL.callB, DL.appA, DL.pinO, DL.nilA, DL.consA, DL.mkT, DL.mkL, DL.tst, DL.truth, DL.truthD, DL.andT, DL.orT, DL.notT, DL.andV, DL.orV, DL.notV, DL.ifE, DL.ifT, DL.chain, DL.isi, DL.gIsi, DL.gLen, DL.gAbs, DL.gInt, DL.max_int, DL.min_int, DL.gList, DL.gTuple, DL.gAdd, DL.gSub, DL.gMul, DL.gFdiv, DL.gMod, DL.gPow, DL.gNeg, DL.gCmp, DL.gLt, DL.eq_int, DL.ne_int, DL.gIx, DL.gRev, DL.gSl, DL.slc, DL.noP, DL.someP, DL.gIsN, DL.gNotN, DL.isNonD, DL.seqX, DL.seqD, DL.itQ, DL.itR1, DL.itR2, DL.call, DL.noErr, DL.callF, DL.argsD, DL.ioSl, DL.rdSl, DL.mineAt, DL.nodupB, DL.leakSl, DL.putIo, DL.lookN, DL.putAt, DL.reTop, DL.topAt, DL.putTop, DL.apnd, DL.stoL, DL.stoT, DL.par2, DL.put2, DL.par3, DL.put3, DL.tgN, DL.tgTup, DL.tgCons, DL.tgNil, DL.forS, DL.wipeE, DL.restE, DL.yesT, DL.lcStep, DL.mutL, DL.gInsert, DL.raiseS, DL.nop, DL.brk, DL.cont, DL.ite_out, List.map_cons, List.map_nil, List.zip_cons_cons, List.zip_nil_right, List.zip_nil_left, List.length_cons, List.length_nil, List.cons_append, List.nil_append, List.replicate_succ, List.replicate_zero, List.getElem?_cons_zero, List.getElem?_cons_succ, List.getElem?_nil, List.set_cons_zero, List.set_cons_succ, List.all_cons, List.all_nil, List.isEmpty_nil, List.isEmpty_cons, List.contains_nil, List.contains_cons, List.elem_nil, Bool.false_eq_true, if_true, if_false, ite_true, ite_false, reduceIte, Bool.and_true, Bool.true_and, Bool.and_false, Bool.false_and, Bool.or_true, Bool.true_or, Bool.or_false, Bool.false_or, Bool.not_true, Bool.not_false, Option.bind_some, Option.bind_none, Option.map_some, Option.map_none, Nat.reduceAdd, Nat.reduceSub, Nat.reduceEqDiff, Nat.reduceLeDiff, Nat.zero_add, decide_true, decide_false, beq_self_eq_true, String.reduceBEq, String.reduceEq, reduceCtorEq, Int.reduceNeg, Int.reduceLT, Int.reduceLE, Int.reduceAdd, Int.reduceSub, Int.reduceMul, Int.reduceEq, Int.reduceBEq, Int.natCast_zero, Int.natCast_one, Int.cast_ofNat_Int, DL.atI_0, DL.atI_1, DL.atI_2, DL.atI_3, DL.atI_4, DL.atI_5, DL.atI_6, DL.cut_tail, DL.cut5_02, DL.cut5_24, List.take_succ_cons, List.take_zero, List.take_nil, List.drop_succ_cons, List.drop_zero, List.drop_nil, Int.toNat_natCast, Int.reduceToNat, Int.reducePow, Nat.reducePow, Nat.reduceMul, and_self, and_true, true_and, List.length_map, List.map_map, decide_eq_true_eq, h1, h2, hc, he]
theorem law_is_word_lst {m : Int} (ds : List D) : g_law_is_word [.int m, .lst ds, .int 60] = .ok false (.bl false) [] := by
  unfold g_law_is_word m_law_is_word
  simp only [DL.runF, DL.startE, DL.endF, DL.outsOf, DL.seqS, DL.ifS, DL.retS, DL.retN, DL.drop, DL.noList, DL.noLists, DL.noListTop, DL.asg, DL.asgT, DL.toSl, DL.setSl, DL.leak1, DL.leaks, bnd, DL.bndS, DL.evVar, DL.evC, DL.res, DL.resS, DL.bin2, DL.un1, DL.app1, DL.app2, DL.callB, DL.appA, DL.pinO, DL.nilA, DL.consA, DL.mkT, DL.mkL, DL.tst, DL.truth, DL.truthD, DL.andT, DL.orT, DL.notT, DL.andV, DL.orV, DL.notV, DL.ifE, DL.ifT, DL.chain, DL.isi, DL.gIsi, DL.gLen, DL.gAbs, DL.gInt, DL.max_int, DL.min_int, DL.gList, DL.gTuple, DL.gAdd, DL.gSub, DL.gMul, DL.gFdiv, DL.gMod, DL.gPow, DL.gNeg, DL.gCmp, DL.gLt, DL.eq_int, DL.ne_int, DL.gIx, DL.gRev, DL.gSl, DL.slc, DL.noP, DL.someP, DL.gIsN, DL.gNotN, DL.isNonD, DL.seqX, DL.seqD, DL.itQ, DL.itR1, DL.itR2, DL.call, DL.noErr, DL.callF, DL.argsD, DL.ioSl, DL.rdSl, DL.mineAt, DL.nodupB, DL.leakSl, DL.putIo, DL.lookN, DL.putAt, DL.reTop, DL.topAt, DL.putTop, DL.apnd, DL.stoL, DL.stoT, DL.par2, DL.put2, DL.par3, DL.put3, DL.tgN, DL.tgTup, DL.tgCons, DL.tgNil, DL.forS, DL.wipeE, DL.restE, DL.yesT, DL.lcStep, DL.mutL, DL.gInsert, DL.raiseS, DL.nop, DL.brk, DL.cont, DL.ite_out, List.map_cons, List.map_nil, List.zip_cons_cons, List.zip_nil_right, List.zip_nil_left, List.length_cons, List.length_nil, List.cons_append, List.nil_append, List.replicate_succ, List.replicate_zero, List.getElem?_cons_zero, List.getElem?_cons_succ, List.getElem?_nil, List.set_cons_zero, List.set_cons_succ, List.all_cons, List.all_nil, List.isEmpty_nil, List.isEmpty_cons, List.contains_nil, List.contains_cons, List.elem_nil, Bool.false_eq_true, if_true, if_false, ite_true, ite_false, reduceIte, Bool.and_true, Bool.true_and, Bool.and_false, Bool.false_and, Bool.or_true, Bool.true_or, Bool.or_false, Bool.false_or, Bool.not_true, Bool.not_false, Option.bind_some, Option.bind_none, Option.map_some, Option.map_none, Nat.reduceAdd, Nat.reduceSub, Nat.reduceEqDiff, Nat.reduceLeDiff, Nat.zero_add, decide_true, decide_false, beq_self_eq_true, String.reduceBEq, String.reduceEq, reduceCtorEq, Int.reduceNeg, Int.reduceLT, Int.reduceLE, Int.reduceAdd, Int.reduceSub, Int.reduceMul, Int.reduceEq, Int.reduceBEq, Int.natCast_zero, Int.natCast_one, Int.cast_ofNat_Int, DL.atI_0, DL.atI_1, DL.atI_2, DL.atI_3, DL.atI_4, DL.atI_5, DL.atI_6, DL.cut_tail, DL.cut5_02, DL.cut5_24, List.take_succ_cons, List.take_zero, List.take_nil, List.drop_succ_cons, List.drop_zero, List.drop_nil, Int.toNat_natCast, Int.reduceToNat, Int.reducePow, Nat.reducePow, Nat.reduceMul, and_self, and_true, true_and, List.length_map, List.map_map, decide_eq_true_eq]
theorem like_flat8 {d : D} (h : flatD d = true) : g_law_like 8 [d, d] = .ok false (.bl true) [] := like_refl 7 _ (pl_flat h 7)
def Val (d : D) : Prop := ∃ ds : List D, (d = .tup ds ∧ ∀ x ∈ ds, One x) ∨ d = .lst ds
theorem judge_body {m : Int} (h1 : 2 ≤ m) (h2 : m ≤ 8) (S C T W P A O v : D) (h : Val v) :
    b_law_1 [.val S, .own C, .val T, .val (.int m), .val W, .val P, .val A, .val O, .val v] = .nx [.val S, .own C, .val T, .val (.int m), .val W, .val P, .val A, .val O, .val v] := by
  obtain ⟨ds, ⟨rfl, h⟩ | rfl⟩ := h
  · have e1 := is_word_eq h1 h2 (.tup ds) rfl
    have e2 := law_is_word_tup (m := m) ds h
    have e3 := like_flat8 (d := .bl (wordB m (.tup ds))) rfl
    generalize wordB m (.tup ds) = b at *
    unfold b_law_1
    simp only [DL.runF, DL.startE, DL.endF, DL.outsOf, DL.seqS, DL.ifS, DL.retS, DL.retN, DL.drop, DL.noList, DL.noLists, DL.noListTop, DL.asg, DL.asgT, DL.toSl, DL.setSl, DL.leak1, DL.leaks, bnd, DL.bndS, DL.evVar, DL.evC, DL.res, DL.resS, DL.bin2, DL.un1, DL.app1, DL.app2, DL.callB, DL.appA, DL.pinO, DL.nilA, DL.consA, DL.mkT, DL.mkL, DL.tst, DL.truth, DL.truthD, DL.andT, DL.orT, DL.notT, DL.andV, DL.orV, DL.notV, DL.ifE, DL.ifT, DL.chain, DL.isi, DL.gIsi, DL.gLen, DL.gAbs, DL.gInt, DL.max_int, DL.min_int, DL.gList, DL.gTuple, DL.gAdd, DL.gSub, DL.gMul, DL.gFdiv, DL.gMod, DL.gPow, DL.gNeg, DL.gCmp, DL.gLt, DL.eq_int, DL.ne_int, DL.gIx, DL.gRev, DL.gSl, DL.slc, DL.noP, DL.someP, DL.gIsN, DL.gNotN, DL.isNonD, DL.seqX, DL.seqD, DL.itQ, DL.itR1, DL.itR2, DL.call, DL.noErr, DL.callF, DL.argsD, DL.ioSl, DL.rdSl, DL.mineAt, DL.nodupB, DL.leakSl, DL.putIo, DL.lookN, DL.putAt, DL.reTop, DL.topAt, DL.putTop, DL.apnd, DL.stoL, DL.stoT, DL.par2, DL.put2, DL.par3, DL.put3, DL.tgN, DL.tgTup, DL.tgCons, DL.tgNil, DL.forS, DL.wipeE, DL.restE, DL.yesT, DL.lcStep, DL.mutL, DL.gInsert, DL.raiseS, DL.nop, DL.brk, DL.cont, DL.ite_out, List.map_cons, List.map_nil, List.zip_cons_cons, List.zip_nil_right, List.zip_nil_left, List.length_cons, List.length_nil, List.cons_append, List.nil_append, List.replicate_succ, List.replicate_zero, List.getElem?_cons_zero, List.getElem?_cons_succ, List.getElem?_nil, List.set_cons_zero, List.set_cons_succ, List.all_cons, List.all_nil, List.isEmpty_nil, List.isEmpty_cons, List.contains_nil, List.contains_cons, List.elem_nil, Bool.false_eq_true, if_true, if_false, ite_true, ite_false, reduceIte, Bool.and_true, Bool.true_and, Bool.and_false, Bool.false_and, Bool.or_true, Bool.true_or, Bool.or_false, Bool.false_or, Bool.not_true, Bool.not_false, Option.bind_some, Option.bind_none, Option.map_some, Option.map_none, Nat.reduceAdd, Nat.reduceSub, Nat.reduceEqDiff, Nat.reduceLeDiff, Nat.zero_add, decide_true, decide_false, beq_self_eq_true, String.reduceBEq, String.reduceEq, reduceCtorEq, Int.reduceNeg, Int.reduceLT, Int.reduceLE, Int.reduceAdd, Int.reduceSub, Int.reduceMul, Int.reduceEq, Int.reduceBEq, Int.natCast_zero, Int.natCast_one, Int.cast_ofNat_Int, DL.atI_0, DL.atI_1, DL.atI_2, DL.atI_3, DL.atI_4, DL.atI_5, DL.atI_6, DL.cut_tail, DL.cut5_02, DL.cut5_24, List.take_succ_cons, List.take_zero, List.take_nil, List.drop_succ_cons, List.drop_zero, List.drop_nil, Int.toNat_natCast, Int.reduceToNat, Int.reducePow, Nat.reducePow, Nat.reduceMul, and_self, and_true, true_and, List.length_map, List.map_map, decide_eq_true_eq, e1, e2, e3]
  · have e1 : g_is_word [.int m, .lst ds] = .ok false (.bl false) [] := is_word_eq h1 h2 (.lst ds) rfl
    have e2 := law_is_word_lst (m := m) ds
    have e3 := like_flat8 (d := .bl false) rfl
    unfold b_law_1
    simp only [DL.runF, DL.startE, DL.endF, DL.outsOf, DL.seqS, DL.ifS, DL.retS, DL.retN, DL.drop, DL.noList, DL.noLists, DL.noListTop, DL.asg, DL.asgT, DL.toSl, DL.setSl, DL.leak1, DL.leaks, bnd, DL.bndS, DL.evVar, DL.evC, DL.res, DL.resS, DL.bin2, DL.un1, DL.app1, DL.app2, DL.callB, DL.appA, DL.pinO, DL.nilA, DL.consA, DL.mkT, DL.mkL, DL.tst, DL.truth, DL.truthD, DL.andT, DL.orT, DL.notT, DL.andV, DL.orV, DL.notV, DL.ifE, DL.ifT, DL.chain, DL.isi, DL.gIsi, DL.gLen, DL.gAbs, DL.gInt, DL.max_int, DL.min_int, DL.gList, DL.gTuple, DL.gAdd, DL.gSub, DL.gMul, DL.gFdiv, DL.gMod, DL.gPow, DL.gNeg, DL.gCmp, DL.gLt, DL.eq_int, DL.ne_int, DL.gIx, DL.gRev, DL.gSl, DL.slc, DL.noP, DL.someP, DL.gIsN, DL.gNotN, DL.isNonD, DL.seqX, DL.seqD, DL.itQ, DL.itR1, DL.itR2, DL.call, DL.noErr, DL.callF, DL.argsD, DL.ioSl, DL.rdSl, DL.mineAt, DL.nodupB, DL.leakSl, DL.putIo, DL.lookN, DL.putAt, DL.reTop, DL.topAt, DL.putTop, DL.apnd, DL.stoL, DL.stoT, DL.par2, DL.put2, DL.par3, DL.put3, DL.tgN, DL.tgTup, DL.tgCons, DL.tgNil, DL.forS, DL.wipeE, DL.restE, DL.yesT, DL.lcStep, DL.mutL, DL.gInsert, DL.raiseS, DL.nop, DL.brk, DL.cont, DL.ite_out, List.map_cons, List.map_nil, List.zip_cons_cons, List.zip_nil_right, List.zip_nil_left, List.length_cons, List.length_nil, List.cons_append, List.nil_append, List.replicate_succ, List.replicate_zero, List.getElem?_cons_zero, List.getElem?_cons_succ, List.getElem?_nil, List.set_cons_zero, List.set_cons_succ, List.all_cons, List.all_nil, List.isEmpty_nil, List.isEmpty_cons, List.contains_nil, List.contains_cons, List.elem_nil, Bool.false_eq_true, if_true, if_false, ite_true, ite_false, reduceIte, Bool.and_true, Bool.true_and, Bool.and_false, Bool.false_and, Bool.or_true, Bool.true_or, Bool.or_false, Bool.false_or, Bool.not_true, Bool.not_false, Option.bind_some, Option.bind_none, Option.map_some, Option.map_none, Nat.reduceAdd, Nat.reduceSub, Nat.reduceEqDiff, Nat.reduceLeDiff, Nat.zero_add, decide_true, decide_false, beq_self_eq_true, String.reduceBEq, String.reduceEq, reduceCtorEq, Int.reduceNeg, Int.reduceLT, Int.reduceLE, Int.reduceAdd, Int.reduceSub, Int.reduceMul, Int.reduceEq, Int.reduceBEq, Int.natCast_zero, Int.natCast_one, Int.cast_ofNat_Int, DL.atI_0, DL.atI_1, DL.atI_2, DL.atI_3, DL.atI_4, DL.atI_5, DL.atI_6, DL.cut_tail, DL.cut5_02, DL.cut5_24, List.take_succ_cons, List.take_zero, List.take_nil, List.drop_succ_cons, List.drop_zero, List.drop_nil, Int.toNat_natCast, Int.reduceToNat, Int.reducePow, Nat.reducePow, Nat.reduceMul, and_self, and_true, true_and, List.length_map, List.map_map, decide_eq_true_eq, e1, e2, e3]
end K34

set_option maxRecDepth 100000
set_option maxHeartbeats 4000000
namespace K34
open PySem PySem.Spec L2 DL
open PyProof.Rows hiding St
open DL (Env)
def LOk (m l : Int) : Prop := l ≠ 0 ∧ -m < l ∧ l < m
theorem some_sign (c : Int × Int) : ∃ s c', (s = 1 ∨ s = -1) ∧ g_law_some [cupD c, .lst [.int 1, .int (-1)]] = .ok false (.int s) [cupD c'] := by
  obtain ⟨d, c', hd, e⟩ := some_ok c [.int 1, .int (-1)] (by simp) (by simp only [List.length_cons, List.length_nil]; decide) true
  simp only [List.mem_cons, List.not_mem_nil, or_false] at hd
  rcases hd with rfl | rfl
  · exact ⟨1, c', .inl rfl, e⟩
  · exact ⟨-1, c', .inr rfl, e⟩
theorem dep_tup (ns : List Int) : shaped (.tup (ns.map D.int)) = true := by
  show (PyData.canLayAll0 (toPys (ns.map D.int)) && decide (PyData.depthAll (toPys (ns.map D.int)) + 1 ≤ 64)) = true
  rw [can_ints, dep_ints]; rfl
theorem ne_tup_nil (ns : List Int) : gNe (.tup (ns.map D.int)) (.tup []) = some (.d (.bl (!ns.isEmpty))) := by
  have e : eqD (.tup (ns.map D.int)) (.tup []) = ns.isEmpty := by cases ns <;> rfl
  show (if shaped (.tup (ns.map D.int)) && shaped (.tup []) then some (Od.d (.bl (!eqD (.tup (ns.map D.int)) (.tup [])))) else none) = _
  rw [dep_tup, e]; rfl
theorem word_core (c c1 c2 c3 c4 : Int × Int) (m r s x z : Int) (e : Bool) (K t : D) (ws : List D) (y : Sl) (hy : NV y) (hs : s = 1 ∨ s = -1) (hz : ws.length ≤ 1000)
    (e1 : g_law_roll [cupD c, .int (m - 1)] = .ok false (.int r) [cupD c1]) (e2 : g_law_some [cupD c1, .lst [.int 1, .int (-1)]] = .ok false (.int s) [cupD c2])
    (e3 : gNe (.tup ws) (.tup []) = some (.d (.bl (!e)))) (e4 : g_law_roll [cupD c2, .int 4] = .ok false (.int x) [cupD c3]) (e5 : e = false → g_law_some [cupD c3, .tup ws] = .ok false (.int z) [cupD c4]) :
    ∃ l c', (l = (1 + r) * s ∨ (e = false ∧ l = -z)) ∧ b_law_word_1 [.iow (cupD c), .val (.int m), .val K, .val (.tup ws), .val t, y] = .nx [.iow (cupD c'), .val (.int m), .val K, .val (.tup (ws ++ [.int l])), .val t, .val (.int ((1 + r) * s))] := by
  have hsm : small s = true := by rcases hs with rfl | rfl <;> rfl
  have hz1 : ws.length + 1 ≤ 16777216 := by omega
  have hz2 : ws.length ≤ 16777215 := by omega
  cases e with
  | true =>
    refine ⟨(1 + r) * s, c2, .inl rfl, ?_⟩
    unfold b_law_word_1
    rcases hy with rfl | ⟨d, rfl⟩ <;> simp only [DL.runF, DL.startE, DL.endF, DL.outsOf, DL.seqS, DL.ifS, DL.retS, DL.retN, DL.drop, DL.noList, DL.noLists, DL.noListTop, DL.asg, DL.asgT, DL.toSl, DL.setSl, DL.leak1, DL.leaks, bnd, DL.bndS, DL.evVar, DL.evC, DL.res, DL.resS, DL.bin2, DL.un1, DL.app1, DL.app2, DL.callB, DL.appA, DL.pinO, DL.nilA, DL.consA, DL.mkT, DL.mkL, DL.tst, DL.truth, DL.truthD, DL.andT, DL.orT, DL.notT, DL.andV, DL.orV, DL.notV, DL.ifE, DL.ifT, DL.chain, DL.isi, DL.gIsi, DL.gLen, DL.gAbs, DL.gInt, DL.max_int, DL.min_int, DL.gList, DL.gTuple, DL.gAdd, DL.gSub, DL.gMul, DL.gFdiv, DL.gMod, DL.gPow, DL.gNeg, DL.gCmp, DL.gLt, DL.eq_int, DL.ne_int, DL.gIx, DL.gRev, DL.gSl, DL.slc, DL.noP, DL.someP, DL.gIsN, DL.gNotN, DL.isNonD, DL.seqX, DL.seqD, DL.itQ, DL.itR1, DL.itR2, DL.call, DL.noErr, DL.callF, DL.argsD, DL.ioSl, DL.rdSl, DL.mineAt, DL.nodupB, DL.leakSl, DL.putIo, DL.lookN, DL.putAt, DL.reTop, DL.topAt, DL.putTop, DL.apnd, DL.stoL, DL.stoT, DL.par2, DL.put2, DL.par3, DL.put3, DL.tgN, DL.tgTup, DL.tgCons, DL.tgNil, DL.forS, DL.wipeE, DL.restE, DL.yesT, DL.lcStep, DL.mutL, DL.gInsert, DL.raiseS, DL.nop, DL.brk, DL.cont, DL.ite_out, List.map_cons, List.map_nil, List.zip_cons_cons, List.zip_nil_right, List.zip_nil_left, List.length_cons, List.length_nil, List.cons_append, List.nil_append, List.replicate_succ, List.replicate_zero, List.getElem?_cons_zero, List.getElem?_cons_succ, List.getElem?_nil, List.set_cons_zero, List.set_cons_succ, List.all_cons, List.all_nil, List.isEmpty_nil, List.isEmpty_cons, List.contains_nil, List.contains_cons, List.elem_nil, Bool.false_eq_true, if_true, if_false, ite_true, ite_false, reduceIte, Bool.and_true, Bool.true_and, Bool.and_false, Bool.false_and, Bool.or_true, Bool.true_or, Bool.or_false, Bool.false_or, Bool.not_true, Bool.not_false, Option.bind_some, Option.bind_none, Option.map_some, Option.map_none, Nat.reduceAdd, Nat.reduceSub, Nat.reduceEqDiff, Nat.reduceLeDiff, Nat.zero_add, decide_true, decide_false, beq_self_eq_true, String.reduceBEq, String.reduceEq, reduceCtorEq, Int.reduceNeg, Int.reduceLT, Int.reduceLE, Int.reduceAdd, Int.reduceSub, Int.reduceMul, Int.reduceEq, Int.reduceBEq, Int.natCast_zero, Int.natCast_one, Int.cast_ofNat_Int, DL.atI_0, DL.atI_1, DL.atI_2, DL.atI_3, DL.atI_4, DL.atI_5, DL.atI_6, DL.cut_tail, DL.cut5_02, DL.cut5_24, List.take_succ_cons, List.take_zero, List.take_nil, List.drop_succ_cons, List.drop_zero, List.drop_nil, Int.toNat_natCast, Int.reduceToNat, Int.reducePow, Nat.reducePow, Nat.reduceMul, and_self, and_true, true_and, List.length_map, List.map_map, decide_eq_true_eq, e1, e2, e3, hsm, hz1, hz2, Bool.or_true]
  | false =>
    have e5' := e5 rfl
    cases hx : (x == 0) with
    | false =>
      refine ⟨(1 + r) * s, c3, .inl rfl, ?_⟩
      unfold b_law_word_1
      rcases hy with rfl | ⟨d, rfl⟩ <;> simp only [DL.runF, DL.startE, DL.endF, DL.outsOf, DL.seqS, DL.ifS, DL.retS, DL.retN, DL.drop, DL.noList, DL.noLists, DL.noListTop, DL.asg, DL.asgT, DL.toSl, DL.setSl, DL.leak1, DL.leaks, bnd, DL.bndS, DL.evVar, DL.evC, DL.res, DL.resS, DL.bin2, DL.un1, DL.app1, DL.app2, DL.callB, DL.appA, DL.pinO, DL.nilA, DL.consA, DL.mkT, DL.mkL, DL.tst, DL.truth, DL.truthD, DL.andT, DL.orT, DL.notT, DL.andV, DL.orV, DL.notV, DL.ifE, DL.ifT, DL.chain, DL.isi, DL.gIsi, DL.gLen, DL.gAbs, DL.gInt, DL.max_int, DL.min_int, DL.gList, DL.gTuple, DL.gAdd, DL.gSub, DL.gMul, DL.gFdiv, DL.gMod, DL.gPow, DL.gNeg, DL.gCmp, DL.gLt, DL.eq_int, DL.ne_int, DL.gIx, DL.gRev, DL.gSl, DL.slc, DL.noP, DL.someP, DL.gIsN, DL.gNotN, DL.isNonD, DL.seqX, DL.seqD, DL.itQ, DL.itR1, DL.itR2, DL.call, DL.noErr, DL.callF, DL.argsD, DL.ioSl, DL.rdSl, DL.mineAt, DL.nodupB, DL.leakSl, DL.putIo, DL.lookN, DL.putAt, DL.reTop, DL.topAt, DL.putTop, DL.apnd, DL.stoL, DL.stoT, DL.par2, DL.put2, DL.par3, DL.put3, DL.tgN, DL.tgTup, DL.tgCons, DL.tgNil, DL.forS, DL.wipeE, DL.restE, DL.yesT, DL.lcStep, DL.mutL, DL.gInsert, DL.raiseS, DL.nop, DL.brk, DL.cont, DL.ite_out, List.map_cons, List.map_nil, List.zip_cons_cons, List.zip_nil_right, List.zip_nil_left, List.length_cons, List.length_nil, List.cons_append, List.nil_append, List.replicate_succ, List.replicate_zero, List.getElem?_cons_zero, List.getElem?_cons_succ, List.getElem?_nil, List.set_cons_zero, List.set_cons_succ, List.all_cons, List.all_nil, List.isEmpty_nil, List.isEmpty_cons, List.contains_nil, List.contains_cons, List.elem_nil, Bool.false_eq_true, if_true, if_false, ite_true, ite_false, reduceIte, Bool.and_true, Bool.true_and, Bool.and_false, Bool.false_and, Bool.or_true, Bool.true_or, Bool.or_false, Bool.false_or, Bool.not_true, Bool.not_false, Option.bind_some, Option.bind_none, Option.map_some, Option.map_none, Nat.reduceAdd, Nat.reduceSub, Nat.reduceEqDiff, Nat.reduceLeDiff, Nat.zero_add, decide_true, decide_false, beq_self_eq_true, String.reduceBEq, String.reduceEq, reduceCtorEq, Int.reduceNeg, Int.reduceLT, Int.reduceLE, Int.reduceAdd, Int.reduceSub, Int.reduceMul, Int.reduceEq, Int.reduceBEq, Int.natCast_zero, Int.natCast_one, Int.cast_ofNat_Int, DL.atI_0, DL.atI_1, DL.atI_2, DL.atI_3, DL.atI_4, DL.atI_5, DL.atI_6, DL.cut_tail, DL.cut5_02, DL.cut5_24, List.take_succ_cons, List.take_zero, List.take_nil, List.drop_succ_cons, List.drop_zero, List.drop_nil, Int.toNat_natCast, Int.reduceToNat, Int.reducePow, Nat.reducePow, Nat.reduceMul, and_self, and_true, true_and, List.length_map, List.map_map, decide_eq_true_eq, e1, e2, e3, e4, hx, hsm, hz1, hz2, Bool.or_true]
    | true =>
      refine ⟨-z, c4, .inr ⟨rfl, rfl⟩, ?_⟩
      unfold b_law_word_1
      rcases hy with rfl | ⟨d, rfl⟩ <;> simp only [DL.runF, DL.startE, DL.endF, DL.outsOf, DL.seqS, DL.ifS, DL.retS, DL.retN, DL.drop, DL.noList, DL.noLists, DL.noListTop, DL.asg, DL.asgT, DL.toSl, DL.setSl, DL.leak1, DL.leaks, bnd, DL.bndS, DL.evVar, DL.evC, DL.res, DL.resS, DL.bin2, DL.un1, DL.app1, DL.app2, DL.callB, DL.appA, DL.pinO, DL.nilA, DL.consA, DL.mkT, DL.mkL, DL.tst, DL.truth, DL.truthD, DL.andT, DL.orT, DL.notT, DL.andV, DL.orV, DL.notV, DL.ifE, DL.ifT, DL.chain, DL.isi, DL.gIsi, DL.gLen, DL.gAbs, DL.gInt, DL.max_int, DL.min_int, DL.gList, DL.gTuple, DL.gAdd, DL.gSub, DL.gMul, DL.gFdiv, DL.gMod, DL.gPow, DL.gNeg, DL.gCmp, DL.gLt, DL.eq_int, DL.ne_int, DL.gIx, DL.gRev, DL.gSl, DL.slc, DL.noP, DL.someP, DL.gIsN, DL.gNotN, DL.isNonD, DL.seqX, DL.seqD, DL.itQ, DL.itR1, DL.itR2, DL.call, DL.noErr, DL.callF, DL.argsD, DL.ioSl, DL.rdSl, DL.mineAt, DL.nodupB, DL.leakSl, DL.putIo, DL.lookN, DL.putAt, DL.reTop, DL.topAt, DL.putTop, DL.apnd, DL.stoL, DL.stoT, DL.par2, DL.put2, DL.par3, DL.put3, DL.tgN, DL.tgTup, DL.tgCons, DL.tgNil, DL.forS, DL.wipeE, DL.restE, DL.yesT, DL.lcStep, DL.mutL, DL.gInsert, DL.raiseS, DL.nop, DL.brk, DL.cont, DL.ite_out, List.map_cons, List.map_nil, List.zip_cons_cons, List.zip_nil_right, List.zip_nil_left, List.length_cons, List.length_nil, List.cons_append, List.nil_append, List.replicate_succ, List.replicate_zero, List.getElem?_cons_zero, List.getElem?_cons_succ, List.getElem?_nil, List.set_cons_zero, List.set_cons_succ, List.all_cons, List.all_nil, List.isEmpty_nil, List.isEmpty_cons, List.contains_nil, List.contains_cons, List.elem_nil, Bool.false_eq_true, if_true, if_false, ite_true, ite_false, reduceIte, Bool.and_true, Bool.true_and, Bool.and_false, Bool.false_and, Bool.or_true, Bool.true_or, Bool.or_false, Bool.false_or, Bool.not_true, Bool.not_false, Option.bind_some, Option.bind_none, Option.map_some, Option.map_none, Nat.reduceAdd, Nat.reduceSub, Nat.reduceEqDiff, Nat.reduceLeDiff, Nat.zero_add, decide_true, decide_false, beq_self_eq_true, String.reduceBEq, String.reduceEq, reduceCtorEq, Int.reduceNeg, Int.reduceLT, Int.reduceLE, Int.reduceAdd, Int.reduceSub, Int.reduceMul, Int.reduceEq, Int.reduceBEq, Int.natCast_zero, Int.natCast_one, Int.cast_ofNat_Int, DL.atI_0, DL.atI_1, DL.atI_2, DL.atI_3, DL.atI_4, DL.atI_5, DL.atI_6, DL.cut_tail, DL.cut5_02, DL.cut5_24, List.take_succ_cons, List.take_zero, List.take_nil, List.drop_succ_cons, List.drop_zero, List.drop_nil, Int.toNat_natCast, Int.reduceToNat, Int.reducePow, Nat.reducePow, Nat.reduceMul, and_self, and_true, true_and, List.length_map, List.map_map, decide_eq_true_eq, e1, e2, e3, e4, e5', hx, hsm, hz1, hz2, Bool.or_true]
theorem word_body {m : Int} (h1 : 2 ≤ m) (h2 : m ≤ 8) (c : Int × Int) (K t : D) (w : List Int) (hw : ∀ l ∈ w, LOk m l) (hz : w.length ≤ 1000) (y : Sl) (hy : NV y) :
    ∃ l c' y', LOk m l ∧ NV y' ∧ b_law_word_1 [.iow (cupD c), .val (.int m), .val K, .val (encW w), .val t, y] = .nx [.iow (cupD c'), .val (.int m), .val K, .val (encW (w ++ [l])), .val t, y'] := by
  obtain ⟨r, c1, r0, r1, e1⟩ := roll_ok c (m := m - 1) (by omega) (by omega)
  obtain ⟨s, c2, hs, e2⟩ := some_sign c1
  obtain ⟨x, c3, x0, x1, e4⟩ := roll_ok c2 (m := 4) (by decide) (by decide)
  have hr : LOk m ((1 + r) * s) := by
    unfold LOk
    rcases hs with rfl | rfl
    · rw [Int.mul_one]; omega
    · rw [Int.mul_neg, Int.mul_one]; omega
  have ee : encW (w ++ [(1 + r) * s]) = .tup (w.map D.int ++ [.int ((1 + r) * s)]) := by unfold encW; rw [List.map_append]; rfl
  cases hw0 : w.isEmpty with
  | true =>
    obtain ⟨l, c', hl, hb⟩ := word_core c c1 c2 c3 c3 m r s x 0 true K t (w.map D.int) y hy hs (by rw [List.length_map]; exact hz) e1 e2 (by rw [ne_tup_nil, hw0]) e4 (fun h => by cases h)
    refine ⟨l, c', .val (.int ((1 + r) * s)), ?_, .inr ⟨_, rfl⟩, ?_⟩
    · rcases hl with rfl | ⟨h, _⟩
      · exact hr
      · cases h
    · rw [hb]; unfold encW; rw [List.map_append]; rfl
  | false =>
    have hne : w.map D.int ≠ [] := by
      intro h
      rw [List.map_eq_nil_iff.mp h] at hw0
      cases hw0
    obtain ⟨d, c4, hd, e5⟩ := some_ok c3 (w.map D.int) hne (by rw [List.length_map]; omega) false
    obtain ⟨z, hz', rfl⟩ := List.mem_map.mp hd
    obtain ⟨l, c', hl, hb⟩ := word_core c c1 c2 c3 c4 m r s x z false K t (w.map D.int) y hy hs (by rw [List.length_map]; exact hz) e1 e2 (by rw [ne_tup_nil, hw0]) e4 (fun _ => e5)
    refine ⟨l, c', .val (.int ((1 + r) * s)), ?_, .inr ⟨_, rfl⟩, ?_⟩
    · rcases hl with rfl | ⟨_, rfl⟩
      · exact hr
      · have := hw z hz'
        unfold LOk at this ⊢
        omega
    · rw [hb]; unfold encW; rw [List.map_append]; rfl
theorem word_loop {m : Int} (h1 : 2 ≤ m) (h2 : m ≤ 8) (K : D) : ∀ (ds : List D) (w : List Int) (c : Int × Int) (x y : Sl), (∀ l ∈ w, LOk m l) → ds.length + w.length ≤ 1000 → NV x → NV y → ∃ w' c' x' y', (∀ l ∈ w', LOk m l) ∧ w'.length = ds.length + w.length ∧
    forL (tgN 4) b_law_word_1 ds [.iow (cupD c), .val (.int m), .val K, .val (encW w), x, y] = .nx [.iow (cupD c'), .val (.int m), .val K, .val (encW w'), x', y']
  | [], w, c, x, y, hw, hz, hx, hy => ⟨w, c, x, y, hw, by simp, rfl⟩
  | d :: ds, w, c, x, y, hw, hz, hx, hy => by
    simp only [List.length_cons] at hz
    obtain ⟨l, c1, y1, hl, hy1, hb⟩ := word_body h1 h2 c K d w hw (by omega) y hy
    have hg : tgN 4 d [.iow (cupD c), .val (.int m), .val K, .val (encW w), x, y] = some [.iow (cupD c), .val (.int m), .val K, .val (encW w), .val d, y] := by rcases hx with rfl | ⟨_, rfl⟩ <;> rfl
    rw [forL_nx hg hb]
    obtain ⟨w', c', x', y', a1, a2, a3⟩ := word_loop h1 h2 K ds (w ++ [l]) c1 _ y1 (fun x hx => by
      rcases List.mem_append.mp hx with hx | hx
      · exact hw x hx
      · rw [List.mem_singleton.mp hx]; exact hl) (by rw [List.length_append]; simp only [List.length_cons, List.length_nil]; omega) (.inr ⟨_, rfl⟩) hy1
    refine ⟨w', c', x', y', a1, ?_, a3⟩
    rw [a2, List.length_append]
    simp only [List.length_cons, List.length_nil]
    omega
theorem word_ok {m : Int} (h1 : 2 ≤ m) (h2 : m ≤ 8) (c : Int × Int) {k : Int} (k1 : 0 ≤ k) (k2 : k ≤ 20) : ∃ w c', WOk m w ∧ w.length ≤ 20 ∧ g_law_word [cupD c, .int m, .int k] = .ok false (encW w) [cupD c'] := by
  obtain ⟨r, c1, r0, r1, e1⟩ := roll_ok c (m := k + 1) (by omega) (by omega)
  have hm : mid r = true := by unfold mid; rw [decide_eq_true_eq]; omega
  have hlen : (rangeD 0 r.toNat).length = r.toNat := by simp [rangeD]
  obtain ⟨w, c2, x', y', a1, a2, a3⟩ := word_loop h1 h2 (.int k) (rangeD 0 r.toNat) [] c1 .no .no (fun l h => by cases h) (by rw [hlen]; simp only [List.length_nil]; omega) (.inl rfl) (.inl rfl)
  rw [hlen] at a2
  simp only [List.length_nil] at a2
  refine ⟨w, c2, ⟨h1, h2, by omega, a1⟩, by omega, ?_⟩
  have hl : l_law_word_1 [.iow (cupD c), .val (.int m), .val (.int k), .val (.tup []), .no, .no] = .nx [.iow (cupD c2), .val (.int m), .val (.int k), .val (encW w), x', y'] := by
    unfold l_law_word_1
    rw [← a3]
    simp only [DL.runF, DL.startE, DL.endF, DL.outsOf, DL.seqS, DL.ifS, DL.retS, DL.retN, DL.drop, DL.noList, DL.noLists, DL.noListTop, DL.asg, DL.asgT, DL.toSl, DL.setSl, DL.leak1, DL.leaks, bnd, DL.bndS, DL.evVar, DL.evC, DL.res, DL.resS, DL.bin2, DL.un1, DL.app1, DL.app2, DL.callB, DL.appA, DL.pinO, DL.nilA, DL.consA, DL.mkT, DL.mkL, DL.tst, DL.truth, DL.truthD, DL.andT, DL.orT, DL.notT, DL.andV, DL.orV, DL.notV, DL.ifE, DL.ifT, DL.chain, DL.isi, DL.gIsi, DL.gLen, DL.gAbs, DL.gInt, DL.max_int, DL.min_int, DL.gList, DL.gTuple, DL.gAdd, DL.gSub, DL.gMul, DL.gFdiv, DL.gMod, DL.gPow, DL.gNeg, DL.gCmp, DL.gLt, DL.eq_int, DL.ne_int, DL.gIx, DL.gRev, DL.gSl, DL.slc, DL.noP, DL.someP, DL.gIsN, DL.gNotN, DL.isNonD, DL.seqX, DL.seqD, DL.itQ, DL.itR1, DL.itR2, DL.call, DL.noErr, DL.callF, DL.argsD, DL.ioSl, DL.rdSl, DL.mineAt, DL.nodupB, DL.leakSl, DL.putIo, DL.lookN, DL.putAt, DL.reTop, DL.topAt, DL.putTop, DL.apnd, DL.stoL, DL.stoT, DL.par2, DL.put2, DL.par3, DL.put3, DL.tgN, DL.tgTup, DL.tgCons, DL.tgNil, DL.forS, DL.wipeE, DL.restE, DL.yesT, DL.lcStep, DL.mutL, DL.gInsert, DL.raiseS, DL.nop, DL.brk, DL.cont, DL.ite_out, List.map_cons, List.map_nil, List.zip_cons_cons, List.zip_nil_right, List.zip_nil_left, List.length_cons, List.length_nil, List.cons_append, List.nil_append, List.replicate_succ, List.replicate_zero, List.getElem?_cons_zero, List.getElem?_cons_succ, List.getElem?_nil, List.set_cons_zero, List.set_cons_succ, List.all_cons, List.all_nil, List.isEmpty_nil, List.isEmpty_cons, List.contains_nil, List.contains_cons, List.elem_nil, Bool.false_eq_true, if_true, if_false, ite_true, ite_false, reduceIte, Bool.and_true, Bool.true_and, Bool.and_false, Bool.false_and, Bool.or_true, Bool.true_or, Bool.or_false, Bool.false_or, Bool.not_true, Bool.not_false, Option.bind_some, Option.bind_none, Option.map_some, Option.map_none, Nat.reduceAdd, Nat.reduceSub, Nat.reduceEqDiff, Nat.reduceLeDiff, Nat.zero_add, decide_true, decide_false, beq_self_eq_true, String.reduceBEq, String.reduceEq, reduceCtorEq, Int.reduceNeg, Int.reduceLT, Int.reduceLE, Int.reduceAdd, Int.reduceSub, Int.reduceMul, Int.reduceEq, Int.reduceBEq, Int.natCast_zero, Int.natCast_one, Int.cast_ofNat_Int, DL.atI_0, DL.atI_1, DL.atI_2, DL.atI_3, DL.atI_4, DL.atI_5, DL.atI_6, DL.cut_tail, DL.cut5_02, DL.cut5_24, List.take_succ_cons, List.take_zero, List.take_nil, List.drop_succ_cons, List.drop_zero, List.drop_nil, Int.toNat_natCast, Int.reduceToNat, Int.reducePow, Nat.reducePow, Nat.reduceMul, and_self, and_true, true_and, List.length_map, List.map_map, decide_eq_true_eq, e1, hm]
    rfl
  unfold g_law_word m_law_word
  simp only [DL.runF, DL.startE, DL.endF, DL.outsOf, DL.seqS, DL.ifS, DL.retS, DL.retN, DL.drop, DL.noList, DL.noLists, DL.noListTop, DL.asg, DL.asgT, DL.toSl, DL.setSl, DL.leak1, DL.leaks, bnd, DL.bndS, DL.evVar, DL.evC, DL.res, DL.resS, DL.bin2, DL.un1, DL.app1, DL.app2, DL.callB, DL.appA, DL.pinO, DL.nilA, DL.consA, DL.mkT, DL.mkL, DL.tst, DL.truth, DL.truthD, DL.andT, DL.orT, DL.notT, DL.andV, DL.orV, DL.notV, DL.ifE, DL.ifT, DL.chain, DL.isi, DL.gIsi, DL.gLen, DL.gAbs, DL.gInt, DL.max_int, DL.min_int, DL.gList, DL.gTuple, DL.gAdd, DL.gSub, DL.gMul, DL.gFdiv, DL.gMod, DL.gPow, DL.gNeg, DL.gCmp, DL.gLt, DL.eq_int, DL.ne_int, DL.gIx, DL.gRev, DL.gSl, DL.slc, DL.noP, DL.someP, DL.gIsN, DL.gNotN, DL.isNonD, DL.seqX, DL.seqD, DL.itQ, DL.itR1, DL.itR2, DL.call, DL.noErr, DL.callF, DL.argsD, DL.ioSl, DL.rdSl, DL.mineAt, DL.nodupB, DL.leakSl, DL.putIo, DL.lookN, DL.putAt, DL.reTop, DL.topAt, DL.putTop, DL.apnd, DL.stoL, DL.stoT, DL.par2, DL.put2, DL.par3, DL.put3, DL.tgN, DL.tgTup, DL.tgCons, DL.tgNil, DL.forS, DL.wipeE, DL.restE, DL.yesT, DL.lcStep, DL.mutL, DL.gInsert, DL.raiseS, DL.nop, DL.brk, DL.cont, DL.ite_out, List.map_cons, List.map_nil, List.zip_cons_cons, List.zip_nil_right, List.zip_nil_left, List.length_cons, List.length_nil, List.cons_append, List.nil_append, List.replicate_succ, List.replicate_zero, List.getElem?_cons_zero, List.getElem?_cons_succ, List.getElem?_nil, List.set_cons_zero, List.set_cons_succ, List.all_cons, List.all_nil, List.isEmpty_nil, List.isEmpty_cons, List.contains_nil, List.contains_cons, List.elem_nil, Bool.false_eq_true, if_true, if_false, ite_true, ite_false, reduceIte, Bool.and_true, Bool.true_and, Bool.and_false, Bool.false_and, Bool.or_true, Bool.true_or, Bool.or_false, Bool.false_or, Bool.not_true, Bool.not_false, Option.bind_some, Option.bind_none, Option.map_some, Option.map_none, Nat.reduceAdd, Nat.reduceSub, Nat.reduceEqDiff, Nat.reduceLeDiff, Nat.zero_add, decide_true, decide_false, beq_self_eq_true, String.reduceBEq, String.reduceEq, reduceCtorEq, Int.reduceNeg, Int.reduceLT, Int.reduceLE, Int.reduceAdd, Int.reduceSub, Int.reduceMul, Int.reduceEq, Int.reduceBEq, Int.natCast_zero, Int.natCast_one, Int.cast_ofNat_Int, DL.atI_0, DL.atI_1, DL.atI_2, DL.atI_3, DL.atI_4, DL.atI_5, DL.atI_6, DL.cut_tail, DL.cut5_02, DL.cut5_24, List.take_succ_cons, List.take_zero, List.take_nil, List.drop_succ_cons, List.drop_zero, List.drop_nil, Int.toNat_natCast, Int.reduceToNat, Int.reducePow, Nat.reducePow, Nat.reduceMul, and_self, and_true, true_and, List.length_map, List.map_map, decide_eq_true_eq, hl]
end K34

set_option maxRecDepth 100000
set_option maxHeartbeats 4000000
namespace K34
open PySem PySem.Spec L2 DL
open PyProof.Rows hiding St
open DL (Env)
def enc3 (x : Int × Int × Int) : D := .tup [.int x.1, .int x.2.1, .int x.2.2]
def tri3 (t i j : Int) : Option (Int × Int × Int) := cond (t == 0) none (some (i, j, t))
def rows3 (w : List Int) (i : Int) : List Int → List (Int × Int × Int)
  | [] => []
  | j :: js => (tri3 (lawT w i j 0) i j).toList ++ rows3 w i js
def trips (m : Int) (w : List Int) : List (Int × Int × Int) := (lins m.toNat).flatMap fun i => rows3 w i (laterL m i)
theorem rows3_eq (w : List Int) (i : Int) : ∀ js : List Int, rowT w i js = (rows3 w i js).map enc3
  | [] => rfl
  | j :: js => by
    have ih := rows3_eq w i js
    unfold rowT at ih ⊢
    have e : rows3 w i (j :: js) = (tri3 (lawT w i j 0) i j).toList ++ rows3 w i js := rfl
    rw [List.filterMap_cons, ih, e]
    unfold tri3 tri
    cases (lawT w i j 0 == 0) <;> rfl
theorem rows_trips (m : Int) (w : List Int) : rows m w = (trips m w).map enc3 := by
  unfold rows trips
  induction lins m.toNat with
  | nil => rfl
  | cons i is ih => rw [List.flatMap_cons, List.flatMap_cons, List.map_append, ← ih, rows3_eq]
def gW (p s : Int) : List Int := List.replicate 59 (p * s)
def gRow (M s : Int) : List Int := (rng 1 (M.toNat - 1)).map fun l => s * l
def gAllW (M s : Int) : List Int := (List.replicate M.toNat (gRow M s)).flatten
def chk (x : Int × Int × Int) : Bool :=
  decide (hng (lins x.1.toNat) (gW x.2.2 x.2.1) = (lins x.1.toNat).map (fl x.2.2)) && (decide (trips x.1 (gW x.2.2 x.2.1) = [(x.2.2, x.2.2 + 1, 59 * x.2.1)]) && (decide (((gW x.2.2 x.2.1).map sgn).sum = 59 * x.2.1) &&
  (decide ((gW x.2.2 x.2.1).reverse.map (fun l => -l) = List.replicate 59 (-x.2.2 * x.2.1)) && (decide (trips x.1 (gW x.2.2 x.2.1 ++ [-x.2.2 * x.2.1]) = [(x.2.2, x.2.2 + 1, 58 * x.2.1)]) &&
  (decide (hng (lins x.1.toNat) (gAllW x.1 x.2.1) = lins x.1.toNat) && (decide (trips x.1 (gAllW x.1 x.2.1) = (allP x.1).map fun q => (q.1, q.2, 2 * x.2.1)) && (decide (((gAllW x.1 x.2.1).map sgn).sum = x.2.1 * x.1 * (x.1 - 1)) &&
  (decide (hng (lins x.1.toNat) (gRow x.1 x.2.1) = (lins x.1.toNat).tail ++ [1]) && (decide (trips x.1 (gRow x.1 x.2.1) = (lins x.1.toNat).tail.map fun l => (1, l, x.2.1)) &&
  ((gW x.2.2 x.2.1 ++ gAllW x.1 x.2.1 ++ gRow x.1 x.2.1 ++ [-x.2.2 * x.2.1]).all (fun l => decide (l ≠ 0 ∧ -x.1 < l ∧ l < x.1)) && decide ((gAllW x.1 x.2.1).length ≤ 60 ∧ (gRow x.1 x.2.1).length ≤ 60)))))))))))
def all3 : List (Int × Int × Int) := [2, 3, 4, 5, 6, 7, 8].flatMap fun M => (rng 1 (M.toNat - 1)).flatMap fun p => [(M, 1, p), (M, -1, p)]
end K34

set_option maxRecDepth 100000
set_option maxHeartbeats 4000000
namespace K34
open PySem PySem.Spec L2 DL
open PyProof.Rows hiding St
open DL (Env)
theorem chk_all : all3.all chk = true := by decide +kernel
theorem all3_mem {M s p : Int} (h1 : 2 ≤ M) (h2 : M ≤ 8) (h3 : s = 1 ∨ s = -1) (h4 : 1 ≤ p) (h5 : p ≤ M - 1) : (M, s, p) ∈ all3 := by
  unfold all3
  refine List.mem_flatMap.mpr ⟨M, ?_, List.mem_flatMap.mpr ⟨p, rng_mem.mpr (by omega), ?_⟩⟩
  · have : M = 2 ∨ M = 3 ∨ M = 4 ∨ M = 5 ∨ M = 6 ∨ M = 7 ∨ M = 8 := by omega
    rcases this with rfl | rfl | rfl | rfl | rfl | rfl | rfl <;> simp
  · rcases h3 with rfl | rfl <;> simp
structure Great (M s p : Int) : Prop where
  ho : hng (lins M.toNat) (gW p s) = (lins M.toNat).map (fl p)
  hw : trips M (gW p s) = [(p, p + 1, 59 * s)]
  hs : ((gW p s).map sgn).sum = 59 * s
  hb : (gW p s).reverse.map (fun l => -l) = List.replicate 59 (-p * s)
  hx : trips M (gW p s ++ [-p * s]) = [(p, p + 1, 58 * s)]
  ao : hng (lins M.toNat) (gAllW M s) = lins M.toNat
  aw : trips M (gAllW M s) = (allP M).map fun q => (q.1, q.2, 2 * s)
  as : ((gAllW M s).map sgn).sum = s * M * (M - 1)
  ro : hng (lins M.toNat) (gRow M s) = (lins M.toNat).tail ++ [1]
  rw : trips M (gRow M s) = (lins M.toNat).tail.map fun l => (1, l, s)
  k1 : WOk M (gW p s)
  k2 : WOk M (gW p s ++ [-p * s])
  k3 : WOk M (gAllW M s)
  k4 : WOk M (gRow M s)
theorem great_of {M s p : Int} (h1 : 2 ≤ M) (h2 : M ≤ 8) (h3 : s = 1 ∨ s = -1) (h4 : 1 ≤ p) (h5 : p ≤ M - 1) : Great M s p := by
  have h := List.all_eq_true.mp chk_all _ (all3_mem h1 h2 h3 h4 h5)
  unfold chk at h
  simp only [Bool.and_eq_true, decide_eq_true_eq, List.all_eq_true, List.mem_append, List.mem_singleton] at h
  obtain ⟨a1, a2, a3, a4, a5, a6, a7, a8, a9, a10, a11, a12, a13⟩ := h
  refine ⟨a1, a2, a3, a4, a5, a6, a7, a8, a9, a10, ⟨h1, h2, ?_, fun l hl => a11 l (.inl (.inl (.inl hl)))⟩, ⟨h1, h2, ?_, fun l hl => ?_⟩, ⟨h1, h2, a12, fun l hl => a11 l (.inl (.inl (.inr hl)))⟩, ⟨h1, h2, a13, fun l hl => a11 l (.inl (.inr hl))⟩⟩
  · simp [gW]
  · simp [gW]
  · rcases List.mem_append.mp hl with hl | hl
    · exact a11 l (.inl (.inl (.inl hl)))
    · exact a11 l (.inr (List.mem_singleton.mp hl))
end K34

set_option maxRecDepth 100000
set_option maxHeartbeats 4000000
namespace K34
open PySem PySem.Spec L2 DL
open PyProof.Rows hiding St
open DL (Env)
def mapD (f : Int → Int) (d : D) : D := match d with
  | .int l => .int (f l)
  | _ => .non
theorem map_mapD (f : Int → Int) (ns : List Int) : (ns.map D.int).map (mapD f) = (ns.map f).map D.int := by
  rw [List.map_map, List.map_map]; rfl
theorem mid_ok {M : Int} (h1 : -100 ≤ M) (h2 : M ≤ 100) : mid M = true := by unfold mid; rw [decide_eq_true_eq]; omega
theorem small_sgn {s : Int} (h : s = 1 ∨ s = -1) : small s = true := by rcases h with rfl | rfl <;> rfl
theorem g_c1 (c : Int × Int) (M s p : Int) (h1 : 2 ≤ M) (h2 : M ≤ 8) (W : D) : c_law_great_right_1 [.iow (cupD c), .val (.int M), .val (.int s), .val (.int p), .val W, .no, .no, .no, .no, .no, .no, .no, .no, .no, .no, .no, .no] = .ok (.f (.lst (((lins M.toNat).map (fl p)).map D.int))) [.iow (cupD c), .val (.int M), .val (.int s), .val (.int p), .val W, .no, .no, .no, .no, .no, .no, .no, .no, .no, .no, .no, .no] := by
  have m1 : mid 1 = true := rfl
  have m2 : mid (M + 1) = true := mid_ok (by omega) (by omega)
  have e0 : (M + 1 - 1).toNat = M.toNat := by omega
  unfold c_law_great_right_1
  rw [← map_mapD]
  refine (lc_map (ds := (lins M.toNat).map D.int) (e1 := [.iow (cupD c), .val (.int M), .val (.int s), .val (.int p), .val W, .no, .no, .no, .no, .no, .no, .no, .no, .no, .no, .no, .no]) (mapD (fl p)) (by simp only [DL.runF, DL.startE, DL.endF, DL.outsOf, DL.seqS, DL.ifS, DL.retS, DL.retN, DL.drop, DL.noList, DL.noLists, DL.noListTop, DL.asg, DL.asgT, DL.toSl, DL.setSl, DL.leak1, DL.leaks, bnd, DL.bndS, DL.evVar, DL.evC, DL.res, DL.resS, DL.bin2, DL.un1, DL.app1, DL.app2, DL.callB, DL.appA, DL.pinO, DL.nilA, DL.consA, DL.mkT, DL.mkL, DL.tst, DL.truth, DL.truthD, DL.andT, DL.orT, DL.notT, DL.andV, DL.orV, DL.notV, DL.ifE, DL.ifT, DL.chain, DL.isi, DL.gIsi, DL.gLen, DL.gAbs, DL.gInt, DL.max_int, DL.min_int, DL.gList, DL.gTuple, DL.gAdd, DL.gSub, DL.gMul, DL.gFdiv, DL.gMod, DL.gPow, DL.gNeg, DL.gCmp, DL.gLt, DL.eq_int, DL.ne_int, DL.gIx, DL.gRev, DL.gSl, DL.slc, DL.noP, DL.someP, DL.gIsN, DL.gNotN, DL.isNonD, DL.seqX, DL.seqD, DL.itQ, DL.itR1, DL.itR2, DL.call, DL.noErr, DL.callF, DL.argsD, DL.ioSl, DL.rdSl, DL.mineAt, DL.nodupB, DL.leakSl, DL.putIo, DL.lookN, DL.putAt, DL.reTop, DL.topAt, DL.putTop, DL.apnd, DL.stoL, DL.stoT, DL.par2, DL.put2, DL.par3, DL.put3, DL.tgN, DL.tgTup, DL.tgCons, DL.tgNil, DL.forS, DL.wipeE, DL.restE, DL.yesT, DL.lcStep, DL.mutL, DL.gInsert, DL.raiseS, DL.nop, DL.brk, DL.cont, DL.ite_out, List.map_cons, List.map_nil, List.zip_cons_cons, List.zip_nil_right, List.zip_nil_left, List.length_cons, List.length_nil, List.cons_append, List.nil_append, List.replicate_succ, List.replicate_zero, List.getElem?_cons_zero, List.getElem?_cons_succ, List.getElem?_nil, List.set_cons_zero, List.set_cons_succ, List.all_cons, List.all_nil, List.isEmpty_nil, List.isEmpty_cons, List.contains_nil, List.contains_cons, List.elem_nil, Bool.false_eq_true, if_true, if_false, ite_true, ite_false, reduceIte, Bool.and_true, Bool.true_and, Bool.and_false, Bool.false_and, Bool.or_true, Bool.true_or, Bool.or_false, Bool.false_or, Bool.not_true, Bool.not_false, Option.bind_some, Option.bind_none, Option.map_some, Option.map_none, Nat.reduceAdd, Nat.reduceSub, Nat.reduceEqDiff, Nat.reduceLeDiff, Nat.zero_add, decide_true, decide_false, beq_self_eq_true, String.reduceBEq, String.reduceEq, reduceCtorEq, Int.reduceNeg, Int.reduceLT, Int.reduceLE, Int.reduceAdd, Int.reduceSub, Int.reduceMul, Int.reduceEq, Int.reduceBEq, Int.natCast_zero, Int.natCast_one, Int.cast_ofNat_Int, DL.atI_0, DL.atI_1, DL.atI_2, DL.atI_3, DL.atI_4, DL.atI_5, DL.atI_6, DL.cut_tail, DL.cut5_02, DL.cut5_24, List.take_succ_cons, List.take_zero, List.take_nil, List.drop_succ_cons, List.drop_zero, List.drop_nil, Int.toNat_natCast, Int.reduceToNat, Int.reducePow, Nat.reducePow, Nat.reduceMul, and_self, and_true, true_and, List.length_map, List.map_map, decide_eq_true_eq, m1, m2, e0, rangeD_lins]) fun d hd => ?_).trans rfl
  obtain ⟨l, _, rfl⟩ := List.mem_map.mp hd
  unfold mapD fl
  cases h1 : (l == p) <;> cases h2 : (l == p + 1) <;> simp only [DL.runF, DL.startE, DL.endF, DL.outsOf, DL.seqS, DL.ifS, DL.retS, DL.retN, DL.drop, DL.noList, DL.noLists, DL.noListTop, DL.asg, DL.asgT, DL.toSl, DL.setSl, DL.leak1, DL.leaks, bnd, DL.bndS, DL.evVar, DL.evC, DL.res, DL.resS, DL.bin2, DL.un1, DL.app1, DL.app2, DL.callB, DL.appA, DL.pinO, DL.nilA, DL.consA, DL.mkT, DL.mkL, DL.tst, DL.truth, DL.truthD, DL.andT, DL.orT, DL.notT, DL.andV, DL.orV, DL.notV, DL.ifE, DL.ifT, DL.chain, DL.isi, DL.gIsi, DL.gLen, DL.gAbs, DL.gInt, DL.max_int, DL.min_int, DL.gList, DL.gTuple, DL.gAdd, DL.gSub, DL.gMul, DL.gFdiv, DL.gMod, DL.gPow, DL.gNeg, DL.gCmp, DL.gLt, DL.eq_int, DL.ne_int, DL.gIx, DL.gRev, DL.gSl, DL.slc, DL.noP, DL.someP, DL.gIsN, DL.gNotN, DL.isNonD, DL.seqX, DL.seqD, DL.itQ, DL.itR1, DL.itR2, DL.call, DL.noErr, DL.callF, DL.argsD, DL.ioSl, DL.rdSl, DL.mineAt, DL.nodupB, DL.leakSl, DL.putIo, DL.lookN, DL.putAt, DL.reTop, DL.topAt, DL.putTop, DL.apnd, DL.stoL, DL.stoT, DL.par2, DL.put2, DL.par3, DL.put3, DL.tgN, DL.tgTup, DL.tgCons, DL.tgNil, DL.forS, DL.wipeE, DL.restE, DL.yesT, DL.lcStep, DL.mutL, DL.gInsert, DL.raiseS, DL.nop, DL.brk, DL.cont, DL.ite_out, List.map_cons, List.map_nil, List.zip_cons_cons, List.zip_nil_right, List.zip_nil_left, List.length_cons, List.length_nil, List.cons_append, List.nil_append, List.replicate_succ, List.replicate_zero, List.getElem?_cons_zero, List.getElem?_cons_succ, List.getElem?_nil, List.set_cons_zero, List.set_cons_succ, List.all_cons, List.all_nil, List.isEmpty_nil, List.isEmpty_cons, List.contains_nil, List.contains_cons, List.elem_nil, Bool.false_eq_true, if_true, if_false, ite_true, ite_false, reduceIte, Bool.and_true, Bool.true_and, Bool.and_false, Bool.false_and, Bool.or_true, Bool.true_or, Bool.or_false, Bool.false_or, Bool.not_true, Bool.not_false, Option.bind_some, Option.bind_none, Option.map_some, Option.map_none, Nat.reduceAdd, Nat.reduceSub, Nat.reduceEqDiff, Nat.reduceLeDiff, Nat.zero_add, decide_true, decide_false, beq_self_eq_true, String.reduceBEq, String.reduceEq, reduceCtorEq, Int.reduceNeg, Int.reduceLT, Int.reduceLE, Int.reduceAdd, Int.reduceSub, Int.reduceMul, Int.reduceEq, Int.reduceBEq, Int.natCast_zero, Int.natCast_one, Int.cast_ofNat_Int, DL.atI_0, DL.atI_1, DL.atI_2, DL.atI_3, DL.atI_4, DL.atI_5, DL.atI_6, DL.cut_tail, DL.cut5_02, DL.cut5_24, List.take_succ_cons, List.take_zero, List.take_nil, List.drop_succ_cons, List.drop_zero, List.drop_nil, Int.toNat_natCast, Int.reduceToNat, Int.reducePow, Nat.reducePow, Nat.reduceMul, and_self, and_true, true_and, List.length_map, List.map_map, decide_eq_true_eq, h1, h2, cond_true, cond_false]
theorem g_c2 (c : Int × Int) (M s p : Int) (h1 : 2 ≤ M) (h2 : M ≤ 8) (h3 : s = 1 ∨ s = -1) (W S T : D) : c_law_great_right_2 [.iow (cupD c), .val (.int M), .val (.int s), .val (.int p), .val W, .val S, .own T, .no, .no, .no, .no, .no, .no, .no, .no, .no, .no] = .ok (.f (.lst ((gRow M s).map D.int))) [.iow (cupD c), .val (.int M), .val (.int s), .val (.int p), .val W, .val S, .own T, .no, .no, .no, .no, .no, .no, .no, .no, .no, .no] := by
  have m1 : mid 1 = true := rfl
  have m2 : mid M = true := mid_ok (by omega) (by omega)
  have hs := small_sgn h3
  have e0 : (M - 1).toNat = M.toNat - 1 := by omega
  unfold c_law_great_right_2 gRow
  rw [← map_mapD]
  refine (lc_map (ds := (rng 1 (M.toNat - 1)).map D.int) (e1 := [.iow (cupD c), .val (.int M), .val (.int s), .val (.int p), .val W, .val S, .own T, .no, .no, .no, .no, .no, .no, .no, .no, .no, .no]) (mapD fun l => s * l) (by simp only [DL.runF, DL.startE, DL.endF, DL.outsOf, DL.seqS, DL.ifS, DL.retS, DL.retN, DL.drop, DL.noList, DL.noLists, DL.noListTop, DL.asg, DL.asgT, DL.toSl, DL.setSl, DL.leak1, DL.leaks, bnd, DL.bndS, DL.evVar, DL.evC, DL.res, DL.resS, DL.bin2, DL.un1, DL.app1, DL.app2, DL.callB, DL.appA, DL.pinO, DL.nilA, DL.consA, DL.mkT, DL.mkL, DL.tst, DL.truth, DL.truthD, DL.andT, DL.orT, DL.notT, DL.andV, DL.orV, DL.notV, DL.ifE, DL.ifT, DL.chain, DL.isi, DL.gIsi, DL.gLen, DL.gAbs, DL.gInt, DL.max_int, DL.min_int, DL.gList, DL.gTuple, DL.gAdd, DL.gSub, DL.gMul, DL.gFdiv, DL.gMod, DL.gPow, DL.gNeg, DL.gCmp, DL.gLt, DL.eq_int, DL.ne_int, DL.gIx, DL.gRev, DL.gSl, DL.slc, DL.noP, DL.someP, DL.gIsN, DL.gNotN, DL.isNonD, DL.seqX, DL.seqD, DL.itQ, DL.itR1, DL.itR2, DL.call, DL.noErr, DL.callF, DL.argsD, DL.ioSl, DL.rdSl, DL.mineAt, DL.nodupB, DL.leakSl, DL.putIo, DL.lookN, DL.putAt, DL.reTop, DL.topAt, DL.putTop, DL.apnd, DL.stoL, DL.stoT, DL.par2, DL.put2, DL.par3, DL.put3, DL.tgN, DL.tgTup, DL.tgCons, DL.tgNil, DL.forS, DL.wipeE, DL.restE, DL.yesT, DL.lcStep, DL.mutL, DL.gInsert, DL.raiseS, DL.nop, DL.brk, DL.cont, DL.ite_out, List.map_cons, List.map_nil, List.zip_cons_cons, List.zip_nil_right, List.zip_nil_left, List.length_cons, List.length_nil, List.cons_append, List.nil_append, List.replicate_succ, List.replicate_zero, List.getElem?_cons_zero, List.getElem?_cons_succ, List.getElem?_nil, List.set_cons_zero, List.set_cons_succ, List.all_cons, List.all_nil, List.isEmpty_nil, List.isEmpty_cons, List.contains_nil, List.contains_cons, List.elem_nil, Bool.false_eq_true, if_true, if_false, ite_true, ite_false, reduceIte, Bool.and_true, Bool.true_and, Bool.and_false, Bool.false_and, Bool.or_true, Bool.true_or, Bool.or_false, Bool.false_or, Bool.not_true, Bool.not_false, Option.bind_some, Option.bind_none, Option.map_some, Option.map_none, Nat.reduceAdd, Nat.reduceSub, Nat.reduceEqDiff, Nat.reduceLeDiff, Nat.zero_add, decide_true, decide_false, beq_self_eq_true, String.reduceBEq, String.reduceEq, reduceCtorEq, Int.reduceNeg, Int.reduceLT, Int.reduceLE, Int.reduceAdd, Int.reduceSub, Int.reduceMul, Int.reduceEq, Int.reduceBEq, Int.natCast_zero, Int.natCast_one, Int.cast_ofNat_Int, DL.atI_0, DL.atI_1, DL.atI_2, DL.atI_3, DL.atI_4, DL.atI_5, DL.atI_6, DL.cut_tail, DL.cut5_02, DL.cut5_24, List.take_succ_cons, List.take_zero, List.take_nil, List.drop_succ_cons, List.drop_zero, List.drop_nil, Int.toNat_natCast, Int.reduceToNat, Int.reducePow, Nat.reducePow, Nat.reduceMul, and_self, and_true, true_and, List.length_map, List.map_map, decide_eq_true_eq, m1, m2, e0, rangeD_rng]) fun d hd => ?_).trans rfl
  obtain ⟨l, _, rfl⟩ := List.mem_map.mp hd
  unfold mapD
  simp only [DL.runF, DL.startE, DL.endF, DL.outsOf, DL.seqS, DL.ifS, DL.retS, DL.retN, DL.drop, DL.noList, DL.noLists, DL.noListTop, DL.asg, DL.asgT, DL.toSl, DL.setSl, DL.leak1, DL.leaks, bnd, DL.bndS, DL.evVar, DL.evC, DL.res, DL.resS, DL.bin2, DL.un1, DL.app1, DL.app2, DL.callB, DL.appA, DL.pinO, DL.nilA, DL.consA, DL.mkT, DL.mkL, DL.tst, DL.truth, DL.truthD, DL.andT, DL.orT, DL.notT, DL.andV, DL.orV, DL.notV, DL.ifE, DL.ifT, DL.chain, DL.isi, DL.gIsi, DL.gLen, DL.gAbs, DL.gInt, DL.max_int, DL.min_int, DL.gList, DL.gTuple, DL.gAdd, DL.gSub, DL.gMul, DL.gFdiv, DL.gMod, DL.gPow, DL.gNeg, DL.gCmp, DL.gLt, DL.eq_int, DL.ne_int, DL.gIx, DL.gRev, DL.gSl, DL.slc, DL.noP, DL.someP, DL.gIsN, DL.gNotN, DL.isNonD, DL.seqX, DL.seqD, DL.itQ, DL.itR1, DL.itR2, DL.call, DL.noErr, DL.callF, DL.argsD, DL.ioSl, DL.rdSl, DL.mineAt, DL.nodupB, DL.leakSl, DL.putIo, DL.lookN, DL.putAt, DL.reTop, DL.topAt, DL.putTop, DL.apnd, DL.stoL, DL.stoT, DL.par2, DL.put2, DL.par3, DL.put3, DL.tgN, DL.tgTup, DL.tgCons, DL.tgNil, DL.forS, DL.wipeE, DL.restE, DL.yesT, DL.lcStep, DL.mutL, DL.gInsert, DL.raiseS, DL.nop, DL.brk, DL.cont, DL.ite_out, List.map_cons, List.map_nil, List.zip_cons_cons, List.zip_nil_right, List.zip_nil_left, List.length_cons, List.length_nil, List.cons_append, List.nil_append, List.replicate_succ, List.replicate_zero, List.getElem?_cons_zero, List.getElem?_cons_succ, List.getElem?_nil, List.set_cons_zero, List.set_cons_succ, List.all_cons, List.all_nil, List.isEmpty_nil, List.isEmpty_cons, List.contains_nil, List.contains_cons, List.elem_nil, Bool.false_eq_true, if_true, if_false, ite_true, ite_false, reduceIte, Bool.and_true, Bool.true_and, Bool.and_false, Bool.false_and, Bool.or_true, Bool.true_or, Bool.or_false, Bool.false_or, Bool.not_true, Bool.not_false, Option.bind_some, Option.bind_none, Option.map_some, Option.map_none, Nat.reduceAdd, Nat.reduceSub, Nat.reduceEqDiff, Nat.reduceLeDiff, Nat.zero_add, decide_true, decide_false, beq_self_eq_true, String.reduceBEq, String.reduceEq, reduceCtorEq, Int.reduceNeg, Int.reduceLT, Int.reduceLE, Int.reduceAdd, Int.reduceSub, Int.reduceMul, Int.reduceEq, Int.reduceBEq, Int.natCast_zero, Int.natCast_one, Int.cast_ofNat_Int, DL.atI_0, DL.atI_1, DL.atI_2, DL.atI_3, DL.atI_4, DL.atI_5, DL.atI_6, DL.cut_tail, DL.cut5_02, DL.cut5_24, List.take_succ_cons, List.take_zero, List.take_nil, List.drop_succ_cons, List.drop_zero, List.drop_nil, Int.toNat_natCast, Int.reduceToNat, Int.reducePow, Nat.reducePow, Nat.reduceMul, and_self, and_true, true_and, List.length_map, List.map_map, decide_eq_true_eq, hs]
theorem g_c3 (c : Int × Int) (M s p : Int) (h1 : 2 ≤ M) (h2 : M ≤ 8) (W S T R : D) : c_law_great_right_3 [.iow (cupD c), .val (.int M), .val (.int s), .val (.int p), .val W, .val S, .own T, .val R, .no, .no, .no, .no, .no, .no, .no, .no, .no] = .ok (.f (.lst ((lins M.toNat).map D.int))) [.iow (cupD c), .val (.int M), .val (.int s), .val (.int p), .val W, .val S, .own T, .val R, .no, .no, .no, .no, .no, .no, .no, .no, .no] := by
  have m1 : mid 1 = true := rfl
  have m2 : mid (M + 1) = true := mid_ok (by omega) (by omega)
  have e0 : (M + 1 - 1).toNat = M.toNat := by omega
  unfold c_law_great_right_3
  refine (lc_map (ds := (lins M.toNat).map D.int) (e1 := [.iow (cupD c), .val (.int M), .val (.int s), .val (.int p), .val W, .val S, .own T, .val R, .no, .no, .no, .no, .no, .no, .no, .no, .no]) id (by simp only [DL.runF, DL.startE, DL.endF, DL.outsOf, DL.seqS, DL.ifS, DL.retS, DL.retN, DL.drop, DL.noList, DL.noLists, DL.noListTop, DL.asg, DL.asgT, DL.toSl, DL.setSl, DL.leak1, DL.leaks, bnd, DL.bndS, DL.evVar, DL.evC, DL.res, DL.resS, DL.bin2, DL.un1, DL.app1, DL.app2, DL.callB, DL.appA, DL.pinO, DL.nilA, DL.consA, DL.mkT, DL.mkL, DL.tst, DL.truth, DL.truthD, DL.andT, DL.orT, DL.notT, DL.andV, DL.orV, DL.notV, DL.ifE, DL.ifT, DL.chain, DL.isi, DL.gIsi, DL.gLen, DL.gAbs, DL.gInt, DL.max_int, DL.min_int, DL.gList, DL.gTuple, DL.gAdd, DL.gSub, DL.gMul, DL.gFdiv, DL.gMod, DL.gPow, DL.gNeg, DL.gCmp, DL.gLt, DL.eq_int, DL.ne_int, DL.gIx, DL.gRev, DL.gSl, DL.slc, DL.noP, DL.someP, DL.gIsN, DL.gNotN, DL.isNonD, DL.seqX, DL.seqD, DL.itQ, DL.itR1, DL.itR2, DL.call, DL.noErr, DL.callF, DL.argsD, DL.ioSl, DL.rdSl, DL.mineAt, DL.nodupB, DL.leakSl, DL.putIo, DL.lookN, DL.putAt, DL.reTop, DL.topAt, DL.putTop, DL.apnd, DL.stoL, DL.stoT, DL.par2, DL.put2, DL.par3, DL.put3, DL.tgN, DL.tgTup, DL.tgCons, DL.tgNil, DL.forS, DL.wipeE, DL.restE, DL.yesT, DL.lcStep, DL.mutL, DL.gInsert, DL.raiseS, DL.nop, DL.brk, DL.cont, DL.ite_out, List.map_cons, List.map_nil, List.zip_cons_cons, List.zip_nil_right, List.zip_nil_left, List.length_cons, List.length_nil, List.cons_append, List.nil_append, List.replicate_succ, List.replicate_zero, List.getElem?_cons_zero, List.getElem?_cons_succ, List.getElem?_nil, List.set_cons_zero, List.set_cons_succ, List.all_cons, List.all_nil, List.isEmpty_nil, List.isEmpty_cons, List.contains_nil, List.contains_cons, List.elem_nil, Bool.false_eq_true, if_true, if_false, ite_true, ite_false, reduceIte, Bool.and_true, Bool.true_and, Bool.and_false, Bool.false_and, Bool.or_true, Bool.true_or, Bool.or_false, Bool.false_or, Bool.not_true, Bool.not_false, Option.bind_some, Option.bind_none, Option.map_some, Option.map_none, Nat.reduceAdd, Nat.reduceSub, Nat.reduceEqDiff, Nat.reduceLeDiff, Nat.zero_add, decide_true, decide_false, beq_self_eq_true, String.reduceBEq, String.reduceEq, reduceCtorEq, Int.reduceNeg, Int.reduceLT, Int.reduceLE, Int.reduceAdd, Int.reduceSub, Int.reduceMul, Int.reduceEq, Int.reduceBEq, Int.natCast_zero, Int.natCast_one, Int.cast_ofNat_Int, DL.atI_0, DL.atI_1, DL.atI_2, DL.atI_3, DL.atI_4, DL.atI_5, DL.atI_6, DL.cut_tail, DL.cut5_02, DL.cut5_24, List.take_succ_cons, List.take_zero, List.take_nil, List.drop_succ_cons, List.drop_zero, List.drop_nil, Int.toNat_natCast, Int.reduceToNat, Int.reducePow, Nat.reducePow, Nat.reduceMul, and_self, and_true, true_and, List.length_map, List.map_map, decide_eq_true_eq, m1, m2, e0, rangeD_lins]) fun d hd => ?_).trans (by rw [List.map_id]; rfl)
  obtain ⟨l, _, rfl⟩ := List.mem_map.mp hd
  simp only [DL.runF, DL.startE, DL.endF, DL.outsOf, DL.seqS, DL.ifS, DL.retS, DL.retN, DL.drop, DL.noList, DL.noLists, DL.noListTop, DL.asg, DL.asgT, DL.toSl, DL.setSl, DL.leak1, DL.leaks, bnd, DL.bndS, DL.evVar, DL.evC, DL.res, DL.resS, DL.bin2, DL.un1, DL.app1, DL.app2, DL.callB, DL.appA, DL.pinO, DL.nilA, DL.consA, DL.mkT, DL.mkL, DL.tst, DL.truth, DL.truthD, DL.andT, DL.orT, DL.notT, DL.andV, DL.orV, DL.notV, DL.ifE, DL.ifT, DL.chain, DL.isi, DL.gIsi, DL.gLen, DL.gAbs, DL.gInt, DL.max_int, DL.min_int, DL.gList, DL.gTuple, DL.gAdd, DL.gSub, DL.gMul, DL.gFdiv, DL.gMod, DL.gPow, DL.gNeg, DL.gCmp, DL.gLt, DL.eq_int, DL.ne_int, DL.gIx, DL.gRev, DL.gSl, DL.slc, DL.noP, DL.someP, DL.gIsN, DL.gNotN, DL.isNonD, DL.seqX, DL.seqD, DL.itQ, DL.itR1, DL.itR2, DL.call, DL.noErr, DL.callF, DL.argsD, DL.ioSl, DL.rdSl, DL.mineAt, DL.nodupB, DL.leakSl, DL.putIo, DL.lookN, DL.putAt, DL.reTop, DL.topAt, DL.putTop, DL.apnd, DL.stoL, DL.stoT, DL.par2, DL.put2, DL.par3, DL.put3, DL.tgN, DL.tgTup, DL.tgCons, DL.tgNil, DL.forS, DL.wipeE, DL.restE, DL.yesT, DL.lcStep, DL.mutL, DL.gInsert, DL.raiseS, DL.nop, DL.brk, DL.cont, DL.ite_out, List.map_cons, List.map_nil, List.zip_cons_cons, List.zip_nil_right, List.zip_nil_left, List.length_cons, List.length_nil, List.cons_append, List.nil_append, List.replicate_succ, List.replicate_zero, List.getElem?_cons_zero, List.getElem?_cons_succ, List.getElem?_nil, List.set_cons_zero, List.set_cons_succ, List.all_cons, List.all_nil, List.isEmpty_nil, List.isEmpty_cons, List.contains_nil, List.contains_cons, List.elem_nil, Bool.false_eq_true, if_true, if_false, ite_true, ite_false, reduceIte, Bool.and_true, Bool.true_and, Bool.and_false, Bool.false_and, Bool.or_true, Bool.true_or, Bool.or_false, Bool.false_or, Bool.not_true, Bool.not_false, Option.bind_some, Option.bind_none, Option.map_some, Option.map_none, Nat.reduceAdd, Nat.reduceSub, Nat.reduceEqDiff, Nat.reduceLeDiff, Nat.zero_add, decide_true, decide_false, beq_self_eq_true, String.reduceBEq, String.reduceEq, reduceCtorEq, Int.reduceNeg, Int.reduceLT, Int.reduceLE, Int.reduceAdd, Int.reduceSub, Int.reduceMul, Int.reduceEq, Int.reduceBEq, Int.natCast_zero, Int.natCast_one, Int.cast_ofNat_Int, DL.atI_0, DL.atI_1, DL.atI_2, DL.atI_3, DL.atI_4, DL.atI_5, DL.atI_6, DL.cut_tail, DL.cut5_02, DL.cut5_24, List.take_succ_cons, List.take_zero, List.take_nil, List.drop_succ_cons, List.drop_zero, List.drop_nil, Int.toNat_natCast, Int.reduceToNat, Int.reducePow, Nat.reducePow, Nat.reduceMul, and_self, and_true, true_and, List.length_map, List.map_map, decide_eq_true_eq, id]
def later (s i : Int) (d : D) : Option D := match d with
  | .int j => cond (decide (i < j)) (some (.tup [.int i, .int j, .int (2 * s)])) none
  | _ => none
theorem g_c4 (c : Int × Int) (M s p i : Int) (ls : List Int) (W S T R WH P : D) : c_law_great_right_4 [.iow (cupD c), .val (.int M), .val (.int s), .val (.int p), .val W, .val S, .own T, .val R, .val WH, .val (.tup (ls.map D.int)), .own P, .val (.int i), .no, .no, .no, .no, .no] = .ok (.f (.lst ((ls.map D.int).filterMap (later s i)))) [.iow (cupD c), .val (.int M), .val (.int s), .val (.int p), .val W, .val S, .own T, .val R, .val WH, .val (.tup (ls.map D.int)), .own P, .val (.int i), .no, .no, .no, .no, .no] := by
  have hs : small 2 = true := rfl
  unfold c_law_great_right_4
  refine (lc_eq (ds := ls.map D.int) (e1 := [.iow (cupD c), .val (.int M), .val (.int s), .val (.int p), .val W, .val S, .own T, .val R, .val WH, .val (.tup (ls.map D.int)), .own P, .val (.int i), .no, .no, .no, .no, .no]) (later s i) (by simp only [DL.runF, DL.startE, DL.endF, DL.outsOf, DL.seqS, DL.ifS, DL.retS, DL.retN, DL.drop, DL.noList, DL.noLists, DL.noListTop, DL.asg, DL.asgT, DL.toSl, DL.setSl, DL.leak1, DL.leaks, bnd, DL.bndS, DL.evVar, DL.evC, DL.res, DL.resS, DL.bin2, DL.un1, DL.app1, DL.app2, DL.callB, DL.appA, DL.pinO, DL.nilA, DL.consA, DL.mkT, DL.mkL, DL.tst, DL.truth, DL.truthD, DL.andT, DL.orT, DL.notT, DL.andV, DL.orV, DL.notV, DL.ifE, DL.ifT, DL.chain, DL.isi, DL.gIsi, DL.gLen, DL.gAbs, DL.gInt, DL.max_int, DL.min_int, DL.gList, DL.gTuple, DL.gAdd, DL.gSub, DL.gMul, DL.gFdiv, DL.gMod, DL.gPow, DL.gNeg, DL.gCmp, DL.gLt, DL.eq_int, DL.ne_int, DL.gIx, DL.gRev, DL.gSl, DL.slc, DL.noP, DL.someP, DL.gIsN, DL.gNotN, DL.isNonD, DL.seqX, DL.seqD, DL.itQ, DL.itR1, DL.itR2, DL.call, DL.noErr, DL.callF, DL.argsD, DL.ioSl, DL.rdSl, DL.mineAt, DL.nodupB, DL.leakSl, DL.putIo, DL.lookN, DL.putAt, DL.reTop, DL.topAt, DL.putTop, DL.apnd, DL.stoL, DL.stoT, DL.par2, DL.put2, DL.par3, DL.put3, DL.tgN, DL.tgTup, DL.tgCons, DL.tgNil, DL.forS, DL.wipeE, DL.restE, DL.yesT, DL.lcStep, DL.mutL, DL.gInsert, DL.raiseS, DL.nop, DL.brk, DL.cont, DL.ite_out, List.map_cons, List.map_nil, List.zip_cons_cons, List.zip_nil_right, List.zip_nil_left, List.length_cons, List.length_nil, List.cons_append, List.nil_append, List.replicate_succ, List.replicate_zero, List.getElem?_cons_zero, List.getElem?_cons_succ, List.getElem?_nil, List.set_cons_zero, List.set_cons_succ, List.all_cons, List.all_nil, List.isEmpty_nil, List.isEmpty_cons, List.contains_nil, List.contains_cons, List.elem_nil, Bool.false_eq_true, if_true, if_false, ite_true, ite_false, reduceIte, Bool.and_true, Bool.true_and, Bool.and_false, Bool.false_and, Bool.or_true, Bool.true_or, Bool.or_false, Bool.false_or, Bool.not_true, Bool.not_false, Option.bind_some, Option.bind_none, Option.map_some, Option.map_none, Nat.reduceAdd, Nat.reduceSub, Nat.reduceEqDiff, Nat.reduceLeDiff, Nat.zero_add, decide_true, decide_false, beq_self_eq_true, String.reduceBEq, String.reduceEq, reduceCtorEq, Int.reduceNeg, Int.reduceLT, Int.reduceLE, Int.reduceAdd, Int.reduceSub, Int.reduceMul, Int.reduceEq, Int.reduceBEq, Int.natCast_zero, Int.natCast_one, Int.cast_ofNat_Int, DL.atI_0, DL.atI_1, DL.atI_2, DL.atI_3, DL.atI_4, DL.atI_5, DL.atI_6, DL.cut_tail, DL.cut5_02, DL.cut5_24, List.take_succ_cons, List.take_zero, List.take_nil, List.drop_succ_cons, List.drop_zero, List.drop_nil, Int.toNat_natCast, Int.reduceToNat, Int.reducePow, Nat.reducePow, Nat.reduceMul, and_self, and_true, true_and, List.length_map, List.map_map, decide_eq_true_eq]) fun d hd => ?_).trans rfl
  obtain ⟨j, _, rfl⟩ := List.mem_map.mp hd
  unfold later
  cases h : decide (i < j) <;> simp only [DL.runF, DL.startE, DL.endF, DL.outsOf, DL.seqS, DL.ifS, DL.retS, DL.retN, DL.drop, DL.noList, DL.noLists, DL.noListTop, DL.asg, DL.asgT, DL.toSl, DL.setSl, DL.leak1, DL.leaks, bnd, DL.bndS, DL.evVar, DL.evC, DL.res, DL.resS, DL.bin2, DL.un1, DL.app1, DL.app2, DL.callB, DL.appA, DL.pinO, DL.nilA, DL.consA, DL.mkT, DL.mkL, DL.tst, DL.truth, DL.truthD, DL.andT, DL.orT, DL.notT, DL.andV, DL.orV, DL.notV, DL.ifE, DL.ifT, DL.chain, DL.isi, DL.gIsi, DL.gLen, DL.gAbs, DL.gInt, DL.max_int, DL.min_int, DL.gList, DL.gTuple, DL.gAdd, DL.gSub, DL.gMul, DL.gFdiv, DL.gMod, DL.gPow, DL.gNeg, DL.gCmp, DL.gLt, DL.eq_int, DL.ne_int, DL.gIx, DL.gRev, DL.gSl, DL.slc, DL.noP, DL.someP, DL.gIsN, DL.gNotN, DL.isNonD, DL.seqX, DL.seqD, DL.itQ, DL.itR1, DL.itR2, DL.call, DL.noErr, DL.callF, DL.argsD, DL.ioSl, DL.rdSl, DL.mineAt, DL.nodupB, DL.leakSl, DL.putIo, DL.lookN, DL.putAt, DL.reTop, DL.topAt, DL.putTop, DL.apnd, DL.stoL, DL.stoT, DL.par2, DL.put2, DL.par3, DL.put3, DL.tgN, DL.tgTup, DL.tgCons, DL.tgNil, DL.forS, DL.wipeE, DL.restE, DL.yesT, DL.lcStep, DL.mutL, DL.gInsert, DL.raiseS, DL.nop, DL.brk, DL.cont, DL.ite_out, List.map_cons, List.map_nil, List.zip_cons_cons, List.zip_nil_right, List.zip_nil_left, List.length_cons, List.length_nil, List.cons_append, List.nil_append, List.replicate_succ, List.replicate_zero, List.getElem?_cons_zero, List.getElem?_cons_succ, List.getElem?_nil, List.set_cons_zero, List.set_cons_succ, List.all_cons, List.all_nil, List.isEmpty_nil, List.isEmpty_cons, List.contains_nil, List.contains_cons, List.elem_nil, Bool.false_eq_true, if_true, if_false, ite_true, ite_false, reduceIte, Bool.and_true, Bool.true_and, Bool.and_false, Bool.false_and, Bool.or_true, Bool.true_or, Bool.or_false, Bool.false_or, Bool.not_true, Bool.not_false, Option.bind_some, Option.bind_none, Option.map_some, Option.map_none, Nat.reduceAdd, Nat.reduceSub, Nat.reduceEqDiff, Nat.reduceLeDiff, Nat.zero_add, decide_true, decide_false, beq_self_eq_true, String.reduceBEq, String.reduceEq, reduceCtorEq, Int.reduceNeg, Int.reduceLT, Int.reduceLE, Int.reduceAdd, Int.reduceSub, Int.reduceMul, Int.reduceEq, Int.reduceBEq, Int.natCast_zero, Int.natCast_one, Int.cast_ofNat_Int, DL.atI_0, DL.atI_1, DL.atI_2, DL.atI_3, DL.atI_4, DL.atI_5, DL.atI_6, DL.cut_tail, DL.cut5_02, DL.cut5_24, List.take_succ_cons, List.take_zero, List.take_nil, List.drop_succ_cons, List.drop_zero, List.drop_nil, Int.toNat_natCast, Int.reduceToNat, Int.reducePow, Nat.reducePow, Nat.reduceMul, and_self, and_true, true_and, List.length_map, List.map_map, decide_eq_true_eq, h, hs, cond_true, cond_false]
theorem g_pair (c : Int × Int) (M s p i : Int) (ls : List Int) (Fs : List D) (hz : Fs.length + ls.length ≤ 1000) (W S T R WH : D) : b_law_great_right_1 [.iow (cupD c), .val (.int M), .val (.int s), .val (.int p), .val W, .val S, .own T, .val R, .val WH, .val (.tup (ls.map D.int)), .own (.lst Fs), .val (.int i), .no, .no, .no, .no, .no] = .nx [.iow (cupD c), .val (.int M), .val (.int s), .val (.int p), .val W, .val S, .own T, .val R, .val WH, .val (.tup (ls.map D.int)), .own (.lst (Fs ++ (ls.map D.int).filterMap (later s i))), .val (.int i), .no, .no, .no, .no, .no] := by
  have hc := g_c4 c M s p i ls W S T R WH (.lst Fs)
  have hl : ((ls.map D.int).filterMap (later s i)).length ≤ ls.length := by
    have := List.length_filterMap_le (later s i) (ls.map D.int)
    rw [List.length_map] at this
    exact this
  generalize (ls.map D.int).filterMap (later s i) = X at *
  have hX : Fs.length + X.length ≤ 16777216 := by omega
  unfold b_law_great_right_1
  simp only [DL.runF, DL.startE, DL.endF, DL.outsOf, DL.seqS, DL.ifS, DL.retS, DL.retN, DL.drop, DL.noList, DL.noLists, DL.noListTop, DL.asg, DL.asgT, DL.toSl, DL.setSl, DL.leak1, DL.leaks, bnd, DL.bndS, DL.evVar, DL.evC, DL.res, DL.resS, DL.bin2, DL.un1, DL.app1, DL.app2, DL.callB, DL.appA, DL.pinO, DL.nilA, DL.consA, DL.mkT, DL.mkL, DL.tst, DL.truth, DL.truthD, DL.andT, DL.orT, DL.notT, DL.andV, DL.orV, DL.notV, DL.ifE, DL.ifT, DL.chain, DL.isi, DL.gIsi, DL.gLen, DL.gAbs, DL.gInt, DL.max_int, DL.min_int, DL.gList, DL.gTuple, DL.gAdd, DL.gSub, DL.gMul, DL.gFdiv, DL.gMod, DL.gPow, DL.gNeg, DL.gCmp, DL.gLt, DL.eq_int, DL.ne_int, DL.gIx, DL.gRev, DL.gSl, DL.slc, DL.noP, DL.someP, DL.gIsN, DL.gNotN, DL.isNonD, DL.seqX, DL.seqD, DL.itQ, DL.itR1, DL.itR2, DL.call, DL.noErr, DL.callF, DL.argsD, DL.ioSl, DL.rdSl, DL.mineAt, DL.nodupB, DL.leakSl, DL.putIo, DL.lookN, DL.putAt, DL.reTop, DL.topAt, DL.putTop, DL.apnd, DL.stoL, DL.stoT, DL.par2, DL.put2, DL.par3, DL.put3, DL.tgN, DL.tgTup, DL.tgCons, DL.tgNil, DL.forS, DL.wipeE, DL.restE, DL.yesT, DL.lcStep, DL.mutL, DL.gInsert, DL.raiseS, DL.nop, DL.brk, DL.cont, DL.ite_out, List.map_cons, List.map_nil, List.zip_cons_cons, List.zip_nil_right, List.zip_nil_left, List.length_cons, List.length_nil, List.cons_append, List.nil_append, List.replicate_succ, List.replicate_zero, List.getElem?_cons_zero, List.getElem?_cons_succ, List.getElem?_nil, List.set_cons_zero, List.set_cons_succ, List.all_cons, List.all_nil, List.isEmpty_nil, List.isEmpty_cons, List.contains_nil, List.contains_cons, List.elem_nil, Bool.false_eq_true, if_true, if_false, ite_true, ite_false, reduceIte, Bool.and_true, Bool.true_and, Bool.and_false, Bool.false_and, Bool.or_true, Bool.true_or, Bool.or_false, Bool.false_or, Bool.not_true, Bool.not_false, Option.bind_some, Option.bind_none, Option.map_some, Option.map_none, Nat.reduceAdd, Nat.reduceSub, Nat.reduceEqDiff, Nat.reduceLeDiff, Nat.zero_add, decide_true, decide_false, beq_self_eq_true, String.reduceBEq, String.reduceEq, reduceCtorEq, Int.reduceNeg, Int.reduceLT, Int.reduceLE, Int.reduceAdd, Int.reduceSub, Int.reduceMul, Int.reduceEq, Int.reduceBEq, Int.natCast_zero, Int.natCast_one, Int.cast_ofNat_Int, DL.atI_0, DL.atI_1, DL.atI_2, DL.atI_3, DL.atI_4, DL.atI_5, DL.atI_6, DL.cut_tail, DL.cut5_02, DL.cut5_24, List.take_succ_cons, List.take_zero, List.take_nil, List.drop_succ_cons, List.drop_zero, List.drop_nil, Int.toNat_natCast, Int.reduceToNat, Int.reducePow, Nat.reducePow, Nat.reduceMul, and_self, and_true, true_and, List.length_map, List.map_map, decide_eq_true_eq, hc, hX]
theorem g_loop (c : Int × Int) (M s p : Int) (ls : List Int) (W S T R WH : D) : ∀ (is : List Int) (Fs : List D) (x : Sl), Fs.length + is.length * ls.length + ls.length ≤ 1000 → NV x → ∃ y, NV y ∧ forL (tgN 11) b_law_great_right_1 (is.map D.int) [.iow (cupD c), .val (.int M), .val (.int s), .val (.int p), .val W, .val S, .own T, .val R, .val WH, .val (.tup (ls.map D.int)), .own (.lst Fs), x, .no, .no, .no, .no, .no] = .nx [.iow (cupD c), .val (.int M), .val (.int s), .val (.int p), .val W, .val S, .own T, .val R, .val WH, .val (.tup (ls.map D.int)), .own (.lst (Fs ++ is.flatMap fun i => (ls.map D.int).filterMap (later s i))), y, .no, .no, .no, .no, .no]
  | [], Fs, x, hz, hx => ⟨x, hx, by rw [List.flatMap_nil, List.append_nil]; rfl⟩
  | i :: is, Fs, x, hz, hx => by
    rw [List.length_cons, Nat.succ_mul] at hz
    have hb := g_pair c M s p i ls Fs (by omega) W S T R WH
    have hg : tgN 11 (.int i) [.iow (cupD c), .val (.int M), .val (.int s), .val (.int p), .val W, .val S, .own T, .val R, .val WH, .val (.tup (ls.map D.int)), .own (.lst Fs), x, .no, .no, .no, .no, .no] = some [.iow (cupD c), .val (.int M), .val (.int s), .val (.int p), .val W, .val S, .own T, .val R, .val WH, .val (.tup (ls.map D.int)), .own (.lst Fs), .val (.int i), .no, .no, .no, .no, .no] := by rcases hx with rfl | ⟨_, rfl⟩ <;> rfl
    have hl : ((ls.map D.int).filterMap (later s i)).length ≤ ls.length := by
      have := List.length_filterMap_le (later s i) (ls.map D.int)
      rw [List.length_map] at this
      exact this
    rw [List.map_cons, forL_nx hg hb]
    obtain ⟨y, hy, e⟩ := g_loop c M s p ls W S T R WH is (Fs ++ (ls.map D.int).filterMap (later s i)) (.val (.int i)) (by rw [List.length_append]; omega) (.inr ⟨_, rfl⟩)
    exact ⟨y, hy, by rw [e, List.flatMap_cons, List.append_assoc]⟩
def oneD (s : Int) (d : D) : D := match d with
  | .int l => .tup [.int 1, .int l, .int s]
  | _ => .non
theorem g_c5 (c : Int × Int) (M s p : Int) (ls : List Int) (hc : cutD (ls.map D.int) (some 1) none = ls.tail.map D.int) (x : Sl) (W S T2 R WH P : D) : c_law_great_right_5 [.iow (cupD c), .val (.int M), .val (.int s), .val (.int p), .val W, .val S, .own T2, .val R, .val WH, .val (.tup (ls.map D.int)), .own P, x, .no, .no, .no, .no, .no] = .ok (.f (.lst (ls.tail.map fun l => .tup [.int 1, .int l, .int s]))) [.iow (cupD c), .val (.int M), .val (.int s), .val (.int p), .val W, .val S, .own T2, .val R, .val WH, .val (.tup (ls.map D.int)), .own P, x, .no, .no, .no, .no, .no] := by
  have hm : (ls.tail.map D.int).map (oneD s) = ls.tail.map fun l => .tup [.int 1, .int l, .int s] := by rw [List.map_map]; rfl
  unfold c_law_great_right_5
  rw [← hm]
  refine (lc_map (ds := ls.tail.map D.int) (e1 := [.iow (cupD c), .val (.int M), .val (.int s), .val (.int p), .val W, .val S, .own T2, .val R, .val WH, .val (.tup (ls.map D.int)), .own P, x, .no, .no, .no, .no, .no]) (oneD s) (by simp only [DL.runF, DL.startE, DL.endF, DL.outsOf, DL.seqS, DL.ifS, DL.retS, DL.retN, DL.drop, DL.noList, DL.noLists, DL.noListTop, DL.asg, DL.asgT, DL.toSl, DL.setSl, DL.leak1, DL.leaks, bnd, DL.bndS, DL.evVar, DL.evC, DL.res, DL.resS, DL.bin2, DL.un1, DL.app1, DL.app2, DL.callB, DL.appA, DL.pinO, DL.nilA, DL.consA, DL.mkT, DL.mkL, DL.tst, DL.truth, DL.truthD, DL.andT, DL.orT, DL.notT, DL.andV, DL.orV, DL.notV, DL.ifE, DL.ifT, DL.chain, DL.isi, DL.gIsi, DL.gLen, DL.gAbs, DL.gInt, DL.max_int, DL.min_int, DL.gList, DL.gTuple, DL.gAdd, DL.gSub, DL.gMul, DL.gFdiv, DL.gMod, DL.gPow, DL.gNeg, DL.gCmp, DL.gLt, DL.eq_int, DL.ne_int, DL.gIx, DL.gRev, DL.gSl, DL.slc, DL.noP, DL.someP, DL.gIsN, DL.gNotN, DL.isNonD, DL.seqX, DL.seqD, DL.itQ, DL.itR1, DL.itR2, DL.call, DL.noErr, DL.callF, DL.argsD, DL.ioSl, DL.rdSl, DL.mineAt, DL.nodupB, DL.leakSl, DL.putIo, DL.lookN, DL.putAt, DL.reTop, DL.topAt, DL.putTop, DL.apnd, DL.stoL, DL.stoT, DL.par2, DL.put2, DL.par3, DL.put3, DL.tgN, DL.tgTup, DL.tgCons, DL.tgNil, DL.forS, DL.wipeE, DL.restE, DL.yesT, DL.lcStep, DL.mutL, DL.gInsert, DL.raiseS, DL.nop, DL.brk, DL.cont, DL.ite_out, List.map_cons, List.map_nil, List.zip_cons_cons, List.zip_nil_right, List.zip_nil_left, List.length_cons, List.length_nil, List.cons_append, List.nil_append, List.replicate_succ, List.replicate_zero, List.getElem?_cons_zero, List.getElem?_cons_succ, List.getElem?_nil, List.set_cons_zero, List.set_cons_succ, List.all_cons, List.all_nil, List.isEmpty_nil, List.isEmpty_cons, List.contains_nil, List.contains_cons, List.elem_nil, Bool.false_eq_true, if_true, if_false, ite_true, ite_false, reduceIte, Bool.and_true, Bool.true_and, Bool.and_false, Bool.false_and, Bool.or_true, Bool.true_or, Bool.or_false, Bool.false_or, Bool.not_true, Bool.not_false, Option.bind_some, Option.bind_none, Option.map_some, Option.map_none, Nat.reduceAdd, Nat.reduceSub, Nat.reduceEqDiff, Nat.reduceLeDiff, Nat.zero_add, decide_true, decide_false, beq_self_eq_true, String.reduceBEq, String.reduceEq, reduceCtorEq, Int.reduceNeg, Int.reduceLT, Int.reduceLE, Int.reduceAdd, Int.reduceSub, Int.reduceMul, Int.reduceEq, Int.reduceBEq, Int.natCast_zero, Int.natCast_one, Int.cast_ofNat_Int, DL.atI_0, DL.atI_1, DL.atI_2, DL.atI_3, DL.atI_4, DL.atI_5, DL.atI_6, DL.cut_tail, DL.cut5_02, DL.cut5_24, List.take_succ_cons, List.take_zero, List.take_nil, List.drop_succ_cons, List.drop_zero, List.drop_nil, Int.toNat_natCast, Int.reduceToNat, Int.reducePow, Nat.reducePow, Nat.reduceMul, and_self, and_true, true_and, List.length_map, List.map_map, decide_eq_true_eq, hc]) fun d hd => ?_).trans rfl
  obtain ⟨l, _, rfl⟩ := List.mem_map.mp hd
  unfold oneD
  simp only [DL.runF, DL.startE, DL.endF, DL.outsOf, DL.seqS, DL.ifS, DL.retS, DL.retN, DL.drop, DL.noList, DL.noLists, DL.noListTop, DL.asg, DL.asgT, DL.toSl, DL.setSl, DL.leak1, DL.leaks, bnd, DL.bndS, DL.evVar, DL.evC, DL.res, DL.resS, DL.bin2, DL.un1, DL.app1, DL.app2, DL.callB, DL.appA, DL.pinO, DL.nilA, DL.consA, DL.mkT, DL.mkL, DL.tst, DL.truth, DL.truthD, DL.andT, DL.orT, DL.notT, DL.andV, DL.orV, DL.notV, DL.ifE, DL.ifT, DL.chain, DL.isi, DL.gIsi, DL.gLen, DL.gAbs, DL.gInt, DL.max_int, DL.min_int, DL.gList, DL.gTuple, DL.gAdd, DL.gSub, DL.gMul, DL.gFdiv, DL.gMod, DL.gPow, DL.gNeg, DL.gCmp, DL.gLt, DL.eq_int, DL.ne_int, DL.gIx, DL.gRev, DL.gSl, DL.slc, DL.noP, DL.someP, DL.gIsN, DL.gNotN, DL.isNonD, DL.seqX, DL.seqD, DL.itQ, DL.itR1, DL.itR2, DL.call, DL.noErr, DL.callF, DL.argsD, DL.ioSl, DL.rdSl, DL.mineAt, DL.nodupB, DL.leakSl, DL.putIo, DL.lookN, DL.putAt, DL.reTop, DL.topAt, DL.putTop, DL.apnd, DL.stoL, DL.stoT, DL.par2, DL.put2, DL.par3, DL.put3, DL.tgN, DL.tgTup, DL.tgCons, DL.tgNil, DL.forS, DL.wipeE, DL.restE, DL.yesT, DL.lcStep, DL.mutL, DL.gInsert, DL.raiseS, DL.nop, DL.brk, DL.cont, DL.ite_out, List.map_cons, List.map_nil, List.zip_cons_cons, List.zip_nil_right, List.zip_nil_left, List.length_cons, List.length_nil, List.cons_append, List.nil_append, List.replicate_succ, List.replicate_zero, List.getElem?_cons_zero, List.getElem?_cons_succ, List.getElem?_nil, List.set_cons_zero, List.set_cons_succ, List.all_cons, List.all_nil, List.isEmpty_nil, List.isEmpty_cons, List.contains_nil, List.contains_cons, List.elem_nil, Bool.false_eq_true, if_true, if_false, ite_true, ite_false, reduceIte, Bool.and_true, Bool.true_and, Bool.and_false, Bool.false_and, Bool.or_true, Bool.true_or, Bool.or_false, Bool.false_or, Bool.not_true, Bool.not_false, Option.bind_some, Option.bind_none, Option.map_some, Option.map_none, Nat.reduceAdd, Nat.reduceSub, Nat.reduceEqDiff, Nat.reduceLeDiff, Nat.zero_add, decide_true, decide_false, beq_self_eq_true, String.reduceBEq, String.reduceEq, reduceCtorEq, Int.reduceNeg, Int.reduceLT, Int.reduceLE, Int.reduceAdd, Int.reduceSub, Int.reduceMul, Int.reduceEq, Int.reduceBEq, Int.natCast_zero, Int.natCast_one, Int.cast_ofNat_Int, DL.atI_0, DL.atI_1, DL.atI_2, DL.atI_3, DL.atI_4, DL.atI_5, DL.atI_6, DL.cut_tail, DL.cut5_02, DL.cut5_24, List.take_succ_cons, List.take_zero, List.take_nil, List.drop_succ_cons, List.drop_zero, List.drop_nil, Int.toNat_natCast, Int.reduceToNat, Int.reducePow, Nat.reducePow, Nat.reduceMul, and_self, and_true, true_and, List.length_map, List.map_map, decide_eq_true_eq]
def w60 : List Int := (rng 0 60).map fun a => (a * 5).fmod 7 + 1
theorem g_c6 (c : Int × Int) (M s p : Int) (ls : List Int) (x : Sl) (W S T2 R WH P Q : D) : c_law_great_right_6 [.iow (cupD c), .val (.int M), .val (.int s), .val (.int p), .val W, .val S, .own T2, .val R, .val WH, .val (.tup (ls.map D.int)), .own P, x, .own Q, .no, .no, .no, .no] = .ok (.f (.lst (w60.map D.int))) [.iow (cupD c), .val (.int M), .val (.int s), .val (.int p), .val W, .val S, .own T2, .val R, .val WH, .val (.tup (ls.map D.int)), .own P, x, .own Q, .no, .no, .no, .no] := by
  have m1 : mid 60 = true := rfl
  have s5 : small 5 = true := rfl
  have n7 : (7 : Int) ≠ 0 := by decide
  unfold c_law_great_right_6 w60
  rw [← map_mapD]
  refine (lc_map (ds := (rng 0 60).map D.int) (e1 := [.iow (cupD c), .val (.int M), .val (.int s), .val (.int p), .val W, .val S, .own T2, .val R, .val WH, .val (.tup (ls.map D.int)), .own P, x, .own Q, .no, .no, .no, .no]) (mapD fun a => (a * 5).fmod 7 + 1) (by simp only [DL.runF, DL.startE, DL.endF, DL.outsOf, DL.seqS, DL.ifS, DL.retS, DL.retN, DL.drop, DL.noList, DL.noLists, DL.noListTop, DL.asg, DL.asgT, DL.toSl, DL.setSl, DL.leak1, DL.leaks, bnd, DL.bndS, DL.evVar, DL.evC, DL.res, DL.resS, DL.bin2, DL.un1, DL.app1, DL.app2, DL.callB, DL.appA, DL.pinO, DL.nilA, DL.consA, DL.mkT, DL.mkL, DL.tst, DL.truth, DL.truthD, DL.andT, DL.orT, DL.notT, DL.andV, DL.orV, DL.notV, DL.ifE, DL.ifT, DL.chain, DL.isi, DL.gIsi, DL.gLen, DL.gAbs, DL.gInt, DL.max_int, DL.min_int, DL.gList, DL.gTuple, DL.gAdd, DL.gSub, DL.gMul, DL.gFdiv, DL.gMod, DL.gPow, DL.gNeg, DL.gCmp, DL.gLt, DL.eq_int, DL.ne_int, DL.gIx, DL.gRev, DL.gSl, DL.slc, DL.noP, DL.someP, DL.gIsN, DL.gNotN, DL.isNonD, DL.seqX, DL.seqD, DL.itQ, DL.itR1, DL.itR2, DL.call, DL.noErr, DL.callF, DL.argsD, DL.ioSl, DL.rdSl, DL.mineAt, DL.nodupB, DL.leakSl, DL.putIo, DL.lookN, DL.putAt, DL.reTop, DL.topAt, DL.putTop, DL.apnd, DL.stoL, DL.stoT, DL.par2, DL.put2, DL.par3, DL.put3, DL.tgN, DL.tgTup, DL.tgCons, DL.tgNil, DL.forS, DL.wipeE, DL.restE, DL.yesT, DL.lcStep, DL.mutL, DL.gInsert, DL.raiseS, DL.nop, DL.brk, DL.cont, DL.ite_out, List.map_cons, List.map_nil, List.zip_cons_cons, List.zip_nil_right, List.zip_nil_left, List.length_cons, List.length_nil, List.cons_append, List.nil_append, List.replicate_succ, List.replicate_zero, List.getElem?_cons_zero, List.getElem?_cons_succ, List.getElem?_nil, List.set_cons_zero, List.set_cons_succ, List.all_cons, List.all_nil, List.isEmpty_nil, List.isEmpty_cons, List.contains_nil, List.contains_cons, List.elem_nil, Bool.false_eq_true, if_true, if_false, ite_true, ite_false, reduceIte, Bool.and_true, Bool.true_and, Bool.and_false, Bool.false_and, Bool.or_true, Bool.true_or, Bool.or_false, Bool.false_or, Bool.not_true, Bool.not_false, Option.bind_some, Option.bind_none, Option.map_some, Option.map_none, Nat.reduceAdd, Nat.reduceSub, Nat.reduceEqDiff, Nat.reduceLeDiff, Nat.zero_add, decide_true, decide_false, beq_self_eq_true, String.reduceBEq, String.reduceEq, reduceCtorEq, Int.reduceNeg, Int.reduceLT, Int.reduceLE, Int.reduceAdd, Int.reduceSub, Int.reduceMul, Int.reduceEq, Int.reduceBEq, Int.natCast_zero, Int.natCast_one, Int.cast_ofNat_Int, DL.atI_0, DL.atI_1, DL.atI_2, DL.atI_3, DL.atI_4, DL.atI_5, DL.atI_6, DL.cut_tail, DL.cut5_02, DL.cut5_24, List.take_succ_cons, List.take_zero, List.take_nil, List.drop_succ_cons, List.drop_zero, List.drop_nil, Int.toNat_natCast, Int.reduceToNat, Int.reducePow, Nat.reducePow, Nat.reduceMul, and_self, and_true, true_and, List.length_map, List.map_map, decide_eq_true_eq, m1, rangeD_rng]) fun d hd => ?_).trans rfl
  obtain ⟨l, _, rfl⟩ := List.mem_map.mp hd
  unfold mapD
  simp only [DL.runF, DL.startE, DL.endF, DL.outsOf, DL.seqS, DL.ifS, DL.retS, DL.retN, DL.drop, DL.noList, DL.noLists, DL.noListTop, DL.asg, DL.asgT, DL.toSl, DL.setSl, DL.leak1, DL.leaks, bnd, DL.bndS, DL.evVar, DL.evC, DL.res, DL.resS, DL.bin2, DL.un1, DL.app1, DL.app2, DL.callB, DL.appA, DL.pinO, DL.nilA, DL.consA, DL.mkT, DL.mkL, DL.tst, DL.truth, DL.truthD, DL.andT, DL.orT, DL.notT, DL.andV, DL.orV, DL.notV, DL.ifE, DL.ifT, DL.chain, DL.isi, DL.gIsi, DL.gLen, DL.gAbs, DL.gInt, DL.max_int, DL.min_int, DL.gList, DL.gTuple, DL.gAdd, DL.gSub, DL.gMul, DL.gFdiv, DL.gMod, DL.gPow, DL.gNeg, DL.gCmp, DL.gLt, DL.eq_int, DL.ne_int, DL.gIx, DL.gRev, DL.gSl, DL.slc, DL.noP, DL.someP, DL.gIsN, DL.gNotN, DL.isNonD, DL.seqX, DL.seqD, DL.itQ, DL.itR1, DL.itR2, DL.call, DL.noErr, DL.callF, DL.argsD, DL.ioSl, DL.rdSl, DL.mineAt, DL.nodupB, DL.leakSl, DL.putIo, DL.lookN, DL.putAt, DL.reTop, DL.topAt, DL.putTop, DL.apnd, DL.stoL, DL.stoT, DL.par2, DL.put2, DL.par3, DL.put3, DL.tgN, DL.tgTup, DL.tgCons, DL.tgNil, DL.forS, DL.wipeE, DL.restE, DL.yesT, DL.lcStep, DL.mutL, DL.gInsert, DL.raiseS, DL.nop, DL.brk, DL.cont, DL.ite_out, List.map_cons, List.map_nil, List.zip_cons_cons, List.zip_nil_right, List.zip_nil_left, List.length_cons, List.length_nil, List.cons_append, List.nil_append, List.replicate_succ, List.replicate_zero, List.getElem?_cons_zero, List.getElem?_cons_succ, List.getElem?_nil, List.set_cons_zero, List.set_cons_succ, List.all_cons, List.all_nil, List.isEmpty_nil, List.isEmpty_cons, List.contains_nil, List.contains_cons, List.elem_nil, Bool.false_eq_true, if_true, if_false, ite_true, ite_false, reduceIte, Bool.and_true, Bool.true_and, Bool.and_false, Bool.false_and, Bool.or_true, Bool.true_or, Bool.or_false, Bool.false_or, Bool.not_true, Bool.not_false, Option.bind_some, Option.bind_none, Option.map_some, Option.map_none, Nat.reduceAdd, Nat.reduceSub, Nat.reduceEqDiff, Nat.reduceLeDiff, Nat.zero_add, decide_true, decide_false, beq_self_eq_true, String.reduceBEq, String.reduceEq, reduceCtorEq, Int.reduceNeg, Int.reduceLT, Int.reduceLE, Int.reduceAdd, Int.reduceSub, Int.reduceMul, Int.reduceEq, Int.reduceBEq, Int.natCast_zero, Int.natCast_one, Int.cast_ofNat_Int, DL.atI_0, DL.atI_1, DL.atI_2, DL.atI_3, DL.atI_4, DL.atI_5, DL.atI_6, DL.cut_tail, DL.cut5_02, DL.cut5_24, List.take_succ_cons, List.take_zero, List.take_nil, List.drop_succ_cons, List.drop_zero, List.drop_nil, Int.toNat_natCast, Int.reduceToNat, Int.reducePow, Nat.reducePow, Nat.reduceMul, and_self, and_true, true_and, List.length_map, List.map_map, decide_eq_true_eq, s5, n7, Bool.or_true, ne_eq, not_false_eq_true]
theorem w60_ok : WOk 8 w60 := ⟨by decide, by decide, by decide +kernel, by decide +kernel⟩
end K34

set_option maxRecDepth 100000
set_option maxHeartbeats 4000000
namespace K34
open PySem PySem.Spec L2 DL
open PyProof.Rows hiding St
open DL (Env)
theorem seqS_nx {a b : MS} {e e1 : DL.Env} (h : a e = .nx e1) : seqS a b e = b e1 := by simp only [seqS, h]
theorem gs0 (c0 : Int × Int) (c1 : Int × Int) (c2 : Int × Int) (M : Int) (s : Int) (r1 : Int) (hM : 2 + r1 = M) (k1 : g_law_roll [cupD c0, .int 7] = .ok false (.int r1) [cupD c1]) (k2 : g_law_some [cupD c1, .lst [.int 1, .int (-1)]] = .ok false (.int s) [cupD c2]) : (par2 1 2 (bin2 gAdd (evC (.int 2)) (DL.call [true, false] g_law_roll (consA (evVar 0) (consA (evC (.int 7)) (nilA))))) (DL.call [true, false] g_law_some (consA (evVar 0) (consA (mkL (consA (evC (.int 1)) (consA (un1 gNeg (evC (.int 1))) (nilA)))) (nilA))))) [.iow (cupD c0), .no, .no, .no, .no, .no, .no, .no, .no, .no, .no, .no, .no, .no, .no, .no, .no] = .nx [.iow (cupD c2), .val (.int M), .val (.int s), .no, .no, .no, .no, .no, .no, .no, .no, .no, .no, .no, .no, .no, .no] := by
  simp only [DL.runF, DL.startE, DL.endF, DL.outsOf, DL.seqS, DL.ifS, DL.retS, DL.retN, DL.drop, DL.noList, DL.noLists, DL.noListTop, DL.asg, DL.asgT, DL.toSl, DL.setSl, DL.leak1, DL.leaks, bnd, DL.bndS, DL.evVar, DL.evC, DL.res, DL.resS, DL.bin2, DL.un1, DL.app1, DL.app2, DL.callB, DL.appA, DL.pinO, DL.nilA, DL.consA, DL.mkT, DL.mkL, DL.tst, DL.truth, DL.truthD, DL.andT, DL.orT, DL.notT, DL.andV, DL.orV, DL.notV, DL.ifE, DL.ifT, DL.chain, DL.isi, DL.gIsi, DL.gLen, DL.gAbs, DL.gInt, DL.max_int, DL.min_int, DL.gList, DL.gTuple, DL.gAdd, DL.gSub, DL.gMul, DL.gFdiv, DL.gMod, DL.gPow, DL.gNeg, DL.gCmp, DL.gLt, DL.eq_int, DL.ne_int, DL.gIx, DL.gRev, DL.gSl, DL.slc, DL.noP, DL.someP, DL.gIsN, DL.gNotN, DL.isNonD, DL.seqX, DL.seqD, DL.itQ, DL.itR1, DL.itR2, DL.call, DL.noErr, DL.callF, DL.argsD, DL.ioSl, DL.rdSl, DL.mineAt, DL.nodupB, DL.leakSl, DL.putIo, DL.lookN, DL.putAt, DL.reTop, DL.topAt, DL.putTop, DL.apnd, DL.stoL, DL.stoT, DL.par2, DL.put2, DL.par3, DL.put3, DL.tgN, DL.tgTup, DL.tgCons, DL.tgNil, DL.forS, DL.wipeE, DL.restE, DL.yesT, DL.lcStep, DL.mutL, DL.gInsert, DL.raiseS, DL.nop, DL.brk, DL.cont, DL.ite_out, List.map_cons, List.map_nil, List.zip_cons_cons, List.zip_nil_right, List.zip_nil_left, List.length_cons, List.length_nil, List.cons_append, List.nil_append, List.replicate_succ, List.replicate_zero, List.getElem?_cons_zero, List.getElem?_cons_succ, List.getElem?_nil, List.set_cons_zero, List.set_cons_succ, List.all_cons, List.all_nil, List.isEmpty_nil, List.isEmpty_cons, List.contains_nil, List.contains_cons, List.elem_nil, Bool.false_eq_true, if_true, if_false, ite_true, ite_false, reduceIte, Bool.and_true, Bool.true_and, Bool.and_false, Bool.false_and, Bool.or_true, Bool.true_or, Bool.or_false, Bool.false_or, Bool.not_true, Bool.not_false, Option.bind_some, Option.bind_none, Option.map_some, Option.map_none, Nat.reduceAdd, Nat.reduceSub, Nat.reduceEqDiff, Nat.reduceLeDiff, Nat.zero_add, decide_true, decide_false, beq_self_eq_true, String.reduceBEq, String.reduceEq, reduceCtorEq, Int.reduceNeg, Int.reduceLT, Int.reduceLE, Int.reduceAdd, Int.reduceSub, Int.reduceMul, Int.reduceEq, Int.reduceBEq, Int.natCast_zero, Int.natCast_one, Int.cast_ofNat_Int, DL.atI_0, DL.atI_1, DL.atI_2, DL.atI_3, DL.atI_4, DL.atI_5, DL.atI_6, DL.cut_tail, DL.cut5_02, DL.cut5_24, List.take_succ_cons, List.take_zero, List.take_nil, List.drop_succ_cons, List.drop_zero, List.drop_nil, Int.toNat_natCast, Int.reduceToNat, Int.reducePow, Nat.reducePow, Nat.reduceMul, and_self, and_true, true_and, List.length_map, List.map_map, decide_eq_true_eq, k1, k2, hM]
theorem gs1 (c2 : Int × Int) (c : Int × Int) (M : Int) (s : Int) (p : Int) (r3 : Int) (hp : 1 + r3 = p) (k3 : g_law_roll [cupD c2, .int (M - 1)] = .ok false (.int r3) [cupD c]) : (asg 3 (bin2 gAdd (evC (.int 1)) (DL.call [true, false] g_law_roll (consA (evVar 0) (consA (bin2 gSub (evVar 1) (evC (.int 1))) (nilA)))))) [.iow (cupD c2), .val (.int M), .val (.int s), .no, .no, .no, .no, .no, .no, .no, .no, .no, .no, .no, .no, .no, .no] = .nx [.iow (cupD c), .val (.int M), .val (.int s), .val (.int p), .no, .no, .no, .no, .no, .no, .no, .no, .no, .no, .no, .no, .no] := by
  simp only [DL.runF, DL.startE, DL.endF, DL.outsOf, DL.seqS, DL.ifS, DL.retS, DL.retN, DL.drop, DL.noList, DL.noLists, DL.noListTop, DL.asg, DL.asgT, DL.toSl, DL.setSl, DL.leak1, DL.leaks, bnd, DL.bndS, DL.evVar, DL.evC, DL.res, DL.resS, DL.bin2, DL.un1, DL.app1, DL.app2, DL.callB, DL.appA, DL.pinO, DL.nilA, DL.consA, DL.mkT, DL.mkL, DL.tst, DL.truth, DL.truthD, DL.andT, DL.orT, DL.notT, DL.andV, DL.orV, DL.notV, DL.ifE, DL.ifT, DL.chain, DL.isi, DL.gIsi, DL.gLen, DL.gAbs, DL.gInt, DL.max_int, DL.min_int, DL.gList, DL.gTuple, DL.gAdd, DL.gSub, DL.gMul, DL.gFdiv, DL.gMod, DL.gPow, DL.gNeg, DL.gCmp, DL.gLt, DL.eq_int, DL.ne_int, DL.gIx, DL.gRev, DL.gSl, DL.slc, DL.noP, DL.someP, DL.gIsN, DL.gNotN, DL.isNonD, DL.seqX, DL.seqD, DL.itQ, DL.itR1, DL.itR2, DL.call, DL.noErr, DL.callF, DL.argsD, DL.ioSl, DL.rdSl, DL.mineAt, DL.nodupB, DL.leakSl, DL.putIo, DL.lookN, DL.putAt, DL.reTop, DL.topAt, DL.putTop, DL.apnd, DL.stoL, DL.stoT, DL.par2, DL.put2, DL.par3, DL.put3, DL.tgN, DL.tgTup, DL.tgCons, DL.tgNil, DL.forS, DL.wipeE, DL.restE, DL.yesT, DL.lcStep, DL.mutL, DL.gInsert, DL.raiseS, DL.nop, DL.brk, DL.cont, DL.ite_out, List.map_cons, List.map_nil, List.zip_cons_cons, List.zip_nil_right, List.zip_nil_left, List.length_cons, List.length_nil, List.cons_append, List.nil_append, List.replicate_succ, List.replicate_zero, List.getElem?_cons_zero, List.getElem?_cons_succ, List.getElem?_nil, List.set_cons_zero, List.set_cons_succ, List.all_cons, List.all_nil, List.isEmpty_nil, List.isEmpty_cons, List.contains_nil, List.contains_cons, List.elem_nil, Bool.false_eq_true, if_true, if_false, ite_true, ite_false, reduceIte, Bool.and_true, Bool.true_and, Bool.and_false, Bool.false_and, Bool.or_true, Bool.true_or, Bool.or_false, Bool.false_or, Bool.not_true, Bool.not_false, Option.bind_some, Option.bind_none, Option.map_some, Option.map_none, Nat.reduceAdd, Nat.reduceSub, Nat.reduceEqDiff, Nat.reduceLeDiff, Nat.zero_add, decide_true, decide_false, beq_self_eq_true, String.reduceBEq, String.reduceEq, reduceCtorEq, Int.reduceNeg, Int.reduceLT, Int.reduceLE, Int.reduceAdd, Int.reduceSub, Int.reduceMul, Int.reduceEq, Int.reduceBEq, Int.natCast_zero, Int.natCast_one, Int.cast_ofNat_Int, DL.atI_0, DL.atI_1, DL.atI_2, DL.atI_3, DL.atI_4, DL.atI_5, DL.atI_6, DL.cut_tail, DL.cut5_02, DL.cut5_24, List.take_succ_cons, List.take_zero, List.take_nil, List.drop_succ_cons, List.drop_zero, List.drop_nil, Int.toNat_natCast, Int.reduceToNat, Int.reducePow, Nat.reducePow, Nat.reduceMul, and_self, and_true, true_and, List.length_map, List.map_map, decide_eq_true_eq, k3, hp]
theorem gs2 (c : Int × Int) (M : Int) (s : Int) (p : Int) (W : List D) (h4 : (bin2 gMul (mkT (consA (bin2 gMul (evVar 3) (evVar 2)) (nilA))) (evC (.int 59))) [.iow (cupD c), .val (.int M), .val (.int s), .val (.int p), .no, .no, .no, .no, .no, .no, .no, .no, .no, .no, .no, .no, .no] = .ok (.d (.tup W)) [.iow (cupD c), .val (.int M), .val (.int s), .val (.int p), .no, .no, .no, .no, .no, .no, .no, .no, .no, .no, .no, .no, .no]) : (asg 4 (bin2 gMul (mkT (consA (bin2 gMul (evVar 3) (evVar 2)) (nilA))) (evC (.int 59)))) [.iow (cupD c), .val (.int M), .val (.int s), .val (.int p), .no, .no, .no, .no, .no, .no, .no, .no, .no, .no, .no, .no, .no] = .nx [.iow (cupD c), .val (.int M), .val (.int s), .val (.int p), .val (.tup W), .no, .no, .no, .no, .no, .no, .no, .no, .no, .no, .no, .no] := by
  generalize (bin2 gMul (mkT (consA (bin2 gMul (evVar 3) (evVar 2)) (nilA))) (evC (.int 59))) = m4 at h4 ⊢
  simp only [DL.runF, DL.startE, DL.endF, DL.outsOf, DL.seqS, DL.ifS, DL.retS, DL.retN, DL.drop, DL.noList, DL.noLists, DL.noListTop, DL.asg, DL.asgT, DL.toSl, DL.setSl, DL.leak1, DL.leaks, bnd, DL.bndS, DL.evVar, DL.evC, DL.res, DL.resS, DL.bin2, DL.un1, DL.app1, DL.app2, DL.callB, DL.appA, DL.pinO, DL.nilA, DL.consA, DL.mkT, DL.mkL, DL.tst, DL.truth, DL.truthD, DL.andT, DL.orT, DL.notT, DL.andV, DL.orV, DL.notV, DL.ifE, DL.ifT, DL.chain, DL.isi, DL.gIsi, DL.gLen, DL.gAbs, DL.gInt, DL.max_int, DL.min_int, DL.gList, DL.gTuple, DL.gAdd, DL.gSub, DL.gMul, DL.gFdiv, DL.gMod, DL.gPow, DL.gNeg, DL.gCmp, DL.gLt, DL.eq_int, DL.ne_int, DL.gIx, DL.gRev, DL.gSl, DL.slc, DL.noP, DL.someP, DL.gIsN, DL.gNotN, DL.isNonD, DL.seqX, DL.seqD, DL.itQ, DL.itR1, DL.itR2, DL.call, DL.noErr, DL.callF, DL.argsD, DL.ioSl, DL.rdSl, DL.mineAt, DL.nodupB, DL.leakSl, DL.putIo, DL.lookN, DL.putAt, DL.reTop, DL.topAt, DL.putTop, DL.apnd, DL.stoL, DL.stoT, DL.par2, DL.put2, DL.par3, DL.put3, DL.tgN, DL.tgTup, DL.tgCons, DL.tgNil, DL.forS, DL.wipeE, DL.restE, DL.yesT, DL.lcStep, DL.mutL, DL.gInsert, DL.raiseS, DL.nop, DL.brk, DL.cont, DL.ite_out, List.map_cons, List.map_nil, List.zip_cons_cons, List.zip_nil_right, List.zip_nil_left, List.length_cons, List.length_nil, List.cons_append, List.nil_append, List.replicate_succ, List.replicate_zero, List.getElem?_cons_zero, List.getElem?_cons_succ, List.getElem?_nil, List.set_cons_zero, List.set_cons_succ, List.all_cons, List.all_nil, List.isEmpty_nil, List.isEmpty_cons, List.contains_nil, List.contains_cons, List.elem_nil, Bool.false_eq_true, if_true, if_false, ite_true, ite_false, reduceIte, Bool.and_true, Bool.true_and, Bool.and_false, Bool.false_and, Bool.or_true, Bool.true_or, Bool.or_false, Bool.false_or, Bool.not_true, Bool.not_false, Option.bind_some, Option.bind_none, Option.map_some, Option.map_none, Nat.reduceAdd, Nat.reduceSub, Nat.reduceEqDiff, Nat.reduceLeDiff, Nat.zero_add, decide_true, decide_false, beq_self_eq_true, String.reduceBEq, String.reduceEq, reduceCtorEq, Int.reduceNeg, Int.reduceLT, Int.reduceLE, Int.reduceAdd, Int.reduceSub, Int.reduceMul, Int.reduceEq, Int.reduceBEq, Int.natCast_zero, Int.natCast_one, Int.cast_ofNat_Int, DL.atI_0, DL.atI_1, DL.atI_2, DL.atI_3, DL.atI_4, DL.atI_5, DL.atI_6, DL.cut_tail, DL.cut5_02, DL.cut5_24, List.take_succ_cons, List.take_zero, List.take_nil, List.drop_succ_cons, List.drop_zero, List.drop_nil, Int.toNat_natCast, Int.reduceToNat, Int.reducePow, Nat.reducePow, Nat.reduceMul, and_self, and_true, true_and, List.length_map, List.map_map, decide_eq_true_eq, h4]
theorem gs3 (c : Int × Int) (M : Int) (s : Int) (p : Int) (W : List D) (SW : List D) (h5 : c_law_great_right_1 [.iow (cupD c), .val (.int M), .val (.int s), .val (.int p), .val (.tup W), .no, .no, .no, .no, .no, .no, .no, .no, .no, .no, .no, .no] = .ok (.f (.lst SW)) [.iow (cupD c), .val (.int M), .val (.int s), .val (.int p), .val (.tup W), .no, .no, .no, .no, .no, .no, .no, .no, .no, .no, .no, .no]) : (asg 5 (callB gTuple (consA (c_law_great_right_1) (nilA)))) [.iow (cupD c), .val (.int M), .val (.int s), .val (.int p), .val (.tup W), .no, .no, .no, .no, .no, .no, .no, .no, .no, .no, .no, .no] = .nx [.iow (cupD c), .val (.int M), .val (.int s), .val (.int p), .val (.tup W), .val (.tup SW), .no, .no, .no, .no, .no, .no, .no, .no, .no, .no, .no] := by
  simp only [DL.runF, DL.startE, DL.endF, DL.outsOf, DL.seqS, DL.ifS, DL.retS, DL.retN, DL.drop, DL.noList, DL.noLists, DL.noListTop, DL.asg, DL.asgT, DL.toSl, DL.setSl, DL.leak1, DL.leaks, bnd, DL.bndS, DL.evVar, DL.evC, DL.res, DL.resS, DL.bin2, DL.un1, DL.app1, DL.app2, DL.callB, DL.appA, DL.pinO, DL.nilA, DL.consA, DL.mkT, DL.mkL, DL.tst, DL.truth, DL.truthD, DL.andT, DL.orT, DL.notT, DL.andV, DL.orV, DL.notV, DL.ifE, DL.ifT, DL.chain, DL.isi, DL.gIsi, DL.gLen, DL.gAbs, DL.gInt, DL.max_int, DL.min_int, DL.gList, DL.gTuple, DL.gAdd, DL.gSub, DL.gMul, DL.gFdiv, DL.gMod, DL.gPow, DL.gNeg, DL.gCmp, DL.gLt, DL.eq_int, DL.ne_int, DL.gIx, DL.gRev, DL.gSl, DL.slc, DL.noP, DL.someP, DL.gIsN, DL.gNotN, DL.isNonD, DL.seqX, DL.seqD, DL.itQ, DL.itR1, DL.itR2, DL.call, DL.noErr, DL.callF, DL.argsD, DL.ioSl, DL.rdSl, DL.mineAt, DL.nodupB, DL.leakSl, DL.putIo, DL.lookN, DL.putAt, DL.reTop, DL.topAt, DL.putTop, DL.apnd, DL.stoL, DL.stoT, DL.par2, DL.put2, DL.par3, DL.put3, DL.tgN, DL.tgTup, DL.tgCons, DL.tgNil, DL.forS, DL.wipeE, DL.restE, DL.yesT, DL.lcStep, DL.mutL, DL.gInsert, DL.raiseS, DL.nop, DL.brk, DL.cont, DL.ite_out, List.map_cons, List.map_nil, List.zip_cons_cons, List.zip_nil_right, List.zip_nil_left, List.length_cons, List.length_nil, List.cons_append, List.nil_append, List.replicate_succ, List.replicate_zero, List.getElem?_cons_zero, List.getElem?_cons_succ, List.getElem?_nil, List.set_cons_zero, List.set_cons_succ, List.all_cons, List.all_nil, List.isEmpty_nil, List.isEmpty_cons, List.contains_nil, List.contains_cons, List.elem_nil, Bool.false_eq_true, if_true, if_false, ite_true, ite_false, reduceIte, Bool.and_true, Bool.true_and, Bool.and_false, Bool.false_and, Bool.or_true, Bool.true_or, Bool.or_false, Bool.false_or, Bool.not_true, Bool.not_false, Option.bind_some, Option.bind_none, Option.map_some, Option.map_none, Nat.reduceAdd, Nat.reduceSub, Nat.reduceEqDiff, Nat.reduceLeDiff, Nat.zero_add, decide_true, decide_false, beq_self_eq_true, String.reduceBEq, String.reduceEq, reduceCtorEq, Int.reduceNeg, Int.reduceLT, Int.reduceLE, Int.reduceAdd, Int.reduceSub, Int.reduceMul, Int.reduceEq, Int.reduceBEq, Int.natCast_zero, Int.natCast_one, Int.cast_ofNat_Int, DL.atI_0, DL.atI_1, DL.atI_2, DL.atI_3, DL.atI_4, DL.atI_5, DL.atI_6, DL.cut_tail, DL.cut5_02, DL.cut5_24, List.take_succ_cons, List.take_zero, List.take_nil, List.drop_succ_cons, List.drop_zero, List.drop_nil, Int.toNat_natCast, Int.reduceToNat, Int.reducePow, Nat.reducePow, Nat.reduceMul, and_self, and_true, true_and, List.length_map, List.map_map, decide_eq_true_eq, h5]
theorem gs4 (c : Int × Int) (M : Int) (s : Int) (p : Int) (W : List D) (SW : List D) (BK : List D) (ob : g_order_behind [.int M, .tup W] = .ok false (.tup SW) []) (wi : g_windings [.int M, .tup W] = .ok false (.tup [.tup [.int p, .int (p + 1), .int (59 * s)]]) []) (su : g_sum_of [.int M, .tup W] = .ok false (.int (59 * s)) []) (ba : g_back_of [.int M, .tup W] = .ok false (.tup BK) []) (w2 : g_windings [.int M, .tup (W ++ [.int (-p * s)])] = .ok false (.tup [.tup [.int p, .int (p + 1), .int (58 * s)]]) []) (zW : W.length ≤ 1000) (hs : small s = true) : (asg 6 (mkL (consA (DL.call [false, false] g_order_behind (consA (evVar 1) (consA (evVar 4) (nilA)))) (consA (DL.call [false, false] g_windings (consA (evVar 1) (consA (evVar 4) (nilA)))) (consA (DL.call [false, false] g_sum_of (consA (evVar 1) (consA (evVar 4) (nilA)))) (consA (DL.call [false, false] g_back_of (consA (evVar 1) (consA (evVar 4) (nilA)))) (consA (DL.call [false, false] g_windings (consA (evVar 1) (consA (bin2 gAdd (evVar 4) (mkT (consA (bin2 gMul (un1 gNeg (evVar 3)) (evVar 2)) (nilA)))) (nilA)))) (nilA)))))))) [.iow (cupD c), .val (.int M), .val (.int s), .val (.int p), .val (.tup W), .val (.tup SW), .no, .no, .no, .no, .no, .no, .no, .no, .no, .no, .no] = .nx [.iow (cupD c), .val (.int M), .val (.int s), .val (.int p), .val (.tup W), .val (.tup SW), .own (.lst [.tup SW, .tup [.tup [.int p, .int (p + 1), .int (59 * s)]], .int (59 * s), .tup BK, .tup [.tup [.int p, .int (p + 1), .int (58 * s)]]]), .no, .no, .no, .no, .no, .no, .no, .no, .no, .no] := by
  have z1 : W.length + 1 ≤ 16777216 := by omega
  have z2 : W.length ≤ 16777215 := by omega
  simp only [DL.runF, DL.startE, DL.endF, DL.outsOf, DL.seqS, DL.ifS, DL.retS, DL.retN, DL.drop, DL.noList, DL.noLists, DL.noListTop, DL.asg, DL.asgT, DL.toSl, DL.setSl, DL.leak1, DL.leaks, bnd, DL.bndS, DL.evVar, DL.evC, DL.res, DL.resS, DL.bin2, DL.un1, DL.app1, DL.app2, DL.callB, DL.appA, DL.pinO, DL.nilA, DL.consA, DL.mkT, DL.mkL, DL.tst, DL.truth, DL.truthD, DL.andT, DL.orT, DL.notT, DL.andV, DL.orV, DL.notV, DL.ifE, DL.ifT, DL.chain, DL.isi, DL.gIsi, DL.gLen, DL.gAbs, DL.gInt, DL.max_int, DL.min_int, DL.gList, DL.gTuple, DL.gAdd, DL.gSub, DL.gMul, DL.gFdiv, DL.gMod, DL.gPow, DL.gNeg, DL.gCmp, DL.gLt, DL.eq_int, DL.ne_int, DL.gIx, DL.gRev, DL.gSl, DL.slc, DL.noP, DL.someP, DL.gIsN, DL.gNotN, DL.isNonD, DL.seqX, DL.seqD, DL.itQ, DL.itR1, DL.itR2, DL.call, DL.noErr, DL.callF, DL.argsD, DL.ioSl, DL.rdSl, DL.mineAt, DL.nodupB, DL.leakSl, DL.putIo, DL.lookN, DL.putAt, DL.reTop, DL.topAt, DL.putTop, DL.apnd, DL.stoL, DL.stoT, DL.par2, DL.put2, DL.par3, DL.put3, DL.tgN, DL.tgTup, DL.tgCons, DL.tgNil, DL.forS, DL.wipeE, DL.restE, DL.yesT, DL.lcStep, DL.mutL, DL.gInsert, DL.raiseS, DL.nop, DL.brk, DL.cont, DL.ite_out, List.map_cons, List.map_nil, List.zip_cons_cons, List.zip_nil_right, List.zip_nil_left, List.length_cons, List.length_nil, List.cons_append, List.nil_append, List.replicate_succ, List.replicate_zero, List.getElem?_cons_zero, List.getElem?_cons_succ, List.getElem?_nil, List.set_cons_zero, List.set_cons_succ, List.all_cons, List.all_nil, List.isEmpty_nil, List.isEmpty_cons, List.contains_nil, List.contains_cons, List.elem_nil, Bool.false_eq_true, if_true, if_false, ite_true, ite_false, reduceIte, Bool.and_true, Bool.true_and, Bool.and_false, Bool.false_and, Bool.or_true, Bool.true_or, Bool.or_false, Bool.false_or, Bool.not_true, Bool.not_false, Option.bind_some, Option.bind_none, Option.map_some, Option.map_none, Nat.reduceAdd, Nat.reduceSub, Nat.reduceEqDiff, Nat.reduceLeDiff, Nat.zero_add, decide_true, decide_false, beq_self_eq_true, String.reduceBEq, String.reduceEq, reduceCtorEq, Int.reduceNeg, Int.reduceLT, Int.reduceLE, Int.reduceAdd, Int.reduceSub, Int.reduceMul, Int.reduceEq, Int.reduceBEq, Int.natCast_zero, Int.natCast_one, Int.cast_ofNat_Int, DL.atI_0, DL.atI_1, DL.atI_2, DL.atI_3, DL.atI_4, DL.atI_5, DL.atI_6, DL.cut_tail, DL.cut5_02, DL.cut5_24, List.take_succ_cons, List.take_zero, List.take_nil, List.drop_succ_cons, List.drop_zero, List.drop_nil, Int.toNat_natCast, Int.reduceToNat, Int.reducePow, Nat.reducePow, Nat.reduceMul, and_self, and_true, true_and, List.length_map, List.map_map, decide_eq_true_eq, ob, wi, su, ba, w2, z1, z2, hs, Bool.or_true]
theorem gs5 (c : Int × Int) (M : Int) (s : Int) (p : Int) (W : List D) (SW : List D) (BK : List D) (T : D) (hB : (bin2 gMul (mkT (consA (bin2 gMul (un1 gNeg (evVar 3)) (evVar 2)) (nilA))) (evC (.int 59))) [.iow (cupD c), .val (.int M), .val (.int s), .val (.int p), .val (.tup W), .val (.tup SW), .own (T), .no, .no, .no, .no, .no, .no, .no, .no, .no, .no] = .ok (.d (.tup BK)) [.iow (cupD c), .val (.int M), .val (.int s), .val (.int p), .val (.tup W), .val (.tup SW), .own (T), .no, .no, .no, .no, .no, .no, .no, .no, .no, .no]) (lk1 : g_law_like 8 [T, .lst [.tup SW, .tup [.tup [.int p, .int (p + 1), .int (59 * s)]], .int (59 * s), .tup BK, .tup [.tup [.int p, .int (p + 1), .int (58 * s)]]]] = .ok false (.bl true) []) (hs : small s = true) : (ifS (notT (truth (DL.call [false, false] (g_law_like 8) (consA (evVar 6) (consA (mkL (consA (evVar 5) (consA (mkT (consA (mkT (consA (evVar 3) (consA (bin2 gAdd (evVar 3) (evC (.int 1))) (consA (bin2 gMul (evC (.int 59)) (evVar 2)) (nilA))))) (nilA))) (consA (bin2 gMul (evC (.int 59)) (evVar 2)) (consA (bin2 gMul (mkT (consA (bin2 gMul (un1 gNeg (evVar 3)) (evVar 2)) (nilA))) (evC (.int 59))) (consA (mkT (consA (mkT (consA (evVar 3) (consA (bin2 gAdd (evVar 3) (evC (.int 1))) (consA (bin2 gMul (evC (.int 58)) (evVar 2)) (nilA))))) (nilA))) (nilA))))))) (nilA)))))) (retS (evC (.bl false))) (nop)) [.iow (cupD c), .val (.int M), .val (.int s), .val (.int p), .val (.tup W), .val (.tup SW), .own (T), .no, .no, .no, .no, .no, .no, .no, .no, .no, .no] = .nx [.iow (cupD c), .val (.int M), .val (.int s), .val (.int p), .val (.tup W), .val (.tup SW), .own (T), .no, .no, .no, .no, .no, .no, .no, .no, .no, .no] := by
  generalize (bin2 gMul (mkT (consA (bin2 gMul (un1 gNeg (evVar 3)) (evVar 2)) (nilA))) (evC (.int 59))) = mB at hB ⊢
  simp only [DL.runF, DL.startE, DL.endF, DL.outsOf, DL.seqS, DL.ifS, DL.retS, DL.retN, DL.drop, DL.noList, DL.noLists, DL.noListTop, DL.asg, DL.asgT, DL.toSl, DL.setSl, DL.leak1, DL.leaks, bnd, DL.bndS, DL.evVar, DL.evC, DL.res, DL.resS, DL.bin2, DL.un1, DL.app1, DL.app2, DL.callB, DL.appA, DL.pinO, DL.nilA, DL.consA, DL.mkT, DL.mkL, DL.tst, DL.truth, DL.truthD, DL.andT, DL.orT, DL.notT, DL.andV, DL.orV, DL.notV, DL.ifE, DL.ifT, DL.chain, DL.isi, DL.gIsi, DL.gLen, DL.gAbs, DL.gInt, DL.max_int, DL.min_int, DL.gList, DL.gTuple, DL.gAdd, DL.gSub, DL.gMul, DL.gFdiv, DL.gMod, DL.gPow, DL.gNeg, DL.gCmp, DL.gLt, DL.eq_int, DL.ne_int, DL.gIx, DL.gRev, DL.gSl, DL.slc, DL.noP, DL.someP, DL.gIsN, DL.gNotN, DL.isNonD, DL.seqX, DL.seqD, DL.itQ, DL.itR1, DL.itR2, DL.call, DL.noErr, DL.callF, DL.argsD, DL.ioSl, DL.rdSl, DL.mineAt, DL.nodupB, DL.leakSl, DL.putIo, DL.lookN, DL.putAt, DL.reTop, DL.topAt, DL.putTop, DL.apnd, DL.stoL, DL.stoT, DL.par2, DL.put2, DL.par3, DL.put3, DL.tgN, DL.tgTup, DL.tgCons, DL.tgNil, DL.forS, DL.wipeE, DL.restE, DL.yesT, DL.lcStep, DL.mutL, DL.gInsert, DL.raiseS, DL.nop, DL.brk, DL.cont, DL.ite_out, List.map_cons, List.map_nil, List.zip_cons_cons, List.zip_nil_right, List.zip_nil_left, List.length_cons, List.length_nil, List.cons_append, List.nil_append, List.replicate_succ, List.replicate_zero, List.getElem?_cons_zero, List.getElem?_cons_succ, List.getElem?_nil, List.set_cons_zero, List.set_cons_succ, List.all_cons, List.all_nil, List.isEmpty_nil, List.isEmpty_cons, List.contains_nil, List.contains_cons, List.elem_nil, Bool.false_eq_true, if_true, if_false, ite_true, ite_false, reduceIte, Bool.and_true, Bool.true_and, Bool.and_false, Bool.false_and, Bool.or_true, Bool.true_or, Bool.or_false, Bool.false_or, Bool.not_true, Bool.not_false, Option.bind_some, Option.bind_none, Option.map_some, Option.map_none, Nat.reduceAdd, Nat.reduceSub, Nat.reduceEqDiff, Nat.reduceLeDiff, Nat.zero_add, decide_true, decide_false, beq_self_eq_true, String.reduceBEq, String.reduceEq, reduceCtorEq, Int.reduceNeg, Int.reduceLT, Int.reduceLE, Int.reduceAdd, Int.reduceSub, Int.reduceMul, Int.reduceEq, Int.reduceBEq, Int.natCast_zero, Int.natCast_one, Int.cast_ofNat_Int, DL.atI_0, DL.atI_1, DL.atI_2, DL.atI_3, DL.atI_4, DL.atI_5, DL.atI_6, DL.cut_tail, DL.cut5_02, DL.cut5_24, List.take_succ_cons, List.take_zero, List.take_nil, List.drop_succ_cons, List.drop_zero, List.drop_nil, Int.toNat_natCast, Int.reduceToNat, Int.reducePow, Nat.reducePow, Nat.reduceMul, and_self, and_true, true_and, List.length_map, List.map_map, decide_eq_true_eq, hB, lk1, hs, Bool.or_true]
theorem gs6 (c : Int × Int) (M : Int) (s : Int) (p : Int) (W : List D) (SW : List D) (ROW : List D) (T : D) (h7 : c_law_great_right_2 [.iow (cupD c), .val (.int M), .val (.int s), .val (.int p), .val (.tup W), .val (.tup SW), .own (T), .no, .no, .no, .no, .no, .no, .no, .no, .no, .no] = .ok (.f (.lst ROW)) [.iow (cupD c), .val (.int M), .val (.int s), .val (.int p), .val (.tup W), .val (.tup SW), .own (T), .no, .no, .no, .no, .no, .no, .no, .no, .no, .no]) : (asg 7 (callB gTuple (consA (c_law_great_right_2) (nilA)))) [.iow (cupD c), .val (.int M), .val (.int s), .val (.int p), .val (.tup W), .val (.tup SW), .own (T), .no, .no, .no, .no, .no, .no, .no, .no, .no, .no] = .nx [.iow (cupD c), .val (.int M), .val (.int s), .val (.int p), .val (.tup W), .val (.tup SW), .own (T), .val (.tup ROW), .no, .no, .no, .no, .no, .no, .no, .no, .no] := by
  simp only [DL.runF, DL.startE, DL.endF, DL.outsOf, DL.seqS, DL.ifS, DL.retS, DL.retN, DL.drop, DL.noList, DL.noLists, DL.noListTop, DL.asg, DL.asgT, DL.toSl, DL.setSl, DL.leak1, DL.leaks, bnd, DL.bndS, DL.evVar, DL.evC, DL.res, DL.resS, DL.bin2, DL.un1, DL.app1, DL.app2, DL.callB, DL.appA, DL.pinO, DL.nilA, DL.consA, DL.mkT, DL.mkL, DL.tst, DL.truth, DL.truthD, DL.andT, DL.orT, DL.notT, DL.andV, DL.orV, DL.notV, DL.ifE, DL.ifT, DL.chain, DL.isi, DL.gIsi, DL.gLen, DL.gAbs, DL.gInt, DL.max_int, DL.min_int, DL.gList, DL.gTuple, DL.gAdd, DL.gSub, DL.gMul, DL.gFdiv, DL.gMod, DL.gPow, DL.gNeg, DL.gCmp, DL.gLt, DL.eq_int, DL.ne_int, DL.gIx, DL.gRev, DL.gSl, DL.slc, DL.noP, DL.someP, DL.gIsN, DL.gNotN, DL.isNonD, DL.seqX, DL.seqD, DL.itQ, DL.itR1, DL.itR2, DL.call, DL.noErr, DL.callF, DL.argsD, DL.ioSl, DL.rdSl, DL.mineAt, DL.nodupB, DL.leakSl, DL.putIo, DL.lookN, DL.putAt, DL.reTop, DL.topAt, DL.putTop, DL.apnd, DL.stoL, DL.stoT, DL.par2, DL.put2, DL.par3, DL.put3, DL.tgN, DL.tgTup, DL.tgCons, DL.tgNil, DL.forS, DL.wipeE, DL.restE, DL.yesT, DL.lcStep, DL.mutL, DL.gInsert, DL.raiseS, DL.nop, DL.brk, DL.cont, DL.ite_out, List.map_cons, List.map_nil, List.zip_cons_cons, List.zip_nil_right, List.zip_nil_left, List.length_cons, List.length_nil, List.cons_append, List.nil_append, List.replicate_succ, List.replicate_zero, List.getElem?_cons_zero, List.getElem?_cons_succ, List.getElem?_nil, List.set_cons_zero, List.set_cons_succ, List.all_cons, List.all_nil, List.isEmpty_nil, List.isEmpty_cons, List.contains_nil, List.contains_cons, List.elem_nil, Bool.false_eq_true, if_true, if_false, ite_true, ite_false, reduceIte, Bool.and_true, Bool.true_and, Bool.and_false, Bool.false_and, Bool.or_true, Bool.true_or, Bool.or_false, Bool.false_or, Bool.not_true, Bool.not_false, Option.bind_some, Option.bind_none, Option.map_some, Option.map_none, Nat.reduceAdd, Nat.reduceSub, Nat.reduceEqDiff, Nat.reduceLeDiff, Nat.zero_add, decide_true, decide_false, beq_self_eq_true, String.reduceBEq, String.reduceEq, reduceCtorEq, Int.reduceNeg, Int.reduceLT, Int.reduceLE, Int.reduceAdd, Int.reduceSub, Int.reduceMul, Int.reduceEq, Int.reduceBEq, Int.natCast_zero, Int.natCast_one, Int.cast_ofNat_Int, DL.atI_0, DL.atI_1, DL.atI_2, DL.atI_3, DL.atI_4, DL.atI_5, DL.atI_6, DL.cut_tail, DL.cut5_02, DL.cut5_24, List.take_succ_cons, List.take_zero, List.take_nil, List.drop_succ_cons, List.drop_zero, List.drop_nil, Int.toNat_natCast, Int.reduceToNat, Int.reducePow, Nat.reducePow, Nat.reduceMul, and_self, and_true, true_and, List.length_map, List.map_map, decide_eq_true_eq, h7]
theorem gs7 (c : Int × Int) (M : Int) (s : Int) (p : Int) (W : List D) (SW : List D) (ROW : List D) (ALL : List D) (LN : List D) (T : D) (h9 : c_law_great_right_3 [.iow (cupD c), .val (.int M), .val (.int s), .val (.int p), .val (.tup W), .val (.tup SW), .own (T), .val (.tup ROW), .no, .no, .no, .no, .no, .no, .no, .no, .no] = .ok (.f (.lst LN)) [.iow (cupD c), .val (.int M), .val (.int s), .val (.int p), .val (.tup W), .val (.tup SW), .own (T), .val (.tup ROW), .no, .no, .no, .no, .no, .no, .no, .no, .no]) (zR : ROW.length ≤ 1000) (fl1 : (List.replicate M.toNat ROW).flatten = ALL) (zM : -1000 ≤ M ∧ M ≤ 1000) : (par2 8 9 (bin2 gMul (evVar 7) (evVar 1)) (callB gTuple (consA (c_law_great_right_3) (nilA)))) [.iow (cupD c), .val (.int M), .val (.int s), .val (.int p), .val (.tup W), .val (.tup SW), .own (T), .val (.tup ROW), .no, .no, .no, .no, .no, .no, .no, .no, .no] = .nx [.iow (cupD c), .val (.int M), .val (.int s), .val (.int p), .val (.tup W), .val (.tup SW), .own (T), .val (.tup ROW), .val (.tup ALL), .val (.tup LN), .no, .no, .no, .no, .no, .no, .no] := by
  have zM1 := zM.1
  have zM2 := zM.2
  simp only [DL.runF, DL.startE, DL.endF, DL.outsOf, DL.seqS, DL.ifS, DL.retS, DL.retN, DL.drop, DL.noList, DL.noLists, DL.noListTop, DL.asg, DL.asgT, DL.toSl, DL.setSl, DL.leak1, DL.leaks, bnd, DL.bndS, DL.evVar, DL.evC, DL.res, DL.resS, DL.bin2, DL.un1, DL.app1, DL.app2, DL.callB, DL.appA, DL.pinO, DL.nilA, DL.consA, DL.mkT, DL.mkL, DL.tst, DL.truth, DL.truthD, DL.andT, DL.orT, DL.notT, DL.andV, DL.orV, DL.notV, DL.ifE, DL.ifT, DL.chain, DL.isi, DL.gIsi, DL.gLen, DL.gAbs, DL.gInt, DL.max_int, DL.min_int, DL.gList, DL.gTuple, DL.gAdd, DL.gSub, DL.gMul, DL.gFdiv, DL.gMod, DL.gPow, DL.gNeg, DL.gCmp, DL.gLt, DL.eq_int, DL.ne_int, DL.gIx, DL.gRev, DL.gSl, DL.slc, DL.noP, DL.someP, DL.gIsN, DL.gNotN, DL.isNonD, DL.seqX, DL.seqD, DL.itQ, DL.itR1, DL.itR2, DL.call, DL.noErr, DL.callF, DL.argsD, DL.ioSl, DL.rdSl, DL.mineAt, DL.nodupB, DL.leakSl, DL.putIo, DL.lookN, DL.putAt, DL.reTop, DL.topAt, DL.putTop, DL.apnd, DL.stoL, DL.stoT, DL.par2, DL.put2, DL.par3, DL.put3, DL.tgN, DL.tgTup, DL.tgCons, DL.tgNil, DL.forS, DL.wipeE, DL.restE, DL.yesT, DL.lcStep, DL.mutL, DL.gInsert, DL.raiseS, DL.nop, DL.brk, DL.cont, DL.ite_out, List.map_cons, List.map_nil, List.zip_cons_cons, List.zip_nil_right, List.zip_nil_left, List.length_cons, List.length_nil, List.cons_append, List.nil_append, List.replicate_succ, List.replicate_zero, List.getElem?_cons_zero, List.getElem?_cons_succ, List.getElem?_nil, List.set_cons_zero, List.set_cons_succ, List.all_cons, List.all_nil, List.isEmpty_nil, List.isEmpty_cons, List.contains_nil, List.contains_cons, List.elem_nil, Bool.false_eq_true, if_true, if_false, ite_true, ite_false, reduceIte, Bool.and_true, Bool.true_and, Bool.and_false, Bool.false_and, Bool.or_true, Bool.true_or, Bool.or_false, Bool.false_or, Bool.not_true, Bool.not_false, Option.bind_some, Option.bind_none, Option.map_some, Option.map_none, Nat.reduceAdd, Nat.reduceSub, Nat.reduceEqDiff, Nat.reduceLeDiff, Nat.zero_add, decide_true, decide_false, beq_self_eq_true, String.reduceBEq, String.reduceEq, reduceCtorEq, Int.reduceNeg, Int.reduceLT, Int.reduceLE, Int.reduceAdd, Int.reduceSub, Int.reduceMul, Int.reduceEq, Int.reduceBEq, Int.natCast_zero, Int.natCast_one, Int.cast_ofNat_Int, DL.atI_0, DL.atI_1, DL.atI_2, DL.atI_3, DL.atI_4, DL.atI_5, DL.atI_6, DL.cut_tail, DL.cut5_02, DL.cut5_24, List.take_succ_cons, List.take_zero, List.take_nil, List.drop_succ_cons, List.drop_zero, List.drop_nil, Int.toNat_natCast, Int.reduceToNat, Int.reducePow, Nat.reducePow, Nat.reduceMul, and_self, and_true, true_and, List.length_map, List.map_map, decide_eq_true_eq, h9, zR, fl1, zM1, zM2]
theorem gs8 (c : Int × Int) (M : Int) (s : Int) (p : Int) (W : List D) (SW : List D) (ROW : List D) (ALL : List D) (LN : List D) (T : D)  : (asg 10 (mkL (nilA))) [.iow (cupD c), .val (.int M), .val (.int s), .val (.int p), .val (.tup W), .val (.tup SW), .own (T), .val (.tup ROW), .val (.tup ALL), .val (.tup LN), .no, .no, .no, .no, .no, .no, .no] = .nx [.iow (cupD c), .val (.int M), .val (.int s), .val (.int p), .val (.tup W), .val (.tup SW), .own (T), .val (.tup ROW), .val (.tup ALL), .val (.tup LN), .own (.lst []), .no, .no, .no, .no, .no, .no] := by
  simp only [DL.runF, DL.startE, DL.endF, DL.outsOf, DL.seqS, DL.ifS, DL.retS, DL.retN, DL.drop, DL.noList, DL.noLists, DL.noListTop, DL.asg, DL.asgT, DL.toSl, DL.setSl, DL.leak1, DL.leaks, bnd, DL.bndS, DL.evVar, DL.evC, DL.res, DL.resS, DL.bin2, DL.un1, DL.app1, DL.app2, DL.callB, DL.appA, DL.pinO, DL.nilA, DL.consA, DL.mkT, DL.mkL, DL.tst, DL.truth, DL.truthD, DL.andT, DL.orT, DL.notT, DL.andV, DL.orV, DL.notV, DL.ifE, DL.ifT, DL.chain, DL.isi, DL.gIsi, DL.gLen, DL.gAbs, DL.gInt, DL.max_int, DL.min_int, DL.gList, DL.gTuple, DL.gAdd, DL.gSub, DL.gMul, DL.gFdiv, DL.gMod, DL.gPow, DL.gNeg, DL.gCmp, DL.gLt, DL.eq_int, DL.ne_int, DL.gIx, DL.gRev, DL.gSl, DL.slc, DL.noP, DL.someP, DL.gIsN, DL.gNotN, DL.isNonD, DL.seqX, DL.seqD, DL.itQ, DL.itR1, DL.itR2, DL.call, DL.noErr, DL.callF, DL.argsD, DL.ioSl, DL.rdSl, DL.mineAt, DL.nodupB, DL.leakSl, DL.putIo, DL.lookN, DL.putAt, DL.reTop, DL.topAt, DL.putTop, DL.apnd, DL.stoL, DL.stoT, DL.par2, DL.put2, DL.par3, DL.put3, DL.tgN, DL.tgTup, DL.tgCons, DL.tgNil, DL.forS, DL.wipeE, DL.restE, DL.yesT, DL.lcStep, DL.mutL, DL.gInsert, DL.raiseS, DL.nop, DL.brk, DL.cont, DL.ite_out, List.map_cons, List.map_nil, List.zip_cons_cons, List.zip_nil_right, List.zip_nil_left, List.length_cons, List.length_nil, List.cons_append, List.nil_append, List.replicate_succ, List.replicate_zero, List.getElem?_cons_zero, List.getElem?_cons_succ, List.getElem?_nil, List.set_cons_zero, List.set_cons_succ, List.all_cons, List.all_nil, List.isEmpty_nil, List.isEmpty_cons, List.contains_nil, List.contains_cons, List.elem_nil, Bool.false_eq_true, if_true, if_false, ite_true, ite_false, reduceIte, Bool.and_true, Bool.true_and, Bool.and_false, Bool.false_and, Bool.or_true, Bool.true_or, Bool.or_false, Bool.false_or, Bool.not_true, Bool.not_false, Option.bind_some, Option.bind_none, Option.map_some, Option.map_none, Nat.reduceAdd, Nat.reduceSub, Nat.reduceEqDiff, Nat.reduceLeDiff, Nat.zero_add, decide_true, decide_false, beq_self_eq_true, String.reduceBEq, String.reduceEq, reduceCtorEq, Int.reduceNeg, Int.reduceLT, Int.reduceLE, Int.reduceAdd, Int.reduceSub, Int.reduceMul, Int.reduceEq, Int.reduceBEq, Int.natCast_zero, Int.natCast_one, Int.cast_ofNat_Int, DL.atI_0, DL.atI_1, DL.atI_2, DL.atI_3, DL.atI_4, DL.atI_5, DL.atI_6, DL.cut_tail, DL.cut5_02, DL.cut5_24, List.take_succ_cons, List.take_zero, List.take_nil, List.drop_succ_cons, List.drop_zero, List.drop_nil, Int.toNat_natCast, Int.reduceToNat, Int.reducePow, Nat.reducePow, Nat.reduceMul, and_self, and_true, true_and, List.length_map, List.map_map, decide_eq_true_eq]
theorem gs10 (c : Int × Int) (M : Int) (s : Int) (p : Int) (W : List D) (SW : List D) (ROW : List D) (ALL : List D) (LN : List D) (LT : List D) (PR : List D) (RT : List D) (T : D) (y : Sl) (ob2 : g_order_behind [.int M, .tup ALL] = .ok false (.tup LN) []) (wi2 : g_windings [.int M, .tup ALL] = .ok false (.tup PR) []) (su2 : g_sum_of [.int M, .tup ALL] = .ok false (.int (s * M * (M - 1))) []) (ob3 : g_order_behind [.int M, .tup ROW] = .ok false (.tup (LT ++ [.int 1])) []) (wi3 : g_windings [.int M, .tup ROW] = .ok false (.tup RT) []) : (asg 6 (mkL (consA (DL.call [false, false] g_order_behind (consA (evVar 1) (consA (evVar 8) (nilA)))) (consA (DL.call [false, false] g_windings (consA (evVar 1) (consA (evVar 8) (nilA)))) (consA (DL.call [false, false] g_sum_of (consA (evVar 1) (consA (evVar 8) (nilA)))) (consA (DL.call [false, false] g_order_behind (consA (evVar 1) (consA (evVar 7) (nilA)))) (consA (DL.call [false, false] g_windings (consA (evVar 1) (consA (evVar 7) (nilA)))) (nilA)))))))) [.iow (cupD c), .val (.int M), .val (.int s), .val (.int p), .val (.tup W), .val (.tup SW), .own (T), .val (.tup ROW), .val (.tup ALL), .val (.tup LN), .own (.lst PR), y, .no, .no, .no, .no, .no] = .nx [.iow (cupD c), .val (.int M), .val (.int s), .val (.int p), .val (.tup W), .val (.tup SW), .own (.lst [.tup LN, .tup PR, .int (s * M * (M - 1)), .tup (LT ++ [.int 1]), .tup RT]), .val (.tup ROW), .val (.tup ALL), .val (.tup LN), .own (.lst PR), y, .no, .no, .no, .no, .no] := by
  simp only [DL.runF, DL.startE, DL.endF, DL.outsOf, DL.seqS, DL.ifS, DL.retS, DL.retN, DL.drop, DL.noList, DL.noLists, DL.noListTop, DL.asg, DL.asgT, DL.toSl, DL.setSl, DL.leak1, DL.leaks, bnd, DL.bndS, DL.evVar, DL.evC, DL.res, DL.resS, DL.bin2, DL.un1, DL.app1, DL.app2, DL.callB, DL.appA, DL.pinO, DL.nilA, DL.consA, DL.mkT, DL.mkL, DL.tst, DL.truth, DL.truthD, DL.andT, DL.orT, DL.notT, DL.andV, DL.orV, DL.notV, DL.ifE, DL.ifT, DL.chain, DL.isi, DL.gIsi, DL.gLen, DL.gAbs, DL.gInt, DL.max_int, DL.min_int, DL.gList, DL.gTuple, DL.gAdd, DL.gSub, DL.gMul, DL.gFdiv, DL.gMod, DL.gPow, DL.gNeg, DL.gCmp, DL.gLt, DL.eq_int, DL.ne_int, DL.gIx, DL.gRev, DL.gSl, DL.slc, DL.noP, DL.someP, DL.gIsN, DL.gNotN, DL.isNonD, DL.seqX, DL.seqD, DL.itQ, DL.itR1, DL.itR2, DL.call, DL.noErr, DL.callF, DL.argsD, DL.ioSl, DL.rdSl, DL.mineAt, DL.nodupB, DL.leakSl, DL.putIo, DL.lookN, DL.putAt, DL.reTop, DL.topAt, DL.putTop, DL.apnd, DL.stoL, DL.stoT, DL.par2, DL.put2, DL.par3, DL.put3, DL.tgN, DL.tgTup, DL.tgCons, DL.tgNil, DL.forS, DL.wipeE, DL.restE, DL.yesT, DL.lcStep, DL.mutL, DL.gInsert, DL.raiseS, DL.nop, DL.brk, DL.cont, DL.ite_out, List.map_cons, List.map_nil, List.zip_cons_cons, List.zip_nil_right, List.zip_nil_left, List.length_cons, List.length_nil, List.cons_append, List.nil_append, List.replicate_succ, List.replicate_zero, List.getElem?_cons_zero, List.getElem?_cons_succ, List.getElem?_nil, List.set_cons_zero, List.set_cons_succ, List.all_cons, List.all_nil, List.isEmpty_nil, List.isEmpty_cons, List.contains_nil, List.contains_cons, List.elem_nil, Bool.false_eq_true, if_true, if_false, ite_true, ite_false, reduceIte, Bool.and_true, Bool.true_and, Bool.and_false, Bool.false_and, Bool.or_true, Bool.true_or, Bool.or_false, Bool.false_or, Bool.not_true, Bool.not_false, Option.bind_some, Option.bind_none, Option.map_some, Option.map_none, Nat.reduceAdd, Nat.reduceSub, Nat.reduceEqDiff, Nat.reduceLeDiff, Nat.zero_add, decide_true, decide_false, beq_self_eq_true, String.reduceBEq, String.reduceEq, reduceCtorEq, Int.reduceNeg, Int.reduceLT, Int.reduceLE, Int.reduceAdd, Int.reduceSub, Int.reduceMul, Int.reduceEq, Int.reduceBEq, Int.natCast_zero, Int.natCast_one, Int.cast_ofNat_Int, DL.atI_0, DL.atI_1, DL.atI_2, DL.atI_3, DL.atI_4, DL.atI_5, DL.atI_6, DL.cut_tail, DL.cut5_02, DL.cut5_24, List.take_succ_cons, List.take_zero, List.take_nil, List.drop_succ_cons, List.drop_zero, List.drop_nil, Int.toNat_natCast, Int.reduceToNat, Int.reducePow, Nat.reducePow, Nat.reduceMul, and_self, and_true, true_and, List.length_map, List.map_map, decide_eq_true_eq, ob2, wi2, su2, ob3, wi3]
theorem gs11 (c : Int × Int) (M : Int) (s : Int) (p : Int) (W : List D) (SW : List D) (ROW : List D) (ALL : List D) (LN : List D) (LT : List D) (PR : List D) (RT : List D) (U : D) (y : Sl) (ct1 : DL.cutD LN (some 1) none = LT) (ct2 : DL.cutD LN none (some 1) = [.int 1]) (zL : LT.length ≤ 1000) (h12 : c_law_great_right_5 [.iow (cupD c), .val (.int M), .val (.int s), .val (.int p), .val (.tup W), .val (.tup SW), .own (U), .val (.tup ROW), .val (.tup ALL), .val (.tup LN), .own (.lst PR), y, .no, .no, .no, .no, .no] = .ok (.f (.lst RT)) [.iow (cupD c), .val (.int M), .val (.int s), .val (.int p), .val (.tup W), .val (.tup SW), .own (U), .val (.tup ROW), .val (.tup ALL), .val (.tup LN), .own (.lst PR), y, .no, .no, .no, .no, .no]) (hs : small s = true) (hs2 : small (M - 1) = true) : (asg 12 (mkL (consA (evVar 9) (consA (callB gTuple (consA (evVar 10) (nilA))) (consA (bin2 gMul (bin2 gMul (evVar 2) (evVar 1)) (bin2 gSub (evVar 1) (evC (.int 1)))) (consA (bin2 gAdd (slc (evVar 9) (someP (evC (.int 1))) noP) (slc (evVar 9) noP (someP (evC (.int 1))))) (consA (callB gTuple (consA (c_law_great_right_5) (nilA))) (nilA)))))))) [.iow (cupD c), .val (.int M), .val (.int s), .val (.int p), .val (.tup W), .val (.tup SW), .own (U), .val (.tup ROW), .val (.tup ALL), .val (.tup LN), .own (.lst PR), y, .no, .no, .no, .no, .no] = .nx [.iow (cupD c), .val (.int M), .val (.int s), .val (.int p), .val (.tup W), .val (.tup SW), .own (U), .val (.tup ROW), .val (.tup ALL), .val (.tup LN), .own (.lst PR), y, .own (.lst [.tup LN, .tup PR, .int (s * M * (M - 1)), .tup (LT ++ [.int 1]), .tup RT]), .no, .no, .no, .no] := by
  have z3 : LT.length + 1 ≤ 16777216 := by omega
  have z4 : LT.length ≤ 16777215 := by omega
  simp only [DL.runF, DL.startE, DL.endF, DL.outsOf, DL.seqS, DL.ifS, DL.retS, DL.retN, DL.drop, DL.noList, DL.noLists, DL.noListTop, DL.asg, DL.asgT, DL.toSl, DL.setSl, DL.leak1, DL.leaks, bnd, DL.bndS, DL.evVar, DL.evC, DL.res, DL.resS, DL.bin2, DL.un1, DL.app1, DL.app2, DL.callB, DL.appA, DL.pinO, DL.nilA, DL.consA, DL.mkT, DL.mkL, DL.tst, DL.truth, DL.truthD, DL.andT, DL.orT, DL.notT, DL.andV, DL.orV, DL.notV, DL.ifE, DL.ifT, DL.chain, DL.isi, DL.gIsi, DL.gLen, DL.gAbs, DL.gInt, DL.max_int, DL.min_int, DL.gList, DL.gTuple, DL.gAdd, DL.gSub, DL.gMul, DL.gFdiv, DL.gMod, DL.gPow, DL.gNeg, DL.gCmp, DL.gLt, DL.eq_int, DL.ne_int, DL.gIx, DL.gRev, DL.gSl, DL.slc, DL.noP, DL.someP, DL.gIsN, DL.gNotN, DL.isNonD, DL.seqX, DL.seqD, DL.itQ, DL.itR1, DL.itR2, DL.call, DL.noErr, DL.callF, DL.argsD, DL.ioSl, DL.rdSl, DL.mineAt, DL.nodupB, DL.leakSl, DL.putIo, DL.lookN, DL.putAt, DL.reTop, DL.topAt, DL.putTop, DL.apnd, DL.stoL, DL.stoT, DL.par2, DL.put2, DL.par3, DL.put3, DL.tgN, DL.tgTup, DL.tgCons, DL.tgNil, DL.forS, DL.wipeE, DL.restE, DL.yesT, DL.lcStep, DL.mutL, DL.gInsert, DL.raiseS, DL.nop, DL.brk, DL.cont, DL.ite_out, List.map_cons, List.map_nil, List.zip_cons_cons, List.zip_nil_right, List.zip_nil_left, List.length_cons, List.length_nil, List.cons_append, List.nil_append, List.replicate_succ, List.replicate_zero, List.getElem?_cons_zero, List.getElem?_cons_succ, List.getElem?_nil, List.set_cons_zero, List.set_cons_succ, List.all_cons, List.all_nil, List.isEmpty_nil, List.isEmpty_cons, List.contains_nil, List.contains_cons, List.elem_nil, Bool.false_eq_true, if_true, if_false, ite_true, ite_false, reduceIte, Bool.and_true, Bool.true_and, Bool.and_false, Bool.false_and, Bool.or_true, Bool.true_or, Bool.or_false, Bool.false_or, Bool.not_true, Bool.not_false, Option.bind_some, Option.bind_none, Option.map_some, Option.map_none, Nat.reduceAdd, Nat.reduceSub, Nat.reduceEqDiff, Nat.reduceLeDiff, Nat.zero_add, decide_true, decide_false, beq_self_eq_true, String.reduceBEq, String.reduceEq, reduceCtorEq, Int.reduceNeg, Int.reduceLT, Int.reduceLE, Int.reduceAdd, Int.reduceSub, Int.reduceMul, Int.reduceEq, Int.reduceBEq, Int.natCast_zero, Int.natCast_one, Int.cast_ofNat_Int, DL.atI_0, DL.atI_1, DL.atI_2, DL.atI_3, DL.atI_4, DL.atI_5, DL.atI_6, DL.cut_tail, DL.cut5_02, DL.cut5_24, List.take_succ_cons, List.take_zero, List.take_nil, List.drop_succ_cons, List.drop_zero, List.drop_nil, Int.toNat_natCast, Int.reduceToNat, Int.reducePow, Nat.reducePow, Nat.reduceMul, and_self, and_true, true_and, List.length_map, List.map_map, decide_eq_true_eq, ct1, ct2, z3, z4, h12, hs, hs2, Bool.or_true, Bool.true_or]
theorem end_like (c : Int × Int) (M s p : Int) (W SW ROW ALL LN PR : List D) (U : D) (y : Sl) (gl : List D → Rs) (h : gl [U, U] = .ok false (.bl true) []) : (DL.call [false, false] gl (consA (evVar 6) (consA (evVar 12) nilA))) [.iow (cupD c), .val (.int M), .val (.int s), .val (.int p), .val (.tup W), .val (.tup SW), .own (U), .val (.tup ROW), .val (.tup ALL), .val (.tup LN), .own (.lst PR), y, .own (U), .no, .no, .no, .no] = .ok (.d (.bl true)) [.iow (cupD c), .val (.int M), .val (.int s), .val (.int p), .val (.tup W), .val (.tup SW), .own (U), .val (.tup ROW), .val (.tup ALL), .val (.tup LN), .own (.lst PR), y, .own (U), .no, .no, .no, .no] := by
  simp only [DL.runF, DL.startE, DL.endF, DL.outsOf, DL.seqS, DL.ifS, DL.retS, DL.retN, DL.drop, DL.noList, DL.noLists, DL.noListTop, DL.asg, DL.asgT, DL.toSl, DL.setSl, DL.leak1, DL.leaks, bnd, DL.bndS, DL.evVar, DL.evC, DL.res, DL.resS, DL.bin2, DL.un1, DL.app1, DL.app2, DL.callB, DL.appA, DL.pinO, DL.nilA, DL.consA, DL.mkT, DL.mkL, DL.tst, DL.truth, DL.truthD, DL.andT, DL.orT, DL.notT, DL.andV, DL.orV, DL.notV, DL.ifE, DL.ifT, DL.chain, DL.isi, DL.gIsi, DL.gLen, DL.gAbs, DL.gInt, DL.max_int, DL.min_int, DL.gList, DL.gTuple, DL.gAdd, DL.gSub, DL.gMul, DL.gFdiv, DL.gMod, DL.gPow, DL.gNeg, DL.gCmp, DL.gLt, DL.eq_int, DL.ne_int, DL.gIx, DL.gRev, DL.gSl, DL.slc, DL.noP, DL.someP, DL.gIsN, DL.gNotN, DL.isNonD, DL.seqX, DL.seqD, DL.itQ, DL.itR1, DL.itR2, DL.call, DL.noErr, DL.callF, DL.argsD, DL.ioSl, DL.rdSl, DL.mineAt, DL.nodupB, DL.leakSl, DL.putIo, DL.lookN, DL.putAt, DL.reTop, DL.topAt, DL.putTop, DL.apnd, DL.stoL, DL.stoT, DL.par2, DL.put2, DL.par3, DL.put3, DL.tgN, DL.tgTup, DL.tgCons, DL.tgNil, DL.forS, DL.wipeE, DL.restE, DL.yesT, DL.lcStep, DL.mutL, DL.gInsert, DL.raiseS, DL.nop, DL.brk, DL.cont, DL.ite_out, List.map_cons, List.map_nil, List.zip_cons_cons, List.zip_nil_right, List.zip_nil_left, List.length_cons, List.length_nil, List.cons_append, List.nil_append, List.replicate_succ, List.replicate_zero, List.getElem?_cons_zero, List.getElem?_cons_succ, List.getElem?_nil, List.set_cons_zero, List.set_cons_succ, List.all_cons, List.all_nil, List.isEmpty_nil, List.isEmpty_cons, List.contains_nil, List.contains_cons, List.elem_nil, Bool.false_eq_true, if_true, if_false, ite_true, ite_false, reduceIte, Bool.and_true, Bool.true_and, Bool.and_false, Bool.false_and, Bool.or_true, Bool.true_or, Bool.or_false, Bool.false_or, Bool.not_true, Bool.not_false, Option.bind_some, Option.bind_none, Option.map_some, Option.map_none, Nat.reduceAdd, Nat.reduceSub, Nat.reduceEqDiff, Nat.reduceLeDiff, Nat.zero_add, decide_true, decide_false, beq_self_eq_true, String.reduceBEq, String.reduceEq, reduceCtorEq, Int.reduceNeg, Int.reduceLT, Int.reduceLE, Int.reduceAdd, Int.reduceSub, Int.reduceMul, Int.reduceEq, Int.reduceBEq, Int.natCast_zero, Int.natCast_one, Int.cast_ofNat_Int, DL.atI_0, DL.atI_1, DL.atI_2, DL.atI_3, DL.atI_4, DL.atI_5, DL.atI_6, DL.cut_tail, DL.cut5_02, DL.cut5_24, List.take_succ_cons, List.take_zero, List.take_nil, List.drop_succ_cons, List.drop_zero, List.drop_nil, Int.toNat_natCast, Int.reduceToNat, Int.reducePow, Nat.reducePow, Nat.reduceMul, and_self, and_true, true_and, List.length_map, List.map_map, decide_eq_true_eq, h]
theorem end_right (c : Int × Int) (M s p : Int) (W SW ROW ALL LN PR W8 : List D) (U : D) (y : Sl) (gr : List D → Rs) (c6 : DL.M Od) (h : c6 [.iow (cupD c), .val (.int M), .val (.int s), .val (.int p), .val (.tup W), .val (.tup SW), .own (U), .val (.tup ROW), .val (.tup ALL), .val (.tup LN), .own (.lst PR), y, .own (U), .no, .no, .no, .no] = .ok (.f (.lst W8)) [.iow (cupD c), .val (.int M), .val (.int s), .val (.int p), .val (.tup W), .val (.tup SW), .own (U), .val (.tup ROW), .val (.tup ALL), .val (.tup LN), .own (.lst PR), y, .own (U), .no, .no, .no, .no]) (h2 : gr [.int 8, .tup W8] = .ok false (.bl true) []) : (DL.call [false, false] gr (consA (evC (.int 8)) (consA (callB gTuple (consA c6 nilA)) nilA))) [.iow (cupD c), .val (.int M), .val (.int s), .val (.int p), .val (.tup W), .val (.tup SW), .own (U), .val (.tup ROW), .val (.tup ALL), .val (.tup LN), .own (.lst PR), y, .own (U), .no, .no, .no, .no] = .ok (.d (.bl true)) [.iow (cupD c), .val (.int M), .val (.int s), .val (.int p), .val (.tup W), .val (.tup SW), .own (U), .val (.tup ROW), .val (.tup ALL), .val (.tup LN), .own (.lst PR), y, .own (U), .no, .no, .no, .no] := by
  simp only [DL.runF, DL.startE, DL.endF, DL.outsOf, DL.seqS, DL.ifS, DL.retS, DL.retN, DL.drop, DL.noList, DL.noLists, DL.noListTop, DL.asg, DL.asgT, DL.toSl, DL.setSl, DL.leak1, DL.leaks, bnd, DL.bndS, DL.evVar, DL.evC, DL.res, DL.resS, DL.bin2, DL.un1, DL.app1, DL.app2, DL.callB, DL.appA, DL.pinO, DL.nilA, DL.consA, DL.mkT, DL.mkL, DL.tst, DL.truth, DL.truthD, DL.andT, DL.orT, DL.notT, DL.andV, DL.orV, DL.notV, DL.ifE, DL.ifT, DL.chain, DL.isi, DL.gIsi, DL.gLen, DL.gAbs, DL.gInt, DL.max_int, DL.min_int, DL.gList, DL.gTuple, DL.gAdd, DL.gSub, DL.gMul, DL.gFdiv, DL.gMod, DL.gPow, DL.gNeg, DL.gCmp, DL.gLt, DL.eq_int, DL.ne_int, DL.gIx, DL.gRev, DL.gSl, DL.slc, DL.noP, DL.someP, DL.gIsN, DL.gNotN, DL.isNonD, DL.seqX, DL.seqD, DL.itQ, DL.itR1, DL.itR2, DL.call, DL.noErr, DL.callF, DL.argsD, DL.ioSl, DL.rdSl, DL.mineAt, DL.nodupB, DL.leakSl, DL.putIo, DL.lookN, DL.putAt, DL.reTop, DL.topAt, DL.putTop, DL.apnd, DL.stoL, DL.stoT, DL.par2, DL.put2, DL.par3, DL.put3, DL.tgN, DL.tgTup, DL.tgCons, DL.tgNil, DL.forS, DL.wipeE, DL.restE, DL.yesT, DL.lcStep, DL.mutL, DL.gInsert, DL.raiseS, DL.nop, DL.brk, DL.cont, DL.ite_out, List.map_cons, List.map_nil, List.zip_cons_cons, List.zip_nil_right, List.zip_nil_left, List.length_cons, List.length_nil, List.cons_append, List.nil_append, List.replicate_succ, List.replicate_zero, List.getElem?_cons_zero, List.getElem?_cons_succ, List.getElem?_nil, List.set_cons_zero, List.set_cons_succ, List.all_cons, List.all_nil, List.isEmpty_nil, List.isEmpty_cons, List.contains_nil, List.contains_cons, List.elem_nil, Bool.false_eq_true, if_true, if_false, ite_true, ite_false, reduceIte, Bool.and_true, Bool.true_and, Bool.and_false, Bool.false_and, Bool.or_true, Bool.true_or, Bool.or_false, Bool.false_or, Bool.not_true, Bool.not_false, Option.bind_some, Option.bind_none, Option.map_some, Option.map_none, Nat.reduceAdd, Nat.reduceSub, Nat.reduceEqDiff, Nat.reduceLeDiff, Nat.zero_add, decide_true, decide_false, beq_self_eq_true, String.reduceBEq, String.reduceEq, reduceCtorEq, Int.reduceNeg, Int.reduceLT, Int.reduceLE, Int.reduceAdd, Int.reduceSub, Int.reduceMul, Int.reduceEq, Int.reduceBEq, Int.natCast_zero, Int.natCast_one, Int.cast_ofNat_Int, DL.atI_0, DL.atI_1, DL.atI_2, DL.atI_3, DL.atI_4, DL.atI_5, DL.atI_6, DL.cut_tail, DL.cut5_02, DL.cut5_24, List.take_succ_cons, List.take_zero, List.take_nil, List.drop_succ_cons, List.drop_zero, List.drop_nil, Int.toNat_natCast, Int.reduceToNat, Int.reducePow, Nat.reducePow, Nat.reduceMul, and_self, and_true, true_and, List.length_map, List.map_map, decide_eq_true_eq, h, h2]
theorem ret_and (x y : DL.M Od) (e : DL.Env) (h1 : x e = .ok (.d (.bl true)) e) (h2 : y e = .ok (.d (.bl true)) e) : retS (andV x y) e = .rt (.d (.bl true)) e := by
  simp only [DL.runF, DL.startE, DL.endF, DL.outsOf, DL.seqS, DL.ifS, DL.retS, DL.retN, DL.drop, DL.noList, DL.noLists, DL.noListTop, DL.asg, DL.asgT, DL.toSl, DL.setSl, DL.leak1, DL.leaks, bnd, DL.bndS, DL.evVar, DL.evC, DL.res, DL.resS, DL.bin2, DL.un1, DL.app1, DL.app2, DL.callB, DL.appA, DL.pinO, DL.nilA, DL.consA, DL.mkT, DL.mkL, DL.tst, DL.truth, DL.truthD, DL.andT, DL.orT, DL.notT, DL.andV, DL.orV, DL.notV, DL.ifE, DL.ifT, DL.chain, DL.isi, DL.gIsi, DL.gLen, DL.gAbs, DL.gInt, DL.max_int, DL.min_int, DL.gList, DL.gTuple, DL.gAdd, DL.gSub, DL.gMul, DL.gFdiv, DL.gMod, DL.gPow, DL.gNeg, DL.gCmp, DL.gLt, DL.eq_int, DL.ne_int, DL.gIx, DL.gRev, DL.gSl, DL.slc, DL.noP, DL.someP, DL.gIsN, DL.gNotN, DL.isNonD, DL.seqX, DL.seqD, DL.itQ, DL.itR1, DL.itR2, DL.call, DL.noErr, DL.callF, DL.argsD, DL.ioSl, DL.rdSl, DL.mineAt, DL.nodupB, DL.leakSl, DL.putIo, DL.lookN, DL.putAt, DL.reTop, DL.topAt, DL.putTop, DL.apnd, DL.stoL, DL.stoT, DL.par2, DL.put2, DL.par3, DL.put3, DL.tgN, DL.tgTup, DL.tgCons, DL.tgNil, DL.forS, DL.wipeE, DL.restE, DL.yesT, DL.lcStep, DL.mutL, DL.gInsert, DL.raiseS, DL.nop, DL.brk, DL.cont, DL.ite_out, List.map_cons, List.map_nil, List.zip_cons_cons, List.zip_nil_right, List.zip_nil_left, List.length_cons, List.length_nil, List.cons_append, List.nil_append, List.replicate_succ, List.replicate_zero, List.getElem?_cons_zero, List.getElem?_cons_succ, List.getElem?_nil, List.set_cons_zero, List.set_cons_succ, List.all_cons, List.all_nil, List.isEmpty_nil, List.isEmpty_cons, List.contains_nil, List.contains_cons, List.elem_nil, Bool.false_eq_true, if_true, if_false, ite_true, ite_false, reduceIte, Bool.and_true, Bool.true_and, Bool.and_false, Bool.false_and, Bool.or_true, Bool.true_or, Bool.or_false, Bool.false_or, Bool.not_true, Bool.not_false, Option.bind_some, Option.bind_none, Option.map_some, Option.map_none, Nat.reduceAdd, Nat.reduceSub, Nat.reduceEqDiff, Nat.reduceLeDiff, Nat.zero_add, decide_true, decide_false, beq_self_eq_true, String.reduceBEq, String.reduceEq, reduceCtorEq, Int.reduceNeg, Int.reduceLT, Int.reduceLE, Int.reduceAdd, Int.reduceSub, Int.reduceMul, Int.reduceEq, Int.reduceBEq, Int.natCast_zero, Int.natCast_one, Int.cast_ofNat_Int, DL.atI_0, DL.atI_1, DL.atI_2, DL.atI_3, DL.atI_4, DL.atI_5, DL.atI_6, DL.cut_tail, DL.cut5_02, DL.cut5_24, List.take_succ_cons, List.take_zero, List.take_nil, List.drop_succ_cons, List.drop_zero, List.drop_nil, Int.toNat_natCast, Int.reduceToNat, Int.reducePow, Nat.reducePow, Nat.reduceMul, and_self, and_true, true_and, List.length_map, List.map_map, decide_eq_true_eq, h1, h2]
theorem gs12 (c : Int × Int) (M s p : Int) (W SW ROW ALL LN PR W8 : List D) (U : D) (y : Sl) (lkU : g_law_like 8 [U, U] = .ok false (.bl true) []) (h16 : c_law_great_right_6 [.iow (cupD c), .val (.int M), .val (.int s), .val (.int p), .val (.tup W), .val (.tup SW), .own (U), .val (.tup ROW), .val (.tup ALL), .val (.tup LN), .own (.lst PR), y, .own (U), .no, .no, .no, .no] = .ok (.f (.lst W8)) [.iow (cupD c), .val (.int M), .val (.int s), .val (.int p), .val (.tup W), .val (.tup SW), .own (U), .val (.tup ROW), .val (.tup ALL), .val (.tup LN), .own (.lst PR), y, .own (U), .no, .no, .no, .no]) (r8 : g_law_right [.int 8, .tup W8] = .ok false (.bl true) []) : retS (andV (DL.call [false, false] (g_law_like 8) (consA (evVar 6) (consA (evVar 12) (nilA)))) (DL.call [false, false] g_law_right (consA (evC (.int 8)) (consA (callB gTuple (consA (c_law_great_right_6) (nilA))) (nilA))))) [.iow (cupD c), .val (.int M), .val (.int s), .val (.int p), .val (.tup W), .val (.tup SW), .own (U), .val (.tup ROW), .val (.tup ALL), .val (.tup LN), .own (.lst PR), y, .own (U), .no, .no, .no, .no] = .rt (.d (.bl true)) [.iow (cupD c), .val (.int M), .val (.int s), .val (.int p), .val (.tup W), .val (.tup SW), .own (U), .val (.tup ROW), .val (.tup ALL), .val (.tup LN), .own (.lst PR), y, .own (U), .no, .no, .no, .no] :=
  ret_and _ _ _ (end_like c M s p W SW ROW ALL LN PR U y (g_law_like 8) lkU) (end_right c M s p W SW ROW ALL LN PR W8 U y g_law_right c_law_great_right_6 h16 r8)
theorem great_core (c0 c1 c2 c : Int × Int) (M s p r1 r3 : Int) (W SW BK ROW ALL LN LT PR RT W8 : List D) (y : Sl) (hM : 2 + r1 = M)
    (hp : 1 + r3 = p)
    (hs : small s = true)
    (hs2 : small (M - 1) = true)
    (k1 : g_law_roll [cupD c0, .int 7] = .ok false (.int r1) [cupD c1])
    (k2 : g_law_some [cupD c1, .lst [.int 1, .int (-1)]] = .ok false (.int s) [cupD c2])
    (k3 : g_law_roll [cupD c2, .int (M - 1)] = .ok false (.int r3) [cupD c])
    (h4 : (bin2 gMul (mkT (consA (bin2 gMul (evVar 3) (evVar 2)) (nilA))) (evC (.int 59))) [.iow (cupD c), .val (.int M), .val (.int s), .val (.int p), .no, .no, .no, .no, .no, .no, .no, .no, .no, .no, .no, .no, .no] = .ok (.d (.tup W)) [.iow (cupD c), .val (.int M), .val (.int s), .val (.int p), .no, .no, .no, .no, .no, .no, .no, .no, .no, .no, .no, .no, .no])
    (h5 : c_law_great_right_1 [.iow (cupD c), .val (.int M), .val (.int s), .val (.int p), .val (.tup W), .no, .no, .no, .no, .no, .no, .no, .no, .no, .no, .no, .no] = .ok (.f (.lst SW)) [.iow (cupD c), .val (.int M), .val (.int s), .val (.int p), .val (.tup W), .no, .no, .no, .no, .no, .no, .no, .no, .no, .no, .no, .no])
    (hB : (bin2 gMul (mkT (consA (bin2 gMul (un1 gNeg (evVar 3)) (evVar 2)) (nilA))) (evC (.int 59))) [.iow (cupD c), .val (.int M), .val (.int s), .val (.int p), .val (.tup W), .val (.tup SW), .own (.lst [.tup SW, .tup [.tup [.int p, .int (p + 1), .int (59 * s)]], .int (59 * s), .tup BK, .tup [.tup [.int p, .int (p + 1), .int (58 * s)]]]), .no, .no, .no, .no, .no, .no, .no, .no, .no, .no] = .ok (.d (.tup BK)) [.iow (cupD c), .val (.int M), .val (.int s), .val (.int p), .val (.tup W), .val (.tup SW), .own (.lst [.tup SW, .tup [.tup [.int p, .int (p + 1), .int (59 * s)]], .int (59 * s), .tup BK, .tup [.tup [.int p, .int (p + 1), .int (58 * s)]]]), .no, .no, .no, .no, .no, .no, .no, .no, .no, .no])
    (ob : g_order_behind [.int M, .tup W] = .ok false (.tup SW) [])
    (wi : g_windings [.int M, .tup W] = .ok false (.tup [.tup [.int p, .int (p + 1), .int (59 * s)]]) [])
    (su : g_sum_of [.int M, .tup W] = .ok false (.int (59 * s)) [])
    (ba : g_back_of [.int M, .tup W] = .ok false (.tup BK) [])
    (w2 : g_windings [.int M, .tup (W ++ [.int (-p * s)])] = .ok false (.tup [.tup [.int p, .int (p + 1), .int (58 * s)]]) [])
    (zW : W.length ≤ 1000)
    (lk1 : g_law_like 8 [.lst [.tup SW, .tup [.tup [.int p, .int (p + 1), .int (59 * s)]], .int (59 * s), .tup BK, .tup [.tup [.int p, .int (p + 1), .int (58 * s)]]], .lst [.tup SW, .tup [.tup [.int p, .int (p + 1), .int (59 * s)]], .int (59 * s), .tup BK, .tup [.tup [.int p, .int (p + 1), .int (58 * s)]]]] = .ok false (.bl true) [])
    (h7 : c_law_great_right_2 [.iow (cupD c), .val (.int M), .val (.int s), .val (.int p), .val (.tup W), .val (.tup SW), .own (.lst [.tup SW, .tup [.tup [.int p, .int (p + 1), .int (59 * s)]], .int (59 * s), .tup BK, .tup [.tup [.int p, .int (p + 1), .int (58 * s)]]]), .no, .no, .no, .no, .no, .no, .no, .no, .no, .no] = .ok (.f (.lst ROW)) [.iow (cupD c), .val (.int M), .val (.int s), .val (.int p), .val (.tup W), .val (.tup SW), .own (.lst [.tup SW, .tup [.tup [.int p, .int (p + 1), .int (59 * s)]], .int (59 * s), .tup BK, .tup [.tup [.int p, .int (p + 1), .int (58 * s)]]]), .no, .no, .no, .no, .no, .no, .no, .no, .no, .no])
    (zR : ROW.length ≤ 1000)
    (fl1 : (List.replicate M.toNat ROW).flatten = ALL)
    (zM : -1000 ≤ M ∧ M ≤ 1000)
    (h9 : c_law_great_right_3 [.iow (cupD c), .val (.int M), .val (.int s), .val (.int p), .val (.tup W), .val (.tup SW), .own (.lst [.tup SW, .tup [.tup [.int p, .int (p + 1), .int (59 * s)]], .int (59 * s), .tup BK, .tup [.tup [.int p, .int (p + 1), .int (58 * s)]]]), .val (.tup ROW), .no, .no, .no, .no, .no, .no, .no, .no, .no] = .ok (.f (.lst LN)) [.iow (cupD c), .val (.int M), .val (.int s), .val (.int p), .val (.tup W), .val (.tup SW), .own (.lst [.tup SW, .tup [.tup [.int p, .int (p + 1), .int (59 * s)]], .int (59 * s), .tup BK, .tup [.tup [.int p, .int (p + 1), .int (58 * s)]]]), .val (.tup ROW), .no, .no, .no, .no, .no, .no, .no, .no, .no])
    (hl : l_law_great_right_1 [.iow (cupD c), .val (.int M), .val (.int s), .val (.int p), .val (.tup W), .val (.tup SW), .own (.lst [.tup SW, .tup [.tup [.int p, .int (p + 1), .int (59 * s)]], .int (59 * s), .tup BK, .tup [.tup [.int p, .int (p + 1), .int (58 * s)]]]), .val (.tup ROW), .val (.tup ALL), .val (.tup LN), .own (.lst []), .no, .no, .no, .no, .no, .no] = .nx [.iow (cupD c), .val (.int M), .val (.int s), .val (.int p), .val (.tup W), .val (.tup SW), .own (.lst [.tup SW, .tup [.tup [.int p, .int (p + 1), .int (59 * s)]], .int (59 * s), .tup BK, .tup [.tup [.int p, .int (p + 1), .int (58 * s)]]]), .val (.tup ROW), .val (.tup ALL), .val (.tup LN), .own (.lst PR), y, .no, .no, .no, .no, .no])
    (ob2 : g_order_behind [.int M, .tup ALL] = .ok false (.tup LN) [])
    (wi2 : g_windings [.int M, .tup ALL] = .ok false (.tup PR) [])
    (su2 : g_sum_of [.int M, .tup ALL] = .ok false (.int (s * M * (M - 1))) [])
    (ob3 : g_order_behind [.int M, .tup ROW] = .ok false (.tup (LT ++ [.int 1])) [])
    (wi3 : g_windings [.int M, .tup ROW] = .ok false (.tup RT) [])
    (ct1 : DL.cutD LN (some 1) none = LT)
    (ct2 : DL.cutD LN none (some 1) = [.int 1])
    (zL : LT.length ≤ 1000)
    (h12 : c_law_great_right_5 [.iow (cupD c), .val (.int M), .val (.int s), .val (.int p), .val (.tup W), .val (.tup SW), .own (.lst [.tup LN, .tup PR, .int (s * M * (M - 1)), .tup (LT ++ [.int 1]), .tup RT]), .val (.tup ROW), .val (.tup ALL), .val (.tup LN), .own (.lst PR), y, .no, .no, .no, .no, .no] = .ok (.f (.lst RT)) [.iow (cupD c), .val (.int M), .val (.int s), .val (.int p), .val (.tup W), .val (.tup SW), .own (.lst [.tup LN, .tup PR, .int (s * M * (M - 1)), .tup (LT ++ [.int 1]), .tup RT]), .val (.tup ROW), .val (.tup ALL), .val (.tup LN), .own (.lst PR), y, .no, .no, .no, .no, .no])
    (lk2 : g_law_like 8 [.lst [.tup LN, .tup PR, .int (s * M * (M - 1)), .tup (LT ++ [.int 1]), .tup RT], .lst [.tup LN, .tup PR, .int (s * M * (M - 1)), .tup (LT ++ [.int 1]), .tup RT]] = .ok false (.bl true) [])
    (h16 : c_law_great_right_6 [.iow (cupD c), .val (.int M), .val (.int s), .val (.int p), .val (.tup W), .val (.tup SW), .own (.lst [.tup LN, .tup PR, .int (s * M * (M - 1)), .tup (LT ++ [.int 1]), .tup RT]), .val (.tup ROW), .val (.tup ALL), .val (.tup LN), .own (.lst PR), y, .own (.lst [.tup LN, .tup PR, .int (s * M * (M - 1)), .tup (LT ++ [.int 1]), .tup RT]), .no, .no, .no, .no] = .ok (.f (.lst W8)) [.iow (cupD c), .val (.int M), .val (.int s), .val (.int p), .val (.tup W), .val (.tup SW), .own (.lst [.tup LN, .tup PR, .int (s * M * (M - 1)), .tup (LT ++ [.int 1]), .tup RT]), .val (.tup ROW), .val (.tup ALL), .val (.tup LN), .own (.lst PR), y, .own (.lst [.tup LN, .tup PR, .int (s * M * (M - 1)), .tup (LT ++ [.int 1]), .tup RT]), .no, .no, .no, .no])
    (r8 : g_law_right [.int 8, .tup W8] = .ok false (.bl true) []) :
    g_law_great_right [cupD c0] = .ok false (.bl true) [cupD c] := by
  have hm : m_law_great_right [.iow (cupD c0), .no, .no, .no, .no, .no, .no, .no, .no, .no, .no, .no, .no, .no, .no, .no, .no] = .rt (.d (.bl true)) [.iow (cupD c), .val (.int M), .val (.int s), .val (.int p), .val (.tup W), .val (.tup SW), .own (.lst [.tup LN, .tup PR, .int (s * M * (M - 1)), .tup (LT ++ [.int 1]), .tup RT]), .val (.tup ROW), .val (.tup ALL), .val (.tup LN), .own (.lst PR), y, .own (.lst [.tup LN, .tup PR, .int (s * M * (M - 1)), .tup (LT ++ [.int 1]), .tup RT]), .no, .no, .no, .no] := by
    unfold m_law_great_right
    refine (seqS_nx (gs0 c0 c1 c2 M s r1 hM k1 k2)).trans ?_
    refine (seqS_nx (gs1 c2 c M s p r3 hp k3)).trans ?_
    refine (seqS_nx (gs2 c M s p W h4)).trans ?_
    refine (seqS_nx (gs3 c M s p W SW h5)).trans ?_
    refine (seqS_nx (gs4 c M s p W SW BK ob wi su ba w2 zW hs)).trans ?_
    refine (seqS_nx (gs5 c M s p W SW BK _ hB lk1 hs)).trans ?_
    refine (seqS_nx (gs6 c M s p W SW ROW _ h7)).trans ?_
    refine (seqS_nx (gs7 c M s p W SW ROW ALL LN _ h9 zR fl1 zM)).trans ?_
    refine (seqS_nx (gs8 c M s p W SW ROW ALL LN _ )).trans ?_
    refine (seqS_nx hl).trans ?_
    refine (seqS_nx (gs10 c M s p W SW ROW ALL LN LT PR RT _ y ob2 wi2 su2 ob3 wi3)).trans ?_
    refine (seqS_nx (gs11 c M s p W SW ROW ALL LN LT PR RT _ y ct1 ct2 zL h12 hs hs2)).trans ?_
    exact gs12 c M s p W SW ROW ALL LN PR W8 _ y lk2 h16 r8
  have hr : startE [true] [cupD c0] 17 = [.iow (cupD c0), .no, .no, .no, .no, .no, .no, .no, .no, .no, .no, .no, .no, .no, .no, .no, .no] := rfl
  unfold g_law_great_right runF
  rw [hr, hm]
  rfl
end K34

set_option maxRecDepth 100000
set_option maxHeartbeats 4000000
namespace K34
open PySem PySem.Spec L2 DL
open PyProof.Rows hiding St
open DL (Env)
theorem bin2_ok {g : D → D → Option Od} {ma mb : M Od} {e1 e2 e3 : DL.Env} {x y : D} {o : Od} (ha : ma e1 = .ok (.d x) e2) (hb : mb e2 = .ok (.d y) e3) (hg : g x y = some o) : bin2 g ma mb e1 = .ok o e3 := by
  simp only [bin2, bnd, app2, pinO, res, ha, hb, hg]
theorem mul_word (c : Int × Int) (M s p : Int) (h : small s = true) : (bin2 gMul (mkT (consA (bin2 gMul (evVar 3) (evVar 2)) (nilA))) (evC (.int 59))) [.iow (cupD c), .val (.int M), .val (.int s), .val (.int p), .no, .no, .no, .no, .no, .no, .no, .no, .no, .no, .no, .no, .no] = .ok (.d (.tup ((gW p s).map D.int))) [.iow (cupD c), .val (.int M), .val (.int s), .val (.int p), .no, .no, .no, .no, .no, .no, .no, .no, .no, .no, .no, .no, .no] :=
  bin2_ok (x := .tup [.int (p * s)]) (y := .int 59) (by simp only [DL.runF, DL.startE, DL.endF, DL.outsOf, DL.seqS, DL.ifS, DL.retS, DL.retN, DL.drop, DL.noList, DL.noLists, DL.noListTop, DL.asg, DL.asgT, DL.toSl, DL.setSl, DL.leak1, DL.leaks, bnd, DL.bndS, DL.evVar, DL.evC, DL.res, DL.resS, DL.bin2, DL.un1, DL.app1, DL.app2, DL.callB, DL.appA, DL.pinO, DL.nilA, DL.consA, DL.mkT, DL.mkL, DL.tst, DL.truth, DL.truthD, DL.andT, DL.orT, DL.notT, DL.andV, DL.orV, DL.notV, DL.ifE, DL.ifT, DL.chain, DL.isi, DL.gIsi, DL.gLen, DL.gAbs, DL.gInt, DL.max_int, DL.min_int, DL.gList, DL.gTuple, DL.gAdd, DL.gSub, DL.gMul, DL.gFdiv, DL.gMod, DL.gPow, DL.gNeg, DL.gCmp, DL.gLt, DL.eq_int, DL.ne_int, DL.gIx, DL.gRev, DL.gSl, DL.slc, DL.noP, DL.someP, DL.gIsN, DL.gNotN, DL.isNonD, DL.seqX, DL.seqD, DL.itQ, DL.itR1, DL.itR2, DL.call, DL.noErr, DL.callF, DL.argsD, DL.ioSl, DL.rdSl, DL.mineAt, DL.nodupB, DL.leakSl, DL.putIo, DL.lookN, DL.putAt, DL.reTop, DL.topAt, DL.putTop, DL.apnd, DL.stoL, DL.stoT, DL.par2, DL.put2, DL.par3, DL.put3, DL.tgN, DL.tgTup, DL.tgCons, DL.tgNil, DL.forS, DL.wipeE, DL.restE, DL.yesT, DL.lcStep, DL.mutL, DL.gInsert, DL.raiseS, DL.nop, DL.brk, DL.cont, DL.ite_out, List.map_cons, List.map_nil, List.zip_cons_cons, List.zip_nil_right, List.zip_nil_left, List.length_cons, List.length_nil, List.cons_append, List.nil_append, List.replicate_succ, List.replicate_zero, List.getElem?_cons_zero, List.getElem?_cons_succ, List.getElem?_nil, List.set_cons_zero, List.set_cons_succ, List.all_cons, List.all_nil, List.isEmpty_nil, List.isEmpty_cons, List.contains_nil, List.contains_cons, List.elem_nil, Bool.false_eq_true, if_true, if_false, ite_true, ite_false, reduceIte, Bool.and_true, Bool.true_and, Bool.and_false, Bool.false_and, Bool.or_true, Bool.true_or, Bool.or_false, Bool.false_or, Bool.not_true, Bool.not_false, Option.bind_some, Option.bind_none, Option.map_some, Option.map_none, Nat.reduceAdd, Nat.reduceSub, Nat.reduceEqDiff, Nat.reduceLeDiff, Nat.zero_add, decide_true, decide_false, beq_self_eq_true, String.reduceBEq, String.reduceEq, reduceCtorEq, Int.reduceNeg, Int.reduceLT, Int.reduceLE, Int.reduceAdd, Int.reduceSub, Int.reduceMul, Int.reduceEq, Int.reduceBEq, Int.natCast_zero, Int.natCast_one, Int.cast_ofNat_Int, DL.atI_0, DL.atI_1, DL.atI_2, DL.atI_3, DL.atI_4, DL.atI_5, DL.atI_6, DL.cut_tail, DL.cut5_02, DL.cut5_24, List.take_succ_cons, List.take_zero, List.take_nil, List.drop_succ_cons, List.drop_zero, List.drop_nil, Int.toNat_natCast, Int.reduceToNat, Int.reducePow, Nat.reducePow, Nat.reduceMul, and_self, and_true, true_and, List.length_map, List.map_map, decide_eq_true_eq, h, Bool.or_true]) rfl rfl
theorem mul_back (c : Int × Int) (M s p : Int) (h : small s = true) (W S T : D) : (bin2 gMul (mkT (consA (bin2 gMul (un1 gNeg (evVar 3)) (evVar 2)) (nilA))) (evC (.int 59))) [.iow (cupD c), .val (.int M), .val (.int s), .val (.int p), .val W, .val S, .own T, .no, .no, .no, .no, .no, .no, .no, .no, .no, .no] = .ok (.d (.tup ((List.replicate 59 (-p * s)).map D.int))) [.iow (cupD c), .val (.int M), .val (.int s), .val (.int p), .val W, .val S, .own T, .no, .no, .no, .no, .no, .no, .no, .no, .no, .no] :=
  bin2_ok (x := .tup [.int (-p * s)]) (y := .int 59) (by simp only [DL.runF, DL.startE, DL.endF, DL.outsOf, DL.seqS, DL.ifS, DL.retS, DL.retN, DL.drop, DL.noList, DL.noLists, DL.noListTop, DL.asg, DL.asgT, DL.toSl, DL.setSl, DL.leak1, DL.leaks, bnd, DL.bndS, DL.evVar, DL.evC, DL.res, DL.resS, DL.bin2, DL.un1, DL.app1, DL.app2, DL.callB, DL.appA, DL.pinO, DL.nilA, DL.consA, DL.mkT, DL.mkL, DL.tst, DL.truth, DL.truthD, DL.andT, DL.orT, DL.notT, DL.andV, DL.orV, DL.notV, DL.ifE, DL.ifT, DL.chain, DL.isi, DL.gIsi, DL.gLen, DL.gAbs, DL.gInt, DL.max_int, DL.min_int, DL.gList, DL.gTuple, DL.gAdd, DL.gSub, DL.gMul, DL.gFdiv, DL.gMod, DL.gPow, DL.gNeg, DL.gCmp, DL.gLt, DL.eq_int, DL.ne_int, DL.gIx, DL.gRev, DL.gSl, DL.slc, DL.noP, DL.someP, DL.gIsN, DL.gNotN, DL.isNonD, DL.seqX, DL.seqD, DL.itQ, DL.itR1, DL.itR2, DL.call, DL.noErr, DL.callF, DL.argsD, DL.ioSl, DL.rdSl, DL.mineAt, DL.nodupB, DL.leakSl, DL.putIo, DL.lookN, DL.putAt, DL.reTop, DL.topAt, DL.putTop, DL.apnd, DL.stoL, DL.stoT, DL.par2, DL.put2, DL.par3, DL.put3, DL.tgN, DL.tgTup, DL.tgCons, DL.tgNil, DL.forS, DL.wipeE, DL.restE, DL.yesT, DL.lcStep, DL.mutL, DL.gInsert, DL.raiseS, DL.nop, DL.brk, DL.cont, DL.ite_out, List.map_cons, List.map_nil, List.zip_cons_cons, List.zip_nil_right, List.zip_nil_left, List.length_cons, List.length_nil, List.cons_append, List.nil_append, List.replicate_succ, List.replicate_zero, List.getElem?_cons_zero, List.getElem?_cons_succ, List.getElem?_nil, List.set_cons_zero, List.set_cons_succ, List.all_cons, List.all_nil, List.isEmpty_nil, List.isEmpty_cons, List.contains_nil, List.contains_cons, List.elem_nil, Bool.false_eq_true, if_true, if_false, ite_true, ite_false, reduceIte, Bool.and_true, Bool.true_and, Bool.and_false, Bool.false_and, Bool.or_true, Bool.true_or, Bool.or_false, Bool.false_or, Bool.not_true, Bool.not_false, Option.bind_some, Option.bind_none, Option.map_some, Option.map_none, Nat.reduceAdd, Nat.reduceSub, Nat.reduceEqDiff, Nat.reduceLeDiff, Nat.zero_add, decide_true, decide_false, beq_self_eq_true, String.reduceBEq, String.reduceEq, reduceCtorEq, Int.reduceNeg, Int.reduceLT, Int.reduceLE, Int.reduceAdd, Int.reduceSub, Int.reduceMul, Int.reduceEq, Int.reduceBEq, Int.natCast_zero, Int.natCast_one, Int.cast_ofNat_Int, DL.atI_0, DL.atI_1, DL.atI_2, DL.atI_3, DL.atI_4, DL.atI_5, DL.atI_6, DL.cut_tail, DL.cut5_02, DL.cut5_24, List.take_succ_cons, List.take_zero, List.take_nil, List.drop_succ_cons, List.drop_zero, List.drop_nil, Int.toNat_natCast, Int.reduceToNat, Int.reducePow, Nat.reducePow, Nat.reduceMul, and_self, and_true, true_and, List.length_map, List.map_map, decide_eq_true_eq, h, Bool.or_true]) rfl rfl
theorem pl_list {n : Nat} {ds : List D} (h : ∀ d ∈ ds, Pl n d) : Pl (n + 1) (.lst ds) := .inr ⟨_, .inr rfl, h⟩
theorem pl_tups {n : Nat} {ds : List D} (h : ∀ d ∈ ds, Pl n d) : Pl (n + 1) (.tup ds) := .inr ⟨_, .inl rfl, h⟩
theorem pl_enc3 (n : Nat) (ts : List (Int × Int × Int)) : Pl (n + 2) (.tup (ts.map enc3)) := pl_tups fun d hd => by
  obtain ⟨x, _, rfl⟩ := List.mem_map.mp hd
  exact pl_ints n [x.1, x.2.1, x.2.2]
theorem like_five {a b d e f : D} (ha : Pl 6 a) (hb : Pl 6 b) (hd : Pl 6 d) (he : Pl 6 e) (hf : Pl 6 f) : g_law_like 8 [.lst [a, b, d, e, f], .lst [a, b, d, e, f]] = .ok false (.bl true) [] :=
  like_refl 7 _ (pl_list fun x hx => by
    simp only [List.mem_cons, List.not_mem_nil, or_false] at hx
    rcases hx with rfl | rfl | rfl | rfl | rfl
    · exact ha
    · exact hb
    · exact hd
    · exact he
    · exact hf)
theorem pairs_same {M : Int} (h1 : 2 ≤ M) (h2 : M ≤ 8) (s : Int) : ((lins M.toNat).flatMap fun i => ((lins M.toNat).map D.int).filterMap (later s i)) = ((allP M).map fun q => (q.1, q.2, 2 * s)).map enc3 := by
  have : M = 2 ∨ M = 3 ∨ M = 4 ∨ M = 5 ∨ M = 6 ∨ M = 7 ∨ M = 8 := by omega
  rcases this with rfl | rfl | rfl | rfl | rfl | rfl | rfl <;> kernel_rfl
theorem lins_cut {M : Int} (h1 : 2 ≤ M) : DL.cutD ((lins M.toNat).map D.int) (some 1) none = (lins M.toNat).tail.map D.int ∧ DL.cutD ((lins M.toNat).map D.int) none (some 1) = [.int 1] := by
  obtain ⟨n, hn⟩ : ∃ n, M.toNat = n + 1 := ⟨M.toNat - 1, by omega⟩
  have e : lins M.toNat = 1 :: ((List.range n).map Nat.succ).map fun (i : Nat) => 1 + (i : Int) := by
    rw [hn]
    unfold lins
    rw [List.range_succ_eq_map, List.map_cons]
    rfl
  rw [e]
  refine ⟨by rw [List.map_cons, DL.cut_tail]; rfl, ?_⟩
  have := cut_take ((1 :: ((List.range n).map Nat.succ).map fun (i : Nat) => 1 + (i : Int)).map D.int) (a := 1) (by rw [List.length_map, List.length_cons]; omega)
  exact this
theorem great_ok (c : Int × Int) : ∃ c', g_law_great_right [cupD c] = .ok false (.bl true) [cupD c'] := by
  obtain ⟨r1, c1, a1, a2, k1⟩ := roll_ok c (m := 7) (by decide) (by decide)
  obtain ⟨s, c2, hs, k2⟩ := some_sign c1
  obtain ⟨M, hM⟩ : ∃ M, 2 + r1 = M := ⟨_, rfl⟩
  obtain ⟨r3, c3, b1, b2, k3⟩ := roll_ok c2 (m := M - 1) (by omega) (by omega)
  obtain ⟨p, hp⟩ : ∃ p, 1 + r3 = p := ⟨_, rfl⟩
  have g := great_of (M := M) (s := s) (p := p) (by omega) (by omega) hs (by omega) (by omega)
  have sm := small_sgn hs
  have m2 : 2 ≤ M := by omega
  have m8 : M ≤ 8 := by omega
  have sm2 : small (M - 1) = true := by unfold small; rw [decide_eq_true_eq]; omega
  obtain ⟨ct1, ct2⟩ := lins_cut m2
  obtain ⟨y, hy, hl⟩ := g_loop c3 M s p (lins M.toNat) (.tup ((gW p s).map D.int)) (.tup (((lins M.toNat).map (fl p)).map D.int)) (.lst [.tup (((lins M.toNat).map (fl p)).map D.int), .tup [.tup [.int p, .int (p + 1), .int (59 * s)]], .int (59 * s), .tup ((List.replicate 59 (-p * s)).map D.int), .tup [.tup [.int p, .int (p + 1), .int (58 * s)]]]) (.tup ((gRow M s).map D.int)) (.tup ((gAllW M s).map D.int)) (lins M.toNat) [] .no (by
    rw [lins_len, List.length_nil]
    have : M.toNat ≤ 8 := by omega
    have : M.toNat * M.toNat ≤ 8 * 8 := Nat.mul_le_mul this this
    omega) (.inl rfl)
  rw [List.nil_append, pairs_same m2 m8] at hl
  refine ⟨c3, great_core c c1 c2 c3 M s p r1 r3 ((gW p s).map D.int) (((lins M.toNat).map (fl p)).map D.int) ((List.replicate 59 (-p * s)).map D.int) ((gRow M s).map D.int) ((gAllW M s).map D.int) ((lins M.toNat).map D.int) ((lins M.toNat).tail.map D.int) (((allP M).map fun q => (q.1, q.2, 2 * s)).map enc3) ((lins M.toNat).tail.map fun l => .tup [.int 1, .int l, .int s]) (w60.map D.int) y hM hp sm sm2 k1 k2 k3 (mul_word c3 M s p sm) (g_c1 c3 M s p m2 m8 _) (mul_back c3 M s p sm _ _ _) ?_ ?_ ?_ ?_ ?_ ?_ ?_ (g_c2 c3 M s p m2 m8 hs _ _ _) ?_ ?_ (by omega) (g_c3 c3 M s p m2 m8 _ _ _ _) ?_ ?_ ?_ ?_ ?_ ?_ ct1 ct2 ?_ (g_c5 c3 M s p (lins M.toNat) ct1 y _ _ _ _ _ _) ?_ (g_c6 c3 M s p (lins M.toNat) y _ _ _ _ _ _ _) (right_ok w60_ok)⟩
  · have := order_behind_ok g.k1
    rw [g.ho] at this; exact this
  · have : g_windings [.int M, encW (gW p s)] = .ok false (.tup (rows M (gW p s))) [] := windings_law g.k1
    rw [rows_trips, g.hw] at this; exact this
  · have := sum_of_ok g.k1
    rw [g.hs] at this; exact this
  · have := back_of_ok g.k1
    rw [g.hb] at this; exact this
  · have : g_windings [.int M, encW (gW p s ++ [-p * s])] = .ok false (.tup (rows M (gW p s ++ [-p * s]))) [] := windings_law g.k2
    rw [rows_trips, g.hx] at this
    unfold encW at this
    rw [List.map_append] at this; exact this
  · rw [List.length_map]; have := g.k1.n; omega
  · exact like_five (pl_ints _ _) (pl_enc3 _ [(p, p + 1, 59 * s)]) (pl_flat rfl _) (pl_ints _ _) (pl_enc3 _ [(p, p + 1, 58 * s)])
  · rw [List.length_map]; have := g.k4.n; omega
  · show _ = ((List.replicate M.toNat (gRow M s)).flatten).map D.int
    rw [List.map_flatten, List.map_replicate]
  · unfold l_law_great_right_1
    rw [← hl]
    simp only [DL.runF, DL.startE, DL.endF, DL.outsOf, DL.seqS, DL.ifS, DL.retS, DL.retN, DL.drop, DL.noList, DL.noLists, DL.noListTop, DL.asg, DL.asgT, DL.toSl, DL.setSl, DL.leak1, DL.leaks, bnd, DL.bndS, DL.evVar, DL.evC, DL.res, DL.resS, DL.bin2, DL.un1, DL.app1, DL.app2, DL.callB, DL.appA, DL.pinO, DL.nilA, DL.consA, DL.mkT, DL.mkL, DL.tst, DL.truth, DL.truthD, DL.andT, DL.orT, DL.notT, DL.andV, DL.orV, DL.notV, DL.ifE, DL.ifT, DL.chain, DL.isi, DL.gIsi, DL.gLen, DL.gAbs, DL.gInt, DL.max_int, DL.min_int, DL.gList, DL.gTuple, DL.gAdd, DL.gSub, DL.gMul, DL.gFdiv, DL.gMod, DL.gPow, DL.gNeg, DL.gCmp, DL.gLt, DL.eq_int, DL.ne_int, DL.gIx, DL.gRev, DL.gSl, DL.slc, DL.noP, DL.someP, DL.gIsN, DL.gNotN, DL.isNonD, DL.seqX, DL.seqD, DL.itQ, DL.itR1, DL.itR2, DL.call, DL.noErr, DL.callF, DL.argsD, DL.ioSl, DL.rdSl, DL.mineAt, DL.nodupB, DL.leakSl, DL.putIo, DL.lookN, DL.putAt, DL.reTop, DL.topAt, DL.putTop, DL.apnd, DL.stoL, DL.stoT, DL.par2, DL.put2, DL.par3, DL.put3, DL.tgN, DL.tgTup, DL.tgCons, DL.tgNil, DL.forS, DL.wipeE, DL.restE, DL.yesT, DL.lcStep, DL.mutL, DL.gInsert, DL.raiseS, DL.nop, DL.brk, DL.cont, DL.ite_out, List.map_cons, List.map_nil, List.zip_cons_cons, List.zip_nil_right, List.zip_nil_left, List.length_cons, List.length_nil, List.cons_append, List.nil_append, List.replicate_succ, List.replicate_zero, List.getElem?_cons_zero, List.getElem?_cons_succ, List.getElem?_nil, List.set_cons_zero, List.set_cons_succ, List.all_cons, List.all_nil, List.isEmpty_nil, List.isEmpty_cons, List.contains_nil, List.contains_cons, List.elem_nil, Bool.false_eq_true, if_true, if_false, ite_true, ite_false, reduceIte, Bool.and_true, Bool.true_and, Bool.and_false, Bool.false_and, Bool.or_true, Bool.true_or, Bool.or_false, Bool.false_or, Bool.not_true, Bool.not_false, Option.bind_some, Option.bind_none, Option.map_some, Option.map_none, Nat.reduceAdd, Nat.reduceSub, Nat.reduceEqDiff, Nat.reduceLeDiff, Nat.zero_add, decide_true, decide_false, beq_self_eq_true, String.reduceBEq, String.reduceEq, reduceCtorEq, Int.reduceNeg, Int.reduceLT, Int.reduceLE, Int.reduceAdd, Int.reduceSub, Int.reduceMul, Int.reduceEq, Int.reduceBEq, Int.natCast_zero, Int.natCast_one, Int.cast_ofNat_Int, DL.atI_0, DL.atI_1, DL.atI_2, DL.atI_3, DL.atI_4, DL.atI_5, DL.atI_6, DL.cut_tail, DL.cut5_02, DL.cut5_24, List.take_succ_cons, List.take_zero, List.take_nil, List.drop_succ_cons, List.drop_zero, List.drop_nil, Int.toNat_natCast, Int.reduceToNat, Int.reducePow, Nat.reducePow, Nat.reduceMul, and_self, and_true, true_and, List.length_map, List.map_map, decide_eq_true_eq]
  · have := order_behind_ok g.k3
    rw [g.ao] at this; exact this
  · have : g_windings [.int M, encW (gAllW M s)] = .ok false (.tup (rows M (gAllW M s))) [] := windings_law g.k3
    rw [rows_trips, g.aw] at this; exact this
  · have := sum_of_ok g.k3
    rw [g.as] at this; exact this
  · have := order_behind_ok g.k4
    rw [g.ro, List.map_append] at this; exact this
  · have : g_windings [.int M, encW (gRow M s)] = .ok false (.tup (rows M (gRow M s))) [] := windings_law g.k4
    rw [rows_trips, g.rw, List.map_map] at this; exact this
  · rw [List.length_map, List.length_tail, lins_len]; omega
  · have e1 : (lins M.toNat).tail.map D.int ++ [D.int 1] = ((lins M.toNat).tail ++ [1]).map D.int := by rw [List.map_append]; rfl
    have e2 : ((lins M.toNat).tail.map fun l => D.tup [.int 1, .int l, .int s]) = ((lins M.toNat).tail.map fun l => ((1 : Int), l, s)).map enc3 := by rw [List.map_map]; rfl
    rw [e1, e2]
    exact like_five (pl_ints _ _) (pl_enc3 _ _) (pl_flat rfl _) (pl_ints _ _) (pl_enc3 _ _)
end K34

set_option maxRecDepth 100000
set_option maxHeartbeats 4000000
namespace K34
open PySem PySem.Spec L2 DL
open PyProof.Rows hiding St
open DL (Env)
theorem written_ok : g_law_written_right [] = .ok false (.bl true) [] := by kernel_rfl
theorem cut_dropA (ds : List D) (a : Nat) : DL.cutD ds (some (a : Int)) none = ds.drop a := by
  by_cases h : a ≤ ds.length
  · exact cut_drop ds h
  · have e : HT.sIx ds.length 0 (some (a : Int)) = ds.length := by
      show (if (a : Int) < 0 then ((a : Int) + (ds.length : Int)).toNat else min (a : Int).toNat ds.length) = ds.length
      rw [if_neg (by omega), Int.toNat_natCast]
      omega
    unfold DL.cutD
    rw [e]
    show List.take (ds.length - ds.length) (ds.drop ds.length) = _
    rw [Nat.sub_self, List.take_zero, List.drop_eq_nil_of_le (by omega)]
theorem val_app {xs ys : List D} (hx : ∀ x ∈ xs, One x) (hy : ∀ x ∈ ys, One x) : ∀ x ∈ xs ++ ys, One x := fun x h => by
  rcases List.mem_append.mp h with h | h
  · exact hx x h
  · exact hy x h
theorem judge_loop {m : Int} (h1 : 2 ≤ m) (h2 : m ≤ 8) (S C T W P A O : D) : ∀ (vs : List D) (x : Sl), (∀ v ∈ vs, Val v) → NV x → ∃ y, NV y ∧
    forL (tgN 8) b_law_1 vs [.val S, .own C, .val T, .val (.int m), .val W, .val P, .val A, .val O, x] = .nx [.val S, .own C, .val T, .val (.int m), .val W, .val P, .val A, .val O, y]
  | [], x, _, hx => ⟨x, hx, rfl⟩
  | v :: vs, x, hv, hx => by
    have hb := judge_body h1 h2 S C T W P A O v (hv v List.mem_cons_self)
    have hg : tgN 8 v [.val S, .own C, .val T, .val (.int m), .val W, .val P, .val A, .val O, x] = some [.val S, .own C, .val T, .val (.int m), .val W, .val P, .val A, .val O, .val v] := by rcases hx with rfl | ⟨_, rfl⟩ <;> rfl
    rw [forL_nx hg hb]
    exact judge_loop h1 h2 S C T W P A O vs _ (fun x h => hv x (List.mem_cons_of_mem _ h)) (.inr ⟨_, rfl⟩)
theorem odd_core (c c1 c2 : Int × Int) (S T P O : D) (m A : Int) (ws lo hi : List D) (x6 x7 x8 : Sl) (y : Sl) (n6 : NV x6) (n7 : NV x7) (n8 : NV x8)
    (e1 : g_law_roll [cupD c, .int ((ws.length : Int) + 1)] = .ok false (.int A) [cupD c1])
    (e2 : g_law_some [cupD c1, .lst [.int m, .int (-m), .int 0, .bl true, .non, .int (m - 1), .int (1 - m), .str "1", .tup [.int 1]]] = .ok false O [cupD c2])
    (c3 : DL.cutD ws none (some A) = lo) (c4 : DL.cutD ws (some (A + 1)) none = hi) (z1 : lo.length ≤ 1000) (z2 : hi.length ≤ 1000) (z3 : ws.length ≤ 1000)
    (hl : forL (tgN 8) b_law_1 [.tup (lo ++ [O] ++ hi), .lst ws, .tup (ws ++ [O])] [.val S, .own (cupD c2), .val T, .val (.int m), .val (.tup ws), .val P, .val (.int A), .val O, x8] = .nx [.val S, .own (cupD c2), .val T, .val (.int m), .val (.tup ws), .val P, .val (.int A), .val O, y]) :
    b_law_2 [.val S, .own (cupD c), .val T, .val (.int m), .val (.tup ws), .val P, x6, x7, x8] = .nx [.val S, .own (cupD c2), .val T, .val (.int m), .val (.tup ws), .val P, .val (.int A), .val O, y] := by
  have y1 : lo.length + 1 ≤ 16777216 := by omega
  have y2 : lo.length ≤ 16777215 := by omega
  have y3 : (lo ++ [O]).length + hi.length ≤ 16777216 := by rw [List.length_append]; simp only [List.length_cons, List.length_nil]; omega
  have y4 : ws.length + 1 ≤ 16777216 := by omega
  have y5 : ws.length ≤ 16777215 := by omega
  have hl1 : l_law_1 [.val S, .own (cupD c2), .val T, .val (.int m), .val (.tup ws), .val P, .val (.int A), .val O, x8] = .nx [.val S, .own (cupD c2), .val T, .val (.int m), .val (.tup ws), .val P, .val (.int A), .val O, y] := by
    unfold l_law_1
    rw [← hl]
    rcases n8 with rfl | ⟨_, rfl⟩ <;> simp only [DL.runF, DL.startE, DL.endF, DL.outsOf, DL.seqS, DL.ifS, DL.retS, DL.retN, DL.drop, DL.noList, DL.noLists, DL.noListTop, DL.asg, DL.asgT, DL.toSl, DL.setSl, DL.leak1, DL.leaks, bnd, DL.bndS, DL.evVar, DL.evC, DL.res, DL.resS, DL.bin2, DL.un1, DL.app1, DL.app2, DL.callB, DL.appA, DL.pinO, DL.nilA, DL.consA, DL.mkT, DL.mkL, DL.tst, DL.truth, DL.truthD, DL.andT, DL.orT, DL.notT, DL.andV, DL.orV, DL.notV, DL.ifE, DL.ifT, DL.chain, DL.isi, DL.gIsi, DL.gLen, DL.gAbs, DL.gInt, DL.max_int, DL.min_int, DL.gList, DL.gTuple, DL.gAdd, DL.gSub, DL.gMul, DL.gFdiv, DL.gMod, DL.gPow, DL.gNeg, DL.gCmp, DL.gLt, DL.eq_int, DL.ne_int, DL.gIx, DL.gRev, DL.gSl, DL.slc, DL.noP, DL.someP, DL.gIsN, DL.gNotN, DL.isNonD, DL.seqX, DL.seqD, DL.itQ, DL.itR1, DL.itR2, DL.call, DL.noErr, DL.callF, DL.argsD, DL.ioSl, DL.rdSl, DL.mineAt, DL.nodupB, DL.leakSl, DL.putIo, DL.lookN, DL.putAt, DL.reTop, DL.topAt, DL.putTop, DL.apnd, DL.stoL, DL.stoT, DL.par2, DL.put2, DL.par3, DL.put3, DL.tgN, DL.tgTup, DL.tgCons, DL.tgNil, DL.forS, DL.wipeE, DL.restE, DL.yesT, DL.lcStep, DL.mutL, DL.gInsert, DL.raiseS, DL.nop, DL.brk, DL.cont, DL.ite_out, List.map_cons, List.map_nil, List.zip_cons_cons, List.zip_nil_right, List.zip_nil_left, List.length_cons, List.length_nil, List.cons_append, List.nil_append, List.replicate_succ, List.replicate_zero, List.getElem?_cons_zero, List.getElem?_cons_succ, List.getElem?_nil, List.set_cons_zero, List.set_cons_succ, List.all_cons, List.all_nil, List.isEmpty_nil, List.isEmpty_cons, List.contains_nil, List.contains_cons, List.elem_nil, Bool.false_eq_true, if_true, if_false, ite_true, ite_false, reduceIte, Bool.and_true, Bool.true_and, Bool.and_false, Bool.false_and, Bool.or_true, Bool.true_or, Bool.or_false, Bool.false_or, Bool.not_true, Bool.not_false, Option.bind_some, Option.bind_none, Option.map_some, Option.map_none, Nat.reduceAdd, Nat.reduceSub, Nat.reduceEqDiff, Nat.reduceLeDiff, Nat.zero_add, decide_true, decide_false, beq_self_eq_true, String.reduceBEq, String.reduceEq, reduceCtorEq, Int.reduceNeg, Int.reduceLT, Int.reduceLE, Int.reduceAdd, Int.reduceSub, Int.reduceMul, Int.reduceEq, Int.reduceBEq, Int.natCast_zero, Int.natCast_one, Int.cast_ofNat_Int, DL.atI_0, DL.atI_1, DL.atI_2, DL.atI_3, DL.atI_4, DL.atI_5, DL.atI_6, DL.cut_tail, DL.cut5_02, DL.cut5_24, List.take_succ_cons, List.take_zero, List.take_nil, List.drop_succ_cons, List.drop_zero, List.drop_nil, Int.toNat_natCast, Int.reduceToNat, Int.reducePow, Nat.reducePow, Nat.reduceMul, and_self, and_true, true_and, List.length_map, List.map_map, decide_eq_true_eq, c3, c4, y1, y2, y3, y4, y5]
  unfold b_law_2
  rcases n6 with rfl | ⟨_, rfl⟩ <;> rcases n7 with rfl | ⟨_, rfl⟩ <;> simp only [DL.runF, DL.startE, DL.endF, DL.outsOf, DL.seqS, DL.ifS, DL.retS, DL.retN, DL.drop, DL.noList, DL.noLists, DL.noListTop, DL.asg, DL.asgT, DL.toSl, DL.setSl, DL.leak1, DL.leaks, bnd, DL.bndS, DL.evVar, DL.evC, DL.res, DL.resS, DL.bin2, DL.un1, DL.app1, DL.app2, DL.callB, DL.appA, DL.pinO, DL.nilA, DL.consA, DL.mkT, DL.mkL, DL.tst, DL.truth, DL.truthD, DL.andT, DL.orT, DL.notT, DL.andV, DL.orV, DL.notV, DL.ifE, DL.ifT, DL.chain, DL.isi, DL.gIsi, DL.gLen, DL.gAbs, DL.gInt, DL.max_int, DL.min_int, DL.gList, DL.gTuple, DL.gAdd, DL.gSub, DL.gMul, DL.gFdiv, DL.gMod, DL.gPow, DL.gNeg, DL.gCmp, DL.gLt, DL.eq_int, DL.ne_int, DL.gIx, DL.gRev, DL.gSl, DL.slc, DL.noP, DL.someP, DL.gIsN, DL.gNotN, DL.isNonD, DL.seqX, DL.seqD, DL.itQ, DL.itR1, DL.itR2, DL.call, DL.noErr, DL.callF, DL.argsD, DL.ioSl, DL.rdSl, DL.mineAt, DL.nodupB, DL.leakSl, DL.putIo, DL.lookN, DL.putAt, DL.reTop, DL.topAt, DL.putTop, DL.apnd, DL.stoL, DL.stoT, DL.par2, DL.put2, DL.par3, DL.put3, DL.tgN, DL.tgTup, DL.tgCons, DL.tgNil, DL.forS, DL.wipeE, DL.restE, DL.yesT, DL.lcStep, DL.mutL, DL.gInsert, DL.raiseS, DL.nop, DL.brk, DL.cont, DL.ite_out, List.map_cons, List.map_nil, List.zip_cons_cons, List.zip_nil_right, List.zip_nil_left, List.length_cons, List.length_nil, List.cons_append, List.nil_append, List.replicate_succ, List.replicate_zero, List.getElem?_cons_zero, List.getElem?_cons_succ, List.getElem?_nil, List.set_cons_zero, List.set_cons_succ, List.all_cons, List.all_nil, List.isEmpty_nil, List.isEmpty_cons, List.contains_nil, List.contains_cons, List.elem_nil, Bool.false_eq_true, if_true, if_false, ite_true, ite_false, reduceIte, Bool.and_true, Bool.true_and, Bool.and_false, Bool.false_and, Bool.or_true, Bool.true_or, Bool.or_false, Bool.false_or, Bool.not_true, Bool.not_false, Option.bind_some, Option.bind_none, Option.map_some, Option.map_none, Nat.reduceAdd, Nat.reduceSub, Nat.reduceEqDiff, Nat.reduceLeDiff, Nat.zero_add, decide_true, decide_false, beq_self_eq_true, String.reduceBEq, String.reduceEq, reduceCtorEq, Int.reduceNeg, Int.reduceLT, Int.reduceLE, Int.reduceAdd, Int.reduceSub, Int.reduceMul, Int.reduceEq, Int.reduceBEq, Int.natCast_zero, Int.natCast_one, Int.cast_ofNat_Int, DL.atI_0, DL.atI_1, DL.atI_2, DL.atI_3, DL.atI_4, DL.atI_5, DL.atI_6, DL.cut_tail, DL.cut5_02, DL.cut5_24, List.take_succ_cons, List.take_zero, List.take_nil, List.drop_succ_cons, List.drop_zero, List.drop_nil, Int.toNat_natCast, Int.reduceToNat, Int.reducePow, Nat.reducePow, Nat.reduceMul, and_self, and_true, true_and, List.length_map, List.map_map, decide_eq_true_eq, e1, e2, hl1]
theorem odd_body (c : Int × Int) (S T P : D) {m : Int} {w : List Int} (h : WOk m w) (x6 x7 x8 : Sl) (n6 : NV x6) (n7 : NV x7) (n8 : NV x8) : ∃ c' y6 y7 y8, NV y6 ∧ NV y7 ∧ NV y8 ∧
    b_law_2 [.val S, .own (cupD c), .val T, .val (.int m), .val (encW w), .val P, x6, x7, x8] = .nx [.val S, .own (cupD c'), .val T, .val (.int m), .val (encW w), .val P, y6, y7, y8] := by
  have hn := h.n
  obtain ⟨A, c1, a0, a1, e1⟩ := roll_ok c (m := ((w.map D.int).length : Int) + 1) (by omega) (by rw [List.length_map]; omega)
  obtain ⟨O, c2, hO, e2⟩ := some_ok c1 [.int m, .int (-m), .int 0, .bl true, .non, .int (m - 1), .int (1 - m), .str "1", .tup [.int 1]] (by simp) (by simp only [List.length_cons, List.length_nil]; decide) true
  have hO1 : One O := by
    simp only [List.mem_cons, List.not_mem_nil, or_false] at hO
    rcases hO with rfl | rfl | rfl | rfl | rfl | rfl | rfl | rfl | rfl
    · exact .inl ⟨_, rfl⟩
    · exact .inl ⟨_, rfl⟩
    · exact .inl ⟨_, rfl⟩
    · exact .inr (.inl rfl)
    · exact .inr (.inr (.inl rfl))
    · exact .inl ⟨_, rfl⟩
    · exact .inl ⟨_, rfl⟩
    · exact .inr (.inr (.inr (.inl rfl)))
    · exact .inr (.inr (.inr (.inr rfl)))
  have hw : ∀ x ∈ w.map D.int, One x := fun x hx => by
    obtain ⟨l, _, rfl⟩ := List.mem_map.mp hx
    exact .inl ⟨_, rfl⟩
  have hOs : ∀ x ∈ [O], One x := fun x hx => by rw [List.mem_singleton.mp hx]; exact hO1
  obtain ⟨a, ha⟩ : ∃ a : Nat, (a : Int) = A := ⟨A.toNat, by omega⟩
  have c3 : DL.cutD (w.map D.int) none (some A) = (w.map D.int).take a := by rw [← ha]; exact cut_take _ (by omega)
  have c4 : DL.cutD (w.map D.int) (some (A + 1)) none = (w.map D.int).drop (a + 1) := by rw [← ha]; exact cut_dropA _ (a + 1)
  obtain ⟨y, hy, hl⟩ := judge_loop h.m1 h.m2 S (cupD c2) T (.tup (w.map D.int)) P (.int A) O [.tup ((w.map D.int).take a ++ [O] ++ (w.map D.int).drop (a + 1)), .lst (w.map D.int), .tup (w.map D.int ++ [O])] x8 (fun v hv => by
    simp only [List.mem_cons, List.not_mem_nil, or_false] at hv
    rcases hv with rfl | rfl | rfl
    · exact ⟨_, .inl ⟨rfl, val_app (val_app (fun x hx => hw x (List.mem_of_mem_take hx)) hOs) (fun x hx => hw x (List.mem_of_mem_drop hx))⟩⟩
    · exact ⟨_, .inr rfl⟩
    · exact ⟨_, .inl ⟨rfl, val_app hw hOs⟩⟩) n8
  refine ⟨c2, .val (.int A), .val O, y, .inr ⟨_, rfl⟩, .inr ⟨_, rfl⟩, hy, ?_⟩
  exact odd_core c c1 c2 S T P O m A (w.map D.int) _ _ x6 x7 x8 y n6 n7 n8 e1 e2 c3 c4 (by rw [List.length_take, List.length_map]; omega) (by rw [List.length_drop, List.length_map]; omega) (by rw [List.length_map]; omega) hl
theorem odd_loop (S T : D) {m : Int} {w : List Int} (h : WOk m w) : ∀ (ds : List D) (c : Int × Int) (x5 x6 x7 x8 : Sl), NV x5 → NV x6 → NV x7 → NV x8 → ∃ c' y5 y6 y7 y8, NV y5 ∧ NV y6 ∧ NV y7 ∧ NV y8 ∧
    forL (tgN 5) b_law_2 ds [.val S, .own (cupD c), .val T, .val (.int m), .val (encW w), x5, x6, x7, x8] = .nx [.val S, .own (cupD c'), .val T, .val (.int m), .val (encW w), y5, y6, y7, y8]
  | [], c, x5, x6, x7, x8, n5, n6, n7, n8 => ⟨c, x5, x6, x7, x8, n5, n6, n7, n8, rfl⟩
  | d :: ds, c, x5, x6, x7, x8, n5, n6, n7, n8 => by
    obtain ⟨c1, y6, y7, y8, k6, k7, k8, hb⟩ := odd_body c S T d h x6 x7 x8 n6 n7 n8
    have hg : tgN 5 d [.val S, .own (cupD c), .val T, .val (.int m), .val (encW w), x5, x6, x7, x8] = some [.val S, .own (cupD c), .val T, .val (.int m), .val (encW w), .val d, x6, x7, x8] := by rcases n5 with rfl | ⟨_, rfl⟩ <;> rfl
    rw [forL_nx hg hb]
    exact odd_loop S T h ds c1 _ y6 y7 y8 (.inr ⟨_, rfl⟩) k6 k7 k8
theorem turn_body (S T : D) (c : Int × Int) (x3 x4 x5 x6 x7 x8 : Sl) (n3 : NV x3) (n4 : NV x4) (n5 : NV x5) (n6 : NV x6) (n7 : NV x7) (n8 : NV x8) : ∃ c' y3 y4 y5 y6 y7 y8, NV y3 ∧ NV y4 ∧ NV y5 ∧ NV y6 ∧ NV y7 ∧ NV y8 ∧
    b_law_3 [.val S, .own (cupD c), .val T, x3, x4, x5, x6, x7, x8] = .nx [.val S, .own (cupD c'), .val T, y3, y4, y5, y6, y7, y8] := by
  obtain ⟨r, c1, r0, r1, e1⟩ := roll_ok c (m := 6) (by decide) (by decide)
  obtain ⟨m, hm⟩ : ∃ m, 2 + r = m := ⟨_, rfl⟩
  obtain ⟨k, c2, hk, e2⟩ := some_ok c1 [.int 3, .int 9, .int 20] (by simp) (by simp only [List.length_cons, List.length_nil]; decide) true
  have e2' : ∃ K : Int, k = .int K ∧ 0 ≤ K ∧ K ≤ 20 := by
    simp only [List.mem_cons, List.not_mem_nil, or_false] at hk
    rcases hk with rfl | rfl | rfl
    · exact ⟨3, rfl, by decide, by decide⟩
    · exact ⟨9, rfl, by decide, by decide⟩
    · exact ⟨20, rfl, by decide, by decide⟩
  obtain ⟨K, rfl, k1, k2⟩ := e2'
  obtain ⟨w, c3, hw, _, e3⟩ := word_ok (m := m) (by omega) (by omega) c2 k1 k2
  have e4 := right_ok hw
  have m4 : mid 4 = true := rfl
  obtain ⟨c4, y5, y6, y7, y8, k5, k6, k7, k8, hl⟩ := odd_loop S T hw (rangeD 0 (4 : Int).toNat) c3 x5 x6 x7 x8 n5 n6 n7 n8
  have hl1 : l_law_2 [.val S, .own (cupD c3), .val T, .val (.int m), .val (encW w), x5, x6, x7, x8] = .nx [.val S, .own (cupD c4), .val T, .val (.int m), .val (encW w), y5, y6, y7, y8] := by
    unfold l_law_2
    rw [← hl]
    simp only [DL.runF, DL.startE, DL.endF, DL.outsOf, DL.seqS, DL.ifS, DL.retS, DL.retN, DL.drop, DL.noList, DL.noLists, DL.noListTop, DL.asg, DL.asgT, DL.toSl, DL.setSl, DL.leak1, DL.leaks, bnd, DL.bndS, DL.evVar, DL.evC, DL.res, DL.resS, DL.bin2, DL.un1, DL.app1, DL.app2, DL.callB, DL.appA, DL.pinO, DL.nilA, DL.consA, DL.mkT, DL.mkL, DL.tst, DL.truth, DL.truthD, DL.andT, DL.orT, DL.notT, DL.andV, DL.orV, DL.notV, DL.ifE, DL.ifT, DL.chain, DL.isi, DL.gIsi, DL.gLen, DL.gAbs, DL.gInt, DL.max_int, DL.min_int, DL.gList, DL.gTuple, DL.gAdd, DL.gSub, DL.gMul, DL.gFdiv, DL.gMod, DL.gPow, DL.gNeg, DL.gCmp, DL.gLt, DL.eq_int, DL.ne_int, DL.gIx, DL.gRev, DL.gSl, DL.slc, DL.noP, DL.someP, DL.gIsN, DL.gNotN, DL.isNonD, DL.seqX, DL.seqD, DL.itQ, DL.itR1, DL.itR2, DL.call, DL.noErr, DL.callF, DL.argsD, DL.ioSl, DL.rdSl, DL.mineAt, DL.nodupB, DL.leakSl, DL.putIo, DL.lookN, DL.putAt, DL.reTop, DL.topAt, DL.putTop, DL.apnd, DL.stoL, DL.stoT, DL.par2, DL.put2, DL.par3, DL.put3, DL.tgN, DL.tgTup, DL.tgCons, DL.tgNil, DL.forS, DL.wipeE, DL.restE, DL.yesT, DL.lcStep, DL.mutL, DL.gInsert, DL.raiseS, DL.nop, DL.brk, DL.cont, DL.ite_out, List.map_cons, List.map_nil, List.zip_cons_cons, List.zip_nil_right, List.zip_nil_left, List.length_cons, List.length_nil, List.cons_append, List.nil_append, List.replicate_succ, List.replicate_zero, List.getElem?_cons_zero, List.getElem?_cons_succ, List.getElem?_nil, List.set_cons_zero, List.set_cons_succ, List.all_cons, List.all_nil, List.isEmpty_nil, List.isEmpty_cons, List.contains_nil, List.contains_cons, List.elem_nil, Bool.false_eq_true, if_true, if_false, ite_true, ite_false, reduceIte, Bool.and_true, Bool.true_and, Bool.and_false, Bool.false_and, Bool.or_true, Bool.true_or, Bool.or_false, Bool.false_or, Bool.not_true, Bool.not_false, Option.bind_some, Option.bind_none, Option.map_some, Option.map_none, Nat.reduceAdd, Nat.reduceSub, Nat.reduceEqDiff, Nat.reduceLeDiff, Nat.zero_add, decide_true, decide_false, beq_self_eq_true, String.reduceBEq, String.reduceEq, reduceCtorEq, Int.reduceNeg, Int.reduceLT, Int.reduceLE, Int.reduceAdd, Int.reduceSub, Int.reduceMul, Int.reduceEq, Int.reduceBEq, Int.natCast_zero, Int.natCast_one, Int.cast_ofNat_Int, DL.atI_0, DL.atI_1, DL.atI_2, DL.atI_3, DL.atI_4, DL.atI_5, DL.atI_6, DL.cut_tail, DL.cut5_02, DL.cut5_24, List.take_succ_cons, List.take_zero, List.take_nil, List.drop_succ_cons, List.drop_zero, List.drop_nil, Int.toNat_natCast, Int.reduceToNat, Int.reducePow, Nat.reducePow, Nat.reduceMul, and_self, and_true, true_and, List.length_map, List.map_map, decide_eq_true_eq, m4]
  have e2'' : g_law_some [cupD c1, .lst [.int 3, .int 9, .int 20]] = .ok false (.int K) [cupD c2] := e2
  refine ⟨c4, .val (.int m), .val (encW w), y5, y6, y7, y8, .inr ⟨_, rfl⟩, .inr ⟨_, rfl⟩, k5, k6, k7, k8, ?_⟩
  unfold encW at *
  generalize w.map D.int = ws at *
  unfold b_law_3
  rcases n3 with rfl | ⟨_, rfl⟩ <;> rcases n4 with rfl | ⟨_, rfl⟩ <;> simp only [DL.runF, DL.startE, DL.endF, DL.outsOf, DL.seqS, DL.ifS, DL.retS, DL.retN, DL.drop, DL.noList, DL.noLists, DL.noListTop, DL.asg, DL.asgT, DL.toSl, DL.setSl, DL.leak1, DL.leaks, bnd, DL.bndS, DL.evVar, DL.evC, DL.res, DL.resS, DL.bin2, DL.un1, DL.app1, DL.app2, DL.callB, DL.appA, DL.pinO, DL.nilA, DL.consA, DL.mkT, DL.mkL, DL.tst, DL.truth, DL.truthD, DL.andT, DL.orT, DL.notT, DL.andV, DL.orV, DL.notV, DL.ifE, DL.ifT, DL.chain, DL.isi, DL.gIsi, DL.gLen, DL.gAbs, DL.gInt, DL.max_int, DL.min_int, DL.gList, DL.gTuple, DL.gAdd, DL.gSub, DL.gMul, DL.gFdiv, DL.gMod, DL.gPow, DL.gNeg, DL.gCmp, DL.gLt, DL.eq_int, DL.ne_int, DL.gIx, DL.gRev, DL.gSl, DL.slc, DL.noP, DL.someP, DL.gIsN, DL.gNotN, DL.isNonD, DL.seqX, DL.seqD, DL.itQ, DL.itR1, DL.itR2, DL.call, DL.noErr, DL.callF, DL.argsD, DL.ioSl, DL.rdSl, DL.mineAt, DL.nodupB, DL.leakSl, DL.putIo, DL.lookN, DL.putAt, DL.reTop, DL.topAt, DL.putTop, DL.apnd, DL.stoL, DL.stoT, DL.par2, DL.put2, DL.par3, DL.put3, DL.tgN, DL.tgTup, DL.tgCons, DL.tgNil, DL.forS, DL.wipeE, DL.restE, DL.yesT, DL.lcStep, DL.mutL, DL.gInsert, DL.raiseS, DL.nop, DL.brk, DL.cont, DL.ite_out, List.map_cons, List.map_nil, List.zip_cons_cons, List.zip_nil_right, List.zip_nil_left, List.length_cons, List.length_nil, List.cons_append, List.nil_append, List.replicate_succ, List.replicate_zero, List.getElem?_cons_zero, List.getElem?_cons_succ, List.getElem?_nil, List.set_cons_zero, List.set_cons_succ, List.all_cons, List.all_nil, List.isEmpty_nil, List.isEmpty_cons, List.contains_nil, List.contains_cons, List.elem_nil, Bool.false_eq_true, if_true, if_false, ite_true, ite_false, reduceIte, Bool.and_true, Bool.true_and, Bool.and_false, Bool.false_and, Bool.or_true, Bool.true_or, Bool.or_false, Bool.false_or, Bool.not_true, Bool.not_false, Option.bind_some, Option.bind_none, Option.map_some, Option.map_none, Nat.reduceAdd, Nat.reduceSub, Nat.reduceEqDiff, Nat.reduceLeDiff, Nat.zero_add, decide_true, decide_false, beq_self_eq_true, String.reduceBEq, String.reduceEq, reduceCtorEq, Int.reduceNeg, Int.reduceLT, Int.reduceLE, Int.reduceAdd, Int.reduceSub, Int.reduceMul, Int.reduceEq, Int.reduceBEq, Int.natCast_zero, Int.natCast_one, Int.cast_ofNat_Int, DL.atI_0, DL.atI_1, DL.atI_2, DL.atI_3, DL.atI_4, DL.atI_5, DL.atI_6, DL.cut_tail, DL.cut5_02, DL.cut5_24, List.take_succ_cons, List.take_zero, List.take_nil, List.drop_succ_cons, List.drop_zero, List.drop_nil, Int.toNat_natCast, Int.reduceToNat, Int.reducePow, Nat.reducePow, Nat.reduceMul, and_self, and_true, true_and, List.length_map, List.map_map, decide_eq_true_eq, e1, hm, e2'', e3, e4, hl1]
theorem turn_loop (S : D) : ∀ (ds : List D) (c : Int × Int) (x2 x3 x4 x5 x6 x7 x8 : Sl), NV x2 → NV x3 → NV x4 → NV x5 → NV x6 → NV x7 → NV x8 → ∃ c' y2 y3 y4 y5 y6 y7 y8, NV y2 ∧ NV y3 ∧ NV y4 ∧ NV y5 ∧ NV y6 ∧ NV y7 ∧ NV y8 ∧
    forL (tgN 2) b_law_3 ds [.val S, .own (cupD c), x2, x3, x4, x5, x6, x7, x8] = .nx [.val S, .own (cupD c'), y2, y3, y4, y5, y6, y7, y8]
  | [], c, x2, x3, x4, x5, x6, x7, x8, n2, n3, n4, n5, n6, n7, n8 => ⟨c, x2, x3, x4, x5, x6, x7, x8, n2, n3, n4, n5, n6, n7, n8, rfl⟩
  | d :: ds, c, x2, x3, x4, x5, x6, x7, x8, n2, n3, n4, n5, n6, n7, n8 => by
    obtain ⟨c1, y3, y4, y5, y6, y7, y8, k3, k4, k5, k6, k7, k8, hb⟩ := turn_body S d c x3 x4 x5 x6 x7 x8 n3 n4 n5 n6 n7 n8
    have hg : tgN 2 d [.val S, .own (cupD c), x2, x3, x4, x5, x6, x7, x8] = some [.val S, .own (cupD c), .val d, x3, x4, x5, x6, x7, x8] := by rcases n2 with rfl | ⟨_, rfl⟩ <;> rfl
    rw [forL_nx hg hb]
    exact turn_loop S ds c1 _ y3 y4 y5 y6 y7 y8 (.inr ⟨_, rfl⟩) k3 k4 k5 k6 k7 k8
theorem math : ∀ ns : List Int, ns.length ≤ 63 → g_law [.scr ns] = .ok false (.bl true) [] := by
  intro ns hl
  obtain ⟨c, e1⟩ := cup_ok ns hl
  have m6 : mid 6 = true := rfl
  obtain ⟨c1, y2, y3, y4, y5, y6, y7, y8, _, _, _, _, _, _, _, e2⟩ := turn_loop (.scr ns) (rangeD 0 (6 : Int).toNat) c .no .no .no .no .no .no .no (.inl rfl) (.inl rfl) (.inl rfl) (.inl rfl) (.inl rfl) (.inl rfl) (.inl rfl)
  have hl1 : l_law_3 [.val (.scr ns), .own (cupD c), .no, .no, .no, .no, .no, .no, .no] = .nx [.val (.scr ns), .own (cupD c1), y2, y3, y4, y5, y6, y7, y8] := by
    unfold l_law_3
    rw [← e2]
    simp only [DL.runF, DL.startE, DL.endF, DL.outsOf, DL.seqS, DL.ifS, DL.retS, DL.retN, DL.drop, DL.noList, DL.noLists, DL.noListTop, DL.asg, DL.asgT, DL.toSl, DL.setSl, DL.leak1, DL.leaks, bnd, DL.bndS, DL.evVar, DL.evC, DL.res, DL.resS, DL.bin2, DL.un1, DL.app1, DL.app2, DL.callB, DL.appA, DL.pinO, DL.nilA, DL.consA, DL.mkT, DL.mkL, DL.tst, DL.truth, DL.truthD, DL.andT, DL.orT, DL.notT, DL.andV, DL.orV, DL.notV, DL.ifE, DL.ifT, DL.chain, DL.isi, DL.gIsi, DL.gLen, DL.gAbs, DL.gInt, DL.max_int, DL.min_int, DL.gList, DL.gTuple, DL.gAdd, DL.gSub, DL.gMul, DL.gFdiv, DL.gMod, DL.gPow, DL.gNeg, DL.gCmp, DL.gLt, DL.eq_int, DL.ne_int, DL.gIx, DL.gRev, DL.gSl, DL.slc, DL.noP, DL.someP, DL.gIsN, DL.gNotN, DL.isNonD, DL.seqX, DL.seqD, DL.itQ, DL.itR1, DL.itR2, DL.call, DL.noErr, DL.callF, DL.argsD, DL.ioSl, DL.rdSl, DL.mineAt, DL.nodupB, DL.leakSl, DL.putIo, DL.lookN, DL.putAt, DL.reTop, DL.topAt, DL.putTop, DL.apnd, DL.stoL, DL.stoT, DL.par2, DL.put2, DL.par3, DL.put3, DL.tgN, DL.tgTup, DL.tgCons, DL.tgNil, DL.forS, DL.wipeE, DL.restE, DL.yesT, DL.lcStep, DL.mutL, DL.gInsert, DL.raiseS, DL.nop, DL.brk, DL.cont, DL.ite_out, List.map_cons, List.map_nil, List.zip_cons_cons, List.zip_nil_right, List.zip_nil_left, List.length_cons, List.length_nil, List.cons_append, List.nil_append, List.replicate_succ, List.replicate_zero, List.getElem?_cons_zero, List.getElem?_cons_succ, List.getElem?_nil, List.set_cons_zero, List.set_cons_succ, List.all_cons, List.all_nil, List.isEmpty_nil, List.isEmpty_cons, List.contains_nil, List.contains_cons, List.elem_nil, Bool.false_eq_true, if_true, if_false, ite_true, ite_false, reduceIte, Bool.and_true, Bool.true_and, Bool.and_false, Bool.false_and, Bool.or_true, Bool.true_or, Bool.or_false, Bool.false_or, Bool.not_true, Bool.not_false, Option.bind_some, Option.bind_none, Option.map_some, Option.map_none, Nat.reduceAdd, Nat.reduceSub, Nat.reduceEqDiff, Nat.reduceLeDiff, Nat.zero_add, decide_true, decide_false, beq_self_eq_true, String.reduceBEq, String.reduceEq, reduceCtorEq, Int.reduceNeg, Int.reduceLT, Int.reduceLE, Int.reduceAdd, Int.reduceSub, Int.reduceMul, Int.reduceEq, Int.reduceBEq, Int.natCast_zero, Int.natCast_one, Int.cast_ofNat_Int, DL.atI_0, DL.atI_1, DL.atI_2, DL.atI_3, DL.atI_4, DL.atI_5, DL.atI_6, DL.cut_tail, DL.cut5_02, DL.cut5_24, List.take_succ_cons, List.take_zero, List.take_nil, List.drop_succ_cons, List.drop_zero, List.drop_nil, Int.toNat_natCast, Int.reduceToNat, Int.reducePow, Nat.reducePow, Nat.reduceMul, and_self, and_true, true_and, List.length_map, List.map_map, decide_eq_true_eq, m6]
  obtain ⟨c2, e3⟩ := great_ok c1
  unfold g_law m_law
  simp only [DL.runF, DL.startE, DL.endF, DL.outsOf, DL.seqS, DL.ifS, DL.retS, DL.retN, DL.drop, DL.noList, DL.noLists, DL.noListTop, DL.asg, DL.asgT, DL.toSl, DL.setSl, DL.leak1, DL.leaks, bnd, DL.bndS, DL.evVar, DL.evC, DL.res, DL.resS, DL.bin2, DL.un1, DL.app1, DL.app2, DL.callB, DL.appA, DL.pinO, DL.nilA, DL.consA, DL.mkT, DL.mkL, DL.tst, DL.truth, DL.truthD, DL.andT, DL.orT, DL.notT, DL.andV, DL.orV, DL.notV, DL.ifE, DL.ifT, DL.chain, DL.isi, DL.gIsi, DL.gLen, DL.gAbs, DL.gInt, DL.max_int, DL.min_int, DL.gList, DL.gTuple, DL.gAdd, DL.gSub, DL.gMul, DL.gFdiv, DL.gMod, DL.gPow, DL.gNeg, DL.gCmp, DL.gLt, DL.eq_int, DL.ne_int, DL.gIx, DL.gRev, DL.gSl, DL.slc, DL.noP, DL.someP, DL.gIsN, DL.gNotN, DL.isNonD, DL.seqX, DL.seqD, DL.itQ, DL.itR1, DL.itR2, DL.call, DL.noErr, DL.callF, DL.argsD, DL.ioSl, DL.rdSl, DL.mineAt, DL.nodupB, DL.leakSl, DL.putIo, DL.lookN, DL.putAt, DL.reTop, DL.topAt, DL.putTop, DL.apnd, DL.stoL, DL.stoT, DL.par2, DL.put2, DL.par3, DL.put3, DL.tgN, DL.tgTup, DL.tgCons, DL.tgNil, DL.forS, DL.wipeE, DL.restE, DL.yesT, DL.lcStep, DL.mutL, DL.gInsert, DL.raiseS, DL.nop, DL.brk, DL.cont, DL.ite_out, List.map_cons, List.map_nil, List.zip_cons_cons, List.zip_nil_right, List.zip_nil_left, List.length_cons, List.length_nil, List.cons_append, List.nil_append, List.replicate_succ, List.replicate_zero, List.getElem?_cons_zero, List.getElem?_cons_succ, List.getElem?_nil, List.set_cons_zero, List.set_cons_succ, List.all_cons, List.all_nil, List.isEmpty_nil, List.isEmpty_cons, List.contains_nil, List.contains_cons, List.elem_nil, Bool.false_eq_true, if_true, if_false, ite_true, ite_false, reduceIte, Bool.and_true, Bool.true_and, Bool.and_false, Bool.false_and, Bool.or_true, Bool.true_or, Bool.or_false, Bool.false_or, Bool.not_true, Bool.not_false, Option.bind_some, Option.bind_none, Option.map_some, Option.map_none, Nat.reduceAdd, Nat.reduceSub, Nat.reduceEqDiff, Nat.reduceLeDiff, Nat.zero_add, decide_true, decide_false, beq_self_eq_true, String.reduceBEq, String.reduceEq, reduceCtorEq, Int.reduceNeg, Int.reduceLT, Int.reduceLE, Int.reduceAdd, Int.reduceSub, Int.reduceMul, Int.reduceEq, Int.reduceBEq, Int.natCast_zero, Int.natCast_one, Int.cast_ofNat_Int, DL.atI_0, DL.atI_1, DL.atI_2, DL.atI_3, DL.atI_4, DL.atI_5, DL.atI_6, DL.cut_tail, DL.cut5_02, DL.cut5_24, List.take_succ_cons, List.take_zero, List.take_nil, List.drop_succ_cons, List.drop_zero, List.drop_nil, Int.toNat_natCast, Int.reduceToNat, Int.reducePow, Nat.reducePow, Nat.reduceMul, and_self, and_true, true_and, List.length_map, List.map_map, decide_eq_true_eq, e1, hl1, e3, written_ok]
end K34


set_option maxRecDepth 100000
set_option maxHeartbeats 4000000
namespace K34
open PySem L2 DL
theorem walk {l : PySem.W.OpenLaw} {q : Program} {loose : List Str} {XP : (Str → Option Value) → Heap → Prop} {YP : World → Heap → Prop} {d : DefRec} {K : Params → PySem.W.Frag} (hn : l.most = some 63) (hdf : d.params.defaults = []) (hname : d.name = "law")
    (hY : ∀ (w : World) (h : Heap), YP w h → (K w.params).In h)
    (F : ∀ (w : World) (mg : Str → Option Value) (h : Heap), (K w.params).In h → h.Ns mainGlobals mg → Txt (K w.params) mg ∧ ∃ f fd, mg "law" = some (.ref f) ∧ (∀ (s : Shared) (u : Value), BindsTo s fd ⟨[u], []⟩ [("script", u)]) ∧ Fun (K w.params) "law" "law" s_law f fd) :
    PySem.W.WalkO q loose XP YP l.row.toRowW d [] (fun f vs => PySem.call f vs) :=
  DL.law_walk (k := 13) (g := g_law) hn hdf ⟨rfl, by decide, by decide⟩ hname math hY fun w mg h hK hns => by
    obtain ⟨T, f, fd, h1, h2, h3⟩ := F w mg h hK hns
    exact ⟨f, fd, h1, h2, fun base => fn_law T h3⟩
theorem law_mk {K : PySem.W.Frag} {h : Heap} {mg : Str → Option Value} {f : Addr} {oc : Value} {od an : Option Addr} {osl : Array (Option Value)} {kV doc pm cdv ct : Value} (X : K.In h) (G : h.Ns mainGlobals mg) (T : Txt K mg) (a : PySem.W.nsIn K mainGlobals "law" = some (some (.ref f)))
    (l : K.lookup f = some ⟨oc, od, .func (PySem.W.fnOf "law" "law" (defArgs s_law) (defBody s_law) (defScope s_law) .none kV doc pm an cdv ct), osl⟩) (c : PySem.W.codeIn K cdv "law" = true) (k : PySem.W.keepIn K (.ref f) = true) :
    Txt K mg ∧ ∃ f fd, mg "law" = some (.ref f) ∧ (∀ (s : Shared) (u : Value), BindsTo s fd ⟨[u], []⟩ [("script", u)]) ∧ Fun K "law" "law" s_law f fd :=
  ⟨T, f, _, PySem.W.mg_of X G a, fun s u => .of_eq rfl, fun_mk l c k⟩
end K34
open PySem PySem.W PyProof.Rows in
set_option maxRecDepth 100000 in
set_option maxHeartbeats 0 in
theorem PySem.Challenge.cw_tautlines_k34_whole_crossings_holds : PySem.Challenge.rw_tautlines_k34_whole_crossings.Holds := by
  w_on; o_law; k_head; (case hw => w_witness2)
  k_fill
  refine K34.walk (l := PySem.Challenge.rw_tautlines_k34_whole_crossings) rfl rfl rfl (fun w h Y => PySem.W.kIn_of Y) ?F
  case F =>
    intro w mg h KX G
    refine' K34.law_mk KX G (.mk (DL.at_mk KX G ?a_law_cup ?l_law_cup ?q_law_cup ?k_law_cup (fun _ _ _ _ _ _ us hl => match us, hl with | [_], _ => rfl)) (DL.at_mk KX G ?a_law_roll ?l_law_roll ?q_law_roll ?k_law_roll (fun _ _ _ _ _ _ us hl => match us, hl with | [_, _], _ => rfl)) (DL.at_mk KX G ?a_law_some ?l_law_some ?q_law_some ?k_law_some (fun _ _ _ _ _ _ us hl => match us, hl with | [_, _], _ => rfl)) (DL.at_mk KX G ?a_law_word ?l_law_word ?q_law_word ?k_law_word (fun _ _ _ _ _ _ us hl => match us, hl with | [_, _, _], _ => rfl)) (DL.at_mk KX G ?a_is_whole ?l_is_whole ?q_is_whole ?k_is_whole (fun _ _ _ _ _ _ us hl => match us, hl with | [_, _, _], _ => rfl)) (DL.at_mk KX G ?a_need_whole ?l_need_whole ?q_need_whole ?k_need_whole (fun _ _ _ _ _ _ us hl => match us, hl with | [_, _, _], _ => rfl)) (DL.at_mk KX G ?a_need_many ?l_need_many ?q_need_many ?k_need_many (fun _ _ _ _ _ _ us hl => match us, hl with | [_], _ => rfl)) (DL.at_mk KX G ?a_is_tuple_of ?l_is_tuple_of ?q_is_tuple_of ?k_is_tuple_of (fun _ _ _ _ _ _ us hl => match us, hl with | [_, _, _], _ => rfl)) (DL.at_mk KX G ?a_is_letter ?l_is_letter ?q_is_letter ?k_is_letter (fun _ _ _ _ _ _ us hl => match us, hl with | [_, _], _ => rfl)) (DL.at_mk KX G ?a_fits_word ?l_fits_word ?q_fits_word ?k_fits_word (fun _ _ _ _ _ _ us hl => match us, hl with | [_, _], _ => rfl)) (DL.at_mk KX G ?a_is_word ?l_is_word ?q_is_word ?k_is_word (fun _ _ _ _ _ _ us hl => match us, hl with | [_, _], _ => rfl)) (DL.at_mk KX G ?a_need_word ?l_need_word ?q_need_word ?k_need_word (fun _ _ _ _ _ _ us hl => match us, hl with | [_, _], _ => rfl)) (DL.at_mk KX G ?a_order_in ?l_order_in ?q_order_in ?k_order_in (fun _ _ _ _ _ _ us hl => match us, hl with | [_, _], _ => rfl)) (DL.at_mk KX G ?a_order_behind ?l_order_behind ?q_order_behind ?k_order_behind (fun _ _ _ _ _ _ us hl => match us, hl with | [_, _], _ => rfl)) (DL.at_mk KX G ?a_sign_of ?l_sign_of ?q_sign_of ?k_sign_of (fun _ _ _ _ _ _ us hl => match us, hl with | [_], _ => rfl)) (DL.at_mk KX G ?a_windings ?l_windings ?q_windings ?k_windings (fun _ _ _ _ _ _ us hl => match us, hl with | [_, _], _ => rfl)) (DL.at_mk KX G ?a_sum_in ?l_sum_in ?q_sum_in ?k_sum_in (fun _ _ _ _ _ _ us hl => match us, hl with | [_], _ => rfl)) (DL.at_mk KX G ?a_sum_of ?l_sum_of ?q_sum_of ?k_sum_of (fun _ _ _ _ _ _ us hl => match us, hl with | [_, _], _ => rfl)) (DL.at_mk KX G ?a_back_in ?l_back_in ?q_back_in ?k_back_in (fun _ _ _ _ _ _ us hl => match us, hl with | [_], _ => rfl)) (DL.at_mk KX G ?a_back_of ?l_back_of ?q_back_of ?k_back_of (fun _ _ _ _ _ _ us hl => match us, hl with | [_, _], _ => rfl)) (DL.at_mk KX G ?a_law_order ?l_law_order ?q_law_order ?k_law_order (fun _ _ _ _ _ _ us hl => match us, hl with | [_, _], _ => rfl)) (DL.at_mk KX G ?a_law_sign ?l_law_sign ?q_law_sign ?k_law_sign (fun _ _ _ _ _ _ us hl => match us, hl with | [_], _ => rfl)) (DL.at_mk KX G ?a_law_windings ?l_law_windings ?q_law_windings ?k_law_windings (fun _ _ _ _ _ _ us hl => match us, hl with | [_, _], _ => rfl)) (DL.at_mk KX G ?a_law_back ?l_law_back ?q_law_back ?k_law_back (fun _ _ _ _ _ _ us hl => match us, hl with | [_], _ => rfl)) (DL.at_mk KX G ?a_law_sort ?l_law_sort ?q_law_sort ?k_law_sort (fun _ _ _ _ _ _ us hl => match us, hl with | [_], _ => rfl)) (DL.at_mk KX G ?a_law_like ?l_law_like ?q_law_like ?k_law_like (fun _ _ _ _ _ _ us hl => match us, hl with | [_, _], _ => rfl)) (DL.at_mk KX G ?a_law_right ?l_law_right ?q_law_right ?k_law_right (fun _ _ _ _ _ _ us hl => match us, hl with | [_, _], _ => rfl)) (DL.at_mk KX G ?a_law_is_word ?l_law_is_word ?q_law_is_word ?k_law_is_word (fun _ _ _ _ _ _ us hl => match us, hl with | [_, _, _], _ => rfl)) (DL.at_mk KX G ?a_law_great_right ?l_law_great_right ?q_law_great_right ?k_law_great_right (fun _ _ _ _ _ _ us hl => match us, hl with | [_], _ => rfl)) (DL.at_mk KX G ?a_law_written_right ?l_law_written_right ?q_law_written_right ?k_law_written_right (fun _ _ _ _ _ _ us hl => match us, hl with | [], _ => rfl)) (PySem.W.mg_none_of KX G ?b_abs) (PySem.W.mg_none_of KX G ?b_all) (PySem.W.mg_none_of KX G ?b_bool) (PySem.W.mg_none_of KX G ?b_dict) (PySem.W.mg_none_of KX G ?b_int) (PySem.W.mg_none_of KX G ?b_isinstance) (PySem.W.mg_none_of KX G ?b_len) (PySem.W.mg_none_of KX G ?b_list) (PySem.W.mg_none_of KX G ?b_max) (PySem.W.mg_none_of KX G ?b_min) (PySem.W.mg_none_of KX G ?b_range) (PySem.W.mg_none_of KX G ?b_sorted) (PySem.W.mg_none_of KX G ?b_str) (PySem.W.mg_none_of KX G ?b_sum) (PySem.W.mg_none_of KX G ?b_tuple) (PySem.W.mg_none_of KX G ?b_zip) (DL.int_mk KX G ?c_LETTERS) (DL.int_mk KX G ?c_LINES) (DL.exc_mk KX G ?xa_InvalidNumber ?xe_InvalidNumber ?xk_InvalidNumber ?xb_InvalidNumber ?xt_InvalidNumber) (DL.exc_mk KX G ?xa_InvalidWord ?xe_InvalidWord ?xk_InvalidWord ?xb_InvalidWord ?xt_InvalidWord)) ?al ?ll ?ql ?kl
    (case al => k_is)
    (case ll => k_is)
    (case ql => k_is)
    (case kl => k_is)
    (case a_law_cup => k_is)
    (case l_law_cup => k_is)
    (case q_law_cup => k_is)
    (case k_law_cup => k_is)
    (case a_law_roll => k_is)
    (case l_law_roll => k_is)
    (case q_law_roll => k_is)
    (case k_law_roll => k_is)
    (case a_law_some => k_is)
    (case l_law_some => k_is)
    (case q_law_some => k_is)
    (case k_law_some => k_is)
    (case a_law_word => k_is)
    (case l_law_word => k_is)
    (case q_law_word => k_is)
    (case k_law_word => k_is)
    (case a_is_whole => k_is)
    (case l_is_whole => k_is)
    (case q_is_whole => k_is)
    (case k_is_whole => k_is)
    (case a_need_whole => k_is)
    (case l_need_whole => k_is)
    (case q_need_whole => k_is)
    (case k_need_whole => k_is)
    (case a_need_many => k_is)
    (case l_need_many => k_is)
    (case q_need_many => k_is)
    (case k_need_many => k_is)
    (case a_is_tuple_of => k_is)
    (case l_is_tuple_of => k_is)
    (case q_is_tuple_of => k_is)
    (case k_is_tuple_of => k_is)
    (case a_is_letter => k_is)
    (case l_is_letter => k_is)
    (case q_is_letter => k_is)
    (case k_is_letter => k_is)
    (case a_fits_word => k_is)
    (case l_fits_word => k_is)
    (case q_fits_word => k_is)
    (case k_fits_word => k_is)
    (case a_is_word => k_is)
    (case l_is_word => k_is)
    (case q_is_word => k_is)
    (case k_is_word => k_is)
    (case a_need_word => k_is)
    (case l_need_word => k_is)
    (case q_need_word => k_is)
    (case k_need_word => k_is)
    (case a_order_in => k_is)
    (case l_order_in => k_is)
    (case q_order_in => k_is)
    (case k_order_in => k_is)
    (case a_order_behind => k_is)
    (case l_order_behind => k_is)
    (case q_order_behind => k_is)
    (case k_order_behind => k_is)
    (case a_sign_of => k_is)
    (case l_sign_of => k_is)
    (case q_sign_of => k_is)
    (case k_sign_of => k_is)
    (case a_windings => k_is)
    (case l_windings => k_is)
    (case q_windings => k_is)
    (case k_windings => k_is)
    (case a_sum_in => k_is)
    (case l_sum_in => k_is)
    (case q_sum_in => k_is)
    (case k_sum_in => k_is)
    (case a_sum_of => k_is)
    (case l_sum_of => k_is)
    (case q_sum_of => k_is)
    (case k_sum_of => k_is)
    (case a_back_in => k_is)
    (case l_back_in => k_is)
    (case q_back_in => k_is)
    (case k_back_in => k_is)
    (case a_back_of => k_is)
    (case l_back_of => k_is)
    (case q_back_of => k_is)
    (case k_back_of => k_is)
    (case a_law_order => k_is)
    (case l_law_order => k_is)
    (case q_law_order => k_is)
    (case k_law_order => k_is)
    (case a_law_sign => k_is)
    (case l_law_sign => k_is)
    (case q_law_sign => k_is)
    (case k_law_sign => k_is)
    (case a_law_windings => k_is)
    (case l_law_windings => k_is)
    (case q_law_windings => k_is)
    (case k_law_windings => k_is)
    (case a_law_back => k_is)
    (case l_law_back => k_is)
    (case q_law_back => k_is)
    (case k_law_back => k_is)
    (case a_law_sort => k_is)
    (case l_law_sort => k_is)
    (case q_law_sort => k_is)
    (case k_law_sort => k_is)
    (case a_law_like => k_is)
    (case l_law_like => k_is)
    (case q_law_like => k_is)
    (case k_law_like => k_is)
    (case a_law_right => k_is)
    (case l_law_right => k_is)
    (case q_law_right => k_is)
    (case k_law_right => k_is)
    (case a_law_is_word => k_is)
    (case l_law_is_word => k_is)
    (case q_law_is_word => k_is)
    (case k_law_is_word => k_is)
    (case a_law_great_right => k_is)
    (case l_law_great_right => k_is)
    (case q_law_great_right => k_is)
    (case k_law_great_right => k_is)
    (case a_law_written_right => k_is)
    (case l_law_written_right => k_is)
    (case q_law_written_right => k_is)
    (case k_law_written_right => k_is)
    (case b_abs => k_is)
    (case b_all => k_is)
    (case b_bool => k_is)
    (case b_dict => k_is)
    (case b_int => k_is)
    (case b_isinstance => k_is)
    (case b_len => k_is)
    (case b_list => k_is)
    (case b_max => k_is)
    (case b_min => k_is)
    (case b_range => k_is)
    (case b_sorted => k_is)
    (case b_str => k_is)
    (case b_sum => k_is)
    (case b_tuple => k_is)
    (case b_zip => k_is)
    (case c_LETTERS => k_is)
    (case c_LINES => k_is)
    (case xa_InvalidNumber => k_is)
    (case xk_InvalidNumber => k_is)
    (case xb_InvalidNumber => k_is)
    (case xt_InvalidNumber => k_is)
    (case xa_InvalidWord => k_is)
    (case xk_InvalidWord => k_is)
    (case xb_InvalidWord => k_is)
    (case xt_InvalidWord => k_is)
    (case xe_InvalidNumber => k_exc)
    (case xe_InvalidWord => k_exc)
#print axioms PySem.Challenge.cw_tautlines_k34_whole_crossings_holds

