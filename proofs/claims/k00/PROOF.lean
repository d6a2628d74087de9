import PyProof.Rows.All
import Wide.All
import OpenK.AllK
import Wide.FinOn
import HandS.TupMul
import HandS.ForMost
import HandS.WordsExc
import HandS.Exc
import HandS.ExcInit
import HandS.Wide
import HandS.WideBits
import HandS.IsInst
import PyProof.ReprRoads
import PyProof.ReprLen
import HandS.Flow
import HandS.ForExc
import HandS.ExcCtx
import HandS.EndBits
import PyProof.NoPylong
import PyProof.Rows.Digits
import HandS.Rev
import KE.KDictList
import KE.GoesZip
import KE.GoesMore
import HandS.More
import HandS.Conv
import HandS.Style
import HandS.ExcField
import HandS.ClsMeth
import HandS.TryMany
import HandS.ExcIs
import HandS.Dict
import PyProof.Rows.StrOr
import HandS.TupAny
import PyProof.Rows.RuleB_pow
import PyProof.IsRules
import HandS.NoneIn
import PyProof.InstEq
import KE.KTryMore
import HandS.HotCalls
import OpenK.KMake
import KE.KIsAll
import PySem.Challenge.RW_onewaybits_k00_errors
set_option Elab.async false
set_option linter.all false
set_option maxRecDepth 100000
set_option maxHeartbeats 4000000
/-! D: tuple * 1 is the tuple. -/
namespace L2
open PySem PySem.Spec PyProof.Rows
theorem tuple_mul1 (l : Addr) (items : Array Value) (n : Nat) (dd : Option Addr) (sl : Array (Option Value)) (u : Tok) :
    Meets (Builtin.«tuple.__mul__» ⟨[.ref l, .int 1 u], []⟩) (fun _ R s => s.heap.get? l = some { cls := .type "tuple", dict := dd, data := .seq items n, slots := sl } ∧ R (.ok (.ret (Value.ref l))) s) :=
  .of_wp fun prog w A R s h => by
    obtain ⟨hp, g, d, tk, os⟩ := s
    obtain ⟨hl, h⟩ := h
    have f1 := AutoSeq1.idx_int
    have c1 : (items.isEmpty || (1 : Int) == 1) = true := by simp
    wp_walk using wpAny_loadPart' hl
    exact ⟨_, rfl, h⟩
theorem op_repT1 {X : Cx} : OpR X (binaryOp .Mult) (fun x y H Q => ∃ l xs, x = .ref l ∧ y = .int 1 ∧ SqT X.K H l xs ∧ Q (.ref l) H) := by
  intro pins s σ H x y v u Q I rx ry h
  obtain ⟨l, xs, rfl, rfl, hT, q⟩ := h
  cases rx
  obtain ⟨t, rfl⟩ := ry
  obtain ⟨its, r, ⟨⟨cls, dd, data, sl⟩, ho, hc, n, hd⟩, hs⟩ := I.tuple hT
  simp only at hc hd
  subst hc hd
  exact wpAny_binaryOp_repeat_ref (T := "tuple") (U := "int") (by decide) ⟨_, ho, rfl⟩ (fun s' => typeIs_int s' 1 t) noFill_tuple_mul F.fills_int_mul F.slot_int_rmul repeat_tuple F.slot_int_index.lookup
    (call_meets F.slot_int_rmul (typeIs_int s 1 t) F.entry_int_rmul (F.args_int_rmul_2 _ _) (int_rmul_tuple 1 t l its.toArray n dd sl)
      ⟨ho, rfl, ⟨_, ho, rfl⟩, call_meets F.slot_tuple_mul ⟨_, ho, rfl⟩ F.entry_tuple_mul (F.args_tuple_mul_2 _ _) (tuple_mul1 l its.toArray n dd sl t) ⟨ho, ⟨.ref l, H, I.tok _, rfl, q⟩⟩⟩)
end L2
/-! D: a small deterministic semantics over the hand layer: values W (tuples by value), a heap of numbered objects, results. -/
namespace D
open PySem PySem.Spec PyProof.Rows L2

/-! ### values, objects, results -/
/-- where a class of the text stands -/
def cAt (K : PySem.W.Frag) (x : Str) : Addr := match PySem.W.nsIn K mainGlobals x with
  | some (some (.ref a)) => a
  | _ => 0
inductive W where
  | non | bl (b : Bool) | int (i : Int) | str (x : Str) | tup (xs : List W) | fl (xs : List W) | ref (i : Nat) | gl (x : Str) | ty (n : String) | exv (C : Str) (ns : List Str) (xs : List W)
inductive O where
  | lst (xs : List W) | ins (C : Str) (fs : List (Str × W)) | dK (kvs : List (Key × W)) | dT (kvs : List (List Key × W))
abbrev Sl := List (Option W)
abbrev HH := List O
inductive Rs (α : Type) where
  | ok (a : α) (h : HH) | exc (C : Str) (fs : List (Str × W)) (s : Sl) (h : HH) | bad
def Rs.bind {α β : Type} : Rs α → (α → HH → Rs β) → Rs β
  | .ok a h, f => f a h
  | .exc C fs s h, _ => .exc C fs s h
  | .bad, _ => .bad
@[simp] theorem Rs.bind_ok {α β : Type} (a : α) (h : HH) (f : α → HH → Rs β) : (Rs.ok a h).bind f = f a h := rfl
@[simp] theorem Rs.bind_bad {α β : Type} (f : α → HH → Rs β) : (Rs.bad : Rs α).bind f = .bad := rfl
@[simp] theorem Rs.bind_exc {α β : Type} (C fs s h) (f : α → HH → Rs β) : (Rs.exc C fs s h : Rs α).bind f = .exc C fs s h := rfl

/-! ### what a value stands for -/
/-- a list that is never written -/
def FL (K : PySem.W.Frag) (H : Hp) (a : Addr) (ys : List V) : Prop := (∃ o, H a = some (.frz o (.lst ys))) ∨
    ∃ (o : Obj) (its : Array Value) (n : Nat), K.lookup a = some o ∧ o.cls = .type "list" ∧ o.dict = none ∧ o.data = .seq its n ∧ its.size ≤ sizeLine ∧ Vals ys its.toList
/-- a tuple -/
def TQ (K : PySem.W.Frag) (H : Hp) (a : Addr) (ys : List V) : Prop := H a = some (.tup ys) ∨
    ∃ (o : Obj) (its : Array Value) (n : Nat), K.lookup a = some o ∧ o.cls = .type "tuple" ∧ o.data = .seq its n ∧ its.size ≤ sizeLine ∧ Vals ys its.toList
theorem TQ.sq {K : PySem.W.Frag} {H : Hp} {a : Addr} {ys : List V} (h : TQ K H a ys) : SqT K H a ys := by
  rcases h with h | h
  · exact .inl (.inl h)
  · exact .inr h
/-- an exception of an own class that was never raised, without attributes or with one -/
def XO (K : PySem.W.Frag) (H : Hp) (a : Addr) (C : Str) (ns : List Str) (vs : List V) : Prop := (ns = [] ∧ vs = [] ∧ H a = some (exo a (cAt K C) none)) ∨
    ∃ (d : Addr) (f : Str) (v : V), ns = [f] ∧ vs = [v] ∧ H a = some (exo a (cAt K C) (some d)) ∧ H d = some (exd d [(f, v)])
section
variable (K : PySem.W.Frag)
mutual
inductive RW (ι : List Addr) (H : Hp) : W → V → Prop
  | non : RW ι H .non .non
  | bl (b : Bool) : RW ι H (.bl b) (.bl b)
  | int (i : Int) : RW ι H (.int i) (.int i)
  | str (x : Str) : RW ι H (.str x) (.str x)
  | ty (n : String) : RW ι H (.ty n) (.ty n)
  | gl (x : Str) : RW ι H (.gl x) (.ref (cAt K x))
  | ref {i : Nat} {a : Addr} : ι[i]? = some a → RW ι H (.ref i) (.ref a)
  | tup {a : Addr} {xs : List W} {ys : List V} : TQ K H a ys → RWs ι H xs ys → RW ι H (.tup xs) (.ref a)
  | fl {a : Addr} {xs : List W} {ys : List V} : FL K H a ys → RWs ι H xs ys → RW ι H (.fl xs) (.ref a)
  | exv {a : Addr} {C : Str} {ns : List Str} {xs : List W} {ys : List V} : XO K H a C ns ys → RWs ι H xs ys → RW ι H (.exv C ns xs) (.ref a)
inductive RWs (ι : List Addr) (H : Hp) : List W → List V → Prop
  | nil : RWs ι H [] []
  | cons {w : W} {v : V} {ws : List W} {vs : List V} : RW ι H w v → RWs ι H ws vs → RWs ι H (w :: ws) (v :: vs)
end
end
/-- what stands for ever -/
def Imm : HO → Prop
  | .tup _ => True
  | .frz _ _ => True
  | .xd _ => True
  | .ext _ => True
  | _ => False
/-- from ι, H to ι', H': what is new in ι' was nothing in H; what stands outside ι, and what stands for ever, stays -/
def Grow (ι ι' : List Addr) (H H' : Hp) : Prop := (∀ a, a ∈ ι' → a ∉ ι → H a = none) ∧ ∀ a u, H a = some u → (a ∉ ι ∨ Imm u) → H' a = some u
theorem Grow.refl {ι : List Addr} {H : Hp} : Grow ι ι H H := ⟨fun _ h n => absurd h n, fun _ _ e _ => e⟩
theorem Grow.trans {ι ι1 ι2 : List Addr} {H H1 H2 : Hp} (a : Grow ι ι1 H H1) (b : Grow ι1 ι2 H1 H2) : Grow ι ι2 H H2 := by
  refine ⟨fun x hx nx => ?_, fun x u e i => ?_⟩
  · by_cases h1 : x ∈ ι1
    · exact a.1 x h1 nx
    · have q := b.1 x hx h1
      cases e : H x with
      | none => rfl
      | some u => rw [a.2 x u e (.inl nx)] at q; cases q
  · refine b.2 x u (a.2 x u e i) ?_
    rcases i with i | i
    · left; intro h1
      have := a.1 x h1 i
      rw [e] at this; cases this
    · exact .inr i
theorem Grow.new {ι : List Addr} {H : Hp} {p : Addr} {o : HO} (h : H p = none) : Grow ι (ι ++ [p]) H (upd H p o) := by
  refine ⟨fun a ha na => ?_, fun a u e i => ?_⟩
  · rcases List.mem_append.mp ha with h1 | h1
    · exact absurd h1 na
    · have : a = p := by simpa using h1
      rw [this]; exact h
  · rw [upd_ne (ne_of_none e h)]; exact e
theorem Grow.side {ι : List Addr} {H : Hp} {p : Addr} {o : HO} (h : H p = none) : Grow ι ι H (upd H p o) := by
  refine ⟨fun _ h n => absurd h n, fun a u e i => ?_⟩
  rw [upd_ne (ne_of_none e h)]; exact e
theorem Grow.put {ι : List Addr} {H : Hp} {p : Addr} {o o' : HO} (hm : p ∈ ι) (h : H p = some o) (n : ¬ Imm o) : Grow ι ι H (upd H p o') := by
  refine ⟨fun _ h n => absurd h n, fun a u e i => ?_⟩
  rw [upd_ne]; exact e
  rintro rfl
  rcases i with i | i
  · exact i hm
  · rw [h] at e; cases e; exact n i
section
variable {K : PySem.W.Frag} {ι ι' : List Addr} {H H' : Hp}
theorem TQ.mono {a : Addr} {ys : List V} (s : TQ K H a ys) (g : Grow ι ι' H H') : TQ K H' a ys := by
  rcases s with s | s
  · exact .inl (g.2 _ _ s (.inr trivial))
  · exact .inr s
theorem FL.sq {a : Addr} {ys : List V} (h : FL K H a ys) : SqL K H a ys := by
  rcases h with ⟨o, h⟩ | h
  · exact .inl (.inr ⟨o, h⟩)
  · exact .inr h
theorem FL.mono {a : Addr} {ys : List V} (h : FL K H a ys) (g : Grow ι ι' H H') : FL K H' a ys := by
  rcases h with ⟨o, h⟩ | h
  · exact .inl ⟨o, g.2 _ _ h (.inr trivial)⟩
  · exact .inr h
theorem XO.of {a : Addr} {C : Str} {ns : List Str} {vs : List V} (x : XO K H a C ns vs) (g : ∀ a u, H a = some u → Imm u → H' a = some u) : XO K H' a C ns vs := by
  rcases x with ⟨e1, e2, e3⟩ | ⟨d, f, v, e1, e2, e4, e5⟩
  · exact .inl ⟨e1, e2, g _ _ e3 trivial⟩
  · exact .inr ⟨d, f, v, e1, e2, g _ _ e4 trivial, g _ _ e5 trivial⟩
theorem XO.mono {a : Addr} {C : Str} {ns : List Str} {vs : List V} (x : XO K H a C ns vs) (g : Grow ι ι' H H') : XO K H' a C ns vs := x.of fun a u e i => g.2 a u e (.inr i)
theorem getElem?_pre {α : Type} {l l' : List α} (p : l <+: l') {i : Nat} {a : α} (h : l[i]? = some a) : l'[i]? = some a := by
  obtain ⟨t, rfl⟩ := p
  have hi := (List.getElem?_eq_some_iff.mp h).1
  rw [List.getElem?_append_left hi]; exact h
mutual
theorem RW.mono (p : ι <+: ι') (g : Grow ι ι' H H') : ∀ {w : W} {v : V}, RW K ι H w v → RW K ι' H' w v
  | _, _, .non => .non
  | _, _, .bl b => .bl b
  | _, _, .int b => .int b
  | _, _, .str b => .str b
  | _, _, .ty b => .ty b
  | _, _, .gl b => .gl b
  | _, _, .ref h => .ref (getElem?_pre p h)
  | _, _, .tup s r => .tup (s.mono g) (RWs.mono p g r)
  | _, _, .fl s r => .fl (FL.mono s g) (RWs.mono p g r)
  | _, _, .exv s r => .exv (s.mono g) (RWs.mono p g r)
theorem RWs.mono (p : ι <+: ι') (g : Grow ι ι' H H') : ∀ {ws : List W} {vs : List V}, RWs K ι H ws vs → RWs K ι' H' ws vs
  | _, _, .nil => .nil
  | _, _, .cons r t => .cons (RW.mono p g r) (RWs.mono p g t)
end
theorem RWs.length : ∀ {ws : List W} {vs : List V}, RWs K ι H ws vs → ws.length = vs.length
  | _, _, .nil => rfl
  | _, _, .cons _ t => by simp [RWs.length t]
theorem RWs.get : ∀ {ws : List W} {vs : List V} {i : Nat} {w : W}, RWs K ι H ws vs → ws[i]? = some w → ∃ v, vs[i]? = some v ∧ RW K ι H w v
  | _, _, _, _, .nil, e => by simp at e
  | _, _, 0, _, .cons r _, e => by simp at e; subst e; exact ⟨_, rfl, r⟩
  | _, _, i + 1, w, .cons _ t, e => by
    obtain ⟨v, h1, h2⟩ := RWs.get (i := i) (w := w) t (by simpa using e)
    exact ⟨v, by simpa using h1, h2⟩
theorem RWs.get' : ∀ {ws : List W} {vs : List V} {i : Nat} {v : V}, RWs K ι H ws vs → vs[i]? = some v → ∃ w, ws[i]? = some w ∧ RW K ι H w v
  | _, _, _, _, .nil, e => by simp at e
  | _, _, 0, _, .cons r _, e => by simp at e; subst e; exact ⟨_, rfl, r⟩
  | _, _, i + 1, v, .cons _ t, e => by
    obtain ⟨w, h1, h2⟩ := RWs.get' (i := i) (v := v) t (by simpa using e)
    exact ⟨w, by simpa using h1, h2⟩
theorem RWs.append : ∀ {xs zs : List W} {ys us : List V}, RWs K ι H xs ys → RWs K ι H zs us → RWs K ι H (xs ++ zs) (ys ++ us)
  | _, _, _, _, .nil, s => s
  | _, _, _, _, .cons r t, s => .cons r (RWs.append t s)
theorem RWs.take : ∀ {xs : List W} {ys : List V} (n : Nat), RWs K ι H xs ys → RWs K ι H (xs.take n) (ys.take n)
  | _, _, 0, _ => .nil
  | _, _, _ + 1, .nil => .nil
  | _, _, n + 1, .cons r t => .cons r (RWs.take n t)
theorem RWs.drop : ∀ {xs : List W} {ys : List V} (n : Nat), RWs K ι H xs ys → RWs K ι H (xs.drop n) (ys.drop n)
  | _, _, 0, r => r
  | _, _, _ + 1, .nil => .nil
  | _, _, n + 1, .cons _ t => RWs.drop n t
theorem RWs.set {w : W} {v : V} (r : RW K ι H w v) : ∀ {xs : List W} {ys : List V} (i : Nat), RWs K ι H xs ys → RWs K ι H (xs.set i w) (ys.set i v)
  | _, _, _, .nil => .nil
  | _, _, 0, .cons _ t => .cons r t
  | _, _, i + 1, .cons q t => .cons q (RWs.set r i t)
theorem RWs.reverse {xs : List W} {ys : List V} (r : RWs K ι H xs ys) : RWs K ι H xs.reverse ys.reverse := by
  have aux : ∀ {xs : List W} {ys : List V} {as : List W} {bs : List V}, RWs K ι H xs ys → RWs K ι H as bs → RWs K ι H (xs.reverse ++ as) (ys.reverse ++ bs) := by
    intro xs
    induction xs with
    | nil => intro ys as bs r s; cases r; exact s
    | cons x xs ih =>
      intro ys as bs r s
      cases r with
      | cons r t =>
        rw [List.reverse_cons, List.reverse_cons, List.append_assoc, List.append_assoc]
        exact ih t (.cons r s)
  have q := aux r .nil
  simpa using q

/-! ### the heap -/
abbrev RF (K : PySem.W.Frag) (ι : List Addr) (H : Hp) : List (Str × W) → List (Str × V) → Prop := Paired fun p q => p.1 = q.1 ∧ RW K ι H p.2 q.2
abbrev RK {κ : Type} (K : PySem.W.Frag) (ι : List Addr) (H : Hp) : List (κ × W) → List (κ × V) → Prop := Paired fun p q => p.1 = q.1 ∧ RW K ι H p.2 q.2
theorem RF.mono (p : ι <+: ι') (g : Grow ι ι' H H') {fs : List (Str × W)} {gs : List (Str × V)} (r : RF K ι H fs gs) : RF K ι' H' fs gs := Paired.mapP r fun _ _ z => ⟨z.1, z.2.mono p g⟩
theorem RK.mono {κ : Type} (p : ι <+: ι') (g : Grow ι ι' H H') {fs : List (κ × W)} {gs : List (κ × V)} (r : RK K ι H fs gs) : RK K ι' H' fs gs := Paired.mapP r fun _ _ z => ⟨z.1, z.2.mono p g⟩
def RO (K : PySem.W.Frag) (ι : List Addr) (H : Hp) : O → Addr → Prop
  | .lst xs, a => ∃ ys, H a = some (.lst ys) ∧ RWs K ι H xs ys
  | .ins C fs, a => ∃ dx gs, H a = some (.ins (cAt K C) dx gs) ∧ RF K ι H fs gs
  | .dK kvs, a => ∃ gs, H a = some (.dK gs) ∧ RK K ι H kvs gs
  | .dT kvs, a => ∃ gs, H a = some (.dT gs) ∧ RK K ι H kvs gs
theorem RO.mono {o : O} {a : Addr} (r : RO K ι H o a) (p : ι <+: ι') (g : Grow ι ι' H H') (k : H' a = H a) : RO K ι' H' o a := by
  cases o with
  | lst xs => obtain ⟨ys, e, r⟩ := r; exact ⟨ys, by rw [k, e], r.mono p g⟩
  | ins C fs => obtain ⟨dx, gs, e, r⟩ := r; exact ⟨dx, gs, by rw [k, e], RF.mono p g r⟩
  | dK kvs => obtain ⟨gs, e, r⟩ := r; exact ⟨gs, by rw [k, e], RK.mono p g r⟩
  | dT kvs => obtain ⟨gs, e, r⟩ := r; exact ⟨gs, by rw [k, e], RK.mono p g r⟩
structure Sim (K : PySem.W.Frag) (ι : List Addr) (h : HH) (H : Hp) : Prop where
  len : ι.length = h.length
  nd : ι.Nodup
  ob : ∀ (i : Nat) (a : Addr) (o : O), ι[i]? = some a → h[i]? = some o → RO K ι H o a
theorem Sim.at {h : HH} (S : Sim K ι h H) {i : Nat} {o : O} (e : h[i]? = some o) : ∃ a, ι[i]? = some a ∧ RO K ι H o a := by
  have hi := (List.getElem?_eq_some_iff.mp e).1
  have hi2 : i < ι.length := by rw [S.len]; exact hi
  exact ⟨ι[i], List.getElem?_eq_getElem hi2, S.ob i _ o (List.getElem?_eq_getElem hi2) e⟩
theorem RO.some {o : O} {a : Addr} (r : RO K ι H o a) : ∃ u, H a = some u ∧ ¬ Imm u := by
  cases o with
  | lst xs => obtain ⟨ys, e, _⟩ := r; exact ⟨_, e, id⟩
  | ins C fs => obtain ⟨_, ys, e, _⟩ := r; exact ⟨_, e, id⟩
  | dK C => obtain ⟨ys, e, _⟩ := r; exact ⟨_, e, id⟩
  | dT C => obtain ⟨ys, e, _⟩ := r; exact ⟨_, e, id⟩
theorem Sim.there {h : HH} (S : Sim K ι h H) {i : Nat} {a : Addr} (e : ι[i]? = some a) : ∃ u, H a = some u ∧ ¬ Imm u := by
  have hi := (List.getElem?_eq_some_iff.mp e).1
  have hi2 : i < h.length := by rw [← S.len]; exact hi
  exact (S.ob i a h[i] e (List.getElem?_eq_getElem hi2)).some
theorem Sim.ne {h : HH} (S : Sim K ι h H) {i : Nat} {a p : Addr} (e : ι[i]? = some a) (hp : H p = none) : a ≠ p := by
  obtain ⟨u, hu, _⟩ := S.there e
  exact ne_of_none hu hp
theorem pre_snoc {p : Addr} : ι <+: ι ++ [p] := ⟨[p], rfl⟩
theorem getElem?_last {α : Type} {l : List α} {x : α} {n : Nat} (h : l.length = n) : (l ++ [x])[n]? = some x := by
  rw [List.getElem?_append_right (by omega), h]; simp
/-- a new object -/
theorem Sim.new {h : HH} (S : Sim K ι h H) {p : Addr} {o : O} {u : HO} (hp : H p = none) (r : RO K (ι ++ [p]) (upd H p u) o p) : Sim K (ι ++ [p]) (h ++ [o]) (upd H p u) where
  len := by simp [S.len]
  nd := by
    rw [List.nodup_append]
    refine ⟨S.nd, by simp, fun a ha b hb => ?_⟩
    have e : b = p := by simpa using hb
    subst e
    obtain ⟨i, hi⟩ := List.mem_iff_getElem?.mp ha
    exact S.ne hi hp
  ob := fun i a o' e1 e2 => by
    by_cases hi : i < ι.length
    · rw [List.getElem?_append_left hi] at e1
      rw [List.getElem?_append_left (by rw [← S.len]; exact hi)] at e2
      exact (S.ob i a o' e1 e2).mono pre_snoc (Grow.new hp) (by rw [upd_ne (S.ne e1 hp)])
    · have hl := (List.getElem?_eq_some_iff.mp e1).1
      have : i = ι.length := by simp at hl; omega
      subst this
      rw [getElem?_last rfl] at e1
      rw [getElem?_last S.len.symm] at e2
      cases e1; cases e2
      exact r
theorem nodup_at {ι : List Addr} (n : ι.Nodup) {i j : Nat} {a : Addr} (x : ι[i]? = some a) (y : ι[j]? = some a) : i = j := by
  obtain ⟨h1, e1⟩ := List.getElem?_eq_some_iff.mp x
  obtain ⟨h2, e2⟩ := List.getElem?_eq_some_iff.mp y
  exact (List.getElem_inj n).mp (e1.trans e2.symm)
/-- an object is written -/
theorem Sim.put {h : HH} (S : Sim K ι h H) {i : Nat} {a : Addr} {o : O} {u : HO} (e : ι[i]? = some a) (r : RO K ι (upd H a u) o a) : Sim K ι (h.set i o) (upd H a u) := by
  obtain ⟨u0, hu, ni⟩ := S.there e
  refine ⟨by simp [S.len], S.nd, fun j b o' e1 e2 => ?_⟩
  by_cases hj : j = i
  · subst hj
    rw [e] at e1; cases e1
    have hi := (List.getElem?_eq_some_iff.mp e).1
    rw [List.getElem?_set_self (by rw [← S.len]; exact hi)] at e2
    cases e2; exact r
  · rw [List.getElem?_set_ne (Ne.symm hj)] at e2
    have nb : b ≠ a := by rintro rfl; exact hj (nodup_at S.nd e1 e)
    exact (S.ob j b o' e1 e2).mono (List.prefix_refl _) (Grow.put (List.mem_of_getElem? e) hu ni) (by rw [upd_ne nb])
end
end D
/-! D: the judgements. -/
namespace D
open PySem PySem.Spec PyProof.Rows L2
abbrev St := L2.St

/-! ### what holds behind a result -/
section
variable {K : PySem.W.Frag} {α β : Type}
abbrev OkK (α : Type) := List Addr → HH → Hp → α → Prop
abbrev ExK := List Addr → Hp → Str → List (Str × W) → Sl → Prop
def After (K : PySem.W.Frag) (ι : List Addr) (H : Hp) (Ok : OkK α) (Ex : ExK) : Rs α → Prop
  | .ok a h' => ∀ ι' H', ι <+: ι' → Grow ι ι' H H' → Sim K ι' h' H' → Ok ι' h' H' a
  | .exc C fs s h' => ∀ ι' H', ι <+: ι' → Grow ι ι' H H' → Sim K ι' h' H' → Ex ι' H' C fs s
  | .bad => False
variable {ι ι1 : List Addr} {H H1 : Hp} {Ok Ok' : OkK α} {Ex Ex' : ExK}
theorem After.le {r : Rs α} (a : After K ι H Ok Ex r) (p : ι <+: ι1) (g : Grow ι ι1 H H1) : After K ι1 H1 Ok Ex r := by
  cases r with
  | ok x h => exact fun ι' H' p' g' S => a ι' H' (p.trans p') (g.trans g') S
  | exc C fs s h => exact fun ι' H' p' g' S => a ι' H' (p.trans p') (g.trans g') S
  | bad => exact a
theorem After.imp {r : Rs α} (a : After K ι H Ok Ex r) (h1 : ∀ ι' h' H' x, ι <+: ι' → Grow ι ι' H H' → Sim K ι' h' H' → Ok ι' h' H' x → Ok' ι' h' H' x)
    (h2 : ∀ ι' H' C fs s, ι <+: ι' → Grow ι ι' H H' → Ex ι' H' C fs s → Ex' ι' H' C fs s) : After K ι H Ok' Ex' r := by
  cases r with
  | ok x h => exact fun ι' H' p' g' S => h1 _ _ _ _ p' g' S (a ι' H' p' g' S)
  | exc C fs s h => exact fun ι' H' p' g' S => h2 _ _ _ _ _ p' g' (a ι' H' p' g' S)
  | bad => exact a
theorem After.bind {r : Rs α} {f : α → HH → Rs β} {Ok : OkK β} (a : After K ι H Ok Ex (r.bind f)) :
    After K ι H (fun ι1 h1 H1 x => After K ι1 H1 Ok Ex (f x h1)) Ex r := by
  cases r with
  | ok x h => exact fun ι' H' p' g' S => a.le p' g'
  | exc C fs s h => exact a
  | bad => exact a
theorem After.now {x : α} {h : HH} (a : After K ι H Ok Ex (.ok x h)) (S : Sim K ι h H) : Ok ι h H x := a ι H (List.prefix_refl _) Grow.refl S
end

/-- where an exception's attributes stand: a dict, or nowhere -/
def XD (H : Hp) : Option Addr → List (Str × V) → Prop
  | some d, gs => H d = some (.xd gs)
  | none, gs => gs = []
theorem XD.mono {ι ι' : List Addr} {H H' : Hp} {gs : List (Str × V)} : ∀ {d : Option Addr}, XD H d gs → Grow ι ι' H H' → XD H' d gs
  | some _, h, g => g.2 _ _ h (.inr trivial)
  | none, h, _ => h
/-! ### slots -/
/-- the exception that a suite holds: its name's slot, where it and its dict stand, its fields -/
structure EX where
  i : Nat
  a : Addr
  d : Option Addr
  C : Str
  fs : List (Str × W)
  gs : List (Str × V)
/-- what is wished of an exception, and the one that is held -/
structure WJ where
  W : WX
  J : Option EX
def HasX (K : PySem.W.Frag) (ι : List Addr) (H : Hp) (s : Sl) (σ : St) (x : EX) : Prop := (s[x.i]? = some none → σ[x.i]? = some (some (.ref x.a))) ∧ XD H x.d x.gs ∧ RF K ι H x.fs x.gs
def RSl (K : PySem.W.Frag) (J : Option EX) (ι : List Addr) (H : Hp) (s : Sl) (σ : St) : Prop :=
  s.length = σ.length ∧ (∀ (i : Nat) (w : W), s[i]? = some (some w) → ∃ v, σ[i]? = some (some v) ∧ RW K ι H w v) ∧ ∀ x, J = some x → HasX K ι H s σ x
section
variable {K : PySem.W.Frag} {J : Option EX} {ι ι' : List Addr} {H H' : Hp} {s : Sl} {σ : St}
theorem RSl.mono (r : RSl K J ι H s σ) (p : ι <+: ι') (g : Grow ι ι' H H') : RSl K J ι' H' s σ :=
  ⟨r.1, fun i w e => let ⟨v, e1, q⟩ := r.2.1 i w e; ⟨v, e1, q.mono p g⟩, fun x e => let ⟨a, b, c⟩ := r.2.2 x e; ⟨a, b.mono g, RF.mono p g c⟩⟩
theorem RSl.set (r : RSl K J ι H s σ) {w : W} {v : V} (q : RW K ι H w v) (i : Nat) : RSl K J ι H (s.set i (some w)) (σ.set i (some v)) := by
  refine ⟨by simp [r.1], fun j u e => ?_, fun x ex => ?_⟩
  · by_cases hj : i = j
    · subst hj
      have hl : i < s.length := by
        have := (List.getElem?_eq_some_iff.mp e).1; simpa using this
      rw [List.getElem?_set_self hl] at e
      cases e
      exact ⟨v, by rw [List.getElem?_set_self (by rw [← r.1]; exact hl)], q⟩
    · rw [List.getElem?_set_ne hj] at e
      obtain ⟨v', e1, q'⟩ := r.2.1 j u e
      exact ⟨v', by rw [List.getElem?_set_ne hj]; exact e1, q'⟩
  · obtain ⟨a, b, c⟩ := r.2.2 x ex
    refine ⟨fun e => ?_, b, c⟩
    by_cases hj : i = x.i
    · subst hj
      have hl : x.i < s.length := by
        have := (List.getElem?_eq_some_iff.mp e).1; simpa using this
      rw [List.getElem?_set_self hl] at e
      cases e
    · rw [List.getElem?_set_ne hj] at e ⊢
      exact a e
theorem RSl.start {ws : List W} {vs : List V} (r : RWs K ι H ws vs) (N : List Str) (hn : vs.length ≤ N.length) : RSl K none ι H (ws.map some ++ List.replicate (N.length - ws.length) none) (L2.start N vs) := by
  have hl := r.length
  have key : L2.start N vs = vs.map some ++ List.replicate (N.length - vs.length) none := by
    first | rfl | (unfold L2.start; rfl)
  rw [key]
  refine ⟨by simp [hl], fun i w e => ?_, fun x e => nomatch e⟩
  by_cases hi : i < ws.length
  · rw [List.getElem?_append_left (by simpa using hi)] at e
    rw [List.getElem?_map] at e
    cases q : ws[i]? with
    | none => rw [q] at e; cases e
    | some w' =>
      rw [q] at e
      have e' : w' = w := by simpa using e
      subst e'
      obtain ⟨v, hv, rv⟩ := r.get q
      refine ⟨v, ?_, rv⟩
      rw [List.getElem?_append_left (by simp; omega), List.getElem?_map, hv]; rfl
  · rw [List.getElem?_append_right (by simpa using hi), List.getElem?_replicate] at e
    split at e <;> cases e
end

/-! ### readings -/
abbrev ME := Sl → HH → Rs W
abbrev MT := Sl → HH → Rs Bool
abbrev MA := Sl → HH → Rs (List W)
inductive Fl where
  | nx | ret (w : W) | brk | cnt
abbrev MS := Sl → HH → Rs (Fl × Sl)
def okV (K : PySem.W.Frag) (Q : VK) : OkK W := fun ι _ H w => ∀ v, RW K ι H w v → Q v H
def okT (Q : Bool → Hp → Prop) : OkK Bool := fun _ _ H b => Q b H
def okA (K : PySem.W.Frag) (Q : List V → Hp → Prop) : OkK (List W) := fun ι _ H ws => ∀ vs, RWs K ι H ws vs → Q vs H
def exE (K : PySem.W.Frag) (Wx : WJ) (σ : St) : ExK := fun ι H C fs _ => ∀ (d : Option Addr) gs, XD H d gs → RF K ι H fs gs → Wx.W (.ref (cAt K C)) d σ H
def exS (K : PySem.W.Frag) (Wx : WJ) : ExK := fun ι H C fs s => ∀ (σ : St) (d : Option Addr) gs, RSl K Wx.J ι H s σ → XD H d gs → RF K ι H fs gs → Wx.W (.ref (cAt K C)) d σ H
def exN : ExK := fun _ _ _ _ _ => False
def tD (K : PySem.W.Frag) (Wx : WJ) (m : ME) : TE := fun σ H Q => ∃ ι s h, Sim K ι h H ∧ RSl K Wx.J ι H s σ ∧ After K ι H (okV K Q) (exE K Wx σ) (m s h)
def tDT (K : PySem.W.Frag) (Wx : WJ) (m : MT) : TT := fun σ H Q => ∃ ι s h, Sim K ι h H ∧ RSl K Wx.J ι H s σ ∧ After K ι H (okT Q) (exE K Wx σ) (m s h)
def tDA (K : PySem.W.Frag) (Wx : WJ) (m : MA) : TA := fun σ H Q => ∃ ι s h, Sim K ι h H ∧ RSl K Wx.J ι H s σ ∧ After K ι H (okA K Q) (exE K Wx σ) (m s h)
def okS (K : PySem.W.Frag) (J : Option EX) (D : Ends) : OkK (Fl × Sl) := fun ι _ H r =>
  match r.1 with
  | .nx => ∀ σ, RSl K J ι H r.2 σ → D.nx σ H
  | .brk => ∀ σ, RSl K J ι H r.2 σ → D.bk σ H
  | .cnt => ∀ σ, RSl K J ι H r.2 σ → D.ct σ H
  | .ret w => ∀ v, RW K ι H w v → D.rt v H
def tDS (K : PySem.W.Frag) (Wx : WJ) (m : MS) : TS := fun D σ H => ∃ ι s h, Sim K ι h H ∧ RSl K Wx.J ι H s σ ∧ After K ι H (okS K Wx.J D) (exS K Wx) (m s h)
abbrev MG := W → Sl → HH → Rs Sl
def okG (K : PySem.W.Frag) (J : Option EX) (Q : St → Hp → Prop) : OkK Sl := fun ι _ H s => ∀ σ, RSl K J ι H s σ → Q σ H
def tDG (K : PySem.W.Frag) (J : Option EX) (m : MG) : TG := fun v σ H Q => ∃ ι s h w, Sim K ι h H ∧ RSl K J ι H s σ ∧ RW K ι H w v ∧ After K ι H (okG K J Q) exN (m w s h)

def DE (X : Cx) (Wx : WJ) (e : Expr) (m : ME) : Prop := PE X e (tD X.K Wx m)
def DT (X : Cx) (Wx : WJ) (e : Expr) (m : MT) : Prop := PT X e (tDT X.K Wx m)
def DA (X : Cx) (Wx : WJ) (es : List Expr) (m : MA) : Prop := PA X es (tDA X.K Wx m)
def DS (X : Cx) (Wx : WJ) (st : Stmt) (m : MS) : Prop := PS X st (tDS X.K Wx m)
def DSs (X : Cx) (Wx : WJ) (st : List Stmt) (m : MS) : Prop := PSs X st (tDS X.K Wx m)
def DG (X : Cx) (J : Option EX) (tg : Expr) (m : MG) : Prop := PG X tg (tDG X.K J m)

section
variable {X : Cx}
theorem _root_.L2.PE.imp {e : Expr} {t t' : TE} (p : PE X e t) (h : ∀ σ H Q, t' σ H Q → t σ H Q) : PE X e t' := ⟨fun pins s σ H Q I z => p.run pins s σ H Q I (h _ _ _ z)⟩
theorem _root_.L2.PT.imp {e : Expr} {t t' : TT} (p : PT X e t) (h : ∀ σ H Q, t' σ H Q → t σ H Q) : PT X e t' := ⟨fun pins s σ H Q I z => p.run pins s σ H Q I (h _ _ _ z)⟩
theorem _root_.L2.PW.imp {e : Expr} {t t' : TT} (p : PW X e t) (h : ∀ σ H Q, t' σ H Q → t σ H Q) : PW X e t' := ⟨fun wh pins s σ H Q I z => p.run wh pins s σ H Q I (h _ _ _ z)⟩
theorem _root_.L2.PA.imp {e : List Expr} {t t' : TA} (p : PA X e t) (h : ∀ σ H Q, t' σ H Q → t σ H Q) : PA X e t' := ⟨fun po pins s σ H Q I z => p.run po pins s σ H Q I (h _ _ _ z)⟩
theorem _root_.L2.PS.imp {e : Stmt} {t t' : TS} (p : PS X e t) (h : ∀ D σ H, t' D σ H → t D σ H) : PS X e t' := ⟨fun pins s σ H D I z => p.run pins s σ H D I (h _ _ _ z)⟩
theorem _root_.L2.PSs.imp {e : List Stmt} {t t' : TS} (p : PSs X e t) (h : ∀ D σ H, t' D σ H → t D σ H) : PSs X e t' := ⟨fun pins s σ H D I z => p.run pins s σ H D I (h _ _ _ z)⟩
theorem _root_.L2.PG.imp {e : Expr} {t t' : TG} (p : PG X e t) (h : ∀ v σ H Q, t' v σ H Q → t v σ H Q) : PG X e t' := ⟨fun pins s σ H v u Q I r z => p.run pins s σ H v u Q I r (h _ _ _ _ z)⟩
theorem _root_.L2.PI.imp {tg e : Expr} {t t' : TI} (p : PI X tg e t) (h : ∀ σ H R, t' σ H R → t σ H R) : PI X tg e t' := ⟨fun pins s σ H Q I z => p.run pins s σ H Q I (h _ _ _ z)⟩
end

/-! ### names and constants -/
@[simp] def mVar (i : Nat) : ME := fun s h => match s[i]? with
  | some (some w) => .ok w h
  | _ => .bad
@[simp] def mC (w : W) : ME := fun _ h => .ok w h
section
variable {X : Cx} {Wx : WJ} {pos : Pos} {a b c : Expr}
theorem de_var {i : Nat} {x : Str} (hN : X.N[i]? = some x) (hv : Vis X.env.scope x) (hd : (x == ("__debug__" : Str)) = false := by decide) (hcd : (x == ("__classdict__" : Str)) = false := by decide) :
    DE X Wx (.Name x pos) (mVar i) := (pe_var hN hv hd hcd).imp fun σ H Q ⟨ι, s, h, S, R, A⟩ => by
  unfold mVar at A
  split at A
  · rename_i w e
    obtain ⟨v, e1, r⟩ := R.2.1 i w e
    exact ⟨v, e1, A.now S v r⟩
  · exact A.elim
theorem de_const {v : V} {w : W} {e : Expr} (p : PE X e (tC v)) (r : ∀ ι H, RW X.K ι H w v) : DE X Wx e (mC w) := p.imp fun σ H Q ⟨ι, s, h, S, R, A⟩ => A.now S v (r _ _)
theorem de_int {i j} : DE X Wx (.Constant (.int i) j pos) (mC (.int i)) := de_const pe_int fun _ _ => .int i
theorem de_bl {b j} : DE X Wx (.Constant (.bool b) j pos) (mC (.bl b)) := de_const pe_bl fun _ _ => .bl b
theorem de_non {j} : DE X Wx (.Constant .none j pos) (mC .non) := de_const pe_non fun _ _ => .non
theorem de_str {x j} : DE X Wx (.Constant (.str x) j pos) (mC (.str x)) := de_const pe_str fun _ _ => .str x
/-- a module's constant -/
theorem de_glob {x : Str} {v : V} {u : Value} {w : W} (hg : Gl X x) (hm : X.mg x = some u) (r : RelV v u) (q : ∀ ι H, RW X.K ι H w v) (hd : (x == ("__debug__" : Str)) = false := by decide) : DE X Wx (.Name x pos) (mC w) :=
  de_const (pe_glob hg hm r hd) q

/-! ### operators -/
def rDop (K : PySem.W.Frag) (g : W → W → HH → Rs W) : R2 := fun x y H Q => ∃ ι h w u, Sim K ι h H ∧ RW K ι H w x ∧ RW K ι H u y ∧ After K ι H (okV K Q) exN (g w u h)
def DOp (X : Cx) (f : Value → Value → Sem Value) (g : W → W → HH → Rs W) : Prop := OpR X f (rDop X.K g)
def noX (K : PySem.W.Frag) : Rs W → Rs W
  | .exc _ _ _ _ => .bad
  | r => r
def cut {α : Type} : Rs α → Rs α
  | .ok a h => .ok a h
  | _ => .bad
@[simp] theorem cut_ok {α : Type} (a : α) (h : HH) : cut (.ok a h) = .ok a h := rfl
theorem After.cut {α : Type} {K : PySem.W.Frag} {ι : List Addr} {H : Hp} {Ok : OkK α} {Ex Ex' : ExK} {r : Rs α} (a : After K ι H Ok Ex (cut r)) : After K ι H Ok Ex' r := by
  cases r with
  | ok x h => exact a
  | exc C fs s h => exact a.elim
  | bad => exact a
@[simp] def mBin (g : W → W → HH → Rs W) (a b : ME) : ME := fun s h => (a s h).bind fun x h1 => (b s h1).bind fun y h2 => cut (g x y h2)
theorem de_op {op : Operator} {g : W → W → HH → Rs W} {ma mb : ME} (o : DOp X (binaryOp op) g) (ha : DE X Wx a ma) (hb : DE X Wx b mb) : DE X Wx (.BinOp a op b pos) (mBin g ma mb) :=
  (pe_op o ha hb).imp fun σ H Q ⟨ι, s, h, S, R, A⟩ => ⟨ι, s, h, S, R, A.bind.imp (fun ι1 h1 H1 x p1 g1 S1 A1 v rv => ⟨ι1, s, h1, S1, R.mono p1 g1,
    A1.bind.imp (fun ι2 h2 H2 y p2 g2 S2 A2 u ru => ⟨ι2, h2, x, y, S2, rv.mono p2 g2, ru, A2.cut⟩) fun _ _ _ _ _ _ _ z => z⟩) fun _ _ _ _ _ _ _ z => z⟩
/-- one place -/
def rDun (K : PySem.W.Frag) (g : W → HH → Rs W) : V → Hp → VK → Prop := fun x H Q => ∃ ι h w, Sim K ι h H ∧ RW K ι H w x ∧ After K ι H (okV K Q) exN (g w h)
@[simp] def mUn (g : W → HH → Rs W) (a : ME) : ME := fun s h => (a s h).bind fun x h1 => cut (g x h1)
theorem de_un {op : UnaryOp} {g : W → HH → Rs W} {ma : ME} (o : UnR X (unaryOp op) (rDun X.K g)) (ha : DE X Wx a ma) : DE X Wx (.UnaryOp op a pos) (mUn g ma) :=
  (pe_un o ha).imp fun σ H Q ⟨ι, s, h, S, R, A⟩ => ⟨ι, s, h, S, R, A.bind.imp (fun ι1 h1 H1 x p1 g1 S1 A1 v rv => ⟨ι1, h1, x, S1, rv, A1.cut⟩) fun _ _ _ _ _ _ _ z => z⟩
end
end D
/-! D: operators. -/
namespace D
open PySem PySem.Spec PyProof.Rows L2

/-! ### data behind a value -/
def optAll {α : Type} : List (Option α) → Option (List α)
  | [] => some []
  | none :: _ => none
  | some a :: r => match optAll r with
    | some l => some (a :: l)
    | none => none
def datW (h : HH) : Nat → W → Option PyData
  | _, .non => some .none
  | _, .bl b => some (.bool b)
  | _, .int i => some (.int i)
  | _, .str x => some (.str x)
  | n + 1, .tup xs => match optAll (xs.map (datW h n)) with
    | some ds => some (.tuple ds)
    | none => none
  | n + 1, .fl xs => match optAll (xs.map (datW h n)) with
    | some ds => some (.list ds)
    | none => none
  | n + 1, .ref i => match h[i]? with
    | some (.lst xs) => match optAll (xs.map (datW h n)) with
      | some ds => some (.list ds)
      | none => none
    | _ => none
  | _, _ => none
section
variable {K : PySem.W.Frag} {ι : List Addr} {H : Hp} {h : HH}
theorem optAll_cons {α : Type} {a : Option α} {r : List (Option α)} {l : List α} (e : optAll (a :: r) = some l) : ∃ x t, a = some x ∧ optAll r = some t ∧ l = x :: t := by
  cases a with
  | none => cases e
  | some x =>
    cases q : optAll r with
    | none => simp [optAll, q] at e
    | some t => simp [optAll, q] at e; exact ⟨x, t, rfl, rfl, e.symm⟩
theorem dat_all {n : Nat} (ih : ∀ w v d, RW K ι H w v → datW h n w = some d → Dp K H v d) : ∀ {xs : List W} {ys : List V} {ds : List PyData}, RWs K ι H xs ys → optAll (xs.map (datW h n)) = some ds → DpAll K H ys ds
  | [], _, ds, .nil, e => by cases e; exact .nil
  | x :: xs, _, ds, .cons r t, e => by
    obtain ⟨d, t', e1, e2, e3⟩ := optAll_cons e
    subst e3
    exact .cons (ih _ _ _ r e1) (dat_all ih t e2)
theorem dat_dp (S : Sim K ι h H) : ∀ (n : Nat) (w : W) (v : V) (d : PyData), RW K ι H w v → datW h n w = some d → Dp K H v d := by
  intro n
  induction n with
  | zero =>
    intro w v d r e
    cases r <;> simp [datW] at e <;> first | (subst e; constructor) | skip
  | succ n ih =>
    intro w v d r e
    cases r with
    | non => simp [datW] at e; subst e; constructor
    | bl b => simp [datW] at e; subst e; constructor
    | int b => simp [datW] at e; subst e; constructor
    | str b => simp [datW] at e; subst e; constructor
    | ty b => simp [datW] at e
    | gl b => simp [datW] at e
    | exv _ _ => simp [datW] at e
    | @ref i a ha =>
      simp only [datW] at e
      split at e
      · rename_i xs hx
        obtain ⟨b, hb, ys, hl, rs⟩ := S.at hx
        rw [ha] at hb; cases hb
        split at e
        · rename_i ds hd
          cases e
          exact .lst (SqL.of hl) (dat_all ih rs hd)
        · cases e
      · cases e
    | @tup a xs ys hs rs =>
      simp only [datW] at e
      split at e
      · rename_i ds hd
        cases e
        exact .tup hs.sq (dat_all ih rs hd)
      · cases e
    | @fl a xs ys hs rs =>
      simp only [datW] at e
      split at e
      · rename_i ds hd
        cases e
        exact .lst hs.sq (dat_all ih rs hd)
      · cases e
end
abbrev fuelD : Nat := 12
@[simp] def lim : Nat := 4000000

/-! ### rules from rules -/
section
variable {X : Cx}
theorem opr_any {f : Value → Value → Sem Value} {r' : R2} (hh : ∀ x y H Q, r' x y H Q → ∃ r, OpR X f r ∧ r x y H Q) : OpR X f r' := fun pins s σ H x y v u Q I rx ry q =>
  let ⟨_, o, z⟩ := hh x y H Q q; o pins s σ H x y v u Q I rx ry z
theorem callr_any {f : Value} {r' : List V → Hp → VK → Prop} (hh : ∀ vs H Q, r' vs H Q → ∃ r, CallR X f r ∧ r vs H Q) : CallR X f r' := fun pins s σ H xs us Q I rx q =>
  let ⟨_, o, z⟩ := hh xs H Q q; o pins s σ H xs us Q I rx z
/-- a new list, a new tuple -/
theorem new_lst {K : PySem.W.Frag} {ι : List Addr} {H : Hp} {h : HH} {xs : List W} {ys : List V} {Q : VK} (S : Sim K ι h H) (r : RWs K ι H xs ys) (A : After K ι H (okV K Q) exN (.ok (.ref h.length) (h ++ [.lst xs]))) {p : Addr} (hp : H p = none) :
    Q (.ref p) (upd H p (.lst ys)) :=
  A (ι ++ [p]) _ pre_snoc (Grow.new hp) (S.new hp ⟨ys, upd_same, r.mono pre_snoc (Grow.new hp)⟩) _ (.ref (getElem?_last S.len))
theorem Sim.keep {K : PySem.W.Frag} {ι : List Addr} {H H' : Hp} {h : HH} (S : Sim K ι h H) (g : Grow ι ι H H') (k : ∀ a, (∃ u, H a = some u) → H' a = H a) : Sim K ι h H' :=
  ⟨S.len, S.nd, fun i a o e1 e2 => (S.ob i a o e1 e2).mono (List.prefix_refl _) g (k a (let ⟨u, hu, _⟩ := S.there e1; ⟨u, hu⟩))⟩
theorem Sim.side {K : PySem.W.Frag} {ι : List Addr} {H : Hp} {h : HH} (S : Sim K ι h H) {p : Addr} {u : HO} (hp : H p = none) : Sim K ι h (upd H p u) :=
  S.keep (Grow.side hp) fun a ⟨_, hu⟩ => upd_ne (ne_of_none hu hp)
theorem new_tup {K : PySem.W.Frag} {ι : List Addr} {H : Hp} {h : HH} {xs : List W} {ys : List V} {Q : VK} (S : Sim K ι h H) (r : RWs K ι H xs ys) (A : After K ι H (okV K Q) exN (.ok (.tup xs) h)) {p : Addr} (hp : H p = none) :
    Q (.ref p) (upd H p (.tup ys)) :=
  A ι _ (List.prefix_refl _) (Grow.side hp) (S.side hp) _ (.tup (.inl upd_same) (r.mono (List.prefix_refl _) (Grow.side hp)))

/-! ### +, -, *, //, %, ** -/
def gAdd : W → W → HH → Rs W
  | .int i, .int j, h => .ok (.int (i + j)) h
  | .int i, .bl b, h => .ok (.int (i + b2i b)) h
  | .str x, .str y, h => if x.length + y.length ≤ lim then .ok (.str (x ++ y)) h else .bad
  | .ref a, .ref b, h => match h[a]?, h[b]? with
    | some (.lst xs), some (.lst ys) => if xs.length + ys.length ≤ lim then .ok (.ref h.length) (h ++ [.lst (xs ++ ys)]) else .bad
    | _, _ => .bad
  | .tup xs, .tup ys, h => if xs.length = 0 then .bad else if xs.length + ys.length ≤ lim then .ok (.tup (xs ++ ys)) h else .bad
  | _, _, _ => .bad
theorem lim_le {n : Nat} (h : n ≤ lim) : n ≤ sizeLine := Nat.le_trans h (by rw [sizeLine_eq]; decide)
theorem dop_add : DOp X (binaryOp .Add) gAdd := opr_any fun x y H Q ⟨ι, h, w, z, S, rw', rz, A⟩ => by
  unfold gAdd at A
  split at A
  · cases rw'; cases rz; exact ⟨_, op_add, _, _, rfl, rfl, A.now S _ (.int _)⟩
  · cases rw'; cases rz; exact ⟨_, op_add_ib, _, _, rfl, rfl, A.now S _ (.int _)⟩
  · cases rw'; cases rz
    split at A
    · rename_i hl; exact ⟨_, op_add_str, _, _, rfl, rfl, lim_le hl, A.now S _ (.str _)⟩
    · exact A.elim
  · cases rw' with
    | ref ea =>
    cases rz with
    | ref eb =>
    split at A
    · rename_i xs ys hx hy
      split at A
      · rename_i hl
        obtain ⟨a', e1, xs', e2, rx⟩ := S.at hx
        rw [ea] at e1; cases e1
        obtain ⟨b', e1, ys', e3, ry⟩ := S.at hy
        rw [eb] at e1; cases e1
        refine ⟨_, op_cat, _, _, _, _, rfl, rfl, e2, e3, ?_, fun p hp => new_lst S (rx.append ry) A hp⟩
        rw [← rx.length, ← ry.length]; exact lim_le hl
      · exact A.elim
    · exact A.elim
  · cases rw' with
    | tup sa ra =>
    cases rz with
    | tup sb rb =>
    split at A
    · exact A.elim
    · rename_i hne
      split at A
      · rename_i hl
        refine ⟨_, op_catT, _, _, _, _, rfl, rfl, sa.sq, sb.sq, ?_, ?_, fun e => ?_, fun _ p hp => new_tup S (ra.append rb) A hp⟩
        · rintro rfl; cases ra; exact hne rfl
        · rw [← ra.length, ← rb.length]; exact lim_le hl
        · subst e; cases rb
          rw [List.append_nil] at A
          exact A.now S _ (.tup sa ra)
      · exact A.elim
  · exact A.elim
def gSub : W → W → HH → Rs W
  | .int i, .int j, h => .ok (.int (i - j)) h
  | _, _, _ => .bad
theorem dop_sub : DOp X (binaryOp .Sub) gSub := opr_any fun x y H Q ⟨ι, h, w, z, S, rw', rz, A⟩ => by
  unfold gSub at A
  split at A
  · cases rw'; cases rz; exact ⟨_, op_sub, _, _, rfl, rfl, A.now S _ (.int _)⟩
  · exact A.elim
def mulOk (i j : Int) : Bool := decide (-(2 ^ 64) < i ∧ i < 2 ^ 64) || decide (-(2 ^ 64) < j ∧ j < 2 ^ 64) || decide (i.natAbs.log2 + j.natAbs.log2 < 1000000)
def gMul : W → W → HH → Rs W
  | .int i, .int j, h => if mulOk i j = true then .ok (.int (i * j)) h else .bad
  | .ref a, .int k, h => match h[a]? with
    | some (.lst xs) => if -(2 ^ 63) ≤ k ∧ k < 2 ^ 63 ∧ xs.length * k.toNat ≤ lim then .ok (.ref h.length) (h ++ [.lst (List.replicate k.toNat xs).flatten]) else .bad
    | _ => .bad
  | .tup xs, .int k, h => if k = 1 then .ok (.tup xs) h else if xs.length ≠ 0 ∧ 2 ≤ k ∧ k ≤ 1000 ∧ xs.length ≤ 1000 then .ok (.tup (List.replicate k.toNat xs).flatten) h else .bad
  | _, _, _ => .bad
theorem RWs.rep {K : PySem.W.Frag} {ι : List Addr} {H : Hp} {xs : List W} {ys : List V} (r : RWs K ι H xs ys) : ∀ n, RWs K ι H (List.replicate n xs).flatten (List.replicate n ys).flatten
  | 0 => .nil
  | n + 1 => by rw [List.replicate_succ, List.replicate_succ, List.flatten_cons, List.flatten_cons]; exact r.append (RWs.rep r n)
theorem dop_mul : DOp X (binaryOp .Mult) gMul := opr_any fun x y H Q ⟨ι, h, w, z, S, rw', rz, A⟩ => by
  unfold gMul at A
  split at A
  · cases rw'; cases rz
    split at A
    · rename_i hm
      have q := A.now S _ (.int _)
      unfold mulOk at hm
      simp only [Bool.or_eq_true, decide_eq_true_eq] at hm
      rcases hm with (hm | hm) | hm
      · exact ⟨_, op_mul, _, _, rfl, rfl, .inl hm, q⟩
      · exact ⟨_, op_mul, _, _, rfl, rfl, .inr hm, q⟩
      · exact ⟨_, op_mulW, _, _, rfl, rfl, hm, q⟩
    · exact A.elim
  · cases rz; cases rw' with
    | ref ea =>
    split at A
    · rename_i xs hx
      split at A
      · rename_i hl
        obtain ⟨a', e1, xs', e2, rx⟩ := S.at hx
        rw [ea] at e1; cases e1
        refine ⟨_, op_rep, _, _, _, rfl, rfl, e2, hl.1, hl.2.1, ?_, fun p hp => new_lst S (rx.rep _) A hp⟩
        rw [← rx.length]; exact lim_le hl.2.2
      · exact A.elim
    · exact A.elim
  · cases rz; cases rw' with
    | tup sa ra =>
    split at A
    · rename_i h1
      subst h1
      exact ⟨_, op_repT1, _, _, rfl, rfl, sa.sq, A.now S _ (.tup sa ra)⟩
    split at A
    · rename_i hl
      refine ⟨_, op_repT, _, _, _, rfl, rfl, sa.sq, ?_, hl.2.1, hl.2.2.1, ?_, fun p hp => new_tup S (ra.rep _) A hp⟩
      · rintro rfl; cases ra; exact hl.1 rfl
      · rw [← ra.length]; exact hl.2.2.2
    · exact A.elim
  · exact A.elim
def gDiv : W → W → HH → Rs W
  | .int i, .int j, h => if 0 < j ∧ (j < 1073741824 ∨ j.natAbs.log2 < 9000) then .ok (.int (i / j)) h else .bad
  | _, _, _ => .bad
theorem dop_div : DOp X (binaryOp .FloorDiv) gDiv := opr_any fun x y H Q ⟨ι, h, w, z, S, rw', rz, A⟩ => by
  unfold gDiv at A
  split at A
  · cases rw'; cases rz
    split at A
    · rename_i hm
      rcases hm.2 with q | q
      · exact ⟨_, op_fdiv, _, _, rfl, rfl, ⟨hm.1, q⟩, A.now S _ (.int _)⟩
      · exact ⟨_, op_fdivW, _, _, rfl, rfl, ⟨hm.1, q⟩, A.now S _ (.int _)⟩
    · exact A.elim
  · exact A.elim
def gMod : W → W → HH → Rs W
  | .int i, .int j, h => if 0 < j then .ok (.int (i % j)) h else .bad
  | _, _, _ => .bad
theorem dop_mod : DOp X (binaryOp .Mod) gMod := opr_any fun x y H Q ⟨ι, h, w, z, S, rw', rz, A⟩ => by
  unfold gMod at A
  split at A
  · cases rw'; cases rz
    split at A
    · rename_i hm; exact ⟨_, op_mod, _, _, rfl, rfl, hm, A.now S _ (.int _)⟩
    · exact A.elim
  · exact A.elim
def gPow : W → W → HH → Rs W
  | .int i, .int j, h => if 0 ≤ j ∧ j ≤ 1000000 ∧ i.natAbs < 2 ^ 64 then .ok (.int (i ^ j.toNat)) h else .bad
  | _, _, _ => .bad
theorem dop_pow : DOp X (binaryOp .Pow) gPow := opr_any fun x y H Q ⟨ι, h, w, z, S, rw', rz, A⟩ => by
  unfold gPow at A
  split at A
  · cases rw'; cases rz
    split at A
    · rename_i hm; exact ⟨_, op_pow, _, _, rfl, rfl, hm, A.now S _ (.int _)⟩
    · exact A.elim
  · exact A.elim
def gShl : W → W → HH → Rs W
  | .int i, .int j, h => if 0 ≤ j ∧ j ≤ 1000000 ∧ i.natAbs < 2 ^ 64 then .ok (.int (i * 2 ^ j.toNat)) h else .bad
  | _, _, _ => .bad
theorem dop_shl : DOp X (binaryOp .LShift) gShl := opr_any fun x y H Q ⟨ι, h, w, z, S, rw', rz, A⟩ => by
  unfold gShl at A
  split at A
  · cases rw'; cases rz
    split at A
    · rename_i hm; exact ⟨_, op_shl, _, _, rfl, rfl, hm, A.now S _ (.int _)⟩
    · exact A.elim
  · exact A.elim
def gShr : W → W → HH → Rs W
  | .int i, .int j, h => if 0 ≤ j then .ok (.int (i / 2 ^ j.toNat)) h else .bad
  | _, _, _ => .bad
theorem dop_shr : DOp X (binaryOp .RShift) gShr := opr_any fun x y H Q ⟨ι, h, w, z, S, rw', rz, A⟩ => by
  unfold gShr at A
  split at A
  · cases rw'; cases rz
    split at A
    · rename_i hm; exact ⟨_, op_shr, _, _, rfl, rfl, hm, A.now S _ (.int _)⟩
    · exact A.elim
  · exact A.elim
def gAnd : W → W → HH → Rs W
  | .int i, .int j, h => .ok (.int (Builtin.bitAnd i j)) h
  | _, _, _ => .bad
theorem dop_and : DOp X (binaryOp .BitAnd) gAnd := opr_any fun x y H Q ⟨ι, h, w, z, S, rw', rz, A⟩ => by
  unfold gAnd at A
  split at A
  · cases rw'; cases rz; exact ⟨_, op_and, _, _, rfl, rfl, A.now S _ (.int _)⟩
  · exact A.elim
def gOr : W → W → HH → Rs W
  | .int i, .int j, h => .ok (.int (Builtin.bitOr i j)) h
  | _, _, _ => .bad
theorem dop_or : DOp X (binaryOp .BitOr) gOr := opr_any fun x y H Q ⟨ι, h, w, z, S, rw', rz, A⟩ => by
  unfold gOr at A
  split at A
  · cases rw'; cases rz; exact ⟨_, op_or, _, _, rfl, rfl, A.now S _ (.int _)⟩
  · exact A.elim
def gXor : W → W → HH → Rs W
  | .int i, .int j, h => .ok (.int (Builtin.bitXor i j)) h
  | _, _, _ => .bad
theorem dop_xor : DOp X (binaryOp .BitXor) gXor := opr_any fun x y H Q ⟨ι, h, w, z, S, rw', rz, A⟩ => by
  unfold gXor at A
  split at A
  · cases rw'; cases rz; exact ⟨_, op_xor, _, _, rfl, rfl, A.now S _ (.int _)⟩
  · exact A.elim

/-! ### comparisons -/
def gLt : W → W → HH → Rs W
  | .int i, .int j, h => .ok (.bl (decide (i < j))) h
  | _, _, _ => .bad
theorem dop_lt : DOp X (compareOp .Lt) gLt := opr_any fun x y H Q ⟨ι, h, w, z, S, rw', rz, A⟩ => by
  unfold gLt at A
  split at A
  · cases rw'; cases rz; exact ⟨_, op_lt, _, _, rfl, rfl, A.now S _ (.bl _)⟩
  · exact A.elim
def gLe : W → W → HH → Rs W
  | .int i, .int j, h => .ok (.bl (decide (i ≤ j))) h
  | _, _, _ => .bad
theorem dop_le : DOp X (compareOp .LtE) gLe := opr_any fun x y H Q ⟨ι, h, w, z, S, rw', rz, A⟩ => by
  unfold gLe at A
  split at A
  · cases rw'; cases rz; exact ⟨_, op_le, _, _, rfl, rfl, A.now S _ (.bl _)⟩
  · exact A.elim
def gGt : W → W → HH → Rs W
  | .int i, .int j, h => .ok (.bl (decide (j < i))) h
  | _, _, _ => .bad
theorem dop_gt : DOp X (compareOp .Gt) gGt := opr_any fun x y H Q ⟨ι, h, w, z, S, rw', rz, A⟩ => by
  unfold gGt at A
  split at A
  · cases rw'; cases rz; exact ⟨_, op_gt, _, _, rfl, rfl, A.now S _ (.bl _)⟩
  · exact A.elim
def gGe : W → W → HH → Rs W
  | .int i, .int j, h => .ok (.bl (decide (j ≤ i))) h
  | _, _, _ => .bad
theorem dop_ge : DOp X (compareOp .GtE) gGe := opr_any fun x y H Q ⟨ι, h, w, z, S, rw', rz, A⟩ => by
  unfold gGe at A
  split at A
  · cases rw'; cases rz; exact ⟨_, op_ge, _, _, rfl, rfl, A.now S _ (.bl _)⟩
  · exact A.elim
def datE (h : HH) (w : W) : Option PyData := match datW h fuelD w with
  | some d => if SeqAt.shaped d = true then some d else none
  | none => none
theorem datE_some {h : HH} {w : W} {d : PyData} (e : datE h w = some d) : datW h fuelD w = some d ∧ SeqAt.shaped d = true := by
  unfold datE at e
  split at e
  · split at e
    · cases e; exact ⟨by assumption, by assumption⟩
    · cases e
  · cases e
def gEq (x y : W) (h : HH) : Rs W := match x, y with
  | .int i, .int j => .ok (.bl (decide (i = j))) h
  | .str i, .str j => .ok (.bl (decide (i = j))) h
  | _, _ => match datE h x, datE h y with
    | some d, some e => .ok (.bl (PyData.eqv d e)) h
    | _, _ => .bad
theorem dop_eq (hu : X.A.units + 64 < cLine) : DOp X (compareOp .Eq) gEq := opr_any fun x y H Q ⟨ι, h, w, z, S, rw', rz, A⟩ => by
  unfold gEq at A
  split at A
  · cases rw'; cases rz
    refine ⟨_, op_eq, rfl, ?_⟩
    have q := A.now S _ (.bl _)
    simpa using q
  · cases rw'; cases rz
    refine ⟨_, op_eq, rfl, ?_⟩
    have q := A.now S _ (.bl _)
    simpa using q
  · split at A
    · rename_i d e hd he
      obtain ⟨d1, d2⟩ := datE_some hd
      obtain ⟨e1, e2⟩ := datE_some he
      exact ⟨_, op_eqD hu, d, e, dat_dp S _ _ _ _ rw' d1, dat_dp S _ _ _ _ rz e1, d2, e2, A.now S _ (.bl _)⟩
    · exact A.elim
def gNe (x y : W) (h : HH) : Rs W := match x, y with
  | .int i, .int j => .ok (.bl (!decide (i = j))) h
  | .str i, .str j => .ok (.bl (!decide (i = j))) h
  | _, _ => match datE h x, datE h y with
    | some d, some e => .ok (.bl (!PyData.eqv d e)) h
    | _, _ => .bad
theorem dop_ne (hu : X.A.units + 64 < cLine) : DOp X (compareOp .NotEq) gNe := opr_any fun x y H Q ⟨ι, h, w, z, S, rw', rz, A⟩ => by
  unfold gNe at A
  split at A
  · cases rw'; cases rz
    refine ⟨_, op_ne, rfl, ?_⟩
    have q := A.now S _ (.bl _)
    simpa using q
  · cases rw'; cases rz
    refine ⟨_, op_ne, rfl, ?_⟩
    have q := A.now S _ (.bl _)
    simpa using q
  · split at A
    · rename_i d e hd he
      obtain ⟨d1, d2⟩ := datE_some hd
      obtain ⟨e1, e2⟩ := datE_some he
      exact ⟨_, op_neD hu, d, e, dat_dp S _ _ _ _ rw' d1, dat_dp S _ _ _ _ rz e1, d2, e2, A.now S _ (.bl _)⟩
    · exact A.elim
def isNon : W → Bool
  | .non => true
  | _ => false
theorem RW.isNon {K : PySem.W.Frag} {ι : List Addr} {H : Hp} {w : W} {v : V} (r : RW K ι H w v) : decide (v = .non) = isNon w := by
  cases r <;> simp [D.isNon]
def gIs : W → W → HH → Rs W
  | x, .non, h => .ok (.bl (isNon x)) h
  | _, _, _ => .bad
theorem dop_is : DOp X (compareOp .Is) gIs := opr_any fun x y H Q ⟨ι, h, w, z, S, rw', rz, A⟩ => by
  unfold gIs at A
  split at A
  · cases rz; exact ⟨_, op_isN, rfl, A.now S _ (by rw [rw'.isNon]; exact .bl _)⟩
  · exact A.elim
def gIsNot : W → W → HH → Rs W
  | x, .non, h => .ok (.bl (!isNon x)) h
  | _, _, _ => .bad
theorem dop_isnot : DOp X (compareOp .IsNot) gIsNot := opr_any fun x y H Q ⟨ι, h, w, z, S, rw', rz, A⟩ => by
  unfold gIsNot at A
  split at A
  · cases rz; exact ⟨_, op_notN, rfl, A.now S _ (by rw [rw'.isNon]; exact .bl _)⟩
  · exact A.elim
end
end D
/-! D: expressions. -/
namespace D
open PySem PySem.Spec PyProof.Rows L2
section
variable {X : Cx} {Wx : WJ} {pos : Pos} {a b c e : Expr} {es : List Expr} {ma mb mc : ME} {ta' tb' : MT}
abbrev idX {ι : List Addr} {H : Hp} {Ex : ExK} : ∀ (ι' : List Addr) (H' : Hp) C fs s, ι <+: ι' → Grow ι ι' H H' → Ex ι' H' C fs s → Ex ι' H' C fs s := fun _ _ _ _ _ _ _ z => z

theorem ite_t {P Q : Prop} (h : P) : if true = true then P else Q := by rw [if_pos rfl]; exact h
theorem ite_f {P Q : Prop} (h : Q) : if false = true then P else Q := by rw [if_neg Bool.false_ne_true]; exact h
/-! ### comparisons as values and as tests -/
def asB : W → HH → Rs Bool
  | .bl b, h => .ok b h
  | _, _ => .bad
@[simp] theorem asB_bl (b : Bool) (h : HH) : asB (.bl b) h = .ok b h := rfl
@[simp] def mTst (m : ME) : MT := fun s h => (m s h).bind fun w h1 => asB w h1
/-- from a value's end to a test's -/
theorem after_asB {K : PySem.W.Frag} {ι : List Addr} {H : Hp} {h : HH} {Q : Bool → Hp → Prop} {Ex : ExK} {w : W} {v : V} (S : Sim K ι h H) (A : After K ι H (okT Q) Ex (asB w h)) (r : RW K ι H w v) : ∃ k, v = .bl k ∧ Q k H := by
  unfold asB at A
  split at A
  · cases r; exact ⟨_, rfl, A.now S⟩
  · exact A.elim
theorem asB_val {K : PySem.W.Frag} {ι : List Addr} {H : Hp} {Q : Bool → Hp → Prop} {Ex : ExK} {m : Rs W} (A : After K ι H (okT Q) Ex (m.bind fun w h1 => asB w h1)) :
    After K ι H (okV K fun v H' => ∃ k, v = .bl k ∧ Q k H') Ex m := A.bind.imp (fun ι1 h1 H1 x p1 g1 S1 A1 v r => after_asB S1 A1 r) idX
theorem de_cmp {op : CmpOp} {g : W → W → HH → Rs W} (o : DOp X (compareOp op) g) (ha : DE X Wx a ma) (hb : DE X Wx b mb) (hm : behindInMarks op b = false) : DE X Wx (.Compare a [op] [b] pos) (mBin g ma mb) :=
  (pe_cmpR o ha hb hm).imp fun σ H Q ⟨ι, s, h, S, R, A⟩ => ⟨ι, s, h, S, R, A.bind.imp (fun ι1 h1 H1 x p1 g1 S1 A1 v rv => ⟨ι1, s, h1, S1, R.mono p1 g1,
    A1.bind.imp (fun ι2 h2 H2 y p2 g2 S2 A2 u ru => ⟨ι2, h2, x, y, S2, rv.mono p2 g2, ru, A2.cut⟩) idX⟩) idX⟩
theorem dt_cmp {op : CmpOp} {g : W → W → HH → Rs W} (o : DOp X (compareOp op) g) (ha : DE X Wx a ma) (hb : DE X Wx b mb) (hm : behindInMarks op b = false) : DT X Wx (.Compare a [op] [b] pos) (mTst (mBin g ma mb)) :=
  (pt_cmpR o ha hb hm).imp fun σ H Q ⟨ι, s, h, S, R, A⟩ => ⟨ι, s, h, S, R, (asB_val A).bind.imp (fun ι1 h1 H1 x p1 g1 S1 A1 v rv => ⟨ι1, s, h1, S1, R.mono p1 g1,
    A1.bind.imp (fun ι2 h2 H2 y p2 g2 S2 A2 u ru => ⟨ι2, h2, x, y, S2, rv.mono p2 g2, ru, A2.cut⟩) idX⟩) idX⟩
/-- a op b op' c -/
@[simp] def mChain (g g' : W → W → HH → Rs W) (a b c : ME) : ME := fun s h => (a s h).bind fun x h1 => (b s h1).bind fun y h2 => (cut (g x y h2)).bind fun z h3 => match z with
  | .bl true => (c s h3).bind fun u h4 => cut (g' y u h4)
  | .bl false => .ok (.bl false) h3
  | _ => .bad
theorem chain_go {op op' : CmpOp} {g g' : W → W → HH → Rs W} {σ : St} {H : Hp} {Q : VK} (z : tD X.K Wx (mChain g g' ma mb mc) σ H Q) : tChain (rDop X.K g) (rDop X.K g') (tD X.K Wx ma) (tD X.K Wx mb) (tD X.K Wx mc) σ H Q := by
  obtain ⟨ι, s, h, S, R, A⟩ := z
  refine ⟨ι, s, h, S, R, A.bind.imp (fun ι1 h1 H1 x p1 g1 S1 A1 v rv => ⟨ι1, s, h1, S1, R.mono p1 g1, A1.bind.imp (fun ι2 h2 H2 y p2 g2 S2 A2 u ru => ?_) idX⟩) idX⟩
  refine ⟨ι2, h2, x, y, S2, rv.mono p2 g2, ru, A2.bind.cut.imp (fun ι3 h3 H3 z p3 g3 S3 A3 w rw' => ?_) idX⟩
  split at A3
  · cases rw'
    refine ⟨true, rfl, ?_⟩
    rw [if_pos rfl]
    exact ⟨ι3, s, h3, S3, ((R.mono p1 g1).mono p2 g2).mono p3 g3, A3.bind.imp (fun ι4 h4 H4 t p4 g4 S4 A4 q rq => ⟨ι4, h4, y, t, S4, (ru.mono p3 g3).mono p4 g4, rq, A4.cut⟩) idX⟩
  · cases rw'
    refine ⟨false, rfl, ?_⟩
    rw [if_neg Bool.false_ne_true]
    exact A3.now S3 _ (.bl false)
  · exact A3.elim
theorem de_chain {op op' : CmpOp} {g g' : W → W → HH → Rs W} (o : DOp X (compareOp op) g) (o' : DOp X (compareOp op') g') (ha : DE X Wx a ma) (hb : DE X Wx b mb) (hc : DE X Wx c mc)
    (hm : lastMarks [op, op'] [b, c] = false := by with_unfolding_all rfl) : DE X Wx (.Compare a [op, op'] [b, c] pos) (mChain g g' ma mb mc) := (pe_chain o o' ha hb hc hm).imp fun σ H Q z => chain_go (op := op) (op' := op') z
theorem dt_chain {op op' : CmpOp} {g g' : W → W → HH → Rs W} (o : DOp X (compareOp op) g) (o' : DOp X (compareOp op') g') (ha : DE X Wx a ma) (hb : DE X Wx b mb) (hc : DE X Wx c mc)
    (hm : lastMarks [op, op'] [b, c] = false := by with_unfolding_all rfl) : DT X Wx (.Compare a [op, op'] [b, c] pos) (mTst (mChain g g' ma mb mc)) :=
  (pt_chain o o' ha hb hc hm).imp fun σ H Q ⟨ι, s, h, S, R, A⟩ => chain_go (op := op) (op' := op') ⟨ι, s, h, S, R, asB_val A⟩

/-! ### truth -/
def gTru : W → HH → Rs Bool
  | .non, h => .ok false h
  | .bl b, h => .ok b h
  | .int i, h => .ok (i != 0) h
  | .str y, h => if y.length ≤ lim then .ok ((y.length : Int) != 0) h else .bad
  | .tup xs, h => .ok (!xs.isEmpty) h
  | .fl xs, h => .ok (!xs.isEmpty) h
  | .ref i, h => match h[i]? with
    | some (.lst xs) => .ok (!xs.isEmpty) h
    | some (.dK kvs) => .ok (!kvs.isEmpty) h
    | _ => .bad
  | _, _ => .bad
@[simp] def mTru (m : ME) : MT := fun s h => (m s h).bind fun w h1 => gTru w h1
theorem RWs.isEmpty {K : PySem.W.Frag} {ι : List Addr} {H : Hp} {xs : List W} {ys : List V} (r : RWs K ι H xs ys) : ys.isEmpty = xs.isEmpty := by cases r <;> rfl
theorem Paired.isEmpty {α β : Type} {R : α → β → Prop} {xs : List α} {ys : List β} (r : Paired R xs ys) : ys.isEmpty = xs.isEmpty := by cases r <;> rfl
theorem tru_go {K : PySem.W.Frag} {ι : List Addr} {H : Hp} {h : HH} {Q : Bool → Hp → Prop} {Ex : ExK} {w : W} {v : V} (S : Sim K ι h H) (A : After K ι H (okT Q) Ex (gTru w h)) (r : RW K ι H w v) : ∃ k, TruV K v H k ∧ Q k H := by
  cases r with
  | non => exact ⟨false, rfl, A.now S⟩
  | bl b => exact ⟨b, rfl, A.now S⟩
  | int i => exact ⟨_, rfl, A.now S⟩
  | str y =>
    simp only [gTru] at A
    split at A
    · rename_i hl; exact ⟨_, ⟨lim_le hl, rfl⟩, A.now S⟩
    · exact A.elim
  | ty n => exact A.elim
  | gl n => exact A.elim
  | exv _ _ => exact A.elim
  | tup hs rs => exact ⟨_, .inr (.inl ⟨_, hs.sq, by rw [rs.isEmpty]⟩), A.now S⟩
  | fl hs rs => exact ⟨_, .inl ⟨_, hs.sq, by rw [rs.isEmpty]⟩, A.now S⟩
  | ref ha =>
    simp only [gTru] at A
    split at A
    · rename_i xs hx
      obtain ⟨b, hb, ys, hl, rs⟩ := S.at hx
      rw [ha] at hb; cases hb
      exact ⟨_, .inl ⟨_, SqL.of hl, by rw [rs.isEmpty]⟩, A.now S⟩
    · rename_i xs hx
      obtain ⟨b, hb, ys, hl, rs⟩ := S.at hx
      rw [ha] at hb; cases hb
      exact ⟨_, .inr (.inr ⟨_, hl, by rw [Paired.isEmpty rs]⟩), A.now S⟩
    · exact A.elim
theorem dt_tru (ha : DE X Wx a ma) (he : ∀ whole, isTrue a X.env whole = (do let v ← whole; standAt a.pos; holding [v] (truthy v)) := by intro _; rfl) : DT X Wx a (mTru ma) :=
  (pt_truth ha he).imp fun σ H Q ⟨ι, s, h, S, R, A⟩ => ⟨ι, s, h, S, R, A.bind.imp (fun ι1 h1 H1 x p1 g1 S1 A1 v r => tru_go S1 A1 r) idX⟩

/-! ### and, or, not, if -/
def DW (X : Cx) (Wx : WJ) (e : Expr) (m : MT) : Prop := PW X e (tDT X.K Wx m)
theorem DW.dt {m : MT} (h : DW X Wx a m) : DT X Wx a m := PW.pt h
@[simp] def mAnd (p q : MT) : MT := fun s h => (p s h).bind fun b h1 => if b = true then q s h1 else .ok false h1
@[simp] def mOr (p q : MT) : MT := fun s h => (p s h).bind fun b h1 => if b = true then .ok true h1 else q s h1
@[simp] def mNot (p : MT) : MT := fun s h => (p s h).bind fun b h1 => .ok (!b) h1
variable {rest : List Expr} {m m' : MT}
theorem dw_and1 (ha : DT X Wx a m) : DW X Wx (.BoolOp .And [a] pos) m := pw_and1 ha
theorem dw_or1 (ha : DT X Wx a m) : DW X Wx (.BoolOp .Or [a] pos) m := pw_or1 ha
theorem dw_and (ha : DT X Wx a m) (hb : DW X Wx (.BoolOp .And (b :: rest) pos) m') : DW X Wx (.BoolOp .And (a :: b :: rest) pos) (mAnd m m') :=
  (pw_and ha hb).imp fun σ H Q ⟨ι, s, h, S, R, A⟩ => ⟨ι, s, h, S, R, A.bind.imp (fun ι1 h1 H1 x p1 g1 S1 A1 => by
    cases x with
    | true => rw [if_pos rfl] at A1; show tDT X.K Wx m' σ H1 Q; exact ⟨ι1, s, h1, S1, R.mono p1 g1, A1⟩
    | false => rw [if_neg Bool.false_ne_true] at A1; show Q false H1; exact A1.now S1) idX⟩
theorem dw_or (ha : DT X Wx a m) (hb : DW X Wx (.BoolOp .Or (b :: rest) pos) m') : DW X Wx (.BoolOp .Or (a :: b :: rest) pos) (mOr m m') :=
  (pw_or ha hb).imp fun σ H Q ⟨ι, s, h, S, R, A⟩ => ⟨ι, s, h, S, R, A.bind.imp (fun ι1 h1 H1 x p1 g1 S1 A1 => by
    cases x with
    | true => rw [if_pos rfl] at A1; show Q true H1; exact A1.now S1
    | false => rw [if_neg Bool.false_ne_true] at A1; show tDT X.K Wx m' σ H1 Q; exact ⟨ι1, s, h1, S1, R.mono p1 g1, A1⟩) idX⟩
theorem dt_not (ha : DT X Wx a m) : DT X Wx (.UnaryOp .Not a pos) (mNot m) :=
  (pt_not ha).imp fun σ H Q ⟨ι, s, h, S, R, A⟩ => ⟨ι, s, h, S, R, A.bind.imp (fun ι1 h1 H1 x p1 g1 S1 A1 => A1.now S1) idX⟩
@[simp] def mIf (t : MT) (p q : ME) : ME := fun s h => (t s h).bind fun b h1 => if b = true then p s h1 else q s h1
theorem de_if (hc : DT X Wx c m) (ha : DE X Wx a ma) (hb : DE X Wx b mb) : DE X Wx (.IfExp c a b pos) (mIf m ma mb) :=
  (pe_ifExp hc ha hb).imp fun σ H Q ⟨ι, s, h, S, R, A⟩ => ⟨ι, s, h, S, R, A.bind.imp (fun ι1 h1 H1 x p1 g1 S1 A1 => by
    cases x with
    | true => rw [if_pos rfl] at A1; show tD X.K Wx ma σ H1 Q; exact ⟨ι1, s, h1, S1, R.mono p1 g1, A1⟩
    | false => rw [if_neg Bool.false_ne_true] at A1; show tD X.K Wx mb σ H1 Q; exact ⟨ι1, s, h1, S1, R.mono p1 g1, A1⟩) idX⟩
/-- values: all but the last True or False -/
@[simp] def mAndV (p q : ME) : ME := fun s h => (p s h).bind fun w h1 => match w with
  | .bl true => q s h1
  | .bl false => .ok (.bl false) h1
  | _ => .bad
@[simp] def mOrV (p q : ME) : ME := fun s h => (p s h).bind fun w h1 => match w with
  | .bl true => .ok (.bl true) h1
  | .bl false => q s h1
  | _ => .bad
@[simp] def mNotV (p : ME) : ME := fun s h => (p s h).bind fun w h1 => match w with
  | .bl b => .ok (.bl (!b)) h1
  | _ => .bad
theorem de_one {op} (h : DE X Wx a ma) : DE X Wx (.BoolOp op [a] pos) ma := pe_one h
theorem de_and (ha : DE X Wx a ma) (hb : DE X Wx (.BoolOp .And (b :: rest) pos) mb) : DE X Wx (.BoolOp .And (a :: b :: rest) pos) (mAndV ma mb) :=
  (pe_and ha hb).imp fun σ H Q ⟨ι, s, h, S, R, A⟩ => ⟨ι, s, h, S, R, A.bind.imp (fun ι1 h1 H1 x p1 g1 S1 A1 v r => by
    split at A1
    · cases r; refine ⟨true, rfl, ?_⟩; show tD X.K Wx mb σ H1 Q; exact ⟨ι1, s, h1, S1, R.mono p1 g1, A1⟩
    · cases r; refine ⟨false, rfl, ?_⟩; show Q (.bl false) H1; exact A1.now S1 _ (.bl false)
    · exact A1.elim) idX⟩
theorem de_or (ha : DE X Wx a ma) (hb : DE X Wx (.BoolOp .Or (b :: rest) pos) mb) : DE X Wx (.BoolOp .Or (a :: b :: rest) pos) (mOrV ma mb) :=
  (pe_or ha hb).imp fun σ H Q ⟨ι, s, h, S, R, A⟩ => ⟨ι, s, h, S, R, A.bind.imp (fun ι1 h1 H1 x p1 g1 S1 A1 v r => by
    split at A1
    · cases r; refine ⟨true, rfl, ?_⟩; show Q (.bl true) H1; exact A1.now S1 _ (.bl true)
    · cases r; refine ⟨false, rfl, ?_⟩; show tD X.K Wx mb σ H1 Q; exact ⟨ι1, s, h1, S1, R.mono p1 g1, A1⟩
    · exact A1.elim) idX⟩
theorem de_not (ha : DE X Wx a ma) : DE X Wx (.UnaryOp .Not a pos) (mNotV ma) :=
  (pe_not ha).imp fun σ H Q ⟨ι, s, h, S, R, A⟩ => ⟨ι, s, h, S, R, A.bind.imp (fun ι1 h1 H1 x p1 g1 S1 A1 v r => by
    split at A1
    · cases r; exact ⟨_, rfl, A1.now S1 _ (.bl _)⟩
    · exact A1.elim) idX⟩

/-! ### argument lists, displays -/
@[simp] def mNil : MA := fun _ h => .ok [] h
@[simp] def mCons (p : ME) (q : MA) : MA := fun s h => (p s h).bind fun w h1 => (q s h1).bind fun ws h2 => .ok (w :: ws) h2
variable {mas : MA}
theorem da_nil : DA X Wx [] mNil := pa_nil.imp fun σ H Q ⟨ι, s, h, S, R, A⟩ => A.now S [] .nil
theorem da_cons (ha : DE X Wx a ma) (hr : DA X Wx es mas) (hs : starEach (a :: es) X.env = (false, eval a X.env) :: starEach es X.env := by rfl) : DA X Wx (a :: es) (mCons ma mas) :=
  (pa_cons ha hr hs).imp fun σ H Q ⟨ι, s, h, S, R, A⟩ => ⟨ι, s, h, S, R, A.bind.imp (fun ι1 h1 H1 x p1 g1 S1 A1 v rv => ⟨ι1, s, h1, S1, R.mono p1 g1,
    A1.bind.imp (fun ι2 h2 H2 y p2 g2 S2 A2 u ru => A2.now S2 _ (.cons (rv.mono p2 g2) ru)) idX⟩) idX⟩
theorem new_lstE {K : PySem.W.Frag} {ι : List Addr} {H : Hp} {h : HH} {xs : List W} {ys : List V} {Q : VK} {Ex : ExK} (S : Sim K ι h H) (r : RWs K ι H xs ys) (A : After K ι H (okV K Q) Ex (.ok (.ref h.length) (h ++ [.lst xs]))) {p : Addr} (hp : H p = none) :
    Q (.ref p) (upd H p (.lst ys)) := new_lst S r A hp
theorem new_tupE {K : PySem.W.Frag} {ι : List Addr} {H : Hp} {h : HH} {xs : List W} {ys : List V} {Q : VK} {Ex : ExK} (S : Sim K ι h H) (r : RWs K ι H xs ys) (A : After K ι H (okV K Q) Ex (.ok (.tup xs) h)) {p : Addr} (hp : H p = none) :
    Q (.ref p) (upd H p (.tup ys)) := new_tup S r A hp
@[simp] def mLst (q : MA) : ME := fun s h => (q s h).bind fun ws h1 => if ws.length ≤ lim then .ok (.ref h1.length) (h1 ++ [.lst ws]) else .bad
@[simp] def mTup (q : MA) : ME := fun s h => (q s h).bind fun ws h1 => if ws.length ≤ lim then .ok (.tup ws) h1 else .bad
theorem de_lst (h : DA X Wx es mas) : DE X Wx (.List es pos) (mLst mas) :=
  (pe_lst h).imp fun σ H Q ⟨ι, s, h, S, R, A⟩ => ⟨ι, s, h, S, R, A.bind.imp (fun ι1 h1 H1 x p1 g1 S1 A1 v rv => by
    split at A1
    · rename_i hl; exact ⟨by rw [← rv.length]; exact lim_le hl, fun p hp => new_lstE S1 rv A1 hp⟩
    · exact A1.elim) idX⟩
theorem de_tup {x1} (h : DA X Wx es mas) : DE X Wx (.Tuple es x1 pos) (mTup mas) :=
  (pe_tup h).imp fun σ H Q ⟨ι, s, h, S, R, A⟩ => ⟨ι, s, h, S, R, A.bind.imp (fun ι1 h1 H1 x p1 g1 S1 A1 v rv => by
    split at A1
    · rename_i hl; exact ⟨by rw [← rv.length]; exact lim_le hl, fun p hp => new_tupE S1 rv A1 hp⟩
    · exact A1.elim) idX⟩

/-! ### built-ins by their names -/
def rDc (K : PySem.W.Frag) (g : List W → HH → Rs W) : List V → Hp → VK → Prop := fun vs H Q => ∃ ι h ws, Sim K ι h H ∧ RWs K ι H ws vs ∧ After K ι H (okV K Q) exN (g ws h)
def DC (X : Cx) (f : Value) (g : List W → HH → Rs W) : Prop := CallR X f (rDc X.K g)
@[simp] def mCallG (g : List W → HH → Rs W) (q : MA) : ME := fun s h => (q s h).bind fun ws h1 => cut (g ws h1)
theorem de_callB {id : String} {x : Str} {p : Pos} {g : List W → HH → Rs W} (hc : DC X (.builtin id) g) (hg : Gl X x) (hm : X.mg x = none) (hv : bootBuiltins x = some (.builtin id)) (ha : DA X Wx (e :: es) mas)
    (hn : x ≠ "__name__" := by decide) (hd : (x == ("__debug__" : Str)) = false := by decide) (he : starEach (e :: es) X.env = (false, eval e X.env) :: starEach es X.env := by rfl)
    (hpl : (backTo pos (starEach es X.env)).any (·.1) = false := by rfl) : DE X Wx (.Call (.Name x p) (e :: es) [] pos) (mCallG g mas) :=
  (pe_callB hc hg hm hv ha hn hd he hpl).imp fun σ H Q ⟨ι, s, h, S, R, A⟩ => ⟨ι, s, h, S, R, A.bind.imp (fun ι1 h1 H1 x p1 g1 S1 A1 vs r => ⟨ι1, h1, x, S1, r, A1.cut⟩) idX⟩
theorem de_callTy {T : String} {x : Str} {p : Pos} {g : List W → HH → Rs W} (hc : DC X (.type T) g) (hg : Gl X x) (hm : X.mg x = none) (hv : bootBuiltins x = some (.type T)) (ha : DA X Wx (e :: es) mas)
    (hn : x ≠ "__name__" := by decide) (hd : (x == ("__debug__" : Str)) = false := by decide) (he : starEach (e :: es) X.env = (false, eval e X.env) :: starEach es X.env := by rfl)
    (hpl : (backTo pos (starEach es X.env)).any (·.1) = false := by rfl) : DE X Wx (.Call (.Name x p) (e :: es) [] pos) (mCallG g mas) :=
  (pe_callTy hc hg hm hv ha hn hd he hpl).imp fun σ H Q ⟨ι, s, h, S, R, A⟩ => ⟨ι, s, h, S, R, A.bind.imp (fun ι1 h1 H1 x p1 g1 S1 A1 vs r => ⟨ι1, h1, x, S1, r, A1.cut⟩) idX⟩
end
end D
/-! D: built-in functions, subscripts, slices. -/
namespace D
open PySem PySem.Spec PyProof.Rows L2
section
variable {X : Cx} {Wx : WJ} {pos : Pos} {a b c e : Expr} {es : List Expr} {ma mb mc : ME}

/-! ### sequences -/
def seqW (h : HH) : W → Option (List W)
  | .tup xs => some xs
  | .fl xs => some xs
  | .ref i => match h[i]? with
    | some (.lst xs) => some xs
    | _ => none
  | _ => none
section
variable {K : PySem.W.Frag} {ι : List Addr} {H : Hp} {h : HH}
theorem seq_at (S : Sim K ι h H) {w : W} {v : V} {xs : List W} (r : RW K ι H w v) (e : seqW h w = some xs) : ∃ a ys, v = .ref a ∧ (SqL K H a ys ∨ SqT K H a ys) ∧ RWs K ι H xs ys := by
  cases r with
  | tup hs rs => cases e; exact ⟨_, _, rfl, .inr hs.sq, rs⟩
  | fl hs rs => cases e; exact ⟨_, _, rfl, .inl hs.sq, rs⟩
  | ref ha =>
    simp only [seqW] at e
    split at e
    · rename_i zs hx
      cases e
      obtain ⟨b, hb, ys, hl, rs⟩ := S.at hx
      rw [ha] at hb; cases hb
      exact ⟨_, _, rfl, .inl (SqL.of hl), rs⟩
    · cases e
  | _ => cases e
theorem seq_at2 (S : Sim K ι h H) {w : W} {v : V} {xs : List W} (r : RW K ι H w v) (e : seqW h w = some xs) : ∃ a ys, v = .ref a ∧ (SqL K H a ys ∨ TQ K H a ys) ∧ RWs K ι H xs ys := by
  cases r with
  | tup hs rs => cases e; exact ⟨_, _, rfl, .inr hs, rs⟩
  | fl hs rs => cases e; exact ⟨_, _, rfl, .inl hs.sq, rs⟩
  | ref ha =>
    simp only [seqW] at e
    split at e
    · rename_i zs hx
      cases e
      obtain ⟨b, hb, ys, hl, rs⟩ := S.at hx
      rw [ha] at hb; cases hb
      exact ⟨_, _, rfl, .inl (SqL.of hl), rs⟩
    · cases e
  | _ => cases e
/-- a list that is read -/
def lstW (h : HH) : W → Option (List W)
  | .fl xs => some xs
  | .ref i => match h[i]? with
    | some (.lst xs) => some xs
    | _ => none
  | _ => none
theorem lst_at (S : Sim K ι h H) {w : W} {v : V} {xs : List W} (r : RW K ι H w v) (e : lstW h w = some xs) : ∃ a ys, v = .ref a ∧ SqL K H a ys ∧ RWs K ι H xs ys := by
  cases r with
  | fl hs rs => cases e; exact ⟨_, _, rfl, hs.sq, rs⟩
  | ref ha =>
    simp only [lstW] at e
    split at e
    · rename_i zs hx
      cases e
      obtain ⟨b, hb, ys, hl, rs⟩ := S.at hx
      rw [ha] at hb; cases hb
      exact ⟨_, _, rfl, SqL.of hl, rs⟩
    · cases e
  | _ => cases e
def intsW : List W → Option (List Int)
  | [] => some []
  | .int i :: r => match intsW r with
    | some l => some (i :: l)
    | none => none
  | _ :: _ => none
theorem ints_at : ∀ {xs : List W} {ys : List V} {ns : List Int}, RWs K ι H xs ys → intsW xs = some ns → ys = ns.map V.int
  | [], _, _, .nil, e => by cases e; rfl
  | .int i :: r, _, _, .cons q t, e => by
    cases q
    simp only [intsW] at e
    split at e
    · rename_i l hl
      cases e
      rw [ints_at t hl]; rfl
    · cases e
@[simp] theorem intsW_map (ns : List Int) : intsW (ns.map W.int) = some ns := by
  induction ns with
  | nil => rfl
  | cons i r ih => simp [intsW, ih]
def blsW : List W → Option (List Bool)
  | [] => some []
  | .bl i :: r => match blsW r with
    | some l => some (i :: l)
    | none => none
  | _ :: _ => none
theorem bls_at : ∀ {xs : List W} {ys : List V} {ns : List Bool}, RWs K ι H xs ys → blsW xs = some ns → ys = ns.map V.bl
  | [], _, _, .nil, e => by cases e; rfl
  | .bl i :: r, _, _, .cons q t, e => by
    cases q
    simp only [blsW] at e
    split at e
    · rename_i l hl
      cases e
      rw [bls_at t hl]; rfl
    · cases e
@[simp] theorem blsW_map (ns : List Bool) : blsW (ns.map W.bl) = some ns := by
  induction ns with
  | nil => rfl
  | cons i r ih => simp [blsW, ih]
theorem rws1 {w : W} {vs : List V} (r : RWs K ι H [w] vs) : ∃ v, vs = [v] ∧ RW K ι H w v := by
  cases r with
  | cons r t => cases t; exact ⟨_, rfl, r⟩
theorem rws2 {w u : W} {vs : List V} (r : RWs K ι H [w, u] vs) : ∃ v z, vs = [v, z] ∧ RW K ι H w v ∧ RW K ι H u z := by
  cases r with
  | cons r t =>
    cases t with
    | cons r' t => cases t; exact ⟨_, _, rfl, r, r'⟩
end

/-! ### len, abs, int, max, min, list, tuple, sum, all, any -/
def gLen : List W → HH → Rs W
  | [.str y], h => if y.length ≤ lim then .ok (.int y.length) h else .bad
  | [w], h => match seqW h w with
    | some xs => .ok (.int xs.length) h
    | none => .bad
  | _, _ => .bad
theorem dc_len : DC X (.builtin "len") gLen := callr_any fun vs H Q ⟨ι, h, ws, S, r, A⟩ => by
  unfold gLen at A
  split at A
  · obtain ⟨v, rfl, rv⟩ := rws1 r
    cases rv
    split at A
    · rename_i hl; exact ⟨_, call_len_str, _, rfl, lim_le hl, A.now S _ (.int _)⟩
    · exact A.elim
  · obtain ⟨v, rfl, rv⟩ := rws1 r
    split at A
    · rename_i xs hx
      obtain ⟨a, ys, rfl, hs, rs⟩ := seq_at S rv hx
      exact ⟨_, call_len_seq, _, _, rfl, hs, A.now S _ (by rw [rs.length]; exact .int _)⟩
    · exact A.elim
  · exact A.elim
def gAbs : List W → HH → Rs W
  | [.int i], h => .ok (.int (if i < 0 then -i else i)) h
  | _, _ => .bad
theorem dc_abs : DC X (.builtin "abs") gAbs := callr_any fun vs H Q ⟨ι, h, ws, S, r, A⟩ => by
  unfold gAbs at A
  split at A
  · obtain ⟨v, rfl, rv⟩ := rws1 r
    cases rv; exact ⟨_, call_abs, _, rfl, A.now S _ (.int _)⟩
  · exact A.elim
def gInt : List W → HH → Rs W
  | [.int i], h => .ok (.int i) h
  | [.bl b], h => .ok (.int (if b = true then 1 else 0)) h
  | _, _ => .bad
theorem dc_int : DC X (.type "int") gInt := callr_any fun vs H Q ⟨ι, h, ws, S, r, A⟩ => by
  unfold gInt at A
  split at A
  · obtain ⟨v, rfl, rv⟩ := rws1 r
    cases rv; exact ⟨_, call_int1, .inl ⟨_, rfl, A.now S _ (.int _)⟩⟩
  · obtain ⟨v, rfl, rv⟩ := rws1 r
    cases rv; exact ⟨_, call_int1, .inr ⟨_, rfl, A.now S _ (.int _)⟩⟩
  · exact A.elim
/-- the greatest, the least of a list that is not empty -/
def topI (ns : List Int) : Int := ns.foldl (fun m x => if m < x then x else m) (ns.headD 0)
def botI (ns : List Int) : Int := ns.foldl (fun m x => if x < m then x else m) (ns.headD 0)
theorem top_go : ∀ (ns : List Int) (m : Int), (ns.foldl (fun m x => if m < x then x else m) m = m ∨ ns.foldl (fun m x => if m < x then x else m) m ∈ ns) ∧ m ≤ ns.foldl (fun m x => if m < x then x else m) m ∧ ∀ y ∈ ns, y ≤ ns.foldl (fun m x => if m < x then x else m) m
  | [], m => ⟨.inl rfl, Int.le_refl _, fun _ h => by cases h⟩
  | x :: r, m => by
    have ih := top_go r (if m < x then x else m)
    rw [List.foldl_cons]
    refine ⟨?_, ?_, fun y hy => ?_⟩
    · rcases ih.1 with e | e
      · rw [e]; split
        · exact .inr (List.mem_cons_self ..)
        · exact .inl rfl
      · exact .inr (List.mem_cons_of_mem _ e)
    · refine Int.le_trans ?_ ih.2.1; split <;> omega
    · rcases List.mem_cons.mp hy with rfl | hy
      · refine Int.le_trans ?_ ih.2.1; split <;> omega
      · exact ih.2.2 y hy
theorem bot_go : ∀ (ns : List Int) (m : Int), (ns.foldl (fun m x => if x < m then x else m) m = m ∨ ns.foldl (fun m x => if x < m then x else m) m ∈ ns) ∧ ns.foldl (fun m x => if x < m then x else m) m ≤ m ∧ ∀ y ∈ ns, ns.foldl (fun m x => if x < m then x else m) m ≤ y
  | [], m => ⟨.inl rfl, Int.le_refl _, fun _ h => by cases h⟩
  | x :: r, m => by
    have ih := bot_go r (if x < m then x else m)
    rw [List.foldl_cons]
    refine ⟨?_, ?_, fun y hy => ?_⟩
    · rcases ih.1 with e | e
      · rw [e]; split
        · exact .inr (List.mem_cons_self ..)
        · exact .inl rfl
      · exact .inr (List.mem_cons_of_mem _ e)
    · refine Int.le_trans ih.2.1 ?_; split <;> omega
    · rcases List.mem_cons.mp hy with rfl | hy
      · refine Int.le_trans ih.2.1 ?_; split <;> omega
      · exact ih.2.2 y hy
theorem top_mem {ns : List Int} (h : 0 < ns.length) : topI ns ∈ ns ∧ ∀ y ∈ ns, y ≤ topI ns := by
  cases ns with
  | nil => simp at h
  | cons x r =>
    have q := top_go (x :: r) x
    refine ⟨?_, q.2.2⟩
    rcases q.1 with e | e
    · show (x :: r).foldl _ x ∈ _; rw [e]; exact List.mem_cons_self ..
    · exact e
theorem bot_mem {ns : List Int} (h : 0 < ns.length) : botI ns ∈ ns ∧ ∀ y ∈ ns, botI ns ≤ y := by
  cases ns with
  | nil => simp at h
  | cons x r =>
    have q := bot_go (x :: r) x
    refine ⟨?_, q.2.2⟩
    rcases q.1 with e | e
    · show (x :: r).foldl _ x ∈ _; rw [e]; exact List.mem_cons_self ..
    · exact e
def gMax : List W → HH → Rs W
  | [.int i, .int j], h => .ok (.int (if j > i then j else i)) h
  | [w], h => match (lstW h w).bind intsW with
    | some ns => if 0 < ns.length then .ok (.int (topI ns)) h else .bad
    | none => .bad
  | _, _ => .bad
def gMin : List W → HH → Rs W
  | [.int i, .int j], h => .ok (.int (if j < i then j else i)) h
  | [w], h => match (lstW h w).bind intsW with
    | some ns => if 0 < ns.length then .ok (.int (botI ns)) h else .bad
    | none => .bad
  | _, _ => .bad
theorem dc_max (hc : X.calm = true) : DC X (.builtin "max") gMax := callr_any fun vs H Q ⟨ι, h, ws, S, r, A⟩ => by
  unfold gMax at A
  split at A
  · obtain ⟨v, u, rfl, rv, ru⟩ := rws2 r
    cases rv; cases ru; exact ⟨_, call_max2 hc, _, _, rfl, A.now S _ (.int _)⟩
  · obtain ⟨v, rfl, rv⟩ := rws1 r
    split at A
    · rename_i ns hx
      split at A
      · rename_i hl
        obtain ⟨xs, h1, h2⟩ := Option.bind_eq_some_iff.mp hx
        obtain ⟨a, ys, rfl, hs, rs⟩ := lst_at S rv h1
        have e := ints_at rs h2
        subst e
        refine ⟨_, cr_max hc, _, _, rfl, hs, hl, fun m hm hle => ?_⟩
        obtain ⟨t1, t2⟩ := top_mem hl
        have : m = topI ns := by have := hle _ t1; have := t2 _ hm; omega
        subst this
        exact A.now S _ (.int _)
      · exact A.elim
    · exact A.elim
  · exact A.elim
theorem dc_min (hc : X.calm = true) : DC X (.builtin "min") gMin := callr_any fun vs H Q ⟨ι, h, ws, S, r, A⟩ => by
  unfold gMin at A
  split at A
  · obtain ⟨v, u, rfl, rv, ru⟩ := rws2 r
    cases rv; cases ru; exact ⟨_, call_min2 hc, _, _, rfl, A.now S _ (.int _)⟩
  · obtain ⟨v, rfl, rv⟩ := rws1 r
    split at A
    · rename_i ns hx
      split at A
      · rename_i hl
        obtain ⟨xs, h1, h2⟩ := Option.bind_eq_some_iff.mp hx
        obtain ⟨a, ys, rfl, hs, rs⟩ := lst_at S rv h1
        have e := ints_at rs h2
        subst e
        refine ⟨_, cr_min hc, _, _, rfl, hs, hl, fun m hm hle => ?_⟩
        obtain ⟨t1, t2⟩ := bot_mem hl
        have : m = botI ns := by have := hle _ t1; have := t2 _ hm; omega
        subst this
        exact A.now S _ (.int _)
      · exact A.elim
    · exact A.elim
  · exact A.elim
def gList : List W → HH → Rs W
  | [w], h => match seqW h w with
    | some xs => .ok (.ref h.length) (h ++ [.lst xs])
    | none => .bad
  | _, _ => .bad
theorem dc_list : DC X (.type "list") gList := callr_any fun vs H Q ⟨ι, h, ws, S, r, A⟩ => by
  unfold gList at A
  split at A
  · obtain ⟨v, rfl, rv⟩ := rws1 r
    split at A
    · rename_i xs hx
      obtain ⟨a, ys, rfl, hs, rs⟩ := seq_at S rv hx
      exact ⟨_, call_list_of, _, _, rfl, hs, fun p hp => new_lst S rs A hp⟩
    · exact A.elim
  · exact A.elim
def gTuple : List W → HH → Rs W
  | [w], h => match seqW h w with
    | some xs => .ok (.tup xs) h
    | none => .bad
  | _, _ => .bad
theorem dc_tuple : DC X (.type "tuple") gTuple := callr_any fun vs H Q ⟨ι, h, ws, S, r, A⟩ => by
  unfold gTuple at A
  split at A
  · obtain ⟨v, rfl, rv⟩ := rws1 r
    split at A
    · rename_i xs hx
      obtain ⟨a, ys, rfl, hs, rs⟩ := seq_at2 S rv hx
      rcases hs with hs | hs
      · exact ⟨_, call_tuple_of, _, _, rfl, .inl ⟨hs, fun p hp => new_tup S rs A hp⟩⟩
      · exact ⟨_, call_tupleT, _, _, rfl, hs.sq, A.now S _ (.tup hs rs)⟩
    · exact A.elim
  · exact A.elim
def gSum : List W → HH → Rs W
  | [w], h => match (lstW h w).bind intsW with
    | some ns => .ok (.int ns.sum) h
    | none => .bad
  | _, _ => .bad
theorem dc_sum (hc : X.calm = true) : DC X (.builtin "sum") gSum := callr_any fun vs H Q ⟨ι, h, ws, S, r, A⟩ => by
  unfold gSum at A
  split at A
  · obtain ⟨v, rfl, rv⟩ := rws1 r
    split at A
    · rename_i ns hx
      obtain ⟨xs, h1, h2⟩ := Option.bind_eq_some_iff.mp hx
      obtain ⟨a, ys, rfl, hs, rs⟩ := lst_at S rv h1
      have e := ints_at rs h2
      subst e
      exact ⟨_, cr_sum hc, _, _, rfl, hs, A.now S _ (.int _)⟩
    · exact A.elim
  · exact A.elim
def gAll : List W → HH → Rs W
  | [w], h => match (lstW h w).bind blsW with
    | some ns => .ok (.bl (ns.all id)) h
    | none => .bad
  | _, _ => .bad
theorem dc_all (hc : X.calm = true) : DC X (.builtin "all") gAll := callr_any fun vs H Q ⟨ι, h, ws, S, r, A⟩ => by
  unfold gAll at A
  split at A
  · obtain ⟨v, rfl, rv⟩ := rws1 r
    split at A
    · rename_i ns hx
      obtain ⟨xs, h1, h2⟩ := Option.bind_eq_some_iff.mp hx
      obtain ⟨a, ys, rfl, hs, rs⟩ := lst_at S rv h1
      have e := bls_at rs h2
      subst e
      exact ⟨_, cr_all hc, _, _, rfl, hs, A.now S _ (.bl _)⟩
    · exact A.elim
  · exact A.elim
def gAny : List W → HH → Rs W
  | [w], h => match (lstW h w).bind blsW with
    | some ns => .ok (.bl (ns.any id)) h
    | none => .bad
  | _, _ => .bad
theorem dc_any (hc : X.calm = true) : DC X (.builtin "any") gAny := callr_any fun vs H Q ⟨ι, h, ws, S, r, A⟩ => by
  unfold gAny at A
  split at A
  · obtain ⟨v, rfl, rv⟩ := rws1 r
    split at A
    · rename_i ns hx
      obtain ⟨xs, h1, h2⟩ := Option.bind_eq_some_iff.mp hx
      obtain ⟨a, ys, rfl, hs, rs⟩ := lst_at S rv h1
      have e := bls_at rs h2
      subst e
      exact ⟨_, cr_any hc, _, _, rfl, hs, A.now S _ (.bl _)⟩
    · exact A.elim
  · exact A.elim

/-! ### isinstance -/
/-- a value's type -/
def tyW (h : HH) : W → Option String
  | .non => some "NoneType"
  | .bl _ => some "bool"
  | .int _ => some "int"
  | .str _ => some "str"
  | .tup _ => some "tuple"
  | .fl _ => some "list"
  | .ref i => match h[i]? with
    | some (.lst _) => some "list"
    | some (.dK _) => some "dict"
    | some (.dT _) => some "dict"
    | _ => none
  | _ => none
theorem ty_at {K : PySem.W.Frag} {ι : List Addr} {H : Hp} {h : HH} (S : Sim K ι h H) {w : W} {v : V} {t : String} (r : RW K ι H w v) (e : tyW h w = some t) : TyX K H v (.type t) := by
  cases r with
  | non => cases e; exact .base .non
  | bl b => cases e; exact .base (.bl b)
  | int b => cases e; exact .base (.int b)
  | str b => cases e; exact .base (.str b)
  | ty b => cases e
  | gl b => cases e
  | exv _ _ => cases e
  | tup hs rs =>
    cases e
    rcases hs with hs | ⟨o, its, n, h1, h2, h3, _⟩
    · exact .base (.tup hs)
    · exact .kTuple h1 h2
  | fl hs rs =>
    cases e
    rcases hs with ⟨o, hs⟩ | ⟨o, its, n, h1, h2, h3, _⟩
    · exact .base (.frz hs)
    · exact .kList h1 h2
  | ref ha =>
    simp only [tyW] at e
    split at e
    · rename_i xs hx
      cases e
      obtain ⟨b, hb, ys, hl, rs⟩ := S.at hx
      rw [ha] at hb; cases hb
      exact .base (.lst hl)
    · rename_i xs hx
      cases e
      obtain ⟨b, hb, ys, hl, rs⟩ := S.at hx
      rw [ha] at hb; cases hb
      exact .base (.dK hl)
    · rename_i xs hx
      cases e
      obtain ⟨b, hb, ys, hl, rs⟩ := S.at hx
      rw [ha] at hb; cases hb
      exact .base (.dT hl)
    · cases e
def tyNames : List String := ["NoneType", "bool", "int", "str", "tuple", "list", "dict"]
def isB (t T : String) : Option Bool := if tyNames.contains t && tyNames.contains T then some (t == T || (t == "bool" && T == "int")) else none
theorem isB_all : (tyNames.all fun t => tyNames.all fun T => kitB t T == some (t == T || (t == "bool" && T == "int"))) = true := by decide +kernel
theorem isB_ok {t T : String} {b : Bool} (h : isB t T = some b) : kitB t T = some b := by
  unfold isB at h
  split at h
  · rename_i hc
    rw [Bool.and_eq_true, List.contains_iff_mem, List.contains_iff_mem] at hc
    have q := List.all_eq_true.mp (List.all_eq_true.mp isB_all t hc.1) T hc.2
    rw [beq_iff_eq] at q
    rw [q]; exact h
  · cases h
def isAny (t : String) : List W → Option Bool
  | [] => some false
  | .ty T :: r => match isB t T, isAny t r with
    | some b, some b' => some (b || b')
    | _, _ => none
  | _ :: _ => none
def gIsi : List W → HH → Rs W
  | [w, .ty T], h => match (tyW h w).bind fun t => isB t T with
    | some b => .ok (.bl b) h
    | none => .bad
  | [w, .tup cs], h => match (tyW h w).bind fun t => isAny t cs with
    | some b => .ok (.bl b) h
    | none => .bad
  | _, _ => .bad
theorem isAny_ok {K : PySem.W.Frag} {ι : List Addr} {H : Hp} {t : String} : ∀ {cs : List W} {vs : List V} {b : Bool}, RWs K ι H cs vs → isAny t cs = some b → ∃ us, Paired ClsV vs us ∧ PySem.W.kitAny K (.type t) us = some b
  | [], _, _, .nil, e => by cases e; exact ⟨[], .nil, rfl⟩
  | .ty T :: r, _, b, .cons q tl, e => by
    cases q
    simp only [isAny] at e
    split at e
    · rename_i b1 b2 h1 h2
      cases e
      obtain ⟨us, p, k⟩ := isAny_ok tl h2
      refine ⟨_, .cons (.ty T) p, kitAny_cons (b := b1) (kit_ty (isB_ok h1)) (fun z => ?_) fun z => ?_⟩
      · subst z; exact k
      · subst z; rfl
    · cases e
theorem dc_isi : DC X (.builtin "isinstance") gIsi := callr_any fun vs H Q ⟨ι, h, ws, S, r, A⟩ => by
  unfold gIsi at A
  split at A
  · obtain ⟨v, u, rfl, rv, ru⟩ := rws2 r
    cases ru
    split at A
    · rename_i b hb
      obtain ⟨t, h1, h2⟩ := Option.bind_eq_some_iff.mp hb
      exact ⟨_, call_isi, _, _, _, _, b, rfl, .ty _, ty_at S rv h1, kit_ty (isB_ok h2), A.now S _ (.bl _)⟩
    · exact A.elim
  · obtain ⟨v, u, rfl, rv, ru⟩ := rws2 r
    cases ru with
    | tup hs rs =>
    split at A
    · rename_i b hb
      obtain ⟨t, h1, h2⟩ := Option.bind_eq_some_iff.mp hb
      obtain ⟨us, p, k⟩ := isAny_ok rs h2
      rcases hs with hs | ⟨o, its, n, k1, k2, k3, k4, k5⟩
      · exact ⟨_, call_isiT, _, _, _, _, us, b, rfl, hs, p, ty_at S rv h1, k, A.now S _ (.bl _)⟩
      · have e := ClsV.all p k5
        obtain ⟨cls, dd, data, sl⟩ := o
        simp only at k2 k3
        subst k2 k3
        refine ⟨_, call_isiK, _, _, dd, us, n, sl, _, b, rfl, ?_, ty_at S rv h1, k, A.now S _ (.bl _)⟩
        rw [k1, ← e]
    · exact A.elim
  · exact A.elim

/-! ### subscripts -/
def gIx : W → W → HH → Rs W
  | .str z, .int i, h => if z.length ≤ lim then (match atI z.cps.toList i with
      | some c => .ok (.str ⟨#[c]⟩) h
      | none => .bad) else .bad
  | x, .int i, h => match seqW h x with
      | some xs => match atI xs i with
        | some w => .ok w h
        | none => .bad
      | none => .bad
  | _, _, _ => .bad
theorem RWs.atI {K : PySem.W.Frag} {ι : List Addr} {H : Hp} {xs : List W} {ys : List V} {i : Int} {w : W} (r : RWs K ι H xs ys) (e : L2.atI xs i = some w) : ∃ v, L2.atI ys i = some v ∧ RW K ι H w v := by
  unfold L2.atI at e ⊢
  obtain ⟨j, h1, h2⟩ := Option.bind_eq_some_iff.mp e
  obtain ⟨v, e1, rv⟩ := r.get h2
  exact ⟨v, by rw [← r.length, h1]; exact e1, rv⟩
theorem dx_ix : IxR X (rDop X.K gIx) := fun value slice pins s σ H x y v u Q I rx ry q hs => by
  obtain ⟨ι, h, w, z, S, rw', rz, A⟩ := q
  unfold gIx at A
  split at A
  · cases rz; cases rw'
    split at A
    · rename_i hl
      split at A
      · rename_i c hc
        exact ix_seq value slice pins s σ H _ _ v u Q I rx ry (.inr (.inr ⟨_, _, c, rfl, rfl, lim_le hl, hc, A.now S _ (.str _)⟩)) hs
      · exact A.elim
    · exact A.elim
  · cases rz
    split at A
    · rename_i xs hx
      split at A
      · rename_i w' hw
        obtain ⟨a, ys, rfl, hsq, rs⟩ := seq_at S rw' hx
        obtain ⟨v', e1, rv⟩ := rs.atI hw
        rcases hsq with hsq | hsq
        · exact ix_seq value slice pins s σ H _ _ v u Q I rx ry (.inl ⟨_, _, _, _, rfl, rfl, hsq, e1, A.now S _ rv⟩) hs
        · exact ix_seq value slice pins s σ H _ _ v u Q I rx ry (.inr (.inl ⟨_, _, _, _, rfl, rfl, hsq, e1, A.now S _ rv⟩)) hs
      · exact A.elim
    · exact A.elim
  · exact A.elim
theorem de_ix (ha : DE X Wx a ma) (hb : DE X Wx b mb) (hs : PlainIx b := by exact fun _ _ => rfl) : DE X Wx (.Subscript a b pos) (mBin gIx ma mb) :=
  (pe_ix dx_ix ha hb hs).imp fun σ H Q ⟨ι, s, h, S, R, A⟩ => ⟨ι, s, h, S, R, A.bind.imp (fun ι1 h1 H1 x p1 g1 S1 A1 v rv => ⟨ι1, s, h1, S1, R.mono p1 g1,
    A1.bind.imp (fun ι2 h2 H2 y p2 g2 S2 A2 u ru => ⟨ι2, h2, x, y, S2, rv.mono p2 g2, ru, A2.cut⟩) idX⟩) idX⟩

/-! ### slices -/
abbrev MO := Sl → HH → Rs (Option Int)
@[simp] def mPart : Option ME → MO
  | none => fun _ h => .ok none h
  | some m => fun s h => (m s h).bind fun w h1 => match w with
    | .int i => .ok (some i) h1
    | _ => .bad
def tDO (K : PySem.W.Frag) (Wx : WJ) (m : MO) : TO := fun σ H Q => ∃ ι s h, Sim K ι h H ∧ RSl K Wx.J ι H s σ ∧ After K ι H (fun _ _ H' o => Q o H') (exE K Wx σ) (m s h)
def DO (X : Cx) (Wx : WJ) (e : Option Expr) (m : MO) : Prop := PO X e (tDO X.K Wx m)
theorem PO.imp {e : Option Expr} {t t' : TO} (p : PO X e t) (h : ∀ σ H Q, t' σ H Q → t σ H Q) : PO X e t' := ⟨fun pins s σ H Q I z => p.run pins s σ H Q I (h _ _ _ z)⟩
theorem do_none : DO X Wx none (mPart none) := PO.imp po_none fun σ H Q ⟨ι, s, h, S, R, A⟩ => A.now S
theorem do_some (ha : DE X Wx a ma) : DO X Wx (some a) (mPart (some ma)) := PO.imp (po_some ha) fun σ H Q ⟨ι, s, h, S, R, A⟩ => ⟨ι, s, h, S, R, A.bind.imp (fun ι1 h1 H1 x p1 g1 S1 A1 v rv => by
    split at A1
    · cases rv; exact ⟨_, rfl, A1.now S1⟩
    · exact A1.elim) idX⟩
def cutW (xs : List W) (lo hi : Option Int) : List W := (xs.drop (HT.sIx xs.length 0 lo)).take (HT.sIx xs.length xs.length hi - HT.sIx xs.length 0 lo)
def gSl : W → Option Int → Option Int → HH → Rs W
  | .tup xs, lo, hi, h => if HT.sIx xs.length 0 lo = 0 ∧ HT.sIx xs.length xs.length hi = xs.length then .bad else .ok (.tup (cutW xs lo hi)) h
  | .str z, lo, hi, h => if z.length ≤ lim then .ok (.str (cutS z lo hi)) h else .bad
  | x, lo, hi, h => match lstW h x with
    | some xs => .ok (.ref h.length) (h ++ [.lst (cutW xs lo hi)])
    | none => .bad
theorem RWs.cut {K : PySem.W.Frag} {ι : List Addr} {H : Hp} {xs : List W} {ys : List V} (r : RWs K ι H xs ys) (lo hi : Option Int) : RWs K ι H (cutW xs lo hi) (cutV ys lo hi) := by
  unfold cutW cutV
  rw [r.length]
  exact (r.drop _).take _
def rDsl (K : PySem.W.Frag) : V → Option Int → Option Int → Hp → VK → Prop := fun x lo hi H Q => ∃ ι h w, Sim K ι h H ∧ RW K ι H w x ∧ After K ι H (okV K Q) exN (gSl w lo hi h)
theorem dx_sl : SlR X (rDsl X.K) := by
  intro pins s σ H x v vl vu lo hi sl Q I rx hs pl pu q
  obtain ⟨ι, h, w, S, r, A⟩ := q
  unfold gSl at A
  split at A
  · cases r with
    | tup ht rs =>
    split at A
    · exact A.elim
    · rename_i hn
      exact sl_tup pins s σ H _ v vl vu lo hi sl Q I rx hs pl pu ⟨_, _, rfl, ht.sq, by rw [← rs.length]; exact hn, fun p hp => new_tup S (rs.cut lo hi) A hp⟩
  · cases r
    split at A
    · rename_i hl
      exact sl_str pins s σ H _ v vl vu lo hi sl Q I rx hs pl pu ⟨_, rfl, lim_le hl, A.now S _ (.str _)⟩
    · exact A.elim
  · split at A
    · rename_i xs hx
      obtain ⟨a, ys, rfl, hsq, rs⟩ := lst_at S r hx
      exact sl_list pins s σ H _ v vl vu lo hi sl Q I rx hs pl pu ⟨_, _, rfl, hsq, fun p hp => new_lst S (rs.cut lo hi) A hp⟩
    · exact A.elim
@[simp] def mSl (m : ME) (l u : MO) : ME := fun s h => (m s h).bind fun x h1 => (l s h1).bind fun lo h2 => (u s h2).bind fun hi h3 => D.cut (gSl x lo hi h3)
theorem de_slice {lo hi : Option Expr} {ml mu : MO} {p2 : Pos} (ha : DE X Wx a ma) (hl : DO X Wx lo ml) (hu : DO X Wx hi mu) : DE X Wx (.Subscript a (.Slice lo hi none p2) pos) (mSl ma ml mu) :=
  (pe_slice dx_sl ha hl hu).imp fun σ H Q ⟨ι, s, h, S, R, A⟩ => ⟨ι, s, h, S, R, A.bind.imp (fun ι1 h1 H1 x p1 g1 S1 A1 v rv => ⟨ι1, s, h1, S1, R.mono p1 g1,
    A1.bind.imp (fun ι2 h2 H2 y p2 g2 S2 A2 => ⟨ι2, s, h2, S2, (R.mono p1 g1).mono p2 g2, A2.bind.imp (fun ι3 h3 H3 z p3 g3 S3 A3 => ⟨ι3, h3, x, S3, (rv.mono p2 g2).mono p3 g3, A3.cut⟩) idX⟩) idX⟩) idX⟩
end
end D
/-! D: defs, their promises, calls. -/
namespace D
open PySem PySem.Spec PyProof.Rows
open L2 hiding XE Takes CX ps_raise mk_of pmk_own passAt takes_of passes_call MkP PMk ps_try_as ps_try_many
open L2N hiding St

/-- room, and no repr is under way -/
structure RmG (k : Nat) (A : Around) : Prop where
  r : Room k A
  g : A.guards = some []
theorem RmG.mono {j k : Nat} {A : Around} (r : RmG k A) (h : j ≤ k) : RmG j A := ⟨r.r.mono h, r.g⟩
theorem RmG.deeper {k : Nat} {A : Around} (r : RmG (k + 1) A) (env : Env) : RmG k (A.deeper env) := ⟨r.r.deeper env, r.g⟩

/-- a def keeps a promise wherever no repr is under way -/
structure FnG (P : Program) (w : World) (K : PySem.W.Frag) (mg : Str → Option Value) (base : Heap) (k : Nat) (f : Addr) (fd : FuncData) (ps : List Str) (sp : Sp) : Prop where
  len : ∀ vs H Q E, sp vs H Q E → vs.length = ps.length
  go : ∀ (A : Around) (outer : List Env) (s : Shared) (H : Hp) (args : Args) (us : List Value) (vs : List V) (Q : VK) (E : XK),
    RmG k A → Env0 P w K mg base A outer s H → BindsTo s fd args (ps.zip us) → Vals vs us → sp vs H Q E →
      codeAny (model P w) A (.call (.ref f) args) (CR (L2N.CX P w) outer P w H s Q E) s
section
variable {P : Program} {w : World} {K : PySem.W.Frag} {mg : Str → Option Value} {base : Heap}
theorem FnG.imp {k : Nat} {f : Addr} {fd : FuncData} {ps : List Str} {sp sp' : Sp} (F : FnG P w K mg base k f fd ps sp) (h : ∀ vs H Q E, sp' vs H Q E → sp vs H Q E) : FnG P w K mg base k f fd ps sp' where
  len := fun vs H Q E q => F.len vs H Q E (h _ _ _ _ q)
  go := fun A outer s H args us vs Q E r e b v q => F.go A outer s H args us vs Q E r e b v (h _ _ _ _ q)
theorem FnG.up {j k : Nat} {f : Addr} {fd : FuncData} {ps : List Str} {sp : Sp} (F : FnG P w K mg base j f fd ps sp) (h : j ≤ k) : FnG P w K mg base k f fd ps sp where
  len := F.len
  go := fun A outer s H args us vs Q E r => F.go A outer s H args us vs Q E (r.mono h)
/-- from a body to the promise -/
theorem fng_body {k : Nat} {f : Addr} {fd : FuncData} {x qual : Str} {st : Stmt} {N ps : List Str} {sp : Sp} (F : Fun K x qual st f fd) (S : FnScope N ps (defScope st)) (len : ∀ vs H Q E, sp vs H Q E → vs.length = ps.length)
    (body : ∀ (cdv : Value) (A : Around) (outer : List Env) (s : Shared) (H : Hp) (vs : List V) (Q : VK) (E : XK), RmG k (A.deeper (envOfC qual (defScope st) s.heap.objs.size f cdv)) → sp vs H Q E →
      ∃ t, PSs (cxOf (L2N.CX P w) P w K mg base N qual (defScope st) f cdv A outer s H E) (defBody st) t ∧ t { nx := fun _ H' => Q .non H', rt := Q } (L2.start N vs) H) :
    FnG P w K mg base (k + 1) f fd ps sp := by
  obtain ⟨oc, od, kV, doc, pm, an, cdv, ct, osl, rfl, lk, hcode⟩ := F.ex
  constructor
  · exact len
  intro A outer s H args us vs Q E rm env0 bnd rel promise
  have n := len _ _ _ _ promise
  have inK : K.In s.heap := env0.mod.kin.keeps fun b o q => (env0.bs b o q).1
  have noLim : s.heap.NoLimit := env0.mod.nolimit.keeps fun b o q => (env0.bs b o q).1
  have kinds : ∀ z ∈ ps.zip us, (defScope st).names.lookup z.1 = some .local ∨ ((defScope st).names.lookup z.1 = some .cell ∧ ((cellsFrom (s.heap.objs.size + 1) (defScope st).names []).lookup z.1).isSome = true) := by
    rintro ⟨y, v⟩ hz
    rcases S.par y (List.of_mem_zip hz).1 with q | q
    · left; exact q
    · right; exact ⟨q, PySem.W.cellsFrom_some _ _ _ (.inl q)⟩
  refine codeAny_call_function rm.r.depth (inK _ _ lk) rfl S.co S.gen rfl (PySem.W.codeRec_of inK hcode) (bnd _ _ _ _ ?_)
  refine wpAny_newFunctionEnv_cells S.kind kinds fun env eq s1 inside => ?_
  subst eq
  refine ⟨noLim.keeps inside.toInCall.keep, codeAny_func ?_⟩
  obtain ⟨t, der, read⟩ := body cdv A outer s H vs Q E (rm.deeper _) promise
  have J := inv_start (CX := L2N.CX P w) (E := E) S rm.r.hd env0 n rel inside
  refine wpAny_mono (der.run [] s1 (L2.start N vs) H _ J read) ?_ fun e s' z => z
  intro fl s' z
  have close : ∀ {σ' : L2.St} {H' : Hp} {v : V} {u : Value}, Inv (cxOf (L2N.CX P w) P w K mg base N qual (defScope st) f cdv A outer s H E) [] σ' H' s' → RelV v u → Q v H' → CE outer P w H s Q u s' := by
    intro σ' H' v u I r q
    exact ⟨v, H', I.os, I.bare, I.base, I.hok, r, q⟩
  cases fl with
  | next => obtain ⟨σ', H', I, q⟩ := z; exact close (v := .non) (u := Value.none) I rfl q
  | ret u => obtain ⟨v, σ', H', I, r, q⟩ := z; exact close I r q
  | brk => obtain ⟨_, _, _, q⟩ := z; exact q.elim
  | cont => obtain ⟨_, _, _, q⟩ := z; exact q.elim
end

/-! ### a promise by a computed function -/
abbrev MF := List W → HH → Rs W
def exF (K : PySem.W.Frag) (E : XK) : ExK := fun ι H C fs _ => ∀ (d : Option Addr) gs, XD H d gs → RF K ι H fs gs → E (.ref (cAt K C)) d H
def spM (K : PySem.W.Frag) (n : Nat) (M : MF) : Sp := fun vs H Q E => ∃ ι ws h, vs.length = n ∧ Sim K ι h H ∧ RWs K ι H ws vs ∧ After K ι H (okV K Q) (exF K E) (M ws h)
abbrev FnM (P : Program) (w : World) (K : PySem.W.Frag) (mg : Str → Option Value) (base : Heap) (k : Nat) (f : Addr) (fd : FuncData) (ps : List Str) (M : MF) : Prop := FnG P w K mg base k f fd ps (spM K ps.length M)
/-- a body's result -/
def outS : Rs (Fl × Sl) → Rs W
  | .ok (.nx, _) h => .ok .non h
  | .ok (.ret w, _) h => .ok w h
  | .ok _ _ => .bad
  | .exc C fs s h => .exc C fs s h
  | .bad => .bad
@[simp] theorem outS_ret (w : W) (s : Sl) (h : HH) : outS (.ok (.ret w, s) h) = .ok w h := rfl
@[simp] theorem outS_nx (s : Sl) (h : HH) : outS (.ok (.nx, s) h) = .ok .non h := rfl
@[simp] theorem outS_exc (C fs) (s : Sl) (h : HH) : outS (.exc C fs s h) = .exc C fs s h := rfl
@[simp] theorem outS_bad : outS .bad = .bad := rfl
@[simp] def runB (n : Nat) (m : MS) : MF := fun ws h => outS (m (ws.map some ++ List.replicate (n - ws.length) none) h)
theorem fnm_body {P : Program} {w : World} {K : PySem.W.Frag} {mg : Str → Option Value} {base : Heap} {k : Nat} {f : Addr} {fd : FuncData} {x qual : Str} {st : Stmt} {N ps : List Str} {m : MS} (F : Fun K x qual st f fd) (S : FnScope N ps (defScope st))
    (body : ∀ (cdv : Value) (A : Around) (outer : List Env) (s : Shared) (H : Hp) (E : XK), RmG k (A.deeper (envOfC qual (defScope st) s.heap.objs.size f cdv)) →
      DSs (cxOf (L2N.CX P w) P w K mg base N qual (defScope st) f cdv A outer s H E) ⟨fun c d _ H' => E c d H', none⟩ (defBody st) m) : FnM P w K mg base (k + 1) f fd ps (runB N.length m) := by
  refine fng_body F S (fun vs H Q E ⟨ι, ws, h, e, _⟩ => e) fun cdv A outer s H vs Q E rm ⟨ι, ws, h, e, Si, r, Af⟩ => ⟨_, body cdv A outer s H E rm, ι, _, h, Si, RSl.start r N ?_, ?_⟩
  · have := congrArg List.length S.pre
    rw [List.length_take] at this
    rw [e]; omega
  · unfold runB at Af
    revert Af
    generalize m (ws.map some ++ List.replicate (N.length - ws.length) none) h = r'
    intro Af
    cases r' with
    | bad => exact Af
    | exc C fs s h => exact fun ι' H' p g S' σ d gs _ hd rf => Af ι' H' p g S' d gs hd rf
    | ok x h =>
      obtain ⟨fl, s'⟩ := x
      cases fl with
      | nx => exact fun ι' H' p g S' σ _ => Af ι' H' p g S' _ .non
      | ret w => exact fun ι' H' p g S' v rv => Af ι' H' p g S' v rv
      | brk => exact Af.elim
      | cnt => exact Af.elim

/-! ### calls -/
section
variable {X : Cx} {Wx : WJ} {pos p : Pos} {e : Expr} {es : List Expr} {mas : MA} {k : Nat} {f : Addr} {fd : FuncData} {ps : List Str} {M : MF} {x : Str}
/-- a callee's exception keeps the caller's slots -/
def atS {α : Type} (s : Sl) : Rs α → Rs α
  | .exc C fs _ h => .exc C fs s h
  | r => r
@[simp] theorem atS_ok {α : Type} (s : Sl) (a : α) (h : HH) : atS s (.ok a h) = .ok a h := rfl
@[simp] theorem atS_exc {α : Type} (s t : Sl) (C fs) (h : HH) : atS s (.exc C fs t h : Rs α) = .exc C fs s h := rfl
@[simp] theorem atS_bad {α : Type} (s : Sl) : atS s (.bad : Rs α) = .bad := rfl
@[simp] def mCall (M : MF) (q : MA) : ME := fun s h => (q s h).bind fun ws h1 => M ws h1
theorem go_fn {pins : List (Addr × Obj)} {σ : St} {H : Hp} {s : Shared} {Q : VK} {args : Args} {us : List Value} {vs : List V} (F : FnM X.prog X.w X.K X.mg X.base k f fd ps M) (rm : RmG k X.A) (tk : Takes X Wx.W)
    (I : Inv X pins σ H s) (r : Vals vs us) (hb : us.length = ps.length → BindsTo s fd args (ps.zip us)) (q : spM X.K ps.length M vs H Q (fun c d H' => Wx.W c d σ H')) :
    codeAny (model X.prog X.w) X.A (.call (.ref f) args) (fun r s' => match r with
      | .ok (.ret u) => EP X pins σ Q u s'
      | .ok _ => False
      | .error u => X.xe u s') s := by
  have n := F.len _ _ _ _ q
  have n2 : us.length = ps.length := by rw [← r.length]; exact n
  refine codeAny_mono (F.go X.A X.stack s H args us vs Q _ rm I.env0 (hb n2) r q) fun res s' z => ?_
  cases res with
  | error u =>
    have z' : L2N.CX X.prog X.w X.stack H s (fun c d H' => Wx.W c d σ H') u s' := z
    exact tk u s' (XE.of_call I (fun c d H' h => h) z')
  | ok fl =>
    cases fl with
    | ret u => exact I.after z
    | next => exact z
    | brk => exact z
    | cont => exact z

/-- argument lists have their length -/
class LenA (m : MA) (n : outParam Nat) : Prop where
  len : ∀ {s h ws h1}, m s h = .ok ws h1 → ws.length = n
instance : LenA mNil 0 := ⟨fun {s h ws h1} e => by cases e; rfl⟩
instance {p : ME} {q : MA} {n : Nat} [l : LenA q n] : LenA (mCons p q) (n + 1) := ⟨fun {s h ws h1} e => by
  unfold mCons at e
  cases h2 : p s h with
  | bad => rw [h2] at e; cases e
  | exc => rw [h2] at e; cases e
  | ok w h3 =>
    rw [h2, Rs.bind_ok] at e
    cases h4 : q s h3 with
    | bad => rw [h4] at e; cases e
    | exc => rw [h4] at e; cases e
    | ok ws' h5 =>
      rw [h4, Rs.bind_ok] at e
      cases e
      rw [List.length_cons, l.len h4]⟩
theorem ma_len {m : MA} {n : Nat} [l : LenA m n] {s : Sl} {h : HH} {ws : List W} {h1 : HH} (e : m s h = .ok ws h1) : ws.length = n := l.len e
/-! #### binding -/
@[simp] def pick {α : Type} (ix : List Nat) (l : List α) : List α := ix.filterMap fun i => l[i]?
/-- us by place, then ks by name, then the defaults ds: the parameter j takes the ix[j]-th of them -/
def BindsN (K : PySem.W.Frag) (fd : FuncData) (ps : List Str) (n : Nat) (ks : List Str) (ix : List Nat) (ds : List Value) : Prop :=
  ∀ (s : Shared) (us zs : List Value), K.In s.heap → us.length = n → zs.length = ks.length → BindsTo s fd ⟨us, ks.zip zs⟩ (ps.zip (pick ix (us ++ zs ++ ds)))
theorem RWs.pick {K : PySem.W.Frag} {ι : List Addr} {H : Hp} {xs : List W} {ys : List V} (r : RWs K ι H xs ys) : ∀ ix : List Nat, RWs K ι H (D.pick ix xs) (D.pick ix ys)
  | [] => .nil
  | i :: t => by
    unfold D.pick
    rw [List.filterMap_cons, List.filterMap_cons]
    have ih := RWs.pick r t
    unfold D.pick at ih
    cases e : xs[i]? with
    | some w =>
      obtain ⟨v, e1, rv⟩ := r.get e
      rw [e1]; exact .cons rv ih
    | none =>
      have : ys[i]? = none := by
        rw [List.getElem?_eq_none_iff] at e ⊢
        rw [← r.length]; exact e
      rw [this]; exact ih
theorem vals_pick {xs : List V} {ys : List Value} (r : Vals xs ys) : ∀ ix : List Nat, Vals (D.pick ix xs) (D.pick ix ys)
  | [] => .nil
  | i :: t => by
    unfold D.pick
    rw [List.filterMap_cons, List.filterMap_cons]
    have ih := vals_pick r t
    unfold D.pick at ih
    cases e : xs[i]? with
    | some w =>
      obtain ⟨v, e1, rv⟩ := r.get e
      rw [e1]; exact .cons rv ih
    | none => rw [r.none_of e]; exact ih
/-- constants as arguments -/
@[simp] def mCallK (M : MF) (ix : List Nat) (dw : List W) (q qk : MA) : ME := fun s h => (q s h).bind fun ws h1 => (qk s h1).bind fun zs h2 => M (pick ix (ws ++ zs ++ dw)) h2
def DK (X : Cx) (Wx : WJ) (kws : List Keyword) (m : MA) : Prop := PK X kws (tDA X.K Wx m)
theorem PK.imp {e : List Keyword} {t t' : TA} (p : PK X e t) (h : ∀ σ H Q, t' σ H Q → t σ H Q) : PK X e t' := ⟨fun po pins s σ H Q I z => p.run po pins s σ H Q I (h _ _ _ z)⟩
theorem dk_nil : DK X Wx [] mNil := PK.imp pk_nil fun σ H Q ⟨ι, s, h, S, R, A⟩ => A.now S [] .nil
theorem dk_cons {nm : Option Str} {kpos : Pos} {kws : List Keyword} {ma : ME} (ha : DE X Wx e ma) (hr : DK X Wx kws mas) : DK X Wx (⟨nm, e, kpos⟩ :: kws) (mCons ma mas) :=
  PK.imp (pk_cons ha hr) fun σ H Q ⟨ι, s, h, S, R, A⟩ => ⟨ι, s, h, S, R, A.bind.imp (fun ι1 h1 H1 x p1 g1 S1 A1 v rv => ⟨ι1, s, h1, S1, R.mono p1 g1,
    A1.bind.imp (fun ι2 h2 H2 y p2 g2 S2 A2 u ru => A2.now S2 _ (.cons (rv.mono p2 g2) ru)) idX⟩) idX⟩
theorem ex_FE {K : PySem.W.Frag} {ι : List Addr} {H : Hp} {Wx : WJ} {σ : St} {C fs s} (z : exE K Wx σ ι H C fs s) : exF K (fun c d H' => Wx.W c d σ H') ι H C fs s := z
/-- f(e, ..) -/
theorem de_call (F : FnM X.prog X.w X.K X.mg X.base k f fd ps M) (rm : RmG k X.A) (tk : Takes X Wx.W) (hg : Gl X x) (hm : X.mg x = some (.ref f)) (kp : PySem.W.keepIn X.K (.ref f) = true) (hb : Binds X.K fd ps []) (ha : DA X Wx (e :: es) mas)
    (hd : (x == ("__debug__" : Str)) = false := by decide) (he : starEach (e :: es) X.env = (false, eval e X.env) :: starEach es X.env := by rfl)
    (hpl : (backTo pos (starEach es X.env)).any (·.1) = false := by rfl) (hl : (e :: es).length = ps.length := by rfl) (hlen : ∀ s h ws h1, mas s h = .ok ws h1 → ws.length = (e :: es).length := by intro s h ws h1 e1; exact ma_len e1) :
    DE X Wx (.Call (.Name x p) (e :: es) [] pos) (mCall M mas) := by
  refine ⟨fun pins s σ H Q I z => ?_⟩
  obtain ⟨ι, sl, h, S, R, A⟩ := z
  refine wpAny_Call_Name_kw (ld_glob I hg hm ?_ hd)
  refine PySem.W.callWith_K (h₀ := X.base) I.ok.mod.kin kp ?_ he hpl
  have q : tDA X.K Wx mas σ H (fun vs H1 => spM X.K ps.length M vs H1 Q (fun c d H' => Wx.W c d σ H')) := by
    refine ⟨ι, sl, h, S, R, ?_⟩
    have B := After.bind (K := X.K) A
    revert B
    generalize hr : mas sl h = res
    intro B
    cases res with
    | bad => exact B
    | exc C fs s h => exact B
    | ok ws h1 =>
      have n1 := hlen _ _ _ _ hr
      exact fun ι1 H1 p1 g1 S1 vs r => ⟨ι1, ws, h1, by rw [← r.length, n1, hl], S1, r, (B ι1 H1 p1 g1 S1).imp (fun _ _ _ _ _ _ _ z => z) fun _ _ _ _ _ _ _ z => z⟩
  refine thn (ha.run pos pins s σ H _ I q) fun us s1 ⟨vs, H1, I1, r, q1⟩ => ⟨I1.kIn, ?_⟩
  exact wpAny_call (go_fn F rm tk I1 r (fun n => by
    have b := hb s1 us I1.kIn (by rw [List.append_nil]; exact n)
    rw [List.append_nil] at b
    exact b) q1)
end
end D
/-! D: calls with keywords, repr, statements. -/
namespace D
open PySem PySem.Spec PyProof.Rows
open L2 hiding XE Takes CX ps_raise mk_of pmk_own passAt takes_of passes_call MkP PMk ps_try_as ps_try_many
open L2N hiding St
section
variable {X : Cx} {Wx : WJ} {pos p : Pos} {e : Expr} {es : List Expr} {mas mks : MA} {k : Nat} {f : Addr} {fd : FuncData} {ps : List Str} {M : MF} {x : Str} {n : Nat} {ks : List Str} {ix : List Nat} {dw : List W} {dv : List V} {ds : List Value} {kws : List Keyword}
theorem pick_len {α : Type} : ∀ (ix : List Nat) (l : List α), (∀ i ∈ ix, i < l.length) → (pick ix l).length = ix.length
  | [], _, _ => rfl
  | i :: t, l, h => by
    have ih := pick_len t l fun j hj => h j (List.mem_cons_of_mem _ hj)
    have e := List.getElem?_eq_getElem (h i (List.mem_cons_self ..))
    unfold pick at ih ⊢
    rw [List.filterMap_cons, e]
    show (_ :: List.filterMap _ t).length = _
    rw [List.length_cons, List.length_cons, ih]
/-- constants -/
def RC (K : PySem.W.Frag) (dw : List W) (dv : List V) : Prop := ∀ ι H, RWs K ι H dw dv
theorem rc_nil {K : PySem.W.Frag} : RC K [] [] := fun _ _ => .nil
theorem rc_int {K : PySem.W.Frag} {dw : List W} {dv : List V} {i : Int} (r : RC K dw dv) : RC K (.int i :: dw) (.int i :: dv) := fun ι H => .cons (.int i) (r ι H)
/-- f(e, .., k = v, ..), f(k = v, ..), and defaults -/
theorem de_callK (F : FnM X.prog X.w X.K X.mg X.base k f fd ps M) (rm : RmG k X.A) (tk : Takes X Wx.W) (hg : Gl X x) (hm : X.mg x = some (.ref f)) (kp : PySem.W.keepIn X.K (.ref f) = true) (hb : BindsN X.K fd ps n ks ix ds) (hd1 : RC X.K dw dv) (hd2 : Vals dv ds)
    (ha : DA X Wx (e :: es) mas) (hk : DK X Wx kws mks) (hlen : ∀ s h ws h1, mas s h = .ok ws h1 → ws.length = n) (hlenk : ∀ s h ws h1, mks s h = .ok ws h1 → ws.length = ks.length) (hpk : ix.length = ps.length) (hix : ix.all (fun i => decide (i < n + ks.length + dw.length)) = true)
    (hall : (backToKw pos (keywordEach kws X.env)).all (·.1.isSome) = true := by rfl) (hks : (backToKw pos (keywordEach kws X.env)).filterMap (·.1) = ks := by rfl)
    (hd : (x == ("__debug__" : Str)) = false := by decide) (he : starEach (e :: es) X.env = (false, eval e X.env) :: starEach es X.env := by rfl)
    (hpl : ((backTo pos (starEach (e :: es) X.env)).any (·.1) || (backToKw pos (keywordEach kws X.env)).any (·.1.isNone)) = false := by rfl) :
    DE X Wx (.Call (.Name x p) (e :: es) kws pos) (mCallK M ix dw mas mks) := by
  refine ⟨fun pins s σ H Q I z => ?_⟩
  obtain ⟨ι, sl, h, S, R, A⟩ := z
  refine wpAny_Call_Name_kw (ld_glob I hg hm ?_ hd)
  refine PySem.W.callWith_KW (h₀ := X.base) I.ok.mod.kin kp hall ?_ hpl he
  have q : tDA X.K Wx mas σ H (fun vs H1 => vs.length = n ∧ tDA X.K Wx mks σ H1 fun zs H2 => zs.length = ks.length ∧ spM X.K ps.length M (pick ix (vs ++ zs ++ dv)) H2 Q (fun c d H' => Wx.W c d σ H')) := by
    refine ⟨ι, sl, h, S, R, ?_⟩
    have B := After.bind (K := X.K) A
    revert B
    generalize hr : mas sl h = res
    intro B
    cases res with
    | bad => exact B
    | exc C fs s h => exact B
    | ok ws h1 =>
      have n1 := hlen _ _ _ _ hr
      intro ι1 H1 p1 g1 S1 vs r
      refine ⟨by rw [← r.length]; exact n1, ι1, sl, h1, S1, R.mono p1 g1, ?_⟩
      have B1 := After.bind (K := X.K) (B ι1 H1 p1 g1 S1)
      revert B1
      generalize hr2 : mks sl h1 = res2
      intro B1
      cases res2 with
      | bad => exact B1
      | exc C fs s h => exact B1
      | ok zs h2 =>
        have n2 := hlenk _ _ _ _ hr2
        intro ι2 H2 p2 g2 S2 us ru
        have rr := ((r.mono p2 g2).append ru).append (hd1 ι2 H2)
        refine ⟨by rw [← ru.length]; exact n2, ι2, _, h2, ?_, S2, rr.pick ix, (B1 ι2 H2 p2 g2 S2).imp (fun _ _ _ _ _ _ _ z => z) fun _ _ _ _ _ _ _ z => z⟩
        have tl : (vs ++ us ++ dv).length = n + ks.length + dw.length := by
          rw [← rr.length, List.length_append, List.length_append, n1, n2]
        rw [pick_len ix _ (fun i hi => by rw [tl]; exact of_decide_eq_true (List.all_eq_true.mp hix i hi)), hpk]
  refine thn (ha.run pos pins s σ H _ I q) fun us s1 ⟨vs, H1, I1, r, n1, q1⟩ => ?_
  refine thn (PK.run hk pos pins s1 σ H1 _ I1 q1) fun zs s2 ⟨ws, H2, I2, rz, n2, q2⟩ => ⟨I2.kIn, ?_⟩
  rw [hks]
  refine wpAny_call (go_fn F rm tk I2 (us := pick ix (us ++ zs ++ ds)) (vals_pick ((r.append rz).append hd2) ix) (fun _ => ?_) q2)
  exact hb s2 us zs I2.kIn (by rw [← r.length]; exact n1) (by rw [← rz.length]; exact n2)
theorem de_callK0 (F : FnM X.prog X.w X.K X.mg X.base k f fd ps M) (rm : RmG k X.A) (tk : Takes X Wx.W) (hg : Gl X x) (hm : X.mg x = some (.ref f)) (kp : PySem.W.keepIn X.K (.ref f) = true) (hb : BindsN X.K fd ps 0 ks ix ds) (hd1 : RC X.K dw dv) (hd2 : Vals dv ds)
    (hk : DK X Wx kws mks) (hlenk : ∀ s h ws h1, mks s h = .ok ws h1 → ws.length = ks.length) (hpk : ix.length = ps.length) (hix : ix.all (fun i => decide (i < ks.length + dw.length)) = true)
    (hall : (backToKw pos (keywordEach kws X.env)).all (·.1.isSome) = true := by rfl) (hks : (backToKw pos (keywordEach kws X.env)).filterMap (·.1) = ks := by rfl)
    (hd : (x == ("__debug__" : Str)) = false := by decide)
    (hpl : ((backTo pos (starEach [] X.env)).any (·.1) || (backToKw pos (keywordEach kws X.env)).any (·.1.isNone)) = false := by rfl) :
    DE X Wx (.Call (.Name x p) [] kws pos) (mCallK M ix dw mNil mks) := by
  refine ⟨fun pins s σ H Q I z => ?_⟩
  obtain ⟨ι, sl, h, S, R, A⟩ := z
  refine wpAny_Call_Name_kw (ld_glob I hg hm ?_ hd)
  refine PySem.W.callWith_KW0 (h₀ := X.base) I.ok.mod.kin kp hall ?_ hpl
  have A' : After X.K ι H (okV X.K Q) (exE X.K Wx σ) ((mks sl h).bind fun zs h2 => M (pick ix ([] ++ zs ++ dw)) h2) := A
  have q : tDA X.K Wx mks σ H fun zs H2 => zs.length = ks.length ∧ spM X.K ps.length M (pick ix (zs ++ dv)) H2 Q (fun c d H' => Wx.W c d σ H') := by
    refine ⟨ι, sl, h, S, R, ?_⟩
    have B1 := After.bind (K := X.K) A'
    revert B1
    generalize hr2 : mks sl h = res2
    intro B1
    cases res2 with
    | bad => exact B1
    | exc C fs s h => exact B1
    | ok zs h2 =>
      have n2 := hlenk _ _ _ _ hr2
      intro ι2 H2 p2 g2 S2 us ru
      have rr := ru.append (hd1 ι2 H2)
      refine ⟨by rw [← ru.length]; exact n2, ι2, _, h2, ?_, S2, rr.pick ix, (B1 ι2 H2 p2 g2 S2).imp (fun _ _ _ _ _ _ _ z => z) fun _ _ _ _ _ _ _ z => z⟩
      have tl : (us ++ dv).length = ks.length + dw.length := by rw [← rr.length, List.length_append, n2]
      rw [pick_len ix _ (fun i hi => by rw [tl]; exact of_decide_eq_true (List.all_eq_true.mp hix i hi)), hpk]
  refine thn (PK.run hk pos pins s σ H _ I q) fun zs s2 ⟨ws, H2, I2, rz, n2, q2⟩ => ⟨I2.kIn, ?_⟩
  rw [hks]
  refine wpAny_call (go_fn F rm tk I2 (us := pick ix (zs ++ ds)) (vals_pick (rz.append hd2) ix) (fun _ => ?_) q2)
  exact hb s2 [] zs I2.kIn rfl (by rw [← rz.length]; exact n2)

/-! ### repr -/
def shk : PyData → Bool := fun d => d.showable && d.canLay0 && decide (d.depth ≤ 64) && d.leavesShort 40 && decide (42 * d.weight + 40 ≤ lim)
def gRepr : List W → HH → Rs W
  | [w], h => match datW h fuelD w with
    | some d => if shk d = true then .ok (.str d.shown) h else .bad
    | none => .bad
  | _, _ => .bad
theorem dc_repr (hg : X.A.guards = some []) (hu : X.A.units + 100 < cLine) : DC X (.builtin "repr") gRepr := fun pins s σ H vs us Q I rx q => by
  obtain ⟨ι, h, ws, S, r, A⟩ := q
  unfold gRepr at A
  split at A
  · split at A
    · rename_i d hd
      split at A
      · rename_i hs
        unfold shk at hs
        simp only [Bool.and_eq_true, decide_eq_true_eq] at hs
        obtain ⟨⟨⟨⟨h1, h2⟩, h3⟩, h4⟩, h5⟩ := hs
        obtain ⟨v, rfl, rv⟩ := rws1 r
        cases rx with
        | cons r1 t =>
          cases t
          rename_i u
          have hq := A.now S _ (.str _)
          have dp := dat_dp S _ _ _ _ rv hd
          obtain ⟨as, rd⟩ := Dp.reads I d v u dp r1
          have hsz : d.shown.length ≤ sizeLine := lim_le (Nat.le_trans (PyData.shown_le 40 (by decide) d h4) h5)
          have hnd : d.hasDict = false := PyData.hasDict_of_canLay d h2
          have fin : ∀ (h' : Heap) (t : Tok) (tk : Nat), (∀ b o, s.heap.get? b = some o → h'.get? b = some o) → EP X pins σ Q (.str d.shown t) { s with heap := h', toks := tk } := fun h' t tk k => ⟨.str d.shown, H, I.kept k, ⟨t, rfl⟩, hq⟩
          have self : ∀ {s' : Shared}, s' = s → ∀ (t : Tok) (tk : Nat), EP X pins σ Q (.str d.shown t) { s' with toks := tk } := fun e t tk => by
            subst e; exact ⟨.str d.shown, H, I.tok tk, ⟨t, rfl⟩, hq⟩
          cases dp with
          | non => cases r1; exact PySem.P.repr_of_none (by simpa only [PyData.shown] using self rfl s.toks (s.toks + 1))
          | bl b => cases r1; exact PySem.P.repr_of_bool (by simpa only [PyData.shown] using self rfl s.toks (s.toks + 1))
          | int i => obtain ⟨t, rfl⟩ := r1; exact PySem.P.repr_of_int (by simpa [PyData.showable] using h1) (by simpa only [PyData.shown] using self rfl s.toks (s.toks + 1))
          | str y => obtain ⟨t, rfl⟩ := r1; exact PySem.P.repr_of_str (by simpa only [PyData.shown] using self rfl s.toks (s.toks + 1)) (by simpa only [PyData.shown] using hsz)
          | lst hl ha => cases r1; exact repr_of_reads' (h₀ := s.heap) rd h1 (PyData.noDict_hsm hnd) hg (by omega) (fun _ _ z => z) (fun h' t tk k => fin h' t tk k) hsz
          | tup hl ha => cases r1; exact repr_of_reads' (h₀ := s.heap) rd h1 (PyData.noDict_hsm hnd) hg (by omega) (fun _ _ z => z) (fun h' t tk k => fin h' t tk k) hsz
      · exact A.elim
    · exact A.elim
  · exact A.elim
end
end D
/-! D: statements, loops, comprehensions. -/
namespace D
open PySem PySem.Spec PyProof.Rows L2
section
variable {X : Cx} {Wx : WJ} {pos p : Pos} {e : Expr} {es : List Expr} {ma mb : ME} {mas : MA} {x : Str} {st : Stmt} {sts : List Stmt} {m m' : MS}

/-! ### blocks -/
@[simp] def sNx : MS := fun s h => .ok (.nx, s) h
@[simp] def sSeq (a b : MS) : MS := fun s h => (a s h).bind fun r h1 => match r with
  | (.nx, s1) => b s1 h1
  | r => .ok r h1
theorem dss_nil : DSs X Wx [] sNx := pss_nil.imp fun D σ H ⟨ι, s, h, S, R, A⟩ => A.now S σ R
theorem dss_one (h : DS X Wx st m) : DSs X Wx [st] m := pss_one h
theorem dss_cons (h1 : DS X Wx st m) (h2 : DSs X Wx sts m') : DSs X Wx (st :: sts) (sSeq m m') :=
  (pss_cons h1 h2).imp fun D σ H ⟨ι, s, h, S, R, A⟩ => ⟨ι, s, h, S, R, A.bind.imp (fun ι1 h1 H1 r p1 g1 S1 A1 => by
    obtain ⟨fl, s1⟩ := r
    cases fl with
    | nx => exact fun σ1 R1 => ⟨ι1, s1, h1, S1, R1, A1⟩
    | ret w => exact A1.now S1
    | brk => exact A1.now S1
    | cnt => exact A1.now S1) idX⟩
theorem dss_never : DSs X Wx sts (fun _ _ => .bad) := pss_never.imp fun D σ H ⟨ι, s, h, S, R, A⟩ => A
@[simp] def sBrk : MS := fun s h => .ok (.brk, s) h
@[simp] def sCnt : MS := fun s h => .ok (.cnt, s) h
theorem ds_pass : DS X Wx (.Pass pos) sNx := ps_pass.imp fun D σ H ⟨ι, s, h, S, R, A⟩ => A.now S σ R
theorem ds_break : DS X Wx (.Break pos) sBrk := ps_break.imp fun D σ H ⟨ι, s, h, S, R, A⟩ => A.now S σ R
theorem ds_continue : DS X Wx (.Continue pos) sCnt := ps_continue.imp fun D σ H ⟨ι, s, h, S, R, A⟩ => A.now S σ R

/-! ### from an expression's end to a statement's -/
theorem After.atS {α : Type} {K : PySem.W.Frag} {ι : List Addr} {H : Hp} {Ok : OkK α} {s : Sl} {σ : St} {r : Rs α} (a : After K ι H Ok (exS K Wx) (D.atS s r)) (R : RSl K Wx.J ι H s σ) : After K ι H Ok (exE K Wx σ) r := by
  cases r with
  | ok x h => exact a
  | bad => exact a
  | exc C fs t h => exact fun ι' H' p g S d gs hd rf => a ι' H' p g S σ d gs (R.mono p g) hd rf
@[simp] def sExp (m : ME) : MS := fun s h => (atS s (m s h)).bind fun _ h1 => .ok (.nx, s) h1
@[simp] def sRet (m : ME) : MS := fun s h => (atS s (m s h)).bind fun w h1 => .ok (.ret w, s) h1
@[simp] def sRetN : MS := fun s h => .ok (.ret .non, s) h
theorem ds_expr (he : DE X Wx e ma) (hs : swapsWith e none pos.line X.env = pure false := by rfl) : DS X Wx (.Expr e pos) (sExp ma) :=
  (ps_expr he hs).imp fun D σ H ⟨ι, s, h, S, R, A⟩ => ⟨ι, s, h, S, R, (A.bind.atS R).imp (fun ι1 h1 H1 r p1 g1 S1 A1 v rv => A1.now S1 σ (R.mono p1 g1)) idX⟩
theorem ds_ret (he : DE X Wx e ma) : DS X Wx (.Return (some e) pos) (sRet ma) :=
  (ps_ret he).imp fun D σ H ⟨ι, s, h, S, R, A⟩ => ⟨ι, s, h, S, R, (A.bind.atS R).imp (fun ι1 h1 H1 r p1 g1 S1 A1 v rv => A1.now S1 v rv) idX⟩
theorem ds_retN : DS X Wx (.Return none pos) sRetN := ps_retN.imp fun D σ H ⟨ι, s, h, S, R, A⟩ => A.now S _ .non
@[simp] def sIf (t : MT) (a b : MS) : MS := fun s h => (atS s (t s h)).bind fun k h1 => if k = true then a s h1 else b s h1
theorem ds_if {c : Expr} {t : MT} {sts' : List Stmt} (hc : DT X Wx c t) (ha : DSs X Wx sts m) (hb : DSs X Wx sts' m') : DS X Wx (.If c sts sts' pos) (sIf t m m') :=
  (ps_if hc ha hb).imp fun D σ H ⟨ι, s, h, S, R, A⟩ => ⟨ι, s, h, S, R, (A.bind.atS R).imp (fun ι1 h1 H1 k p1 g1 S1 A1 => by
    cases k with
    | true => rw [if_pos rfl] at A1; show tDS X.K Wx m D σ H1; exact ⟨ι1, s, h1, S1, R.mono p1 g1, A1⟩
    | false => rw [if_neg Bool.false_ne_true] at A1; show tDS X.K Wx m' D σ H1; exact ⟨ι1, s, h1, S1, R.mono p1 g1, A1⟩) idX⟩

/-! ### stores -/
@[simp] def sSet (i : Nat) (m : ME) : MS := fun s h => (atS s (m s h)).bind fun w h1 => .ok (.nx, s.set i (some w)) h1
theorem set_go {K : PySem.W.Frag} {i : Nat} {D : Ends} {σ : St} {H : Hp} (z : tDS K Wx (sSet i ma) D σ H) : tAsg (tD K Wx ma) (gName i) D σ H := by
  obtain ⟨ι, s, h, S, R, A⟩ := z
  exact ⟨ι, s, h, S, R, (A.bind.atS R).imp (fun ι1 h1 H1 r p1 g1 S1 A1 v rv => A1.now S1 _ ((R.mono p1 g1).set rv i)) idX⟩
theorem ds_set {i : Nat} {pos' : Pos} (hN : X.N.Nodup) (hi : X.N[i]? = some x) (hx : Loc X.env.scope x) (he : DE X Wx e ma) (hs : swapsWith e (some (.Name x pos')) pos.line X.env = pure false := by rfl)
    (hf : X.fn x = true ∨ X.env.scope.names.lookup x = some .local := by first | exact .inl rfl | exact .inr rfl | assumption) : DS X Wx (.Assign [.Name x pos'] e pos) (sSet i ma) :=
  (ps_set hN hi hx he hs hf).imp fun D σ H z => set_go z
@[simp] def sPar (i j : Nat) (a b : ME) : MS := fun s h => (atS s (a s h)).bind fun w h1 => (atS s (b s h1)).bind fun u h2 => .ok (.nx, (s.set i (some w)).set j (some u)) h2
theorem ds_par {i j : Nat} {y : Str} {a b : Expr} {px py pt : Pos} {kt k2 pt2} (hc : X.calm = true) (hN : X.N.Nodup) (hi : X.N[i]? = some x) (hj : X.N[j]? = some y) (hij : i ≠ j)
    (hx : X.env.scope.names.lookup x = some .local) (hy : X.env.scope.names.lookup y = some .local) (ha : DE X Wx a ma) (hb : DE X Wx b mb)
    (hw : swappedStores [.Tuple [.Name x px, .Name y py] kt pt] (.Tuple [a, b] k2 pt2) X.env = pure (some [x, y]))
    (hs : swapsWithSole [.Tuple [.Name x px, .Name y py] kt pt] (.Tuple [a, b] k2 pt2) pos.line X.env = pure false := by rfl)
    (h1 : starEach (a :: [b]) X.env = (false, eval a X.env) :: starEach [b] X.env := by rfl) (h2 : starEach [b] X.env = (false, eval b X.env) :: starEach [] X.env := by rfl) :
    DS X Wx (.Assign [.Tuple [.Name x px, .Name y py] kt pt] (.Tuple [a, b] k2 pt2) pos) (sPar i j ma mb) :=
  (ps_par hc hN hi hj hij hx hy (pa_cons ha (pa_cons hb pa_nil h2) h1) hw hs).imp fun D σ H ⟨ι, s, h, S, R, A⟩ => ⟨ι, s, h, S, R, (A.bind.atS R).imp (fun ι1 h1 H1 r p1 g1 S1 A1 v rv =>
    ⟨ι1, s, h1, S1, R.mono p1 g1, (A1.bind.atS (R.mono p1 g1)).imp (fun ι2 h2 H2 u p2 g2 S2 A2 v2 rv2 => ⟨v, v2, rfl, A2.now S2 _ ((((R.mono p1 g1).mono p2 g2).set (rv.mono p2 g2) i).set rv2 j)⟩) idX⟩) idX⟩

/-! ### targets -/
@[simp] def gNm (i : Nat) : MG := fun w s h => .ok (s.set i (some w)) h
theorem dg_name {J : Option EX} {i : Nat} (hN : X.N.Nodup) (hi : X.N[i]? = some x) (hx : Loc X.env.scope x) (hf : X.fn x = true ∨ X.env.scope.names.lookup x = some .local := by first | exact .inl rfl | exact .inr rfl | assumption) : DG X J (.Name x pos) (gNm i) :=
  (pg_name hN hi hx hf).imp fun v σ H Q ⟨ι, s, h, w, S, R, r, A⟩ => A.now S _ (R.set r i)
abbrev MGs := List W → Sl → HH → Rs Sl
def tDGs (K : PySem.W.Frag) (J : Option EX) (m : MGs) : TGs := fun vs σ H Q => ∃ ι s h ws, Sim K ι h H ∧ RSl K J ι H s σ ∧ RWs K ι H ws vs ∧ After K ι H (okG K J Q) exN (m ws s h)
def DGs (X : Cx) (J : Option EX) (tg : List Expr) (m : MGs) : Prop := PGs X tg (tDGs X.K J m)
theorem PGs.imp {e : List Expr} {t t' : TGs} (p : PGs X e t) (h : ∀ v σ H Q, t' v σ H Q → t v σ H Q) : PGs X e t' := ⟨fun pins s σ H v u Q I r z => p.run pins s σ H v u Q I r (h _ _ _ _ z)⟩
@[simp] def gsNil : MGs := fun ws s h => match ws with
  | [] => .ok s h
  | _ => .bad
@[simp] def gsCons (g : MG) (gs : MGs) : MGs := fun ws s h => match ws with
  | w :: r => (g w s h).bind fun s1 h1 => gs r s1 h1
  | [] => .bad
theorem dgs_nil {J : Option EX} : DGs X J [] gsNil := PGs.imp pgs_nil fun vs σ H Q ⟨ι, s, h, ws, S, R, r, A⟩ => by
  unfold gsNil at A
  split at A
  · cases r; exact ⟨rfl, A.now S σ R⟩
  · exact A.elim
theorem dgs_cons {J : Option EX} {g : MG} {gs : MGs} (h1 : DG X J e g) (h2 : DGs X J es gs) (hs : (assignEach (e :: es) X.env).map (·.2) = assign e X.env :: (assignEach es X.env).map (·.2) := by rfl) : DGs X J (e :: es) (gsCons g gs) :=
  PGs.imp (pgs_cons h1 h2 hs) fun vs σ H Q ⟨ι, s, h, ws, S, R, r, A⟩ => by
    unfold gsCons at A
    split at A
    · cases r with
      | cons r t =>
      exact ⟨_, _, rfl, ι, s, h, _, S, R, r, A.bind.imp (fun ι1 h1 H1 s1 p1 g1 S1 A1 σ1 R1 => ⟨ι1, s1, h1, _, S1, R1, t.mono p1 g1, A1⟩) idX⟩
    · exact A.elim
@[simp] def gTp (n : Nat) (gs : MGs) : MG := fun w s h => match w with
  | .tup ws => if ws.length = n then gs ws s h else .bad
  | _ => .bad
theorem dg_tup {J : Option EX} {k n : Nat} {gs : MGs} (hc : X.calm = true) (h : DGs X J es gs) (hn : (assignEach es X.env).length = n := by rfl) (hst : (assignEach es X.env).findIdx? (·.1) = none := by rfl) : DG X J (.Tuple es k pos) (gTp n gs) :=
  (pg_tup hc h hn hst).imp fun v σ H Q ⟨ι, s, h, w, S, R, r, A⟩ => by
    unfold gTp at A
    split at A
    · cases r with
      | tup hq rs =>
      split at A
      · rename_i hl
        exact ⟨_, _, rfl, hq.sq, by rw [← rs.length]; exact hl, ι, s, h, _, S, R, rs, A⟩
      · exact A.elim
    · exact A.elim
/-- targets = e -/
@[simp] def sAsg (m : ME) (g : MG) : MS := fun s h => (atS s (m s h)).bind fun w h1 => (cut (g w s h1)).bind fun s1 h2 => .ok (.nx, s1) h2
theorem After.cutX {α : Type} {K : PySem.W.Frag} {ι : List Addr} {H : Hp} {Ok : OkK α} {Ex : ExK} {r : Rs α} (a : After K ι H Ok Ex (D.cut r)) : After K ι H Ok exN r := a.cut
theorem ds_asg {tg : Expr} {g : MG} (he : DE X Wx e ma) (hg : DG X Wx.J tg g) (hs : swapsWithSole [tg] e pos.line X.env = pure false := by rfl) (hw : swappedStores [tg] e X.env = pure none := by rfl)
    (h1 : (assignEach [tg] X.env).map (·.2) = [assign tg X.env] := by rfl) : DS X Wx (.Assign [tg] e pos) (sAsg ma g) :=
  (ps_asg he hg hs hw h1).imp fun D σ H ⟨ι, s, h, S, R, A⟩ => ⟨ι, s, h, S, R, (A.bind.atS R).imp (fun ι1 h1 H1 r p1 g1 S1 A1 v rv => ⟨ι1, s, h1, r, S1, R.mono p1 g1, rv,
    A1.bind.cutX.imp (fun ι2 h2 H2 s2 p2 g2 S2 A2 σ2 R2 => A2.now S2 σ2 R2) fun _ _ _ _ _ _ _ z => z.elim⟩) idX⟩
/-- o[i] = v, o a list -/
def gSetIx (ov iv w : W) (h : HH) : Rs Unit := match ov, iv with
  | .ref a, .int k => match h[a]? with
    | some (.lst xs) => match ixN xs.length k with
      | some j => .ok () (h.set a (.lst (xs.set j w)))
      | none => .bad
    | _ => .bad
  | _, _ => .bad
def rDset (K : PySem.W.Frag) : TSet := fun o i v H Q => ∃ ι h ow iw w, Sim K ι h H ∧ RW K ι H ow o ∧ RW K ι H iw i ∧ RW K ι H w v ∧ After K ι H (fun _ _ H' _ => Q H') exN (gSetIx ow iw w h)
theorem put_list {K : PySem.W.Frag} {ι : List Addr} {H : Hp} {h : HH} {i : Nat} {a : Addr} {xs : List W} {ys : List V} (S : Sim K ι h H) (e : ι[i]? = some a) (r : RWs K ι H xs ys) :
    Sim K ι (h.set i (.lst xs)) (upd H a (.lst ys)) ∧ Grow ι ι H (upd H a (.lst ys)) := by
  obtain ⟨u, hu, ni⟩ := S.there e
  have g : Grow ι ι H (upd H a (.lst ys)) := Grow.put (List.mem_of_getElem? e) hu ni
  exact ⟨S.put e ⟨ys, upd_same, r.mono (List.prefix_refl _) g⟩, g⟩
theorem dset_list : PSet X (rDset X.K) := fun pins s σ H o i v ov iv u Q I ro ri rv z => by
  obtain ⟨ι, h, ow, iw, w, S, row, riw, rw', A⟩ := z
  unfold gSetIx at A
  split at A
  · cases riw
    cases row with
    | ref ea =>
    split at A
    · rename_i xs hx
      obtain ⟨b, hb, ys, hl, rs⟩ := S.at hx
      rw [ea] at hb; cases hb
      split at A
      · rename_i j hj
        obtain ⟨S2, g2⟩ := put_list S ea (rs.set rw' j)
        exact set_list pins s σ H _ _ v ov iv u Q I ro ri rv ⟨_, _, _, j, rfl, rfl, hl, by rw [← rs.length]; exact hj, A ι _ (List.prefix_refl _) g2 S2⟩
      · exact A.elim
    · exact A.elim
  · exact A.elim
@[simp] def gSb (o i : ME) : MG := fun w s h => (cut (o s h)).bind fun ow h1 => (cut (i s h1)).bind fun iw h2 => (gSetIx ow iw w h2).bind fun _ h3 => .ok s h3
theorem dg_sub {o i : Expr} {mo mi : ME} (ho : DE X Wx o mo) (hi : DE X Wx i mi)
    (ha : ∀ v, assign (.Subscript o i pos) X.env v = (do
      let ov ← holding [v] (eval o X.env)
      let iv ← holding [v, ov] (eval i X.env)
      standAt pos
      holding [v, ov, iv] (setItem ov iv v)
      release [v, ov, iv] []) := by intro _; rfl) : DG X Wx.J (.Subscript o i pos) (gSb mo mi) :=
  (pg_sub ho hi dset_list ha).imp fun v σ H Q ⟨ι, s, h, w, S, R, r, A⟩ => ⟨ι, s, h, S, R, A.bind.cut.imp (fun ι1 h1 H1 ow p1 g1 S1 A1 ov rov => ⟨ι1, s, h1, S1, R.mono p1 g1,
    A1.bind.cut.imp (fun ι2 h2 H2 iw p2 g2 S2 A2 iv riv => ⟨ι2, h2, ow, iw, w, S2, rov.mono p2 g2, riv, (r.mono p1 g1).mono p2 g2,
      A2.bind.imp (fun ι3 h3 H3 _ p3 g3 S3 A3 => A3.now S3 σ (((R.mono p1 g1).mono p2 g2).mono p3 g3)) idX⟩) idX⟩) idX⟩

/-! ### xs.append(e) -/
/-- a method of a list -/
def isL (h : HH) : W → Bool
  | .ref i => match h[i]? with
    | some (.lst _) => true
    | _ => false
  | .fl _ => true
  | _ => false
@[simp] def mMth (gm : W → List W → HH → Rs W) (o : ME) (q : MA) : ME := fun s h => (o s h).bind fun ow h1 => if isL h1 ow = true then (q s h1).bind fun ws h2 => cut (gm ow ws h2) else .bad
def rDm (K : PySem.W.Frag) (gm : W → List W → HH → Rs W) : V → List V → Hp → VK → Prop := fun x vs H Q => ∃ ι h w ws, Sim K ι h H ∧ RW K ι H w x ∧ RWs K ι H ws vs ∧ After K ι H (okV K Q) exN (gm w ws h)
theorem mtr_any {id : String} {r' : V → List V → Hp → VK → Prop} (hh : ∀ x vs H Q, r' x vs H Q → ∃ r, MtR X id r ∧ r x vs H Q) : MtR X id r' := by
  intro pins s σ H x v xs us Q
  intros
  first
    | (rename_i I rx rv q; obtain ⟨r, m, z⟩ := hh _ _ _ _ q; exact m pins s σ H _ _ _ _ Q I rx rv z)
    | skip
theorem lim_lt {n : Nat} (h : n < lim) : n < sizeLine := Nat.lt_of_lt_of_le h (by rw [sizeLine_eq]; decide)
theorem isL_ty {K : PySem.W.Frag} {ι : List Addr} {H : Hp} {h : HH} {w : W} {v : V} (S : Sim K ι h H) (r : RW K ι H w v) (e : isL h w = true) : tyV K "list" v H := by
  cases r with
  | @ref i b hb =>
    simp only [isL] at e
    split at e
    · rename_i xs hx
      obtain ⟨b', hb', ys, hl, rs⟩ := S.at hx
      rw [hb] at hb'; cases hb'
      exact .inl ⟨rfl, ys, SqL.of hl⟩
    · cases e
  | fl hs rs => exact .inl ⟨rfl, _, hs.sq⟩
  | _ => cases e
theorem de_mth {o a : Expr} {mo : ME} {as : List Expr} {apos cpos : Pos} {name : Str} {id : String} {gm : W → List W → HH → Rs W} (slot : Slot "list" name id) (hty : typeOf (.builtin id) = pure (.type "method_descriptor")) (hm : MtR X id (rDm X.K gm))
    (ho : DE X Wx o mo) (ha : DA X Wx (a :: as) mas)
    (hbase : attributeBase o name X.env (eval o X.env) = eval o X.env := by rfl)
    (hfew : ((backTo cpos (starEach (a :: as) X.env)).all (fun x => !x.1) && (backToKw cpos (keywordEach [] X.env)).all (fun x => x.1.isSome)
      && decide ((a :: as).length + ([] : List Keyword).length + (if ([] : List Keyword).isEmpty then 0 else 1) < 30)) = true := by rfl)
    (hline : (apos.endLine == cpos.line) = true := by rfl) (hs : starEach (a :: as) X.env = (false, eval a X.env) :: starEach as X.env := by rfl) (hplain : (backTo cpos (starEach as X.env)).any (·.1) = false := by rfl) :
    DE X Wx (.Call (.Attribute o name apos) (a :: as) [] cpos) (mMth gm mo mas) :=
  (pe_bm PySem.F.plainAttrs_list slot hty hm ho ha hbase hfew hline hs hplain).imp fun σ H Q ⟨ι, s, h, S, R, A⟩ =>
    ⟨ι, s, h, S, R, A.bind.imp (fun ι1 h1 H1 ow p1 g1 S1 A1 ov rov => by
      split at A1
      · rename_i hl
        exact ⟨isL_ty S1 rov hl, ι1, s, h1, S1, R.mono p1 g1, A1.bind.imp (fun ι2 h2 H2 ws p2 g2 S2 A2 vs rvs => ⟨ι2, h2, ow, ws, S2, rov.mono p2 g2, rvs, A2.cut⟩) idX⟩
      · exact A1.elim) idX⟩
def gAppend : W → List W → HH → Rs W
  | .ref i, [w], h => match h[i]? with
    | some (.lst xs) => if xs.length < lim then .ok .non (h.set i (.lst (xs ++ [w]))) else .bad
    | _ => .bad
  | _, _, _ => .bad
theorem dm_append : MtR X "list.append" (rDm X.K gAppend) := mtr_any fun x vs H Q ⟨ι, h, w, ws, S, r, rs, A⟩ => by
  unfold gAppend at A
  split at A
  · obtain ⟨v, rfl, rv⟩ := rws1 rs
    cases r with
    | ref ea =>
    split at A
    · rename_i xs hx
      obtain ⟨b, hb, ys, hl, rys⟩ := S.at hx
      rw [ea] at hb; cases hb
      split at A
      · rename_i hlen
        obtain ⟨S2, g2⟩ := put_list S ea (rys.append (.cons rv .nil))
        exact ⟨_, mt_append, _, _, _, rfl, rfl, hl, by rw [← rys.length]; exact lim_lt hlen, A ι _ (List.prefix_refl _) g2 S2 _ .non⟩
      · exact A.elim
    · exact A.elim
  · exact A.elim
theorem de_append {o a : Expr} {mo : ME} {apos cpos : Pos} (ho : DE X Wx o mo) (ha : DE X Wx a ma)
    (hbase : attributeBase o "append" X.env (eval o X.env) = eval o X.env := by rfl)
    (hfew : ((backTo cpos (starEach (a :: []) X.env)).all (fun x => !x.1) && (backToKw cpos (keywordEach [] X.env)).all (fun x => x.1.isSome)
      && decide ((a :: ([] : List Expr)).length + ([] : List Keyword).length + (if ([] : List Keyword).isEmpty then 0 else 1) < 30)) = true := by rfl)
    (hline : (apos.endLine == cpos.line) = true := by rfl) (hs : starEach (a :: []) X.env = (false, eval a X.env) :: starEach [] X.env := by rfl) (hplain : (backTo cpos (starEach [] X.env)).any (·.1) = false := by rfl) :
    DE X Wx (.Call (.Attribute o "append" apos) [a] [] cpos) (mMth gAppend mo (mCons ma mNil)) :=
  de_mth PySem.F.slot_list_append PySem.F.type_list_append dm_append ho (da_cons ha da_nil hs) hbase hfew hline hs hplain
end
end D
/-! D: loops, comprehensions. -/
namespace D
open PySem PySem.Spec PyProof.Rows L2

/-! ### equality of values, to see that a list that is walked stays -/
mutual
def beqW : W → W → Bool
  | .non, .non => true
  | .bl a, .bl b => a == b
  | .int a, .int b => a == b
  | .str a, .str b => a == b
  | .ty a, .ty b => a == b
  | .gl a, .gl b => a == b
  | .ref a, .ref b => a == b
  | .tup xs, .tup ys => beqWs xs ys
  | .fl xs, .fl ys => beqWs xs ys
  | .exv C ns xs, .exv D ms ys => C == D && (ns == ms && beqWs xs ys)
  | _, _ => false
def beqWs : List W → List W → Bool
  | [], [] => true
  | x :: xs, y :: ys => beqW x y && beqWs xs ys
  | _, _ => false
end
mutual
theorem beqW_eq : ∀ {a b : W}, beqW a b = true → a = b
  | .non, b, h => by cases b <;> simp [beqW] at h <;> rfl
  | .bl a, b, h => by cases b <;> simp [beqW] at h; rw [h]
  | .int a, b, h => by cases b <;> simp [beqW] at h; rw [h]
  | .str a, b, h => by cases b <;> simp [beqW] at h; rw [h]
  | .ty a, b, h => by cases b <;> simp [beqW] at h; rw [h]
  | .gl a, b, h => by cases b <;> simp [beqW] at h; rw [h]
  | .ref a, b, h => by cases b <;> simp [beqW] at h; rw [h]
  | .tup xs, b, h => by cases b <;> simp [beqW] at h; rw [beqWs_eq h]
  | .fl xs, b, h => by cases b <;> simp [beqW] at h; rw [beqWs_eq h]
  | .exv C ns xs, b, h => by cases b <;> simp [beqW] at h; rw [h.1, h.2.1, beqWs_eq h.2.2]
theorem beqWs_eq : ∀ {a b : List W}, beqWs a b = true → a = b
  | [], b, h => by cases b <;> simp [beqWs] at h; rfl
  | x :: xs, b, h => by
    cases b with
    | nil => simp [beqWs] at h
    | cons y ys =>
      simp [beqWs] at h
      rw [beqW_eq h.1, beqWs_eq h.2]
end
mutual
theorem beqW_rfl : ∀ a : W, beqW a a = true
  | .non | .bl a | .int a | .str a | .ty a | .gl a | .ref a => by simp [beqW]
  | .tup xs | .fl xs => by simp [beqW, beqWs_rfl xs]
  | .exv C ns xs => by simp [beqW, beqWs_rfl xs]
theorem beqWs_rfl : ∀ a : List W, beqWs a a = true
  | [] => rfl
  | x :: xs => by simp [beqWs, beqW_rfl x, beqWs_rfl xs]
end
/-- the list i still is xs -/
def stayL (i : Nat) (xs : List W) (h : HH) : Bool := match h[i]? with
  | some (.lst ys) => beqWs xs ys
  | _ => false
theorem stayL_eq {i : Nat} {xs : List W} {h : HH} (e : stayL i xs h = true) : h[i]? = some (.lst xs) := by
  unfold stayL at e
  split at e
  · rename_i ys hy; rw [hy, beqWs_eq e]
  · cases e
theorem stayL_of {i : Nat} {xs : List W} {h : HH} (e : h[i]? = some (.lst xs)) : stayL i xs h = true := by
  unfold stayL
  rw [e]; exact beqWs_rfl xs

/-! ### what is walked -/
structure Src where
  xs : List W
  chk : HH → Bool
section
variable {K : PySem.W.Frag} {ι ι' : List Addr} {H H' : Hp}
mutual
theorem RW.gen (p : ι <+: ι') (t : ∀ a ys, TQ K H a ys → TQ K H' a ys) (f : ∀ a ys, FL K H a ys → FL K H' a ys) (x : ∀ a C ns vs, XO K H a C ns vs → XO K H' a C ns vs) : ∀ {w : W} {v : V}, RW K ι H w v → RW K ι' H' w v
  | _, _, .non => .non
  | _, _, .bl b => .bl b
  | _, _, .int b => .int b
  | _, _, .str b => .str b
  | _, _, .ty b => .ty b
  | _, _, .gl b => .gl b
  | _, _, .ref h => .ref (getElem?_pre p h)
  | _, _, .tup s r => .tup (t _ _ s) (RWs.gen p t f x r)
  | _, _, .fl s r => .fl (f _ _ s) (RWs.gen p t f x r)
  | _, _, .exv s r => .exv (x _ _ _ _ s) (RWs.gen p t f x r)
theorem RWs.gen (p : ι <+: ι') (t : ∀ a ys, TQ K H a ys → TQ K H' a ys) (f : ∀ a ys, FL K H a ys → FL K H' a ys) (x : ∀ a C ns vs, XO K H a C ns vs → XO K H' a C ns vs) : ∀ {ws : List W} {vs : List V}, RWs K ι H ws vs → RWs K ι' H' ws vs
  | _, _, .nil => .nil
  | _, _, .cons r q => .cons (RW.gen p t f x r) (RWs.gen p t f x q)
end
/-- what stands for ever stands -/
def Keep (H H' : Hp) : Prop := ∀ a u, H a = some u → Imm u → H' a = some u
theorem Grow.keep (g : Grow ι ι' H H') : Keep H H' := fun a u e i => g.2 a u e (.inr i)
theorem Keep.refl : Keep H H := fun _ _ e _ => e
theorem Keep.trans {H1 H2 : Hp} (a : Keep H H1) (b : Keep H1 H2) : Keep H H2 := fun x u e i => b x u (a x u e i) i
theorem TQ.keep {a : Addr} {ys : List V} (s : TQ K H a ys) (k : Keep H H') : TQ K H' a ys := by
  rcases s with s | s
  · exact .inl (k _ _ s trivial)
  · exact .inr s
theorem FL.keep {a : Addr} {ys : List V} (h : FL K H a ys) (k : Keep H H') : FL K H' a ys := by
  rcases h with ⟨o, h⟩ | h
  · exact .inl ⟨o, k _ _ h trivial⟩
  · exact .inr h
theorem RW.keep {w : W} {v : V} (r : RW K ι H w v) (p : ι <+: ι') (k : Keep H H') : RW K ι' H' w v := r.gen p (fun _ _ s => s.keep k) (fun _ _ s => s.keep k) fun _ _ _ _ s => s.of k
theorem RWs.keep {ws : List W} {vs : List V} (r : RWs K ι H ws vs) (p : ι <+: ι') (k : Keep H H') : RWs K ι' H' ws vs := r.gen p (fun _ _ s => s.keep k) (fun _ _ s => s.keep k) fun _ _ _ _ s => s.of k
theorem RF.keep (p : ι <+: ι') (k : Keep H H') {fs : List (Str × W)} {gs : List (Str × V)} (r : RF K ι H fs gs) : RF K ι' H' fs gs := Paired.mapP r fun _ _ z => ⟨z.1, z.2.keep p k⟩
theorem XD.keep {gs : List (Str × V)} : ∀ {d : Option Addr}, XD H d gs → Keep H H' → XD H' d gs
  | some _, h, k => k _ _ h trivial
  | none, h, _ => h
theorem RSl.keep {J : Option EX} {s : Sl} {σ : St} (r : RSl K J ι H s σ) (p : ι <+: ι') (k : Keep H H') : RSl K J ι' H' s σ := ⟨r.1, fun i w e => let ⟨v, e1, q⟩ := r.2.1 i w e; ⟨v, e1, q.keep p k⟩, fun x e => let ⟨a, b, c⟩ := r.2.2 x e; ⟨a, b.keep k, RF.keep p k c⟩⟩
end
def Yld (K : PySem.W.Frag) (ι : List Addr) (H : Hp) (src : Src) (J : It) : Prop := ∀ ι' H' h', ι <+: ι' → Keep H H' → Sim K ι' h' H' → src.chk h' = true →
  (∀ i w, src.xs[i]? = some w → J.go i H' ∧ ∀ x H'', J.yld i H' x H'' → Grow ι' ι' H' H'' ∧ Sim K ι' h' H'' ∧ RW K ι' H'' w x) ∧ J.stop src.xs.length H'
abbrev MI := Sl → HH → Rs Src
def okI (K : PySem.W.Frag) (R : It → Hp → Prop) : OkK Src := fun ι _ H src => ∀ J, Yld K ι H src J → R J H
def tDI (K : PySem.W.Frag) (Wx : WJ) (m : MI) : TI := fun σ H R => ∃ ι s h, Sim K ι h H ∧ RSl K Wx.J ι H s σ ∧ After K ι H (okI K R) (exE K Wx σ) (m s h)
def DI (X : Cx) (Wx : WJ) (tg e : Expr) (m : MI) : Prop := PI X tg e (tDI X.K Wx m)
theorem pi_or {X : Cx} {tg e : Expr} {t t' : TI} (a : PI X tg e t) (b : PI X tg e t') : PI X tg e (fun σ H R => t σ H R ∨ t' σ H R) := ⟨fun pins s σ H R I h => h.elim (a.run pins s σ H R I) (b.run pins s σ H R I)⟩
section
variable {X : Cx} {Wx : WJ} {pos p : Pos} {tg e : Expr} {ma : ME}
theorem getElem?_map_some {α β : Type} {f : α → β} {l : List α} {i : Nat} {b : β} (h : (l.map f)[i]? = some b) : ∃ a, l[i]? = some a ∧ b = f a := by
  rw [List.getElem?_map] at h
  cases q : l[i]? with
  | none => rw [q] at h; cases h
  | some a => rw [q] at h; exact ⟨a, rfl, (Option.some.inj h).symm⟩
/-- a list, a tuple -/
def srcW : W → HH → Option Src
  | .tup xs, _ => some ⟨xs, fun _ => true⟩
  | .fl xs, _ => some ⟨xs, fun _ => true⟩
  | .ref i, h => match h[i]? with
    | some (.lst xs) => some ⟨xs, stayL i xs⟩
    | _ => none
  | .str z, _ => some ⟨z.cps.toList.map fun c => .str ⟨#[c]⟩, fun _ => true⟩
  | _, _ => none
@[simp] def iSeq (m : ME) : MI := fun s h => (m s h).bind fun w h1 => match srcW w h1 with
  | some src => .ok src h1
  | none => .bad
theorem yld_tup {K : PySem.W.Frag} {ι : List Addr} {H : Hp} {a : Addr} {xs : List W} {ys : List V} (hs : TQ K H a ys) (rs : RWs K ι H xs ys) : Yld K ι H ⟨xs, fun _ => true⟩ (Itt K a) := by
  intro ι' H' h' p g S _
  have hs' := hs.keep g
  have rs' := rs.keep p g
  refine ⟨fun i w e => ?_, ys, hs'.sq, by rw [← rs.length]; exact Nat.le_refl _⟩
  obtain ⟨v, e1, r⟩ := rs'.get e
  refine ⟨⟨ys, v, hs'.sq, e1⟩, ?_⟩
  rintro x H'' ⟨rfl, q⟩
  have e2 := q ys hs'.sq
  rw [e1] at e2; cases e2
  exact ⟨Grow.refl, S, r⟩
theorem yld_fl {K : PySem.W.Frag} {ι : List Addr} {H : Hp} {a : Addr} {xs : List W} {ys : List V} (hs : FL K H a ys) (rs : RWs K ι H xs ys) : Yld K ι H ⟨xs, fun _ => true⟩ (Itl K a) := by
  intro ι' H' h' p g S _
  have hs' := hs.keep g
  have rs' := rs.keep p g
  refine ⟨fun i w e => ?_, ys, hs'.sq, by rw [← rs.length]; exact Nat.le_refl _⟩
  obtain ⟨v, e1, r⟩ := rs'.get e
  refine ⟨⟨ys, v, hs'.sq, e1⟩, ?_⟩
  rintro x H'' ⟨rfl, q⟩
  have e2 := q ys hs'.sq
  rw [e1] at e2; cases e2
  exact ⟨Grow.refl, S, r⟩
theorem yld_lst {K : PySem.W.Frag} {ι : List Addr} {H : Hp} {a : Addr} {j : Nat} {xs : List W} (ha : ι[j]? = some a) : Yld K ι H ⟨xs, stayL j xs⟩ (Itl K a) := by
  intro ι' H' h' p g S c
  obtain ⟨b, hb, ys, hl, rs⟩ := S.at (stayL_eq c)
  rw [getElem?_pre p ha] at hb; cases hb
  refine ⟨fun i w e => ?_, ys, SqL.of hl, by rw [← rs.length]; exact Nat.le_refl _⟩
  obtain ⟨v, e1, r⟩ := rs.get e
  refine ⟨⟨ys, v, SqL.of hl, e1⟩, ?_⟩
  rintro x H'' ⟨rfl, q⟩
  have e2 := q ys (SqL.of hl)
  rw [e1] at e2; cases e2
  exact ⟨Grow.refl, S, r⟩
theorem yld_str {K : PySem.W.Frag} {ι : List Addr} {H : Hp} {z : Str} : Yld K ι H ⟨z.cps.toList.map fun c => .str ⟨#[c]⟩, fun _ => true⟩ (Its z) := by
  intro ι' H' h' p g S c
  refine ⟨fun i w e => ?_, ?_⟩
  · obtain ⟨a, ha, rfl⟩ := getElem?_map_some e
    have hlt := (List.getElem?_eq_some_iff.mp ha).1
    refine ⟨by show i < z.cps.size; simpa using hlt, ?_⟩
    rintro x H'' ⟨rfl, c, hc, rfl⟩
    have : a = c := by
      rw [← Array.getElem?_toList, ha] at hc
      exact Option.some.inj hc
    subst this
    exact ⟨Grow.refl, S, .str _⟩
  · show z.cps.size ≤ _
    simp
theorem di_seq (he : DE X Wx e ma) : DI X Wx tg e (iSeq ma) :=
  (pi_or (pi_or (pi_list he) (pi_tup he)) (pi_str he)).imp fun σ H R ⟨ι, s, h, S, Rs', A⟩ => by
    have B := After.bind (K := X.K) A
    -- which of the three
    revert B
    generalize hr : ma s h = res
    intro B
    cases res with
    | bad => exact B.elim
    | exc C fs s' h' => exact .inl (.inl ⟨ι, s, h, S, Rs', by rw [hr]; exact B⟩)
    | ok w h1 =>
      have go : ∀ {Q : VK}, (∀ ι1 H1 v, ι <+: ι1 → Grow ι ι1 H H1 → Sim X.K ι1 h1 H1 → RW X.K ι1 H1 w v → After X.K ι1 H1 (okI X.K R) (exE X.K Wx σ) (match srcW w h1 with
          | some src => .ok src h1
          | none => .bad) → Q v H1) → tD X.K Wx ma σ H Q := fun k => ⟨ι, s, h, S, Rs', by rw [hr]; exact fun ι1 H1 p1 g1 S1 v r => k ι1 H1 v p1 g1 S1 r (B ι1 H1 p1 g1 S1)⟩
      cases w with
      | tup xs => exact .inl (.inr (go fun ι1 H1 v p1 g1 S1 r A1 => by
          cases r with
          | tup hs rs => exact ⟨_, rfl, ⟨_, hs.sq⟩, A1.now S1 _ (yld_tup hs rs)⟩))
      | fl xs => exact .inl (.inl (go fun ι1 H1 v p1 g1 S1 r A1 => by
          cases r with
          | fl hs rs => exact ⟨_, rfl, ⟨_, hs.sq⟩, A1.now S1 _ (yld_fl hs rs)⟩))
      | ref i => exact .inl (.inl (go fun ι1 H1 v p1 g1 S1 r A1 => by
          cases r with
          | ref ea =>
            simp only [srcW] at A1
            split at A1
            · rename_i src hs
              split at hs
              · rename_i xs hx
                cases hs
                obtain ⟨b, hb, ys, hl, rs⟩ := S1.at hx
                rw [ea] at hb; cases hb
                exact ⟨_, rfl, ⟨_, SqL.of hl⟩, A1.now S1 _ (yld_lst ea)⟩
              · cases hs
            · exact A1.elim))
      | str z => exact .inr (go fun ι1 H1 v p1 g1 S1 r A1 => by
          cases r
          exact ⟨_, rfl, A1.now S1 _ yld_str⟩)
      | non => exact .inl (.inl (go fun ι1 H1 v p1 g1 S1 r A1 => A1.elim))
      | bl b => exact .inl (.inl (go fun ι1 H1 v p1 g1 S1 r A1 => A1.elim))
      | int b => exact .inl (.inl (go fun ι1 H1 v p1 g1 S1 r A1 => A1.elim))
      | gl b => exact .inl (.inl (go fun ι1 H1 v p1 g1 S1 r A1 => A1.elim))
      | exv _ _ => exact .inl (.inl (go fun ι1 H1 v p1 g1 S1 r A1 => A1.elim))
      | ty b => exact .inl (.inl (go fun ι1 H1 v p1 g1 S1 r A1 => A1.elim))
/-! ranges -/
def rngW (lo : Int) (n : Nat) (c : Int) : List W := (List.range n).map fun (i : Nat) => W.int (lo + (i : Int) * c)
theorem yld_rng {K : PySem.W.Frag} {ι : List Addr} {H : Hp} {lo : Int} {n : Nat} : Yld K ι H ⟨rngW lo n 1, fun _ => true⟩ (Itr lo n) := by
  intro ι' H' h' p g S c
  refine ⟨fun i w e => ?_, ?_⟩
  · obtain ⟨a, ha, rfl⟩ := getElem?_map_some e
    have hi := (List.getElem?_eq_some_iff.mp ha).1
    rw [List.getElem?_eq_getElem hi, List.getElem_range] at ha
    cases ha
    refine ⟨(show i < n by simpa using hi), ?_⟩
    rintro x H'' ⟨rfl, rfl⟩
    exact ⟨Grow.refl, S, by rw [Int.mul_one]; exact .int _⟩
  · show n ≤ _
    simp [rngW]
theorem yld_rngC {K : PySem.W.Frag} {ι : List Addr} {H : Hp} {lo c : Int} {n : Nat} : Yld K ι H ⟨rngW lo n c, fun _ => true⟩ (Itc lo c n) := by
  intro ι' H' h' p g S _
  refine ⟨fun i w e => ?_, ?_⟩
  · obtain ⟨a, ha, rfl⟩ := getElem?_map_some e
    have hi := (List.getElem?_eq_some_iff.mp ha).1
    rw [List.getElem?_eq_getElem hi, List.getElem_range] at ha
    cases ha
    refine ⟨(show i < n by simpa using hi), ?_⟩
    rintro x H'' ⟨rfl, rfl⟩
    exact ⟨Grow.refl, S, .int _⟩
  · show n ≤ _
    simp [rngW]
@[simp] def iRng (q : MA) : MI := fun s h => (q s h).bind fun ws h1 => match ws with
  | [.int j] => if -(2 ^ 62) ≤ j ∧ j < 2 ^ 62 then .ok ⟨rngW 0 j.toNat 1, fun _ => true⟩ h1 else .bad
  | [.int i, .int j] => if -(2 ^ 62) ≤ i ∧ i < 2 ^ 62 ∧ -(2 ^ 62) ≤ j ∧ j < 2 ^ 62 then .ok ⟨rngW i (j - i).toNat 1, fun _ => true⟩ h1 else .bad
  | [.int i, .int j, .int c] => if c ≠ 0 ∧ c.natAbs < 1073741824 ∧ Builtin.Range.small i j c = true ∧ 0 ≤ Builtin.Range.rangeSize i j c then .ok ⟨rngW i (Builtin.Range.rangeSize i j c).toNat c, fun _ => true⟩ h1 else .bad
  | _ => .bad
variable {a b c : Expr} {mas : MA}
theorem di_range1 (hg : Gl X "range") (hm : X.mg "range" = none) (ha : DA X Wx [a] mas) (hl : ∀ s h ws h1, mas s h = .ok ws h1 → ws.length = 1) (hs : starEach [a] X.env = [(false, eval a X.env)] := by rfl) :
    DI X Wx tg (.Call (.Name "range" p) [a] [] pos) (iRng mas) :=
  (pi_range1 hg hm ha hs).imp fun σ H R ⟨ι, s, h, S, Rs', A⟩ => ⟨ι, s, h, S, Rs', by
    have B := After.bind (K := X.K) A
    revert B
    generalize hr : mas s h = res
    intro B
    cases res with
    | bad => exact B.elim
    | exc C fs s' h' => exact B
    | ok ws h1 =>
      have n1 := hl _ _ _ _ hr
      refine fun ι1 H1 p1 g1 S1 vs rv => ?_
      have A1 := B ι1 H1 p1 g1 S1
      dsimp only at A1
      split at A1
      · obtain ⟨v, rfl, r⟩ := rws1 rv
        cases r
        split at A1
        · rename_i hc; exact ⟨_, rfl, hc.1, hc.2, A1.now S1 _ yld_rng⟩
        · exact A1.elim
      · simp at n1
      · simp at n1
      · exact A1.elim⟩
theorem di_range2 (hg : Gl X "range") (hm : X.mg "range" = none) (ha : DA X Wx [a, b] mas) (hl : ∀ s h ws h1, mas s h = .ok ws h1 → ws.length = 2) (hs : starEach [a, b] X.env = [(false, eval a X.env), (false, eval b X.env)] := by rfl)
    (hs2 : starEach [b] X.env = [(false, eval b X.env)] := by rfl) : DI X Wx tg (.Call (.Name "range" p) [a, b] [] pos) (iRng mas) :=
  (pi_range2 hg hm ha hs hs2).imp fun σ H R ⟨ι, s, h, S, Rs', A⟩ => ⟨ι, s, h, S, Rs', by
    have B := After.bind (K := X.K) A
    revert B
    generalize hr : mas s h = res
    intro B
    cases res with
    | bad => exact B.elim
    | exc C fs s' h' => exact B
    | ok ws h1 =>
      have n1 := hl _ _ _ _ hr
      refine fun ι1 H1 p1 g1 S1 vs rv => ?_
      have A1 := B ι1 H1 p1 g1 S1
      dsimp only at A1
      split at A1
      · simp at n1
      · obtain ⟨v, u, rfl, r, r'⟩ := rws2 rv
        cases r; cases r'
        split at A1
        · rename_i hc; exact ⟨_, _, rfl, hc, A1.now S1 _ yld_rng⟩
        · exact A1.elim
      · simp at n1
      · exact A1.elim⟩
theorem rws3 {K : PySem.W.Frag} {ι : List Addr} {H : Hp} {w u z : W} {vs : List V} (r : RWs K ι H [w, u, z] vs) : ∃ v1 v2 v3, vs = [v1, v2, v3] ∧ RW K ι H w v1 ∧ RW K ι H u v2 ∧ RW K ι H z v3 := by
  cases r with
  | cons r t =>
    obtain ⟨v, y, rfl, r1, r2⟩ := rws2 t
    exact ⟨_, _, _, rfl, r, r1, r2⟩
theorem di_range3 (hg : Gl X "range") (hm : X.mg "range" = none) (ha : DA X Wx [a, b, c] mas) (hl : ∀ s h ws h1, mas s h = .ok ws h1 → ws.length = 3) (hs : starEach [a, b, c] X.env = (false, eval a X.env) :: starEach [b, c] X.env := by rfl)
    (hs2 : (backTo pos (starEach [b, c] X.env)).any (·.1) = false := by rfl) : DI X Wx tg (.Call (.Name "range" p) [a, b, c] [] pos) (iRng mas) :=
  (pi_range3 hg hm ha hs hs2).imp fun σ H R ⟨ι, s, h, S, Rs', A⟩ => ⟨ι, s, h, S, Rs', by
    have B := After.bind (K := X.K) A
    revert B
    generalize hr : mas s h = res
    intro B
    cases res with
    | bad => exact B.elim
    | exc C fs s' h' => exact B
    | ok ws h1 =>
      have n1 := hl _ _ _ _ hr
      refine fun ι1 H1 p1 g1 S1 vs rv => ?_
      have A1 := B ι1 H1 p1 g1 S1
      dsimp only at A1
      split at A1
      · simp at n1
      · simp at n1
      · obtain ⟨v, u, z, rfl, r, r', r''⟩ := rws3 rv
        cases r; cases r'; cases r''
        split at A1
        · rename_i hc; exact ⟨_, _, _, _, rfl, ⟨hc.1, hc.2.1, hc.2.2.1, (Int.toNat_of_nonneg hc.2.2.2).symm⟩, A1.now S1 _ yld_rngC⟩
        · exact A1.elim
      · exact A1.elim⟩

/-! ### for -/
def loopF (chk : HH → Bool) (g : MG) (b : MS) : List W → Sl → HH → Rs (Fl × Sl)
  | [], s, h => .ok (.nx, s) h
  | x :: xs, s, h => (cut (g x s h)).bind fun s1 h1 => (b s1 h1).bind fun r h2 => match r with
    | (.nx, s2) => if chk h2 = true then loopF chk g b xs s2 h2 else .bad
    | (.cnt, s2) => if chk h2 = true then loopF chk g b xs s2 h2 else .bad
    | (.brk, s2) => .ok (.nx, s2) h2
    | (.ret w, s2) => .ok (.ret w, s2) h2
@[simp] def sFor (mi : MI) (g : MG) (b : MS) : MS := fun s h => (atS s (mi s h)).bind fun src h1 => if src.chk h1 = true then loopF src.chk g b src.xs s h1 else .bad
theorem drop_cons {α : Type} {l : List α} {i : Nat} {x : α} (e : l[i]? = some x) : l.drop i = x :: l.drop (i + 1) := by
  obtain ⟨h, rfl⟩ := List.getElem?_eq_some_iff.mp e
  rw [List.drop_eq_getElem_cons h]
theorem ds_for {iter : Expr} {body : List Stmt} {mi : MI} {g : MG} {b : MS} (hp : PassesOwn (model X.prog X.w) X.A X.env X.xe) (hc : X.calm = true) (hi : DI X Wx tg iter mi) (hg : DG X Wx.J tg g) (hb : DSs X Wx body b)
    (hs : ∀ x, foldedSetIterable iter X.env x = pure x := by intro _; rfl) : DS X Wx (.For tg iter body [] pos) (sFor mi g b) :=
  (ps_for hp hc hi hg hb hs).imp fun D σ H ⟨ι, s, h, S, R, A⟩ => ⟨ι, s, h, S, R, (A.bind.atS R).imp (fun ι1 h1 H1 src p1 g1 S1 A1 J Y => by
    split at A1
    · rename_i hck
      refine ⟨fun i m σ H => ∃ ι' s' h', m = src.xs.length - i ∧ i ≤ src.xs.length ∧ ι1 <+: ι' ∧ Grow ι1 ι' H1 H ∧ Sim X.K ι' h' H ∧ RSl X.K Wx.J ι' H s' σ ∧ src.chk h' = true ∧
          After X.K ι' H (okS X.K Wx.J D) (exS X.K Wx) (loopF src.chk g b (src.xs.drop i) s' h'),
        ⟨_, ι1, s, h1, rfl, Nat.zero_le _, List.prefix_refl _, Grow.refl, S1, R.mono p1 g1, hck, A1⟩, ?_⟩
      rintro i m σ2 H2 ⟨ι2, s2, h2, rfl, hle, p2, g2, S2, R2, c2, A2⟩
      obtain ⟨Yi, Ys⟩ := Y ι2 H2 h2 p2 g2.keep S2 c2
      by_cases hlt : i < src.xs.length
      · right
        have hx : src.xs[i]? = some src.xs[i] := List.getElem?_eq_getElem hlt
        obtain ⟨go, yl⟩ := Yi i _ hx
        rw [drop_cons hx] at A2
        refine ⟨go, fun σ' H' => ∃ ι' s' h', ι1 <+: ι' ∧ Grow ι1 ι' H1 H' ∧ Sim X.K ι' h' H' ∧ RSl X.K Wx.J ι' H' s' σ' ∧ src.chk h' = true ∧
          After X.K ι' H' (okS X.K Wx.J D) (exS X.K Wx) (loopF src.chk g b (src.xs.drop (i + 1)) s' h'), ?_, ?_⟩
        · rintro σ' H' ⟨ι', s', h', q1, q2, q3, q4, q5, q6⟩
          exact ⟨src.xs.length - (i + 1), by omega, ι', s', h', rfl, hlt, q1, q2, q3, q4, q5, q6⟩
        · intro x H3 y
          obtain ⟨g3, S3, r3⟩ := yl x H3 y
          have A3 := A2.le (List.prefix_refl _) g3
          refine ⟨ι2, s2, h2, _, S3, R2.mono (List.prefix_refl _) g3, r3, A3.bind.cutX.imp (fun ι4 h4 H4 s4 p4 g4 S4 A4 σ4 R4 => ?_) fun _ _ _ _ _ _ _ z => z.elim⟩
          refine ⟨ι4, s4, h4, S4, R4, A4.bind.imp (fun ι5 h5 H5 r p5 g5 S5 A5 => ?_) idX⟩
          obtain ⟨fl, s5⟩ := r
          have pp := ((p2.trans p4).trans p5)
          have gg := ((g2.trans (g3.trans g4)).trans g5)
          cases fl with
          | ret w => exact A5.now S5
          | brk => exact fun σ5 R5 => A5.now S5 σ5 R5
          | nx =>
            intro σ5 R5
            dsimp only at A5
            split at A5
            · rename_i hc5; exact ⟨ι5, s5, h5, pp, gg, S5, R5, hc5, A5⟩
            · exact A5.elim
          | cnt =>
            intro σ5 R5
            dsimp only at A5
            split at A5
            · rename_i hc5; exact ⟨ι5, s5, h5, pp, gg, S5, R5, hc5, A5⟩
            · exact A5.elim
      · left
        have : i = src.xs.length := by omega
        subst this
        rw [List.drop_length] at A2
        exact ⟨Ys, A2.now S2 σ2 R2⟩
    · exact A1.elim) idX⟩

/-! ### while: n turns at most -/
def loopW (t : MT) (b : MS) : Nat → Sl → HH → Rs (Fl × Sl)
  | 0, _, _ => .bad
  | n + 1, s, h => (atS s (t s h)).bind fun k h1 => if k = true then (b s h1).bind fun r h2 => match r with
    | (.nx, s2) => loopW t b n s2 h2
    | (.cnt, s2) => loopW t b n s2 h2
    | (.brk, s2) => .ok (.nx, s2) h2
    | (.ret w, s2) => .ok (.ret w, s2) h2 else .ok (.nx, s) h1
def sWhile (n : Sl → HH → Nat) (t : MT) (b : MS) : MS := fun s h => loopW t b (n s h) s h
theorem ds_while {c : Expr} {body : List Stmt} {t : MT} {b : MS} (n : Sl → HH → Nat) (hp : PassesOwn (model X.prog X.w) X.A X.env X.xe) (hc : DT X Wx c t) (hb : DSs X Wx body b) : DS X Wx (.While c body [] pos) (sWhile n t b) :=
  (ps_while hp hc hb).imp fun D σ H ⟨ι, s, h, S, R, A⟩ => by
    refine ⟨fun m σ' H' => ∃ ι' s' h', Sim X.K ι' h' H' ∧ RSl X.K Wx.J ι' H' s' σ' ∧ After X.K ι' H' (okS X.K Wx.J D) (exS X.K Wx) (loopW t b m s' h'), ⟨_, ι, s, h, S, R, A⟩, ?_⟩
    rintro m σ1 H1 ⟨ι1, s1, h1, S1, R1, A1⟩
    cases m with
    | zero => exact A1.elim
    | succ m =>
      refine ⟨ι1, s1, h1, S1, R1, (A1.bind.atS R1).imp (fun ι2 h2 H2 k p2 g2 S2 A2 => ?_) idX⟩
      cases k with
      | false =>
        rw [if_neg Bool.false_ne_true] at A2
        show D.nx σ1 H2
        exact A2.now S2 σ1 (R1.mono p2 g2)
      | true =>
        rw [if_pos rfl] at A2
        show ∃ N : L2.St → Hp → Prop, (∀ σ' H', N σ' H' → ∃ m', m' < m + 1 ∧ _) ∧ tDS X.K Wx b { D with nx := N, ct := N, bk := D.nx } σ1 H2
        refine ⟨fun σ' H' => ∃ ι' s' h', Sim X.K ι' h' H' ∧ RSl X.K Wx.J ι' H' s' σ' ∧ After X.K ι' H' (okS X.K Wx.J D) (exS X.K Wx) (loopW t b m s' h'), fun σ' H' z => ⟨m, Nat.lt_succ_self _, z⟩, ι2, s1, h2, S2, R1.mono p2 g2, A2.bind.imp (fun ι3 h3 H3 r p3 g3 S3 A3 => ?_) idX⟩
        obtain ⟨fl, s3⟩ := r
        cases fl with
        | ret w => exact A3.now S3
        | brk => exact fun σ5 R5 => A3.now S3 σ5 R5
        | nx => exact fun σ5 R5 => ⟨ι3, s3, h3, S3, R5, A3⟩
        | cnt => exact fun σ5 R5 => ⟨ι3, s3, h3, S3, R5, A3⟩
end
end D
/-! D: list comprehensions. -/
namespace D
open PySem PySem.Spec PyProof.Rows
open L2 hiding XE Takes CX ps_raise mk_of pmk_own passAt takes_of passes_call MkP PMk ps_try_as ps_try_many
open L2N hiding St

@[simp] def wipeS (s : Sl) : List Nat → Sl
  | [] => s
  | v :: vs => (wipeS s vs).set v none
theorem wipeS_length (s : Sl) : ∀ vs, (wipeS s vs).length = s.length
  | [] => rfl
  | v :: vs => by unfold wipeS; rw [List.length_set, wipeS_length s vs]
theorem wipe_at (σ : L2.St) : ∀ (vs : List Nat) (j : Nat), (wipe σ vs)[j]? = if j ∈ vs then (σ[j]?).map fun _ => none else σ[j]?
  | [], j => by simp [wipe]
  | v :: vs, j => by
    unfold wipe
    by_cases hj : j = v
    · subst hj
      rw [if_pos (List.mem_cons_self ..)]
      by_cases hl : j < σ.length
      · rw [List.getElem?_set_self (by rw [wipe_length]; exact hl), List.getElem?_eq_getElem hl]; rfl
      · rw [List.getElem?_eq_none (by rw [List.length_set, wipe_length]; omega), List.getElem?_eq_none (by omega)]; rfl
    · rw [List.getElem?_set_ne (Ne.symm hj), wipe_at σ vs j]
      simp [hj]
theorem wipeS_at (σ : Sl) : ∀ (vs : List Nat) (j : Nat), (wipeS σ vs)[j]? = if j ∈ vs then (σ[j]?).map fun _ => none else σ[j]?
  | [], j => by simp [wipeS]
  | v :: vs, j => by
    unfold wipeS
    by_cases hj : j = v
    · subst hj
      rw [if_pos (List.mem_cons_self ..)]
      by_cases hl : j < σ.length
      · rw [List.getElem?_set_self (by rw [wipeS_length]; exact hl), List.getElem?_eq_getElem hl]; rfl
      · rw [List.getElem?_eq_none (by rw [List.length_set, wipeS_length]; omega), List.getElem?_eq_none (by omega)]; rfl
    · rw [List.getElem?_set_ne (Ne.symm hj), wipeS_at σ vs j]
      simp [hj]
theorem wipe_set {σ : L2.St} {vs : List Nat} {i : Nat} {o : Option V} (h : i ∈ vs) : wipe (σ.set i o) vs = wipe σ vs := by
  apply List.ext_getElem?
  intro j
  rw [wipe_at, wipe_at]
  by_cases hj : j ∈ vs
  · rw [if_pos hj, if_pos hj]
    by_cases e : i = j
    · subst e
      by_cases hl : i < σ.length
      · rw [List.getElem?_set_self hl, List.getElem?_eq_getElem hl]; rfl
      · rw [List.getElem?_eq_none (by rw [List.length_set]; omega), List.getElem?_eq_none (by omega)]
    · rw [List.getElem?_set_ne e]
  · rw [if_neg hj, if_neg hj, List.getElem?_set_ne]
    rintro rfl; exact hj h
theorem wipe_wipe {σ : L2.St} {vs : List Nat} : wipe (wipe σ vs) vs = wipe σ vs := by
  apply List.ext_getElem?
  intro j
  rw [wipe_at]
  by_cases hj : j ∈ vs
  · rw [if_pos hj, wipe_at, if_pos hj]; cases σ[j]? <;> rfl
  · rw [if_neg hj]
section
variable {K : PySem.W.Frag} {ι ι' : List Addr} {H H' : Hp}
theorem RW.pre {D : Addr} {w : W} {v : V} (r : RW K ι H w v) : RW K (ι ++ [D]) H w v := r.gen pre_snoc (fun _ _ z => z) (fun _ _ z => z) fun _ _ _ _ z => z
theorem RWs.pre {D : Addr} {w : List W} {v : List V} (r : RWs K ι H w v) : RWs K (ι ++ [D]) H w v := r.gen pre_snoc (fun _ _ z => z) (fun _ _ z => z) fun _ _ _ _ z => z
theorem tq_put {D : Addr} {u o : HO} (e : H D = some u) (n : ¬ Imm u) : ∀ a ys, TQ K H a ys → TQ K (upd H D o) a ys := fun a ys z => by
  rcases z with z | z
  · left; rw [upd_ne]; exact z
    rintro rfl; rw [e] at z; cases z; exact n trivial
  · exact .inr z
theorem xo_put {D : Addr} {u o : HO} (e : H D = some u) (n : ¬ Imm u) : ∀ a C ns vs, XO K H a C ns vs → XO K (upd H D o) a C ns vs := fun a C ns vs z => z.of fun b w eb iw => by
  rw [upd_ne]; exact eb
  rintro rfl; rw [e] at eb; cases eb; exact n iw
theorem fl_put {D : Addr} {u o : HO} (e : H D = some u) (n : ¬ Imm u) : ∀ a ys, FL K H a ys → FL K (upd H D o) a ys := fun a ys z => by
  rcases z with ⟨o', z⟩ | z
  · left; refine ⟨o', ?_⟩; rw [upd_ne]; exact z
    rintro rfl; rw [e] at z; cases z; exact n trivial
  · exact .inr z
theorem RW.put {D : Addr} {xs : List V} {o : HO} {w : W} {v : V} (r : RW K ι H w v) (e : H D = some (.lst xs)) : RW K ι (upd H D o) w v := r.gen (List.prefix_refl _) (tq_put e id) (fl_put e id) (xo_put e id)
theorem RWs.put {D : Addr} {xs : List V} {o : HO} {w : List W} {v : List V} (r : RWs K ι H w v) (e : H D = some (.lst xs)) : RWs K ι (upd H D o) w v := r.gen (List.prefix_refl _) (tq_put e id) (fl_put e id) (xo_put e id)
theorem Sim.beside {h : HH} {D : Addr} {xs : List V} {o : HO} (S : Sim K ι h H) (e : H D = some (.lst xs)) (n : D ∉ ι) : Sim K ι h (upd H D o) := by
  refine ⟨S.len, S.nd, fun i a ob e1 e2 => ?_⟩
  have na : a ≠ D := by rintro rfl; exact n (List.mem_of_getElem? e1)
  have q := S.ob i a ob e1 e2
  have f : ∀ {w : W} {v : V}, RW K ι H w v → RW K ι (upd H D o) w v := fun r => r.put e
  cases ob with
  | lst xs => obtain ⟨ys, e', r⟩ := q; exact ⟨ys, by rw [upd_ne na]; exact e', r.put e⟩
  | ins C fs => obtain ⟨dx, gs, e', r⟩ := q; exact ⟨dx, gs, by rw [upd_ne na]; exact e', Paired.mapP r fun _ _ z => ⟨z.1, f z.2⟩⟩
  | dK kvs => obtain ⟨gs, e', r⟩ := q; exact ⟨gs, by rw [upd_ne na]; exact e', Paired.mapP r fun _ _ z => ⟨z.1, f z.2⟩⟩
  | dT kvs => obtain ⟨gs, e', r⟩ := q; exact ⟨gs, by rw [upd_ne na]; exact e', Paired.mapP r fun _ _ z => ⟨z.1, f z.2⟩⟩
end
section
variable {K : PySem.W.Frag} {ι : List Addr} {H : Hp} {s : Sl} {σ : St}
theorem RSl.drop {J : Option EX} {s : Sl} {σ : St} (r : RSl K J ι H s σ) : RSl K none ι H s σ := ⟨r.1, r.2.1, fun _ e => nomatch e⟩
theorem RSl.wipe (r : RSl K none ι H s σ) (vs : List Nat) : RSl K none ι H (wipeS s vs) (L2.wipe σ vs) := by
  refine ⟨by rw [wipeS_length, wipe_length]; exact r.1, fun i w e => ?_, fun _ e => nomatch e⟩
  rw [wipeS_at] at e
  rw [wipe_at]
  by_cases hi : i ∈ vs
  · rw [if_pos hi] at e
    cases q : s[i]? with
    | none => rw [q] at e; cases e
    | some o => rw [q] at e; cases e
  · rw [if_neg hi] at e ⊢
    exact r.2.1 i w e
end

/-! ### targets that store own names alone -/
def okGw (K : PySem.W.Frag) (vs : List Nat) (σ : St) (Q : St → Hp → Prop) : OkK Sl := fun ι _ H s => ∀ σ', RSl K none ι H s σ' → L2.wipe σ' vs = L2.wipe σ vs → Q σ' H
def tDGw (K : PySem.W.Frag) (vs : List Nat) (m : MG) : TG := fun v σ H Q => ∃ ι s h w, Sim K ι h H ∧ RSl K none ι H s σ ∧ RW K ι H w v ∧ After K ι H (okGw K vs σ Q) exN (m w s h)
def DGw (X : Cx) (vs : List Nat) (tg : Expr) (m : MG) : Prop := PG X tg (tDGw X.K vs m)
def tDGws (K : PySem.W.Frag) (vs : List Nat) (m : MGs) : TGs := fun us σ H Q => ∃ ι s h ws, Sim K ι h H ∧ RSl K none ι H s σ ∧ RWs K ι H ws us ∧ After K ι H (okGw K vs σ Q) exN (m ws s h)
def DGws (X : Cx) (vs : List Nat) (tg : List Expr) (m : MGs) : Prop := PGs X tg (tDGws X.K vs m)
section
variable {X : Cx} {Wx : WJ} {pos p : Pos} {tg e : Expr} {es : List Expr} {ma : ME} {vs : List Nat} {x : Str}
theorem dgw_name {i : Nat} (hN : X.N.Nodup) (hi : X.N[i]? = some x) (hx : Loc X.env.scope x) (hv : i ∈ vs) (hf : X.fn x = true ∨ X.env.scope.names.lookup x = some .local := by first | exact .inl rfl | exact .inr rfl | assumption) : DGw X vs (.Name x pos) (gNm i) :=
  (pg_name hN hi hx hf).imp fun v σ H Q ⟨ι, s, h, w, S, R, r, A⟩ => A.now S _ (R.set r i) (wipe_set hv)
theorem dgws_nil : DGws X vs [] gsNil := PGs.imp pgs_nil fun us σ H Q ⟨ι, s, h, ws, S, R, r, A⟩ => by
  unfold gsNil at A
  split at A
  · cases r; exact ⟨rfl, A.now S σ R rfl⟩
  · exact A.elim
theorem dgws_cons {g : MG} {gs : MGs} (h1 : DGw X vs e g) (h2 : DGws X vs es gs) (hs : (assignEach (e :: es) X.env).map (·.2) = assign e X.env :: (assignEach es X.env).map (·.2) := by rfl) : DGws X vs (e :: es) (gsCons g gs) :=
  PGs.imp (pgs_cons h1 h2 hs) fun us σ H Q ⟨ι, s, h, ws, S, R, r, A⟩ => by
    unfold gsCons at A
    split at A
    · cases r with
      | cons r t =>
      exact ⟨_, _, rfl, ι, s, h, _, S, R, r, A.bind.imp (fun ι1 h1 H1 s1 p1 g1 S1 A1 σ1 R1 e1 => ⟨ι1, s1, h1, _, S1, R1, t.mono p1 g1, A1.imp (fun ι2 h2 H2 s2 p2 g2 S2 z σ2 R2 e2 => z σ2 R2 (e2.trans e1)) idX⟩) idX⟩
    · exact A.elim
theorem dgw_tup {k n : Nat} {gs : MGs} (hc : X.calm = true) (h : DGws X vs es gs) (hn : (assignEach es X.env).length = n := by rfl) (hst : (assignEach es X.env).findIdx? (·.1) = none := by rfl) : DGw X vs (.Tuple es k pos) (gTp n gs) :=
  (pg_tup hc h hn hst).imp fun v σ H Q ⟨ι, s, h, w, S, R, r, A⟩ => by
    unfold gTp at A
    split at A
    · cases r with
      | tup hq rs =>
      split at A
      · rename_i hl
        exact ⟨_, _, rfl, hq.sq, by rw [← rs.length]; exact hl, ι, s, h, _, S, R, rs, A⟩
      · exact A.elim
    · exact A.elim

/-! ### a block's tests -/
def DTs (X : Cx) (Wx : WJ) (ifs : List Expr) (m : MT) : Prop := PTs X ifs (tDT X.K Wx m)
@[simp] def tTru : MT := fun _ h => .ok true h
theorem PTs.imp {ifs : List Expr} {t t' : TT} (q : PTs X ifs t) (h : ∀ σ H Q, t' σ H Q → t σ H Q) : PTs X ifs t' := ⟨fun pins s σ H Q I z => q.run pins s σ H Q I (h _ _ _ z)⟩
theorem dts_nil : DTs X Wx [] tTru := PTs.imp pts_nil fun σ H Q ⟨ι, s, h, S, R, A⟩ => A.now S
theorem dts_one {m : MT} (h : DT X Wx e m) : DTs X Wx [e] m := pts_one h

/-! ### the comprehension -/
abbrev WF : WJ := ⟨fun _ _ _ _ => False, none⟩
theorem takesF {Y : Cx} : Takes Y WF.W := fun u s' ⟨_, _, _, _, _, _, _, _, _, _, _, _, _, _, _, _, z⟩ => z.elim
theorem After.bindB {α β : Type} {K : PySem.W.Frag} {ι : List Addr} {H : Hp} {r : Rs α} {f : α → HH → Rs β} {Ok : OkK β} {Ex : ExK} (a : After K ι H Ok Ex (r.bind f)) :
    After K ι H (fun _ h1 _ x => After K ι H Ok Ex (f x h1)) Ex r := by
  cases r with
  | ok x h => exact fun _ _ _ _ _ => a
  | exc C fs s h => exact a
  | bad => exact a
def loopC (chk : HH → Bool) (g : MG) (t : MT) (e : ME) : List W → List W → Sl → HH → Rs (List W)
  | [], acc, _, h => .ok acc h
  | x :: xs, acc, s, h => (cut (g x s h)).bind fun s1 h1 => (cut (t s1 h1)).bind fun b h2 => if b = true then (cut (e s1 h2)).bind fun w h3 =>
      if chk h3 = true then (if acc.length < lim then loopC chk g t e xs (acc ++ [w]) s h3 else .bad) else .bad
    else if chk h2 = true then loopC chk g t e xs acc s h2 else .bad
@[simp] def finC (acc : List W) (h : HH) : Rs W := .ok (.ref h.length) (h ++ [.lst acc])
@[simp] def mLc (mi : MI) (vs : List Nat) (g : MG) (t : MT) (e : ME) : ME := fun s h => (mi s h).bind fun src h1 => if src.chk h1 = true then (loopC src.chk g t e src.xs [] (wipeS s vs) h1).bind finC else .bad
/-- a list that stood beside comes in -/
theorem Sim.add {K : PySem.W.Frag} {ι : List Addr} {H : Hp} {h : HH} (S : Sim K ι h H) {D : Addr} {xs : List W} {ys : List V} (e : H D = some (.lst ys)) (r : RWs K ι H xs ys) (n : D ∉ ι) : Sim K (ι ++ [D]) (h ++ [.lst xs]) H := by
  have g : Grow ι ι H H := Grow.refl
  have mono : ∀ {o : O} {a : Addr}, RO K ι H o a → RO K (ι ++ [D]) H o a := fun {o a} q => by
    cases o with
    | lst xs => obtain ⟨ys, e, r⟩ := q; exact ⟨ys, e, r.pre⟩
    | ins C fs => obtain ⟨dx, gs, e, r⟩ := q; exact ⟨dx, gs, e, Paired.mapP r fun _ _ z => ⟨z.1, z.2.pre⟩⟩
    | dK kvs => obtain ⟨gs, e, r⟩ := q; exact ⟨gs, e, Paired.mapP r fun _ _ z => ⟨z.1, z.2.pre⟩⟩
    | dT kvs => obtain ⟨gs, e, r⟩ := q; exact ⟨gs, e, Paired.mapP r fun _ _ z => ⟨z.1, z.2.pre⟩⟩
  refine ⟨by simp [S.len], ?_, fun i a o e1 e2 => ?_⟩
  · rw [List.nodup_append]
    refine ⟨S.nd, by simp, fun a ha b hb => ?_⟩
    have : b = D := by simpa using hb
    subst this
    rintro rfl; exact n ha
  · by_cases hi : i < ι.length
    · rw [List.getElem?_append_left hi] at e1
      rw [List.getElem?_append_left (by rw [← S.len]; exact hi)] at e2
      exact mono (S.ob i a o e1 e2)
    · have hl := (List.getElem?_eq_some_iff.mp e1).1
      have : i = ι.length := by simp at hl; omega
      subst this
      rw [getElem?_last rfl] at e1
      rw [getElem?_last S.len.symm] at e2
      cases e1; cases e2
      exact ⟨ys, e, r.pre⟩
theorem lc_go {mi : MI} {g : MG} {t : MT} {me : ME} {σ : St} {H : Hp} {Q : VK} {K : PySem.W.Frag} (z : tD K Wx (mLc mi vs g t me) σ H Q) :
    tLc (tDI K Wx mi) (tDGw K vs g) (tDT K WF t) (tD K WF me) vs σ H Q := by
  obtain ⟨ι, s, h, S, R, A⟩ := z
  refine ⟨ι, s, h, S, R, A.bind.imp (fun ι1 h1 H1 src p1 g1 S1 A1 J Y D hD => ?_) idX⟩
  split at A1
  · rename_i hck
    have sidD : Grow ι1 ι1 H1 (upd H1 D (.lst [])) := Grow.side hD
    refine ⟨fun i m H => ∃ ι' h' accW accV, m = src.xs.length - i ∧ i ≤ src.xs.length ∧ ι1 <+: ι' ∧ Grow ι1 ι' H1 H ∧ Sim K ι' h' H ∧ D ∉ ι' ∧ H D = some (.lst accV) ∧ RWs K ι' H accW accV ∧ src.chk h' = true ∧
        After K ι1 H1 (okV K Q) (exE K Wx σ) ((loopC src.chk g t me (src.xs.drop i) accW (wipeS s vs) h').bind finC),
      ⟨_, ι1, h1, [], [], rfl, Nat.zero_le _, List.prefix_refl _, sidD, S1.side hD, fun hm => ?_, upd_same, .nil, hck, A1⟩, ?_⟩
    · obtain ⟨i, hi⟩ := List.mem_iff_getElem?.mp hm
      exact S1.ne hi hD rfl
    rintro i m H2 ⟨ι2, h2, accW, accV, rfl, hle, p2, g2, S2, nD, eD, rAcc, c2, A2⟩
    obtain ⟨Yi, Ys⟩ := Y ι2 H2 h2 p2 g2.keep S2 c2
    by_cases hlt : i < src.xs.length
    · right
      have hx : src.xs[i]? = some src.xs[i] := List.getElem?_eq_getElem hlt
      obtain ⟨go, yl⟩ := Yi i _ hx
      rw [drop_cons hx] at A2
      refine ⟨go, fun H' => ∃ ι' h' accW accV, ι1 <+: ι' ∧ Grow ι1 ι' H1 H' ∧ Sim K ι' h' H' ∧ D ∉ ι' ∧ H' D = some (.lst accV) ∧ RWs K ι' H' accW accV ∧ src.chk h' = true ∧
          After K ι1 H1 (okV K Q) (exE K Wx σ) ((loopC src.chk g t me (src.xs.drop (i + 1)) accW (wipeS s vs) h').bind finC), ?_, ?_⟩
      · rintro H' ⟨ι', h', a1, a2, q⟩
        exact ⟨src.xs.length - (i + 1), by omega, ι', h', a1, a2, rfl, hlt, q⟩
      · intro x H3 y
        obtain ⟨g3, S3, r3⟩ := yl x H3 y
        -- flatten the binds
        have A3 : After K ι1 H1 (okV K Q) (exE K Wx σ) ((cut (g src.xs[i] (wipeS s vs) h2)).bind fun s1 h1 => ((cut (t s1 h1)).bind fun b h2 => if b = true then (cut (me s1 h2)).bind fun w h3 =>
            if src.chk h3 = true then (if accW.length < lim then loopC src.chk g t me (src.xs.drop (i + 1)) (accW ++ [w]) (wipeS s vs) h3 else .bad) else .bad
          else if src.chk h2 = true then loopC src.chk g t me (src.xs.drop (i + 1)) accW (wipeS s vs) h2 else .bad).bind finC) := by
          have e : ∀ {α β γ : Type} (r : Rs α) (f : α → HH → Rs β) (k : β → HH → Rs γ), (r.bind f).bind k = r.bind fun a h => (f a h).bind k := fun r f k => by cases r <;> rfl
          rw [← e]; exact A2
        have e2D : H3 D = some (.lst accV) := g3.2 _ _ eD (.inl nD)
        have pa := p2
        have ga := g2.trans g3
        have R0 : RSl K none ι2 H3 (wipeS s vs) (L2.wipe σ vs) := (R.mono (p1.trans p2) (g1.trans ga)).drop.wipe vs
        refine ⟨ι2, wipeS s vs, h2, _, S3, R0, r3, ((A3.bindB.le pa ga).cutX).imp (fun ι4 h4 H4 s4 p4 g4 S4 A4 σ4 R4 w4 => ?_) fun _ _ _ _ _ _ _ z => z.elim⟩
        refine ⟨w4.trans wipe_wipe, ?_⟩
        have nD4 : D ∉ ι4 := fun hm => by
          have := g4.1 D hm nD
          rw [e2D] at this; cases this
        have e4D : H4 D = some (.lst accV) := g4.2 _ _ e2D (.inl nD)
        have p14 := pa.trans p4
        have g14 := ga.trans g4
        have e : ∀ {α β γ : Type} (r : Rs α) (f : α → HH → Rs β) (k : β → HH → Rs γ), (r.bind f).bind k = r.bind fun a h => (f a h).bind k := fun r f k => by cases r <;> rfl
        rw [e] at A4
        refine ⟨ι4, s4, h4, S4, R4, ((A4.bindB.le p14 g14).cut).imp (fun ι5 h5 H5 b p5 g5 S5 A5 => ?_) idX⟩
        have nD5 : D ∉ ι5 := fun hm => by
          have := g5.1 D hm nD4
          rw [e4D] at this; cases this
        have e5D : H5 D = some (.lst accV) := g5.2 _ _ e4D (.inl nD4)
        have p15 := p14.trans p5
        have g15 := g14.trans g5
        cases b with
        | false =>
          rw [if_neg Bool.false_ne_true] at A5
          split at A5
          · rename_i hc5
            exact ⟨ι5, h5, accW, accV, p15, g15, S5, nD5, e5D, ((rAcc.mono (List.prefix_refl _) g3).mono p4 g4).mono p5 g5, hc5, A5⟩
          · exact A5.elim
        | true =>
          rw [if_pos rfl, e] at A5
          refine ⟨ι5, s4, h5, S5, R4.mono p5 g5, ((A5.bindB.le p15 g15).cut).imp (fun ι6 h6 H6 w p6 g6 S6 A6 v rv => ?_) idX⟩
          have nD6 : D ∉ ι6 := fun hm => by
            have := g6.1 D hm nD5
            rw [e5D] at this; cases this
          have e6D : H6 D = some (.lst accV) := g6.2 _ _ e5D (.inl nD5)
          have p16 := p15.trans p6
          have g16 := g15.trans g6
          have rA6 := (((rAcc.mono (List.prefix_refl _) g3).mono p4 g4).mono p5 g5).mono p6 g6
          split at A6
          · rename_i hc6
            split at A6
            · rename_i hl6
              have gD : Grow ι1 ι6 H1 (upd H6 D (.lst (accV ++ [v]))) := by
                refine ⟨g16.1, fun a u e i => ?_⟩
                rw [upd_ne (ne_of_none e hD)]
                exact g16.2 a u e i
              have keepD : ∀ {w : W} {v' : V}, RW K ι6 H6 w v' → RW K ι6 (upd H6 D (.lst (accV ++ [v]))) w v' := fun q => q.put e6D
              refine ⟨accV, e6D, by rw [← rA6.length]; exact lim_lt hl6, ι6, h6, accW ++ [w], accV ++ [v], p16, gD, S6.beside e6D nD6, nD6, upd_same, ?_, hc6, A6⟩
              exact (rA6.append (.cons rv .nil)).put e6D
            · exact A6.elim
          · exact A6.elim
    · left
      have : i = src.xs.length := by omega
      subst this
      rw [List.drop_length] at A2
      have A3 : After K ι1 H1 (okV K Q) (exE K Wx σ) (.ok (.ref h2.length) (h2 ++ [.lst accW])) := A2
      have gD : Grow ι1 (ι2 ++ [D]) H1 H2 := by
        refine ⟨fun a ha na => ?_, g2.2⟩
        rcases List.mem_append.mp ha with q | q
        · exact g2.1 a q na
        · have : a = D := by simpa using q
          rw [this]; exact hD
      exact ⟨Ys, A3 (ι2 ++ [D]) H2 (p2.trans pre_snoc) gD (S2.add eD rAcc nD) _ (.ref (getElem?_last S2.len))⟩
  · exact A1.elim
theorem de_lc {elt iter : Expr} {ifs : List Expr} {scope : Scope} {own : List (Str × Nat)} {mi : MI} {g : MG} {t : MT} {me : ME} (hc : X.calm = true) (hN : X.N.Nodup) (hi : DI X Wx tg iter mi) (ok : BlkOk X.N X.env.scope scope own)
    (hg : ∀ (s : Shared) (H : Hp) (C : Addr) (cl : List (Str × Addr)) (fp : List Addr), DGw (X.blk s H scope (compEnvC scope cl C X.env) fp) (own.map (·.2)) tg g)
    (ht : ∀ (s : Shared) (H : Hp) (C : Addr) (cl : List (Str × Addr)) (fp : List Addr), DTs (X.blk s H scope (compEnvC scope cl C X.env) fp) WF ifs t)
    (he : ∀ (s : Shared) (H : Hp) (C : Addr) (cl : List (Str × Addr)) (fp : List Addr), DE (X.blk s H scope (compEnvC scope cl C X.env) fp) WF elt me) (hs : ∀ x, foldedSetIterable iter X.env x = pure x := by intro _; rfl) :
    DE X Wx (.ListComp elt [⟨tg, iter, ifs, 0⟩] scope pos) (mLc mi (own.map (·.2)) g t me) := (pe_lc (g := tDGw X.K (own.map fun (q : Str × Nat) => q.2) g) (tt := tDT X.K WF t) (te := tD X.K WF me) hc hN hi ok hg ht he hs).imp fun σ H Q z => lc_go z
theorem ds_setLc {i : Nat} {y : Str} {py spos : Pos} {elt iter : Expr} {ifs : List Expr} {scope : Scope} {own : List (Str × Nat)} {mi : MI} {g : MG} {t : MT} {me : ME} (hc : X.calm = true) (hN : X.N.Nodup) (hy : X.N[i]? = some y) (hyl : X.env.scope.names.lookup y = some .local)
    (hsw : swapsWith (.ListComp elt [⟨tg, iter, ifs, 0⟩] scope pos) (some (.Name y py)) spos.line X.env = pure true) (hi : DI X Wx tg iter mi) (ok : BlkOk X.N X.env.scope scope own)
    (hg : ∀ (s : Shared) (H : Hp) (C : Addr) (cl : List (Str × Addr)) (fp : List Addr), DGw (X.blk s H scope (compEnvC scope cl C X.env) fp) (own.map (·.2)) tg g)
    (ht : ∀ (s : Shared) (H : Hp) (C : Addr) (cl : List (Str × Addr)) (fp : List Addr), DTs (X.blk s H scope (compEnvC scope cl C X.env) fp) WF ifs t)
    (he : ∀ (s : Shared) (H : Hp) (C : Addr) (cl : List (Str × Addr)) (fp : List Addr), DE (X.blk s H scope (compEnvC scope cl C X.env) fp) WF elt me) (hs : ∀ x, foldedSetIterable iter X.env x = pure x := by intro _; rfl) :
    DS X Wx (.Assign [.Name y py] (.ListComp elt [⟨tg, iter, ifs, 0⟩] scope pos) spos) (sSet i (mLc mi (own.map (·.2)) g t me)) :=
  (ps_setLc (g := tDGw X.K (own.map fun (q : Str × Nat) => q.2) g) (tt := tDT X.K WF t) (te := tD X.K WF me) hc hN hy hyl hsw hi ok hg ht he hs).imp fun D σ H z => by
    obtain ⟨ι, s, h, S, R, A⟩ := z
    exact lc_go ⟨ι, s, h, S, R, (A.bind.atS R).imp (fun ι1 h1 H1 r p1 g1 S1 A1 v rv => A1.now S1 _ ((R.mono p1 g1).set rv i)) idX⟩
end
end D
/-! D: the law's end. -/
namespace D
open PySem PySem.Spec PyProof.Rows
open L2 hiding XE Takes CX ps_raise mk_of pmk_own passAt takes_of passes_call MkP PMk ps_try_as ps_try_many
open L2N hiding St

/-- what the base holds beside the frame: the table of the modules, and no bound on digits of one's own -/
structure BaseF (b : Heap) : Prop where
  sy : ∃ mm, b.Ns sysModules mm
  nd : b.NoDigits
theorem rws_ints {K : PySem.W.Frag} {ι : List Addr} {H : Hp} : ∀ ns : List Int, RWs K ι H (ns.map W.int) (ns.map V.int)
  | [] => .nil
  | n :: r => .cons (.int n) (rws_ints r)
/-- the law's call, from its def's promise -/
theorem call_law {P : Program} {w : World} {K : PySem.W.Frag} {mg mb : Str → Option Value} {k : Nat} {fa a : Addr} {fd : FuncData} {x : Str} {M : MF} {s : Shared} {vs : List Value} {ns : List Int}
    (inK : K.In s.heap) (nsG : s.heap.Ns mainGlobals mg) (nsB : s.heap.Ns builtinsNs mb) (boot : ∀ x : Str, x ≠ "__name__" → mb x = bootBuiltins x) (noLim : s.heap.NoLimit) (gens : s.gens = #[])
    (at_a : s.heap.get? a = some { cls := .type "list", data := .seq vs.toArray }) (areI : IntsAre vs ns) (short : ns.length ≤ sizeLine) (room : Room k callerA)
    (sysm : BaseF s.heap) (F : ∀ base : Heap, K.In base → base.Ns mainGlobals mg → BaseF base → FnM P w K mg base k fa fd [x] M) (bnd : ∀ (s : Shared) (u : Value), BindsTo s fd ⟨[u], []⟩ [(x, u)])
    (law : ∃ h', M [.fl (ns.map W.int)] [] = .ok (.bl true) h') :
    codeAny (model P w) callerA (.call (.ref fa) ⟨[.ref a], []⟩) (fun r s' => r = .ok (.ret (.bool true)) ∧ OldK s.heap s'.heap ∧ s'.os = s.os ∧ AllBare s'.gens) s := by
  have rel := vals_ints areI
  have lenEq := areI.length
  -- what is tracked: the script, or nothing
  obtain ⟨H, hone, hFL, hok, hin⟩ : ∃ H : Hp, (∀ b u, H b = some u → b = a ∧ K.lookup a = none ∧ u = .frz { cls := .type "list", data := .seq vs.toArray } (.lst (ns.map V.int))) ∧ FL K H a (ns.map V.int) ∧ HOk P w H s.heap ∧ True := by
    cases q : K.lookup a with
    | some o =>
      have e := inK a o q
      rw [at_a] at e
      cases e
      refine ⟨fun _ => none, (fun b u z => by cases z), .inr ⟨_, vs.toArray, _, q, rfl, rfl, rfl, ?_, by simpa using rel⟩, (fun b u z => by cases z), trivial⟩
      rw [List.size_toArray, lenEq]; exact short
    | none =>
      refine ⟨upd (fun _ => none) a (.frz { cls := .type "list", data := .seq vs.toArray } (.lst (ns.map V.int))), fun b u z => ?_, .inl ⟨_, upd_same⟩, fun b u z => ?_, trivial⟩
      · by_cases hb : b = a
        · subst hb; rw [upd_same] at z; exact ⟨rfl, rfl, (Option.some.inj z).symm⟩
        · rw [upd_ne hb] at z; cases z
      · by_cases hb : b = a
        · subst hb; rw [upd_same] at z; cases z
          exact ⟨at_a, by rw [List.length_map]; exact short, vs, _, rel, at_a⟩
        · rw [upd_ne hb] at z; cases z
  have keep : ∀ {b : Addr} {o : Obj}, s.heap.get? b = some o → H b = none → (hidT s.heap H).get? b = some o := fun e n => hidT_get e n
  have free : ∀ {b : Addr} {o : Obj}, K.lookup b = some o → H b = none := fun {b o} e => by
    cases q : H b with
    | none => rfl
    | some u => obtain ⟨rfl, z, _⟩ := hone b u q; rw [e] at z; cases z
  have freeD : ∀ {b : Addr} {o : Obj} {es : Array DictEntry} {ep : Nat}, s.heap.get? b = some o → o.data = .dict es ep → H b = none := fun {b o es ep} e d => by
    cases q : H b with
    | none => rfl
    | some u =>
      obtain ⟨rfl, _, _⟩ := hone b u q
      rw [at_a] at e; cases e; cases d
  have ns' : ∀ {b : Addr} {m : Str → Option Value}, s.heap.Ns b m → (hidT s.heap H).Ns b m := fun {b m} ⟨o, es, ep, e, d, r⟩ => ⟨o, es, ep, keep e (freeD e d), d, r⟩
  have inB : K.In (hidT s.heap H) := fun b o e => keep (inK b o e) (free e)
  have md : Mod K mg (hidT s.heap H) := ⟨inB, ns' nsG, ⟨mb, ns' nsB, boot⟩, let ⟨mc, z1, z2⟩ := noLim; ⟨mc, ns' z1, z2⟩⟩
  have en : Env0 P w K mg (hidT s.heap H) callerA [] s H := ⟨rfl, md, fun b o e => of_hidT e, Nat.le_of_eq (hidT_size _ _), trivial, (fun b hb => by cases hb), hok, AllBare.of_eq gens⟩
  obtain ⟨h', hM⟩ := law
  have prom : spM K 1 M [.ref a] H (fun v _ => v = .bl true) (fun _ _ _ => False) := by
    refine ⟨[], [.fl (ns.map W.int)], [], rfl, ⟨rfl, .nil, fun i b o z => by cases z⟩, .cons (.fl hFL ?_) .nil, ?_⟩
    · exact rws_ints ns
    · rw [hM]
      intro ι' H' p g S v r
      cases r; rfl
  refine codeAny_mono ((F _ inB (ns' nsG) ⟨let ⟨mm, z⟩ := sysm.sy; ⟨mm, ns' z⟩, let ⟨mc, z1, z2⟩ := sysm.nd; ⟨mc, ns' z1, z2⟩⟩).go callerA [] s H ⟨[.ref a], []⟩ [.ref a] [.ref a] _ _ ⟨room, rfl⟩ en (bnd s (.ref a)) (.cons rfl .nil) prom) fun r s' z => ?_
  cases r with
  | error e =>
    obtain ⟨_, _, _, _, _, _, _, _, _, _, _, _, q⟩ := (show L2N.CX P w [] H s (fun _ _ _ => False) e s' from z)
    exact q.elim
  | ok fl =>
    cases fl with
    | next => exact z.elim
    | brk => exact z.elim
    | cont => exact z.elim
    | ret u =>
      obtain ⟨v, H', os, bare, un, hok', r', q⟩ := z
      have q' : v = .bl true := q
      subst q'
      obtain rfl : u = Value.bool true := r'
      refine ⟨rfl, OldK.of_keep fun b o e => ?_, os, bare⟩
      cases q : H b with
      | none => exact un.keep b o e q (fun z => by cases z) (fun z => by cases z)
      | some u =>
        obtain ⟨rfl, _, rfl⟩ := hone b u q
        have q2 := un.frzs b _ _ q
        obtain ⟨e1, _⟩ := hok b _ q
        obtain ⟨e2, _⟩ := hok' b _ q2
        rw [e] at e1; cases e1
        exact e2
/-- the goal that k_head leaves -/
theorem walk_law {l : PySem.W.OpenLaw} {n k : Nat} {q : Program} {loose : List Str} {XP : (Str → Option Value) → Heap → Prop} {YP : World → Heap → Prop} {d : DefRec} {K : Params → PySem.W.Frag} {x : Str}
    (most : l.most = some n) (small : n ≤ sizeLine) (noDef : d.params.defaults = []) (room : Room k callerA) (imp : importsNone q = true)
    (inK : ∀ (w : World) (h : Heap), YP w h → (K w.params).In h)
    (F : ∀ (w : World) (mg : Str → Option Value) (fa : Addr) (h : Heap), (K w.params).In h → h.Ns mainGlobals mg → mg d.name = some (.ref fa) →
      ∃ (fd : FuncData) (M : MF), (∀ (s : Shared) (u : Value), BindsTo s fd ⟨[u], []⟩ [(x, u)]) ∧
        (∀ base : Heap, (K w.params).In base → base.Ns mainGlobals mg → BaseF base → FnM l.prog w (K w.params) mg base k fa fd [x] M) ∧
        ∀ ns : List Int, ns.length ≤ n → (∀ i ∈ ns, Builtin.Int.intBits i ≤ 1048576) → ∃ h', M [.fl (ns.map W.int)] [] = .ok (.bl true) h') :
    PySem.W.WalkO q loose XP YP l.row.toRowW d [] (fun f vs => PySem.call f vs) := by
  refine Att.attach_callB most noDef fun w s₀ s₁ mg mb fa o pm cd doc a vs ns G Y ho hd hcd hmg hobj hints hlen hbits hg => ?_
  have KX := inK w _ Y
  obtain ⟨fd, M, hb, hF, law⟩ := F w mg fa _ KX G.T.g hmg
  exact call_law KX G.T.g G.T.b G.T.builtins G.T.nolimit hg hobj hints (Nat.le_trans hlen small) room ⟨let ⟨mm, z, _⟩ := (G.T.seer imp).mods; ⟨mm, z⟩, G.T.nodigits⟩ hF hb (law ns hlen hbits)
end D
/-! D: list(reversed(xs)), tuple(reversed(xs)). -/
namespace D
open PySem PySem.Spec PyProof.Rows L2
section
variable {prog : Program} {w : World} {A : Around} {E : Value → Shared → Prop} {s : Shared}
/-- list(it), it the iterator of reversed(a list) -/
theorem lst_rev {it l : Addr} {items : Array Value} {Q : Value → Shared → Prop} (quiet : A.handled = none) (at_it : s.heap.IsRevIter it l ((items.size : Int) - 1)) (at_l : s.heap.IsList l items) (ne : l ≠ it) (few : items.size ≤ sizeLine)
    (hQ : ∀ (h' : Heap) (tk : Nat) (acc : Array Value) (c : Nat), (∀ b o, b ≠ it → s.heap.get? b = some o → h'.get? b = some o) → s.heap.objs.size ≠ it → h'.get? s.heap.objs.size = some { cls := .type "list", dict := none, data := .seq acc c, slots := #[] } →
      ItemsOf (fun i v => items[items.size - 1 - i]? = some v) acc items.size → Q (.ref s.heap.objs.size) { s with heap := h', toks := tk }) :
    wpAny (model prog w) A (call (.type "list") [.ref it]) Q E s := by
  refine callType_codes (Q₁ := fun obj s₁ => obj = .ref s.heap.objs.size ∧ s₁ = { s with heap := s.heap.push { cls := .type "list", data := .seq #[] } }) PySem.F.called_list (PySem.F.typeCall_list_1 _) PySem.F.entry_list_init
    (code_list_new _ ⟨rfl, rfl⟩) fun obj s₁ both => ?_
  obtain ⟨rfl, rfl⟩ := both
  obtain ⟨oi, hoi, _⟩ := id at_it
  obtain ⟨ol, hol, _⟩ := id at_l
  have ni : s.heap.objs.size ≠ it := Nat.ne_of_gt (Heap.lt_size hoi)
  have nl : s.heap.objs.size ≠ l := Nat.ne_of_gt (Heap.lt_size hol)
  have nf : s.heap.objs.size ∉ [it, l] := by simp only [List.mem_cons, List.not_mem_nil, or_false, not_or]; exact ⟨ni, nl⟩
  have new0 : (s.heap.push { cls := .type "list", data := .seq #[] }).get? s.heap.objs.size = some { cls := .type "list", data := .seq #[] } := Heap.get?_push_size _ rfl
  have it0 : (s.heap.push { cls := .type "list", data := .seq #[] }).IsRevIter it l ((items.size : Int) - 1) := at_it.at fun o e => Heap.get?_push_of_some _ e
  have l0 : (s.heap.push { cls := .type "list", data := .seq #[] }).IsList l items := at_l.push _
  refine ⟨⟨_, new0, rfl⟩, PySem.F.args_list_init_2 _ _, ?_⟩
  show wpAny _ _ (do
    let was ← Builtin.List.listItems (.ref s.heap.objs.size)
    Builtin.List.listUpdate (.ref s.heap.objs.size) (fun _ => #[])
    letGo was.toList.reverse
    Builtin.List.listExtendWith (.ref s.heap.objs.size) (.ref it) .none) _ _ _
  refine wpAny_bind ?_
  unfold Builtin.List.listItems
  refine wpAny_bind (wpAny_seqItems new0 rfl (wpAny_pure ?_))
  show wpAny _ _ (updateSeq s.heap.objs.size (fun _ => #[]) >>= fun _ => letGo (#[] : Array Value).toList.reverse >>= fun _ => _) _ _ _
  refine wpAny_bind (wpAny_updateSeq new0 rfl ?_)
  have new1 := Heap.get?_update_self (Obj.mapSeq (fun _ => (#[] : Array Value))) new0 rfl
  generalize hg : (s.heap.push { cls := .type "list", data := .seq #[] }).update s.heap.objs.size (Obj.mapSeq (fun _ => (#[] : Array Value))) = g at new1
  have oth : ∀ b o, b ≠ s.heap.objs.size → (s.heap.push { cls := .type "list", data := .seq #[] }).get? b = some o → g.get? b = some o := fun b o hb e => by
    rw [← hg]; exact (Heap.get?_update_other _ _ (Ne.symm hb)).trans e
  have it1 : g.IsRevIter it l ((items.size : Int) - 1) := it0.at fun o e => oth it o (Ne.symm ni) e
  have l1 : g.IsList l items := by
    obtain ⟨o, e, r⟩ := l0
    exact ⟨o, oth l o (Ne.symm nl) e, r⟩
  refine wpAny_bind (wpAny_letGo ?_)
  have tI : ({ s with heap := g } : Shared).TypeIs (.ref it) "list_reverseiterator" := Heap.IsRevIter.typeIs (s := { s with heap := g }) it1
  have dif : Builtin.List.listSameRef (.ref s.heap.objs.size) (.ref it) = false := by simp [Builtin.List.listSameRef, ni]
  have W := (Walks.listRev (prog := prog) (w := w) (A := A.in1.in1) quiet it l ne items).toS
  unfold Builtin.List.listExtendWith
  refine wpAny_bind (wpAny_typeOf tI ?_)
  rw [if_neg (by rw [dif]; decide)]
  refine wpAny_bind (wpAny_pyIter_revIter (s := { s with heap := g }) it1 ?_)
  refine wpAny_bind (wpAny_holding ?_)
  unfold Builtin.List.listLengthHint
  refine wpAny_bind (wpAny_specialOf tI RT.nolen_lri ?_)
  show wpAny _ _ (specialOf (Value.ref it) (Str.ofString "__length_hint__") >>= _) _ _ _
  refine wpAny_bind (wpAny_specialOf tI RT.hint_lri ?_)
  generalize hid : ("list_reverseiterator.__length_hint__" : String) = hint
  wp_delta
  rw [show splitId hint = some ("list_reverseiterator", "__length_hint__") from by subst hid; decide +kernel]
  subst hid
  refine wpAny_bind (wpAny_isInstance (b := true) tI (by rw [isSubtype_type]; kernel_rfl) ?_)
  refine wpAny_pure ?_
  rw [if_neg (by decide)]
  have e0 : ((items.size : Nat) : Int) - 1 - ((0 : Nat) : Int) = (items.size : Int) - 1 := by omega
  refine wpAny_pure ⟨plainId_quiet PySem.F.plain_extend_loop _, codeAny_extend_loopS W few _ nf _ items.size 0 _ _ _ rfl (Nat.zero_le _) ⟨Nat.zero_le _, by rw [e0]; exact it1, l1⟩ new1 (ItemsOf.nil _) fun s' acc' c' hm hS' hacc => ?_⟩
  rw [Moved.eq_with hm]
  refine ⟨rfl, hQ s'.heap s'.toks acc' c' (fun b o hb e => hm.heap b o (fun hmem => ?_) (oth b o (Nat.ne_of_lt (Heap.lt_size e)) (Heap.get?_push_of_some _ e))) ni hS' hacc⟩
  rcases List.mem_cons.mp hmem with e' | hmem
  · exact absurd (Heap.lt_size e) (by rw [e']; exact Nat.lt_irrefl _)
  · exact hb (List.mem_singleton.mp hmem)
end

section
variable {X : Cx} {Wx : WJ} {e : Expr} {ma : ME} {p p2 pos pos2 : Pos}
@[simp] def mRevL (m : ME) : ME := fun s h => (m s h).bind fun w h1 => match lstW h1 w with
  | some xs => .ok (.ref h1.length) (h1 ++ [.lst xs.reverse])
  | none => .bad
@[simp] def mRevT (m : ME) : ME := fun s h => (m s h).bind fun w h1 => match lstW h1 w with
  | some xs => .ok (.tup xs.reverse) h1
  | none => .bad
def tLR (K : PySem.W.Frag) (te : TE) : TE := fun σ H Q => te σ H fun v H1 => ∃ (a : Addr) (xs : List V), v = .ref a ∧ SqL K H1 a xs ∧ ∀ q, H1 q = none → Q (.ref q) (upd H1 q (.lst xs.reverse))
theorem pe_LR {te : TE} (hc : X.calm = true) (hg : Gl X "list") (hm : X.mg "list" = none) (hg2 : Gl X "reversed") (hm2 : X.mg "reversed" = none) (he : PE X e te)
    (hs : starEach [e] X.env = (false, eval e X.env) :: starEach [] X.env := by rfl)
    (hs2 : starEach [.Call (.Name "reversed" p2) [e] [] pos2] X.env = (false, eval (.Call (.Name "reversed" p2) [e] [] pos2) X.env) :: starEach [] X.env := by rfl) :
    PE X (.Call (.Name "list" p) [.Call (.Name "reversed" p2) [e] [] pos2] [] pos) (tLR X.K te) := by
  refine ⟨fun pins s σ H Q I z => ?_⟩
  refine Call_ (ld_blt I hg hm PyProof.Rows.boot_list (PyProof.Rows.callWith_type1 (args_cons (Call_ (ld_blt I hg2 hm2 PyProof.Rows.boot_reversed
    (PyProof.Rows.callWith_type1 (args_cons (thn (he.run pins s σ H _ I z) fun u s1 ⟨v, H1, I1, r1, a, xs, ev, hq, q⟩ => args_nil ?_) hs) hs rfl))) hs2) hs2 rfl))
  subst ev
  obtain rfl : u = Value.ref a := r1
  obtain ⟨its, rv, pl, few⟩ := I1.list hq
  refine call_reversed_list pl.isList (args_nil ?_)
  have J := I1.kept (t' := s1.toks) (h' := s1.heap.push (revObj a ((its.toArray.size : Int) - 1))) fun b o e => Heap.get?_push_of_some _ e
  obtain ⟨f0, f1, f2, f3, f4, f5⟩ := I1.fpOk (H' := H1) (b := s1.heap.objs.size) (Nat.le_refl _) (I1.hok.fresh (Nat.le_refl _))
  have L := pl.isList
  obtain ⟨ol, hol, _⟩ := id L
  have ne : a ≠ s1.heap.objs.size := Nat.ne_of_lt (Heap.lt_size hol)
  have few' : its.toArray.size ≤ sizeLine := by rw [List.size_toArray, ← rv.length]; exact few
  refine lst_rev (s := { s1 with heap := s1.heap.push (revObj a ((its.toArray.size : Int) - 1)) }) (I1.ok.hd hc) ⟨_, Heap.get?_push_size _ rfl, rfl, rfl⟩ (L.push _) ne few' fun h' tk acc c keep ni new items => ?_
  generalize hS : (s1.heap.push (revObj a ((its.toArray.size : Int) - 1))).objs.size = S at ni new
  have nS : H1 S = none := J.hok.fresh (Nat.le_of_eq hS)
  have lt : ∀ {b : Addr} {o : Obj}, (s1.heap.push (revObj a ((its.toArray.size : Int) - 1))).get? b = some o → b ≠ S := fun {b o} e => Nat.ne_of_lt (by rw [← hS]; exact Heap.lt_size e)
  have rev : Vals xs.reverse acc.toList := RT.vals_rev rv items
  have nit : ∀ b u, H1 b = some u → b ≠ s1.heap.objs.size := fun b u e z => by rw [z, f0] at e; cases e
  have ok : HOk X.prog X.w (upd H1 S (.lst xs.reverse)) h' := fun b u e => by
    by_cases hb : b = S
    · subst hb
      rw [upd_same] at e; cases e
      exact ⟨by rw [List.length_reverse]; exact few, acc.toList, c, rev, by rw [Array.toArray_toList]; exact new⟩
    · rw [upd_ne hb] at e
      refine (J.hok b u e).stay (fun d o hd q => keep d o ?_ q) (fun d q => by rw [upd_ne (ne_of_none q nS)]; exact q) fun d q q2 => by rw [upd_ne (ne_of_none q2 nS)]; exact q2
      rcases hd with rfl | hd
      · exact nit _ _ e
      · exact nit _ _ hd
  have G := J.step (g' := s1.gens) (d' := s1.drawn) (t' := tk) (h' := h') (H' := upd H1 S (.lst xs.reverse)) (ch := [s1.heap.objs.size])
    (fun b hb => by
      have e : b = s1.heap.objs.size := by simpa using hb
      subst e
      exact ⟨f3, f1, f4, f5⟩)
    (fun b o _ _ hb e _ => keep b o (fun z => hb (by simp [z])) e) (fun b o _ _ hb e _ => ⟨o.slots, keep b o (fun z => hb (by simp [z])) e⟩)
    (fun b o _ e n => by rw [upd_ne (lt e)]; exact n) (fun b o hb e => ⟨o, keep b o (fun z => hb (by simp [z])) e⟩)
    (fun b q e => by rw [upd_ne (ne_of_none e nS)]; exact e) (fun b o q e => by rw [upd_ne (ne_of_none e nS)]; exact e) (fun b q e => ⟨#[], by rw [upd_ne (ne_of_none e nS), e]; simp⟩)
    (fun m hm => by
      obtain ⟨o, es, ep, ho, r⟩ := hm
      exact ⟨o, es, ep, keep _ o (Ne.symm f1) ho, r⟩) ok J.bare
  exact ⟨.ref S, _, G, rfl, q S nS⟩
theorem de_revL (hc : X.calm = true) (hg : Gl X "list") (hm : X.mg "list" = none) (hg2 : Gl X "reversed") (hm2 : X.mg "reversed" = none) (he : DE X Wx e ma)
    (hs : starEach [e] X.env = (false, eval e X.env) :: starEach [] X.env := by rfl)
    (hs2 : starEach [.Call (.Name "reversed" p2) [e] [] pos2] X.env = (false, eval (.Call (.Name "reversed" p2) [e] [] pos2) X.env) :: starEach [] X.env := by rfl) :
    DE X Wx (.Call (.Name "list" p) [.Call (.Name "reversed" p2) [e] [] pos2] [] pos) (mRevL ma) :=
  (pe_LR hc hg hm hg2 hm2 he hs hs2).imp fun σ H Q ⟨ι, s, h, S, R, A⟩ => ⟨ι, s, h, S, R, A.bind.imp (fun ι1 h1 H1 x p1 g1 S1 A1 v r => by
    split at A1
    · rename_i xs hx
      obtain ⟨a, ys, rfl, hs, rs⟩ := lst_at S1 r hx
      exact ⟨_, _, rfl, hs, fun p hp => new_lstE S1 rs.reverse A1 hp⟩
    · exact A1.elim) idX⟩
theorem de_revT (hc : X.calm = true) (hg : Gl X "tuple") (hm : X.mg "tuple" = none) (hg2 : Gl X "reversed") (hm2 : X.mg "reversed" = none) (he : DE X Wx e ma)
    (hs : starEach [e] X.env = (false, eval e X.env) :: starEach [] X.env := by rfl)
    (hs2 : starEach [.Call (.Name "reversed" p2) [e] [] pos2] X.env = (false, eval (.Call (.Name "reversed" p2) [e] [] pos2) X.env) :: starEach [] X.env := by rfl) :
    DE X Wx (.Call (.Name "tuple" p) [.Call (.Name "reversed" p2) [e] [] pos2] [] pos) (mRevT ma) :=
  (RT.pe_tupRev hc hg hm hg2 hm2 he hs hs2).imp fun σ H Q ⟨ι, s, h, S, R, A⟩ => ⟨ι, s, h, S, R, A.bind.imp (fun ι1 h1 H1 x p1 g1 S1 A1 v r => by
    split at A1
    · rename_i xs hx
      obtain ⟨a, ys, rfl, hs, rs⟩ := lst_at S1 r hx
      exact ⟨_, _, rfl, hs, fun p hp => new_tupE S1 rs.reverse A1 hp⟩
    · exact A1.elim) idX⟩
end
end D
/-! D: enumerate and zip over lists and tuples, in any mix. -/
namespace D
open PySem PySem.Spec PyProof.Rows L2

/-! ### a list (false) or a tuple (true) -/
def SqB (K : PySem.W.Frag) (k : Bool) (H : Hp) (a : Addr) (xs : List V) : Prop := if k = true then SqT K H a xs else SqL K H a xs
def AtB (k : Bool) (h : Heap) (a : Addr) (its : Array Value) : Prop := if k = true then h.IsTuple a its else h.IsList a its
def ItB (k : Bool) (h : Heap) (it a : Addr) (i : Nat) : Prop := if k = true then h.IsTupleIter it a i else h.IsListIter it a i
def itO (k : Bool) (a : Addr) : Obj := { cls := .type (if k = true then "tuple_iterator" else "list_iterator"), data := .fields #[.ref a, .int 0 0] }
theorem at_of (k : Bool) {X : Cx} {pins : List (Addr × Obj)} {σ : St} {H : Hp} {s : Shared} {a : Addr} {xs : List V} (I : Inv X pins σ H s) (h : SqB X.K k H a xs) : ∃ its : List Value, Vals xs its ∧ AtB k s.heap a its.toArray := by
  cases k with
  | true => obtain ⟨its, r, p, _⟩ := I.tuple h; exact ⟨its, r, p⟩
  | false => obtain ⟨its, r, p, _⟩ := I.list h; exact ⟨its, r, p.isList⟩
theorem sqB_inj (k : Bool) {X : Cx} {pins : List (Addr × Obj)} {σ : St} {H : Hp} {s : Shared} {a : Addr} {xs ys : List V} (I : Inv X pins σ H s) (h : SqB X.K k H a xs) (h' : SqB X.K k H a ys) : xs = ys := by
  cases k with
  | true => exact I.tuple_inj h h'
  | false => exact I.list_inj h h'
theorem AtB.obj {k : Bool} {h : Heap} {a : Addr} {its : Array Value} (p : AtB k h a its) : ∃ o, h.get? a = some o ∧ (o.cls = .type "tuple" ∨ o.cls = .type "list") := by
  cases k with
  | true => obtain ⟨o, e, c, _⟩ := p; exact ⟨o, e, .inl c⟩
  | false => obtain ⟨o, e, c, _⟩ := p; exact ⟨o, e, .inr c⟩
theorem AtB.lt {k : Bool} {h : Heap} {a : Addr} {its : Array Value} (p : AtB k h a its) : a < h.objs.size := by
  obtain ⟨o, e, _⟩ := p.obj; exact Heap.lt_size e
theorem ItB.obj {k : Bool} {h : Heap} {it a : Addr} {i : Nat} (p : ItB k h it a i) : ∃ o vs, h.get? it = some o ∧ o.data = .fields vs ∧ o.cls ≠ .type "tuple" ∧ o.cls ≠ .type "list" := by
  cases k with
  | true => obtain ⟨o, e, c, d⟩ := p; exact ⟨o, _, e, d, by rw [c]; decide, by rw [c]; decide⟩
  | false => obtain ⟨o, e, c, d⟩ := p; exact ⟨o, _, e, d, by rw [c]; decide, by rw [c]; decide⟩
theorem ItB.at {k : Bool} {h h' : Heap} {it a : Addr} {i : Nat} (p : ItB k h it a i) (q : ∀ o, h.get? it = some o → h'.get? it = some o) : ItB k h' it a i := by
  cases k with
  | true => exact Heap.IsTupleIter.at p q
  | false => exact Heap.IsListIter.at p q
theorem itB_new (k : Bool) {h : Heap} {it a : Addr} (e : h.get? it = some (itO k a)) : ItB k h it a 0 := by
  cases k with
  | true => exact ⟨_, e, rfl, rfl⟩
  | false => exact ⟨_, e, rfl, rfl⟩
/-- an iterator over either -/
theorem drawsB (k : Bool) {prog : Program} {w : World} {A : Around} (hh : A.handled = none) (it a : Addr) (hne : a ≠ it) (its : Array Value) :
    Draws prog w A it [it, a] its.size (fun i v => its[i]? = some v) (fun i h => ItB k h it a i ∧ AtB k h a its) := by
  cases k with
  | true => exact Draws.tuple hh it a hne its
  | false => exact Draws.list hh it a hne its
theorem iter_start (k : Bool) {P : Program} {w : World} {A : Around} {E : Value → Shared → Prop} {s : Shared} {a : Addr} {its : Array Value} {Q : Value → Shared → Prop} (p : AtB k s.heap a its)
    (q : Q (.ref s.heap.objs.size) { s with heap := s.heap.push (itO k a) }) : wpAny (model P w) A (pyIter (.ref a)) Q E s := by
  cases k with
  | true => exact wpAny_pyIter_tuple p q
  | false => exact wpAny_pyIter_list p q

/-! ### enumerate -/
theorem enumT_new (l : Addr) (its : Array Value) (n : Nat) (dct : Option Addr) (sl : Array (Option Value)) :
    Meets (Builtin.«enumerate.__new__» ⟨[.type "enumerate", .ref l], []⟩) (fun _ R s => s.heap.get? l = some { cls := .type "tuple", dict := dct, data := .seq its n, slots := sl } ∧
      R (.ok (.ret (.ref (s.heap.push (itO true l)).objs.size))) { s with heap := (s.heap.push (itO true l)).push { cls := .type "enumerate", data := .fields #[.none, .bool false, .ref s.heap.objs.size, rawInt 0, .none, .none] } }) :=
  .of_wp fun prog w A R s h => by
    obtain ⟨hp, g, d, tk, os⟩ := s
    obtain ⟨at_l, h⟩ := h
    have same := sub_enumerate
    have is_l : Heap.IsTuple (Shared.heap ⟨hp, g, d, tk, os⟩) l its := ⟨_, at_l, rfl, n, rfl⟩
    wp_walk using AutoSeq1.wpAny_loadPart' at_l
    refine wpAny_stack_any fun st => wpAny_pure ?_
    split
    · rename_i c _ _ _ _ _
      cases (c == Value.type "enumerate") <;> (wp_walk using AutoSeq1.wpAny_loadPart' at_l, wpAny_pyIter_tuple is_l; exact ⟨_, rfl, h⟩)
    · wp_walk using AutoSeq1.wpAny_loadPart' at_l, wpAny_pyIter_tuple is_l
      exact ⟨_, rfl, h⟩
theorem enum_call (k : Bool) {prog : Program} {w : World} {A : Around} {E : Value → Shared → Prop} {s : Shared} {l : Addr} {its : Array Value} {Q : Value → Shared → Prop} (p : AtB k s.heap l its)
    (h : ∀ h', IsEnum h' (s.heap.objs.size + 1) s.heap.objs.size 0 .none → ItB k h' s.heap.objs.size l 0 → (∀ b o, s.heap.get? b = some o → h'.get? b = some o) → Q (.ref (s.heap.objs.size + 1)) { s with heap := h' }) :
    wpAny (model prog w) A (call (.type "enumerate") [.ref l]) Q E s := by
  cases k with
  | false => exact call_enumerate_list p fun h' a b _ c => h h' a b c
  | true =>
    obtain ⟨⟨c, dct, dt, sl⟩, hl, hc, n, hd⟩ := p
    replace hc : c = .type "tuple" := hc
    replace hd : dt = .seq its n := hd
    subst hc hd
    refine callType_new F.called_enumerate (by decide) (F.typeCall_enumerate_1 _) (F.newCall_enumerate_1 _) (fun obj => F.args_object_init_2 obj _) F.entry_enumerate_new
      (enumT_new l its n dct sl) ⟨hl, ?_⟩
    have sz : (s.heap.push (itO true l)).objs.size = s.heap.objs.size + 1 := Heap.size_push ..
    show _ ∧ _
    rw [sz]
    have is_e : IsEnum ((s.heap.push (itO true l)).push { cls := .type "enumerate", data := .fields #[.none, .bool false, .ref s.heap.objs.size, rawInt 0, .none, .none] }) (s.heap.objs.size + 1) s.heap.objs.size 0 .none := by
      have := Heap.get?_push_size (s.heap.push (itO true l)) (o := { cls := .type "enumerate", data := .fields #[.none, .bool false, .ref s.heap.objs.size, rawInt 0, .none, .none] }) rfl
      rw [sz] at this; exact this
    exact ⟨⟨_, is_e, rfl⟩, h _ is_e (itB_new true (Heap.get?_push_of_some _ (Heap.get?_push_size _ rfl))) fun b o x => Heap.get?_push_of_some _ (Heap.get?_push_of_some _ x)⟩
def IteB (K : PySem.W.Frag) (k : Bool) (a : Addr) : It :=
  ⟨fun i H => ∃ (xs : List V) (x : V), SqB K k H a xs ∧ xs[i]? = some x, fun i H v H' => ∃ T x, v = .ref T ∧ H T = none ∧ H' = upd H T (.tup [.int (i : Nat), x]) ∧ ∀ xs, SqB K k H a xs → xs[i]? = some x, fun i H => ∃ xs : List V, SqB K k H a xs ∧ xs.length = i⟩
theorem turnE {P : Program} {w : World} {K : PySem.W.Frag} {elts : List Expr} {kk : Nat} {tpos : Pos} (k : Bool) (a e it : Addr) (na : a ≠ it) :
    Turn P w K (.Tuple elts kk tpos) (IteB K k a) [e, it] e (fun i h => (∃ old, IsEnum h e it ((i : Nat) : Int) old) ∧ ItB k h it a i ∧ e ≠ it) where
  mem := by simp
  obj := fun i h st b hb => by
    obtain ⟨⟨old, is_e⟩, is_it, _⟩ := st
    have c : b = e ∨ b = it := by simpa using hb
    rcases c with z | z
    · rw [z]; exact ⟨_, is_e, fun v q => nomatch q⟩
    · obtain ⟨o, vs, ho, hd, _⟩ := is_it.obj
      rw [z]; exact ⟨o, ho, fun v q => by rw [hd] at q; cases q⟩
  keep := fun i h h' st q => let ⟨⟨old, is_e⟩, is_it, ne⟩ := st; ⟨⟨old, q e (by simp) _ is_e⟩, is_it.at fun o z => q it (by simp) o z, ne⟩
  item := by
    intro X hP hw hK hc i pins s σ H E I hf st hg
    subst hP hw hK
    obtain ⟨⟨old, is_e⟩, is_it, ne⟩ := st
    obtain ⟨xs, x, hq, hx⟩ := hg
    obtain ⟨its, rv, p⟩ := at_of k I hq
    obtain ⟨u, hu, ru⟩ := rv.get hx
    have lt_e : e < s.heap.objs.size := Heap.lt_size is_e
    have lt_it : it < s.heap.objs.size := by obtain ⟨_, _, q, _⟩ := is_it.obj; exact Heap.lt_size q
    have ne_a : e ≠ a := by
      rintro rfl
      obtain ⟨o, q, c⟩ := p.obj
      rw [is_e] at q; cases q
      rcases c with c | c <;> (injection c with c; exact absurd c (by decide))
    have hi : i < its.toArray.size := by have := (List.getElem?_eq_some_iff.mp hu).1; simpa using this
    refine wpAny_pyNext_enum_itemD (drawsB k (A := X.A.in1) (show X.A.in1.handled = none from I.ok.hd hc) it a na its.toArray) is_e ⟨is_it, p⟩ hi ne (by simp [ne, ne_a]) fun x' h' tk hx' ho st' hT hsz hk => ?_
    have ex : x' = u := by
      have : its[i]? = some x' := by simpa using hx'
      rw [hu] at this; exact (Option.some.inj this).symm
    subst ex
    refine ⟨_, rfl, wpAny_letOwnedTupleGo_enum (s := { s with heap := h', toks := tk + 1 }) ho fun h'' is_e' sb => ?_⟩
    have hT2 : h''.get? s.heap.objs.size = some { cls := .type "tuple", data := .seq #[.int i tk, x'] } := (sb.2 _ (Nat.ne_of_gt lt_e)).trans hT
    have new : ObjOk X.prog X.w (upd H s.heap.objs.size (.tup [.int (i : Nat), x])) h'' s.heap.objs.size (.tup [.int (i : Nat), x]) :=
      ⟨by show 2 ≤ sizeLine; decide, [.int i tk, x'], .cons ⟨_, rfl⟩ (.cons ru .nil), ⟨_, hT2, rfl, _, rfl⟩⟩
    have I1 : Inv X pins σ (upd H s.heap.objs.size (.tup [.int (i : Nat), x])) { s with heap := h'', toks := tk + 1 } :=
      I.turnedNew (ch := [e, it]) (fun b ob hb q => (sb.2 b (fun z => hb (by simp [z]))).trans (hk b ob (fun z => hb (by simp [z])) (fun z => hb (by simp [z])) q)) hf (Nat.le_refl _) new
    refine ⟨.ref s.heap.objs.size, _, I1, rfl, ⟨_, x, rfl, I.hok.fresh (Nat.le_refl _), rfl, fun ys hy => by rw [sqB_inj k I hy hq]; exact hx⟩, ⟨⟨x', ?_⟩, st'.1.at fun o q => (sb.2 it (Ne.symm ne)).trans q, ne⟩, fun b hb => ?_⟩
    · have e1 : ((i + 1 : Nat) : Int) = (i : Int) + 1 := by omega
      rw [e1]; exact is_e'
    · have lt_b : b < s.heap.objs.size := by
        have c : b = e ∨ b = it := by simpa using hb
        rcases c with z | z
        · rw [z]; exact lt_e
        · rw [z]; exact lt_it
      rw [upd_ne (Nat.ne_of_lt lt_b)]
      exact (hf b hb).1
  done := by
    intro X hP hw hK hc i pins s σ H E I hf st hg
    subst hP hw hK
    obtain ⟨⟨old, is_e⟩, is_it, ne⟩ := st
    obtain ⟨xs, hq, hx⟩ := hg
    obtain ⟨its, rv, p⟩ := at_of k I hq
    obtain ⟨f0, f1, f2, f3, f4, f5⟩ := hf it (by simp)
    have sz : its.toArray.size = i := by have := rv.length; simp; omega
    have st : ItB k s.heap it a its.toArray.size ∧ AtB k s.heap a its.toArray := by rw [sz]; exact ⟨is_it, p⟩
    exact wpAny_pyNext_enum_endD (drawsB k (A := X.A.in1) (show X.A.in1.handled = none from I.ok.hd hc) it a na its.toArray) is_e st fun h' eb => ⟨rfl, I.turned (t' := s.toks) (fun b o hb q => eb b o hb q) f0 f1 f3 f4 f5⟩
  self := fun A i s Q E st h => let ⟨⟨_, is_e⟩, _⟩ := st; wpAny_pyIter_enum is_e h
def iEnumB (K : PySem.W.Frag) (ta : TA) : TI := fun σ H R => ta σ H fun vs H1 => ∃ k a xs, vs = [.ref a] ∧ SqB K k H1 a xs ∧ R (IteB K k a) H1
theorem pi_enumB {X : Cx} {e : Expr} {ta : TA} {p pos tpos : Pos} {elts : List Expr} {kk : Nat} (hg : Gl X "enumerate") (hm : X.mg "enumerate" = none) (ha : PA X [e] ta) (hs : starEach [e] X.env = [(false, eval e X.env)] := by rfl) :
    PI X (.Tuple elts kk tpos) (.Call (.Name "enumerate" p) [e] [] pos) (iEnumB X.K ta) := by
  refine ⟨fun pins s σ H R I h => ?_⟩
  refine Call_ (ld_blt I hg hm boot_enumerate (PyProof.Rows.callWith_type1 (thn (ha.run pos pins s σ H _ I h) fun us s1 ⟨vs, H1, I1, r1, q1⟩ => ?_) hs rfl))
  obtain ⟨k, a, xs, ex, hq, q⟩ := q1
  subst ex
  cases r1 with
  | cons r rr =>
    cases rr
    cases r
    obtain ⟨its, rv, p'⟩ := at_of k I1 hq
    refine enum_call k p' fun h' is_e is_it hk => wpAny_pyIter_enum is_e ?_
    have I2 : Inv X pins σ H1 { s1 with heap := h' } := I1.kept (t' := s1.toks) hk
    refine ⟨s1.heap.objs.size + 1, [s1.heap.objs.size + 1, s1.heap.objs.size], _, _, H1, rfl, I2, turnE k a (s1.heap.objs.size + 1) s1.heap.objs.size (Nat.ne_of_lt p'.lt), ⟨⟨.none, is_e⟩, is_it, Nat.succ_ne_self _⟩, fun b hb => ?_, q⟩
    have c : b = s1.heap.objs.size + 1 ∨ b = s1.heap.objs.size := by simpa using hb
    have le : s1.heap.objs.size ≤ b := by
      rcases c with z | z
      · rw [z]; exact Nat.le_add_right _ _
      · rw [z]; exact Nat.le_refl _
    exact I1.fpOk le (I1.hok.fresh le)
/-! ### zip -/
def zH (k1 k2 : Bool) (h : Heap) (a b : Addr) : Heap := ((((h.push (itO k1 a)).push (itO k2 b)).push { cls := .type "tuple", data := .seq #[.ref h.objs.size, .ref (h.push (itO k1 a)).objs.size] }).push { cls := .type "tuple", data := .seq #[.none, .none] }).push
  { cls := .type "zip", data := .fields #[.none, .bool false, .bool false, .ref ((h.push (itO k1 a)).push (itO k2 b)).objs.size, .ref (((h.push (itO k1 a)).push (itO k2 b)).push { cls := .type "tuple", data := .seq #[.ref h.objs.size, .ref (h.push (itO k1 a)).objs.size] }).objs.size] }
theorem AtB.push {k : Bool} {h : Heap} {a : Addr} {its : Array Value} (p : AtB k h a its) (o : Obj) : AtB k (h.push o) a its := by
  cases k with
  | true => exact Heap.IsTuple.push p _
  | false => exact Heap.IsList.push p _
theorem zipB_new (k1 k2 : Bool) (a b : Addr) (xs ys : Array Value) :
    Meets (Builtin.«zip.__new__» ⟨[.type "zip", .ref a, .ref b], []⟩) (fun _ R s => AtB k1 s.heap a xs ∧ AtB k2 s.heap b ys ∧
      R (.ok (.ret (.ref (s.heap.objs.size + 4)))) { s with heap := zH k1 k2 s.heap a b }) :=
  .of_wp fun prog w A R s h => by
    obtain ⟨hp, g, d, tk, os⟩ := s
    obtain ⟨p1, p2, h⟩ := h
    have same := sub_zip
    have q2 : AtB k2 (hp.push (itO k1 a)) b ys := AtB.push p2 _
    have e4 : ((((hp.push (itO k1 a)).push (itO k2 b)).push { cls := .type "tuple", data := .seq #[.ref hp.objs.size, .ref (hp.push (itO k1 a)).objs.size] }).push { cls := .type "tuple", data := .seq #[.none, .none] }).objs.size = hp.objs.size + 4 := by
      rw [Heap.size_push, Heap.size_push, Heap.size_push, Heap.size_push]
    have h2 : R (.ok (.ret (.ref ((((hp.push (itO k1 a)).push (itO k2 b)).push { cls := .type "tuple", data := .seq #[.ref hp.objs.size, .ref (hp.push (itO k1 a)).objs.size] }).push { cls := .type "tuple", data := .seq #[.none, .none] }).objs.size))) { (⟨hp, g, d, tk, os⟩ : Shared) with heap := zH k1 k2 hp a b } := by rw [e4]; exact h
    have st1 := fun {A : Around} {E : Value → Shared → Prop} {Q : Value → Shared → Prop} q => iter_start k1 (P := prog) (w := w) (A := A) (E := E) (s := ⟨hp, g, d, tk, os⟩) (Q := Q) p1 q
    have st2 := fun {A : Around} {E : Value → Shared → Prop} {Q : Value → Shared → Prop} q => iter_start k2 (P := prog) (w := w) (A := A) (E := E) (s := ⟨hp.push (itO k1 a), g, d, tk, os⟩) (Q := Q) q2 q
    wp_walk using st1, st2
    exact ⟨_, rfl, h2⟩
theorem zip_call (k1 k2 : Bool) {prog : Program} {w : World} {A : Around} {E : Value → Shared → Prop} {s : Shared} {a b : Addr} {xs ys : Array Value} {Q : Value → Shared → Prop} (p1 : AtB k1 s.heap a xs) (p2 : AtB k2 s.heap b ys)
    (h : ∀ h', IsZip h' (s.heap.objs.size + 4) (s.heap.objs.size + 2) (s.heap.objs.size + 3) .none → IsTupOf2 h' (s.heap.objs.size + 2) (.ref s.heap.objs.size) (.ref (s.heap.objs.size + 1)) →
      IsTupOf2 h' (s.heap.objs.size + 3) .none .none → ItB k1 h' s.heap.objs.size a 0 → ItB k2 h' (s.heap.objs.size + 1) b 0 → (∀ c o, s.heap.get? c = some o → h'.get? c = some o) → Q (.ref (s.heap.objs.size + 4)) { s with heap := h' }) :
    wpAny (model prog w) A (call (.type "zip") [.ref a, .ref b]) Q E s := by
  refine callType_new F.called_zip (by decide) (F.typeCall_zip_2 _ _) (F.newCall_zip_2 _ _) (fun obj => F.args_object_init_3 obj _ _) F.entry_zip_new
    (zipB_new k1 k2 a b xs ys) ⟨p1, p2, ?_⟩
  generalize hh1 : s.heap.push (itO k1 a) = h1
  have z1 : h1.objs.size = s.heap.objs.size + 1 := by rw [← hh1]; exact Heap.size_push ..
  generalize hh2 : h1.push (itO k2 b) = h2
  have z2 : h2.objs.size = s.heap.objs.size + 2 := by rw [← hh2, Heap.size_push, z1]
  generalize hh3 : h2.push { cls := .type "tuple", data := .seq #[.ref s.heap.objs.size, .ref (s.heap.objs.size + 1)] } = h3
  have z3 : h3.objs.size = s.heap.objs.size + 3 := by rw [← hh3, Heap.size_push, z2]
  generalize hh4 : h3.push { cls := .type "tuple", data := .seq #[.none, .none] } = h4
  have z4 : h4.objs.size = s.heap.objs.size + 4 := by rw [← hh4, Heap.size_push, z3]
  have e5 : zH k1 k2 s.heap a b = h4.push { cls := .type "zip", data := .fields #[.none, .bool false, .bool false, .ref (s.heap.objs.size + 2), .ref (s.heap.objs.size + 3)] } := by
    unfold zH
    rw [hh1, z1, hh2, z2, hh3, z3, hh4]
  have up1 : ∀ c o, s.heap.get? c = some o → h1.get? c = some o := fun c o x => by rw [← hh1]; exact Heap.get?_push_of_some _ x
  have up2 : ∀ c o, h1.get? c = some o → h2.get? c = some o := fun c o x => by rw [← hh2]; exact Heap.get?_push_of_some _ x
  have up3 : ∀ c o, h2.get? c = some o → h3.get? c = some o := fun c o x => by rw [← hh3]; exact Heap.get?_push_of_some _ x
  have up4 : ∀ c o, h3.get? c = some o → h4.get? c = some o := fun c o x => by rw [← hh4]; exact Heap.get?_push_of_some _ x
  have up5 : ∀ c o, h4.get? c = some o → (zH k1 k2 s.heap a b).get? c = some o := fun c o x => by rw [e5]; exact Heap.get?_push_of_some _ x
  have g1 : h1.get? s.heap.objs.size = some (itO k1 a) := by rw [← hh1]; exact Heap.get?_push_size _ (by cases k1 <;> rfl)
  have g2 : h2.get? (s.heap.objs.size + 1) = some (itO k2 b) := by rw [← hh2, ← z1]; exact Heap.get?_push_size _ (by cases k2 <;> rfl)
  have g3 : h3.get? (s.heap.objs.size + 2) = some { cls := .type "tuple", data := .seq #[.ref s.heap.objs.size, .ref (s.heap.objs.size + 1)] } := by rw [← hh3, ← z2]; exact Heap.get?_push_size _ rfl
  have g4 : h4.get? (s.heap.objs.size + 3) = some { cls := .type "tuple", data := .seq #[.none, .none] } := by rw [← hh4, ← z3]; exact Heap.get?_push_size _ rfl
  have g5 : (zH k1 k2 s.heap a b).get? (s.heap.objs.size + 4) = some { cls := .type "zip", data := .fields #[.none, .bool false, .bool false, .ref (s.heap.objs.size + 2), .ref (s.heap.objs.size + 3)] } := by rw [e5, ← z4]; exact Heap.get?_push_size _ rfl
  exact ⟨⟨_, g5, rfl⟩, h _ g5 (up5 _ _ (up4 _ _ g3)) (up5 _ _ g4) (itB_new k1 (up5 _ _ (up4 _ _ (up3 _ _ (up2 _ _ g1))))) (itB_new k2 (up5 _ _ (up4 _ _ (up3 _ _ g2)))) fun c o x => up5 _ _ (up4 _ _ (up3 _ _ (up2 _ _ (up1 _ _ x))))⟩
def ItzB (K : PySem.W.Frag) (k1 k2 : Bool) (a b : Addr) : It :=
  ⟨fun i H => ∃ (xs ys : List V) (x y : V), SqB K k1 H a xs ∧ SqB K k2 H b ys ∧ xs[i]? = some x ∧ ys[i]? = some y,
    fun i H v H' => ∃ T x y, v = .ref T ∧ H T = none ∧ H' = upd H T (.tup [x, y]) ∧ (∀ xs, SqB K k1 H a xs → xs[i]? = some x) ∧ ∀ ys, SqB K k2 H b ys → ys[i]? = some y,
    fun i H => ∃ xs ys : List V, SqB K k1 H a xs ∧ SqB K k2 H b ys ∧ i ≤ xs.length ∧ i ≤ ys.length ∧ (i = xs.length ∨ i = ys.length)⟩
theorem nA {x y : Nat} (h : x < y ∨ y < x) : @Ne Addr x y := fun e => by
  have e' : x = y := e
  omega
theorem nM {x y z : Nat} (h1 : x < y ∨ y < x) (h2 : x < z ∨ z < x) : (x : Addr) ∉ ([y, z] : List Addr) := fun m => by
  rcases List.mem_cons.mp m with q | q
  · exact nA h1 q
  · exact nA h2 (List.mem_singleton.mp q)
theorem zsep {n a b : Nat} (la : a < n) (lb : b < n) : ZipSep2 (n + 4) (n + 2) (n + 3) n (n + 1) [n, a] [n + 1, b] :=
  ⟨nA (by omega), nA (by omega), nA (by omega), nA (by omega), List.mem_cons_self .., nM (by omega) (by omega), nM (by omega) (by omega), nA (by omega), List.mem_cons_self .., nM (by omega) (by omega), nM (by omega) (by omega), nM (by omega) (by omega), nM (by omega) (by omega)⟩
theorem turnZ {P : Program} {w : World} {K : PySem.W.Frag} {elts : List Expr} {kk : Nat} {tpos : Pos} (k1 k2 : Bool) {a b n : Nat} (la : a < n) (lb : b < n) :
    Turn P w K (.Tuple elts kk tpos) (ItzB K k1 k2 a b) [n + 4, n + 2, n + 3, n, n + 1] (n + 4) (fun i h => IsZip h (n + 4) (n + 2) (n + 3) .none ∧ IsTupOf2 h (n + 2) (.ref n) (.ref (n + 1)) ∧ (∃ x y, IsTupOf2 h (n + 3) x y) ∧ ItB k1 h n a i ∧ ItB k2 h (n + 1) b i) where
  mem := by simp
  obj := fun i h st c hc => by
    obtain ⟨hz, hTI, ⟨x, y, hTO⟩, j1, j2⟩ := st
    obtain ⟨o1, v1, e1, d1, _⟩ := j1.obj
    obtain ⟨o2, v2, e2, d2, _⟩ := j2.obj
    have c' : c = n + 4 ∨ c = n + 2 ∨ c = n + 3 ∨ c = n ∨ c = n + 1 := by simpa using hc
    rcases c' with q | q | q | q | q
    · rw [q]; exact ⟨_, hz, fun v z => nomatch z⟩
    · rw [q]; exact ⟨_, hTI, fun v z => nomatch z⟩
    · rw [q]; exact ⟨_, hTO, fun v z => nomatch z⟩
    · rw [q]; exact ⟨o1, e1, fun v z => by rw [d1] at z; cases z⟩
    · rw [q]; exact ⟨o2, e2, fun v z => by rw [d2] at z; cases z⟩
  keep := fun i h h' st q => by
    obtain ⟨hz, hTI, ⟨x, y, hTO⟩, j1, j2⟩ := st
    exact ⟨q _ (by simp) _ hz, q _ (by simp) _ hTI, ⟨x, y, q _ (by simp) _ hTO⟩, j1.at fun o z => q n (by simp) o z, j2.at fun o z => q (n + 1) (by simp) o z⟩
  item := by
    intro X hP hw hK hc i pins s σ H E I hf st hg
    subst hP hw hK
    obtain ⟨hz, hTI, ⟨x0, y0, hTO⟩, j1, j2⟩ := st
    obtain ⟨xs, ys, x, y, hqx, hqy, hx, hy⟩ := hg
    obtain ⟨its, rv, p⟩ := at_of k1 I hqx
    obtain ⟨its2, rv2, p2⟩ := at_of k2 I hqy
    obtain ⟨u, hu, ru⟩ := rv.get hx
    obtain ⟨u2, hu2, ru2⟩ := rv2.get hy
    have hd : X.A.in1.handled = none := I.ok.hd hc
    have S := zsep la lb
    have l1 : i < its.toArray.size := by have := (List.getElem?_eq_some_iff.mp hu).1; simpa using this
    have l2 : i < its2.toArray.size := by have := (List.getElem?_eq_some_iff.mp hu2).1; simpa using this
    have lz : n + 4 < s.heap.objs.size := Heap.lt_size hz
    have ns : ∀ c : Nat, c ≤ n + 4 → @Ne Addr s.heap.objs.size c := fun c h => nA (by omega)
    refine wpAny_pyNext_zipD2_item S (drawsB k1 (A := X.A.in1) hd n a (nA (.inl la)) its.toArray) (drawsB k2 (A := X.A.in1) hd (n + 1) b (nA (by omega)) its2.toArray) hz hTI hTO ⟨j1, p⟩ ⟨j2, p2⟩ l1 l2 fun x1 x2 h' tk y1 y2 hz' hTO' st1 st2 hT hsz hk => ?_
    have ex : x1 = u := by
      have : its[i]? = some x1 := by simpa using y1
      rw [hu] at this; exact (Option.some.inj this).symm
    have ey : x2 = u2 := by
      have : its2[i]? = some x2 := by simpa using y2
      rw [hu2] at this; exact (Option.some.inj this).symm
    subst ex ey
    refine ⟨_, rfl, wpAny_letOwnedTupleGo_zip (s := { s with heap := h', toks := tk }) hz' fun h'' hz'' sb => ?_⟩
    have hT2 : h''.get? s.heap.objs.size = some { cls := .type "tuple", data := .seq #[x1, x2] } := (sb.2 _ (ns _ (by omega))).trans hT
    have new : ObjOk X.prog X.w (upd H s.heap.objs.size (.tup [x, y])) h'' s.heap.objs.size (.tup [x, y]) :=
      ⟨by show 2 ≤ sizeLine; decide, [x1, x2], .cons ru (.cons ru2 .nil), ⟨_, hT2, rfl, _, rfl⟩⟩
    have I1 : Inv X pins σ (upd H s.heap.objs.size (.tup [x, y])) { s with heap := h'', toks := tk } :=
      I.turnedNew (ch := [n + 4, n + 2, n + 3, n, n + 1]) (fun c o hb q => (sb.2 c (fun z => hb (by simp [z]))).trans (hk c o (fun z => hb (by simp [z])) (fun z => hb (by simp [z])) (fun z => hb (by simp [z])) (fun z => hb (by simp [z])) q)) hf (Nat.le_refl _) new
    refine ⟨.ref s.heap.objs.size, _, I1, rfl, ⟨_, x, y, rfl, I.hok.fresh (Nat.le_refl _), rfl, fun l hl => by rw [sqB_inj k1 I hl hqx]; exact hx, fun l hl => by rw [sqB_inj k2 I hl hqy]; exact hy⟩, ⟨hz'', ?_, ⟨x1, x2, ?_⟩, ?_, ?_⟩, fun c hcm => ?_⟩
    · exact (sb.2 _ (nA (by omega))).trans (hk _ _ (nA (by omega)) (nA (by omega)) (nA (by omega)) (nA (by omega)) hTI)
    · exact (sb.2 _ (nA (by omega))).trans hTO'
    · exact st1.1.at fun o q => (sb.2 _ (nA (by omega))).trans q
    · exact st2.1.at fun o q => (sb.2 _ (nA (by omega))).trans q
    · have lt_c : c < s.heap.objs.size := by
        have c' : c = n + 4 ∨ c = n + 2 ∨ c = n + 3 ∨ c = n ∨ c = n + 1 := by simpa using hcm
        rcases c' with q | q | q | q | q <;> (rw [q]; show (_ : Nat) < _; omega)
      rw [upd_ne (Nat.ne_of_lt lt_c)]
      exact (hf c hcm).1
  done := by
    intro X hP hw hK hc i pins s σ H E I hf st hg
    subst hP hw hK
    obtain ⟨hz, hTI, ⟨x0, y0, hTO⟩, j1, j2⟩ := st
    obtain ⟨xs, ys, hqx, hqy, m1, m2, hend⟩ := hg
    obtain ⟨its, rv, p⟩ := at_of k1 I hqx
    obtain ⟨its2, rv2, p2⟩ := at_of k2 I hqy
    have hd : X.A.in1.handled = none := I.ok.hd hc
    have n1 := rv.length
    have n2 := rv2.length
    have S := zsep la lb
    exact wpAny_pyNext_zipD2_end S (drawsB k1 (A := X.A.in1) hd n a (nA (.inl la)) its.toArray) (drawsB k2 (A := X.A.in1) hd (n + 1) b (nA (by omega)) its2.toArray) hz hTI hTO ⟨j1, p⟩ ⟨j2, p2⟩ (by simp; omega) (by simp; omega) (by simp; omega)
      fun h' tk hk => ⟨rfl, I.turnedL (t' := tk) (ch := [n + 4, n + 2, n + 3, n, n + 1]) (fun c o hb q => hk c o (fun z => hb (by simp [z])) (fun z => hb (by simp [z])) (fun z => hb (by simp [z])) (fun z => hb (by simp [z])) q) hf⟩
  self := fun A i s Q E st h => wpAny_pyIter_zip st.1 h
def iZipB (K : PySem.W.Frag) (ta : TA) : TI := fun σ H R => ta σ H fun vs H1 => ∃ k1 k2 a b xs ys, vs = [.ref a, .ref b] ∧ SqB K k1 H1 a xs ∧ SqB K k2 H1 b ys ∧ R (ItzB K k1 k2 a b) H1
theorem pi_zipB {X : Cx} {e e2 : Expr} {ta : TA} {p pos tpos : Pos} {elts : List Expr} {kk : Nat} (hg : Gl X "zip") (hm : X.mg "zip" = none) (ha : PA X [e, e2] ta)
    (hs : starEach [e, e2] X.env = (false, eval e X.env) :: starEach [e2] X.env := by rfl) (hpl : (backTo pos (starEach [e2] X.env)).any (·.1) = false := by rfl) :
    PI X (.Tuple elts kk tpos) (.Call (.Name "zip" p) [e, e2] [] pos) (iZipB X.K ta) := by
  refine ⟨fun pins s σ H R I h => ?_⟩
  refine Call_ (ld_blt I hg hm PyProof.Rows.boot_zip (PyProof.Rows.callWith_type1 (thn (ha.run pos pins s σ H _ I h) fun us s1 ⟨vs, H1, I1, r1, q1⟩ => ?_) hs hpl))
  obtain ⟨k1, k2, a, b, xs, ys, ex, hqx, hqy, q⟩ := q1
  subst ex
  cases r1 with
  | cons r rr =>
    cases rr with
    | cons r' rr =>
      cases rr
      cases r
      cases r'
      obtain ⟨its, rv, p1⟩ := at_of k1 I1 hqx
      obtain ⟨its2, rv2, p2⟩ := at_of k2 I1 hqy
      refine zip_call k1 k2 p1 p2 fun h' hz hTI hTO j1 j2 hk => wpAny_pyIter_zip hz ?_
      have I2 : Inv X pins σ H1 { s1 with heap := h' } := I1.kept (t' := s1.toks) hk
      refine ⟨s1.heap.objs.size + 4, [s1.heap.objs.size + 4, s1.heap.objs.size + 2, s1.heap.objs.size + 3, s1.heap.objs.size, s1.heap.objs.size + 1], _, _, H1, rfl, I2, turnZ k1 k2 p1.lt p2.lt, ⟨hz, hTI, ⟨_, _, hTO⟩, j1, j2⟩, fun c hcm => ?_, q⟩
      have le : s1.heap.objs.size ≤ c := by
        have c' : c = s1.heap.objs.size + 4 ∨ c = s1.heap.objs.size + 2 ∨ c = s1.heap.objs.size + 3 ∨ c = s1.heap.objs.size ∨ c = s1.heap.objs.size + 1 := by simpa using hcm
        rcases c' with z | z | z | z | z <;> subst z <;> first | exact Nat.le_add_right .. | exact Nat.le_refl _
      exact I1.fpOk le (I1.hok.fresh le)
end D
/-! D: enumerate, zip; comprehensions with two for; minus and not of bits. -/
namespace D
open PySem PySem.Spec PyProof.Rows L2
variable {X : Cx} {Wx : WJ} {pos p tpos : Pos} {tg : Expr}
/-! ### -x, ~x -/
def gNeg : W → HH → Rs W
  | .int i, h => .ok (.int (-i)) h
  | _, _ => .bad
def gInv : W → HH → Rs W
  | .int i, h => .ok (.int (Builtin.bitNot i)) h
  | _, _ => .bad
theorem dun_neg : UnR X (unaryOp .USub) (rDun X.K gNeg) := fun pins s σ H x v Q I rx ⟨ι, h, w, S, r, A⟩ => by
  unfold gNeg at A
  split at A
  · cases r
    exact un_neg pins s σ H _ v Q I rx ⟨_, rfl, A.now S _ (.int _)⟩
  · exact A.elim
theorem dun_inv : UnR X (unaryOp .Invert) (rDun X.K gInv) := fun pins s σ H x v Q I rx ⟨ι, h, w, S, r, A⟩ => by
  unfold gInv at A
  split at A
  · cases r
    exact un_inv pins s σ H _ v Q I rx ⟨_, rfl, A.now S _ (.int _)⟩
  · exact A.elim
@[simp] theorem gNeg_int {i : Int} {h : HH} : gNeg (.int i) h = .ok (.int (-i)) h := rfl
@[simp] theorem gInv_int {i : Int} {h : HH} : gInv (.int i) h = .ok (.int (Builtin.bitNot i)) h := rfl
/-! ### sequences that are walked in pairs -/
def seqS : W → HH → Option Src
  | .tup xs, _ => some ⟨xs, fun _ => true⟩
  | .fl xs, _ => some ⟨xs, fun _ => true⟩
  | .ref i, h => match h[i]? with
    | some (.lst xs) => some ⟨xs, stayL i xs⟩
    | _ => none
  | _, _ => none
def Stays (K : PySem.W.Frag) (ι : List Addr) (H : Hp) (k : Bool) (a : Addr) (src : Src) : Prop :=
  ∀ ι' H' h', ι <+: ι' → Keep H H' → Sim K ι' h' H' → src.chk h' = true → ∃ ys, SqB K k H' a ys ∧ RWs K ι' H' src.xs ys
theorem seqS_at {K : PySem.W.Frag} {ι : List Addr} {H : Hp} {h : HH} {w : W} {v : V} {src : Src} (S : Sim K ι h H) (r : RW K ι H w v) (e : seqS w h = some src) :
    ∃ k a ys, v = .ref a ∧ SqB K k H a ys ∧ Stays K ι H k a src := by
  cases w with
  | tup xs =>
    cases e
    cases r with
    | tup hs rs => exact ⟨true, _, _, rfl, hs.sq, fun ι' H' h' p g S' c => ⟨_, (hs.keep g).sq, rs.keep p g⟩⟩
  | fl xs =>
    cases e
    cases r with
    | fl hs rs => exact ⟨false, _, _, rfl, hs.sq, fun ι' H' h' p g S' c => ⟨_, (hs.keep g).sq, rs.keep p g⟩⟩
  | ref i =>
    cases r with
    | ref ea =>
      simp only [seqS] at e
      split at e
      · rename_i xs hx
        cases e
        obtain ⟨b, hb, ys, hl, rs⟩ := S.at hx
        rw [ea] at hb; cases hb
        refine ⟨false, _, _, rfl, SqL.of hl, fun ι' H' h' p g S' c => ?_⟩
        obtain ⟨b2, hb2, ys2, hl2, rs2⟩ := S'.at (stayL_eq c)
        rw [getElem?_pre p ea] at hb2; cases hb2
        exact ⟨_, SqL.of hl2, rs2⟩
      · cases e
  | non => cases e
  | bl b => cases e
  | int b => cases e
  | str b => cases e
  | gl b => cases e
  | exv _ _ => cases e
  | ty b => cases e
def enumW (xs : List W) : List W := xs.zipIdx.map fun q => .tup [.int (q.2 : Int), q.1]
def zipW (xs ys : List W) : List W := List.zipWith (fun x y => .tup [x, y]) xs ys
theorem pair_made {K : PySem.W.Frag} {ι : List Addr} {H : Hp} {h : HH} {T : Addr} {a b : W} {x y : V} (S : Sim K ι h H) (hT : H T = none) (ra : RW K ι H a x) (rb : RW K ι H b y) :
    Grow ι ι H (upd H T (.tup [x, y])) ∧ Sim K ι h (upd H T (.tup [x, y])) ∧ RW K ι (upd H T (.tup [x, y])) (.tup [a, b]) (.ref T) := by
  have g : Grow ι ι H (upd H T (.tup [x, y])) := Grow.side hT
  exact ⟨g, S.side hT, .tup (.inl upd_same) (.cons (ra.mono (List.prefix_refl _) g) (.cons (rb.mono (List.prefix_refl _) g) .nil))⟩
theorem yld_enum {K : PySem.W.Frag} {ι : List Addr} {H : Hp} {k : Bool} {a : Addr} {src : Src} (st : Stays K ι H k a src) : Yld K ι H ⟨enumW src.xs, src.chk⟩ (IteB K k a) := by
  intro ι' H' h' p g S c
  obtain ⟨ys, hs, rs⟩ := st ι' H' h' p g S c
  refine ⟨fun i w e => ?_, ys, hs, by simp [enumW, rs.length]⟩
  obtain ⟨q, hq, rfl⟩ := getElem?_map_some e
  rw [List.getElem?_zipIdx] at hq
  cases e1 : src.xs[i]? with
  | none => rw [e1] at hq; cases hq
  | some x =>
    rw [e1] at hq
    simp at hq
    subst hq
    obtain ⟨v, e2, r⟩ := rs.get e1
    refine ⟨⟨ys, v, hs, e2⟩, ?_⟩
    rintro z H'' ⟨T, y, rfl, hT, rfl, q⟩
    have e3 := q ys hs
    rw [e2] at e3; cases e3
    exact pair_made S hT (.int _) r
theorem yld_zip {K : PySem.W.Frag} {ι : List Addr} {H : Hp} {k1 k2 : Bool} {a b : Addr} {s1 s2 : Src} (t1 : Stays K ι H k1 a s1) (t2 : Stays K ι H k2 b s2) : Yld K ι H ⟨zipW s1.xs s2.xs, fun h => s1.chk h && s2.chk h⟩ (ItzB K k1 k2 a b) := by
  intro ι' H' h' p g S c
  simp only [Bool.and_eq_true] at c
  obtain ⟨ys, hs, rs⟩ := t1 ι' H' h' p g S c.1
  obtain ⟨zs, hz, rz⟩ := t2 ι' H' h' p g S c.2
  have l1 := rs.length
  have l2 := rz.length
  refine ⟨fun i w e => ?_, ys, zs, hs, hz, by simp [zipW]; omega, by simp [zipW]; omega, by simp [zipW]; omega⟩
  simp only [zipW, List.getElem?_zipWith] at e
  cases e1 : s1.xs[i]? with
  | none => rw [e1] at e; simp at e
  | some x =>
    cases e2 : s2.xs[i]? with
    | none => rw [e1, e2] at e; simp at e
    | some y =>
      rw [e1, e2] at e
      simp at e
      subst e
      obtain ⟨u, f1, r1⟩ := rs.get e1
      obtain ⟨v, f2, r2⟩ := rz.get e2
      refine ⟨⟨ys, zs, u, v, hs, hz, f1, f2⟩, ?_⟩
      rintro z H'' ⟨T, u', v', rfl, hT, rfl, q1, q2⟩
      have f3 := q1 ys hs
      rw [f1] at f3; cases f3
      have f4 := q2 zs hz
      rw [f2] at f4; cases f4
      exact pair_made S hT r1 r2
@[simp] def iEnum (q : MA) : MI := fun s h => (q s h).bind fun ws h1 => match ws with
  | [w] => match seqS w h1 with
    | some src => .ok ⟨enumW src.xs, src.chk⟩ h1
    | none => .bad
  | _ => .bad
@[simp] def iZip (q : MA) : MI := fun s h => (q s h).bind fun ws h1 => match ws with
  | [w, u] => match seqS w h1, seqS u h1 with
    | some s1, some s2 => .ok ⟨zipW s1.xs s2.xs, fun h => s1.chk h && s2.chk h⟩ h1
    | _, _ => .bad
  | _ => .bad
variable {e e2 : Expr} {elts : List Expr} {kk : Nat} {mas : MA}
theorem di_enum (hg : Gl X "enumerate") (hm : X.mg "enumerate" = none) (ha : DA X Wx [e] mas) (hs : starEach [e] X.env = [(false, eval e X.env)] := by rfl) :
    DI X Wx (.Tuple elts kk tpos) (.Call (.Name "enumerate" p) [e] [] pos) (iEnum mas) :=
  (pi_enumB hg hm ha hs).imp fun σ H R ⟨ι, s, h, S, Rs', A⟩ => ⟨ι, s, h, S, Rs', A.bind.imp (fun ι1 h1 H1 ws p1 g1 S1 A1 vs rv => by
    split at A1
    · split at A1
      · rename_i w src hs
        obtain ⟨v, rfl, r⟩ := rws1 rv
        obtain ⟨k, a, ys, rfl, q, st⟩ := seqS_at S1 r hs
        exact ⟨k, a, ys, rfl, q, A1.now S1 _ (yld_enum st)⟩
      · exact A1.elim
    · exact A1.elim) fun _ _ _ _ _ _ _ z => z⟩
theorem di_zip (hg : Gl X "zip") (hm : X.mg "zip" = none) (ha : DA X Wx [e, e2] mas) (hs : starEach [e, e2] X.env = (false, eval e X.env) :: starEach [e2] X.env := by rfl) (hpl : (backTo pos (starEach [e2] X.env)).any (·.1) = false := by rfl) :
    DI X Wx (.Tuple elts kk tpos) (.Call (.Name "zip" p) [e, e2] [] pos) (iZip mas) :=
  (pi_zipB hg hm ha hs hpl).imp fun σ H R ⟨ι, s, h, S, Rs', A⟩ => ⟨ι, s, h, S, Rs', A.bind.imp (fun ι1 h1 H1 ws p1 g1 S1 A1 vs rv => by
    split at A1
    · split at A1
      · rename_i w u s1 s2 hs1 hs2
        cases rv with
        | cons r1 rv =>
          cases rv with
          | cons r2 rv =>
            cases rv
            obtain ⟨k1, a, ys, rfl, q1, t1⟩ := seqS_at S1 r1 hs1
            obtain ⟨k2, b, zs, rfl, q2, t2⟩ := seqS_at S1 r2 hs2
            exact ⟨k1, k2, a, b, ys, zs, rfl, q1, q2, A1.now S1 _ (yld_zip t1 t2)⟩
      · exact A1.elim
    · exact A1.elim) fun _ _ _ _ _ _ _ z => z⟩
end D
/-! D: comprehensions with two for. -/
namespace D
open PySem PySem.Spec PyProof.Rows L2
variable {X : Cx} {Wx : WJ} {pos : Pos} {tg tg1 : Expr} {vs vs1 : List Nat}
def loopC2 (chk : HH → Bool) (g : MG) (t : MT) (mi1 : MI) (vs1 : List Nat) (g1 : MG) (t1 : MT) (e : ME) : List W → List W → Sl → HH → Rs (List W)
  | [], acc, _, h => .ok acc h
  | x :: xs, acc, s, h => (cut (g x s h)).bind fun s1 h1 => (cut (t s1 h1)).bind fun b h2 => if b = true then
      (cut (mi1 s1 h2)).bind fun src h3 => if src.chk h3 = true then (loopC src.chk g1 t1 e src.xs acc (wipeS s1 vs1) h3).bind fun acc' h4 =>
        if chk h4 = true then loopC2 chk g t mi1 vs1 g1 t1 e xs acc' s h4 else .bad else .bad
    else if chk h2 = true then loopC2 chk g t mi1 vs1 g1 t1 e xs acc s h2 else .bad
@[simp] def mLc2 (mi : MI) (vs : List Nat) (g : MG) (t : MT) (mi1 : MI) (vs1 : List Nat) (g1 : MG) (t1 : MT) (e : ME) : ME := fun s h => (mi s h).bind fun src h1 =>
  if src.chk h1 = true then (loopC2 src.chk g t mi1 vs1 g1 t1 e src.xs [] (wipeS s vs) h1).bind finC else .bad
theorem bind_assoc {α β γ : Type} (r : Rs α) (f : α → HH → Rs β) (k : β → HH → Rs γ) : (r.bind f).bind k = r.bind fun a h => (f a h).bind k := by cases r <;> rfl
theorem bind_ite {α β : Type} {c : Prop} [Decidable c] (p q : Rs α) (k : α → HH → Rs β) : (if c then p else q).bind k = if c then p.bind k else q.bind k := by split <;> rfl
/-- where one stands amid the turns: base ι1, H1; the list under way at D -/
structure Mid (K : PySem.W.Frag) (ι1 : List Addr) (H1 : Hp) (D : Addr) (ι : List Addr) (h : HH) (H : Hp) (accW : List W) (accV : List V) : Prop where
  p : ι1 <+: ι
  g : Grow ι1 ι H1 H
  S : Sim K ι h H
  nD : D ∉ ι
  eD : H D = some (.lst accV)
  r : RWs K ι H accW accV
section
variable {K : PySem.W.Frag} {ι1 ι ι2 : List Addr} {H1 H H2 : Hp} {D : Addr} {h h2 : HH} {accW : List W} {accV : List V}
theorem Mid.step (m : Mid K ι1 H1 D ι h H accW accV) (p : ι <+: ι2) (g : Grow ι ι2 H H2) (S : Sim K ι2 h2 H2) : Mid K ι1 H1 D ι2 h2 H2 accW accV where
  p := m.p.trans p
  g := m.g.trans g
  S := S
  nD := fun hm => by
    have := g.1 D hm m.nD
    rw [m.eD] at this; cases this
  eD := g.2 _ _ m.eD (.inl m.nD)
  r := m.r.mono p g
theorem Mid.add (m : Mid K ι1 H1 D ι h H accW accV) (hD : H1 D = none) {w : W} {v : V} (r : RW K ι H w v) : Mid K ι1 H1 D ι h (upd H D (.lst (accV ++ [v]))) (accW ++ [w]) (accV ++ [v]) where
  p := m.p
  g := by
    refine ⟨m.g.1, fun a u e i => ?_⟩
    rw [upd_ne (ne_of_none e hD)]
    exact m.g.2 a u e i
  S := m.S.beside m.eD m.nD
  nD := m.nD
  eD := upd_same
  r := (m.r.append (.cons r .nil)).put m.eD
theorem keep_put {a : Addr} {xs : List V} {o : HO} (e : H a = some (.lst xs)) : Keep H (upd H a o) := fun b u q i => by
  by_cases c : b = a
  · subst c; rw [e] at q; cases q; exact i.elim
  · rw [upd_ne c]; exact q
end
theorem lc2_go {mi mi1 : MI} {g g1 : MG} {t t1 : MT} {me : ME} {σ : St} {H : Hp} {Q : VK} {K : PySem.W.Frag} (z : tD K Wx (mLc2 mi vs g t mi1 vs1 g1 t1 me) σ H Q) :
    tLc2 (tDI K Wx mi) (tDGw K vs g) (tDT K WF t) (tDI K WF mi1) (tDGw K vs1 g1) (tDT K WF t1) (tD K WF me) vs vs1 σ H Q := by
  obtain ⟨ι, s, h, S, R, A⟩ := z
  refine ⟨ι, s, h, S, R, A.bind.imp (fun ι1 h1 H1 src p1 g1' S1 A1 J Y D hD => ?_) idX⟩
  split at A1
  · rename_i hck
    have sidD : Grow ι1 ι1 H1 (upd H1 D (.lst [])) := Grow.side hD
    have m0 : Mid K ι1 H1 D ι1 h1 (upd H1 D (.lst [])) [] [] := ⟨List.prefix_refl _, sidD, S1.side hD, fun hm => by
      obtain ⟨i, hi⟩ := List.mem_iff_getElem?.mp hm
      exact S1.ne hi hD rfl, upd_same, .nil⟩
    refine ⟨fun i m H => ∃ ι' h' accW accV, m = src.xs.length - i ∧ i ≤ src.xs.length ∧ Mid K ι1 H1 D ι' h' H accW accV ∧ src.chk h' = true ∧
        After K ι1 H1 (okV K Q) (exE K Wx σ) ((loopC2 src.chk g t mi1 vs1 g1 t1 me (src.xs.drop i) accW (wipeS s vs) h').bind finC),
      ⟨_, ι1, h1, [], [], rfl, Nat.zero_le _, m0, hck, A1⟩, ?_⟩
    rintro i m H2 ⟨ι2, h2, accW, accV, rfl, hle, M2, c2, A2⟩
    obtain ⟨Yi, Ys⟩ := Y ι2 H2 h2 M2.p M2.g.keep M2.S c2
    by_cases hlt : i < src.xs.length
    · right
      have hx : src.xs[i]? = some src.xs[i] := List.getElem?_eq_getElem hlt
      obtain ⟨go, yl⟩ := Yi i _ hx
      rw [drop_cons hx] at A2
      refine ⟨go, fun H' => ∃ ι' h' accW accV, Mid K ι1 H1 D ι' h' H' accW accV ∧ src.chk h' = true ∧
          After K ι1 H1 (okV K Q) (exE K Wx σ) ((loopC2 src.chk g t mi1 vs1 g1 t1 me (src.xs.drop (i + 1)) accW (wipeS s vs) h').bind finC), ?_, ?_⟩
      · rintro H' ⟨ι', h', a1, a2, q⟩
        exact ⟨src.xs.length - (i + 1), by omega, ι', h', a1, a2, rfl, hlt, q⟩
      · intro x H3 y
        obtain ⟨g3, S3, r3⟩ := yl x H3 y
        unfold loopC2 at A2
        rw [bind_assoc] at A2
        have M3 := M2.step (List.prefix_refl _) g3 S3
        have R0 : RSl K none ι2 H3 (wipeS s vs) (L2.wipe σ vs) := (R.mono (p1.trans M3.p) (g1'.trans M3.g)).drop.wipe vs
        refine ⟨ι2, wipeS s vs, h2, _, S3, R0, r3, ((A2.bindB.le M3.p M3.g).cutX).imp (fun ι4 h4 H4 s4 p4 g4 S4 A4 σ4 R4 w4 => ?_) fun _ _ _ _ _ _ _ z => z.elim⟩
        refine ⟨w4.trans wipe_wipe, ?_⟩
        have M4 := M3.step p4 g4 S4
        rw [bind_assoc] at A4
        refine ⟨ι4, s4, h4, S4, R4, ((A4.bindB.le M4.p M4.g).cut).imp (fun ι5 h5 H5 b p5 g5 S5 A5 => ?_) idX⟩
        have M5 := M4.step p5 g5 S5
        have R5 := R4.mono p5 g5
        cases b with
        | false =>
          rw [if_neg Bool.false_ne_true] at A5
          split at A5
          · rename_i hc5
            exact ⟨ι5, h5, accW, accV, M5, hc5, A5⟩
          · exact A5.elim
        | true =>
          rw [if_pos rfl, bind_assoc] at A5
          refine ⟨ι5, s4, h5, S5, R5, ((A5.bindB.le M5.p M5.g).cut).imp (fun ι6 h6 H6 src1 p6 g6 S6 A6 J1 Y1 => ?_) idX⟩
          have M6 := M5.step p6 g6 S6
          have R6 := R5.mono p6 g6
          split at A6
          · rename_i hck1
            rw [bind_assoc] at A6
            refine ⟨fun j k H => ∃ ι' h' accW accV, k = src1.xs.length - j ∧ j ≤ src1.xs.length ∧ ι6 <+: ι' ∧ Keep H6 H ∧ Mid K ι1 H1 D ι' h' H accW accV ∧ src1.chk h' = true ∧
                After K ι1 H1 (okV K Q) (exE K Wx σ) ((loopC src1.chk g1 t1 me (src1.xs.drop j) accW (wipeS s4 vs1) h').bind fun acc' h4 =>
                  (if src.chk h4 = true then loopC2 src.chk g t mi1 vs1 g1 t1 me (src.xs.drop (i + 1)) acc' (wipeS s vs) h4 else .bad).bind finC),
              ⟨_, ι6, h6, accW, accV, rfl, Nat.zero_le _, List.prefix_refl _, Keep.refl, M6, hck1, A6⟩, ?_⟩
            rintro j k H7 ⟨ι7, h7, aW, aV, rfl, hle1, p7, k7, M7, c7, A7⟩
            obtain ⟨Yi1, Ys1⟩ := Y1 ι7 H7 h7 p7 k7 M7.S c7
            by_cases hlt1 : j < src1.xs.length
            · right
              have hx1 : src1.xs[j]? = some src1.xs[j] := List.getElem?_eq_getElem hlt1
              obtain ⟨go1, yl1⟩ := Yi1 j _ hx1
              rw [drop_cons hx1] at A7
              refine ⟨go1, fun H' => ∃ ι' h' accW accV, ι6 <+: ι' ∧ Keep H6 H' ∧ Mid K ι1 H1 D ι' h' H' accW accV ∧ src1.chk h' = true ∧
                After K ι1 H1 (okV K Q) (exE K Wx σ) ((loopC src1.chk g1 t1 me (src1.xs.drop (j + 1)) accW (wipeS s4 vs1) h').bind fun acc' h4 =>
                  (if src.chk h4 = true then loopC2 src.chk g t mi1 vs1 g1 t1 me (src.xs.drop (i + 1)) acc' (wipeS s vs) h4 else .bad).bind finC), ?_, ?_⟩
              · rintro H' ⟨ι', h', a1, a2, q⟩
                exact ⟨src1.xs.length - (j + 1), by omega, ι', h', a1, a2, rfl, hlt1, q⟩
              · intro x1 H8 y1
                obtain ⟨g8, S8, r8⟩ := yl1 x1 H8 y1
                unfold loopC at A7
                rw [bind_assoc] at A7
                have M8 := M7.step (List.prefix_refl _) g8 S8
                have k8 := k7.trans g8.keep
                have R8 : RSl K none ι7 H8 (wipeS s4 vs1) (L2.wipe σ4 vs1) := (R6.keep p7 k8).wipe vs1
                refine ⟨ι7, wipeS s4 vs1, h7, _, S8, R8, r8, ((A7.bindB.le M8.p M8.g).cutX).imp (fun ι9 h9 H9 s9 p9 g9 S9 A9 σ9 R9 w9 => ?_) fun _ _ _ _ _ _ _ z => z.elim⟩
                refine ⟨w9.trans wipe_wipe, ?_⟩
                have M9 := M8.step p9 g9 S9
                rw [bind_assoc] at A9
                refine ⟨ι9, s9, h9, S9, R9, ((A9.bindB.le M9.p M9.g).cut).imp (fun ιa ha Ha b pa ga Sa Aa => ?_) idX⟩
                have Ma := M9.step pa ga Sa
                have ka := (k8.trans g9.keep).trans ga.keep
                have pp := (p7.trans p9).trans pa
                cases b with
                | false =>
                  rw [if_neg Bool.false_ne_true, bind_ite] at Aa
                  split at Aa
                  · rename_i hca
                    exact ⟨ιa, ha, aW, aV, pp, ka, Ma, hca, Aa⟩
                  · exact Aa.elim
                | true =>
                  rw [if_pos rfl, bind_assoc] at Aa
                  refine ⟨ιa, s9, ha, Sa, R9.mono pa ga, ((Aa.bindB.le Ma.p Ma.g).cut).imp (fun ιb hb Hb w pb gb Sb Ab v rv => ?_) idX⟩
                  have Mb := Ma.step pb gb Sb
                  rw [bind_ite] at Ab
                  split at Ab
                  · rename_i hcb
                    rw [bind_ite] at Ab
                    split at Ab
                    · rename_i hlb
                      exact ⟨aV, Mb.eD, by rw [← Mb.r.length]; exact lim_lt hlb, ιb, hb, aW ++ [w], aV ++ [v], pp.trans pb, (ka.trans gb.keep).trans (keep_put Mb.eD), Mb.add hD rv, hcb, Ab⟩
                    · exact Ab.elim
                  · exact Ab.elim
            · left
              have : j = src1.xs.length := by omega
              subst this
              rw [List.drop_length] at A7
              unfold loopC at A7
              rw [Rs.bind_ok, bind_ite] at A7
              refine ⟨Ys1, ?_⟩
              split at A7
              · rename_i hc7
                exact ⟨ι7, h7, aW, aV, M7, hc7, A7⟩
              · exact A7.elim
          · exact A6.elim
    · left
      have : i = src.xs.length := by omega
      subst this
      rw [List.drop_length] at A2
      have A3 : After K ι1 H1 (okV K Q) (exE K Wx σ) (.ok (.ref h2.length) (h2 ++ [.lst accW])) := A2
      have gD : Grow ι1 (ι2 ++ [D]) H1 H2 := by
        refine ⟨fun a ha na => ?_, M2.g.2⟩
        rcases List.mem_append.mp ha with q | q
        · exact M2.g.1 a q na
        · have : a = D := by simpa using q
          rw [this]; exact hD
      exact ⟨Ys, A3 (ι2 ++ [D]) H2 (M2.p.trans pre_snoc) gD (M2.S.add M2.eD M2.r M2.nD) _ (.ref (getElem?_last M2.S.len))⟩
  · exact A1.elim
theorem de_lc2 {elt iter iter1 : Expr} {ifs ifs1 : List Expr} {scope : Scope} {own : List (Str × Nat)} {mi mi1 : MI} {g g1 : MG} {t t1 : MT} {me : ME} (hc : X.calm = true) (hN : X.N.Nodup) (hi : DI X Wx tg iter mi) (ok : BlkOk X.N X.env.scope scope own) (hv : ∀ i ∈ vs1, i ∈ own.map (·.2))
    (hg : ∀ (s : Shared) (H : Hp) (C : Addr) (cl : List (Str × Addr)) (fp : List Addr), DGw (X.blk s H scope (compEnvC scope cl C X.env) fp) (own.map (·.2)) tg g)
    (ht : ∀ (s : Shared) (H : Hp) (C : Addr) (cl : List (Str × Addr)) (fp : List Addr), DTs (X.blk s H scope (compEnvC scope cl C X.env) fp) WF ifs t)
    (hi1 : ∀ (s : Shared) (H : Hp) (C : Addr) (cl : List (Str × Addr)) (fp : List Addr), DI (X.blk s H scope (compEnvC scope cl C X.env) fp) WF tg1 iter1 mi1)
    (hg1 : ∀ (s : Shared) (H : Hp) (C : Addr) (cl : List (Str × Addr)) (fp : List Addr), DGw (X.blk s H scope (compEnvC scope cl C X.env) fp) vs1 tg1 g1)
    (ht1 : ∀ (s : Shared) (H : Hp) (C : Addr) (cl : List (Str × Addr)) (fp : List Addr), DTs (X.blk s H scope (compEnvC scope cl C X.env) fp) WF ifs1 t1)
    (he : ∀ (s : Shared) (H : Hp) (C : Addr) (cl : List (Str × Addr)) (fp : List Addr), DE (X.blk s H scope (compEnvC scope cl C X.env) fp) WF elt me) (hs : ∀ x, foldedSetIterable iter X.env x = pure x := by intro _; rfl) (hs1 : ∀ env x, foldedSetIterable iter1 env x = pure x := by intro _ _; rfl) :
    DE X Wx (.ListComp elt [⟨tg, iter, ifs, 0⟩, ⟨tg1, iter1, ifs1, 0⟩] scope pos) (mLc2 mi (own.map (·.2)) g t mi1 vs1 g1 t1 me) :=
  (pe_lc2 (g := tDGw X.K (own.map fun (q : Str × Nat) => q.2) g) (tt := tDT X.K WF t) (wi1 := tDI X.K WF mi1) (g1 := tDGw X.K vs1 g1) (tt1 := tDT X.K WF t1) (te := tD X.K WF me) hc hN hi ok hv hg ht hi1 hg1 ht1 he hs hs1).imp fun σ H Q z => lc2_go z
end D
/-! D: in, op=, insert, extend, pop, list(range(..)). -/
namespace D
open PySem PySem.Spec PyProof.Rows L2
variable {X : Cx} {Wx : WJ} {pos p : Pos}
/-! ### x in xs, both flat -/
def flW : W → Option V
  | .non => some .non
  | .bl b => some (.bl b)
  | .int i => some (.int i)
  | .str x => some (.str x)
  | _ => none
theorem flW_rel {K : PySem.W.Frag} {ι : List Addr} {H : Hp} {w : W} {v u : V} (r : RW K ι H w v) (e : flW w = some u) : v = u ∧ flatV u = true := by
  cases r <;> simp [flW] at e <;> subst e <;> exact ⟨rfl, rfl⟩
theorem flWs_rel {K : PySem.W.Frag} {ι : List Addr} {H : Hp} : ∀ {ws : List W} {vs us : List V}, RWs K ι H ws vs → optAll (ws.map flW) = some us → vs = us ∧ us.all flatV = true
  | [], _, _, .nil, e => by cases e; exact ⟨rfl, rfl⟩
  | w :: ws, _, _, .cons r t, e => by
    obtain ⟨x, l, e1, e2, rfl⟩ := optAll_cons (a := flW w) (r := ws.map flW) (by simpa using e)
    obtain ⟨rfl, f⟩ := flW_rel r e1
    obtain ⟨rfl, g⟩ := flWs_rel t e2
    exact ⟨rfl, by simp [f, g]⟩
def inW (x y : W) (h : HH) : Option Bool := match flW x, seqS y h with
  | some v, some src => match optAll (src.xs.map flW) with
    | some vs => some (inV v vs)
    | none => none
  | _, _ => none
theorem inW_at {K : PySem.W.Frag} {ι : List Addr} {H : Hp} {h : HH} {x y : W} {v u : V} {b : Bool} (S : Sim K ι h H) (rx : RW K ι H x v) (ry : RW K ι H y u) (e : inW x y h = some b) :
    ∃ p xs, u = .ref p ∧ (SqL K H p xs ∨ SqT K H p xs) ∧ flatV v = true ∧ xs.all flatV = true ∧ inV v xs = b := by
  unfold inW at e
  split at e
  · rename_i v' src e1 e2
    split at e
    · rename_i vs e3
      cases e
      obtain ⟨rfl, f⟩ := flW_rel rx e1
      obtain ⟨k, a, ys, rfl, q, st⟩ := seqS_at S ry e2
      obtain ⟨ys', q', rs⟩ := st ι H h (List.prefix_refl _) Keep.refl S (by
        cases y with
        | tup xs => cases e2; rfl
        | fl xs => cases e2; rfl
        | ref i =>
          simp only [seqS] at e2
          split at e2
          · rename_i xs hx; cases e2; exact stayL_of hx
          · cases e2
        | _ => cases e2)
      obtain ⟨rfl, g⟩ := flWs_rel rs e3
      refine ⟨a, _, rfl, ?_, f, g, rfl⟩
      cases k with
      | true => exact .inr q'
      | false => exact .inl q'
    · cases e
  · cases e
def gIn (x y : W) (h : HH) : Rs W := match inW x y h with
  | some b => .ok (.bl b) h
  | none => .bad
def gNotIn (x y : W) (h : HH) : Rs W := match inW x y h with
  | some b => .ok (.bl (!b)) h
  | none => .bad
theorem dop_in : DOp X (compareOp .In) gIn := opr_any fun x y H Q ⟨ι, h, w, z, S, rw', rz, A⟩ => by
  unfold gIn at A
  split at A
  · rename_i b e
    obtain ⟨a, xs, rfl, q, f, g, eb⟩ := inW_at S rw' rz e
    have k := A.now S _ (.bl b)
    rw [← eb] at k
    exact ⟨_, op_in_seq, a, xs, rfl, q, f, g, by simpa using k⟩
  · exact A.elim
theorem dop_notin : DOp X (compareOp .NotIn) gNotIn := opr_any fun x y H Q ⟨ι, h, w, z, S, rw', rz, A⟩ => by
  unfold gNotIn at A
  split at A
  · rename_i b e
    obtain ⟨a, xs, rfl, q, f, g, eb⟩ := inW_at S rw' rz e
    have k := A.now S _ (.bl (!b))
    rw [← eb] at k
    exact ⟨_, op_notIn_seq, a, xs, rfl, q, f, g, by simpa using k⟩
  · exact A.elim
/-! ### name op= e, whole numbers -/
def rDip (K : PySem.W.Frag) (g : W → W → HH → Rs W) : TIp := fun x y H Q => ∃ ι h w u, Sim K ι h H ∧ RW K ι H w x ∧ RW K ι H u y ∧ After K ι H (okV K Q) exN (g w u h)
def DIp (X : Cx) (op : Operator) (g : W → W → HH → Rs W) : Prop := PIp X op (rDip X.K g)
/-- both ints -/
def ints2 (g : W → W → HH → Rs W) : W → W → HH → Rs W
  | .int i, .int j, h => g (.int i) (.int j) h
  | _, _, _ => .bad
@[simp] theorem ints2_int {g : W → W → HH → Rs W} {i j : Int} {h : HH} : ints2 g (.int i) (.int j) h = g (.int i) (.int j) h := rfl
theorem ints2_at {K : PySem.W.Frag} {ι : List Addr} {H : Hp} {h : HH} {w u : W} {x y : V} {g : W → W → HH → Rs W} {Ok : OkK W} {Ex : ExK} (rx : RW K ι H w x) (ry : RW K ι H u y) (A : After K ι H Ok Ex (ints2 g w u h)) :
    ∃ i j, x = .int i ∧ y = .int j ∧ After K ι H Ok Ex (g (.int i) (.int j) h) := by
  unfold ints2 at A
  split at A
  · cases rx; cases ry; exact ⟨_, _, rfl, rfl, A⟩
  · exact A.elim
theorem dip_add : DIp X .Add (ints2 gAdd) := fun pins s σ H x y v u Q I rv ru ⟨ι, h, w, z, S, rx, ry, A⟩ => by
  obtain ⟨i, j, rfl, rfl, A⟩ := ints2_at rx ry A
  exact iop_add pins s σ H _ _ v u Q I rv ru ⟨_, _, rfl, rfl, A.now S _ (.int _)⟩
theorem dip_sub : DIp X .Sub (ints2 gSub) := fun pins s σ H x y v u Q I rv ru ⟨ι, h, w, z, S, rx, ry, A⟩ => by
  obtain ⟨i, j, rfl, rfl, A⟩ := ints2_at rx ry A
  exact iop_sub pins s σ H _ _ v u Q I rv ru ⟨_, _, rfl, rfl, A.now S _ (.int _)⟩
theorem dip_or : DIp X .BitOr (ints2 gOr) := fun pins s σ H x y v u Q I rv ru ⟨ι, h, w, z, S, rx, ry, A⟩ => by
  obtain ⟨i, j, rfl, rfl, A⟩ := ints2_at rx ry A
  exact iop_or pins s σ H _ _ v u Q I rv ru ⟨_, _, rfl, rfl, A.now S _ (.int _)⟩
theorem dip_and : DIp X .BitAnd (ints2 gAnd) := fun pins s σ H x y v u Q I rv ru ⟨ι, h, w, z, S, rx, ry, A⟩ => by
  obtain ⟨i, j, rfl, rfl, A⟩ := ints2_at rx ry A
  exact iop_and pins s σ H _ _ v u Q I rv ru ⟨_, _, rfl, rfl, A.now S _ (.int _)⟩
@[simp] def sAug (i : Nat) (g : W → W → HH → Rs W) (m : ME) : MS := fun s h => match s[i]? with
  | some (some x) => (atS s (m s h)).bind fun y h1 => (cut (g x y h1)).bind fun z h2 => .ok (.nx, s.set i (some z)) h2
  | _ => .bad
theorem ds_aug {i : Nat} {x : Str} {e : Expr} {me : ME} {op : Operator} {g : W → W → HH → Rs W} {pos' : Pos} (hN : X.N.Nodup) (hi : X.N[i]? = some x) (hx : Loc X.env.scope x) (he : DE X Wx e me) (ho : DIp X op g)
    (hf : X.fn x = true ∨ X.env.scope.names.lookup x = some .local := by first | exact .inl rfl | exact .inr rfl | assumption) : DS X Wx (.AugAssign (.Name x pos') op e pos) (sAug i g me) :=
  (ps_aug hN hi hx he ho hf).imp fun D σ H ⟨ι, s, h, S, R, A⟩ => by
    unfold sAug at A
    split at A
    · rename_i w ew
      obtain ⟨v, ev, rv⟩ := R.2.1 i w ew
      refine ⟨v, ev, ι, s, h, S, R, (A.bind.atS R).imp (fun ι1 h1 H1 y p1 g1 S1 A1 u ru => ?_) idX⟩
      refine ⟨ι1, h1, w, y, S1, rv.mono p1 g1, ru, A1.bind.cutX.imp (fun ι2 h2 H2 z p2 g2 S2 A2 t rt => ?_) fun _ _ _ _ _ _ _ q => q.elim⟩
      exact A2.now S2 _ ((R.mono (p1.trans p2) (g1.trans g2)).set rt i)
    · exact A.elim
/-! ### methods -/
def gInsert : W → List W → HH → Rs W
  | .ref i, [.int k, w], h => match h[i]? with
    | some (.lst xs) => if xs.length < lim ∧ 0 ≤ k ∧ k < 2 ^ 63 then .ok .non (h.set i (.lst (xs.take k.toNat ++ [w] ++ xs.drop k.toNat))) else .bad
    | _ => .bad
  | _, _, _ => .bad
theorem dm_insert : MtR X "list.insert" (rDm X.K gInsert) := mtr_any fun x vs H Q ⟨ι, h, w, ws, S, r, rs, A⟩ => by
  unfold gInsert at A
  split at A
  · cases rs with
    | cons r1 rs =>
      cases r1
      cases rs with
      | cons r2 rs =>
        cases rs
        cases r with
        | ref ea =>
          split at A
          · rename_i xs hx
            obtain ⟨b, hb, ys, hl, rys⟩ := S.at hx
            rw [ea] at hb; cases hb
            split at A
            · rename_i c
              obtain ⟨S2, g2⟩ := put_list S ea (((rys.take _).append (.cons r2 .nil)).append (rys.drop _))
              exact ⟨_, mt_insert, _, _, _, _, rfl, rfl, hl, by rw [← rys.length]; exact lim_lt c.1, c.2.1, c.2.2, A ι _ (List.prefix_refl _) g2 S2 _ .non⟩
            · exact A.elim
          · exact A.elim
  · exact A.elim
theorem countU {x : V} : ∀ {xs : List V} {us : List Value}, Vals xs us → xs.all flatV = true → us.countP (eqU x) = xs.countP fun z => eqV z x
  | _, _, .nil, _ => rfl
  | y :: xs, u :: us, .cons r t, f => by
    rw [List.all_cons, Bool.and_eq_true] at f
    rw [List.countP_cons, List.countP_cons, countU t f.2, eqU_of r f.1]
theorem mt_count : MtR X "list.count" (fun x xs H Q => ∃ a ys y, x = .ref a ∧ xs = [y] ∧ SqL X.K H a ys ∧ flatV y = true ∧ ys.all flatV = true ∧ Q (.int (ys.countP fun z => eqV z y : Nat)) H) := by
  intro pins s σ H x xs v us Q I rx rxs h
  obtain ⟨a, ys, y, rfl, rfl, hs, fy, fys, q⟩ := h
  cases rx
  cases rxs with
  | cons ry rt =>
    rename_i uy ut
    cases rt
    obtain ⟨its, rv, ⟨⟨cls, dd, data, sl⟩, n, ho, hc, hdn, hd⟩, hlen⟩ := I.list hs
    simp only at hc hd
    subst hc hd
    refine call_meets PySem.F.slot_list_count ⟨_, ho, rfl⟩ PySem.F.entry_list_count (PySem.F.args_list_count_2 _ _)
      (SeqAt.list_countAt a its.toArray n dd sl uy (eqU y)) ⟨ho, fun u' hu' => mem_eqAt ry fy rv fys u' (by simpa using hu'), ?_⟩
    have e := countU (x := y) rv fys
    exact ⟨.int (ys.countP fun z => eqV z y : Nat), H, I.tok _, ⟨s.toks, by rw [← e]⟩, q⟩
def gCount : W → List W → HH → Rs W
  | x, [w], h => match flW w, (lstW h x).bind fun xs => optAll (xs.map flW) with
    | some v, some vs => .ok (.int (vs.countP fun z => eqV z v : Nat)) h
    | _, _ => .bad
  | _, _, _ => .bad
theorem dm_count : MtR X "list.count" (rDm X.K gCount) := mtr_any fun x vs H Q ⟨ι, h, w, ws, S, r, rs, A⟩ => by
  unfold gCount at A
  split at A
  · obtain ⟨v, rfl, rv⟩ := rws1 rs
    split at A
    · rename_i u us e1 e2
      cases e3 : lstW h w with
      | none => rw [e3] at e2; cases e2
      | some xs =>
        rw [e3] at e2
        obtain ⟨a, ys, rfl, hs, rys⟩ := lst_at S r e3
        obtain ⟨rfl, f⟩ := flW_rel rv e1
        obtain ⟨rfl, g⟩ := flWs_rel rys e2
        exact ⟨_, mt_count, _, _, _, rfl, rfl, hs, f, g, A.now S _ (.int _)⟩
    · exact A.elim
  · exact A.elim
end D
namespace D
open PySem PySem.Spec PyProof.Rows L2
/-! ### list(range(..)) -/
section
variable {X : Cx} {Wx : WJ} {pos p p2 pos2 : Pos} {a b : Expr} {ma mb : ME}
theorem rws_rg {K : PySem.W.Frag} {ι : List Addr} {H : Hp} (lo hi : Int) : RWs K ι H (rngW lo (hi - lo).toNat 1) (rgV lo hi) := by
  unfold rngW rgV
  generalize List.range (hi - lo).toNat = l
  induction l with
  | nil => exact .nil
  | cons i r ih =>
    refine .cons ?_ ih
    show RW K ι H (.int (lo + (i : Int) * 1)) (.int (lo + (i : Int)))
    rw [Int.mul_one]; exact .int _
def lrg (lo hi : Int) (h : HH) : Rs W := if 0 ≤ lo ∧ lo ≤ 4000000 ∧ 0 ≤ hi ∧ hi ≤ 4000000 then .ok (.ref h.length) (h ++ [.lst (rngW lo (hi - lo).toNat 1)]) else .bad
@[simp] def mLRg1 (m : ME) : ME := fun s h => (m s h).bind fun w h1 => match w with
  | .int n => lrg 0 n h1
  | _ => .bad
@[simp] def mLRg2 (m m2 : ME) : ME := fun s h => (m s h).bind fun w h1 => (m2 s h1).bind fun u h2 => match w, u with
  | .int i, .int n => lrg i n h2
  | _, _ => .bad
theorem lrg_go {K : PySem.W.Frag} {ι : List Addr} {H : Hp} {h : HH} {lo hi : Int} {Q : VK} {Ex : ExK} (S : Sim K ι h H) (A : After K ι H (okV K Q) Ex (lrg lo hi h)) :
    RgOk lo hi ∧ ∀ q, H q = none → Q (.ref q) (upd H q (.lst (rgV lo hi))) := by
  unfold lrg at A
  split at A
  · rename_i c
    exact ⟨RgOk.of_le c.1 (by omega) (by omega) c.2.2.1, fun q hq => new_lst S (rws_rg lo hi) A hq⟩
  · exact A.elim
theorem de_lrg1 (hc : X.calm = true) (hg : Gl X "list") (hm : X.mg "list" = none) (hg2 : Gl X "range") (hm2 : X.mg "range" = none) (ha : DE X Wx a ma)
    (na : starEach [a] X.env = (false, eval a X.env) :: starEach [] X.env := by rfl) (na2 : starEach [Expr.Call (.Name "range" p2) [a] [] pos2] X.env = (false, eval (.Call (.Name "range" p2) [a] [] pos2) X.env) :: starEach [] X.env := by rfl) :
    DE X Wx (.Call (.Name "list" p) [.Call (.Name "range" p2) [a] [] pos2] [] pos) (mLRg1 ma) :=
  (pe_listRg hc hg hm (prg_1 hg2 hm2 ha na) na2).imp fun σ H Q ⟨ι, s, h, S, R, A⟩ => ⟨ι, s, h, S, R, A.bind.imp (fun ι1 h1 H1 w p1 g1 S1 A1 v rv => by
    split at A1
    · cases rv
      exact ⟨_, rfl, lrg_go S1 A1⟩
    · exact A1.elim) idX⟩
theorem de_lrg2 (hc : X.calm = true) (hg : Gl X "list") (hm : X.mg "list" = none) (hg2 : Gl X "range") (hm2 : X.mg "range" = none) (ha : DE X Wx a ma) (hb : DE X Wx b mb)
    (na : starEach [a, b] X.env = (false, eval a X.env) :: starEach [b] X.env := by rfl) (nb : starEach [b] X.env = (false, eval b X.env) :: starEach [] X.env := by rfl) (hp : (backTo pos2 (starEach [b] X.env)).any (·.1) = false := by rfl)
    (na2 : starEach [Expr.Call (.Name "range" p2) [a, b] [] pos2] X.env = (false, eval (.Call (.Name "range" p2) [a, b] [] pos2) X.env) :: starEach [] X.env := by rfl) :
    DE X Wx (.Call (.Name "list" p) [.Call (.Name "range" p2) [a, b] [] pos2] [] pos) (mLRg2 ma mb) :=
  (pe_listRg hc hg hm (prg_2 hg2 hm2 ha hb na nb hp) na2).imp fun σ H Q ⟨ι, s, h, S, R, A⟩ => ⟨ι, s, h, S, R, A.bind.imp (fun ι1 h1 H1 w p1 g1 S1 A1 v rv => ⟨ι1, s, h1, S1, R.mono p1 g1, A1.bind.imp (fun ι2 h2 H2 u p2 g2 S2 A2 t rt => by
    split at A2
    · have rv2 := rv.mono p2 g2
      cases rv2; cases rt
      exact ⟨_, _, rfl, rfl, lrg_go S2 A2⟩
    · exact A2.elim) idX⟩) idX⟩
end
end D
namespace D
open PySem PySem.Spec PyProof.Rows L2
/-! ### xs[i] op= e, i not below 0 -/
section
variable {X : Cx} {Wx : WJ} {pos tpos : Pos} {o i e : Expr} {mo mi me : ME}
def gGetP : W → W → HH → Rs W
  | .ref a, .int k, h => match h[a]? with
    | some (.lst xs) => if 0 ≤ k then (match xs[k.toNat]? with
      | some w => .ok w h
      | none => .bad) else .bad
    | _ => .bad
  | _, _, _ => .bad
def rDget (K : PySem.W.Frag) : V → V → Hp → VK → Prop := fun x y H Q => ∃ ι h w u, Sim K ι h H ∧ RW K ι H w x ∧ RW K ι H u y ∧ After K ι H (okV K Q) exN (gGetP w u h)
theorem dget_list : PGet X (rDget X.K) := fun pins s σ H o i ov iv Q I ro ri ⟨ι, h, w, u, S, rw', ru, A⟩ => by
  unfold gGetP at A
  split at A
  · cases ru
    cases rw' with
    | ref ea =>
    split at A
    · rename_i xs hx
      obtain ⟨b, hb, ys, hl, rs⟩ := S.at hx
      rw [ea] at hb; cases hb
      split at A
      · rename_i k0
        split at A
        · rename_i w' hw
          obtain ⟨v, hv, rv⟩ := rs.get hw
          cases ro
          obtain ⟨t, rfl⟩ := ri
          obtain ⟨its, r, pl, hz⟩ := I.list (SqL.of hl)
          obtain ⟨z, ez, rz⟩ := r.get hv
          have hlen := (List.getElem?_eq_some_iff.mp ez).1
          exact wpAny_getItem_list pl.isList k0 (by have := hz; have := r.length; have := line63; omega) (by simpa using ez) ⟨v, H, I, rz, A.now S _ rv⟩
        · exact A.elim
      · exact A.elim
    · exact A.elim
  · exact A.elim
@[simp] def sAugS (g : W → W → HH → Rs W) (o i e : ME) : MS := fun s h => (atS s (o s h)).bind fun ow h1 => (atS s (i s h1)).bind fun iw h2 => (cut (gGetP ow iw h2)).bind fun x h3 => (atS s (e s h3)).bind fun y h4 => (cut (g x y h4)).bind fun z h5 =>
  (cut (gSetIx ow iw z h5)).bind fun _ h6 => .ok (.nx, s) h6
theorem ds_augS {op : Operator} {g : W → W → HH → Rs W} (ho : DE X Wx o mo) (hi : DE X Wx i mi) (he : DE X Wx e me) (hp : DIp X op g)
    (ha : ∀ ov iv new, augStore i ov iv new = (do holding [new, ov, iv] (setItem ov iv new); release [new, ov, iv] []; pure .next) := by intros; rfl) : DS X Wx (.AugAssign (.Subscript o i tpos) op e pos) (sAugS g mo mi me) :=
  (ps_augS ho hi dget_list he hp dset_list ha).imp fun D σ H ⟨ι, s, h, S, R, A⟩ => ⟨ι, s, h, S, R, (A.bind.atS R).imp (fun ι1 h1 H1 ow p1 g1 S1 A1 ov rov => by
    have R1 := R.mono p1 g1
    refine ⟨ι1, s, h1, S1, R1, (A1.bind.atS R1).imp (fun ι2 h2 H2 iw p2 g2 S2 A2 iv riv => ?_) idX⟩
    have R2 := R1.mono p2 g2
    refine ⟨ι2, h2, ow, iw, S2, rov.mono p2 g2, riv, A2.bind.cutX.imp (fun ι3 h3 H3 x p3 g3 S3 A3 xv rx => ?_) fun _ _ _ _ _ _ _ q => q.elim⟩
    have R3 := R2.mono p3 g3
    refine ⟨ι3, s, h3, S3, R3, (A3.bind.atS R3).imp (fun ι4 h4 H4 y p4 g4 S4 A4 yv ry => ?_) idX⟩
    have R4 := R3.mono p4 g4
    refine ⟨ι4, h4, x, y, S4, rx.mono p4 g4, ry, A4.bind.cutX.imp (fun ι5 h5 H5 z p5 g5 S5 A5 zv rz => ?_) fun _ _ _ _ _ _ _ q => q.elim⟩
    have p25 := (p3.trans p4).trans p5
    have g25 := (g3.trans g4).trans g5
    refine ⟨ι5, h5, ow, iw, z, S5, (rov.mono p2 g2).mono p25 g25, riv.mono p25 g25, rz, A5.bind.cutX.imp (fun ι6 h6 H6 _ p6 g6 S6 A6 => ?_) fun _ _ _ _ _ _ _ q => q.elim⟩
    exact A6.now S6 σ ((R4.mono p5 g5).mono p6 g6)) idX⟩
theorem dip_xor : DIp X .BitXor (ints2 gXor) := fun pins s σ H x y v u Q I rv ru ⟨ι, h, w, z, S, rx, ry, A⟩ => by
  obtain ⟨i, j, rfl, rfl, A⟩ := ints2_at rx ry A
  exact iop_xor pins s σ H _ _ v u Q I rv ru ⟨_, _, rfl, rfl, A.now S _ (.int _)⟩
end
end D
namespace D
open PySem PySem.Spec PyProof.Rows L2
/-! ### a, b, c = e, f, g -/
section
variable {X : Cx} {Wx : WJ} {pos : Pos} {ma mb mc : ME}
@[simp] def sPar3 (i j l : Nat) (a b c : ME) : MS := fun s h => (atS s (a s h)).bind fun w h1 => (atS s (b s h1)).bind fun u h2 => (atS s (c s h2)).bind fun t h3 => .ok (.nx, ((s.set i (some w)).set j (some u)).set l (some t)) h3
theorem ds_par3 {i j l : Nat} {x y z : Str} {a b c : Expr} {px py pz pt : Pos} {kt k2 pt2} (hc : X.calm = true) (hN : X.N.Nodup) (hi : X.N[i]? = some x) (hj : X.N[j]? = some y) (hl : X.N[l]? = some z) (hij : i ≠ j) (hil : i ≠ l) (hjl : j ≠ l)
    (hx : X.env.scope.names.lookup x = some .local) (hy : X.env.scope.names.lookup y = some .local) (hz : X.env.scope.names.lookup z = some .local) (ha : DE X Wx a ma) (hb : DE X Wx b mb) (hcc : DE X Wx c mc)
    (hw : swappedStores [.Tuple [.Name x px, .Name y py, .Name z pz] kt pt] (.Tuple [a, b, c] k2 pt2) X.env = pure (some [x, y, z]))
    (hs : swapsWithSole [.Tuple [.Name x px, .Name y py, .Name z pz] kt pt] (.Tuple [a, b, c] k2 pt2) pos.line X.env = pure false := by rfl)
    (h1 : starEach (a :: [b, c]) X.env = (false, eval a X.env) :: starEach [b, c] X.env := by rfl) (h2 : starEach (b :: [c]) X.env = (false, eval b X.env) :: starEach [c] X.env := by rfl) (h3 : starEach [c] X.env = (false, eval c X.env) :: starEach [] X.env := by rfl) :
    DS X Wx (.Assign [.Tuple [.Name x px, .Name y py, .Name z pz] kt pt] (.Tuple [a, b, c] k2 pt2) pos) (sPar3 i j l ma mb mc) :=
  (ps_par3 hc hN hi hj hl hij hil hjl hx hy hz (pa_cons ha (pa_cons hb (pa_cons hcc pa_nil h3) h2) h1) hw hs).imp fun D σ H ⟨ι, s, h, S, R, A⟩ => ⟨ι, s, h, S, R, (A.bind.atS R).imp (fun ι1 h1 H1 r p1 g1 S1 A1 v rv =>
    have R1 := R.mono p1 g1
    ⟨ι1, s, h1, S1, R1, (A1.bind.atS R1).imp (fun ι2 h2 H2 u p2 g2 S2 A2 v2 rv2 =>
      have R2 := R1.mono p2 g2
      ⟨ι2, s, h2, S2, R2, (A2.bind.atS R2).imp (fun ι3 h3 H3 t p3 g3 S3 A3 v3 rv3 => ⟨v, v2, v3, rfl, A3.now S3 _ (((((R2.mono p3 g3).set ((rv.mono p2 g2).mono p3 g3) i).set (rv2.mono p3 g3) j).set rv3 l))⟩) idX⟩) idX⟩) idX⟩
end
end D
/-! D: short words for printed derivations. -/
namespace D
open PySem PySem.Spec PyProof.Rows L2
section
variable {X : Cx} {Wx : WJ}
theorem dv (i : Nat) {x : Str} {pos : Pos} (hN : X.N[i]? = some x := by rfl) (hv : Vis X.env.scope x := by first | exact Or.inl rfl | exact Or.inr (Or.inl rfl) | exact Or.inr (Or.inr rfl)) (hd : (x == ("__debug__" : Str)) = false := by decide)
    (hcd : (x == ("__classdict__" : Str)) = false := by decide) : DE X Wx (.Name x pos) (mVar i) := de_var hN hv hd hcd
theorem de_gint {x : Str} {i : Int} {pos : Pos} (hm : ∃ t, X.mg x = some (.int i t)) (hg : Gl X x := by rfl) (hd : (x == ("__debug__" : Str)) = false := by decide) : DE X Wx (.Name x pos) (mC (.int i)) :=
  let ⟨_, e⟩ := hm
  de_glob (v := .int i) hg e ⟨_, rfl⟩ (fun _ _ => .int i) hd
theorem de_gstr {x : Str} {i : Str} {pos : Pos} (hm : ∃ t, X.mg x = some (.str i t)) (hg : Gl X x := by rfl) (hd : (x == ("__debug__" : Str)) = false := by decide) : DE X Wx (.Name x pos) (mC (.str i)) :=
  let ⟨_, e⟩ := hm
  de_glob (v := .str i) hg e ⟨_, rfl⟩ (fun _ _ => .str i) hd
def eqVal : W → Value → Bool
  | .int i, .int j _ => i == j
  | .str i, .str j _ => i == j
  | .bl a, .bool b => a == b
  | .non, .none => true
  | _, _ => false
def eqVals : List W → List Value → Bool
  | [], [] => true
  | w :: ws, v :: vs => eqVal w v && eqVals ws vs
  | _, _ => false
theorem eqVals_ok {K : PySem.W.Frag} {ι : List Addr} {H : Hp} : ∀ {ws : List W} {us : List Value}, eqVals ws us = true → ∃ vs, Vals vs us ∧ RWs K ι H ws vs
  | [], us, h => by
    cases us with
    | nil => exact ⟨[], .nil, .nil⟩
    | cons => cases h
  | w :: ws, us, h => by
    cases us with
    | nil => cases h
    | cons u us =>
      unfold eqVals at h
      rw [Bool.and_eq_true] at h
      obtain ⟨vs, r1, r2⟩ := eqVals_ok (K := K) (ι := ι) (H := H) h.2
      have q := h.1
      unfold eqVal at q
      split at q
      · rw [beq_iff_eq] at q; subst q; exact ⟨.int _ :: vs, .cons ⟨_, rfl⟩ r1, .cons (.int _) r2⟩
      · rw [beq_iff_eq] at q; subst q; exact ⟨.str _ :: vs, .cons ⟨_, rfl⟩ r1, .cons (.str _) r2⟩
      · rw [beq_iff_eq] at q; subst q; exact ⟨.bl _ :: vs, .cons rfl r1, .cons (.bl _) r2⟩
      · exact ⟨.non :: vs, .cons rfl r1, .cons .non r2⟩
      · cases q
def tupOk (o : Obj) (xs : List W) : Bool := match o.cls, o.data with
  | .type n, .seq its _ => n == "tuple" && (decide (its.size ≤ 16777216) && eqVals xs its.toList)
  | _, _ => false
theorem tupOk_tq {K : PySem.W.Frag} {ι : List Addr} {H : Hp} {o : Obj} {a : Addr} {xs : List W} (lk : K.lookup a = some o) (h : tupOk o xs = true) : ∃ ys, TQ K H a ys ∧ RWs K ι H xs ys := by
  unfold tupOk at h
  split at h
  · rename_i n its m e1 e2
    simp only [Bool.and_eq_true, decide_eq_true_eq, beq_iff_eq] at h
    obtain ⟨rfl, h2, h3⟩ := h
    obtain ⟨vs, r1, r2⟩ := eqVals_ok (K := K) (ι := ι) (H := H) h3
    exact ⟨vs, .inr ⟨o, its, m, lk, e1, e2, by rw [sizeLine_eq]; exact h2, r1⟩, r2⟩
  · cases h
theorem de_gtup {x : Str} {xs : List W} {pos : Pos} (hm : ∃ a o, X.mg x = some (.ref a) ∧ X.K.lookup a = some o ∧ tupOk o xs = true) (hg : Gl X x := by rfl) (hd : (x == ("__debug__" : Str)) = false := by decide) : DE X Wx (.Name x pos) (mC (.tup xs)) := by
  obtain ⟨a, o, e1, e2, e3⟩ := hm
  refine de_const (v := .ref a) (pe_glob hg e1 rfl hd) fun ι H => ?_
  obtain ⟨ys, h1, h2⟩ := tupOk_tq (K := X.K) (ι := ι) (H := H) e2 e3
  exact .tup h1 h2
/-- a built-in class as a value -/
theorem de_bty {x : Str} {n : String} {pos : Pos} (hm : X.mg x = none) (hv : bootBuiltins x = some (.type n)) (hg : Gl X x := by rfl) (hn : x ≠ "__name__" := by decide) (hd : (x == ("__debug__" : Str)) = false := by decide) : DE X Wx (.Name x pos) (mC (.ty n)) :=
  de_const (v := .ty n) (pe_bltn hg hm hv rfl hn hd) fun _ _ => .ty n
end
theorem bt_len : bootBuiltins "len" = some (.builtin "len") := by decide +kernel
theorem bt_abs : bootBuiltins "abs" = some (.builtin "abs") := by decide +kernel
theorem bt_max : bootBuiltins "max" = some (.builtin "max") := by decide +kernel
theorem bt_min : bootBuiltins "min" = some (.builtin "min") := by decide +kernel
theorem bt_sum : bootBuiltins "sum" = some (.builtin "sum") := by decide +kernel
theorem bt_all : bootBuiltins "all" = some (.builtin "all") := by decide +kernel
theorem bt_any : bootBuiltins "any" = some (.builtin "any") := by decide +kernel
theorem bt_repr : bootBuiltins "repr" = some (.builtin "repr") := by decide +kernel
theorem bt_isinstance : bootBuiltins "isinstance" = some (.builtin "isinstance") := by decide +kernel
theorem bt_sorted : bootBuiltins "sorted" = some (.builtin "sorted") := by decide +kernel
theorem bt_int : bootBuiltins "int" = some (.type "int") := by decide +kernel
theorem bt_str : bootBuiltins "str" = some (.type "str") := by decide +kernel
theorem bt_bool : bootBuiltins "bool" = some (.type "bool") := by decide +kernel
theorem bt_list : bootBuiltins "list" = some (.type "list") := by decide +kernel
theorem bt_tuple : bootBuiltins "tuple" = some (.type "tuple") := by decide +kernel
theorem bt_dict : bootBuiltins "dict" = some (.type "dict") := by decide +kernel
/-- the n-th statement of a text's top -/
def topOf (P : Program) (i : Nat) : Stmt := P.main.body.getD i (.Pass ⟨0, 0, 0, 0⟩)
theorem uG {k : Nat} {A : Around} (r : RmG k A) : A.units + 64 < cLine := r.r.units
theorem uR {k : Nat} {A : Around} (r : RmG k A) : A.units + 100 < cLine := by have := r.r.un; omega
/-- how keywords bind -/
theorem binds_kw {K : PySem.W.Frag} {x qual : Str} {st : Stmt} {f : Addr} {fd : FuncData} {ps ks : List Str} {n : Nat} {ix : List Nat} (F : Fun K x qual st f fd)
    (h : ∀ (kV doc pm : Value) (an : Option Addr) (cdv ct : Value) (us zs : List Value), us.length = n → zs.length = ks.length →
      bindArgs (PySem.W.fnOf x qual (defArgs st) (defBody st) (defScope st) .none kV doc pm an cdv ct) ⟨us, ks.zip zs⟩ = pure (ps.zip (pick ix (us ++ zs ++ [])))) : BindsN K fd ps n ks ix [] := by
  obtain ⟨oc, od, kV, doc, pm, an, cdv, ct, osl, rfl, lk, hcd⟩ := F.ex
  exact fun s us zs _ h1 h2 => .of_eq (h kV doc pm an cdv ct us zs h1 h2)
end D
/-! D: a def's result may be told without what it has left behind (garbage), numbered anew. -/
namespace D
open PySem PySem.Spec PyProof.Rows L2

/-! ### renumbering, bounds -/
mutual
def mapW (f : Nat → Nat) : W → W
  | .ref i => .ref (f i)
  | .tup xs => .tup (mapWs f xs)
  | .fl xs => .fl (mapWs f xs)
  | .exv C ns xs => .exv C ns (mapWs f xs)
  | .non => .non
  | .bl b => .bl b
  | .int i => .int i
  | .str x => .str x
  | .gl a => .gl a
  | .ty n => .ty n
def mapWs (f : Nat → Nat) : List W → List W
  | [] => []
  | x :: xs => mapW f x :: mapWs f xs
end
mutual
def bW (n : Nat) : W → Prop
  | .ref i => i < n
  | .tup xs => bWs n xs
  | .fl xs => bWs n xs
  | .exv _ _ xs => bWs n xs
  | _ => True
def bWs (n : Nat) : List W → Prop
  | [] => True
  | x :: xs => bW n x ∧ bWs n xs
end
def mapO (f : Nat → Nat) : O → O
  | .lst xs => .lst (mapWs f xs)
  | .ins C fs => .ins C (fs.map fun p => (p.1, mapW f p.2))
  | .dK kvs => .dK (kvs.map fun p => (p.1, mapW f p.2))
  | .dT kvs => .dT (kvs.map fun p => (p.1, mapW f p.2))
def bO (n : Nat) : O → Prop
  | .lst xs => bWs n xs
  | .ins _ fs => ∀ p ∈ fs, bW n p.2
  | .dK kvs => ∀ p ∈ kvs, bW n p.2
  | .dT kvs => ∀ p ∈ kvs, bW n p.2
def bH (n : Nat) (h : HH) : Prop := ∀ (i : Nat) (o : O), h[i]? = some o → bO n o
mutual
theorem bW.mono {n m : Nat} (l : n ≤ m) : ∀ {w : W}, bW n w → bW m w
  | .ref i, h => by simp only [bW] at h ⊢; omega
  | .tup xs, h => by simp only [bW] at h ⊢; exact bWs.mono l h
  | .fl xs, h => by simp only [bW] at h ⊢; exact bWs.mono l h
  | .exv _ _ xs, h => by simp only [bW] at h ⊢; exact bWs.mono l h
  | .non, _ | .bl _, _ | .int _, _ | .str _, _ | .gl _, _ | .ty _, _ => by simp only [bW]
theorem bWs.mono {n m : Nat} (l : n ≤ m) : ∀ {ws : List W}, bWs n ws → bWs m ws
  | [], _ => by simp only [bWs]
  | x :: xs, h => by simp only [bWs] at h ⊢; exact ⟨bW.mono l h.1, bWs.mono l h.2⟩
end
mutual
theorem mapW_id {n : Nat} {f : Nat → Nat} (hf : ∀ i, i < n → f i = i) : ∀ {w : W}, bW n w → mapW f w = w
  | .ref i, h => by simp only [bW] at h; simp only [mapW, hf i h]
  | .tup xs, h => by simp only [bW] at h; simp only [mapW, mapWs_id hf h]
  | .fl xs, h => by simp only [bW] at h; simp only [mapW, mapWs_id hf h]
  | .exv _ _ xs, h => by simp only [bW] at h; simp only [mapW, mapWs_id hf h]
  | .non, _ | .bl _, _ | .int _, _ | .str _, _ | .gl _, _ | .ty _, _ => by simp only [mapW]
theorem mapWs_id {n : Nat} {f : Nat → Nat} (hf : ∀ i, i < n → f i = i) : ∀ {ws : List W}, bWs n ws → mapWs f ws = ws
  | [], _ => by simp only [mapWs]
  | x :: xs, h => by simp only [bWs] at h; simp only [mapWs, mapW_id hf h.1, mapWs_id hf h.2]
end
theorem map_id_of {α : Type} {f : Nat → Nat} {n : Nat} (hf : ∀ i, i < n → f i = i) {fs : List (α × W)} (h : ∀ p ∈ fs, bW n p.2) : (fs.map fun p => (p.1, mapW f p.2)) = fs := by
  induction fs with
  | nil => rfl
  | cons p r ih =>
    rw [List.map_cons, ih fun q hq => h q (List.mem_cons_of_mem _ hq), mapW_id hf (h p (List.mem_cons_self ..))]
theorem mapO_id {n : Nat} {f : Nat → Nat} (hf : ∀ i, i < n → f i = i) {o : O} (h : bO n o) : mapO f o = o := by
  cases o with
  | lst xs => simp only [bO] at h; simp only [mapO, mapWs_id hf h]
  | ins C fs => simp only [bO] at h; simp only [mapO, map_id_of hf h]
  | dK fs => simp only [bO] at h; simp only [mapO, map_id_of hf h]
  | dT fs => simp only [bO] at h; simp only [mapO, map_id_of hf h]
section
variable {K : PySem.W.Frag} {ι ι2 : List Addr} {H : Hp} {h : HH}
mutual
theorem RW.bnd : ∀ {w : W} {v : V}, RW K ι H w v → bW ι.length w
  | _, _, .non => by simp only [bW]
  | _, _, .bl b => by simp only [bW]
  | _, _, .int b => by simp only [bW]
  | _, _, .str b => by simp only [bW]
  | _, _, .ty b => by simp only [bW]
  | _, _, .gl b => by simp only [bW]
  | _, _, .ref h => by simp only [bW]; exact (List.getElem?_eq_some_iff.mp h).1
  | _, _, .tup s r => by simp only [bW]; exact RWs.bnd r
  | _, _, .fl s r => by simp only [bW]; exact RWs.bnd r
  | _, _, .exv s r => by simp only [bW]; exact RWs.bnd r
theorem RWs.bnd : ∀ {ws : List W} {vs : List V}, RWs K ι H ws vs → bWs ι.length ws
  | _, _, .nil => by simp only [bWs]
  | _, _, .cons r t => by simp only [bWs]; exact ⟨RW.bnd r, RWs.bnd t⟩
end
theorem paired_bnd {α : Type} {fs : List (α × W)} {gs : List (α × V)} (r : Paired (fun (p : α × W) (q : α × V) => p.1 = q.1 ∧ RW K ι H p.2 q.2) fs gs) : ∀ p ∈ fs, bW ι.length p.2 := by
  induction r with
  | nil => intro p hp; cases hp
  | cons a t ih =>
    intro p hp
    rcases List.mem_cons.mp hp with rfl | hp
    · exact a.2.bnd
    · exact ih p hp
theorem Sim.bnd (S : Sim K ι h H) : bH h.length h := fun i o e => by
  obtain ⟨a, ha, r⟩ := S.at e
  rw [← S.len]
  cases o with
  | lst xs => obtain ⟨ys, _, r⟩ := r; exact r.bnd
  | ins C fs => obtain ⟨_, ys, _, r⟩ := r; exact paired_bnd r
  | dK fs => obtain ⟨ys, _, r⟩ := r; exact paired_bnd r
  | dT fs => obtain ⟨ys, _, r⟩ := r; exact paired_bnd r
mutual
theorem RW.unmap {f : Nat → Nat} (hf : ∀ i, i < ι2.length → ι2[i]? = ι[f i]?) : ∀ {w : W} {v : V}, bW ι2.length w → RW K ι H (mapW f w) v → RW K ι2 H w v
  | .ref i, v, hb, r => by
    simp only [bW] at hb
    simp only [mapW] at r
    cases r with
    | ref h => exact .ref ((hf i hb).trans h)
  | .tup xs, v, hb, r => by
    simp only [bW] at hb
    simp only [mapW] at r
    cases r with
    | tup s r => exact .tup s (RWs.unmap hf hb r)
  | .fl xs, v, hb, r => by
    simp only [bW] at hb
    simp only [mapW] at r
    cases r with
    | fl s r => exact .fl s (RWs.unmap hf hb r)
  | .exv C ns xs, v, hb, r => by
    simp only [bW] at hb
    simp only [mapW] at r
    cases r with
    | exv s r => exact .exv s (RWs.unmap hf hb r)
  | .non, v, _, r => by simp only [mapW] at r; cases r; exact .non
  | .bl b, v, _, r => by simp only [mapW] at r; cases r; exact .bl b
  | .int b, v, _, r => by simp only [mapW] at r; cases r; exact .int b
  | .str b, v, _, r => by simp only [mapW] at r; cases r; exact .str b
  | .gl b, v, _, r => by simp only [mapW] at r; cases r; exact .gl b
  | .ty b, v, _, r => by simp only [mapW] at r; cases r; exact .ty b
theorem RWs.unmap {f : Nat → Nat} (hf : ∀ i, i < ι2.length → ι2[i]? = ι[f i]?) : ∀ {ws : List W} {vs : List V}, bWs ι2.length ws → RWs K ι H (mapWs f ws) vs → RWs K ι2 H ws vs
  | [], vs, _, r => by simp only [mapWs] at r; cases r; exact .nil
  | x :: xs, vs, hb, r => by
    simp only [bWs] at hb
    simp only [mapWs] at r
    cases r with
    | cons r t => exact .cons (RW.unmap hf hb.1 r) (RWs.unmap hf hb.2 t)
end
theorem paired_unmap {α : Type} {f : Nat → Nat} (hf : ∀ i, i < ι2.length → ι2[i]? = ι[f i]?) : ∀ {fs : List (α × W)} {gs : List (α × V)}, (∀ p ∈ fs, bW ι2.length p.2) →
    Paired (fun (p : α × W) (q : α × V) => p.1 = q.1 ∧ RW K ι H p.2 q.2) (fs.map fun p => (p.1, mapW f p.2)) gs → Paired (fun (p : α × W) (q : α × V) => p.1 = q.1 ∧ RW K ι2 H p.2 q.2) fs gs
  | [], gs, _, r => by cases r; exact .nil
  | p :: fs, gs, hb, r => by
    rw [List.map_cons] at r
    cases r with
    | cons a t => exact .cons ⟨a.1, RW.unmap hf (hb p (List.mem_cons_self ..)) a.2⟩ (paired_unmap hf (fun q hq => hb q (List.mem_cons_of_mem _ hq)) t)
theorem RO.unmap {f : Nat → Nat} (hf : ∀ i, i < ι2.length → ι2[i]? = ι[f i]?) {o : O} {a : Addr} (hb : bO ι2.length o) (r : RO K ι H (mapO f o) a) : RO K ι2 H o a := by
  cases o with
  | lst xs => obtain ⟨ys, e, r⟩ := r; exact ⟨ys, e, RWs.unmap hf hb r⟩
  | ins C fs => obtain ⟨dx, ys, e, r⟩ := r; exact ⟨dx, ys, e, paired_unmap hf hb r⟩
  | dK fs => obtain ⟨ys, e, r⟩ := r; exact ⟨ys, e, paired_unmap hf hb r⟩
  | dT fs => obtain ⟨ys, e, r⟩ := r; exact ⟨ys, e, paired_unmap hf hb r⟩
end

/-- v2, h2 tell v, h' without what n objects and the value don't need: the object i of h2 is the object f i of h' -/
structure Less (n : Nat) (f : Nat → Nat) (v : W) (h' : HH) (v2 : W) (h2 : HH) : Prop where
  le : n ≤ h2.length
  low : ∀ i, i < n → f i = i
  inj : ∀ i j, i < h2.length → j < h2.length → f i = f j → i = j
  obj : ∀ (i : Nat) (o : O), h2[i]? = some o → h'[f i]? = some (mapO f o) ∧ bO h2.length o
  val : mapW f v2 = v ∧ bW h2.length v2
def ShrTo (n : Nat) (big small : Rs W) : Prop := big = small ∨ small = .bad ∨ ∃ v h' v2 h2 f, big = .ok v h' ∧ small = .ok v2 h2 ∧ Less n f v h' v2 h2
theorem After.less {K : PySem.W.Frag} {ι : List Addr} {H : Hp} {Q : VK} {Ex : ExK} {n : Nat} {f : Nat → Nat} {v v2 : W} {h' h2 : HH} (hn : ι.length = n) (L : Less n f v h' v2 h2) (A : After K ι H (okV K Q) Ex (.ok v2 h2)) : After K ι H (okV K Q) Ex (.ok v h') := by
  intro ι1 H1 p g S u r
  -- the places of h2
  have hlt : ∀ i, i < h2.length → f i < ι1.length := fun i hi => by
    have e := (L.obj i h2[i] (List.getElem?_eq_getElem hi)).1
    rw [S.len]
    exact (List.getElem?_eq_some_iff.mp e).1
  let ι2 : List Addr := (List.range h2.length).map fun i => ι1.getD (f i) 0
  have l2 : ι2.length = h2.length := by simp [ι2]
  have at2 : ∀ i, i < ι2.length → ι2[i]? = ι1[f i]? := fun i hi => by
    have hi' : i < h2.length := by rw [← l2]; exact hi
    show ((List.range h2.length).map fun i => ι1.getD (f i) 0)[i]? = _
    rw [List.getElem?_map, List.getElem?_range hi']
    show some (ι1.getD (f i) 0) = _
    rw [List.getD_eq_getElem?_getD, List.getElem?_eq_getElem (hlt i hi')]
    rfl
  have pre : ι <+: ι2 := by
    rw [List.prefix_iff_eq_take]
    apply List.ext_getElem?
    intro i
    rw [List.getElem?_take]
    by_cases hi : i < ι.length
    · rw [if_pos hi]
      have hi2 : i < ι2.length := by rw [l2]; have := L.le; omega
      rw [at2 i hi2, L.low i (by omega)]
      obtain ⟨t, rfl⟩ := p
      rw [List.getElem?_append_left hi]
    · rw [if_neg hi]; exact List.getElem?_eq_none (by omega)
  have sub : ∀ a, a ∈ ι2 → a ∈ ι1 := fun a ha => by
    obtain ⟨i, hi⟩ := List.mem_iff_getElem?.mp ha
    have := (List.getElem?_eq_some_iff.mp hi).1
    rw [at2 i this] at hi
    exact List.mem_of_getElem? hi
  have g2 : Grow ι ι2 H H1 := ⟨fun a ha na => g.1 a (sub a ha) na, g.2⟩
  have S2 : Sim K ι2 h2 H1 := by
    refine ⟨l2, ?_, fun i a o e1 e2 => ?_⟩
    · refine List.pairwise_iff_getElem.mpr fun i j hi hj hij => ?_
      intro e
      have e1 := at2 i hi
      have e2 := at2 j hj
      rw [List.getElem?_eq_getElem hi, List.getElem?_eq_getElem (hlt i (by omega))] at e1
      rw [List.getElem?_eq_getElem hj, List.getElem?_eq_getElem (hlt j (by omega))] at e2
      have e' := (List.getElem_inj S.nd).mp ((Option.some.inj e1).symm.trans (e.trans (Option.some.inj e2)))
      have := L.inj i j (by omega) (by omega) e'
      omega
    · obtain ⟨q1, q2⟩ := L.obj i o e2
      have hi := (List.getElem?_eq_some_iff.mp e1).1
      rw [at2 i hi] at e1
      exact RO.unmap at2 (by rw [l2]; exact q2) (S.ob _ a _ e1 q1)
  refine A ι2 H1 pre g2 S2 u (RW.unmap at2 (by rw [l2]; exact L.val.2) ?_)
  rw [L.val.1]; exact r
theorem FnG.shr {P : Program} {w : World} {K : PySem.W.Frag} {mg : Str → Option Value} {base : Heap} {k : Nat} {f : Addr} {fd : FuncData} {ps : List Str} {M M2 : MF} (F : FnM P w K mg base k f fd ps M)
    (hs : ∀ ws h, ws.length = ps.length → bH h.length h → bWs h.length ws → ShrTo h.length (M ws h) (M2 ws h)) : FnM P w K mg base k f fd ps M2 :=
  F.imp fun vs H Q E ⟨ι, ws, h, e, S, r, A⟩ => ⟨ι, ws, h, e, S, r, by
    rcases hs ws h (by rw [r.length]; exact e) S.bnd (by rw [← S.len]; exact r.bnd) with q | q | ⟨v, h', v2, h2, f, q1, q2, L⟩
    · rw [q]; exact A
    · rw [q] at A; exact A.elim
    · rw [q2] at A; rw [q1]; exact A.less S.len L⟩
end D
/-! D: evaluating. -/
namespace D
open PySem PySem.Spec PyProof.Rows L2
/-! ### equations by constructors -/
section
variable (h : HH) (i j p q : Nat) (a b : Int) (x y : Str) (k : Bool) (xs ys : List W) (w u : W) (n m : String) (lo hi : Option Int)
@[simp] theorem asB_bl' : asB (.bl k) h = .ok k h := rfl
@[simp] theorem seqW_tup : seqW h (.tup xs) = some xs := rfl
@[simp] theorem seqW_fl : seqW h (.fl xs) = some xs := rfl
@[simp] theorem seqW_ref : seqW h (.ref i) = match h[i]? with
    | some (.lst xs) => some xs
    | _ => none := rfl
@[simp] theorem seqW_int : seqW h (.int a) = none := rfl
@[simp] theorem lstW_tup : lstW h (.tup xs) = none := rfl
@[simp] theorem lstW_fl : lstW h (.fl xs) = some xs := rfl
@[simp] theorem lstW_ref : lstW h (.ref i) = match h[i]? with
    | some (.lst xs) => some xs
    | _ => none := rfl
@[simp] theorem srcW_tup : srcW (.tup xs) h = some ⟨xs, fun _ => true⟩ := rfl
@[simp] theorem srcW_fl : srcW (.fl xs) h = some ⟨xs, fun _ => true⟩ := rfl
@[simp] theorem srcW_str : srcW (.str x) h = some ⟨x.cps.toList.map fun c => .str ⟨#[c]⟩, fun _ => true⟩ := rfl
@[simp] theorem srcW_ref : srcW (.ref i) h = match h[i]? with
    | some (.lst xs) => some ⟨xs, stayL i xs⟩
    | _ => none := rfl
@[simp] theorem isL_fl : isL h (.fl xs) = true := rfl
@[simp] theorem isL_ref : isL h (.ref i) = match h[i]? with
    | some (.lst _) => true
    | _ => false := rfl
@[simp] theorem tyW_non : tyW h .non = some "NoneType" := rfl
@[simp] theorem tyW_bl : tyW h (.bl k) = some "bool" := rfl
@[simp] theorem tyW_int : tyW h (.int a) = some "int" := rfl
@[simp] theorem tyW_str : tyW h (.str x) = some "str" := rfl
@[simp] theorem tyW_tup : tyW h (.tup xs) = some "tuple" := rfl
@[simp] theorem tyW_fl : tyW h (.fl xs) = some "list" := rfl
@[simp] theorem tyW_ref : tyW h (.ref i) = match h[i]? with
    | some (.lst _) => some "list"
    | some (.dK _) => some "dict"
    | some (.dT _) => some "dict"
    | _ => none := rfl
@[simp] theorem gTru_non : gTru .non h = .ok false h := rfl
@[simp] theorem gTru_bl : gTru (.bl k) h = .ok k h := rfl
@[simp] theorem gTru_int : gTru (.int a) h = .ok (a != 0) h := rfl
@[simp] theorem gTru_tup : gTru (.tup xs) h = .ok (!xs.isEmpty) h := rfl
@[simp] theorem gTru_ref : gTru (.ref i) h = match h[i]? with
    | some (.lst xs) => .ok (!xs.isEmpty) h
    | some (.dK kvs) => .ok (!kvs.isEmpty) h
    | _ => .bad := rfl
@[simp] theorem gAdd_int : gAdd (.int a) (.int b) h = .ok (.int (a + b)) h := rfl
@[simp] theorem gAdd_ref : gAdd (.ref i) (.ref j) h = match h[i]?, h[j]? with
    | some (.lst xs), some (.lst ys) => if xs.length + ys.length ≤ lim then .ok (.ref h.length) (h ++ [.lst (xs ++ ys)]) else .bad
    | _, _ => .bad := rfl
@[simp] theorem gAdd_tup : gAdd (.tup xs) (.tup ys) h = if xs.length = 0 then .bad else if xs.length + ys.length ≤ lim then .ok (.tup (xs ++ ys)) h else .bad := rfl
@[simp] theorem gSub_int : gSub (.int a) (.int b) h = .ok (.int (a - b)) h := rfl
@[simp] theorem gMul_int : gMul (.int a) (.int b) h = if mulOk a b = true then .ok (.int (a * b)) h else .bad := rfl
@[simp] theorem gMul_ref : gMul (.ref i) (.int b) h = match h[i]? with
    | some (.lst xs) => if -(2 ^ 63) ≤ b ∧ b < 2 ^ 63 ∧ xs.length * b.toNat ≤ lim then .ok (.ref h.length) (h ++ [.lst (List.replicate b.toNat xs).flatten]) else .bad
    | _ => .bad := rfl
@[simp] theorem gMul_tup : gMul (.tup xs) (.int b) h = if b = 1 then .ok (.tup xs) h else if xs.length ≠ 0 ∧ 2 ≤ b ∧ b ≤ 1000 ∧ xs.length ≤ 1000 then .ok (.tup (List.replicate b.toNat xs).flatten) h else .bad := rfl
@[simp] theorem gDiv_int : gDiv (.int a) (.int b) h = if 0 < b ∧ (b < 1073741824 ∨ b.natAbs.log2 < 9000) then .ok (.int (a / b)) h else .bad := rfl
@[simp] theorem gMod_int : gMod (.int a) (.int b) h = if 0 < b then .ok (.int (a % b)) h else .bad := rfl
@[simp] theorem gPow_int : gPow (.int a) (.int b) h = if 0 ≤ b ∧ b ≤ 1000000 ∧ a.natAbs < 2 ^ 64 then .ok (.int (a ^ b.toNat)) h else .bad := rfl
@[simp] theorem gShl_int : gShl (.int a) (.int b) h = if 0 ≤ b ∧ b ≤ 1000000 ∧ a.natAbs < 2 ^ 64 then .ok (.int (a * 2 ^ b.toNat)) h else .bad := rfl
@[simp] theorem gShr_int : gShr (.int a) (.int b) h = if 0 ≤ b then .ok (.int (a / 2 ^ b.toNat)) h else .bad := rfl
@[simp] theorem gAnd_int : gAnd (.int a) (.int b) h = .ok (.int (Builtin.bitAnd a b)) h := rfl
@[simp] theorem gOr_int : gOr (.int a) (.int b) h = .ok (.int (Builtin.bitOr a b)) h := rfl
@[simp] theorem gXor_int : gXor (.int a) (.int b) h = .ok (.int (Builtin.bitXor a b)) h := rfl
@[simp] theorem gLt_int : gLt (.int a) (.int b) h = .ok (.bl (decide (a < b))) h := rfl
@[simp] theorem gLe_int : gLe (.int a) (.int b) h = .ok (.bl (decide (a ≤ b))) h := rfl
@[simp] theorem gGt_int : gGt (.int a) (.int b) h = .ok (.bl (decide (b < a))) h := rfl
@[simp] theorem gGe_int : gGe (.int a) (.int b) h = .ok (.bl (decide (b ≤ a))) h := rfl
@[simp] theorem gEq_int : gEq (.int a) (.int b) h = .ok (.bl (decide (a = b))) h := rfl
@[simp] theorem gEq_str : gEq (.str x) (.str y) h = .ok (.bl (decide (x = y))) h := rfl
@[simp] theorem gNe_int : gNe (.int a) (.int b) h = .ok (.bl (!decide (a = b))) h := rfl
@[simp] theorem gNe_str : gNe (.str x) (.str y) h = .ok (.bl (!decide (x = y))) h := rfl
@[simp] theorem gIs_non : gIs w .non h = .ok (.bl (isNon w)) h := rfl
@[simp] theorem gIsNot_non : gIsNot w .non h = .ok (.bl (!isNon w)) h := rfl
@[simp] theorem gAbs_int : gAbs [.int a] h = .ok (.int (if a < 0 then -a else a)) h := rfl
@[simp] theorem gInt_int : gInt [.int a] h = .ok (.int a) h := rfl
@[simp] theorem gInt_bl : gInt [.bl k] h = .ok (.int (if k = true then 1 else 0)) h := rfl
@[simp] theorem gMax_int : gMax [.int a, .int b] h = .ok (.int (if b > a then b else a)) h := rfl
@[simp] theorem gMin_int : gMin [.int a, .int b] h = .ok (.int (if b < a then b else a)) h := rfl
@[simp] theorem gLen_tup : gLen [.tup xs] h = .ok (.int xs.length) h := rfl
@[simp] theorem gLen_fl : gLen [.fl xs] h = .ok (.int xs.length) h := rfl
@[simp] theorem gLen_ref : gLen [.ref i] h = match seqW h (.ref i) with
    | some xs => .ok (.int xs.length) h
    | none => .bad := rfl
@[simp] theorem gList_one : gList [w] h = match seqW h w with
    | some xs => .ok (.ref h.length) (h ++ [.lst xs])
    | none => .bad := rfl
@[simp] theorem gTuple_one : gTuple [w] h = match seqW h w with
    | some xs => .ok (.tup xs) h
    | none => .bad := rfl
@[simp] theorem gSum_one : gSum [w] h = match (lstW h w).bind intsW with
    | some ns => .ok (.int ns.sum) h
    | none => .bad := rfl
@[simp] theorem gAll_one : gAll [w] h = match (lstW h w).bind blsW with
    | some ns => .ok (.bl (ns.all id)) h
    | none => .bad := rfl
@[simp] theorem gAny_one : gAny [w] h = match (lstW h w).bind blsW with
    | some ns => .ok (.bl (ns.any id)) h
    | none => .bad := rfl
@[simp] theorem gIsi_ty : gIsi [w, .ty n] h = match (tyW h w).bind fun t => isB t n with
    | some b => .ok (.bl b) h
    | none => .bad := rfl
@[simp] theorem gIsi_tup : gIsi [w, .tup xs] h = match (tyW h w).bind fun t => isAny t xs with
    | some b => .ok (.bl b) h
    | none => .bad := rfl
@[simp] theorem gRepr_one : gRepr [w] h = match datW h fuelD w with
    | some d => if shk d = true then .ok (.str d.shown) h else .bad
    | none => .bad := rfl
@[simp] theorem gIx_tup : gIx (.tup xs) (.int a) h = match atI xs a with
        | some w => .ok w h
        | none => .bad := rfl
@[simp] theorem gIx_fl : gIx (.fl xs) (.int a) h = match atI xs a with
        | some w => .ok w h
        | none => .bad := rfl
@[simp] theorem gIx_ref : gIx (.ref i) (.int a) h = match seqW h (.ref i) with
      | some xs => match atI xs a with
        | some w => .ok w h
        | none => .bad
      | none => .bad := rfl
@[simp] theorem gSl_tup : gSl (.tup xs) lo hi h = if HT.sIx xs.length 0 lo = 0 ∧ HT.sIx xs.length xs.length hi = xs.length then .bad else .ok (.tup (cutW xs lo hi)) h := rfl
@[simp] theorem gSl_fl : gSl (.fl xs) lo hi h = .ok (.ref h.length) (h ++ [.lst (cutW xs lo hi)]) := rfl
@[simp] theorem gSl_ref : gSl (.ref i) lo hi h = match lstW h (.ref i) with
    | some xs => .ok (.ref h.length) (h ++ [.lst (cutW xs lo hi)])
    | none => .bad := rfl
@[simp] theorem gSetIx_ref : gSetIx (.ref i) (.int a) w h = match h[i]? with
    | some (.lst xs) => match ixN xs.length a with
      | some j => .ok () (h.set i (.lst (xs.set j w)))
      | none => .bad
    | _ => .bad := rfl
@[simp] theorem gAppend_ref : gAppend (.ref i) [w] h = match h[i]? with
    | some (.lst xs) => if xs.length < lim then .ok .non (h.set i (.lst (xs ++ [w]))) else .bad
    | _ => .bad := rfl
@[simp] theorem isB_ii : isB "int" "int" = some true := by decide
@[simp] theorem isB_ib : isB "int" "bool" = some false := by decide
@[simp] theorem isB_bi : isB "bool" "int" = some true := by decide
@[simp] theorem isB_bb : isB "bool" "bool" = some true := by decide
@[simp] theorem isB_ll : isB "list" "list" = some true := by decide
@[simp] theorem isB_tl : isB "tuple" "list" = some false := by decide
@[simp] theorem isB_tt : isB "tuple" "tuple" = some true := by decide
@[simp] theorem isB_lt : isB "list" "tuple" = some false := by decide
@[simp] theorem isAny_t : isAny "tuple" [.ty "list", .ty "tuple"] = some true := by decide
@[simp] theorem isAny_l : isAny "list" [.ty "list", .ty "tuple"] = some true := by decide
end
theorem seq_cases {h : HH} {w : W} {xs : List W} (e : seqW h w = some xs) : w = .tup xs ∨ w = .fl xs ∨ ∃ p, w = .ref p ∧ h[p]? = some (.lst xs) := by
  cases w with
  | tup ys => simp [seqW] at e; subst e; exact .inl rfl
  | fl ys => simp [seqW] at e; subst e; exact .inr (.inl rfl)
  | ref i =>
    simp only [seqW] at e
    split at e
    · rename_i ys hy; cases e; exact .inr (.inr ⟨i, rfl, hy⟩)
    · cases e
  | _ => simp [seqW] at e
section
variable {α : Type} {h l : List α} {o : α} {p k : Nat}
theorem hget_old (e : h[p]? = some o) : (h ++ l)[p]? = some o := by
  rw [List.getElem?_append_left (List.getElem?_eq_some_iff.mp e).1]; exact e
@[simp] theorem hget_new0 : (h ++ l)[h.length]? = l[0]? := by rw [List.getElem?_append_right (Nat.le_refl _), Nat.sub_self]
@[simp] theorem hget_new : (h ++ l)[h.length + k]? = l[k]? := by rw [List.getElem?_append_right (by omega)]; congr 1; omega
theorem hset_old (e : p < h.length) : (h ++ l).set p o = h.set p o ++ l := by rw [List.set_append_left _ _ e]
@[simp] theorem hset_new0 : (h ++ l).set h.length o = h ++ l.set 0 o := by rw [List.set_append_right _ _ (Nat.le_refl _), Nat.sub_self]
@[simp] theorem hset_new : (h ++ l).set (h.length + k) o = h ++ l.set k o := by rw [List.set_append_right _ _ (by omega)]; congr 2; omega
theorem hget_set (e : p < h.length) : (h.set p o)[p]? = some o := by rw [List.getElem?_set_self e]
theorem hget_set_ne {q : Nat} (e : q ≠ p) : (h.set p o)[q]? = h[q]? := by rw [List.getElem?_set_ne (Ne.symm e)]
theorem hlt (e : h[p]? = some o) : p < h.length := (List.getElem?_eq_some_iff.mp e).1
end
/-! ### comprehensions whose elements change nothing -/
theorem loopC_pure {chk : HH → Bool} {g : MG} {e : ME} {s : Sl} {h : HH} (F : W → W) (sl : W → Sl) (hc : chk h = true) : ∀ (xs acc : List W), (∀ x ∈ xs, g x s h = .ok (sl x) h ∧ e (sl x) h = .ok (F x) h) → acc.length + xs.length ≤ lim →
    loopC chk g tTru e xs acc s h = .ok (acc ++ xs.map F) h
  | [], acc, _, _ => by simp [loopC]
  | x :: xs, acc, he, hl => by
    have ⟨h1, h2⟩ := he x (List.mem_cons_self ..)
    have ih := loopC_pure F sl hc xs (acc ++ [F x]) (fun y hy => he y (List.mem_cons_of_mem _ hy)) (by simp at hl ⊢; omega)
    unfold loopC
    rw [h1]
    simp only [cut_ok, Rs.bind_ok, tTru, if_true, h2, hc]
    rw [if_pos (by simp at hl ⊢; omega), ih]
    simp
theorem loopC_filter {chk : HH → Bool} {g : MG} {t : MT} {e : ME} {s : Sl} {h : HH} (F : W → W) (p : W → Bool) (sl : W → Sl) (hc : chk h = true) : ∀ (xs acc : List W), (∀ x ∈ xs, g x s h = .ok (sl x) h ∧ t (sl x) h = .ok (p x) h ∧ (p x = true → e (sl x) h = .ok (F x) h)) → acc.length + xs.length ≤ lim →
    loopC chk g t e xs acc s h = .ok (acc ++ (xs.filter p).map F) h
  | [], acc, _, _ => by simp [loopC]
  | x :: xs, acc, he, hl => by
    have ⟨h1, h2, h3⟩ := he x (List.mem_cons_self ..)
    unfold loopC
    rw [h1]
    simp only [cut_ok, Rs.bind_ok, h2, hc, if_true]
    cases hp : p x with
    | true =>
      have ih := loopC_filter F p sl hc xs (acc ++ [F x]) (fun y hy => he y (List.mem_cons_of_mem _ hy)) (by simp at hl ⊢; omega)
      have hlt : acc.length < lim := by simp at hl ⊢; omega
      simp only [if_true, h3 hp, cut_ok, Rs.bind_ok, hc, hlt, ih]
      simp [List.filter, hp]
    | false =>
      have ih := loopC_filter F p sl hc xs acc (fun y hy => he y (List.mem_cons_of_mem _ hy)) (by simp at hl ⊢; omega)
      rw [if_neg Bool.false_ne_true, ih]
      simp [List.filter, hp]
/-- with a state: an invariant over what is left and what is made -/
theorem loopC_inv {chk : HH → Bool} {g : MG} {e : ME} {s : Sl} (Pv : List W → List W → HH → Prop) (hck : ∀ xs acc h, Pv xs acc h → chk h = true ∧ acc.length + xs.length ≤ lim)
    (step : ∀ x xs acc h, Pv (x :: xs) acc h → ∃ s1 h1 w h2, g x s h = .ok s1 h1 ∧ e s1 h1 = .ok w h2 ∧ Pv xs (acc ++ [w]) h2) : ∀ (xs acc : List W) (h : HH), Pv xs acc h →
    ∃ acc' h', loopC chk g tTru e xs acc s h = .ok acc' h' ∧ Pv [] acc' h'
  | [], acc, h, p => ⟨acc, h, rfl, p⟩
  | x :: xs, acc, h, p => by
    obtain ⟨s1, h1, w, h2, e1, e2, p2⟩ := step x xs acc h p
    obtain ⟨acc', h', e3, p3⟩ := loopC_inv Pv hck step xs (acc ++ [w]) h2 p2
    refine ⟨acc', h', ?_, p3⟩
    unfold loopC
    rw [e1]
    simp only [cut_ok, Rs.bind_ok, tTru, if_true, e2, (hck _ _ _ p2).1]
    rw [if_pos ?_, e3]
    have := (hck _ _ _ p).2
    simp at this ⊢; omega
/-- a loop: an invariant over what is left, the slots and the heap; no way out ahead of the end -/
theorem loopF_inv {chk : HH → Bool} {g : MG} {b : MS} (Pv : List W → Sl → HH → Prop) (hck : ∀ xs s h, Pv xs s h → chk h = true)
    (step : ∀ x xs s h, Pv (x :: xs) s h → ∃ s1 h1 s2 h2, g x s h = .ok s1 h1 ∧ b s1 h1 = .ok (.nx, s2) h2 ∧ Pv xs s2 h2) : ∀ (xs : List W) (s : Sl) (h : HH), Pv xs s h →
    ∃ s' h', loopF chk g b xs s h = .ok (.nx, s') h' ∧ Pv [] s' h'
  | [], s, h, p => ⟨s, h, rfl, p⟩
  | x :: xs, s, h, p => by
    obtain ⟨s1, h1, s2, h2, e1, e2, p2⟩ := step x xs s h p
    obtain ⟨s', h', e3, p3⟩ := loopF_inv Pv hck step xs s2 h2 p2
    refine ⟨s', h', ?_, p3⟩
    unfold loopF
    rw [e1]
    simp only [cut_ok, Rs.bind_ok, e2, hck _ _ _ p2, if_true]
    exact e3

/-! ### what a sequence is -/
section
variable {h l : HH} {w : W} {xs : List W}
theorem seq_src (e : seqW h w = some xs) : ∃ chk, srcW w h = some ⟨xs, chk⟩ ∧ ∀ l, chk (h ++ l) = true := by
  rcases seq_cases e with rfl | rfl | ⟨p, rfl, hp⟩
  · exact ⟨_, rfl, fun _ => rfl⟩
  · exact ⟨_, rfl, fun _ => rfl⟩
  · exact ⟨stayL p xs, by simp [hp], fun l => stayL_of (hget_old hp)⟩
theorem seq_ty (e : seqW h w = some xs) : tyW h w = some "tuple" ∨ tyW h w = some "list" := by
  rcases seq_cases e with rfl | rfl | ⟨p, rfl, hp⟩
  · exact .inl rfl
  · exact .inr rfl
  · right; simp [hp]
theorem seq_app (e : seqW h w = some xs) : seqW (h ++ l) w = some xs := by
  rcases seq_cases e with rfl | rfl | ⟨p, rfl, hp⟩
  · rfl
  · rfl
  · simp [hget_old hp]
theorem intsW_inv : ∀ {ws : List W} {ns : List Int}, intsW ws = some ns → ws = ns.map W.int
  | [], ns, e => by simp [intsW] at e; subst e; rfl
  | .int i :: r, ns, e => by
    simp only [intsW] at e
    split at e
    · rename_i l hl
      cases e
      rw [intsW_inv hl]; rfl
    · cases e
  | .non :: _, _, e | .bl _ :: _, _, e | .str _ :: _, _, e | .tup _ :: _, _, e | .fl _ :: _, _, e | .ref _ :: _, _, e | .gl _ :: _, _, e | .ty _ :: _, _, e => by simp [intsW] at e
end
/-! ### small results: what is left behind goes -/
theorem shr_same {n : Nat} {a : Rs W} : ShrTo n a a := .inl rfl
theorem shr_bad {n : Nat} {a : Rs W} : ShrTo n a .bad := .inr (.inl rfl)
/-- the first objects and a value over them -/
theorem shr_head {n : Nat} {v : W} {h' l : HH} {r : Rs W} (e : r = .ok v (h' ++ l)) (hn : n ≤ h'.length) (hb : bH h'.length h') (hv : bW h'.length v) : ShrTo n r (.ok v h') :=
  .inr (.inr ⟨v, _, v, h', id, e, rfl, hn, fun _ _ => rfl, fun _ _ _ _ z => z, fun i o q => ⟨by rw [mapO_id (f := id) (n := h'.length) (fun _ _ => rfl) (hb i o q)]; exact hget_old q, hb i o q⟩, mapW_id (f := id) (n := h'.length) (fun _ _ => rfl) hv, hv⟩)
theorem shr_pure {v : W} {h l : HH} {r : Rs W} (e : r = .ok v (h ++ l)) (hb : bH h.length h) (hv : bW h.length v) : ShrTo h.length r (.ok v h) := shr_head e (Nat.le_refl _) hb hv
theorem bWs_ints {n : Nat} (ns : List Int) : bWs n (ns.map W.int) := by
  induction ns with
  | nil => simp [bWs]
  | cons i r ih => simp [bWs, bW, ih]
theorem mapWs_ints {f : Nat → Nat} (ns : List Int) : mapWs f (ns.map W.int) = ns.map W.int := by
  induction ns with
  | nil => simp [mapWs]
  | cons i r ih => simp [mapWs, mapW, ih]
theorem bH_snoc {n : Nat} {h : HH} {o : O} (hb : bH n h) (ho : bO n o) : bH n (h ++ [o]) := fun i o' e => by
  by_cases hi : i < h.length
  · rw [List.getElem?_append_left hi] at e; exact hb i o' e
  · have hl := (List.getElem?_eq_some_iff.mp e).1
    have : i = h.length := by simp at hl; omega
    subst this
    simp at e
    subst e; exact ho
theorem bO.mono {n m : Nat} (l : n ≤ m) {o : O} (h : bO n o) : bO m o := by
  cases o with
  | lst xs => exact bWs.mono l h
  | ins C fs => exact fun p hp => bW.mono l (h p hp)
  | dK fs => exact fun p hp => bW.mono l (h p hp)
  | dT fs => exact fun p hp => bW.mono l (h p hp)
theorem bH.mono {n m : Nat} (l : n ≤ m) {h : HH} (hb : bH n h) : bH m h := fun i o e => (hb i o e).mono l
/-- a new list of flat things at r, all else of this call goes -/
theorem shr_list {h l : HH} {r : Nat} {xs : List W} {res : Rs W} (e : res = .ok (.ref r) (h ++ l)) (hr : h.length ≤ r) (hx : (h ++ l)[r]? = some (.lst xs)) (hb : bH h.length h) (flat : bWs 0 xs) : ShrTo h.length res (.ok (.ref h.length) (h ++ [.lst xs])) := by
  refine .inr (.inr ⟨_, _, _, _, fun i => if i < h.length then i else r, e, rfl, by simp, fun i hi => if_pos hi, fun i j hi hj z => ?_, fun i o q => ?_, by simp [mapW], by simp [bW]⟩)
  · simp at hi hj
    by_cases h1 : i < h.length
    · by_cases h2 : j < h.length
      · simpa [h1, h2] using z
      · simp [h1, h2] at z; omega
    · by_cases h2 : j < h.length
      · simp [h1, h2] at z; omega
      · omega
  · by_cases h1 : i < h.length
    · rw [List.getElem?_append_left h1] at q
      have b := hb i o q
      refine ⟨?_, b.mono (by simp)⟩
      simp only [h1, if_true]
      rw [mapO_id (n := h.length) (fun j hj => if_pos hj) b]
      exact hget_old q
    · have hl := (List.getElem?_eq_some_iff.mp q).1
      have : i = h.length := by simp at hl; omega
      subst this
      simp at q
      subst q
      refine ⟨?_, bWs.mono (Nat.zero_le _) flat⟩
      simp only [Nat.lt_irrefl, if_false]
      rw [hx]
      show some (O.lst xs) = some (O.lst (mapWs _ xs))
      rw [mapWs_id (n := 0) (fun j hj => absurd hj (Nat.not_lt_zero _)) flat]
end D
/-! D: what holds after a result. -/
namespace D
open PySem PySem.Spec PyProof.Rows L2
def Po {α : Type} (Q : α → HH → Prop) : Rs α → Prop
  | .ok a h => Q a h
  | _ => False
section
variable {α β : Type} {Q Q' : α → HH → Prop} {a : α} {h : HH} {r : Rs α}
@[simp] theorem po_ok : Po Q (.ok a h) = Q a h := rfl
@[simp] theorem po_bad : Po Q .bad = False := rfl
@[simp] theorem po_bind {q : Rs β} {f : β → HH → Rs α} : Po Q (q.bind f) = Po (fun b h => Po Q (f b h)) q := by cases q <;> rfl
@[simp] theorem po_cut : Po Q (cut r) = Po Q r := by cases r <;> rfl
@[simp] theorem po_atS {s : Sl} : Po Q (atS s r) = Po Q r := by cases r <;> rfl
@[simp] theorem po_ite {c : Prop} [Decidable c] {p q : Rs α} : Po Q (if c then p else q) = if c then Po Q p else Po Q q := by split <;> rfl
def outQ (Q : W → HH → Prop) : Fl × Sl → HH → Prop
  | (.nx, _), h => Q .non h
  | (.ret w, _), h => Q w h
  | _, _ => False
@[simp] theorem outQ_nx {Q : W → HH → Prop} {s : Sl} : outQ Q (.nx, s) h = Q .non h := rfl
@[simp] theorem outQ_ret {Q : W → HH → Prop} {s : Sl} {w : W} : outQ Q (.ret w, s) h = Q w h := rfl
@[simp] theorem po_outS {Q : W → HH → Prop} {q : Rs (Fl × Sl)} : Po Q (outS q) = Po (outQ Q) q := by
  cases q with
  | ok a h => obtain ⟨f, s⟩ := a; cases f <;> rfl
  | _ => rfl
theorem Po.mono (p : Po Q r) (i : ∀ a h, Q a h → Q' a h) : Po Q' r := by
  cases r with
  | ok a h => exact i _ _ p
  | _ => exact p.elim
theorem Po.out {r : Rs α} (p : Po Q r) : ∃ a h, r = .ok a h ∧ Q a h := by
  cases r with
  | ok a h => exact ⟨a, h, rfl, p⟩
  | _ => exact p.elim
end
theorem po_loopC {chk : HH → Bool} {g : MG} {e : ME} {s : Sl} {Q : List W → HH → Prop} (Pv : List W → List W → HH → Prop)
    (step : ∀ x xs acc h, Pv (x :: xs) acc h → Po (fun s1 h1 => Po (fun w h2 => chk h2 = true ∧ acc.length < lim ∧ Pv xs (acc ++ [w]) h2) (e s1 h1)) (g x s h))
    (fin : ∀ acc h, Pv [] acc h → Q acc h) : ∀ (xs acc : List W) (h : HH), Pv xs acc h → Po Q (loopC chk g tTru e xs acc s h)
  | [], acc, h, p => fin _ _ p
  | x :: xs, acc, h, p => by
    obtain ⟨s1, h1, e1, p1⟩ := (step x xs acc h p).out
    obtain ⟨w, h2, e2, c2, l2, p2⟩ := p1.out
    unfold loopC
    rw [e1]
    simp only [cut_ok, Rs.bind_ok, tTru, if_true, e2, c2]
    rw [if_pos l2]
    exact po_loopC Pv step fin xs _ _ p2
def stepQ (chk : HH → Bool) (Pv : Sl → HH → Prop) (Q : Fl × Sl → HH → Prop) : Fl × Sl → HH → Prop
  | (.nx, s), h => chk h = true ∧ Pv s h
  | (.cnt, s), h => chk h = true ∧ Pv s h
  | (.ret w, s), h => Q (.ret w, s) h
  | (.brk, s), h => Q (.nx, s) h
@[simp] theorem stepQ_nx {chk : HH → Bool} {Pv : Sl → HH → Prop} {Q : Fl × Sl → HH → Prop} {s : Sl} {h : HH} : stepQ chk Pv Q (.nx, s) h = (chk h = true ∧ Pv s h) := rfl
@[simp] theorem stepQ_cnt {chk : HH → Bool} {Pv : Sl → HH → Prop} {Q : Fl × Sl → HH → Prop} {s : Sl} {h : HH} : stepQ chk Pv Q (.cnt, s) h = (chk h = true ∧ Pv s h) := rfl
@[simp] theorem stepQ_ret {chk : HH → Bool} {Pv : Sl → HH → Prop} {Q : Fl × Sl → HH → Prop} {s : Sl} {w : W} {h : HH} : stepQ chk Pv Q (.ret w, s) h = Q (.ret w, s) h := rfl
@[simp] theorem stepQ_brk {chk : HH → Bool} {Pv : Sl → HH → Prop} {Q : Fl × Sl → HH → Prop} {s : Sl} {h : HH} : stepQ chk Pv Q (.brk, s) h = Q (.nx, s) h := rfl
theorem po_loopF {chk : HH → Bool} {g : MG} {b : MS} {Q : Fl × Sl → HH → Prop} (Pv : List W → Sl → HH → Prop)
    (step : ∀ x xs s h, Pv (x :: xs) s h → Po (fun s1 h1 => Po (stepQ chk (Pv xs) Q) (b s1 h1)) (g x s h))
    (fin : ∀ s h, Pv [] s h → Q (.nx, s) h) : ∀ (xs : List W) (s : Sl) (h : HH), Pv xs s h → Po Q (loopF chk g b xs s h)
  | [], s, h, p => fin _ _ p
  | x :: xs, s, h, p => by
    obtain ⟨s1, h1, e1, p1⟩ := (step x xs s h p).out
    obtain ⟨r, h2, e2, p2⟩ := p1.out
    obtain ⟨f, s2⟩ := r
    unfold loopF
    rw [e1]
    simp only [cut_ok, Rs.bind_ok, e2]
    cases f with
    | nx => simp only [p2.1, if_true]; exact po_loopF Pv step fin xs _ _ p2.2
    | cnt => simp only [p2.1, if_true]; exact po_loopF Pv step fin xs _ _ p2.2
    | ret w => exact p2
    | brk => exact p2
/-! ### heaps that grow -/
def Sub (h h' : HH) : Prop := ∀ (p : Nat) (o : O), h[p]? = some o → h'[p]? = some o
def SubX (b : Nat) (h h' : HH) : Prop := h.length ≤ h'.length ∧ ∀ (p : Nat) (o : O), p ≠ b → h[p]? = some o → h'[p]? = some o
section
variable {h h1 h2 l : HH} {b : Nat}
@[simp] theorem Sub.refl : Sub h h := fun _ _ e => e
theorem Sub.trans (x : Sub h h1) (y : Sub h1 h2) : Sub h h2 := fun p o e => y p o (x p o e)
@[simp] theorem Sub.app : Sub h (h ++ l) := fun _ _ e => hget_old e
theorem Sub.more (x : Sub h h1) : Sub h (h1 ++ l) := x.trans .app
theorem Sub.len (x : Sub h h1) : h.length ≤ h1.length := by
  rcases Nat.eq_zero_or_pos h.length with e | e
  · omega
  · have := x (h.length - 1) _ (List.getElem?_eq_getElem (by omega))
    have := hlt this
    omega
theorem Sub.x (x : Sub h h1) : SubX b h h1 := ⟨x.len, fun p o _ e => x p o e⟩
@[simp] theorem SubX.refl : SubX b h h := ⟨Nat.le_refl _, fun _ _ _ e => e⟩
theorem SubX.trans (x : SubX b h h1) (y : SubX b h1 h2) : SubX b h h2 := ⟨Nat.le_trans x.1 y.1, fun p o n e => y.2 p o n (x.2 p o n e)⟩
@[simp] theorem SubX.app : SubX b h (h ++ l) := Sub.x .app
theorem SubX.more (x : SubX b h h1) : SubX b h (h1 ++ l) := x.trans .app
theorem SubX.set {o : O} : SubX b h (h.set b o) := ⟨by simp, fun p o n e => by rw [hget_set_ne n]; exact e⟩
theorem SubX.put {p : Nat} {o : O} (x : SubX b h h1) (l : h.length ≤ p) : SubX b h (h1.set p o) := ⟨by rw [List.length_set]; exact x.1, fun q u n e => by
  have := hlt e
  rw [hget_set_ne (by omega)]; exact x.2 q u n e⟩
theorem Sub.seq (x : Sub h h1) {w : W} {xs : List W} (e : seqW h w = some xs) : seqW h1 w = some xs := by
  rcases seq_cases e with rfl | rfl | ⟨p, rfl, hp⟩
  · rfl
  · rfl
  · simp [x _ _ hp]
theorem SubX.seq (x : SubX b h h1) {w : W} {xs : List W} (e : seqW h w = some xs) (n : w ≠ .ref b) : seqW h1 w = some xs := by
  rcases seq_cases e with rfl | rfl | ⟨p, rfl, hp⟩
  · rfl
  · rfl
  · simp [x.2 _ _ (fun q => n (by rw [q])) hp]
theorem src_seq {w : W} {xs : List W} (e : seqW h w = some xs) : ∃ chk, srcW w h = some ⟨xs, chk⟩ ∧ chk h = true ∧ (∀ h', Sub h h' → chk h' = true) ∧ ∀ b h', w ≠ .ref b → SubX b h h' → chk h' = true := by
  rcases seq_cases e with rfl | rfl | ⟨p, rfl, hp⟩
  · exact ⟨_, rfl, rfl, fun _ _ => rfl, fun _ _ _ _ => rfl⟩
  · exact ⟨_, rfl, rfl, fun _ _ => rfl, fun _ _ _ _ => rfl⟩
  · exact ⟨stayL p xs, by simp [hp], stayL_of hp, fun h' s => stayL_of (s _ _ hp), fun b h' n s => stayL_of (s.2 _ _ (fun q => n (by rw [q])) hp)⟩
end
end D
/-! D: one statement behind the other, with what holds between them. -/
namespace D
open PySem PySem.Spec PyProof.Rows L2
def seqQ (R : Sl → HH → Prop) (Q : Fl × Sl → HH → Prop) : Fl × Sl → HH → Prop
  | (.nx, s), h => R s h
  | (.ret w, s), h => Q (.ret w, s) h
  | (.brk, s), h => Q (.brk, s) h
  | (.cnt, s), h => Q (.cnt, s) h
section
variable {R : Sl → HH → Prop} {Q : Fl × Sl → HH → Prop} {s : Sl} {h : HH} {w : W}
@[simp] theorem seqQ_nx : seqQ R Q (.nx, s) h = R s h := rfl
@[simp] theorem seqQ_ret : seqQ R Q (.ret w, s) h = Q (.ret w, s) h := rfl
@[simp] theorem seqQ_brk : seqQ R Q (.brk, s) h = Q (.brk, s) h := rfl
@[simp] theorem seqQ_cnt : seqQ R Q (.cnt, s) h = Q (.cnt, s) h := rfl
theorem po_seq (R : Sl → HH → Prop) {a b : MS} (ha : Po (seqQ R Q) (a s h)) (hb : ∀ s1 h1, R s1 h1 → Po Q (b s1 h1)) : Po Q (sSeq a b s h) := by
  obtain ⟨⟨f, s1⟩, h1, e, p⟩ := ha.out
  show Po Q ((a s h).bind _)
  rw [e]
  cases f with
  | nx => exact hb _ _ p
  | _ => exact p
end
end D
/-! D: C(e) made where nothing is handled: an error whose context is None. -/
namespace D
open PySem PySem.Spec PyProof.Rows
open L2 hiding PMk MkP
open L2N (PMk)
theorem made_calm {X : Cx} {CX : CXT} {x : Str} {e : Expr} {ta : TA} {C i : Addr} {k : Nat} {fd : FuncData} {ps : List Str} {sp : Sp} {p pos : Pos} (T : OexC X.K C)
    (own : PySem.W.findIn X.K (.ref C) "__init__" = some (some (.ref i))) (isF : PySem.W.typeIn X.K (.ref i) = some (.type "function"))
    (Fn : FnOk X.prog X.w X.K X.mg X.base CX k i fd ps sp) (room : Room (k + 1) X.A) (bd : Binds X.K fd ps []) (out : Passes CX X (fun _ _ _ => False)) (gl : Gl X x) (at' : X.mg x = some (.ref C)) (ha : PA X [e] ta)
    (nd : (x == ("__debug__" : Str)) = false := by decide) (st : starEach [e] X.env = (false, eval e X.env) :: starEach [] X.env := by rfl) (pl : (backTo pos (starEach [] X.env)).any (·.1) = false := by rfl) :
    PMk X (.Call (.Name x p) [e] [] pos) (tMkO C sp [] ta) := by
  intro pins s0 σ H0 Q inv wish
  obtain ⟨_, _, _, _, bm, _, _, _, _, _, _, _, _, _, _, look, inBm⟩ := T.cls
  refine wpAny_Call_Name_kw (ld_glob inv gl at' (PySem.W.callWith_K (h₀ := X.base) inv.ok.mod.kin T.kC (thn (ha.run pos pins s0 σ H0 _ inv wish) fun us ⟨hp, g, dr, tk, os⟩ ⟨vs, H1, inv1, rel, long, q1⟩ => ⟨inv1.kIn, ?_⟩) st pl) nd)
  show wpAny _ _ (call (.ref C) us) _ _ _
  have up : hp.objs.size ≤ hp.objs.size + 1 := Nat.le_succ _
  have free : H1 (hp.objs.size + 1) = none := inv1.hok.fresh up
  have wish1 := q1 (hp.objs.size + 1) free
  rw [List.append_nil] at wish1
  obtain ⟨hp', two⟩ : ∃ hp', (hp.push (PySem.W.kdv_tup us)).push (PySem.HandSPX.excO C hp.objs.size) = hp' := ⟨_, rfl⟩
  have keep : ∀ b o, hp.get? b = some o → hp'.get? b = some o := fun b o z => by
    rw [← two]
    exact Heap.get?_push_of_some _ (Heap.get?_push_of_some _ z)
  have new : hp'.get? (hp.objs.size + 1) = some (PySem.HandSPX.excO C hp.objs.size) := by
    rw [← two]
    heap_get
  have inv2 : Inv X pins σ (upd H1 (hp.objs.size + 1) (exo (hp.objs.size + 1) C none)) ⟨hp', g, dr, tk, os⟩ := inv1.laid (t' := tk) keep up (exo_ok new)
  have rel2 : Vals (V.ref (hp.objs.size + 1) :: vs) (Value.ref (hp.objs.size + 1) :: us) := .cons rfl rel
  have many : (Value.ref (hp.objs.size + 1) :: us ++ []).length = ps.length := by
    have z := rel2.length
    rw [Fn.len _ _ _ _ wish1] at z
    rw [List.append_nil]
    exact z.symm
  have few : us.length ≤ sizeLine := by
    rw [← Paired.length rel, sizeLine_eq]; omega
  have bound := bd _ (Value.ref (hp.objs.size + 1) :: us) inv2.kIn many
  rw [List.append_nil] at bound
  subst two
  refine wpAny_call (PySem.HandSPX.call_own F.excBase_ValueError (fun Y => PySem.HandSPX.refsVE_contains Y bm inBm) (inv1.kIn _ _ look) (PySem.W.looks_findIn inv1.kIn own) (fun self => PySem.W.bind_fn inv1.kIn self isF) few (codeAny_mono (Fn.run _ X.stack _ _ ⟨Value.ref (hp.objs.size + 1) :: us, []⟩ (Value.ref (hp.objs.size + 1) :: us) _ _ (fun _ _ _ => False) (room.make C us []) (inv2.env0.make C us []) bound rel2 wish1) fun r s' z => ?_))
  cases r with
  | error er => exact out pins σ _ _ er s' inv2 z
  | ok fl =>
    cases fl with
    | ret u =>
      obtain ⟨v, H2, os2, bare2, un2, hok2, rv, ev, d, fs, ea, ed, hd1, q2⟩ := z
      subst ev
      obtain ⟨h2, g2, d2, t2, os'⟩ := s'
      obtain ⟨_, G, J, kG, ge, hoe, na⟩ := mk_end0 (d2 := d2) (t2 := t2) inv1 up keep un2 hok2 os2 bare2 ea ed hd1
      exact ⟨rv, hp.objs.size + 1, _, _, ⟨G, g2, d2, t2, os'⟩, _, .ref C, some d, rfl, J, kG, ge, hoe, ⟨rfl, rfl, fun vs hv => by cases hv; rfl⟩, rfl, rfl, na, rfl, bare2, raises_own T.exC T.tyC, q2⟩
    | next => exact z.elim
    | brk => exact z.elim
    | cont => exact z.elim
end D
/-! D: own exception classes whose __init__ calls their base's __init__ and keeps one argument; raise; try. -/
namespace D
open PySem PySem.Spec PyProof.Rows
open L2 hiding XE Takes CX ps_raise mk_of pmk_own passAt takes_of passes_call MkP PMk ps_try_as ps_try_many
open L2N hiding St
/-! ### making one -/
section
variable {X : Cx} {C0 C fI : Addr} {mc : Value} {e : Expr} {es : List Expr} {ta : TA} {x : Str} {p p1 p2 pos : Pos} {k : Nat} {fd : FuncData} {ps : List Str} {sp : Sp}
/-- Base.__init__(self, ..), Base an own class without an __init__ of its own -/
theorem pe_feinit {pl : Sem Bool} (hg : Gl X x) (hm : X.mg x = some (.ref C0)) (r : PySem.W.readsIn X.K C0 mc = true) (ga : PySem.W.specialIn X.K (.ref C0) "__getattribute__" = some (some (.builtin "type.__getattribute__")))
    (vV : PySem.W.findCls X.K (.ref C0) mc "__init__" = some (.val (.builtin "ValueError.__init__"))) (ha : PA X (e :: es) ta) (hd : (x == ("__debug__" : Str)) = false := by decide)
    (hc : eval (.Call (.Attribute (.Name x p1) "__init__" p2) (e :: es) [] pos) X.env = (do
      let ov ← eval (.Name x p1) X.env
      standAt p2.atName
      let (f, first) ← holding [ov] (getMethod ov "__init__" pl)
      callWith pos f first (backTo pos (starEach (e :: es) X.env)) (backToKw pos (keywordEach [] X.env))) := by rfl)
    (he : starEach (e :: es) X.env = (false, eval e X.env) :: starEach es X.env := by rfl) (hpl : (backTo pos (starEach es X.env)).any (·.1) = false := by rfl) :
    PE X (.Call (.Attribute (.Name x p1) "__init__" p2) (e :: es) [] pos) (tVeI X.K ta) := by
  refine ⟨fun pins s σ H Q I h => ?_⟩
  refine PySem.W.methodCall_KW (ld_glob I hg hm ?_ hd) hc
  refine PySem.W.method_cls I.kIn ga (PySem.W.cls_value I.kIn r vV rfl ?_)
  show wpAny _ _ (callWith pos (Value.builtin "ValueError.__init__") [] (backTo pos (starEach (e :: es) X.env)) []) _ _ _
  refine PyProof.Rows.callWith_method1 (thn (ha.run pos pins _ σ H _ (I.tok _) h) fun us s1 ⟨vs, H1, I1, r1, a, C, ws, ev, hl, T, ea, q⟩ => ?_) he hpl
  subst ev
  cases r1 with
  | @cons _ u0 _ ur ra rw' =>
    obtain rfl : u0 = Value.ref a := ra
    have hlen : ur.length ≤ sizeLine := by
      rw [← Paired.length rw', sizeLine_eq]
      omega
    exact oinit_ok T I1 ea hlen fun s' J => ⟨.non, H1, J, rfl, q⟩
/-- what such an __init__ does -/
def spIni (K : PySem.W.Frag) (C : Addr) (f : Str) : Sp := fun vs H Q _ => ∃ (a : Addr) (v : V), vs = [.ref a, v] ∧ H a = some (exo a C none) ∧ OexC K C ∧ PySem.W.findIn K (.ref C) f = some none ∧
  ∀ dx, H dx = none → dx ≠ a → Q .non (upd (upd H dx (exd dx [(f, v)])) a (exo a C (some dx)))
/-- its body, read -/
def tIni (K : PySem.W.Frag) (f t : Str) : TS := tSeq (tDrop (tVeI K (tCons (tVar 0) (tCons (tC (.str t)) tNil)))) (tOst K f (tVar 0) (tVar 1))
theorem ini_read {K : PySem.W.Frag} {f t a1 a2 : Str} {vs : List V} {H : Hp} {Q : VK} {E : XK} (q : spIni K C f vs H Q E) : tIni K f t { nx := fun _ H' => Q .non H', rt := Q } (L2.start [a1, a2] vs) H := by
  obtain ⟨a, v, rfl, ea, T, hno, q⟩ := q
  have e0 : (L2.start [a1, a2] [V.ref a, v])[0]? = some (some (.ref a)) := rfl
  have e1 : (L2.start [a1, a2] [V.ref a, v])[1]? = some (some v) := rfl
  refine ⟨_, e0, a, C, [.str t], rfl, by simp, T, ea, ?_⟩
  exact ⟨_, e1, _, e0, a, C, rfl, T, hno, .inl ⟨ea, fun dx n ne => q dx n ne⟩⟩
theorem ini_ok {P : Program} {w : World} {K : PySem.W.Frag} {mg : Str → Option Value} {base : Heap} {st : Stmt} {q p f t : Str} {fI C : Addr} {fd : FuncData} (F : Fun K "__init__" q st fI fd) (S : FnScope ["self", p] ["self", p] (defScope st))
    (der : ∀ (cdv : Value) (A : Around) (outer : List Env) (s : Shared) (H : Hp) (E : XK), PSs (cxOf (L2N.CX P w) P w K mg base ["self", p] q (defScope st) fI cdv A outer s H E) (defBody st) (tIni K f t)) :
    FnOk P w K mg base (L2N.CX P w) 1 fI fd ["self", p] (spIni K C f) := by
  obtain ⟨oc, od, kV, doc, pm, an, cdv, ct, osl, e, lk, hcode⟩ := F.ex
  subst e
  refine fn_of lk hcode S (fun vs H Q E z => ?_) fun A outer s H vs Q E hr hsp => ⟨_, der cdv A outer s H E, ini_read hsp⟩
  obtain ⟨a, v, e, _⟩ := z
  rw [e]; rfl
/-- raise C(e) -/
@[simp] def sRaise (C f : Str) (m : ME) : MS := fun s h => (atS s (m s h)).bind fun w h1 => .exc C [(f, w)] s h1
/-- what the text says of an own exception class -/
structure ExR (P : Program) (w : World) (K : PySem.W.Frag) (mg : Str → Option Value) (base : Heap) (x f : Str) : Prop where
  gC : mg x = some (.ref (cAt K x))
  T : OexC K (cAt K x)
  no : PySem.W.findIn K (.ref (cAt K x)) f = some none
  ini : ∃ (fI : Addr) (fd : FuncData) (ps : List Str), PySem.W.findIn K (.ref (cAt K x)) "__init__" = some (some (.ref fI)) ∧ PySem.W.typeIn K (.ref fI) = some (.type "function") ∧ FnOk P w K mg base (L2N.CX P w) 1 fI fd ps (spIni K (cAt K x) f) ∧ Binds K fd ps []
theorem ds_raise {Wx : WJ} {f : Str} {me : ME} {pos2 : Pos} (R : ExR X.prog X.w X.K X.mg X.base x f) (hc : X.calm = true) (tk : Takes X Wx.W) (hr : RmG 2 X.A) (hg : Gl X x) (ha : DE X Wx e me)
    (hdb : (x == ("__debug__" : Str)) = false := by decide) (he : starEach [e] X.env = (false, eval e X.env) :: starEach [] X.env := by rfl) (hpl : (backTo pos (starEach [] X.env)).any (·.1) = false := by rfl) :
    DS X Wx (.Raise (some (.Call (.Name x p) [e] [] pos)) none pos2) (sRaise x f me) := by
  obtain ⟨fI, fd, ps, iC, tI, F1, hb⟩   := R.ini
  have hx : Passes (L2N.CX X.prog X.w) X (fun _ _ _ => False) := passes_call (W := Wx.W) tk fun _ _ _ _ z => z.elim
  refine (ps_raise hc tk (made_calm R.T iC tI F1 hr.r hb hx hg R.gC (pa_cons ha pa_nil he) hdb he hpl)).imp fun D σ H ⟨ι, s, h, S, Rl, A⟩ => ?_
  refine ⟨ι, s, h, S, Rl, (A.bind.atS Rl).imp (fun ι1 h1 H1 w p1 g1 S1 A1 v rv => ?_) idX⟩
  refine ⟨by simp, fun a na => ⟨a, v, rfl, upd_same, R.T, R.no, fun dx nd ne => ⟨rfl, dx, [(f, v)], upd_same, by rw [upd_ne ne, upd_same], ?_, ?_⟩⟩⟩
  · by_cases z : dx = a
    · exact absurd z ne
    · rw [upd_ne z] at nd; exact nd
  · have nd' : H1 dx = none := by
      rw [upd_ne ne] at nd; exact nd
    have eH : upd (del (upd (upd (upd H1 a (exo a (cAt X.K x) none)) dx (exd dx [(f, v)])) a (exo a (cAt X.K x) (some dx))) a) dx (.xd [(f, v)]) = upd H1 dx (.xd [(f, v)]) := by
      funext b
      by_cases h1 : b = dx
      · rw [h1, upd_same, upd_same]
      · rw [upd_ne h1, upd_ne h1]
        by_cases h2 : b = a
        · rw [h2, del_same, na]
        · rw [del_ne h2, upd_ne h2, upd_ne h1, upd_ne h2]
    rw [eH]
    have gr : Grow ι1 ι1 H1 (upd H1 dx (.xd [(f, v)])) := Grow.side nd'
    exact A1 ι1 _ (List.prefix_refl _) gr (S1.side nd') σ (some dx) [(f, v)] ((Rl.mono p1 g1).mono (List.prefix_refl _) gr) upd_same (.cons ⟨rfl, rv.mono (List.prefix_refl _) gr⟩ .nil)
end
end D
/-! D: try with several except clauses, with and without names. -/
namespace D
open PySem PySem.Spec PyProof.Rows
open L2 hiding XE Takes CX ps_raise mk_of pmk_own passAt takes_of passes_call MkP PMk ps_try_as ps_try_many
open L2N hiding St
abbrev HdT := Value × Option Nat × (Addr → Value → Option Addr → TS)
def dropN (i : Nat) (D : Ends) : Ends := { nx := fun σ' H' => D.nx (σ'.set i none) H', rt := D.rt, bk := fun σ' H' => D.bk (σ'.set i none) H', ct := fun σ' H' => D.ct (σ'.set i none) H' }
def wMix (K : PySem.W.Frag) (Wout : WX) (D : Ends) : List HdT → WX
  | [] => Wout
  | (c, none, ts) :: r => fun cls d σ H => ∃ b, PySem.W.exmOne K cls c = some b ∧ (b = true → ∀ a, H a = none → ts a cls d D σ H) ∧ (b = false → wMix K Wout D r cls d σ H)
  | (c, some i, ts) :: r => fun cls d σ H => ∃ b, PySem.W.exmOne K cls c = some b ∧ (b = true → ∀ a, H a = none → ts a cls d (dropN i D) (σ.set i (some (.ref a))) H) ∧ (b = false → wMix K Wout D r cls d σ H)
inductive HdsX (X : Cx) : List ExceptHandler → List HdT → Prop
  | nil : HdsX X [] []
  | cons {x : Str} {c : Value} {ts : Addr → Value → Option Addr → TS} {b₀ : Stmt} {suite : List Stmt} {np pos' : Pos} {hds : List ExceptHandler} {l : List HdT} (hc : Names X x c)
      (hsu : ∀ (a : Addr) (oe : Obj) (cls : Value) (d : Option Addr) (pn : List (Addr × Obj)), Zn cls d oe → (∃ vs, oe.data = .fields vs) → PSs (X.suite a ((a, oe) :: pn)) (b₀ :: suite) (ts a cls d)) (r : HdsX X hds l) :
      HdsX X (.ExceptHandler (some (.Name x np)) none (b₀ :: suite) pos' :: hds) ((c, none, ts) :: l)
  | consN {x n : Str} {i : Nat} {c : Value} {ts : Addr → Value → Option Addr → TS} {b₀ : Stmt} {suite : List Stmt} {np pos' : Pos} {hds : List ExceptHandler} {l : List HdT} (hN : X.N.Nodup) (hi : X.N[i]? = some n) (hln : X.env.kindOf n = some .local) (hc : Names X x c)
      (hsu : ∀ (a : Addr) (oe : Obj) (cls : Value) (d : Option Addr) (pn : List (Addr × Obj)), Zn cls d oe → (∃ vs, oe.data = .fields vs) → PSs (X.suite a ((a, oe) :: pn)) (b₀ :: suite) (ts a cls d)) (r : HdsX X hds l) :
      HdsX X (.ExceptHandler (some (.Name x np)) (some n) (b₀ :: suite) pos' :: hds) ((c, some i, ts) :: l)
section
variable {X : Cx} {B : Heap} {a : Addr} {cls : Value} {d : Option Addr} {pins : List (Addr × Obj)} {σ : St} {H : Hp} {sI z : Shared}
/-- an exception, at a, stands ahead of the clauses of a try of this frame -/
structure Came (X : Cx) (B : Heap) (a : Addr) (cls : Value) (d : Option Addr) (pins : List (Addr × Obj)) (σ : St) (H : Hp) (sI z : Shared) : Prop where
  inv0 : Inv X pins σ H sI
  ground : ∀ b o, sI.heap.get? b = some o → b ∉ frs X.stack → B.get? b = some o
  upto : sI.heap.UpToSlots z.heap
  out : H a = none
  outer : z.os = sI.os
  gens : AllBare z.gens
  flies : HandSPX.FlyingZ B X.stack a (Zn cls d) z.heap
theorem Came.go (c : Came X B a cls d pins σ H sI z) {h : Heap} (f : HandSPX.FlyingZ B X.stack a (Zn cls d) h) (u : z.heap.UpToSlots h) : Came X B a cls d pins σ H sI { z with heap := h } :=
  ⟨c.inv0, c.ground, c.upto.trans u, c.out, c.outer, c.gens, f⟩
theorem Came.inv (c : Came X B a cls d pins σ H sI z) : Inv X pins σ H z := c.inv0.landed c.ground c.flies.1 c.upto c.outer c.gens
theorem Came.obj (hs : X.stack = X.env :: X.outer) (hf : X.env.frame = some X.env.locals) (c : Came X B a cls d pins σ H sI z) :
    ∃ oe vs, z.heap.get? a = some oe ∧ Zn cls d oe ∧ oe.data = .fields vs ∧ Inv (X.suite a ((a, oe) :: (X.pn ++ pins))) [] σ H z := by
  obtain ⟨oe, vs, e1, e2, e3⟩ := c.flies.there
  have apart : a ∉ frs X.stack := fun q => by
    obtain ⟨_, o, e4, e5⟩ := c.flies.2.2.1.mem q
    have : oe = o := Option.some.inj (e1.symm.trans e4)
    exact e5 vs (this ▸ e3)
  rw [hs] at apart
  have l1 : a ≠ X.env.locals := by
    rintro rfl
    exact apart (List.mem_filterMap.mpr ⟨_, .head _, hf⟩)
  have l2 : a ∉ X.fs := fun q => by
    obtain ⟨v, v1, v2⟩ := List.mem_filterMap.mp q
    exact apart (List.mem_filterMap.mpr ⟨v, .tail _ v1, v2⟩)
  exact ⟨oe, vs, e1, e2, e3, c.inv.suite e1 e3 c.out l1 l2⟩
variable {body : List Stmt} {h₀ : ExceptHandler} {hds : List ExceptHandler} {l : List HdT} {pos : Pos} {tb : WX → TS} {Wout : WX} {D : Ends}
/-- no clause is left: it goes on -/
theorem Came.onward (hs : X.stack = X.env :: X.outer) (hf : X.env.frame = some X.env.locals) (tk : Takes X Wout) (c : Came X B a cls d pins σ H sI z) (w : Wout cls d σ H) :
    wpAny (model X.prog X.w) X.A (handleBy (.ref a) X.env []) (SP X pins D) X.xe z := by
  have last : wpAny (model X.prog X.w) X.A (setFlight (.ref a) X.env.frame) (fun _ y => wpAny (model X.prog X.w) X.A (throw (.ref a) : Sem Flow) (SP X pins D) X.xe y) X.xe z := by
    rw [hf]
    exact HandSPX.setFlight_upZ c.flies fun h f u => wpAny_throw (tk _ _ ⟨a, B, sI, pins, σ, H, cls, d, rfl, c.inv0, c.ground, c.upto.trans u, .inr (.inr f), c.out, c.outer, c.gens, w⟩)
  obtain ⟨_, _, _, oe, vs, T, _, _, e1, _, e2, e3, _⟩ := c.flies
  refine wpAny_handleBy_nil ?_
  unfold PySem.passOn
  refine wpAny_bind (wpAny_field e1 e2 e3 ?_)
  rw [if_neg (by simp : ¬ ((Value.ref T == Value.none) = true))]
  first
    | exact wpAny_bind (wpAny_pure (wpAny_bind last))
    | exact wpAny_bind last
/-- the class that a clause names, looked up while a is handled -/
theorem Came.named (hs : X.stack = X.env :: X.outer) (hf : X.env.frame = some X.env.locals) (c : Came X B a cls d pins σ H sI z) {x : Str} {v : Value} {np : Pos} {Q : Value → Shared → Prop} {E : Value → Shared → Prop} (n : Names X x v) (q : Q v z) :
    wpAny (model X.prog X.w) (X.A.mark (some (.ref a))) (eval (.Name x np) X.env) Q E z := by
  obtain ⟨oe, _, _, _, _, S⟩ := c.obj hs hf
  obtain ⟨g, db, m | ⟨m1, m2, m3⟩⟩ := n
  · exact ld_glob (X := X.suite a ((a, oe) :: (X.pn ++ pins))) S g m q db
  · exact ld_blt (X := X.suite a ((a, oe) :: (X.pn ++ pins))) S g m1 m2 q m3 db
theorem Came.asks (c : Came X B a cls d pins σ H sI z) {v : Value} {b : Bool} (e : PySem.W.exmOne X.K cls v = some b) : PySem.W.Looks (model X.prog X.w) z.heap (excMatches (.ref a) v) b :=
  PySem.W.exm_one c.inv.kIn (fun _ _ _ _ k q => by
    obtain ⟨_, _, e1, e2, _⟩ := c.flies.there
    exact wpAny_typeOf_ref (k _ _ e1) (by rw [e2.1]; exact q)) e
theorem sp_unsuite {q : Addr × Obj} {f : Flow} {D : Ends} (ok : X.Ok) (h : SP (X.suite a (q :: (X.pn ++ pins))) [] D f z) : SP X pins D f z := by
  cases f with
  | ret u => exact let ⟨v, s, h, i, r, p⟩ := h; ⟨v, s, h, i.unsuite ok, r, p⟩
  | next => exact let ⟨s, h, i, p⟩ := h; ⟨s, h, i.unsuite ok, p⟩
  | brk => exact let ⟨s, h, i, p⟩ := h; ⟨s, h, i.unsuite ok, p⟩
  | cont => exact let ⟨s, h, i, p⟩ := h; ⟨s, h, i.unsuite ok, p⟩
theorem sp_dropN {i : Nat} {n : Str} {q : Addr × Obj} {f : Flow} {D : Ends} {pos' : Pos} (ok : X.Ok) (hN : X.N.Nodup) (hi : X.N[i]? = some n) (hn : X.env.kindOf n = some .local) (h : SP (X.suite a (q :: (X.pn ++ pins))) [] (dropN i D) f z) :
    wpAny (model X.prog X.w) X.A (do bindName X.env n .none; unbindBehindTheSuite X.env n pos') (fun _ y => SP X pins D f y) X.xe z := by
  have all : ∀ {σ' : St} {H' : Hp} {Q : Shared → Prop}, Inv (X.suite a (q :: (X.pn ++ pins))) [] σ' H' z → (∀ y, Inv X pins (σ'.set i none) H' y → Q y) → wpAny (model X.prog X.w) X.A (do bindName X.env n .none; unbindBehindTheSuite X.env n pos') (fun _ y => Q y) X.xe z :=
    fun J k => gone_ok (J.unsuite ok) hN hi hn k
  cases f with
  | ret u => exact let ⟨v, s, h, i, r, p⟩ := h; all i fun y j => ⟨v, _, h, j, r, p⟩
  | next => exact let ⟨s, h, i, p⟩ := h; all i fun y j => ⟨_, h, j, p⟩
  | brk => exact let ⟨s, h, i, p⟩ := h; all i fun y j => ⟨_, h, j, p⟩
  | cont => exact let ⟨s, h, i, p⟩ := h; all i fun y j => ⟨_, h, j, p⟩
/-- the clauses, one behind the other -/
theorem Came.clauses (hs : X.stack = X.env :: X.outer) (hf : X.env.frame = some X.env.locals) (tk : Takes X Wout) (c : Came X B a cls d pins σ H sI z) {hd : List ExceptHandler} {l : List HdT} (k : HdsX X hd l) (w : wMix X.K Wout D l cls d σ H) :
    wpAny (model X.prog X.w) X.A (handleBy (.ref a) X.env hd) (SP X pins D) X.xe z := by
  have ok := c.inv0.ok
  induction k with
  | nil => exact c.onward hs hf tk w
  | cons n su _ ih =>
    obtain ⟨b, e, yes, no⟩ := w
    refine wpAny_handleBy_cons (codeAny_handlers_test (c.named hs hf n ((c.asks e).here ?_))) nofun
    cases b
    · exact ih (no rfl)
    · refine codeAny_handlers_suite (HandSPX.lands_againZ c.flies fun h f u => ?_)
      obtain ⟨oe, vs, _, z2, z3, S⟩ := (c.go f u).obj hs hf
      exact wpAny_mono ((su a oe cls d _ z2 ⟨vs, z3⟩).run [] _ σ H D S (yes rfl a c.out)) (fun fl y p => sp_unsuite ok p) (fun _ _ q => False.elim q)
  | @consN _ nn i _ _ _ _ _ _ _ _ hN hi hn n su _ ih =>
    obtain ⟨b, e, yes, no⟩ := w
    refine wpAny_handleBy_cons (codeAny_handlers_test (c.named hs hf n ((c.asks e).here ?_))) nofun
    cases b
    · exact ih (no rfl)
    · refine codeAny_handlers_suite_as (HandSPX.lands_againZ c.flies fun h f u => ?_)
      obtain ⟨oe, vs, _, z2, z3, S⟩ := (c.go f u).obj hs hf
      refine store_ok (X := X.suite a ((a, oe) :: (X.pn ++ pins))) (v := .ref a) S hN hi (.inl hn) rfl (fun y J => ?_) (.inr hn)
      exact wpAny_mono ((su a oe cls d _ z2 ⟨vs, z3⟩).run [] y _ H _ J (yes rfl a c.out)) (fun fl y p => sp_dropN ok hN hi hn p) (fun _ _ q => False.elim q)
theorem ps_try_mix (hs : X.stack = X.env :: X.outer) (hf : X.env.frame = some X.env.locals) (tk : Takes X Wout)
    (hb : ∀ (W : WX) (pn : List (Addr × Obj)) (xe : Value → Shared → Prop), Takes (X.tr pn xe) W → PassesOwn (model X.prog X.w) X.A X.env xe → PSs (X.tr pn xe) body (tb W))
    (hh : HdsX X (h₀ :: hds) l) : PS X (.Try body (h₀ :: hds) [] [] pos) (fun D σ H => tb (wMix X.K Wout D l) D σ H) := by
  refine ⟨fun pins s σ H D I t => wpAny_Try_except ?_⟩
  have ok := I.ok
  have caught : ∀ u y, XE (X.tr (X.pn ++ pins) X.xe) (wMix X.K Wout D l) u y → wpAny (model X.prog X.w) X.A (noteFrame u X.env) (fun _ y1 => wpAny (model X.prog X.w) X.A (setFlight u none) (fun _ y2 =>
      wpAny (model X.prog X.w) X.A (handleBy u X.env (h₀ :: hds)) (SP X pins D) X.xe y2) X.xe y1) X.xe y := by
    rintro u y ⟨a, B, sI, p2, σ', H', cls, d, rfl, J, g, up, sky, out, os, ag, w⟩
    have sky : Sky B (X.env :: X.outer) a (Zn cls d) X.env.locals y.heap := hs ▸ sky
    refine Sky.land Zn.steady (by rw [ok.frames, hs]) hf sky fun h f u => ?_
    exact Came.clauses (z := { y with heap := h }) hs hf tk ⟨J.ofTry ok, g, up.trans u, out, os, ag, hs ▸ f⟩ hh w
  refine wpAny_mono ((hb (wMix X.K Wout D l) (X.pn ++ pins)
    (fun u y => wpAny (model X.prog X.w) X.A (noteFrame u X.env) (fun _ y1 => wpAny (model X.prog X.w) X.A (setFlight u none) (fun _ y2 => wpAny (model X.prog X.w) X.A (handleBy u X.env (h₀ :: hds)) (SP X pins D) X.xe y2) X.xe y1) X.xe y)
    (fun u y x => caught u y ?_) PassesOwn.looking).run [] s σ H D (I.toTry _) t) (fun fl y p => ?_) (fun _ _ q => q)
  · obtain ⟨a, B, sI, p2, σ', H', cls, d, e, J, r⟩ := x
    exact ⟨a, B, sI, p2, σ', H', cls, d, e, ⟨J.ok.toTry _ _, J.os, J.bare, J.base, J.loc, J.cell, J.free, J.freeC, J.pin, J.hok, J.len⟩, r⟩
  · cases fl with
    | ret u => exact let ⟨v, s, h, i, r, q⟩ := p; ⟨v, s, h, i.ofTry ok, r, q⟩
    | next => exact let ⟨s, h, i, q⟩ := p; wpAny_execs_nil ⟨s, h, i.ofTry ok, q⟩
    | brk => exact let ⟨s, h, i, q⟩ := p; ⟨s, h, i.ofTry ok, q⟩
    | cont => exact let ⟨s, h, i, q⟩ := p; ⟨s, h, i.ofTry ok, q⟩
end
/-! ### computed -/
structure Hd where
  D : Str
  ix : Option Nat
  m : Str → List (Str × W) → MS
/-- is the class C one below D? (xs: the heirs of the base B) -/
def isX (B : Str) (xs : List Str) (C D : Str) : Option Bool := if C ∈ xs ∧ (D ∈ xs ∨ D = B) then some (decide (C = D) || decide (D = B)) else none
def endN (i : Option Nat) : Rs (Fl × Sl) → Rs (Fl × Sl)
  | .ok (.ret w, s) h => .ok (.ret w, s) h
  | .ok (f, s) h => .ok (f, match i with
    | some i => s.set i none
    | none => s) h
  | _ => .bad
def putN (i : Option Nat) (s : Sl) : Sl := match i with
  | some i => s.set i none
  | none => s
def goH (B : Str) (xs : List Str) : List Hd → Str → List (Str × W) → MS
  | [], C, fs => fun s h => .exc C fs s h
  | hd :: r, C, fs => fun s h => match isX B xs C hd.D with
    | some true => endN hd.ix (hd.m C fs (putN hd.ix s) h)
    | some false => goH B xs r C fs s h
    | none => .bad
def sTry (B : Str) (xs : List Str) (b : MS) (hs : List Hd) : MS := fun s h => match b s h with
  | .exc C fs s1 h1 => goH B xs hs C fs s1 h1
  | r => r
/-- the classes and what except clauses ask of them -/
structure ExT (K : PySem.W.Frag) (mg : Str → Option Value) (B : Str) (xs : List Str) (D : Str) : Prop where
  g : mg D = some (.ref (cAt K D))
  is : ∀ C ∈ xs, PySem.W.exmOne K (.ref (cAt K C)) (.ref (cAt K D)) = some (decide (C = D) || decide (D = B))
section
variable {X : Cx} {Wx : WJ}
def exI (ix : Option Nat) (a : Addr) (d : Option Addr) (C : Str) (fs : List (Str × W)) (gs : List (Str × V)) (J : Option EX) : Option EX := match ix with
  | some i => some ⟨i, a, d, C, fs, gs⟩
  | none => none
def tsH (K : PySem.W.Frag) (hd : Hd) : Addr → Value → Option Addr → TS := fun a cls d D σ H => ∃ C fs gs, cls = .ref (cAt K C) ∧ tDS K ⟨fun _ _ _ _ => False, exI hd.ix a d C fs gs none⟩ (hd.m C fs) D σ H
inductive HdsD (X : Cx) (B : Str) (xs : List Str) : List ExceptHandler → List Hd → Prop
  | nil : HdsD X B xs [] []
  | cons {hd : Hd} {b₀ : Stmt} {suite : List Stmt} {np pos' : Pos} {hds : List ExceptHandler} {l : List Hd} (hn : hd.ix = none) (hg : Gl X hd.D) (hdb : (hd.D == ("__debug__" : Str)) = false) (hx : hd.D ∈ xs ∨ hd.D = B) (ht : ExT X.K X.mg B xs hd.D)
      (hsu : ∀ (a : Addr) (oe : Obj) (C : Str) (fs : List (Str × W)) (gs : List (Str × V)) (d : Option Addr) (pn : List (Addr × Obj)), Zn (.ref (cAt X.K C)) d oe → (∃ vs, oe.data = .fields vs) → DSs (X.suite a ((a, oe) :: pn)) ⟨fun _ _ _ _ => False, none⟩ (b₀ :: suite) (hd.m C fs)) (r : HdsD X B xs hds l) :
      HdsD X B xs (.ExceptHandler (some (.Name hd.D np)) none (b₀ :: suite) pos' :: hds) (hd :: l)
  | consN {hd : Hd} {n : Str} {i : Nat} {b₀ : Stmt} {suite : List Stmt} {np pos' : Pos} {hds : List ExceptHandler} {l : List Hd} (hn : hd.ix = some i) (hN : X.N.Nodup) (hi : X.N[i]? = some n) (hln : X.env.kindOf n = some .local) (hg : Gl X hd.D) (hdb : (hd.D == ("__debug__" : Str)) = false) (hx : hd.D ∈ xs ∨ hd.D = B) (ht : ExT X.K X.mg B xs hd.D)
      (hsu : ∀ (a : Addr) (oe : Obj) (C : Str) (fs : List (Str × W)) (gs : List (Str × V)) (d : Option Addr) (pn : List (Addr × Obj)), Zn (.ref (cAt X.K C)) d oe → (∃ vs, oe.data = .fields vs) → DSs (X.suite a ((a, oe) :: pn)) ⟨fun _ _ _ _ => False, some ⟨i, a, d, C, fs, gs⟩⟩ (b₀ :: suite) (hd.m C fs)) (r : HdsD X B xs hds l) :
      HdsD X B xs (.ExceptHandler (some (.Name hd.D np)) (some n) (b₀ :: suite) pos' :: hds) (hd :: l)
theorem HdsD.x {B : Str} {xs : List Str} {hds : List ExceptHandler} {l : List Hd} (h : HdsD X B xs hds l) : HdsX X hds (l.map fun hd => (Value.ref (cAt X.K hd.D), hd.ix, tsH X.K hd)) := by
  induction h with
  | nil => exact .nil
  | @cons hd b₀ suite np pos' hds l hn hg hdb hx ht hsu r ih =>
    rw [List.map_cons, hn]
    refine .cons ⟨hg, hdb, .inl ht.g⟩ (fun a oe cls d pn z f => ⟨fun pins s σ H D I q => ?_⟩) ih
    obtain ⟨C, fs, gs, rfl, q⟩ := q
    rw [hn] at q
    exact (hsu a oe C fs gs d pn z f).run pins s σ H D I q
  | @consN hd n i b₀ suite np pos' hds l hn hN hi hln hg hdb hx ht hsu r ih =>
    rw [List.map_cons, hn]
    refine .consN hN hi hln ⟨hg, hdb, .inl ht.g⟩ (fun a oe cls d pn z f => ⟨fun pins s σ H D I q => ?_⟩) ih
    obtain ⟨C, fs, gs, rfl, q⟩ := q
    rw [hn] at q
    exact (hsu a oe C fs gs d pn z f).run pins s σ H D I q
theorem RSl.holds {K : PySem.W.Frag} {J : Option EX} {ι : List Addr} {H : Hp} {s : Sl} {σ : St} (r : RSl K J ι H s σ) {i : Nat} {a : Addr} {d : Option Addr} {C : Str} {fs : List (Str × W)} {gs : List (Str × V)} (hd : XD H d gs) (rf : RF K ι H fs gs) :
    RSl K (some ⟨i, a, d, C, fs, gs⟩) ι H (s.set i none) (σ.set i (some (.ref a))) := by
  refine ⟨by simp [r.1], fun j w e => ?_, fun x e => ?_⟩
  · by_cases hj : i = j
    · subst hj
      by_cases hl : i < s.length
      · rw [List.getElem?_set_self hl] at e; cases e
      · rw [List.getElem?_eq_none (by simpa using hl)] at e; cases e
    · rw [List.getElem?_set_ne hj] at e
      obtain ⟨v, e1, q⟩ := r.2.1 j w e
      exact ⟨v, by rw [List.getElem?_set_ne hj]; exact e1, q⟩
  · cases e
    refine ⟨fun e => ?_, hd, rf⟩
    have hl : i < s.length := by
      have := (List.getElem?_eq_some_iff.mp e).1; simpa using this
    show (σ.set i _)[i]? = _
    rw [List.getElem?_set_self (by rw [← r.1]; exact hl)]
theorem RSl.lets {K : PySem.W.Frag} {J J' : Option EX} {ι : List Addr} {H : Hp} {s : Sl} {σ : St} (r : RSl K J ι H s σ) (i : Nat) : RSl K none ι H (s.set i none) (σ.set i none) := by
  refine ⟨by simp [r.1], fun j w e => ?_, fun _ e => nomatch e⟩
  by_cases hj : i = j
  · subst hj
    by_cases hl : i < s.length
    · rw [List.getElem?_set_self hl] at e; cases e
    · rw [List.getElem?_eq_none (by simpa using hl)] at e; cases e
  · rw [List.getElem?_set_ne hj] at e
    obtain ⟨v, e1, q⟩ := r.2.1 j w e
    exact ⟨v, by rw [List.getElem?_set_ne hj]; exact e1, q⟩
theorem ds_try {B : Str} {xs : List Str} {body : List Stmt} {h₀ : ExceptHandler} {hds : List ExceptHandler} {l : List Hd} {pos : Pos} {b : MS} (hJ : Wx.J = none) (hs : X.stack = X.env :: X.outer) (hf : X.env.frame = some X.env.locals) (tk : Takes X Wx.W)
    (hb : ∀ (W : WX) (pn : List (Addr × Obj)) (xe : Value → Shared → Prop), Takes (X.tr pn xe) W → PassesOwn (model X.prog X.w) X.A X.env xe → DSs (X.tr pn xe) ⟨W, none⟩ body b)
    (hh : HdsD X B xs (h₀ :: hds) l) : DS X Wx (.Try body (h₀ :: hds) [] [] pos) (sTry B xs b l) := by
  obtain ⟨Wo, J⟩ := Wx
  cases hJ
  refine (ps_try_mix (tb := fun W => tDS X.K ⟨W, none⟩ b) hs hf tk (fun W pn xe t p => hb W pn xe t p) hh.x).imp fun D σ H z => ?_
  obtain ⟨ι, s, h, S, R, A⟩ := z
  refine ⟨ι, s, h, S, R, ?_⟩
  unfold sTry at A
  cases e : b s h with
  | bad => rw [e] at A; exact A.elim
  | ok r h1 => rw [e] at A; exact A
  | exc C fs s1 h1 =>
    rw [e] at A
    replace A : After X.K ι H (okS X.K none D) (exS X.K ⟨Wo, none⟩) (goH B xs l C fs s1 h1) := A
    intro ι' H' p g S' σ' d gs R' hd rf
    replace A := A.le p g
    replace R' : RSl X.K none ι' H' s1 σ' := R'
    clear e
    revert A
    generalize h₀ :: hds = hl at hh
    intro A
    induction hh with
    | nil => exact A ι' H' (List.prefix_refl _) Grow.refl S' σ' d gs R' hd rf
    | @cons hd' b₀ suite np pos' hds l hn hg hdb hx ht hsu r ih =>
      rw [List.map_cons, hn]
      unfold goH at A
      split at A
      · rename_i ei
        unfold isX at ei
        split at ei
        · rename_i c
          refine ⟨true, by rw [ht.is C c.1]; exact ei, fun _ a na => ⟨C, fs, gs, rfl, ι', s1, h1, S', ?_, ?_⟩, fun z => nomatch z⟩
          · rw [hn]; exact R'
          · rw [hn] at A
            revert A
            show After X.K ι' H' (okS X.K none D) (exS X.K ⟨Wo, none⟩) (endN none (hd'.m C fs s1 h1)) → After X.K ι' H' (okS X.K (exI hd'.ix a d C fs gs none) D) _ (hd'.m C fs s1 h1)
            rw [hn]
            cases hd'.m C fs s1 h1 with
            | bad => exact fun z => z
            | exc => exact fun z => z.elim
            | ok q h2 =>
              obtain ⟨f, s2⟩ := q
              cases f <;> exact fun z => z
        · cases ei
      · rename_i ei
        unfold isX at ei
        split at ei
        · rename_i c
          exact ⟨false, by rw [ht.is C c.1]; exact ei, (fun z => nomatch z), fun _ => ih A⟩
        · cases ei
      · exact A.elim
    | @consN hd' n i b₀ suite np pos' hds l hn hN hi hln hg hdb hx ht hsu r ih =>
      rw [List.map_cons, hn]
      unfold goH at A
      split at A
      · rename_i ei
        unfold isX at ei
        split at ei
        · rename_i c
          refine ⟨true, by rw [ht.is C c.1]; exact ei, fun _ a na => ⟨C, fs, gs, rfl, ι', s1.set i none, h1, S', ?_, ?_⟩, fun z => nomatch z⟩
          · rw [hn]; exact R'.holds hd rf
          · rw [hn] at A
            revert A
            show After X.K ι' H' (okS X.K none D) (exS X.K ⟨Wo, none⟩) (endN (some i) (hd'.m C fs (s1.set i none) h1)) → After X.K ι' H' (okS X.K (exI hd'.ix a d C fs gs none) (dropN i D)) _ (hd'.m C fs (s1.set i none) h1)
            rw [hn]
            cases hd'.m C fs (s1.set i none) h1 with
            | bad => exact fun z => z
            | exc => exact fun z => z.elim
            | ok q h2 =>
              obtain ⟨f, s2⟩ := q
              cases f with
              | ret w => exact fun z => z
              | nx => exact fun z ι2 H2 p2 g2 S2 σ2 R2 => z ι2 H2 p2 g2 S2 (σ2.set i none) (R2.lets (J' := none) i)
              | brk => exact fun z ι2 H2 p2 g2 S2 σ2 R2 => z ι2 H2 p2 g2 S2 (σ2.set i none) (R2.lets (J' := none) i)
              | cnt => exact fun z ι2 H2 p2 g2 S2 σ2 R2 => z ι2 H2 p2 g2 S2 (σ2.set i none) (R2.lets (J' := none) i)
        · cases ei
      · rename_i ei
        unfold isX at ei
        split at ei
        · rename_i c
          exact ⟨false, by rw [ht.is C c.1]; exact ei, (fun z => nomatch z), fun _ => ih A⟩
        · cases ei
      · exact A.elim
/-- e.f, e the exception that the suite holds -/
def isHid (s : Sl) (i : Nat) : Bool := match s[i]? with
  | some none => true
  | _ => false
theorem isHid_at {s : Sl} {i : Nat} (h : isHid s i = true) : s[i]? = some none := by
  unfold isHid at h
  split at h
  · assumption
  · cases h
@[simp] def mXf (xs : List Str) (i : Nat) (C : Str) (fs : List (Str × W)) (f : Str) : ME := fun s h => if C ∈ xs ∧ isHid s i = true then match fs.lookup f with
    | some w => .ok w h
    | none => .bad
  else .bad
structure ExF (K : PySem.W.Frag) (C f : Str) : Prop where
  T : XfC K (cAt K C)
  no : PySem.W.findIn K (.ref (cAt K C)) f = some none
theorem RF.look {K : PySem.W.Frag} {ι : List Addr} {H : Hp} {f : Str} {w : W} : ∀ {fs : List (Str × W)} {gs : List (Str × V)}, RF K ι H fs gs → fs.lookup f = some w → ∃ v, gs.lookup f = some v ∧ RW K ι H w v
  | [], _, .nil, e => by cases e
  | (x, u) :: fs, (y, v) :: gs, .cons ⟨e1, r⟩ t, e => by
    cases e1
    simp only [List.lookup] at e ⊢
    split at e
    · rename_i q
      cases e
      exact ⟨v, rfl, r⟩
    · rename_i q
      exact RF.look t e
theorem de_xf {xs : List Str} {i : Nat} {a : Addr} {d : Option Addr} {oe : Obj} {pn : List (Addr × Obj)} {C f n : Str} {fs : List (Str × W)} {gs : List (Str × V)} {W : WX} {pos p : Pos} (T : ∀ C ∈ xs, ExF X.K C f) (hz : Zn (.ref (cAt X.K C)) d oe) (hf : ∃ vs, oe.data = .fields vs)
    (hN : X.N[i]? = some n) (hv : Vis X.env.scope n) (hd : (n == ("__debug__" : Str)) = false := by decide) (hcd : (n == ("__classdict__" : Str)) = false := by decide) (hb : attributeBase (.Name n p) f X.env (eval (.Name n p) X.env) = eval (.Name n p) X.env := by rfl) :
    DE (X.suite a ((a, oe) :: pn)) ⟨W, some ⟨i, a, d, C, fs, gs⟩⟩ (.Attribute (.Name n p) f pos) (mXf xs i C fs f) := by
  by_cases hx : C ∈ xs
  · refine (pe_xf (T C hx).T (T C hx).no hz.zc hf (pe_var (X := X.suite a ((a, oe) :: pn)) hN hv hd hcd) hb).imp fun σ H Q ⟨ι, s, h, S, R, A⟩ => ?_
    unfold mXf at A
    split at A
    · rename_i c
      split at A
      · rename_i w ew
        obtain ⟨h1, h2, h3⟩ := R.2.2 _ rfl
        obtain ⟨v, lv, rv⟩ := RF.look h3 ew
        match d, h2 with
        | some d, h2 => exact ⟨_, h1 (isHid_at c.2), rfl, rfl, d, gs, v, rfl, h2, lv, A.now S v rv⟩
        | none, h2 =>
          replace h2 : gs = [] := h2
          subst h2
          cases lv
      · exact A.elim
    · exact A.elim
  · refine ⟨fun pins s σ H Q I ⟨ι, sl, h, S, R, A⟩ => ?_⟩
    unfold mXf at A
    rw [if_neg (fun z => hx z.1)] at A
    exact A.elim
end
end D
namespace D
open PySem
def AllIn {α : Type} (P : α → Prop) : List α → Prop
  | [] => True
  | x :: r => P x ∧ AllIn P r
theorem all_in {α : Type} {P : α → Prop} : ∀ {xs : List α}, AllIn P xs → ∀ x ∈ xs, P x
  | [], _, x, h => by cases h
  | y :: r, a, x, h => by
    rcases List.mem_cons.mp h with e | h
    · rw [e]; exact a.1
    · exact all_in a.2 x h
end D
/-! D: dicts with whole numbers and texts as keys: {}, dict([(k, v)]), written out. -/
namespace D
open PySem PySem.Spec PyProof.Rows L2
@[simp] def mDict0 : ME := fun _ h => .ok (.ref h.length) (h ++ [.dK []])
section
variable {X : Cx} {Wx : WJ} {pos : Pos}
theorem new_dK {K : PySem.W.Frag} {ι : List Addr} {H : Hp} {h : HH} {xs : List (Key × W)} {ys : List (Key × V)} {Q : VK} {Ex : ExK} (S : Sim K ι h H) (r : RK K ι H xs ys) (A : After K ι H (okV K Q) Ex (.ok (.ref h.length) (h ++ [.dK xs]))) {p : Addr} (hp : H p = none) :
    Q (.ref p) (upd H p (.dK ys)) :=
  A (ι ++ [p]) _ pre_snoc (Grow.new hp) (S.new hp ⟨ys, upd_same, r.mono pre_snoc (Grow.new hp)⟩) _ (.ref (getElem?_last S.len))
theorem de_dict0 : DE X Wx (.Dict [] [] pos) mDict0 := pe_dnewK.imp fun σ H Q ⟨ι, s, h, S, R, A⟩ p hp => new_dK S .nil A hp
def kW : W → Option Key
  | .int i => some (.inl i)
  | .str x => some (.inr x)
  | _ => none
theorem kW_at {K : PySem.W.Frag} {ι : List Addr} {H : Hp} {w : W} {v : V} {k : Key} (r : RW K ι H w v) (e : kW w = some k) : v = kV k := by
  cases r <;> simp [kW] at e <;> subst e <;> rfl
/-- dict([(k, v)]) -/
def gDict1 : List W → HH → Rs W
  | [w], h => match lstW h w with
    | some [.tup [a, b]] => match kW a with
      | some k => .ok (.ref h.length) (h ++ [.dK [(k, b)]])
      | none => .bad
    | _ => .bad
  | _, _ => .bad
theorem dc_dict1 (hc : X.calm = true) : DC X (.type "dict") gDict1 := fun pins s σ H vs us Q I rx ⟨ι, h, ws, S, r, A⟩ => by
  unfold gDict1 at A
  split at A
  · rename_i w
    obtain ⟨v, rfl, rv⟩ := rws1 r
    split at A
    · rename_i a b e
      split at A
      · rename_i k ek
        obtain ⟨ad, ys, rfl, q, rs⟩ := lst_at S rv e
        cases rs with
        | cons r1 rs =>
        cases rs
        cases r1 with
        | @tup p _ zs tq rz =>
        cases rz with
        | cons ra rz =>
        cases rz with
        | cons rb rz =>
        cases rz
        obtain rfl := kW_at ra ek
        refine call_dictP hc pins s σ H _ us Q I rx ⟨ad, [p], [(k, _)], rfl, q, .cons tq.sq .nil, fun p' hp => ?_⟩
        exact new_dK S (.cons ⟨rfl, rb⟩ .nil) A hp
      · exact A.elim
    · exact A.elim
  · exact A.elim
end
/-! ### data with dicts -/
def keyD : Key → PyData
  | .inl i => .int i
  | .inr x => .str x
def datR (h : HH) : Nat → W → Option PyData
  | _, .non => some .none
  | _, .bl b => some (.bool b)
  | _, .int i => some (.int i)
  | _, .str x => some (.str x)
  | n + 1, .tup xs => match optAll (xs.map (datR h n)) with
    | some ds => some (.tuple ds)
    | none => none
  | n + 1, .fl xs => match optAll (xs.map (datR h n)) with
    | some ds => some (.list ds)
    | none => none
  | n + 1, .ref i => match h[i]? with
    | some (.lst xs) => match optAll (xs.map (datR h n)) with
      | some ds => some (.list ds)
      | none => none
    | some (.dK kvs) => match optAll (kvs.map fun p => datR h n p.2) with
      | some ds => some (.dict ((kvs.map fun p => keyD p.1).zip ds))
      | none => none
    | _ => none
  | _, _ => none
theorem datR_of {h : HH} : ∀ (n : Nat) (w : W) (d : PyData), datW h n w = some d → datR h n w = some d := by
  intro n
  induction n with
  | zero => intro w d e; cases w <;> simp [datW] at e <;> simp [datR, e]
  | succ n ih =>
    have all : ∀ (xs : List W) (ds : List PyData), optAll (xs.map (datW h n)) = some ds → optAll (xs.map (datR h n)) = some ds := by
      intro xs
      induction xs with
      | nil => intro ds e; exact e
      | cons x xs ih2 =>
        intro ds e
        obtain ⟨d, t, e1, e2, rfl⟩ := optAll_cons (a := datW h n x) (r := xs.map (datW h n)) e
        simp only [List.map_cons, optAll, ih _ _ e1, ih2 _ e2]
    intro w d e
    cases w with
    | tup xs =>
      simp only [datW] at e
      split at e
      · rename_i ds e1; cases e; simp only [datR, all _ _ e1]
      · cases e
    | fl xs =>
      simp only [datW] at e
      split at e
      · rename_i ds e1; cases e; simp only [datR, all _ _ e1]
      · cases e
    | ref i =>
      simp only [datW] at e
      split at e
      · rename_i xs hx
        split at e
        · rename_i ds e1; cases e; simp only [datR, hx, all _ _ e1]
        · cases e
      · cases e
    | _ => simp [datW] at e <;> simp [datR, e]
section
variable {X : Cx} {pins : List (Addr × Obj)} {σ : St} {H : Hp} {s : Shared} {ι : List Addr} {h : HH}
/-- the table of the modules stands where no object of a def does -/
structure Low (H : Hp) (s : Shared) : Prop where
  out : H sysModules = none
  dict : ∀ o, s.heap.get? sysModules = some o → ∀ vs n, o.data ≠ .seq vs n
theorem low_of (B : ∃ mm, X.base.Ns sysModules mm) (I : Inv X pins σ H s) : Low H s := by
  obtain ⟨mm, o, es, ep, e, d, _⟩ := B
  obtain ⟨e1, e2⟩ := I.bs _ _ e
  refine ⟨e2, fun o' q vs n z => ?_⟩
  rw [e1] at q
  cases q
  rw [d] at z
  cases z
theorem Low.ne (L : Low H s) {a : Addr} {o : Obj} {vs : Array Value} {n : Nat} (e : s.heap.get? a = some o) (d : o.data = .seq vs n) : a ≠ sysModules := fun q => L.dict o (q ▸ e) vs n d
theorem datR_reads (L : Low H s) (I : Inv X pins σ H s) (S : Sim X.K ι h H) : ∀ (n : Nat) (w : W) (v : V) (u : Value) (d : PyData), RW X.K ι H w v → RelV v u → datR h n w = some d → ∃ as, Reads s.heap u d as ∧ sysModules ∉ as := by
  intro n
  induction n with
  | zero =>
    intro w v u d r ru e
    cases r <;> simp [datR] at e <;> subst e
    · cases ru; exact ⟨_, .none, by simp⟩
    · cases ru; exact ⟨_, .bool _, by simp⟩
    · obtain ⟨t, rfl⟩ := ru; exact ⟨_, .int _ t, by simp⟩
    · obtain ⟨t, rfl⟩ := ru; exact ⟨_, .str _ t, by simp⟩
  | succ n ih =>
    have all : ∀ (ws : List W) (vs : List V) (us : List Value) (ds : List PyData), RWs X.K ι H ws vs → Vals vs us → optAll (ws.map (datR h n)) = some ds → ∃ as, ReadsAll s.heap us ds as ∧ sysModules ∉ as := by
      intro ws
      induction ws with
      | nil => intro vs us ds r ru e; cases r; cases ru; cases e; exact ⟨_, .nil, by simp⟩
      | cons w ws ih2 =>
        intro vs us ds r ru e
        cases r with
        | cons r1 r2 =>
        cases ru with
        | cons u1 u2 =>
        obtain ⟨d, t, e1, e2, rfl⟩ := optAll_cons (a := datR h n w) (r := ws.map (datR h n)) e
        obtain ⟨as, q1, n1⟩ := ih _ _ _ _ r1 u1 e1
        obtain ⟨bs, q2, n2⟩ := ih2 _ _ _ r2 u2 e2
        exact ⟨_, .cons q1 q2, by simp [n1, n2]⟩
    have prs : ∀ (ks : List (Key × W)) (gs : List (Key × V)) (vs : List (Key × Value)) (es : List DictEntry) (ds : List PyData), RK X.K ι H ks gs → KV gs vs → PySem.Pairs (mixKind X.prog X.w) es vs → optAll (ks.map fun p => datR h n p.2) = some ds →
        (∃ as, ReadsAll s.heap (es.map (·.key)) (((ks.map fun p => keyD p.1).zip ds).map (·.1)) as ∧ sysModules ∉ as) ∧ ∃ bs, ReadsAll s.heap (es.map (·.val)) (((ks.map fun p => keyD p.1).zip ds).map (·.2)) bs ∧ sysModules ∉ bs := by
      intro ks
      induction ks with
      | nil =>
        intro gs vs es ds r k p e
        cases r; cases k; cases p; cases e
        exact ⟨⟨_, .nil, by simp⟩, ⟨_, .nil, by simp⟩⟩
      | cons a ks ih2 =>
        intro gs vs es ds r k p e
        obtain ⟨ka, wa⟩ := a
        cases r with
        | cons r1 r2 =>
        cases k with
        | cons k1 k2 =>
        cases p with
        | @cons e0 _ _ _ p1 p2 p3 =>
        obtain ⟨d, t, e1, e2, rfl⟩ := optAll_cons (show optAll (datR h n wa :: ks.map fun p => datR h n p.2) = some ds from e)
        obtain ⟨⟨as, q1, n1⟩, ⟨bs, q2, n2⟩⟩ := ih2 _ _ _ _ r2 k2 p3 e2
        obtain ⟨cs, q3, n3⟩ := ih _ _ _ _ r1.2 k1.2 e1
        have hk := r1.1.trans k1.1
        rw [← hk] at p1
        have p1' := p1
        rw [← p2] at q3
        refine ⟨?_, ⟨_, .cons q3 q2, by simp [n2, n3]⟩⟩
        rcases keyIs_shape (k := ka) p1' with ⟨i, t', rfl, ev⟩ | ⟨x, t', rfl, ev⟩
        · have q : Reads s.heap e0.key (keyD (Sum.inl i)) [] := by rw [ev]; exact Reads.int i t'
          exact ⟨_, .cons q q1, by simpa using n1⟩
        · have q : Reads s.heap e0.key (keyD (Sum.inr x)) [] := by rw [ev]; exact Reads.str x t'
          exact ⟨_, .cons q q1, by simpa using n1⟩
    intro w v u d r ru e
    cases r with
    | non => cases e; cases ru; exact ⟨_, .none, by simp⟩
    | bl b => cases e; cases ru; exact ⟨_, .bool _, by simp⟩
    | int b => cases e; obtain ⟨t, rfl⟩ := ru; exact ⟨_, .int _ t, by simp⟩
    | str b => cases e; obtain ⟨t, rfl⟩ := ru; exact ⟨_, .str _ t, by simp⟩
    | ty b => cases e
    | gl b => cases e
    | exv _ _ => cases e
    | tup hs rs =>
      simp only [datR] at e
      split at e
      · rename_i ds e1
        cases e; cases ru
        obtain ⟨its, rv, ⟨o, ho, hc, m, hd⟩, _⟩ := I.tuple hs.sq
        obtain ⟨as, q, nq⟩ := all _ _ _ _ rs rv e1
        exact ⟨_, .tuple ho hc hd q, nq⟩
      · cases e
    | fl hs rs =>
      simp only [datR] at e
      split at e
      · rename_i ds e1
        cases e; cases ru
        obtain ⟨its, rv, ⟨o, m, ho, hc, _, hd⟩, _⟩ := I.list hs.sq
        obtain ⟨as, q, nq⟩ := all _ _ _ _ rs rv e1
        exact ⟨_, .list ho hc hd q, by simp [nq, Ne.symm (L.ne ho hd)]⟩
      · cases e
    | @ref i a ha =>
      simp only [datR] at e
      split at e
      · rename_i xs hx
        split at e
        · rename_i ds e1
          cases e; cases ru
          obtain ⟨b, hb, ys, hl, rs⟩ := S.at hx
          rw [ha] at hb; cases hb
          obtain ⟨its, rv, ⟨o, m, ho, hc, _, hd⟩, _⟩ := I.list (SqL.of hl)
          obtain ⟨as, q, nq⟩ := all _ _ _ _ rs rv e1
          exact ⟨_, .list ho hc hd q, by simp [nq, Ne.symm (L.ne ho hd)]⟩
        · cases e
      · rename_i kvs hx
        split at e
        · rename_i ds e1
          cases e; cases ru
          obtain ⟨b, hb, gs, hl, rs⟩ := S.at hx
          rw [ha] at hb; cases hb
          obtain ⟨_, hsm, vs, kv, o, es, ep, ho, hc, hd, _, ps, _⟩ := dk_of I.hok hl
          obtain ⟨⟨as, q1, n1⟩, ⟨bs, q2, n2⟩⟩ := prs _ _ _ _ _ rs kv ps e1
          have na : a ≠ sysModules := by simpa using hsm
          exact ⟨_, .dict ho hc.1 hd q1 q2, by simp [n1, n2, Ne.symm na]⟩
        · cases e
      · cases e
end
/-- what repr may write: digits of at most 40 signs, or few and long ones -/
def shR (d : PyData) : Bool := d.showable && decide (d.depth ≤ 64) && ((d.leavesShort 40 && decide (42 * d.weight + 40 ≤ 16000000)) || (d.leavesShort 1400 && decide (1402 * d.weight + 1400 ≤ 16000000)))
def gReprD : List W → HH → Rs W
  | [w], h => match datR h fuelD w with
    | some d => if shR d = true then .ok (.str d.shown) h else .bad
    | none => .bad
  | _, _ => .bad
section
variable {X : Cx}
theorem shR_len {d : PyData} (h : shR d = true) : d.shown.length ≤ sizeLine := by
  unfold shR at h
  simp only [Bool.and_eq_true, Bool.or_eq_true, decide_eq_true_eq] at h
  rw [sizeLine_eq]
  rcases h.2 with ⟨a, b⟩ | ⟨a, b⟩
  · have := PyData.shown_le 40 (by decide) d a
    omega
  · have := PyData.shown_le 1400 (by decide) d a
    omega
theorem dc_reprD (B : ∃ mm, X.base.Ns sysModules mm) (hg : X.A.guards = some []) (hu : X.A.units + 100 < cLine) : DC X (.builtin "repr") gReprD := fun pins s σ H vs us Q I rx ⟨ι, h, ws, S, r, A⟩ => by
  unfold gReprD at A
  split at A
  · split at A
    · rename_i w d hd
      split at A
      · rename_i hs
        have hsz := shR_len hs
        unfold shR at hs
        simp only [Bool.and_eq_true, decide_eq_true_eq] at hs
        obtain ⟨⟨h1, h3⟩, _⟩ := hs
        obtain ⟨v, rfl, rv⟩ := rws1 r
        cases rx with
        | cons r1 t =>
          cases t
          rename_i u
          have hq := A.now S _ (.str _)
          obtain ⟨as, rd, na⟩ := datR_reads (low_of B I) I S _ _ _ _ _ rv r1 hd
          have fin : ∀ (h' : Heap) (t : Tok) (tk : Nat), (∀ b o, s.heap.get? b = some o → h'.get? b = some o) → EP X pins σ Q (.str d.shown t) { s with heap := h', toks := tk } := fun h' t tk k => ⟨.str d.shown, H, I.kept k, ⟨t, rfl⟩, hq⟩
          have big : ∀ a, u = .ref a → wpAny (model X.prog X.w) X.A (call (.builtin "repr") [u]) (EP X pins σ Q) X.xe s := by
            rintro a rfl
            exact repr_of_reads' (h₀ := s.heap) rd h1 (fun _ => na) hg (by omega) (fun _ _ z => z) (fun h' t tk k => fin h' t tk k) hsz
          have at0 : ∀ (t : Tok) (tk : Nat), EP X pins σ Q (.str d.shown t) { s with toks := tk } := fun t tk => ⟨.str d.shown, H, I.tok tk, ⟨t, rfl⟩, hq⟩
          cases rd with
          | none => exact PySem.P.repr_of_none (by simpa only [PyData.shown] using at0 s.toks (s.toks + 1))
          | bool b => exact PySem.P.repr_of_bool (by simpa only [PyData.shown] using at0 s.toks (s.toks + 1))
          | int i t => exact PySem.P.repr_of_int (by simpa [PyData.showable] using h1) (by simpa only [PyData.shown] using at0 s.toks (s.toks + 1))
          | str y t => exact PySem.P.repr_of_str (by simpa only [PyData.shown] using at0 s.toks (s.toks + 1)) (by simpa only [PyData.shown] using hsz)
          | list e1 e2 e3 e4 => exact big _ rfl
          | tuple e1 e2 e3 e4 => exact big _ rfl
          | dict e1 e2 e3 e4 e5 => exact big _ rfl
      · exact A.elim
    · exact A.elim
  · exact A.elim
@[simp] theorem gReprD_one {w : W} {h : HH} : gReprD [w] h = match datR h fuelD w with
    | some d => if shR d = true then .ok (.str d.shown) h else .bad
    | none => .bad := rfl
end
end D
/-! D: repr of lists and tuples with wide whole numbers (fewer than 2^12900). -/
namespace D
open PySem PySem.Spec PyProof.Rows L2

mutual
/-- no dict within, and whole numbers of at most 12900 bits -/
def wOk : PyData → Bool
  | .int i => decide (i.natAbs.log2 < 12900)
  | .none => true
  | .bool _ => true
  | .str _ => true
  | .list xs => wOkL xs
  | .tuple xs => wOkL xs
  | .dict _ => false
def wOkL : List PyData → Bool
  | [] => true
  | d :: ds => wOk d && wOkL ds
end
section
variable {prog : Program} {w : World} {h₀ : Heap}
theorem wide_lt {a : Int} (h : a.natAbs.log2 < 12900) : a.natAbs < 10 ^ 4300 := Nat.lt_of_lt_of_le (lt_of_log2 h) pow_lo
/-- a wide number's digits -/
theorem rk_int (nd : h₀.NoDigits) {a : Int} (t : Tok) (ha : a.natAbs.log2 < 12900) (as : List Addr) (d : Nat) : ReprK prog w as h₀ d (.int a t) (toString a) := by
  intro base le A g E s Q _ _ room old fin
  have le' : base ≤ sizeLine := by omega
  have room' : A.units < cLine := by omega
  have dn : s.heap.NoDigits := nd.keeps old
  have small := wide_lt ha
  rw [pyReprUnder_leaf (v := .int a t) le' nofun, pyRepr]
  refine wpAny_bind (wpAny_pyReprObj_slot room' (typeIs_int s a t) F.slot_int_repr.toG ?_)
  refine wpAny_call_entry F.slot_int_repr (typeIs_int s a t) F.entry_int_repr ?_ (F.args_int_repr_1 _)
  unfold Builtin.«int.__repr__»
  refine wpAny_bind (m := Builtin.overDigitLimit? a) (overDigitLimit_any dn (fun _ => ?_) fun z => absurd small (Nat.not_lt.mpr z))
  refine wpAny_bind (wpAny_mkStr ?_ (int_text_fits10 small))
  exact wpAny_pure ⟨_, rfl, _, _, rfl, wpAny_pure (fin s.heap _ fun _ _ e => e)⟩
theorem rk_all (nd : h₀.NoDigits) : ∀ (n : Nat) (d : PyData), d.depth ≤ n → ∀ (v : Value) (as : List Addr), Reads h₀ v d as → wOk d = true → d.shown.length ≤ sizeLine →
    ∃ bs, ReadAtMost h₀ d.depth bs ∧ ReprK prog w bs h₀ d.depth v d.shown := by
  intro n
  have leaf : ∀ (d : PyData) (v : Value) (as : List Addr), Reads h₀ v d as → d.depth = 0 → wOk d = true → d.shown.length ≤ sizeLine → ∃ bs, ReadAtMost h₀ d.depth bs ∧ ReprK prog w bs h₀ d.depth v d.shown := by
    intro d v as r e o z
    refine ⟨[], nofun, ?_⟩
    cases r with
    | none => exact .of_is (by simpa only [PyData.shown] using ReprIs.none) _ _ _
    | bool b => exact .of_is (by simpa only [PyData.shown] using ReprIs.bool b) _ _ _
    | int i t => simpa only [PyData.shown] using rk_int nd t (by simpa [wOk] using o) _ _
    | str x t => exact .of_is (by simpa only [PyData.shown] using ReprIs.str x t (by simpa only [PyData.shown] using z)) _ _ _
    | list => simp [PyData.depth] at e
    | tuple => simp [PyData.depth] at e
    | dict => simp [PyData.depth] at e
  induction n with
  | zero => exact fun d hd v as r => leaf d v as r (by omega)
  | succ n ih =>
    have row : ∀ (vs : List Value) (ds : List PyData) (as : List Addr), ReadsAll h₀ vs ds as → PyData.depthAll ds ≤ n → wOkL ds = true → (∀ t ∈ PyData.shownAll ds, t.length ≤ sizeLine) →
        ∃ bs, ReadAtMost h₀ (PyData.depthAll ds) bs ∧ ReprAllK prog w bs h₀ (PyData.depthAll ds) vs (PyData.shownAll ds) := by
      intro vs
      induction vs with
      | nil => intro ds as r _ _ _; cases r; exact ⟨[], nofun, by simp only [PyData.shownAll]; exact .nil⟩
      | cons v vs ih2 =>
        intro ds as r hd ho hz
        cases r with
        | @cons _ _ d ds a1 a2 r1 r2 =>
          simp only [PyData.depthAll, Nat.max_le] at hd
          simp only [wOkL, Bool.and_eq_true] at ho
          simp only [PyData.shownAll, List.mem_cons, forall_eq_or_imp] at hz
          obtain ⟨b1, m1, k1⟩ := ih d hd.1 v a1 r1 ho.1 hz.1
          obtain ⟨b2, m2, k2⟩ := ih2 ds a2 r2 hd.2 ho.2 hz.2
          simp only [PyData.depthAll, PyData.shownAll]
          have g1 := Nat.le_max_left d.depth (PyData.depthAll ds)
          have g2 := Nat.le_max_right d.depth (PyData.depthAll ds)
          exact ⟨b1 ++ b2, (m1.mono g1).append (m2.mono g2), .cons ((k1.more fun b hb => List.mem_append.mpr (.inl hb)).level_le g1) (k2.more_le (fun b hb => List.mem_append.mpr (.inr hb)) g2)⟩
    intro d hd v as r ho hz
    cases r with
    | none => exact leaf _ _ _ .none (by simp [PyData.depth]) ho hz
    | bool b => exact leaf _ _ _ (.bool b) (by simp [PyData.depth]) ho hz
    | int i t => exact leaf _ _ _ (.int i t) (by simp [PyData.depth]) ho hz
    | str x t => exact leaf _ _ _ (.str x t) (by simp [PyData.depth]) ho hz
    | dict => simp [wOk] at ho
    | @list a o vs m xs as e1 e2 e3 e4 =>
      simp only [PyData.depth] at hd
      simp only [wOk] at ho
      simp only [PyData.shown] at hz
      obtain ⟨bs, m1, k1⟩ := row _ _ _ e4 (by omega) ho fun t ht => Nat.le_trans (listText_mem_le ht) hz
      have whole : Reads h₀ (.ref a) (.list xs) _ := .list e1 e2 e3 e4
      have out := not_mem_of_deeper whole (by simp only [PyData.depth]; omega) m1
      refine ⟨a :: bs, m1.cons whole (by simp only [PyData.depth]; omega), ?_⟩
      simp only [PyData.depth, PyData.shown]
      rcases vs with ⟨_ | ⟨x, l⟩⟩
      · cases (show ReadsAll h₀ [] xs _ from e4)
        simp only [PyData.shownAll, listText_nil]
        exact .listEmpty e1 e2 e3
      · exact .list e1 e2 e3 out (by simpa using k1.length_eq) fun i y q => k1.item i y (by simpa using q)
    | @tuple a o vs m xs as e1 e2 e3 e4 =>
      simp only [PyData.depth] at hd
      simp only [wOk] at ho
      simp only [PyData.shown] at hz
      obtain ⟨bs, m1, k1⟩ := row _ _ _ e4 (by omega) ho fun t ht => Nat.le_trans (tupleText_mem_le ht) hz
      have whole : Reads h₀ (.ref a) (.tuple xs) _ := .tuple e1 e2 e3 e4
      have out := not_mem_of_deeper whole (by simp only [PyData.depth]; omega) m1
      refine ⟨a :: bs, m1.cons whole (by simp only [PyData.depth]; omega), ?_⟩
      simp only [PyData.depth, PyData.shown]
      exact .tuple e1 e2 e3 out k1
theorem rk_row (nd : h₀.NoDigits) : ∀ {vs : List Value} {ds : List PyData} {as : List Addr}, ReadsAll h₀ vs ds as → wOkL ds = true → (∀ t ∈ PyData.shownAll ds, t.length ≤ sizeLine) →
    ∃ bs, ReadAtMost h₀ (PyData.depthAll ds) bs ∧ ReprAllK prog w bs h₀ (PyData.depthAll ds) vs (PyData.shownAll ds) := by
  intro vs
  induction vs with
  | nil => intro ds as r _ _; cases r; exact ⟨[], nofun, by simp only [PyData.shownAll]; exact .nil⟩
  | cons v vs ih2 =>
    intro ds as r ho hz
    cases r with
    | @cons _ _ d ds a1 a2 r1 r2 =>
      simp only [wOkL, Bool.and_eq_true] at ho
      simp only [PyData.shownAll, List.mem_cons, forall_eq_or_imp] at hz
      obtain ⟨b1, m1, k1⟩ := rk_all (prog := prog) (w := w) nd _ d (Nat.le_refl _) v a1 r1 ho.1 hz.1
      obtain ⟨b2, m2, k2⟩ := ih2 r2 ho.2 hz.2
      simp only [PyData.depthAll, PyData.shownAll]
      have g1 := Nat.le_max_left d.depth (PyData.depthAll ds)
      have g2 := Nat.le_max_right d.depth (PyData.depthAll ds)
      exact ⟨b1 ++ b2, (m1.mono g1).append (m2.mono g2), .cons ((k1.more fun b hb => List.mem_append.mpr (.inl hb)).level_le g1) (k2.more_le (fun b hb => List.mem_append.mpr (.inr hb)) g2)⟩
/-- repr of a list or a tuple with wide numbers -/
theorem repr_wide (nd : h₀.NoDigits) {a : Addr} {d : PyData} {as : List Addr} {A : Around} {E : Value → Shared → Prop} {s : Shared} {Q : Value → Shared → Prop} (r : Reads h₀ (.ref a) d as) (o : wOk d = true) (sz : d.shown.length ≤ sizeLine)
    (gd : A.guards = some []) (room : A.units + (d.depth + 1) < cLine) (old : ∀ b o, h₀.get? b = some o → s.heap.get? b = some o)
    (fin : ∀ h' u tk, (∀ b o, s.heap.get? b = some o → h'.get? b = some o) → Q (.str d.shown u) { s with heap := h', toks := tk }) : wpAny (model prog w) A (call (.builtin "repr") [.ref a]) Q E s := by
  have room1 : A.units + 1 < cLine := by omega
  cases r with
  | dict => simp [wOk] at o
  | @list _ ob vs m xs as e1 e2 e3 e4 =>
    have whole : Reads h₀ (.ref a) (.list xs) _ := .list e1 e2 e3 e4
    simp only [wOk] at o
    simp only [PyData.shown] at sz fin
    simp only [PyData.depth] at room
    obtain ⟨bs, m1, k1⟩ : ∃ bs, ReadAtMost h₀ (PyData.depthAll xs) bs ∧ ReprAllK prog w bs h₀ (PyData.depthAll xs) vs.toList (PyData.shownAll xs) := by
      refine rk_row nd e4 o fun t ht => Nat.le_trans (listText_mem_le ht) sz
    have out := not_mem_of_deeper whole (by simp only [PyData.depth]; omega) m1
    refine call_repr_slot room1 ⟨ob, old _ _ e1, e2⟩ F.slot_list_repr.toG ?_
    rcases vs with ⟨_ | ⟨x, l⟩⟩
    · cases (show ReadsAll h₀ [] xs _ from e4)
      simp only [PyData.shownAll, listText_nil] at fin
      exact call_list_repr_empty ⟨ob, old _ _ e1, e2⟩ (old _ _ e1) e3 ⟨_, _, rfl, fin s.heap _ _ fun _ _ e => e⟩
    · exact call_list_reprK e1 e2 e3 out (by simpa using k1.length_eq) (fun i y q => k1.item i y (by simpa using q)) gd (fun b _ => Clear.nil b) (by show A.units + 1 + _ < _; omega) old (fun h' u tk k => ⟨_, _, rfl, fin h' u tk k⟩) sz
  | @tuple _ ob vs m xs as e1 e2 e3 e4 =>
    have whole : Reads h₀ (.ref a) (.tuple xs) _ := .tuple e1 e2 e3 e4
    simp only [wOk] at o
    simp only [PyData.shown] at sz fin
    simp only [PyData.depth] at room
    obtain ⟨bs, m1, k1⟩ : ∃ bs, ReadAtMost h₀ (PyData.depthAll xs) bs ∧ ReprAllK prog w bs h₀ (PyData.depthAll xs) vs.toList (PyData.shownAll xs) := by
      refine rk_row nd e4 o fun t ht => Nat.le_trans (tupleText_mem_le ht) sz
    have out := not_mem_of_deeper whole (by simp only [PyData.depth]; omega) m1
    refine call_repr_slot room1 ⟨ob, old _ _ e1, e2⟩ F.slot_tuple_repr ?_
    exact call_tuple_reprK e1 e2 e3 out k1 gd (fun b _ => Clear.nil b) (by show A.units + 1 + _ < _; omega) old (fun h' u tk k => ⟨_, _, rfl, fin h' u tk k⟩) sz
end
end D
namespace D
open PySem PySem.Spec PyProof.Rows L2
/-- what repr may write when wide numbers stand within -/
def isRow : PyData → Bool
  | .list _ => true
  | .tuple _ => true
  | _ => false
def shW (d : PyData) : Bool := isRow d && wOk d && decide (d.depth ≤ 64) && ((d.leavesShort 40 && decide (42 * d.weight + 40 ≤ 16000000)) || (d.leavesShort 1400 && decide (1402 * d.weight + 1400 ≤ 16000000)))
def gReprW : List W → HH → Rs W
  | [w], h => match datR h fuelD w with
    | some d => if shR d = true ∨ shW d = true then .ok (.str d.shown) h else .bad
    | none => .bad
  | _, _ => .bad
theorem shW_len {d : PyData} (h : shW d = true) : d.shown.length ≤ sizeLine := by
  unfold shW at h
  simp only [Bool.and_eq_true, Bool.or_eq_true, decide_eq_true_eq] at h
  rw [sizeLine_eq]
  rcases h.2 with ⟨a, b⟩ | ⟨a, b⟩
  · have := PyData.shown_le 40 (by decide) d a
    omega
  · have := PyData.shown_le 1400 (by decide) d a
    omega
section
variable {X : Cx}
theorem dc_reprW (B : ∃ mm, X.base.Ns sysModules mm) (nd : X.base.NoDigits) (hg : X.A.guards = some []) (hu : X.A.units + 100 < cLine) : DC X (.builtin "repr") gReprW := fun pins s σ H vs us Q I rx ⟨ι, h, ws, S, r, A⟩ => by
  by_cases easy : ∃ w d, ws = [w] ∧ datR h fuelD w = some d ∧ shR d = true
  · obtain ⟨w, d, e1, e2, e3⟩ := easy
    refine dc_reprD B hg hu pins s σ H vs us Q I rx ⟨ι, h, ws, S, r, ?_⟩
    subst e1
    have e4 : gReprW [w] h = gReprD [w] h := by simp [gReprW, gReprD, e2, e3]
    rw [← e4]; exact A
  unfold gReprW at A
  split at A
  case h_2 => exact A.elim
  rename_i w
  split at A
  case h_2 => exact A.elim
  rename_i d hd
  split at A
  case isFalse => exact A.elim
  rename_i ok
  have wide : shW d = true := ok.resolve_left fun z => easy ⟨w, d, rfl, hd, z⟩
  have sz := shW_len wide
  unfold shW at wide
  simp only [Bool.and_eq_true, decide_eq_true_eq] at wide
  obtain ⟨⟨⟨rw, o⟩, deep⟩, _⟩ := wide
  obtain ⟨v, rfl, rv⟩ := rws1 r
  cases rx with
  | cons r1 t =>
  cases t
  rename_i u
  have hq := A.now S _ (.str _)
  obtain ⟨as, rd, _⟩ := datR_reads (low_of B I) I S _ _ _ _ _ rv r1 hd
  have nds : s.heap.NoDigits := let ⟨mc, ⟨ob, es, ep, e, z1⟩, z2⟩ := nd; ⟨mc, ⟨ob, es, ep, (I.bs _ _ e).1, z1⟩, z2⟩
  by_cases rf : ∃ a, u = .ref a
  · obtain ⟨a, rfl⟩ := rf
    exact repr_wide nds rd o sz hg (by omega) (fun _ _ z => z) fun h' t tk k => ⟨.str d.shown, H, I.kept k, ⟨t, rfl⟩, hq⟩
  cases rd with
  | none => cases rw
  | bool b => cases rw
  | int i t => cases rw
  | str x t => cases rw
  | list => exact absurd ⟨_, rfl⟩ rf
  | tuple => exact absurd ⟨_, rfl⟩ rf
  | dict => exact absurd ⟨_, rfl⟩ rf
end
end D
/-! D: whole numbers in rows, compared and written out. -/
namespace D
open PySem PySem.Spec PyProof.Rows L2
def wI (ns : List Int) : List W := ns.map W.int
def dI (ns : List Int) : List PyData := ns.map PyData.int
theorem dat_wI (h : HH) (n : Nat) : ∀ ns : List Int, optAll ((wI ns).map (datW h n)) = some (dI ns)
  | [] => rfl
  | a :: r => by
    have ih := dat_wI h n r
    have e : datW h n (W.int a) = some (.int a) := by cases n <;> rfl
    show optAll (datW h n (W.int a) :: (wI r).map (datW h n)) = _
    rw [e]
    simp only [optAll, ih]
    rfl
theorem ints_wI : ∀ ns : List Int, intsW (wI ns) = some ns
  | [] => rfl
  | a :: r => by
    have ih := ints_wI r
    show intsW (W.int a :: wI r) = _
    simp only [intsW, ih]
theorem lay_dI : ∀ ns : List Int, PyData.canLayAll0 (dI ns) = true
  | [] => by simp [dI, PyData.canLayAll0]
  | _ :: r => by have := lay_dI r; simp [dI, PyData.canLayAll0, PyData.canLay0] at this ⊢; exact this
theorem dep_dI : ∀ ns : List Int, PyData.depthAll (dI ns) = 0
  | [] => by simp [dI, PyData.depthAll]
  | _ :: r => by have := dep_dI r; simp [dI, PyData.depthAll, PyData.depth] at this ⊢; exact this
theorem eqv_dI : ∀ ns ms : List Int, PyData.eqvAll (dI ns) (dI ms) = decide (ns = ms)
  | [], [] => by simp [dI, PyData.eqvAll]
  | [], _ :: _ => by simp [dI, PyData.eqvAll]
  | _ :: _, [] => by simp [dI, PyData.eqvAll]
  | a :: r, b :: t => by
    have ih := eqv_dI r t
    have e : PyData.eqvAll (dI (a :: r)) (dI (b :: t)) = (PyData.eqv (.int a) (.int b) && PyData.eqvAll (dI r) (dI t)) := by simp [dI, PyData.eqvAll]
    rw [e, ih]
    by_cases h : a = b <;> by_cases k : r = t <;> simp [PyData.eqv, h, k]
/-- numbers of few digits -/
def Sml (ns : List Int) : Prop := ∀ n ∈ ns, n.natAbs < 2 ^ 39
theorem Sml.cons {a : Int} {r : List Int} (s : Sml (a :: r)) : a.natAbs < 2 ^ 39 ∧ Sml r := ⟨s a (List.mem_cons_self ..), fun n hn => s n (List.mem_cons_of_mem _ hn)⟩
theorem log_small {i : Int} (h : i.natAbs < 2 ^ 39) : i.natAbs.log2 < 39 := by
  by_cases e : i.natAbs = 0
  · rw [e]; decide
  · exact (Nat.log2_lt e).mpr h
theorem shown_small {i : Int} (h : i.natAbs < 2 ^ 39) : (PyData.shown (.int i)).length ≤ 40 := Nat.le_trans (PyData.shown_int_le (by omega)) (by decide)
theorem shb_int {i : Int} (h : i.natAbs < 2 ^ 39) : PyData.showable (.int i) = true := by
  have := log_small h
  simp [PyData.showable]; omega
theorem lsh_int {i : Int} (h : i.natAbs < 2 ^ 39) : PyData.leavesShort 40 (.int i) = true := by
  have := shown_small h
  simp only [PyData.leavesShort, decide_eq_true_eq]; exact this
theorem wgt_int {i : Int} (h : i.natAbs < 2 ^ 39) : PyData.weight (.int i) ≤ 39 := by
  have := log_small h
  simp only [PyData.weight]
  split <;> omega
theorem shb_dI : ∀ {ns : List Int}, Sml ns → PyData.showableAll (dI ns) = true
  | [], _ => by simp [dI, PyData.showableAll]
  | a :: r, s => by
    have ih := shb_dI s.cons.2
    have e : PyData.showableAll (dI (a :: r)) = (PyData.showable (.int a) && PyData.showableAll (dI r)) := by simp [dI, PyData.showableAll]
    rw [e, ih, shb_int s.cons.1]; rfl
theorem lsh_dI : ∀ {ns : List Int}, Sml ns → PyData.leavesShortAll 40 (dI ns) = true
  | [], _ => by simp [dI, PyData.leavesShortAll]
  | a :: r, s => by
    have ih := lsh_dI s.cons.2
    have e : PyData.leavesShortAll 40 (dI (a :: r)) = (PyData.leavesShort 40 (.int a) && PyData.leavesShortAll 40 (dI r)) := by simp [dI, PyData.leavesShortAll]
    rw [e, ih, lsh_int s.cons.1]; rfl
theorem wgt_dI : ∀ {ns : List Int}, Sml ns → PyData.weightAll (dI ns) ≤ 40 * ns.length
  | [], _ => by simp [dI, PyData.weightAll]
  | a :: r, s => by
    have ih := wgt_dI s.cons.2
    have e : PyData.weightAll (dI (a :: r)) = PyData.weight (.int a) + 1 + PyData.weightAll (dI r) := by simp [dI, PyData.weightAll]
    have w := wgt_int s.cons.1
    rw [e]
    simp only [List.length_cons]
    omega
theorem shk_list {ns : List Int} (s : Sml ns) (l : ns.length ≤ 1000) : shk (.list (dI ns)) = true := by
  have := wgt_dI s
  simp only [shk, PyData.showable, PyData.canLay0, PyData.depth, PyData.leavesShort, PyData.weight, shb_dI s, lay_dI, dep_dI, lsh_dI s]
  simp; omega
theorem shk_tuple {ns : List Int} (s : Sml ns) (l : ns.length ≤ 1000) : shk (.tuple (dI ns)) = true := by
  have := wgt_dI s
  simp only [shk, PyData.showable, PyData.canLay0, PyData.depth, PyData.leavesShort, PyData.weight, shb_dI s, lay_dI, dep_dI, lsh_dI s]
  simp; omega
/-! values that stand for data whatever the heap holds -/
mutual
inductive Fl0 : W → PyData → Prop
  | non : Fl0 .non .none
  | bl (b : Bool) : Fl0 (.bl b) (.bool b)
  | int (i : Int) : Fl0 (.int i) (.int i)
  | str (x : Str) : Fl0 (.str x) (.str x)
end
theorem Fl0.dat {w : W} {d : PyData} (f : Fl0 w d) (h : HH) (n : Nat) : datW h n w = some d := by cases f <;> cases n <;> rfl
theorem dat_tupI (h : HH) (n : Nat) (ns : List Int) : datW h (n + 1) (.tup (wI ns)) = some (.tuple (dI ns)) := by simp only [datW, dat_wI]
theorem dat_flI (h : HH) (n : Nat) (ns : List Int) : datW h (n + 1) (.fl (wI ns)) = some (.list (dI ns)) := by simp only [datW, dat_wI]
theorem dat_refI {h : HH} {p : Nat} {ns : List Int} (e : h[p]? = some (.lst (wI ns))) (n : Nat) : datW h (n + 1) (.ref p) = some (.list (dI ns)) := by simp only [datW, e, dat_wI]
theorem shp_list (ns : List Int) : SeqAt.shaped (.list (dI ns)) = true := by simp [SeqAt.shaped, PyData.canLay0, PyData.depth, lay_dI, dep_dI]
theorem shp_tuple (ns : List Int) : SeqAt.shaped (.tuple (dI ns)) = true := by simp [SeqAt.shaped, PyData.canLay0, PyData.depth, lay_dI, dep_dI]
theorem eq_tups (h : HH) (ns ms : List Int) : gEq (.tup (wI ns)) (.tup (wI ms)) h = .ok (.bl (decide (ns = ms))) h := by
  simp only [gEq, datE, fuelD, dat_tupI, shp_tuple, if_true, PyData.eqv, eqv_dI]
theorem ne_tups (h : HH) (ns ms : List Int) : gNe (.tup (wI ns)) (.tup (wI ms)) h = .ok (.bl (!decide (ns = ms))) h := by
  simp only [gNe, datE, fuelD, dat_tupI, shp_tuple, if_true, PyData.eqv, eqv_dI]
theorem eq_refs {h : HH} {p q : Nat} {ns ms : List Int} (e : h[p]? = some (.lst (wI ns))) (k : h[q]? = some (.lst (wI ms))) : gEq (.ref p) (.ref q) h = .ok (.bl (decide (ns = ms))) h := by
  simp only [gEq, datE, fuelD, dat_refI e, dat_refI k, shp_list, if_true, PyData.eqv, eqv_dI]
theorem atI_of {xs : List W} {k : Int} {w : W} (a : 0 ≤ k) (e : xs[k.toNat]? = some w) : atI xs k = some w := by
  have := hlt e
  unfold atI ixN
  rw [if_pos a, if_pos (by omega)]
  exact e
def iAt (ns : List Int) (k : Int) : Int := ns.getD k.toNat 0
theorem atI_ints {ns : List Int} {k : Int} (a : 0 ≤ k) (b : k < ns.length) : atI (wI ns) k = some (W.int (iAt ns k)) := by
  refine atI_of a ?_
  have : k.toNat < ns.length := by omega
  simp [wI, iAt, this]
@[simp] theorem wI_len (ns : List Int) : (wI ns).length = ns.length := by simp [wI]
theorem wI_app (ns ms : List Int) : wI ns ++ wI ms = wI (ns ++ ms) := by simp [wI]
theorem bls_true (ns : List Int) : blsW (ns.map fun _ => W.bl true) = some (ns.map fun _ => true) := by
  induction ns with
  | nil => rfl
  | cons a r ih => simp [blsW, ih]
end D
/-! D: what holds after a result that may be an exception. -/
namespace D
open PySem PySem.Spec PyProof.Rows L2
abbrev XQ := Str → List (Str × W) → Sl → HH → Prop
def Px {α : Type} (Q : α → HH → Prop) (E : XQ) : Rs α → Prop
  | .ok a h => Q a h
  | .exc C fs s h => E C fs s h
  | .bad => False
section
variable {α β : Type} {Q Q' : α → HH → Prop} {E E' : XQ} {a : α} {h : HH} {r : Rs α} {s : Sl} {C : Str} {fs : List (Str × W)}
@[simp] theorem po_exc : Po Q (.exc C fs s h) = False := rfl
@[simp] theorem px_ok : Px Q E (.ok a h) = Q a h := rfl
@[simp] theorem px_bad : Px Q E .bad = False := rfl
@[simp] theorem px_exc : Px Q E (.exc C fs s h) = E C fs s h := rfl
@[simp] theorem px_bind {q : Rs β} {f : β → HH → Rs α} : Px Q E (q.bind f) = Px (fun b h => Px Q E (f b h)) E q := by cases q <;> rfl
@[simp] theorem px_cut : Px Q E (cut r) = Po Q r := by cases r <;> rfl
@[simp] theorem px_atS : Px Q E (atS s r) = Px Q (fun C fs _ h => E C fs s h) r := by cases r <;> rfl
@[simp] theorem px_ite {c : Prop} [Decidable c] {p q : Rs α} : Px Q E (if c then p else q) = if c then Px Q E p else Px Q E q := by split <;> rfl
@[simp] theorem px_outS {Q : W → HH → Prop} {q : Rs (Fl × Sl)} : Px Q E (outS q) = Px (outQ Q) E q := by
  cases q with
  | ok a h => obtain ⟨f, s⟩ := a; cases f <;> rfl
  | _ => rfl
theorem Px.mono (p : Px Q E r) (i : ∀ a h, Q a h → Q' a h) (j : ∀ C fs s h, E C fs s h → E' C fs s h) : Px Q' E' r := by
  cases r with
  | ok a h => exact i _ _ p
  | exc C fs s h => exact j _ _ _ _ p
  | bad => exact p.elim
theorem Po.px (p : Po Q r) (i : ∀ a h, Q a h → Q' a h) : Px Q' E r := by
  cases r with
  | ok a h => exact i _ _ p
  | _ => exact p.elim
theorem Px.po (p : Px Q (fun _ _ _ _ => False) r) : Po Q r := by
  cases r with
  | ok a h => exact p
  | exc => exact p.elim
  | bad => exact p.elim
theorem px_seq {Q : Fl × Sl → HH → Prop} (R : Sl → HH → Prop) {a b : MS} (ha : Px (seqQ R Q) E (a s h)) (hb : ∀ s1 h1, R s1 h1 → Px Q E (b s1 h1)) : Px Q E (sSeq a b s h) := by
  show Px Q E ((a s h).bind _)
  cases e : a s h with
  | bad => rw [e] at ha; exact ha
  | exc C fs s1 h1 => rw [e] at ha; exact ha
  | ok q h1 =>
    rw [e] at ha
    obtain ⟨f, s1⟩ := q
    cases f with
    | nx => exact hb _ _ ha
    | _ => exact ha
/-! ### try -/
def endQ (i : Option Nat) (Q : Fl × Sl → HH → Prop) : Fl × Sl → HH → Prop
  | (.ret w, s), h => Q (.ret w, s) h
  | (.nx, s), h => Q (.nx, putN i s) h
  | (.brk, s), h => Q (.brk, putN i s) h
  | (.cnt, s), h => Q (.cnt, putN i s) h
section
variable {Q : Fl × Sl → HH → Prop} {i : Option Nat} {w : W}
@[simp] theorem endQ_ret : endQ i Q (.ret w, s) h = Q (.ret w, s) h := rfl
@[simp] theorem endQ_nx : endQ i Q (.nx, s) h = Q (.nx, putN i s) h := rfl
@[simp] theorem endQ_brk : endQ i Q (.brk, s) h = Q (.brk, putN i s) h := rfl
@[simp] theorem endQ_cnt : endQ i Q (.cnt, s) h = Q (.cnt, putN i s) h := rfl
@[simp] theorem po_endN {r : Rs (Fl × Sl)} : Po Q (endN i r) = Po (endQ i Q) r := by
  cases r with
  | ok q h => obtain ⟨f, s⟩ := q; cases f <;> cases i <;> rfl
  | _ => rfl
@[simp] theorem px_endN {r : Rs (Fl × Sl)} : Px Q E (endN i r) = Po (endQ i Q) r := by
  cases r with
  | ok q h => obtain ⟨f, s⟩ := q; cases f <;> cases i <;> rfl
  | _ => rfl
@[simp] theorem putN_none : putN none s = s := rfl
@[simp] theorem putN_some {j : Nat} : putN (some j) s = s.set j none := rfl
theorem po_try {B : Str} {xs : List Str} {b : MS} {hs : List Hd} (hb : Px Q (fun C fs s1 h1 => Po Q (goH B xs hs C fs s1 h1)) (b s h)) : Po Q (sTry B xs b hs s h) := by
  unfold sTry
  cases e : b s h with
  | bad => rw [e] at hb; exact hb
  | ok q h1 => rw [e] at hb; exact hb
  | exc C fs s1 h1 => rw [e] at hb; exact hb
theorem px_try {B : Str} {xs : List Str} {b : MS} {hs : List Hd} (hb : Px Q (fun C fs s1 h1 => Px Q E (goH B xs hs C fs s1 h1)) (b s h)) : Px Q E (sTry B xs b hs s h) := by
  unfold sTry
  cases e : b s h with
  | bad => rw [e] at hb; exact hb
  | ok q h1 => rw [e] at hb; exact hb
  | exc C fs s1 h1 => rw [e] at hb; exact hb
@[simp] theorem goH_nil {B : Str} {xs : List Str} : goH B xs [] C fs s h = .exc C fs s h := rfl
theorem goH_yes {B : Str} {xs : List Str} {hd : Hd} {r : List Hd} (e : isX B xs C hd.D = some true) : goH B xs (hd :: r) C fs s h = endN hd.ix (hd.m C fs (putN hd.ix s) h) := by
  simp only [goH, e]
theorem goH_no {B : Str} {xs : List Str} {hd : Hd} {r : List Hd} (e : isX B xs C hd.D = some false) : goH B xs (hd :: r) C fs s h = goH B xs r C fs s h := by
  simp only [goH, e]
end
end
theorem px_loopF {chk : HH → Bool} {g : MG} {b : MS} {Q : Fl × Sl → HH → Prop} {E : XQ} (Pv : List W → Sl → HH → Prop)
    (step : ∀ x xs s h, Pv (x :: xs) s h → Po (fun s1 h1 => Px (stepQ chk (Pv xs) Q) E (b s1 h1)) (g x s h))
    (fin : ∀ s h, Pv [] s h → Q (.nx, s) h) : ∀ (xs : List W) (s : Sl) (h : HH), Pv xs s h → Px Q E (loopF chk g b xs s h)
  | [], s, h, p => fin _ _ p
  | x :: xs, s, h, p => by
    obtain ⟨s1, h1, e1, p1⟩ := (step x xs s h p).out
    unfold loopF
    rw [e1]
    simp only [cut_ok, Rs.bind_ok]
    cases e2 : b s1 h1 with
    | bad => rw [e2] at p1; exact p1.elim
    | exc C fs s2 h2 => rw [e2] at p1; exact p1
    | ok r h2 =>
      rw [e2] at p1
      obtain ⟨f, s2⟩ := r
      simp only [Rs.bind_ok]
      cases f with
      | nx =>
        have p2 : chk h2 = true ∧ Pv xs s2 h2 := p1
        simp only [p2.1, if_true]; exact px_loopF Pv step fin xs _ _ p2.2
      | cnt =>
        have p2 : chk h2 = true ∧ Pv xs s2 h2 := p1
        simp only [p2.1, if_true]; exact px_loopF Pv step fin xs _ _ p2.2
      | ret w => exact p1
      | brk => exact p1
end D
/-! D: instances of own classes: fields, methods, making. -/
namespace D
open PySem PySem.Spec PyProof.Rows L2
/-! ### fields -/
def putFW (f : Str) (v : W) : List (Str × W) → List (Str × W)
  | [] => [(f, v)]
  | (g, x) :: r => if g = f then (g, v) :: r else (g, x) :: putFW f v r
theorem RF.put {K : PySem.W.Frag} {ι : List Addr} {H : Hp} {f : Str} {w : W} {v : V} (q : RW K ι H w v) : ∀ {fs : List (Str × W)} {gs : List (Str × V)}, RF K ι H fs gs → RF K ι H (putFW f w fs) (putF f v gs)
  | [], _, .nil => .cons ⟨rfl, q⟩ .nil
  | (g, x) :: r, (g', y) :: r', .cons z t => by
    obtain ⟨e, z2⟩ := z
    cases e
    by_cases h : g = f
    · simp only [putFW, putF, h, if_true]
      exact .cons ⟨rfl, q⟩ t
    · simp only [putFW, putF, h, if_false]
      exact .cons ⟨rfl, z2⟩ (RF.put q t)
theorem RF.len {K : PySem.W.Frag} {ι : List Addr} {H : Hp} {fs : List (Str × W)} {gs : List (Str × V)} (r : RF K ι H fs gs) : fs.length = gs.length := Paired.length r
/-- the fields of the object that a value leads to -/
def insW (cs : List Str) (w : W) (h : HH) : Option (Nat × Str × List (Str × W)) := match w with
  | .ref i => match h[i]? with
    | some (.ins C fs) => if C ∈ cs then some (i, C, fs) else none
    | _ => none
  | _ => none
@[simp] theorem insW_ref {cs : List Str} {i : Nat} {h : HH} : insW cs (.ref i) h = match h[i]? with
    | some (.ins C fs) => if C ∈ cs then some (i, C, fs) else none
    | _ => none := rfl
theorem insW_at {K : PySem.W.Frag} {ι : List Addr} {H : Hp} {h : HH} {cs : List Str} {w : W} {v : V} {i : Nat} {C : Str} {fs : List (Str × W)} (S : Sim K ι h H) (r : RW K ι H w v) (e : insW cs w h = some (i, C, fs)) :
    ∃ a dx gs, w = .ref i ∧ v = .ref a ∧ ι[i]? = some a ∧ h[i]? = some (.ins C fs) ∧ C ∈ cs ∧ H a = some (.ins (cAt K C) dx gs) ∧ RF K ι H fs gs := by
  unfold insW at e
  split at e
  · split at e
    · rename_i j C' fs' hx
      split at e
      · rename_i hc
        cases e
        cases r with
        | ref ha =>
        obtain ⟨b, hb, dx, gs, e1, e2⟩ := S.at hx
        rw [ha] at hb; cases hb
        exact ⟨_, dx, gs, rfl, rfl, ha, hx, hc, e1, e2⟩
      · cases e
    · cases e
  · cases e
/-- attributes of these classes are plain ones, and f is none of the class's own -/
structure ClF (K : PySem.W.Frag) (f : Str) (C : Str) : Prop where
  c : Cls K (cAt K C)
  n : NoAttr K (cAt K C) f
@[simp] def mFld (cs : List Str) (f : Str) (m : ME) : ME := fun s h => (m s h).bind fun w h1 => match insW cs w h1 with
  | some (_, _, fs) => match fs.lookup f with
    | some v => .ok v h1
    | none => .bad
  | none => .bad
section
variable {X : Cx} {Wx : WJ} {cs : List Str} {f : Str} {e o value : Expr} {me mo mv : ME} {pos p : Pos}
theorem de_fld (T : ∀ C ∈ cs, ClF X.K f C) (he : DE X Wx e me) (hb : attributeBase e f X.env (eval e X.env) = eval e X.env := by rfl) : DE X Wx (.Attribute e f pos) (mFld cs f me) :=
  (pe_fld he hb).imp fun σ H Q ⟨ι, s, h, S, R, A⟩ => ⟨ι, s, h, S, R, A.bind.imp (fun ι1 h1 H1 w p1 g1 S1 A1 v rv => by
    split at A1
    · rename_i i C fs ei
      obtain ⟨a, dx, gs, rfl, rfl, ha, hx, hc, e1, e2⟩ := insW_at S1 rv ei
      split at A1
      · rename_i u eu
        obtain ⟨y, ly, ry⟩ := RF.look e2 eu
        exact ⟨a, _, dx, gs, y, rfl, e1, (T C hc).c, (T C hc).n, ly, A1.now S1 y ry⟩
      · exact A1.elim
    · exact A1.elim) idX⟩
/-- o.f = v -/
def gSetF (cs : List Str) (f : Str) (ow w : W) (h : HH) : Rs Unit := match insW cs ow h with
  | some (i, C, fs) => if fs.length < 900 then .ok () (h.set i (.ins C (putFW f w fs))) else .bad
  | none => .bad
@[simp] theorem gSetF_ref {cs : List Str} {f : Str} {i : Nat} {w : W} {h : HH} : gSetF cs f (.ref i) w h = match insW cs (.ref i) h with
  | some (i, C, fs) => if fs.length < 900 then .ok () (h.set i (.ins C (putFW f w fs))) else .bad
  | none => .bad := rfl
theorem setF_at {K : PySem.W.Frag} {ι : List Addr} {H : Hp} {h : HH} {ow w : W} {x y : V} {R : Hp → Prop} (S : Sim K ι h H) (ro : RW K ι H ow x) (rw' : RW K ι H w y) (A : After K ι H (fun ι' _ H' _ => ι <+: ι' → Grow ι ι' H H' → R H') exN (gSetF cs f ow w h)) :
    ∃ a dx gs C, x = .ref a ∧ C ∈ cs ∧ H a = some (.ins (cAt K C) dx gs) ∧ gs.length < 1000 ∧ R (upd H a (.ins (cAt K C) dx (putF f y gs))) := by
  unfold gSetF at A
  split at A
  · rename_i i C fs ei
    obtain ⟨a, dx, gs, rfl, rfl, ha, hx, hc, e1, e2⟩ := insW_at S ro ei
    split at A
    · rename_i hl
      have gr : Grow ι ι H (upd H a (.ins (cAt K C) dx (putF f y gs))) := Grow.put (List.mem_of_getElem? ha) e1 id
      have S2 : Sim K ι (h.set i (.ins C (putFW f w fs))) (upd H a (.ins (cAt K C) dx (putF f y gs))) := S.put ha ⟨dx, _, upd_same, RF.mono (List.prefix_refl _) gr (RF.put rw' e2)⟩
      refine ⟨a, dx, gs, C, rfl, hc, e1, by rw [← e2.len]; omega, A ι _ (List.prefix_refl _) gr S2 (List.prefix_refl _) gr⟩
    · exact A.elim
  · exact A.elim
@[simp] def sFld (cs : List Str) (f : Str) (mo mv : ME) : MS := fun s h => (atS s (mv s h)).bind fun w h1 => (atS s (mo s h1)).bind fun ow h2 => (cut (gSetF cs f ow w h2)).bind fun _ h3 => .ok (.nx, s) h3
theorem ds_fld {pos' : Pos} (T : ∀ C ∈ cs, ClF X.K f C) (ho : DE X Wx o mo) (hv : DE X Wx value mv) (hs : swapsWith value (some (.Attribute o f pos')) pos.line X.env = pure false := by rfl) : DS X Wx (.Assign [.Attribute o f pos'] value pos) (sFld cs f mo mv) :=
  (ps_fld ho hv hs).imp fun D σ H ⟨ι, s, h, S, R, A⟩ => ⟨ι, s, h, S, R, (A.bind.atS R).imp (fun ι1 h1 H1 w p1 g1 S1 A1 y ry =>
    have R1 := R.mono p1 g1
    ⟨ι1, s, h1, S1, R1, (A1.bind.atS R1).imp (fun ι2 h2 H2 ow p2 g2 S2 A2 x rx => by
      obtain ⟨a, dx, gs, C, ex, hc, e1, hl, q⟩ := setF_at (R := fun H' => D.nx σ H') S2 rx (ry.mono p2 g2) (A2.bind.cutX.imp (fun ι3 h3 H3 _ p3 g3 S3 A3 _ _ => A3.now S3 σ ((R1.mono p2 g2).mono p3 g3)) fun _ _ _ _ _ _ _ q => q.elim)
      exact ⟨a, _, dx, gs, ex, e1, (T C hc).c, (T C hc).n, hl, q⟩) idX⟩) idX⟩
/-! ### o.f op= v, whole numbers -/
def rDin (K : PySem.W.Frag) (g : W → W → HH → Rs W) : V → V → Hp → VK → Prop := fun x y H Q => ∃ ι h w u, Sim K ι h H ∧ RW K ι H w x ∧ RW K ι H u y ∧ After K ι H (okV K Q) exN (g w u h)
theorem din_add : InOp X .Add (rDin X.K (ints2 gAdd)) := fun pins s σ H x y v u Q I rv ru ⟨ι, h, w, z, S, rx, ry, A⟩ => by
  obtain ⟨i, j, rfl, rfl, A⟩ := ints2_at rx ry A
  exact in_add pins s σ H _ _ v u Q I rv ru ⟨i, j, rfl, rfl, A.now S _ (.int _)⟩
theorem din_sub : InOp X .Sub (rDin X.K (ints2 gSub)) := fun pins s σ H x y v u Q I rv ru ⟨ι, h, w, z, S, rx, ry, A⟩ => by
  obtain ⟨i, j, rfl, rfl, A⟩ := ints2_at rx ry A
  exact in_sub pins s σ H _ _ v u Q I rv ru ⟨i, j, rfl, rfl, A.now S _ (.int _)⟩
@[simp] def sFldA (cs : List Str) (f : Str) (g : W → W → HH → Rs W) (mo mv : ME) : MS := fun s h => (atS s (mo s h)).bind fun ow h1 => match insW cs ow h1 with
  | some (_, _, fs) => match fs.lookup f with
    | some x => (atS s (mv s h1)).bind fun y h2 => (cut (g x y h2)).bind fun z h3 => (cut (gSetF cs f ow z h3)).bind fun _ h4 => .ok (.nx, s) h4
    | none => .bad
  | none => .bad
theorem ds_flda {op : Operator} {g : W → W → HH → Rs W} {tpos : Pos} (T : ∀ C ∈ cs, ClF X.K f C) (one : cs.length = 1) (ho : DE X Wx o mo) (hv : DE X Wx value mv) (hop : InOp X op (rDin X.K g)) : DS X Wx (.AugAssign (.Attribute o f tpos) op value pos) (sFldA cs f g mo mv) :=
  (ps_fldaug ho hv hop).imp fun D σ H ⟨ι, s, h, S, R, A⟩ => ⟨ι, s, h, S, R, (A.bind.atS R).imp (fun ι1 h1 H1 ow p1 g1 S1 A1 xv rx => by
    split at A1
    · rename_i i C fs ei
      obtain ⟨a, dx, gs, rfl, rfl, ha, hx, hc, e1, e2⟩ := insW_at S1 rx ei
      split at A1
      · rename_i u eu
        obtain ⟨v, lv, rv⟩ := RF.look e2 eu
        have R1 := R.mono p1 g1
        refine ⟨a, _, dx, gs, v, rfl, e1, (T C hc).c, (T C hc).n, lv, ι1, s, h1, S1, R1, (A1.bind.atS R1).imp (fun ι2 h2 H2 y p2 g2 S2 A2 yv ry => ?_) idX⟩
        refine ⟨ι2, h2, u, y, S2, rv.mono p2 g2, ry, A2.bind.cutX.imp (fun ι3 h3 H3 z p3 g3 S3 A3 zv rz => ?_) fun _ _ _ _ _ _ _ q => q.elim⟩
        have ha3 : RW X.K ι3 H3 (.ref i) (.ref a) := .ref (getElem?_pre (p2.trans p3) ha)
        obtain ⟨a', dx', gs', C', ex, hc', e1', hl, q⟩ := setF_at (R := fun H' => D.nx σ H') S3 ha3 rz (A3.bind.cutX.imp (fun ι4 h4 H4 _ p4 g4 S4 A4 _ _ => A4.now S4 σ (((R1.mono p2 g2).mono p3 g3).mono p4 g4)) fun _ _ _ _ _ _ _ q => q.elim)
        cases ex
        have eC : C' = C := by
          match cs, one, hc, hc' with
          | [c], _, h1, h2 => rw [List.mem_singleton.mp h1, List.mem_singleton.mp h2]
        subst eC
        exact ⟨dx', gs', e1', hl, q⟩
      · exact A1.elim
    · exact A1.elim) idX⟩
end
end D
/-! D: methods, and how instances are made. -/
namespace D
open PySem PySem.Spec PyProof.Rows
open L2 hiding XE Takes CX ps_raise mk_of pmk_own passAt takes_of passes_call MkP PMk ps_try_as ps_try_many
open L2N hiding St
/-- a class's method m, computed by M -/
structure MtF (P : Program) (w : World) (K : PySem.W.Frag) (mg : Str → Option Value) (base : Heap) (k : Nat) (m : Str) (ps : List Str) (q : Str × MF) : Prop where
  c : Cls K (cAt K q.1)
  mt : ∃ (g : Addr) (fd : FuncData), Meth K (cAt K q.1) m g ∧ FnM P w K mg base k g fd ps q.2 ∧ Binds K fd ps [] ∧ True
def lookM (tb : List (Str × MF)) (C : Str) : MF := match tb.lookup C with
  | some M => M
  | none => fun _ _ => .bad
@[simp] def mMeth (m : Str) (tb : List (Str × MF)) (o : ME) (q : MA) : ME := fun s h => (o s h).bind fun w h1 => match insW (tb.map (·.1)) w h1 with
  | some (i, C, fs) => if fs.lookup m = none then (q s h1).bind fun ws h2 => lookM tb C (.ref i :: ws) h2 else .bad
  | none => .bad
theorem lookM_mem {tb : List (Str × MF)} {C : Str} (h : C ∈ tb.map (·.1)) : ∃ q ∈ tb, q.1 = C ∧ lookM tb C = q.2 := by
  induction tb with
  | nil => cases h
  | cons p tb ih =>
    obtain ⟨D, M⟩ := p
    by_cases e : C = D
    · subst e
      exact ⟨_, .head _, rfl, by simp [lookM, List.lookup]⟩
    · have h' : C ∈ tb.map (·.1) := by
        rcases List.mem_cons.mp h with z | z
        · exact absurd z e
        · exact z
      obtain ⟨q, h1, h2, h3⟩ := ih h'
      refine ⟨q, .tail _ h1, h2, ?_⟩
      have : (C == D) = false := by simpa using e
      unfold lookM at h3 ⊢
      rw [List.lookup, this]
      exact h3
theorem RF.none {K : PySem.W.Frag} {ι : List Addr} {H : Hp} {f : Str} : ∀ {fs : List (Str × W)} {gs : List (Str × V)}, RF K ι H fs gs → fs.lookup f = none → gs.lookup f = none
  | [], _, .nil, e => rfl
  | (x, u) :: fs, (y, v) :: gs, .cons ⟨e1, r⟩ t, e => by
    cases e1
    simp only [List.lookup] at e ⊢
    split at e
    · cases e
    · exact RF.none t e
section
variable {X : Cx} {Wx : WJ} {m : Str} {tb : List (Str × MF)} {o e : Expr} {es : List Expr} {mo : ME} {mas : MA} {k : Nat} {ps : List Str} {apos pos p : Pos} {x : Str}
/-- o.m(e, ..) -/
theorem de_meth {pl : Sem Bool} (T : ∀ q ∈ tb, MtF X.prog X.w X.K X.mg X.base k m ps q) (rm : RmG k X.A) (tk : Takes X Wx.W) (ho : DE X Wx o mo) (ha : DA X Wx (e :: es) mas)
    (hst : starEach (e :: es) X.env = (false, eval e X.env) :: starEach es X.env := by rfl) (hpl : (backTo pos (starEach es X.env)).any (·.1) = false := by rfl) (hl : (e :: es).length + 1 = ps.length := by rfl)
    (ht : eval (.Call (.Attribute o m apos) (e :: es) [] pos) X.env = (do
      let ov ← eval o X.env
      standAt apos.atName
      let (f, first) ← holding [ov] (getMethod ov m pl)
      callWith pos f first (backTo pos (starEach (e :: es) X.env)) (backToKw pos (keywordEach [] X.env))) := by rfl)
    (hlen : ∀ s h ws h1, mas s h = .ok ws h1 → ws.length = (e :: es).length := by intro s h ws h1 e1; exact ma_len e1) :
    DE X Wx (.Call (.Attribute o m apos) (e :: es) [] pos) (mMeth m tb mo mas) := by
  refine ⟨fun pins s σ H Q I ⟨ι, sl, h, S, R, A⟩ => methcall_of (pl := pl) ho I ?_ ht⟩
  refine ⟨ι, sl, h, S, R, A.bind.imp (fun ι1 h1 H1 w p1 g1 S1 A1 v rv => ?_) idX⟩
  split at A1
  · rename_i i C fs ei
    obtain ⟨a, dx, gs, rfl, rfl, hia, hx, hc, e1, e2⟩ := insW_at S1 rv ei
    split at A1
    · rename_i nf
      obtain ⟨q, hq, rfl, eM⟩ := lookM_mem hc
      obtain ⟨c, g, fd, mt, F, hb, -⟩ := T q hq
      rw [eM] at A1
      refine ⟨a, _, dx, gs, g, rfl, e1, c, mt, e2.none nf, fun s1 I1 => ?_⟩
      have R1 := R.mono p1 g1
      have qa : tDA X.K Wx mas σ H1 (fun vs H2 => spM X.K ps.length q.2 (.ref a :: vs) H2 Q (fun c d H' => Wx.W c d σ H')) := by
        refine ⟨ι1, sl, h1, S1, R1, ?_⟩
        have B := After.bind (K := X.K) A1
        revert B
        generalize hr : mas sl h1 = res
        intro B
        cases res with
        | bad => exact B
        | exc C' fs' s' h' => exact B
        | ok ws h2 =>
          have n1 := hlen _ _ _ _ hr
          exact fun ι2 H2 p2 g2 S2 vs r => ⟨ι2, .ref i :: ws, h2, by rw [List.length_cons, ← r.length, n1, hl], S2, .cons (.ref (getElem?_pre p2 hia)) r, (B ι2 H2 p2 g2 S2).imp (fun _ _ _ _ _ _ _ z => z) fun _ _ _ _ _ _ _ z => z⟩
      refine PySem.W.callWith_K (first := [.ref a]) (h₀ := X.base) I.ok.mod.kin mt.kp (thn (ha.run pos pins s1 σ H1 _ I1 qa) fun us s2 ⟨vs, H2, I2, r, q2⟩ => ⟨I2.kIn, ?_⟩) hst hpl
      refine wpAny_call (go_fn F rm tk I2 (us := .ref a :: us) (vs := .ref a :: vs) (.cons rfl r) (fun n => ?_) q2)
      have b := hb s2 (.ref a :: us) I2.kIn (by rw [List.append_nil]; exact n)
      rw [List.append_nil] at b
      exact b
    · exact A1.elim
  · exact A1.elim
/-- o.m() -/
theorem de_meth0 {pl : Sem Bool} (T : ∀ q ∈ tb, MtF X.prog X.w X.K X.mg X.base k m ps q) (rm : RmG k X.A) (tk : Takes X Wx.W) (ho : DE X Wx o mo) (hl : 1 = ps.length := by rfl)
    (ht : eval (.Call (.Attribute o m apos) [] [] pos) X.env = (do
      let ov ← eval o X.env
      standAt apos.atName
      let (f, first) ← holding [ov] (getMethod ov m pl)
      callWith pos f first (backTo pos (starEach [] X.env)) (backToKw pos (keywordEach [] X.env))) := by rfl) :
    DE X Wx (.Call (.Attribute o m apos) [] [] pos) (mMeth m tb mo mNil) := by
  refine ⟨fun pins s σ H Q I ⟨ι, sl, h, S, R, A⟩ => methcall_of (pl := pl) ho I ?_ ht⟩
  refine ⟨ι, sl, h, S, R, A.bind.imp (fun ι1 h1 H1 w p1 g1 S1 A1 v rv => ?_) idX⟩
  split at A1
  · rename_i i C fs ei
    obtain ⟨a, dx, gs, rfl, rfl, hia, hx, hc, e1, e2⟩ := insW_at S1 rv ei
    split at A1
    · rename_i nf
      obtain ⟨q, hq, rfl, eM⟩ := lookM_mem hc
      obtain ⟨c, g, fd, mt, F, hb, -⟩ := T q hq
      rw [eM] at A1
      refine ⟨a, _, dx, gs, g, rfl, e1, c, mt, e2.none nf, fun s1 I1 => ?_⟩
      refine PySem.W.callWith_K0 (first := [.ref a]) I1.kIn mt.kp (wpAny_call (go_fn F rm tk I1 (us := [.ref a]) (vs := [.ref a]) (.cons rfl .nil) (fun n => ?_) ⟨ι1, [.ref i], h1, hl, S1, .cons (.ref hia) .nil, A1.imp (fun _ _ _ _ _ _ _ z => z) fun _ _ _ _ _ _ _ z => z⟩))
      have b := hb s1 [.ref a] I1.kIn (by rw [List.append_nil]; exact n)
      rw [List.append_nil] at b
      exact b
    · exact A1.elim
  · exact A1.elim
/-! ### C(e, ..) -/
def madeR (n : Nat) : Rs W → Rs W
  | .ok .non h => .ok (.ref n) h
  | .exc C fs s h => .exc C fs s h
  | _ => .bad
@[simp] theorem madeR_ok {n : Nat} {h : HH} : madeR n (.ok .non h) = .ok (.ref n) h := rfl
@[simp] theorem madeR_exc {n : Nat} {h : HH} {C fs s} : madeR n (.exc C fs s h) = .exc C fs s h := rfl
@[simp] def mMake (C : Str) (M : MF) (q : MA) : ME := fun s h => (q s h).bind fun ws h1 => madeR h1.length (M (.ref h1.length :: ws) (h1 ++ [.ins C []]))
/-- what a class must have, and its __init__ -/
structure MkF (P : Program) (w : World) (K : PySem.W.Frag) (mg : Str → Option Value) (base : Heap) (k : Nat) (ps : List Str) (C : Str) (M : MF) : Prop where
  g : mg C = some (.ref (cAt K C))
  ini : ∃ (f : Addr) (fd : FuncData), Mk K (cAt K C) f ∧ FnM P w K mg base k f fd ps M ∧ Binds K fd ps [] ∧ True
theorem go_make {pins : List (Addr × Obj)} {σ : St} {H : Hp} {s : Shared} {Q : VK} {us : List Value} {vs : List V} {ws : List W} {ι : List Addr} {h : HH} {C : Str} {M : MF} {f : Addr} {fd : FuncData} {kw : List (Str × Value)} (mk : Mk X.K (cAt X.K C) f) (F : FnM X.prog X.w X.K X.mg X.base k f fd ps M) (rm : RmG (k + 1) X.A) (tk : Takes X Wx.W)
    (I : Inv X pins σ H s) (S : Sim X.K ι h H) (rw' : RWs X.K ι H ws vs) {as : List Value} (r : Vals vs us) (hl : vs.length + 1 = ps.length) (hb : ∀ s', X.K.In s'.heap → ∀ a : Addr, BindsTo s' fd ⟨.ref a :: as, kw⟩ (ps.zip (.ref a :: us))) (A : After X.K ι H (okV X.K Q) (exE X.K Wx σ) (madeR h.length (M (.ref h.length :: ws) (h ++ [.ins C []])))) :
    wpAny (model X.prog X.w) X.A (call (.ref (cAt X.K C)) as kw) (EP X pins σ Q) X.xe s := by
  have d0 : H s.heap.objs.size = none := I.hok.fresh (Nat.le_refl _)
  have x0 : H (s.heap.objs.size + 1) = none := I.hok.fresh (Nat.le_succ _)
  have nx : s.heap.objs.size + 1 ≠ s.heap.objs.size := Nat.succ_ne_self _
  have x1 : upd H s.heap.objs.size (.own (s.heap.objs.size + 1)) (s.heap.objs.size + 1) = none := by rw [upd_ne nx]; exact x0
  have S1 : Sim X.K ι h (upd H s.heap.objs.size (.own (s.heap.objs.size + 1))) := S.side d0
  have S2 : Sim X.K (ι ++ [s.heap.objs.size + 1]) (h ++ [.ins C []]) (upd (upd H s.heap.objs.size (.own (s.heap.objs.size + 1))) (s.heap.objs.size + 1) (.ins (cAt X.K C) s.heap.objs.size [])) :=
    S1.new x1 ⟨_, [], upd_same, .nil⟩
  have g2 : Grow ι (ι ++ [s.heap.objs.size + 1]) H (upd (upd H s.heap.objs.size (.own (s.heap.objs.size + 1))) (s.heap.objs.size + 1) (.ins (cAt X.K C) s.heap.objs.size [])) := (Grow.side d0).trans (Grow.new x1)
  have J := Inv.made (C := cAt X.K C) I
  have at_ : ∀ {ι' : List Addr}, ι ++ [s.heap.objs.size + 1] <+: ι' → ι'[h.length]? = some (s.heap.objs.size + 1) := fun p => getElem?_pre p (getElem?_last S.len)
  have hq : spM X.K ps.length M (.ref (s.heap.objs.size + 1) :: vs) (upd (upd H s.heap.objs.size (.own (s.heap.objs.size + 1))) (s.heap.objs.size + 1) (.ins (cAt X.K C) s.heap.objs.size [])) (fun v H2 => v = .non ∧ Q (.ref (s.heap.objs.size + 1)) H2) (fun c d H' => Wx.W c d σ H') := by
    refine ⟨_, .ref h.length :: ws, h ++ [.ins C []], by rw [List.length_cons]; exact hl, S2, .cons (.ref (at_ (List.prefix_refl _))) (rw'.mono pre_snoc g2), ?_⟩
    have A := A.le pre_snoc g2
    revert A
    generalize M (.ref h.length :: ws) (h ++ [.ins C []]) = res
    intro A
    cases res with
    | bad => exact A
    | exc C' fs s' h' => exact A
    | ok w h' =>
      cases w with
      | non => exact fun ι' H' p g S' v rv => by cases rv; exact ⟨rfl, A ι' H' p g S' _ (.ref (at_ p))⟩
      | _ => exact A.elim
  refine wpAny_call (make_map (f := f) I.kIn mk.makes mk.init (beq_iff_eq.mp mk.fn) (codeAny_mono (F.go _ X.stack _ _ ⟨.ref (s.heap.objs.size + 1) :: as, kw⟩ (.ref (s.heap.objs.size + 1) :: us) _ _ _ ⟨rm.r.make _ as kw, rm.g⟩ (J.env0.make _ as kw) (hb _ J.kIn _) (show Vals (.ref (s.heap.objs.size + 1) :: vs) (.ref (s.heap.objs.size + 1) :: us) from .cons rfl r) hq) fun res y hy => ?_))
  cases res with
  | error er => exact tk er y (XE.of_call J (fun c d H' z => z) (show L2N.CX X.prog X.w X.stack _ _ (fun c d H' => Wx.W c d σ H') er y from hy))
  | ok fl =>
    cases fl with
    | ret u =>
      obtain ⟨v, H', J', rv, e, q⟩ := J.after hy
      cases e
      exact ⟨rv, .ref (s.heap.objs.size + 1), H', J', rfl, q⟩
    | next => exact hy.elim
    | brk => exact hy.elim
    | cont => exact hy.elim
theorem de_make {C : Str} {M : MF} (T : MkF X.prog X.w X.K X.mg X.base k ps C M) (rm : RmG (k + 1) X.A) (tk : Takes X Wx.W) (hg : Gl X C) (ha : DA X Wx (e :: es) mas) (hdb : (C == ("__debug__" : Str)) = false := by decide)
    (he : starEach (e :: es) X.env = (false, eval e X.env) :: starEach es X.env := by rfl) (hpl : (backTo pos (starEach es X.env)).any (·.1) = false := by rfl) (hl : (e :: es).length + 1 = ps.length := by rfl)
    (hlen : ∀ s h ws h1, mas s h = .ok ws h1 → ws.length = (e :: es).length := by intro s h ws h1 e1; exact ma_len e1) :
    DE X Wx (.Call (.Name C p) (e :: es) [] pos) (mMake C M mas) := by
  obtain ⟨f, fd, mk, F, hb, -⟩ := T.ini
  refine ⟨fun pins s σ H Q I ⟨ι, sl, h, S, R, A⟩ => ?_⟩
  refine wpAny_Call_Name_kw (ld_glob I hg T.g ?_ hdb)
  have qa : tDA X.K Wx mas σ H (fun vs H1 => ∃ ι ws h, vs.length + 1 = ps.length ∧ Sim X.K ι h H1 ∧ RWs X.K ι H1 ws vs ∧ After X.K ι H1 (okV X.K Q) (exE X.K Wx σ) (madeR h.length (M (.ref h.length :: ws) (h ++ [.ins C []])))) := by
    refine ⟨ι, sl, h, S, R, ?_⟩
    have B := After.bind (K := X.K) A
    revert B
    generalize hr : mas sl h = res
    intro B
    cases res with
    | bad => exact B
    | exc C' fs' s' h' => exact B
    | ok ws h2 =>
      have n1 := hlen _ _ _ _ hr
      exact fun ι2 H2 p2 g2 S2 vs r => ⟨ι2, ws, h2, by rw [← r.length, n1, hl], S2, r, B ι2 H2 p2 g2 S2⟩
  refine PySem.W.callWith_K (h₀ := X.base) I.ok.mod.kin mk.kp (thn (ha.run pos pins s σ H _ I qa) fun us s1 ⟨vs, H1, I1, r, ι1, ws, h1, n1, S1, rw1, A1⟩ => ⟨I1.kIn, ?_⟩) he hpl
  refine go_make mk F rm tk I1 S1 rw1 r n1 (fun s' k a => ?_) A1
  have b := hb s' (.ref a :: us) k (by rw [List.append_nil, List.length_cons, ← r.length]; exact n1)
  rw [List.append_nil] at b
  exact b
end
end D
/-! D: dicts with whole numbers and texts as keys: in, get, put; slices stored; whole slices of tuples. -/
namespace D
open PySem PySem.Spec PyProof.Rows L2
/-! ### dicts -/
def lookK (kvs : List (Key × W)) (k : Key) : Option W := (kvs.find? fun kv => decide (kv.1 = k)).map (·.2)
def putKW (kvs : List (Key × W)) (k : Key) (v : W) : List (Key × W) :=
  if (kvs.any fun kv => decide (kv.1 = k)) = true then kvs.map (fun kv => if kv.1 = k then (kv.1, v) else kv) else kvs ++ [(k, v)]
@[simp] theorem lookK_nil {k : Key} : lookK [] k = none := rfl
theorem lookK_snoc (k j : Key) (y : W) : ∀ kvs : List (Key × W), lookK kvs k = none → lookK (kvs ++ [(k, y)]) j = if j = k then some y else lookK kvs j
  | [], _ => by
    by_cases h : j = k
    · subst h; simp [lookK]
    · have : ¬ k = j := fun e => h e.symm
      simp [lookK, h, this]
  | p :: r, e => by
    have hp : ¬ p.1 = k := fun q => by simp [lookK, q] at e
    have e' : lookK r k = none := by simpa [lookK, hp] using e
    have ih := lookK_snoc k j y r e'
    by_cases hj : p.1 = j
    · have : ¬ j = k := fun q => hp (hj.trans q)
      simp [lookK, hj, this]
    · simpa [lookK, hj] using ih
theorem any_lookK (k : Key) : ∀ kvs : List (Key × W), (kvs.any fun kv => decide (kv.1 = k)) = (lookK kvs k).isSome
  | [] => rfl
  | p :: r => by
    by_cases h : p.1 = k
    · simp [lookK, h]
    · have := any_lookK k r
      simpa [lookK, h] using this
theorem putKW_new {kvs : List (Key × W)} {k : Key} (v : W) (h : lookK kvs k = none) : putKW kvs k v = kvs ++ [(k, v)] := by
  unfold putKW; rw [any_lookK, h]; rfl
section
variable {K : PySem.W.Frag} {ι : List Addr} {H : Hp}
theorem RK.look {k : Key} : ∀ {kvs : List (Key × W)} {gs : List (Key × V)}, RK K ι H kvs gs → (∀ w, lookK kvs k = some w → ∃ v, valV gs k = some v ∧ RW K ι H w v) ∧ (lookK kvs k = none → valV gs k = none)
  | [], _, .nil => ⟨fun w e => (by cases e), fun _ => rfl⟩
  | (x, u) :: kvs, (y, v) :: gs, .cons ⟨e, r⟩ t => by
    cases e
    by_cases h : x = k
    · refine ⟨fun w q => ?_, fun q => ?_⟩
      · have : u = w := by simpa [lookK, h] using q
        subst this
        exact ⟨v, by simp [valV, h], r⟩
      · simp [lookK, h] at q
    · have ih := RK.look (k := k) t
      refine ⟨fun w q => ?_, fun q => ?_⟩
      · obtain ⟨v', e', r'⟩ := ih.1 w (by simpa [lookK, h] using q)
        exact ⟨v', by simpa [valV, h] using e', r'⟩
      · simpa [valV, h] using ih.2 (by simpa [lookK, h] using q)
theorem RK.any {k : Key} : ∀ {kvs : List (Key × W)} {gs : List (Key × V)}, RK K ι H kvs gs → (kvs.any fun kv => decide (kv.1 = k)) = gs.any fun kv => decide (kv.1 = k)
  | [], _, .nil => rfl
  | (x, u) :: kvs, (y, v) :: gs, .cons ⟨e, r⟩ t => by
    cases e
    simp only [List.any_cons, RK.any t]
theorem RK.repl {k : Key} {w : W} {v : V} (q : RW K ι H w v) : ∀ {kvs : List (Key × W)} {gs : List (Key × V)}, RK K ι H kvs gs → RK K ι H (kvs.map fun kv => if kv.1 = k then (kv.1, w) else kv) (gs.map fun kv => if kv.1 = k then (kv.1, v) else kv)
  | [], _, .nil => .nil
  | (x, u) :: kvs, (y, z) :: gs, .cons ⟨e, r⟩ t => by
    cases e
    by_cases h : x = k
    · simp only [List.map_cons, h, if_true]
      exact .cons ⟨rfl, q⟩ (RK.repl q t)
    · simp only [List.map_cons, h, if_false]
      exact .cons ⟨rfl, r⟩ (RK.repl q t)
theorem RK.app : ∀ {kvs kvs2 : List (Key × W)} {gs gs2 : List (Key × V)}, RK K ι H kvs gs → RK K ι H kvs2 gs2 → RK K ι H (kvs ++ kvs2) (gs ++ gs2)
  | [], _, _, _, .nil, r => r
  | _ :: _, _, _ :: _, _, .cons a t, r => .cons a (RK.app t r)
theorem RK.put {k : Key} {w : W} {v : V} (q : RW K ι H w v) {kvs : List (Key × W)} {gs : List (Key × V)} (r : RK K ι H kvs gs) : RK K ι H (putKW kvs k w) (putK gs k v) := by
  unfold putKW putK
  rw [r.any]
  split
  · exact r.repl q
  · exact r.app (.cons ⟨rfl, q⟩ .nil)
theorem RK.len {kvs : List (Key × W)} {gs : List (Key × V)} (r : RK K ι H kvs gs) : kvs.length = gs.length := Paired.length r
end
/-- the dict that a value leads to -/
def dicW (w : W) (h : HH) : Option (List (Key × W)) := match w with
  | .ref i => match h[i]? with
    | some (.dK kvs) => some kvs
    | _ => none
  | _ => none
@[simp] theorem dicW_ref {i : Nat} {h : HH} : dicW (.ref i) h = match h[i]? with
    | some (.dK kvs) => some kvs
    | _ => none := rfl
theorem dic_at {K : PySem.W.Frag} {ι : List Addr} {H : Hp} {h : HH} {w : W} {v : V} {kvs : List (Key × W)} (S : Sim K ι h H) (r : RW K ι H w v) (e : dicW w h = some kvs) :
    ∃ i a gs, w = .ref i ∧ v = .ref a ∧ ι[i]? = some a ∧ H a = some (.dK gs) ∧ RK K ι H kvs gs := by
  unfold dicW at e
  split at e
  · split at e
    · rename_i j kvs' hx
      cases e
      cases r with
      | ref ha =>
      obtain ⟨b, hb, gs, e1, e2⟩ := S.at hx
      rw [ha] at hb; cases hb
      exact ⟨_, _, gs, rfl, rfl, ha, e1, e2⟩
    · cases e
  · cases e
@[simp] theorem kW_int {i : Int} : kW (.int i) = some (.inl i) := rfl
@[simp] theorem kW_str {x : Str} : kW (.str x) = some (.inr x) := rfl
def gDIn (x y : W) (h : HH) : Rs W := match kW x, dicW y h with
  | some k, some kvs => .ok (.bl (lookK kvs k).isSome) h
  | _, _ => .bad
def gDNotIn (x y : W) (h : HH) : Rs W := match kW x, dicW y h with
  | some k, some kvs => .ok (.bl (!(lookK kvs k).isSome)) h
  | _, _ => .bad
def gDGet (x y : W) (h : HH) : Rs W := match dicW x h, kW y with
  | some kvs, some k => match lookK kvs k with
    | some w => .ok w h
    | none => .bad
  | _, _ => .bad
def gDPut (x y w : W) (h : HH) : Rs Unit := match x, kW y with
  | .ref i, some k => match h[i]? with
    | some (.dK kvs) => if kvs.length < lim then .ok () (h.set i (.dK (putKW kvs k w))) else .bad
    | _ => .bad
  | _, _ => .bad
section
variable {X : Cx} {Wx : WJ} {pos : Pos} {o i e : Expr} {mo mi me : ME}
theorem dop_din (hu : X.A.units + 64 < cLine) : DOp X (compareOp .In) gDIn := fun pins s σ H x y v u Q I rx ry ⟨ι, h, w, z, S, rw', rz, A⟩ => by
  unfold gDIn at A
  split at A
  · rename_i k kvs e1 e2
    obtain rfl := kW_at rw' e1
    obtain ⟨j, a, gs, rfl, rfl, ha, hd, rk⟩ := dic_at S rz e2
    obtain rfl : u = Value.ref a := ry
    refine d_in (by omega) I (DGet.k hd) rx fun s' I' => ⟨.bl _, H, I', rfl, ?_⟩
    have hb : (valV gs k).isSome = (lookK kvs k).isSome := by
      cases ek : lookK kvs k with
      | none => rw [(rk.look (k := k)).2 ek]; rfl
      | some w => obtain ⟨v', e', _⟩ := (rk.look (k := k)).1 w ek; rw [e']; rfl
    rw [hb]
    exact A.now S _ (.bl _)
  · exact A.elim
theorem dop_dnotin (hu : X.A.units + 64 < cLine) : DOp X (compareOp .NotIn) gDNotIn := fun pins s σ H x y v u Q I rx ry ⟨ι, h, w, z, S, rw', rz, A⟩ => by
  unfold gDNotIn at A
  split at A
  · rename_i k kvs e1 e2
    obtain rfl := kW_at rw' e1
    obtain ⟨j, a, gs, rfl, rfl, ha, hd, rk⟩ := dic_at S rz e2
    obtain rfl : u = Value.ref a := ry
    refine d_notIn (by omega) I (DGet.k hd) rx fun s' I' => ⟨.bl _, H, I', rfl, ?_⟩
    have hb : (valV gs k).isSome = (lookK kvs k).isSome := by
      cases ek : lookK kvs k with
      | none => rw [(rk.look (k := k)).2 ek]; rfl
      | some w => obtain ⟨v', e', _⟩ := (rk.look (k := k)).1 w ek; rw [e']; rfl
    rw [hb]
    exact A.now S _ (.bl _)
  · exact A.elim
theorem de_dget (hu : X.A.units + 64 < cLine) (ho : DE X Wx o mo) (hi : DE X Wx i mi) (hs : NoSl i := by exact fun _ _ => rfl) : DE X Wx (.Subscript o i pos) (mBin gDGet mo mi) :=
  (pe_dget (by omega) ho hi hs).imp fun σ H Q ⟨ι, s, h, S, R, A⟩ => ⟨ι, s, h, S, R, A.bind.imp (fun ι1 h1 H1 x p1 g1 S1 A1 v rv => ⟨ι1, s, h1, S1, R.mono p1 g1,
    A1.bind.imp (fun ι2 h2 H2 y p2 g2 S2 A2 u ru => by
      unfold gDGet at A2
      split at A2
      · rename_i kvs k e1 e2
        obtain ⟨j, a, gs, rfl, rfl, ha, hd, rk⟩ := dic_at S2 (rv.mono p2 g2) e1
        obtain rfl := kW_at ru e2
        split at A2
        · rename_i w ew
          obtain ⟨v', e', r'⟩ := (rk.look (k := k)).1 w ew
          exact ⟨a, v', rfl, e' ▸ DGet.k hd, A2.cutX.now S2 _ r'⟩
        · exact A2.elim
      · exact A2.elim) idX⟩) idX⟩
@[simp] def sDPt (mo mi me : ME) : MS := fun s h => (atS s (me s h)).bind fun w h1 => (atS s (mo s h1)).bind fun ow h2 => (atS s (mi s h2)).bind fun iw h3 => (cut (gDPut ow iw w h3)).bind fun _ h4 => .ok (.nx, s) h4
theorem ds_dput {pos' : Pos} (hu : X.A.units + 64 < cLine) (ho : DE X Wx o mo) (hi : DE X Wx i mi) (he : DE X Wx e me) (hs : swapsWith e (some (.Subscript o i pos')) pos.line X.env = pure false := by rfl) :
    DS X Wx (.Assign [.Subscript o i pos'] e pos) (sDPt mo mi me) :=
  (ps_dput (by omega) ho hi he hs).imp fun D σ H ⟨ι, s, h, S, R, A⟩ => ⟨ι, s, h, S, R, (A.bind.atS R).imp (fun ι1 h1 H1 w p1 g1 S1 A1 y ry => by
    have R1 := R.mono p1 g1
    refine ⟨ι1, s, h1, S1, R1, (A1.bind.atS R1).imp (fun ι2 h2 H2 ow p2 g2 S2 A2 x rx => ?_) idX⟩
    have R2 := R1.mono p2 g2
    refine ⟨ι2, s, h2, S2, R2, (A2.bind.atS R2).imp (fun ι3 h3 H3 iw p3 g3 S3 A3 z rz => ?_) idX⟩
    have R3 := R2.mono p3 g3
    have A5 := A3.bind.cutX
    unfold gDPut at A5
    split at A5
    · rename_i j k ek
      obtain rfl := kW_at rz ek
      split at A5
      · rename_i kvs hx
        obtain ⟨b, hb, gs, e1, e2⟩ := S3.at hx
        have rx3 := rx.mono p3 g3
        cases rx3 with
        | ref ha =>
        rw [ha] at hb; cases hb
        split at A5
        · rename_i hl
          have ry3 := (ry.mono p2 g2).mono p3 g3
          have gr : Grow ι3 ι3 H3 (upd H3 _ (.dK (putK gs k y))) := Grow.put (List.mem_of_getElem? ha) e1 id
          have S4 := S3.put (o := .dK (putKW kvs k w)) ha ⟨_, upd_same, RK.mono (List.prefix_refl _) gr (RK.put ry3 e2)⟩
          exact ⟨_, _, rfl, DPut.k e1 (by rw [← e2.len]; exact lim_lt hl), (A5 ι3 _ (List.prefix_refl _) gr S4).now S4 σ (R3.mono (List.prefix_refl _) gr)⟩
        · exact A5.elim
      · exact A5.elim
    · exact A5.elim) idX⟩
/-! ### xs[a:c] = ys -/
def gSetSl (x : W) (lo hi : Option Int) (w : W) (h : HH) : Rs Unit := match x, w with
  | .ref i, .ref j => match lo, hi with
    | some a, some c => match h[i]? with
      | some (.lst xs) => match h[j]? with
        | some (.lst ys) => if i ≠ j ∧ 0 ≤ a ∧ a ≤ c ∧ c ≤ xs.length ∧ xs.length + ys.length < lim then .ok () (h.set i (.lst (xs.take a.toNat ++ ys ++ xs.drop c.toNat))) else .bad
        | _ => .bad
      | _ => .bad
    | _, _ => .bad
  | _, _ => .bad
@[simp] def gSS (o : ME) (lo hi : MO) : MG := fun w s h => (cut (o s h)).bind fun ow h1 => (cut (lo s h1)).bind fun a h2 => (cut (hi s h2)).bind fun c h3 => (gSetSl ow a c w h3).bind fun _ h4 => .ok s h4
theorem pg_sl {lo hi : Option Expr} {te : TE} {tl th : TO} {p2 : Pos} {R : V → Option Int → Option Int → V → Hp → (Hp → Prop) → Prop} (ho : PE X o te) (hl : PO X lo tl) (hu : PO X hi th)
    (hr : ∀ x a c y H Q, R x a c y H Q → ∃ l b xs ys i j, x = .ref l ∧ y = .ref b ∧ a = some i ∧ c = some j ∧ H l = some (.lst xs) ∧ H b = some (.lst ys) ∧ l ≠ b ∧ 0 ≤ i ∧ i ≤ j ∧ j ≤ xs.length ∧ xs.length + ys.length ≤ sizeLine ∧ Q (upd H l (.lst (xs.take i.toNat ++ ys ++ xs.drop j.toNat))))
    (ha : ∀ v, assign (.Subscript o (.Slice lo hi none p2) pos) X.env v = (do
      let ov ← holding [v] (eval o X.env)
      let iv ← holding [v, ov] (eval (.Slice lo hi none p2) X.env)
      standAt pos
      holding [v, ov, iv] (setItem ov iv v)
      release [iv, v, ov] []) := by intro _; rfl) :
    PG X (.Subscript o (.Slice lo hi none p2) pos) (fun v σ H Q => te σ H fun x H1 => tl σ H1 fun a H2 => th σ H2 fun c H3 => R x a c v H3 fun H4 => Q σ H4) := by
  refine ⟨fun pins s σ H v u Q I r h => ?_⟩
  rw [ha]
  refine wpAny_bind (wpAny_holding (thn (ho.run pins s σ H _ I h) fun ov s1 ⟨x, H1, I1, r1, q1⟩ => ?_))
  refine wpAny_bind (wpAny_holding (wpAny_Slice (thn (hl.run pins s1 σ H1 _ I1 q1) fun vl s2 ⟨l, H2, I2, pl, q2⟩ => thn (hu.run pins s2 σ H2 _ I2 q2) fun vu s3 ⟨c, H3, I3, pu, q3⟩ => ?_)))
  rw [evalPart_none]
  refine wpAny_pure ?_
  have I4 : Inv X pins σ H3 { s3 with heap := s3.heap.push { cls := .type "slice", data := .fields #[vl, vu, .none] } } := I3.kept (t' := s3.toks) fun b ob q => Heap.get?_push_of_some _ q
  obtain ⟨l', b, xs, ys, i, j, rfl, rfl, rfl, rfl, e1, e2, ne, h0, h1, h2, hz, q4⟩ := hr _ _ _ _ _ _ q3
  cases r1
  cases r
  have pl' : RelV (.int i) vl := by cases pl; exact ⟨_, rfl⟩
  have pu' : RelV (.int j) vu := by cases pu; exact ⟨_, rfl⟩
  refine wpAny_bind (wpAny_standAt (wpAny_bind (wpAny_holding (set_slice I4 e1 e2 ne (Heap.IsSliceOf.new ..) pl' pu' h0 h1 h2 hz fun s5 I5 => ?_))))
  exact wpAny_release ⟨σ, _, I5, q4⟩
theorem dg_sl {lo hi : Option Expr} {ml mu : MO} {p2 : Pos} (ho : DE X Wx o mo) (hl : DO X Wx lo ml) (hu : DO X Wx hi mu)
    (ha : ∀ v, assign (.Subscript o (.Slice lo hi none p2) pos) X.env v = (do
      let ov ← holding [v] (eval o X.env)
      let iv ← holding [v, ov] (eval (.Slice lo hi none p2) X.env)
      standAt pos
      holding [v, ov, iv] (setItem ov iv v)
      release [iv, v, ov] []) := by intro _; rfl) : DG X Wx.J (.Subscript o (.Slice lo hi none p2) pos) (gSS mo ml mu) :=
  (pg_sl (R := fun x a c y H Q => ∃ ι h ow w, Sim X.K ι h H ∧ RW X.K ι H ow x ∧ RW X.K ι H w y ∧ After X.K ι H (fun _ _ H' _ => Q H') exN (gSetSl ow a c w h)) ho hl hu (fun x a c y H Q ⟨ι, h, ow, w, S, ro, rw', A⟩ => by
    unfold gSetSl at A
    split at A
    · rename_i i j
      split at A
      · rename_i a c _
        split at A
        · rename_i xs hx
          split at A
          · rename_i ys hy
            obtain ⟨ad, had, zs, e1, r1⟩ := S.at hx
            obtain ⟨bd, hbd, us, e2, r2⟩ := S.at hy
            cases ro with
            | ref h1 =>
            cases rw' with
            | ref h2 =>
            rw [h1] at had; cases had
            rw [h2] at hbd; cases hbd
            split at A
            · rename_i cc
              have ne : ∀ {a' b' : Addr}, ι[i]? = some a' → ι[j]? = some b' → a' ≠ b' := fun x y z => cc.1 (nodup_at S.nd x (z ▸ y))
              obtain ⟨S2, g2⟩ := put_list S h1 (((r1.take a.toNat).append r2).append (r1.drop c.toNat))
              exact ⟨_, _, zs, us, a, c, rfl, rfl, rfl, rfl, e1, e2, ne h1 h2, cc.2.1, cc.2.2.1, by rw [← r1.length]; exact cc.2.2.2.1, by rw [← r1.length, ← r2.length]; exact Nat.le_of_lt (lim_lt cc.2.2.2.2), A ι _ (List.prefix_refl _) g2 S2⟩
            · exact A.elim
          · exact A.elim
        · exact A.elim
      · exact A.elim
    · exact A.elim) ha).imp fun v σ H Q ⟨ι, s, h, w, S, R, r, A⟩ => ⟨ι, s, h, S, R, A.bind.cut.imp (fun ι1 h1 H1 ow p1 g1 S1 A1 ov rov => ⟨ι1, s, h1, S1, R.mono p1 g1,
    A1.bind.cut.imp (fun ι2 h2 H2 a p2 g2 S2 A2 => ⟨ι2, s, h2, S2, (R.mono p1 g1).mono p2 g2, A2.bind.cut.imp (fun ι3 h3 H3 c p3 g3 S3 A3 => ⟨ι3, h3, ow, w, S3, (rov.mono p2 g2).mono p3 g3, ((r.mono p1 g1).mono p2 g2).mono p3 g3,
      A3.bind.imp (fun ι4 h4 H4 _ p4 g4 S4 A4 => A4.now S4 σ ((((R.mono p1 g1).mono p2 g2).mono p3 g3).mono p4 g4)) idX⟩) idX⟩) idX⟩) idX⟩
/-! ### t[lo:hi], also the whole -/
def gSlA : W → Option Int → Option Int → HH → Rs W
  | .tup xs, lo, hi, h => .ok (.tup (cutW xs lo hi)) h
  | x, lo, hi, h => gSl x lo hi h
@[simp] theorem gSlA_tup {xs : List W} {lo hi : Option Int} {h : HH} : gSlA (.tup xs) lo hi h = .ok (.tup (cutW xs lo hi)) h := rfl
theorem dx_slA : SlR X (fun x lo hi H Q => ∃ ι h w, Sim X.K ι h H ∧ RW X.K ι H w x ∧ After X.K ι H (okV X.K Q) exN (gSlA w lo hi h)) := by
  intro pins s σ H x v vl vu lo hi sl Q I rx hs pl pu q
  obtain ⟨ι, h, w, S, r, A⟩ := q
  unfold gSlA at A
  split at A
  · cases r with
    | tup ht rs =>
      refine sl_tupA pins s σ H _ v vl vu lo hi sl Q I rx hs pl pu ⟨_, _, rfl, ht.sq, fun hw => ?_, fun hw p hp => new_tup S (rs.cut lo hi) A hp⟩
      rw [← rs.length] at hw
      refine A.now S _ ?_
      unfold cutW
      rw [hw.1, hw.2, Nat.sub_zero, List.drop_zero, List.take_length]
      exact .tup ht rs
  · exact dx_sl pins s σ H x v vl vu lo hi sl Q I rx hs pl pu ⟨ι, h, w, S, r, A⟩
@[simp] def mSlA (m : ME) (l u : MO) : ME := fun s h => (m s h).bind fun x h1 => (l s h1).bind fun lo h2 => (u s h2).bind fun hi h3 => D.cut (gSlA x lo hi h3)
theorem de_sliceA {lo hi : Option Expr} {ml mu : MO} {p2 : Pos} (ha : DE X Wx o mo) (hl : DO X Wx lo ml) (hu : DO X Wx hi mu) : DE X Wx (.Subscript o (.Slice lo hi none p2) pos) (mSlA mo ml mu) :=
  (pe_slice dx_slA ha hl hu).imp fun σ H Q ⟨ι, s, h, S, R, A⟩ => ⟨ι, s, h, S, R, A.bind.imp (fun ι1 h1 H1 x p1 g1 S1 A1 v rv => ⟨ι1, s, h1, S1, R.mono p1 g1,
    A1.bind.imp (fun ι2 h2 H2 y p2 g2 S2 A2 => ⟨ι2, s, h2, S2, (R.mono p1 g1).mono p2 g2, A2.bind.imp (fun ι3 h3 H3 z p3 g3 S3 A3 => ⟨ι3, h3, x, S3, (rv.mono p2 g2).mono p3 g3, A3.cut⟩) idX⟩) idX⟩) idX⟩
end
end D
/-! D: powers of any whole number, by bits. -/
namespace D
open PySem PySem.Spec PyProof.Rows L2
def gPowW : W → W → HH → Rs W
  | .int i, .int j, h => if 0 ≤ j ∧ (Builtin.Int.intBits i : Int) * j ≤ 2 ^ 27 then .ok (.int (i ^ j.toNat)) h else .bad
  | _, _, _ => .bad
@[simp] theorem gPowW_int {a b : Int} {h : HH} : gPowW (.int a) (.int b) h = if 0 ≤ b ∧ (Builtin.Int.intBits a : Int) * b ≤ 2 ^ 27 then .ok (.int (a ^ b.toNat)) h else .bad := rfl
variable {X : Cx}
theorem op_powW : OpR X (binaryOp .Pow) (rI (fun i j => 0 ≤ j ∧ (Builtin.Int.intBits i : Int) * j ≤ 2 ^ 27) fun i j => .int (i ^ j.toNat)) := opI fun _ _ _ _ _ _ _ hc q => pow_int hc.1 hc.2 q
theorem dop_powW : DOp X (binaryOp .Pow) gPowW := opr_any fun x y H Q ⟨ι, h, w, z, S, rw', rz, A⟩ => by
  unfold gPowW at A
  split at A
  · cases rw'; cases rz
    split at A
    · rename_i hm; exact ⟨_, op_powW, _, _, rfl, rfl, hm, A.now S _ (.int _)⟩
    · exact A.elim
  · exact A.elim
/-! ### is True -/
def gIsT : W → W → HH → Rs W
  | .non, .bl _, h => .ok (.bl false) h
  | .bl a, .bl b, h => .ok (.bl (a == b)) h
  | _, _, _ => .bad
@[simp] theorem gIsT_bl {a b : Bool} {h : HH} : gIsT (.bl a) (.bl b) h = .ok (.bl (a == b)) h := rfl
@[simp] theorem gIsT_non {b : Bool} {h : HH} : gIsT .non (.bl b) h = .ok (.bl false) h := rfl
theorem dop_isT : DOp X (compareOp .Is) gIsT := fun pins s σ H x y v u Q I rx ry ⟨ι, h, w, z, S, rw', rz, A⟩ => by
  unfold gIsT at A
  split at A
  · cases rw'; cases rz; cases rx; cases ry
    exact wpAny_is_plain rfl (fin_bl I (A.now S _ (.bl _)) rfl)
  · rename_i a b
    cases rw'; cases rz; cases rx; cases ry
    exact wpAny_is_plain rfl (fin_bl I (A.now S _ (.bl _)) (by cases a <;> cases b <;> rfl))
  · exact A.elim
end D
/-! D: isinstance with classes of the text; xs.extend(ys). -/
namespace D
open PySem PySem.Spec PyProof.Rows L2
/-- a class of the text, as isinstance sees it -/
structure IsC (K : PySem.W.Frag) (C : Str) : Prop where
  c : Cls K (cAt K C)
  ha : PySem.W.findIn K (.ref (cAt K C)) "__class__" = some (some (.builtin "object.__class__"))
  hm : PySem.W.mroIn K (cAt K C) (.type "object") = some true
  k : PySem.W.isClsIn K (cAt K C) = true
  t : PySem.W.typeIn K (.ref (cAt K C)) = some (.type "type")
  b : ∀ T ∈ tyNames, PySem.W.subIn K (.type T) (.ref (cAt K C)) = some false
  o : ∀ T ∈ tyNames, PySem.W.subIn K (.ref (cAt K C)) (.type T) = some false
structure IsF (K : PySem.W.Frag) (CL : List Str) : Prop where
  hn : PySem.W.specialIn K (.builtin "object.__class__") "__get__" = some (some (.builtin "getset_descriptor.__get__"))
  tk : PySem.W.takesIn K (.builtin "object.__class__") = some true
  one : ∀ C ∈ CL, IsC K C
  two : ∀ C ∈ CL, ∀ D ∈ CL, C ≠ D → cAt K C ≠ cAt K D ∧ PySem.W.subIn K (.ref (cAt K C)) (.ref (cAt K D)) = some false
/-- a type: a built-in one, or one of the text -/
inductive Ty where
  | b (n : String) | o (C : Str)
def tyC (CL : List Str) (h : HH) (w : W) : Option Ty := match tyW h w with
  | some t => some (.b t)
  | none => match w with
    | .ref i => match h[i]? with
      | some (.ins C _) => if CL.contains C = true then some (.o C) else none
      | _ => none
    | _ => none
def clsOne (CL : List Str) : W → Option Ty
  | .gl C => if CL.contains C = true then some (.o C) else none
  | .ty T => if tyNames.contains T = true then some (.b T) else none
  | _ => none
def isTy : Ty → Ty → Bool
  | .b t, .b T => t == T || (t == "bool" && T == "int")
  | .o C, .o D => C == D
  | _, _ => false
def isTys (CL : List Str) (t : Ty) : List W → Option Bool
  | [] => some false
  | c :: r => match clsOne CL c, isTys CL t r with
    | some T, some b => some (isTy t T || b)
    | _, _ => none
def gIsiC (CL : List Str) : List W → HH → Rs W
  | [w, .tup cs], h => match (tyC CL h w).bind fun t => isTys CL t cs with
    | some b => .ok (.bl b) h
    | none => .bad
  | [w, c], h => match (tyC CL h w).bind fun t => (clsOne CL c).map fun T => isTy t T with
    | some b => .ok (.bl b) h
    | none => .bad
  | _, _ => .bad
def tyV : PySem.W.Frag → Ty → Value
  | _, .b t => .type t
  | K, .o C => .ref (cAt K C)
theorem tyW_names {h : HH} {w : W} {t : String} (e : tyW h w = some t) : t ∈ tyNames := by
  unfold tyW at e
  split at e <;> first | (cases e; decide) | skip
  · split at e <;> first | (cases e; decide) | cases e
  · cases e
theorem tyC_at {K : PySem.W.Frag} {ι : List Addr} {H : Hp} {h : HH} {CL : List Str} (F : IsF K CL) (S : Sim K ι h H) {w : W} {v : V} {t : Ty} (r : RW K ι H w v) (e : tyC CL h w = some t) :
    TyX K H v (tyV K t) ∧ (∀ T, t = .b T → T ∈ tyNames) ∧ (∀ C, t = .o C → C ∈ CL) := by
  unfold tyC at e
  split at e
  · rename_i t' e1
    cases e
    exact ⟨ty_at S r e1, fun T z => (by cases z; exact tyW_names e1), fun C z => (by cases z)⟩
  · split at e
    · rename_i i
      split at e
      · rename_i C fs hx
        split at e
        · rename_i hc
          cases e
          rw [List.contains_iff_mem] at hc
          have f := F.one C hc
          cases r with
          | ref ea =>
            obtain ⟨b, hb, dx, gs, hl, rs⟩ := S.at hx
            rw [ea] at hb; cases hb
            exact ⟨.base (.ins hl f.c f.ha F.hn F.tk f.hm), fun T z => (by cases z), fun C z => (by cases z; exact hc)⟩
        · cases e
      · cases e
    · cases e
theorem clsOne_at {K : PySem.W.Frag} {ι : List Addr} {H : Hp} {CL : List Str} {c : W} {v : V} {T : Ty} (r : RW K ι H c v) (e : clsOne CL c = some T) :
    ClsV v (tyV K T) ∧ (∀ t, T = .b t → t ∈ tyNames) ∧ (∀ C, T = .o C → C ∈ CL) := by
  unfold clsOne at e
  split at e
  · split at e
    · rename_i hc
      cases e; cases r
      rw [List.contains_iff_mem] at hc
      exact ⟨.own _, fun t z => (by cases z), fun C z => (by cases z; exact hc)⟩
    · cases e
  · split at e
    · rename_i hc
      cases e; cases r
      rw [List.contains_iff_mem] at hc
      exact ⟨.ty _, fun t z => (by cases z; exact hc), fun C z => (by cases z)⟩
    · cases e
  · cases e
theorem meta_all : (tyNames.all fun T => PySem.W.kitMeta T) = true := by decide +kernel
theorem kit_two {K : PySem.W.Frag} {CL : List Str} (F : IsF K CL) {t T : Ty} (h1 : ∀ n, t = .b n → n ∈ tyNames) (h2 : ∀ C, t = .o C → C ∈ CL) (h3 : ∀ n, T = .b n → n ∈ tyNames) (h4 : ∀ C, T = .o C → C ∈ CL) :
    PySem.W.kitOne K (tyV K t) (tyV K T) = some (isTy t T) := by
  cases t with
  | b n =>
    cases T with
    | b m => exact kit_ty (isB_ok (by simp only [isB, List.contains_iff_mem.mpr (h1 _ rfl), List.contains_iff_mem.mpr (h3 _ rfl), Bool.and_self, if_true, isTy]))
    | o C =>
      have f := F.one C (h4 _ rfl)
      have q := f.b n (h1 _ rfl)
      unfold PySem.W.kitOne
      have : (tyV K (.b n) == tyV K (.o C)) = false := rfl
      rw [this, if_neg Bool.false_ne_true]
      show PySem.W.kitCls K (.type n) (.ref (cAt K C)) = some false
      unfold PySem.W.kitCls
      simp only
      rw [if_pos, q]
      rw [Bool.and_eq_true]
      exact ⟨f.k, by rw [f.t]; exact beq_self_eq_true _⟩
  | o C =>
    have f := F.one C (h2 _ rfl)
    cases T with
    | b m =>
      have q := f.o m (h3 _ rfl)
      unfold PySem.W.kitOne
      have : (tyV K (.o C) == tyV K (.b m)) = false := rfl
      rw [this, if_neg Bool.false_ne_true]
      show PySem.W.kitCls K (.ref (cAt K C)) (.type m) = some false
      unfold PySem.W.kitCls
      simp only
      rw [if_pos (List.all_eq_true.mp meta_all m (h3 _ rfl)), q]
    | o D =>
      have g := F.one D (h4 _ rfl)
      by_cases e : C = D
      · subst e
        unfold PySem.W.kitOne
        rw [if_pos (beq_self_eq_true _)]
        simp [isTy]
      · have q := F.two C (h2 _ rfl) D (h4 _ rfl) e
        have i : isTy (.o C) (.o D) = false := by simp [isTy, e]
        rw [i]
        unfold PySem.W.kitOne
        split
        · rename_i z
          have z' := eq_of_beq z
          simp only [tyV, Value.ref.injEq] at z'
          exact absurd z' q.1
        · show PySem.W.kitCls K (.ref (cAt K C)) (.ref (cAt K D)) = some false
          unfold PySem.W.kitCls
          simp only
          rw [if_pos, q.2]
          rw [Bool.and_eq_true]
          exact ⟨g.k, by rw [g.t]; exact beq_self_eq_true _⟩
theorem isTys_ok {K : PySem.W.Frag} {ι : List Addr} {H : Hp} {CL : List Str} (F : IsF K CL) {t : Ty} (h1 : ∀ n, t = .b n → n ∈ tyNames) (h2 : ∀ C, t = .o C → C ∈ CL) : ∀ {cs : List W} {vs : List V} {b : Bool}, RWs K ι H cs vs → isTys CL t cs = some b → ∃ us, Paired ClsV vs us ∧ PySem.W.kitAny K (tyV K t) us = some b
  | [], _, _, .nil, e => by cases e; exact ⟨[], .nil, rfl⟩
  | c :: r, _, b, .cons q tl, e => by
    simp only [isTys] at e
    split at e
    · rename_i T b' e1 e2
      cases e
      obtain ⟨us, p, k⟩ := isTys_ok F h1 h2 tl e2
      have z := clsOne_at q e1
      refine ⟨_, .cons z.1 p, kitAny_cons (b := isTy t T) (kit_two F h1 h2 z.2.1 z.2.2) (fun z => ?_) fun z => ?_⟩
      · rw [z]; exact k
      · rw [z]; rfl
    · cases e
section
variable {X : Cx} {Wx : WJ} {CL : List Str}
theorem dc_isiC (F : IsF X.K CL) : DC X (.builtin "isinstance") (gIsiC CL) := callr_any fun vs H Q ⟨ι, h, ws, S, r, A⟩ => by
  unfold gIsiC at A
  split at A
  · obtain ⟨v, u, rfl, rv, ru⟩ := rws2 r
    cases ru with
    | tup hs rs =>
    split at A
    · rename_i b hb
      obtain ⟨t, h1, h2⟩ := Option.bind_eq_some_iff.mp hb
      have z := tyC_at F S rv h1
      obtain ⟨us, p, k⟩ := isTys_ok F z.2.1 z.2.2 rs h2
      rcases hs with hs | ⟨o, its, n, k1, k2, k3, k4, k5⟩
      · exact ⟨_, call_isiT, _, _, _, _, us, b, rfl, hs, p, z.1, k, A.now S _ (.bl _)⟩
      · have e := ClsV.all p k5
        obtain ⟨cls, dd, data, sl⟩ := o
        simp only at k2 k3
        subst k2 k3
        refine ⟨_, call_isiK, _, _, dd, us, n, sl, _, b, rfl, ?_, z.1, k, A.now S _ (.bl _)⟩
        rw [k1, ← e]
    · exact A.elim
  · obtain ⟨v, u, rfl, rv, ru⟩ := rws2 r
    split at A
    · rename_i b hb
      obtain ⟨t, h1, h2⟩ := Option.bind_eq_some_iff.mp hb
      obtain ⟨T, h3, rfl⟩ := Option.map_eq_some_iff.mp h2
      have z := tyC_at F S rv h1
      have y := clsOne_at ru h3
      exact ⟨_, call_isi, _, _, _, _, _, rfl, y.1, z.1, kit_two F z.2.1 z.2.2 y.2.1 y.2.2, A.now S _ (.bl _)⟩
    · exact A.elim
  · exact A.elim
/-- a class of the text as a value -/
theorem de_gcls {x : Str} {pos : Pos} (hm : X.mg x = some (.ref (cAt X.K x))) (hg : Gl X x := by rfl) (hd : (x == ("__debug__" : Str)) = false := by decide) : DE X Wx (.Name x pos) (mC (.gl x)) :=
  de_glob (v := .ref (cAt X.K x)) hg hm rfl (fun _ _ => .gl x) hd
/-! ### xs.extend(ys) -/
theorem ext_tup (l : Addr) (xs : Array Value) (n : Nat) (b : Addr) (ys : Array Value) (m : Nat) (dd : Option Addr) (sl : Array (Option Value)) (ha : ¬(!xs.isEmpty && Builtin.List.listTooLong (xs.size + ys.size)) = true) (hb : xs.size ≤ sizeLine) (hc : xs.size + ys.size ≤ sizeLine + 1) :
    Meets (Builtin.«list.extend» ⟨[.ref l, .ref b], []⟩) (fun _ R s => s.heap.get? l = some ⟨.type "list", none, .seq xs n, #[]⟩ ∧ s.heap.get? b = some ⟨.type "tuple", dd, .seq ys m, sl⟩ ∧ R (.ok (.ret Value.none)) { s with heap := s.heap.update l (Obj.mapSeq fun x => x ++ ys), toks := s.toks }) :=
  .of_wp fun prog w A R s h => by
    obtain ⟨hp, gg, d, tk, os⟩ := s
    obtain ⟨h1, h2, h⟩ := h
    have q1 := sub_tuple_tuple
    have q2 := sub_list_list
    have q3 := sub_tuple_list
    have q4 := sub_list_tuple
    have hz : (xs ++ ys).size ≤ sizeLine + 1 := by rw [Array.size_append]; exact hc
    wp_walk using (wpAny_updateSeq h1 rfl (hz := hb) (_hz' := hz)), wpAny_loadPart' h1, wpAny_loadPart' h2
    exact ⟨_, rfl, h⟩
theorem ext_lst (l : Addr) (xs : Array Value) (n : Nat) (b : Addr) (ys : Array Value) (m : Nat) (dd : Option Addr) (sl : Array (Option Value)) (ha : ¬(!xs.isEmpty && Builtin.List.listTooLong (xs.size + ys.size)) = true) (hb : xs.size ≤ sizeLine) (hc : xs.size + ys.size ≤ sizeLine + 1) :
    Meets (Builtin.«list.extend» ⟨[.ref l, .ref b], []⟩) (fun _ R s => s.heap.get? l = some ⟨.type "list", none, .seq xs n, #[]⟩ ∧ s.heap.get? b = some ⟨.type "list", dd, .seq ys m, sl⟩ ∧ R (.ok (.ret Value.none)) { s with heap := s.heap.update l (Obj.mapSeq fun x => x ++ ys), toks := s.toks }) :=
  .of_wp fun prog w A R s h => by
    obtain ⟨hp, gg, d, tk, os⟩ := s
    obtain ⟨h1, h2, h⟩ := h
    have q1 := sub_tuple_tuple
    have q2 := sub_list_list
    have q3 := sub_tuple_list
    have q4 := sub_list_tuple
    have hz : (xs ++ ys).size ≤ sizeLine + 1 := by rw [Array.size_append]; exact hc
    wp_walk using (wpAny_updateSeq h1 rfl (hz := hb) (_hz' := hz)), wpAny_loadPart' h1, wpAny_loadPart' h2
    exact ⟨_, rfl, h⟩
theorem mt_extendQ : MtR X "list.extend" (fun x vs H Q => ∃ l b xs zs, x = .ref l ∧ vs = [.ref b] ∧ H l = some (.lst xs) ∧ (SqL X.K H b zs ∨ SqT X.K H b zs) ∧ xs.length + zs.length ≤ sizeLine ∧ Q .non (upd H l (.lst (xs ++ zs)))) := by
  intro pins s σ H x xs v us Q I rx rxs h
  obtain ⟨l, b, xs, zs, rfl, rfl, hH, hB, hz, q⟩ := h
  cases rx
  obtain ⟨u, rfl, ru⟩ := rxs.one
  cases ru
  obtain ⟨z, its, n, r, hl, e⟩ := I.lstM hH
  rcases hB with hB | hB
  · obtain ⟨its2, r2, ⟨⟨cls, dd, data, sl⟩, m, e2, hc, hd, hs⟩, z2⟩ := I.list hB
    simp only at hc hs
    subst hc hs
    have h2 := r2.length
    have c1 : its.toArray.size + its2.toArray.size ≤ sizeLine := by rw [List.size_toArray, List.size_toArray]; omega
    refine call_meets PySem.F.slot_list_extend ⟨_, e, rfl⟩ PySem.F.entry_list_extend (PySem.F.args_list_extend_2 _ _) (ext_lst l its.toArray n b its2.toArray m dd sl (by rw [notLongL c1, Bool.and_false]; exact Bool.false_ne_true) (by rw [List.size_toArray]; omega) (by omega)) ⟨e, e2, ?_⟩
    exact ⟨V.non, _, I.lset (its' := its ++ its2) hH e (by simp) (r.append r2) (by rw [List.length_append]; omega), rfl, q⟩
  · obtain ⟨its2, r2, ⟨⟨cls, dd, data, sl⟩, e2, hc, m, hs⟩, z2⟩ := I.tuple hB
    simp only at hc hs
    subst hc hs
    have h2 := r2.length
    have c1 : its.toArray.size + its2.toArray.size ≤ sizeLine := by rw [List.size_toArray, List.size_toArray]; omega
    refine call_meets PySem.F.slot_list_extend ⟨_, e, rfl⟩ PySem.F.entry_list_extend (PySem.F.args_list_extend_2 _ _) (ext_tup l its.toArray n b its2.toArray m dd sl (by rw [notLongL c1, Bool.and_false]; exact Bool.false_ne_true) (by rw [List.size_toArray]; omega) (by omega)) ⟨e, e2, ?_⟩
    exact ⟨V.non, _, I.lset (its' := its ++ its2) hH e (by simp) (r.append r2) (by rw [List.length_append]; omega), rfl, q⟩
def gExtend : W → List W → HH → Rs W
  | .ref i, [w], h => match h[i]?, seqW h w with
    | some (.lst xs), some ys => if xs.length + ys.length ≤ lim then .ok .non (h.set i (.lst (xs ++ ys))) else .bad
    | _, _ => .bad
  | _, _, _ => .bad
theorem dm_extend : MtR X "list.extend" (rDm X.K gExtend) := mtr_any fun x vs H Q ⟨ι, h, w, ws, S, r, rs, A⟩ => by
  unfold gExtend at A
  split at A
  · obtain ⟨v, rfl, rv⟩ := rws1 rs
    cases r with
    | ref ea =>
    split at A
    · rename_i xs ys hx hy
      obtain ⟨b, hb, us, hl, rys⟩ := S.at hx
      rw [ea] at hb; cases hb
      obtain ⟨c, zs, rfl, hc, rzs⟩ := seq_at S rv hy
      split at A
      · rename_i hlen
        obtain ⟨S2, g2⟩ := put_list S ea (rys.append rzs)
        exact ⟨_, mt_extendQ, _, _, _, _, rfl, rfl, hl, hc, by rw [← rys.length, ← rzs.length, sizeLine_eq]; rw [show lim = 4000000 from rfl] at hlen; omega, A ι _ (List.prefix_refl _) g2 S2 _ .non⟩
      · exact A.elim
    · exact A.elim
  · exact A.elim
@[simp] theorem gExtend_ref {h : HH} {i : Nat} {w : W} : gExtend (.ref i) [w] h = match h[i]?, seqW h w with
    | some (.lst xs), some ys => if xs.length + ys.length ≤ lim then .ok .non (h.set i (.lst (xs ++ ys))) else .bad
    | _, _ => .bad := rfl
/-! ### names = a list or a tuple -/
@[simp] def gUnp (n : Nat) (gs : MGs) : MG := fun w s h => match seqW h w with
  | some ws => if ws.length = n then gs ws s h else .bad
  | none => .bad
theorem dg_unp {J : Option EX} {es : List Expr} {k : Nat} {pos : Pos} {n : Nat} {gs : MGs} (hc : X.calm = true) (h : DGs X J es gs) (hn : (assignEach es X.env).length = n := by rfl) (hst : (assignEach es X.env).findIdx? (·.1) = none := by rfl) : DG X J (.Tuple es k pos) (gUnp n gs) :=
  ⟨fun pins st σ H v u Q I rv ⟨ι, s, h', w, S, R, r, A⟩ => by
    unfold gUnp at A
    split at A
    · rename_i ws hw
      obtain ⟨a, ys, rfl, hq, rs⟩ := seq_at S r hw
      split at A
      · rename_i hl
        have e1 : ys.length = n := by rw [← rs.length]; exact hl
        rcases hq with hq | hq
        · exact (pg_unl (n := n) hc h hn hst).run pins st σ H _ u Q I rv ⟨a, ys, rfl, hq, e1, ι, s, h', _, S, R, rs, A⟩
        · exact (pg_tup (n := n) hc h hn hst).run pins st σ H _ u Q I rv ⟨a, ys, rfl, hq, e1, ι, s, h', _, S, R, rs, A⟩
      · exact A.elim
    · exact A.elim⟩
end
end D
/-! D: instances compared by what they are. -/
namespace D
open PySem PySem.Spec PyProof.Rows L2 Builtin
section
variable {prog : Program} {w : World} {A : Around} {E : Value → Shared → Prop} {s : Shared} {K : PySem.W.Frag} {x y C C2 : Addr} {ox oy : Obj} {od od2 : Option Obj}
theorem oeq_other (X : K.In s.heap) (I : PySem.W.InstAt s.heap x ox C od) (hy : s.heap.get? y = some oy) (ne : x ≠ y) (hm : PySem.W.mroIn K C (.type "object") = some true) {Q : Value → Shared → Prop} (hq : Q .notImplemented s) :
    wpAny (model prog w) A (call (.builtin "object.__eq__") [.ref x, .ref y]) Q E s :=
  wpAny_call (codeAny_call_builtin PySem.F.cmp_object.eq.plain PySem.F.cmpEntry_eq (PySem.W.check_slot PySem.F.cmpKind_eq PySem.F.cmpSplit_eq (I.type.andThen (PySem.W.looks_mroIn X hm)) (PySem.F.cmpArgs_eq _ _)
    (objEq_entry_other ne I.at_ hy (by rw [I.cls]; intro z; cases z) hq)))
theorem oeq_same (X : K.In s.heap) (I : PySem.W.InstAt s.heap x ox C od) (hm : PySem.W.mroIn K C (.type "object") = some true) {Q : Value → Shared → Prop} (hq : Q (.bool true) s) :
    wpAny (model prog w) A (call (.builtin "object.__eq__") [.ref x, .ref x]) Q E s :=
  wpAny_call (codeAny_call_builtin PySem.F.cmp_object.eq.plain PySem.F.cmpEntry_eq (PySem.W.check_slot PySem.F.cmpKind_eq PySem.F.cmpSplit_eq (I.type.andThen (PySem.W.looks_mroIn X hm)) (PySem.F.cmpArgs_eq _ _) (objEq_entry_same hq)))
/-- a class as == sees it -/
structure EqC (K : PySem.W.Frag) (C : Addr) : Prop where
  m : PySem.W.mroIn K C (.type "object") = some true
  e : PySem.W.findIn K (.ref C) "__eq__" = some (some (.builtin "object.__eq__"))
theorem try_other (X : K.In s.heap) (I : PySem.W.InstAt s.heap x ox C od) (hy : s.heap.get? y = some oy) (ne : x ≠ y) (c : EqC K C) : wpAny (model prog w) A (tryCompare (.ref x) "__eq__" (.ref y)) (fun r s' => r = none ∧ s' = s) E s := by
  unfold tryCompare
  exact wpAny_bind (HN.ifBound_objEq X I c.e (oeq_other X I hy ne c.m (wpAny_pure ⟨rfl, rfl⟩)))
theorem try_same (X : K.In s.heap) (I : PySem.W.InstAt s.heap x ox C od) (c : EqC K C) : wpAny (model prog w) A (tryCompare (.ref x) "__eq__" (.ref x)) (fun r s' => r = some (.bool true) ∧ s' = s) E s := by
  unfold tryCompare
  exact wpAny_bind (HN.ifBound_objEq X I c.e (oeq_same X I c.m (wpAny_pure ⟨rfl, rfl⟩)))
theorem rc_same (hu : A.units < cLine) (X : K.In s.heap) (I : PySem.W.InstAt s.heap x ox C od) (c : EqC K C) : SeqAt.RcAt A s (.ref x) (.ref x) true := fun prog w E Q h => by
  simp only [richCompare, cmpInfo_Eq, oneThing_ref]
  refine wpAny_holding (wpAny_bind (wpAny_cRoomFor hu ?_))
  refine wpAny_bind (I.type.here ?_)
  refine wpAny_bind (I.type.here ?_)
  simp only [bne_self_eq_false, Bool.false_eq_true, if_false, Bool.not_false, if_true]
  refine wpAny_bind (wpAny_pure ?_)
  simp only [Bool.false_eq_true, if_false, Bool.not_false, if_true]
  refine wpAny_bind (m := tryCompare (.ref x) _ (.ref x)) (wpAny_mono (try_same X I c) (fun r s1 z => ?_) fun _ _ e => e)
  obtain ⟨z1, z2⟩ := z
  subst z1
  subst z2
  exact wpAny_pure h
theorem rc_other (hu : A.units < cLine) (X : K.In s.heap) (I : PySem.W.InstAt s.heap x ox C od) (I2 : PySem.W.InstAt s.heap y oy C2 od2) (ne : x ≠ y) (c : EqC K C) (c2 : EqC K C2) (hs : C ≠ C2 → PySem.W.subIn K (.ref C2) (.ref C) = some false) :
    SeqAt.RcAt A s (.ref x) (.ref y) false := fun prog w E Q h => by
  have nt : ox.cls ≠ .type "tuple" := by rw [I.cls]; intro z; cases z
  simp only [richCompare, cmpInfo_Eq, oneThing_ref]
  refine wpAny_holding (wpAny_bind (wpAny_cRoomFor hu ?_))
  refine wpAny_bind (I.type.here ?_)
  refine wpAny_bind (I2.type.here ?_)
  have rest : wpAny (model prog w) A (do
      if let some v ← tryCompare (.ref x) "__eq__" (.ref y) then return v
      if let some v ← tryCompare (.ref y) "__eq__" (.ref x) then return v
      rule "compare.eq-identity"; return .bool (← isSame (.ref x) (.ref y))) Q E s := by
    refine wpAny_bind (m := tryCompare (.ref x) _ (.ref y)) (wpAny_mono (try_other X I I2.at_ ne c) (fun r s1 z => ?_) fun _ _ e => e)
    obtain ⟨z1, z2⟩ := z
    subst z1
    subst z2
    refine wpAny_bind (m := tryCompare (.ref y) _ (.ref x)) (wpAny_mono (try_other X I2 I.at_ (Ne.symm ne) c2) (fun r s1 z => ?_) fun _ _ e => e)
    obtain ⟨z1, z2⟩ := z
    subst z1
    subst z2
    exact wpAny_bind (wpAny_rule (wpAny_bind (wpAny_isSame_ref_other ne I.at_ I2.at_ nt (wpAny_pure h))))
  split
  · rename_i q
    have cn : C ≠ C2 := fun z => by subst z; simp at q
    refine wpAny_bind ((PySem.W.looks_subIn X (hs cn)).here ?_)
    simp only [Bool.false_eq_true, if_false, Bool.not_false, if_true]
    exact rest
  · refine wpAny_bind (wpAny_pure ?_)
    simp only [Bool.false_eq_true, if_false, Bool.not_false, if_true]
    exact rest
end
/-- what == asks of the classes -/
structure EqF (K : PySem.W.Frag) (CL : List Str) : Prop where
  i : IsF K CL
  e : ∀ C ∈ CL, PySem.W.findIn K (.ref (cAt K C)) "__eq__" = some (some (.builtin "object.__eq__"))
theorem EqF.c {K : PySem.W.Frag} {CL : List Str} (F : EqF K CL) {C : Str} (h : C ∈ CL) : EqC K (cAt K C) := ⟨(F.i.one C h).hm, F.e C h⟩
def gEqI (CL : List Str) : W → W → HH → Rs W
  | .ref i, .ref j, h => match h[i]?, h[j]? with
    | some (.ins C _), some (.ins D _) => if CL.contains C = true ∧ CL.contains D = true then .ok (.bl (decide (i = j))) h else .bad
    | _, _ => gEq (.ref i) (.ref j) h
  | x, y, h => gEq x y h
section
variable {X : Cx} {Wx : WJ} {CL : List Str}
theorem op_rc {x y : V} (pins : List (Addr × Obj)) (s : Shared) (σ : St) (H : Hp) (v u : Value) (Q : VK) (I : Inv X pins σ H s) {b : Bool} (r : SeqAt.RcAt X.A s v u b) (q : Q (.bl b) H) :
    wpAny (model X.prog X.w) X.A (compareOp .Eq v u) (EP X pins σ Q) X.xe s :=
  PySem.W.cmp_ofEq (r X.prog X.w _ _ ⟨.bl b, H, I, rfl, q⟩)
theorem dop_eqI (F : EqF X.K CL) (hu : X.A.units + 64 < cLine) : DOp X (compareOp .Eq) (gEqI CL) := by
  intro pins s σ H x y v u Q I rx ry ⟨ι, h, w, z, S, rw', rz, A⟩
  unfold gEqI at A
  split at A
  · rename_i h i j
    split at A
    · rename_i C fs D gs h1 h2
      split at A
      · rename_i hc
        rw [List.contains_iff_mem, List.contains_iff_mem] at hc
        cases rw' with
        | ref ea =>
        cases rz with
        | ref eb =>
        obtain ⟨a, ha, dx, gs1, hl, r1⟩ := S.at h1
        obtain ⟨b, hb, dx2, gs2, hl2, r2⟩ := S.at h2
        rw [ea] at ha; cases ha
        rw [eb] at hb; cases hb
        cases rx; cases ry
        obtain ⟨m1, O1, _⟩ := ins_get I.hok hl
        obtain ⟨od1, J1, _⟩ := O1.look
        obtain ⟨m2, O2, _⟩ := ins_get I.hok hl2
        obtain ⟨od2, J2, _⟩ := O2.look
        have q := A.now S (.bl (decide (i = j))) (.bl _)
        by_cases e : i = j
        · subst e
          rw [ea] at eb; cases eb
          refine op_rc (x := .non) (y := .non) pins s σ H _ _ Q I (rc_same (by omega) I.kIn J1 (F.c hc.1)) ?_
          simpa using q
        · have ne : ∀ a b : Addr, ι[i]? = some a → ι[j]? = some b → a ≠ b := fun a b ea eb z => by
            subst z
            obtain ⟨l1, g1⟩ := List.getElem?_eq_some_iff.mp ea
            obtain ⟨l2, g2⟩ := List.getElem?_eq_some_iff.mp eb
            exact e ((List.getElem_inj S.nd).mp (g1.trans g2.symm))
          refine op_rc (x := .non) (y := .non) pins s σ H _ _ Q I (rc_other (by omega) I.kIn J1 J2 (ne _ _ ea eb) (F.c hc.1) (F.c hc.2) fun cn => ?_) ?_
          · by_cases cd : D = C
            · subst cd; exact absurd rfl cn
            · exact (F.i.two D hc.2 C hc.1 cd).2
          · simpa [e] using q
      · exact A.elim
    · exact (dop_eq hu) pins s σ H _ _ v u Q I rx ry ⟨ι, _, _, _, S, rw', rz, A⟩
  · exact (dop_eq hu) pins s σ H _ _ v u Q I rx ry ⟨ι, _, _, _, S, rw', rz, A⟩
/-! ### xs.index(y), xs of instances -/
def insI (CL : List Str) (h : HH) : W → Option Nat
  | .ref i => match h[i]? with
    | some (.ins C _) => if CL.contains C = true then some i else none
    | _ => none
  | _ => none
def gIndexI (CL : List Str) : W → List W → HH → Rs W
  | x, [y], h => match insI CL h y, (lstW h x).bind fun ws => optAll (ws.map (insI CL h)) with
    | some k, some is => match is.findIdx? (fun i => decide (i = k)) with
      | some j => if is.length < 1000000 then .ok (.int (j : Nat)) h else .bad
      | none => .bad
    | _, _ => .bad
  | _, _, _ => .bad
theorem insI_at {K : PySem.W.Frag} {ι : List Addr} {H : Hp} {h : HH} (S : Sim K ι h H) {w : W} {v : V} {i : Nat} (r : RW K ι H w v) (e : insI CL h w = some i) : ∃ a C dx gs, v = .ref a ∧ ι[i]? = some a ∧ C ∈ CL ∧ H a = some (.ins (cAt K C) dx gs) := by
  unfold insI at e
  split at e
  · split at e
    · rename_i C fs hx
      split at e
      · rename_i hc
        cases e
        cases r with
        | ref ea =>
        obtain ⟨a, ha, dx, gs, hl, rs⟩ := S.at hx
        rw [ea] at ha; cases ha
        exact ⟨_, C, dx, gs, rfl, ea, by rw [← List.contains_iff_mem]; exact hc, hl⟩
      · cases e
    · cases e
  · cases e
theorem eqAt_ins (F : EqF X.K CL) {A : Around} {pins : List (Addr × Obj)} {σ : St} {H : Hp} {s : Shared} (I : Inv X pins σ H s) (hu : A.units < cLine) {a b : Addr} {C D : Str} {dx dx2 : Addr} {gs gs2 : List (Str × V)} (hc : C ∈ CL) (hd : D ∈ CL) (ha : H a = some (.ins (cAt X.K C) dx gs)) (hb : H b = some (.ins (cAt X.K D) dx2 gs2)) :
    SeqAt.EqAt A s (.ref a) (.ref b) (decide (a = b)) := by
  by_cases e : a = b
  · subst e
    simp only [decide_true]
    exact SeqAt.EqAt.same _
  · obtain ⟨m1, O1, _⟩ := ins_get I.hok ha
    obtain ⟨od1, J1, _⟩ := O1.look
    obtain ⟨m2, O2, _⟩ := ins_get I.hok hb
    obtain ⟨od2, J2, _⟩ := O2.look
    have q := rc_other hu I.kIn J1 J2 e (F.c hc) (F.c hd) fun cn => by
      by_cases cd : D = C
      · subst cd; exact absurd rfl cn
      · exact (F.i.two D hd C hc cd).2
    simp only [e, decide_false]
    intro prog w E Q h
    unfold eqBool
    refine wpAny_holding ?_
    refine wpAny_ite_split (fun hab => ?_) (fun _ => ?_)
    · have := eq_of_beq hab
      cases this
      exact absurd rfl e
    · exact wpAny_bind (q prog w E _ (wpAny_truthy_bool h))
theorem insIs_at {K : PySem.W.Frag} {ι : List Addr} {H : Hp} {h : HH} (S : Sim K ι h H) : ∀ {ls : List W} {ys : List V} {is : List Nat}, RWs K ι H ls ys → optAll (ls.map (insI CL h)) = some is →
    is.length = ys.length ∧ ∀ (m : Nat) (z : V), ys[m]? = some z → ∃ i a C dx gs, is[m]? = some i ∧ z = .ref a ∧ ι[i]? = some a ∧ C ∈ CL ∧ H a = some (.ins (cAt K C) dx gs)
  | [], _, is, .nil, e => by
    cases e
    exact ⟨rfl, fun m z q => by simp at q⟩
  | w :: ls, _, is, .cons r t, e => by
    obtain ⟨x, t', e1, e2, rfl⟩ := optAll_cons (by simpa using e)
    have ih := insIs_at S t e2
    refine ⟨by simp [ih.1], fun m z q => ?_⟩
    cases m with
    | zero =>
      obtain ⟨a, C, dx, gs, rfl, h2, h3, h4⟩ := insI_at S r e1
      simp at q
      exact ⟨x, a, C, dx, gs, rfl, q.symm, h2, h3, h4⟩
    | succ m =>
      obtain ⟨i, a, C, dx, gs, q1, q2⟩ := ih.2 m z (by simpa using q)
      exact ⟨i, a, C, dx, gs, by simpa using q1, q2⟩
theorem ref_of : ∀ {ys : List V} {its : List Value}, Vals ys its → ∀ (m : Nat) (a : Addr), ys[m]? = some (.ref a) → its[m]? = some (.ref a)
  | _, _, .nil, m, a, e => by simp at e
  | _, _, .cons r t, 0, a, e => by
    simp at e
    subst e
    cases r
    rfl
  | _, _, .cons r t, m + 1, a, e => by simpa using ref_of t m a (by simpa using e)
theorem dm_indexI (F : EqF X.K CL) (hu : X.A.units + 64 < cLine) : MtR X "list.index" (rDm X.K (gIndexI CL)) := by
  intro pins s σ H x xs v us Q I rx rxs ⟨ι, h, w, ws, S, r, rs, A⟩
  unfold gIndexI at A
  split at A
  · obtain ⟨yv, rfl, ry⟩ := rws1 rs
    split at A
    · rename_i k is e1 e2
      split at A
      · rename_i j hj
        split at A
        · rename_i hl
          obtain ⟨ls, e3, e4⟩ := Option.bind_eq_some_iff.mp e2
          obtain ⟨a, ys, rfl, hs, rys⟩ := lst_at S r e3
          obtain ⟨b, D, dx2, gs2, rfl, kb, hd, hb⟩ := insI_at S ry e1
          have al := insIs_at S rys e4
          have q := A.now S (.int (j : Nat)) (.int _)
          cases rx
          cases rxs with
          | cons rb rt =>
          cases rt
          cases rb
          obtain ⟨its, rv, ⟨⟨cls, dd, data, sl⟩, n, ho, hc, hdn, hdt⟩, hlen⟩ := I.list hs
          simp only at hc hdt
          subst hc hdt
          obtain ⟨jl, jk, jn⟩ := List.findIdx?_eq_some_iff_getElem.mp hj
          have lv := rv.length
          have jy : j < ys.length := by rw [← al.1]; exact jl
          have ji : j < its.length := by omega
          have inj : ∀ (i i' : Nat) (p : Addr), ι[i]? = some p → ι[i']? = some p → i = i' := fun i i' p q1 q2 => by
            obtain ⟨l1, g1⟩ := List.getElem?_eq_some_iff.mp q1
            obtain ⟨l2, g2⟩ := List.getElem?_eq_some_iff.mp q2
            exact (List.getElem_inj S.nd).mp (g1.trans g2.symm)
          have val : ∀ m (hm : m < its.length), ∃ i p, is[m]? = some i ∧ ι[i]? = some p ∧ its[m] = .ref p := fun m hm => by
            have hy : m < ys.length := by omega
            obtain ⟨i, p, C, dx, gs, q1, q2, q3, q4, q5⟩ := al.2 m _ (List.getElem?_eq_getElem hy)
            have := ref_of rv m p (by rw [List.getElem?_eq_getElem hy, q2])
            rw [List.getElem?_eq_getElem hm] at this
            exact ⟨i, p, q1, q3, Option.some.inj this⟩
          have hsl := sizeLine_eq
          refine call_meets PySem.F.slot_list_index ⟨_, ho, rfl⟩ PySem.F.entry_list_index (PySem.F.args_list_index_2 _ _)
            (SeqAt.list_indexAt a its.toArray n dd sl (.ref b) (fun u => decide (u = .ref b)) j (by simpa using ji) (by omega) ?_ ?_) ⟨ho, fun u' hu' => ?_, ?_⟩
          · obtain ⟨i, p, q1, q2, q3⟩ := val j ji
            rw [List.getElem?_eq_getElem jl] at q1
            have ik : i = k := by
              have := Option.some.inj q1
              simp at jk
              omega
            subst ik
            rw [kb] at q2
            have e : its.toArray[j]'(by simpa using ji) = .ref b := by
              have : its[j] = .ref b := by rw [q3]; cases q2; rfl
              simpa using this
            simp [e]
          · intro m hm hmj
            have hm' : m < its.length := by simpa using hm
            obtain ⟨i, p, q1, q2, q3⟩ := val m hm'
            have ne : i ≠ k := fun z => by
              have g := jn m hmj
              have hmi : m < is.length := by omega
              rw [List.getElem?_eq_getElem hmi] at q1
              simp at g
              exact g ((Option.some.inj q1).trans z)
            have e : its.toArray[m] = .ref p := by simpa using q3
            simp only [e, decide_eq_false_iff_not]
            intro z
            cases z
            exact ne (inj _ _ _ q2 kb)
          · obtain ⟨m, hm, rfl⟩ := List.mem_iff_getElem.mp (by simpa using hu' : u' ∈ its)
            have hy : m < ys.length := by omega
            obtain ⟨i, p, C, dx, gs, q1, q2, q3, q4, q5⟩ := al.2 m _ (List.getElem?_eq_getElem hy)
            have := ref_of rv m p (by rw [List.getElem?_eq_getElem hy, q2])
            rw [List.getElem?_eq_getElem hm] at this
            rw [Option.some.inj this]
            have eq := eqAt_ins F (A := X.A.in1) I (by show X.A.units + 1 < cLine; omega) q4 hd q5 hb
            simpa using eq
          · exact ⟨.int (j : Nat), H, I.tok _, ⟨s.toks, rfl⟩, q⟩
        · exact A.elim
      · exact A.elim
    · exact A.elim
  · exact A.elim
end
end D
/-! D: methods and constructors called by names of arguments. -/
namespace D
open PySem PySem.Spec PyProof.Rows
open L2 hiding XE Takes CX ps_raise mk_of pmk_own passAt takes_of passes_call MkP PMk ps_try_as ps_try_many
open L2N hiding St
structure MtFK (P : Program) (w : World) (K : PySem.W.Frag) (mg : Str → Option Value) (base : Heap) (k : Nat) (m : Str) (ps ks : List Str) (ix : List Nat) (q : Str × MF) : Prop where
  c : Cls K (cAt K q.1)
  mt : ∃ (g : Addr) (fd : FuncData), Meth K (cAt K q.1) m g ∧ FnM P w K mg base k g fd ps q.2 ∧ BindsN K fd ps 1 ks ix [] ∧ True
/-- o.m(k = v, ..): the values in the order of the call, picked into the order of the def -/
@[simp] def mMethK (m : Str) (tb : List (Str × MF)) (ix : List Nat) (o : ME) (q : MA) : ME := fun s h => (o s h).bind fun w h1 => match insW (tb.map (·.1)) w h1 with
  | some (i, C, fs) => if fs.lookup m = none then (q s h1).bind fun ws h2 => lookM tb C (pick ix (.ref i :: ws)) h2 else .bad
  | none => .bad
section
variable {X : Cx} {Wx : WJ} {m : Str} {tb : List (Str × MF)} {o e : Expr} {mo : ME} {mks : MA} {k : Nat} {ps ks : List Str} {ix : List Nat} {apos pos p : Pos} {x : Str} {kws : List Keyword}
/-- the way from an instance to its method, with names of arguments -/
theorem kwcall_of {pl : Sem Bool} {pins : List (Addr × Obj)} {s : Shared} {σ : St} {H : Hp} {Q : Value → Shared → Prop} {te : TE} (pe : PE X o te) (I : Inv X pins σ H s)
    (go : te σ H fun v H1 => ∃ a C dx fs g, v = .ref a ∧ H1 a = some (.ins C dx fs) ∧ Cls X.K C ∧ Meth X.K C m g ∧ fs.lookup m = none ∧
      ∀ s1, Inv X pins σ H1 s1 → wpAny (model X.prog X.w) X.A (callWith pos (.ref g) [.ref a] (backTo pos (starEach [] X.env)) (backToKw pos (keywordEach kws X.env))) Q X.xe s1)
    (tr : eval (.Call (.Attribute o m apos) [] kws pos) X.env = (do
      let ov ← eval o X.env
      standAt apos.atName
      let (f, first) ← holding [ov] (getMethod ov m pl)
      callWith pos f first (backTo pos (starEach [] X.env)) (backToKw pos (keywordEach kws X.env)))) :
    wpAny (model X.prog X.w) X.A (eval (.Call (.Attribute o m apos) [] kws pos) X.env) Q X.xe s := by
  refine PySem.W.methodCall_KW (pl := pl) (thn (pe.run pins s σ H _ I go) fun u s1 ⟨v, H1, I1, rv, a, C, dx, fs, g, ev, ha, cl, mt, no, z⟩ => ?_) tr
  subst ev
  obtain rfl : u = Value.ref a := rv
  exact getmeth_ok I1 ha cl mt no (z s1 I1)
theorem de_methK {pl : Sem Bool} (T : ∀ q ∈ tb, MtFK X.prog X.w X.K X.mg X.base k m ps ks ix q) (rm : RmG k X.A) (tk : Takes X Wx.W) (ho : DE X Wx o mo) (hk : DK X Wx kws mks) (hlenk : ∀ s h ws h1, mks s h = .ok ws h1 → ws.length = ks.length) (hpk : ix.length = ps.length) (hix : ix.all (fun i => decide (i < 1 + ks.length)) = true)
    (hall : (backToKw pos (keywordEach kws X.env)).all (·.1.isSome) = true := by rfl) (hks : (backToKw pos (keywordEach kws X.env)).filterMap (·.1) = ks := by rfl)
    (hpl : ((backTo pos (starEach [] X.env)).any (·.1) || (backToKw pos (keywordEach kws X.env)).any (·.1.isNone)) = false := by rfl)
    (ht : eval (.Call (.Attribute o m apos) [] kws pos) X.env = (do
      let ov ← eval o X.env
      standAt apos.atName
      let (f, first) ← holding [ov] (getMethod ov m pl)
      callWith pos f first (backTo pos (starEach [] X.env)) (backToKw pos (keywordEach kws X.env))) := by rfl) :
    DE X Wx (.Call (.Attribute o m apos) [] kws pos) (mMethK m tb ix mo mks) := by
  refine ⟨fun pins s σ H Q I ⟨ι, sl, h, S, R, A⟩ => kwcall_of (pl := pl) ho I ?_ ht⟩
  refine ⟨ι, sl, h, S, R, A.bind.imp (fun ι1 h1 H1 w p1 g1 S1 A1 v rv => ?_) idX⟩
  split at A1
  · rename_i i C fs ei
    obtain ⟨a, dx, gs, rfl, rfl, hia, hx, hc, e1, e2⟩ := insW_at S1 rv ei
    split at A1
    · rename_i nf
      obtain ⟨q, hq, rfl, eM⟩ := lookM_mem hc
      obtain ⟨c, g, fd, mt, F, hb, -⟩ := T q hq
      rw [eM] at A1
      refine ⟨a, _, dx, gs, g, rfl, e1, c, mt, e2.none nf, fun s1 I1 => ?_⟩
      have R1 := R.mono p1 g1
      have qa : tDA X.K Wx mks σ H1 (fun zs H2 => zs.length = ks.length ∧ spM X.K ps.length q.2 (pick ix (.ref a :: zs)) H2 Q (fun c d H' => Wx.W c d σ H')) := by
        refine ⟨ι1, sl, h1, S1, R1, ?_⟩
        have B := After.bind (K := X.K) A1
        revert B
        generalize hr : mks sl h1 = res
        intro B
        cases res with
        | bad => exact B
        | exc C' fs' s' h' => exact B
        | ok ws h2 =>
          have n1 := hlenk _ _ _ _ hr
          intro ι2 H2 p2 g2 S2 vs r
          have rr : RWs X.K ι2 H2 (.ref i :: ws) (.ref a :: vs) := .cons (.ref (getElem?_pre p2 hia)) r
          refine ⟨by rw [← r.length]; exact n1, ι2, _, h2, ?_, S2, rr.pick ix, (B ι2 H2 p2 g2 S2).imp (fun _ _ _ _ _ _ _ z => z) fun _ _ _ _ _ _ _ z => z⟩
          rw [pick_len ix _ (fun j hj => by
            have := of_decide_eq_true (List.all_eq_true.mp hix j hj)
            rw [List.length_cons, ← r.length, n1]; omega), hpk]
      refine PySem.W.callWith_KW0 (first := [.ref a]) (h₀ := X.base) I.ok.mod.kin mt.kp hall ?_ hpl
      refine thn (PK.run hk pos pins s1 σ H1 _ I1 qa) fun zs s2 ⟨vs, H2, I2, r, n2, q2⟩ => ⟨I2.kIn, ?_⟩
      rw [hks]
      refine wpAny_call (go_fn F rm tk I2 (us := pick ix (.ref a :: zs)) (vals_pick (.cons (show RelV (V.ref a) (.ref a) from rfl) r) ix) (fun _ => ?_) q2)
      have b := hb s2 [.ref a] zs I2.kIn rfl (by rw [← r.length]; exact n2)
      simpa using b
    · exact A1.elim
  · exact A1.elim
/-! ### C(k = v, ..) -/
theorem pick_cons {α : Type} (x : α) : ∀ (ix : List Nat) (l : List α), pick (0 :: ix.map (· + 1)) (x :: l) = x :: pick ix l := fun ix l => by
  have : ∀ ix : List Nat, pick (ix.map (· + 1)) (x :: l) = pick ix l := fun ix => by
    induction ix with
    | nil => rfl
    | cons i t ih =>
      unfold pick at ih ⊢
      rw [List.map_cons, List.filterMap_cons, List.filterMap_cons, ih]
      simp
  have h := this ix
  unfold pick at h ⊢
  rw [List.filterMap_cons]
  simp only [List.getElem?_cons_zero]
  rw [h]
@[simp] def mMakeK (C : Str) (M : MF) (ix : List Nat) (q : MA) : ME := fun s h => (q s h).bind fun ws h1 => madeR h1.length (M (.ref h1.length :: pick ix ws) (h1 ++ [.ins C []]))
structure MkFK (P : Program) (w : World) (K : PySem.W.Frag) (mg : Str → Option Value) (base : Heap) (k : Nat) (ps ks : List Str) (ix : List Nat) (C : Str) (M : MF) : Prop where
  g : mg C = some (.ref (cAt K C))
  ini : ∃ (f : Addr) (fd : FuncData), Mk K (cAt K C) f ∧ FnM P w K mg base k f fd ps M ∧ BindsN K fd ps 1 ks (0 :: ix.map (· + 1)) [] ∧ True
theorem de_makeK {C : Str} {M : MF} (T : MkFK X.prog X.w X.K X.mg X.base k ps ks ix C M) (rm : RmG (k + 1) X.A) (tk : Takes X Wx.W) (hg : Gl X C) (hk : DK X Wx kws mks) (hlenk : ∀ s h ws h1, mks s h = .ok ws h1 → ws.length = ks.length) (hpk : ix.length + 1 = ps.length) (hix : ix.all (fun i => decide (i < ks.length)) = true)
    (hall : (backToKw pos (keywordEach kws X.env)).all (·.1.isSome) = true := by rfl) (hks : (backToKw pos (keywordEach kws X.env)).filterMap (·.1) = ks := by rfl) (hdb : (C == ("__debug__" : Str)) = false := by decide)
    (hpl : ((backTo pos (starEach [] X.env)).any (·.1) || (backToKw pos (keywordEach kws X.env)).any (·.1.isNone)) = false := by rfl) :
    DE X Wx (.Call (.Name C p) [] kws pos) (mMakeK C M ix mks) := by
  obtain ⟨f, fd, mk, F, hb, -⟩ := T.ini
  refine ⟨fun pins s σ H Q I ⟨ι, sl, h, S, R, A⟩ => ?_⟩
  refine wpAny_Call_Name_kw (ld_glob I hg T.g ?_ hdb)
  have qa : tDA X.K Wx mks σ H (fun zs H1 => zs.length = ks.length ∧ ∃ ι ws h, ws.length = ks.length ∧ Sim X.K ι h H1 ∧ RWs X.K ι H1 ws zs ∧ After X.K ι H1 (okV X.K Q) (exE X.K Wx σ) (madeR h.length (M (.ref h.length :: pick ix ws) (h ++ [.ins C []])))) := by
    refine ⟨ι, sl, h, S, R, ?_⟩
    have B := After.bind (K := X.K) A
    revert B
    generalize hr : mks sl h = res
    intro B
    cases res with
    | bad => exact B
    | exc C' fs' s' h' => exact B
    | ok ws h2 =>
      have n1 := hlenk _ _ _ _ hr
      exact fun ι2 H2 p2 g2 S2 vs r => ⟨by rw [← r.length]; exact n1, ι2, ws, h2, n1, S2, r, B ι2 H2 p2 g2 S2⟩
  refine PySem.W.callWith_KW0 (h₀ := X.base) I.ok.mod.kin mk.kp hall ?_ hpl
  refine thn (PK.run hk pos pins s σ H _ I qa) fun zs s1 ⟨vs, H1, I1, r, nz, ι1, ws, h1, n1, S1, rw1, A1⟩ => ⟨I1.kIn, ?_⟩
  rw [hks]
  have lp : (pick ix vs).length = ix.length := pick_len ix _ fun i hi => by
    have := of_decide_eq_true (List.all_eq_true.mp hix i hi)
    rw [nz]; exact this
  refine go_make (us := pick ix zs) (kw := ks.zip zs) mk F rm tk I1 S1 (rw1.pick ix) (as := []) (vals_pick r ix) (by rw [lp]; exact hpk) (fun s' k a => ?_) A1
  have b := hb s' [.ref a] zs k rfl (by rw [← r.length]; exact nz)
  have e : pick (0 :: ix.map (· + 1)) ([Value.ref a] ++ zs ++ []) = .ref a :: pick ix zs := by
    rw [List.append_nil]
    exact pick_cons _ _ _
  rw [e] at b
  exact b
end
end D
/-! D: isinstance(e, B), e the exception that the suite holds, B above its class. -/
namespace D
open PySem PySem.Spec PyProof.Rows L2
section
variable {K : PySem.W.Frag} {x c C : Addr} {ox : Obj} {od : Option Obj}
/-- the answer is yes: the class alone tells it -/
theorem call_above {prog : Program} {w : World} {A : Around} {E : Value → Shared → Prop} {s : Shared} {Q : Value → Shared → Prop} (X : K.In s.heap) (p : PySem.W.InstAt s.heap x ox C od) (e : PySem.W.kitCls K (.ref C) (.ref c) = some true) (ne : C ≠ c)
    (q : Q (.bool true) s) : wpAny (model prog w) A (call (.builtin "isinstance") [.ref x, .ref c]) Q E s := by
  refine call_isinstance_of ?_ (by intro z; cases z)
  obtain ⟨h0, g, d, tt, os⟩ := s
  have ty := p.type (M := model prog w)
  have nq : ¬ ((Value.ref C : Value) == .ref c) = true := fun z => ne (by have := eq_of_beq z; cases this; rfl)
  unfold Builtin.«isinstance.nested»; refine wpAny_bind (ty.at ?_); rw [if_neg nq]
  have kc := PySem.W.kit_cls (M := model prog w) X e
  have li : PySem.W.Looks (model prog w) h0 (isInstance (.ref x) (.ref c)) true := ty.andThen kc.2.2
  refine wpAny_bind (kc.1.at ?_); rw [if_pos (by decide)]
  k_delta "plainIsInstance"; refine wpAny_bind (wpAny_bind (kc.2.1.at ?_))
  simp only [Bool.not_true, Bool.false_eq_true, if_false]; refine wpAny_bind (li.at ?_)
  first
    | exact wpAny_pure (wpAny_pure q)
    | (simp only [if_true]; first | exact wpAny_pure (wpAny_pure q) | exact wpAny_pure q | exact wpAny_bind (wpAny_pure (wpAny_pure q)))
end
end D
/-! D: loops and comprehensions over the numbers below n. -/
namespace D
open PySem L2
section
variable {h h1 : HH}
theorem ix_oct {p k : Nat} {ns : List Int} (e : h[p]? = some (.lst (wI ns))) (hk : k < ns.length) : gIx (.ref p) (.int (k : Int)) h = .ok (.int (ns.getD k 0)) h := by
  have := atI_ints (ns := ns) (k := (k : Int)) (by omega) (by omega)
  simp [e, this, iAt]
theorem rng8 {m : Nat} : ∀ {xs : List W} {w : W} {k : Nat}, xs.length ≤ m → w :: xs = (rngW 0 m 1).drop (m - (xs.length + 1)) → w = .int ((m - (xs.length + 1) : Nat) : Int) := fun {xs w k} l e => by
  have q := congrArg (fun l => l[0]?) e
  simp only [rngW, List.getElem?_drop, List.getElem?_map, List.getElem?_cons_zero, Nat.add_zero] at q
  by_cases c : m - (xs.length + 1) < m
  · rw [List.getElem?_range c] at q
    simp at q
    rw [q]
  · rw [List.getElem?_eq_none (by simp; omega)] at q
    simp at q
def Rn (m : Nat) (xs : List W) : Prop := xs.length ≤ m ∧ xs = (rngW 0 m 1).drop (m - xs.length)
theorem rn_all {m : Nat} : Rn m (rngW 0 m 1) := ⟨by simp [rngW], by simp [rngW]⟩
theorem rn_cons {m : Nat} {w : W} {xs : List W} (r : Rn m (w :: xs)) : ∃ i : Nat, i < m ∧ w = .int (i : Int) ∧ i + xs.length + 1 = m ∧ Rn m xs := by
  obtain ⟨l, e⟩ := r
  simp at l
  simp only [List.length_cons] at e
  refine ⟨m - (xs.length + 1), by omega, rng8 (k := 0) (by omega) e, by omega, by omega, ?_⟩
  have := congrArg List.tail e
  rw [List.tail_cons, List.tail_drop] at this
  rw [show m - xs.length = m - (xs.length + 1) + 1 by omega]
  exact this
theorem rng1 {q : MA} {s : Sl} {h h1 : HH} {n : Int} (hq : q s h = .ok [.int n] h1) (n0 : 0 ≤ n) (n1 : n < 1000000) : iRng q s h = .ok ⟨rngW 0 n.toNat 1, fun _ => true⟩ h1 := by
  have r1 : -(2 ^ 62) ≤ n := by omega
  have r2 : n < 2 ^ 62 := by omega
  simp only [iRng, hq, Rs.bind_ok]
  exact if_pos ⟨r1, r2⟩
theorem sFor_rng {q : MA} {g : MG} {bd : MS} {s : Sl} {n : Nat} (e : iRng q s h = .ok ⟨rngW 0 n 1, fun _ => true⟩ h1) : sFor (iRng q) g bd s h = loopF (fun _ => true) g bd (rngW 0 n 1) s h1 := by
  simp only [sFor, e, atS_ok, Rs.bind_ok, if_true]
theorem lc_ints {n i : Nat} {e : ME} {s : Sl} {h : HH} (f : Nat → Int) (hn : n < 1000000) (step : ∀ (j : Nat), j < n → e (s.set i (some (.int (j : Int)))) h = .ok (.int (f j)) h) :
    Po (fun ws h2 => ws = wI ((List.range n).map f) ∧ h2 = h) (loopC (fun _ => true) (gNm i) tTru e (rngW 0 n 1) [] s h) := by
  refine po_loopC (fun xs acc h2 => h2 = h ∧ Rn n xs ∧ acc = wI ((List.range (n - xs.length)).map f)) ?_ ?_ _ _ _ ⟨rfl, rn_all, by simp [rngW, wI]⟩
  · rintro x xs acc h1 ⟨rfl, r, rfl⟩
    obtain ⟨k, hk, rfl, l, r'⟩ := rn_cons r
    simp [step k hk]
    refine ⟨by show _ < 4000000; omega, r', ?_⟩
    rw [show n - (xs.length + 1) = k by omega, show n - xs.length = k + 1 by omega, List.range_succ]
    simp [wI]
  · rintro acc h1 ⟨rfl, r, rfl⟩
    simp
/-- a loop over the numbers below n: an invariant by the number of rounds -/
theorem po_rng {g : Nat} {b : MS} {Q : Fl × Sl → HH → Prop} {n : Nat} (Pv : Nat → Sl → HH → Prop)
    (step : ∀ i s h, i < n → Pv i s h → Po (stepQ (fun _ => true) (Pv (i + 1)) Q) (b (s.set g (some (.int (i : Int)))) h))
    (fin : ∀ s h, Pv n s h → Q (.nx, s) h) (s : Sl) (h : HH) (p : Pv 0 s h) : Po Q (loopF (fun _ => true) (gNm g) b (rngW 0 n 1) s h) := by
  refine po_loopF (fun xs s h => Rn n xs ∧ Pv (n - xs.length) s h) ?_ ?_ _ _ _ ⟨rn_all, by simpa [rngW] using p⟩
  · rintro x xs s h ⟨r, p⟩
    obtain ⟨i, hi, rfl, l, r'⟩ := rn_cons r
    simp only [gNm, po_ok]
    have e1 : n - (W.int (i : Int) :: xs).length = i := by simp; omega
    have e2 : n - xs.length = i + 1 := by omega
    rw [e1] at p
    refine (step i s h hi p).mono ?_
    rintro ⟨fl, s'⟩ h' z
    cases fl <;> first | exact z | exact ⟨z.1, r', by rw [e2]; exact z.2⟩
  · rintro s h ⟨r, p⟩
    exact fin s h (by simpa using p)
end
end D
/-! D: comprehensions and loops over any list, by the place of the element. -/
namespace D
open PySem L2
section
variable {h h1 : HH}
theorem lc_all {chk : HH → Bool} {i : Nat} {e : ME} {s : Sl} {h : HH} {xs : List W} (P : Nat → W → HH → Prop) (mono : ∀ {j : Nat} {w : W} {h1 h2 : HH}, P j w h1 → Sub h1 h2 → P j w h2) (hn : xs.length < 1000000) (hck : ∀ h', Sub h h' → chk h' = true)
    (step : ∀ (j : Nat) (x : W) (h1 : HH), xs[j]? = some x → Sub h h1 → Po (fun w h2 => P j w h2 ∧ Sub h1 h2) (e (s.set i (some x)) h1)) :
    Po (fun ws h2 => ws.length = xs.length ∧ (∀ (j : Nat) (w : W), ws[j]? = some w → P j w h2) ∧ Sub h h2) (loopC chk (gNm i) tTru e xs [] s h) := by
  refine po_loopC (fun ys acc h2 => acc.length + ys.length = xs.length ∧ (∀ (j : Nat) (y : W), ys[j]? = some y → xs[acc.length + j]? = some y) ∧ (∀ (j : Nat) (w : W), acc[j]? = some w → P j w h2) ∧ Sub h h2) ?_ ?_ _ _ _
    ⟨by simp, fun j y q => by simpa using q, fun j w q => by simp at q, .refl⟩
  · rintro y ys acc h1 ⟨l, hy, hp, u⟩
    simp at l
    have ey := hy 0 y rfl
    simp only [gNm, po_ok, Nat.add_zero] at ey ⊢
    refine (step acc.length y h1 ey u).mono ?_
    rintro w h2 ⟨q, u2⟩
    refine ⟨hck _ (u.trans u2), by show _ < 4000000; omega, by simp; omega, fun j z q' => ?_, fun j z q' => ?_, u.trans u2⟩
    · have := hy (j + 1) z (by simpa using q')
      rw [← this]; simp; congr 1; omega
    · by_cases c : j < acc.length
      · rw [List.getElem?_append_left c] at q'
        exact mono (hp j z q') u2
      · have hj := (List.getElem?_eq_some_iff.mp q').1
        simp at hj
        have : j = acc.length := by omega
        subst this
        simp at q'
        subst q'
        exact q
  · rintro acc h1 ⟨l, hy, hp, u⟩
    exact ⟨by simpa using l, hp, u⟩
theorem rngW_get {lo c : Int} {n j : Nat} {x : W} (e : (rngW lo n c)[j]? = some x) : j < n ∧ x = .int (lo + (j : Int) * c) := by
  have hj := (List.getElem?_eq_some_iff.mp e).1
  simp [rngW] at e hj
  obtain ⟨k, h1, h2⟩ := e
  rw [List.getElem?_range hj] at h1
  cases h1
  exact ⟨hj, h2.symm⟩
/-- a list of whole numbers, told by its places -/
theorem ints_of {ws : List W} {n : Nat} {f : Nat → Int} (l : ws.length = n) (h : ∀ (j : Nat) (w : W), ws[j]? = some w → w = .int (f j)) : ws = wI ((List.range n).map f) := by
  refine List.ext_getElem (by simp [l]) fun j h1 h2 => ?_
  have := h j ws[j] (List.getElem?_eq_getElem h1)
  rw [this]
  simp [wI]
/-- a loop over any list: an invariant by the number of rounds -/
theorem po_list {chk : HH → Bool} {g : Nat} {b : MS} {Q : Fl × Sl → HH → Prop} {xs : List W} (Pv : Nat → Sl → HH → Prop)
    (step : ∀ i x s h, xs[i]? = some x → Pv i s h → Po (stepQ chk (Pv (i + 1)) Q) (b (s.set g (some x)) h))
    (fin : ∀ s h, Pv xs.length s h → Q (.nx, s) h) (s : Sl) (h : HH) (p : Pv 0 s h) : Po Q (loopF chk (gNm g) b xs s h) := by
  refine po_loopF (fun ys s h => ∃ k, k + ys.length = xs.length ∧ (∀ (j : Nat) (y : W), ys[j]? = some y → xs[k + j]? = some y) ∧ Pv k s h) ?_ ?_ _ _ _ ⟨0, by simp, fun j y q => by simpa using q, p⟩
  · rintro y ys s h ⟨k, l, hy, p⟩
    have ey := hy 0 y rfl
    simp only [gNm, po_ok, Nat.add_zero] at ey ⊢
    refine (step k y s h ey p).mono ?_
    rintro ⟨fl, s'⟩ h' z
    have nx : chk h' = true ∧ Pv (k + 1) s' h' → chk h' = true ∧ ∃ k, k + ys.length = xs.length ∧ (∀ (j : Nat) (y : W), ys[j]? = some y → xs[k + j]? = some y) ∧ Pv k s' h' := fun z =>
      ⟨z.1, k + 1, by simp at l; omega, fun j y q => by
        have := hy (j + 1) y (by simpa using q)
        rw [← this]; congr 1; omega, z.2⟩
    cases fl <;> first | exact z | exact nx z
  · rintro s h ⟨k, l, hy, p⟩
    simp at l
    subst l
    exact fin s h p
end
end D
/-! D: an instance beside a tuple; is not True. -/
namespace D
open PySem PySem.Spec PyProof.Rows L2 Builtin
section
variable {prog : Program} {w : World} {A : Around} {E : Value → Shared → Prop} {s : Shared} {K : PySem.W.Frag} {x y C : Addr} {ox oy : Obj} {od : Option Obj}
theorem tup_eq_ins (e : PySem.W.kitCls K (.ref C) (.type "tuple") = some false) {items : Array Value} {n : Nat} {dd : Option Addr} {sl : Array (Option Value)} :
    Meets (Builtin.«tuple.__eq__» ⟨[.ref y, .ref x], []⟩) (fun _ R s => K.In s.heap ∧ PySem.W.InstAt s.heap x ox C od ∧ s.heap.get? y = some { cls := .type "tuple", dict := dd, data := .seq items n, slots := sl } ∧ R (.ok (.ret .notImplemented)) s) :=
  .of_wp fun prog w A R s h => by
    obtain ⟨X, I, hl, h⟩ := h
    have ty := I.type (M := model prog w)
    have kc := PySem.W.kit_cls (M := model prog w) X e
    have li : PySem.W.Looks (model prog w) s.heap (isInstance (.ref x) (.type "tuple")) false := ty.andThen kc.2.2
    obtain ⟨hp, g, d, tt, os⟩ := s
    wp_walk using li.at
    exact ⟨_, rfl, h⟩
theorem try_tup (X : K.In s.heap) (I : PySem.W.InstAt s.heap x ox C od) (e : PySem.W.kitCls K (.ref C) (.type "tuple") = some false) {items : Array Value} {n : Nat} {dd : Option Addr} {sl : Array (Option Value)}
    (hl : s.heap.get? y = some { cls := .type "tuple", dict := dd, data := .seq items n, slots := sl }) : wpAny (model prog w) A (tryCompare (.ref y) "__eq__" (.ref x)) (fun r s' => r = none ∧ s' = s) E s :=
  wpAny_tryCompare_declines (show s.TypeIs (.ref y) "tuple" from ⟨_, hl, rfl⟩) PySem.F.slot_tuple_eq_refl (call_meets PySem.F.slot_tuple_eq_refl ⟨_, hl, rfl⟩ PySem.F.entry_tuple_eq (PySem.F.args_tuple_eq_2 _ _) (tup_eq_ins e) ⟨X, I, hl, rfl, rfl, rfl⟩)
theorem rc_tup (hu : A.units < cLine) (X : K.In s.heap) (I : PySem.W.InstAt s.heap x ox C od) (c : EqC K C) (e : PySem.W.kitCls K (.ref C) (.type "tuple") = some false) (hs : PySem.W.subIn K (.type "tuple") (.ref C) = some false) {items : Array Value} {n : Nat} {dd : Option Addr} {sl : Array (Option Value)}
    (hl : s.heap.get? y = some { cls := .type "tuple", dict := dd, data := .seq items n, slots := sl }) : SeqAt.RcAt A s (.ref x) (.ref y) false := fun prog w E Q h => by
  have nt : ox.cls ≠ .type "tuple" := by rw [I.cls]; intro z; cases z
  have ne : x ≠ y := fun z => by
    subst z
    have := I.at_
    rw [hl] at this
    cases this
    exact nt rfl
  simp only [richCompare, cmpInfo_Eq, oneThing_ref]
  refine wpAny_holding (wpAny_bind (wpAny_cRoomFor hu ?_))
  refine wpAny_bind (I.type.here ?_)
  refine wpAny_bind (wpAny_typeOf (show s.TypeIs (.ref y) "tuple" from ⟨_, hl, rfl⟩) ?_)
  have rest : wpAny (model prog w) A (do
      if let some v ← tryCompare (.ref x) "__eq__" (.ref y) then return v
      if let some v ← tryCompare (.ref y) "__eq__" (.ref x) then return v
      rule "compare.eq-identity"; return .bool (← isSame (.ref x) (.ref y))) Q E s := by
    refine wpAny_bind (m := tryCompare (.ref x) _ (.ref y)) (wpAny_mono (try_other X I hl ne c) (fun r s1 z => ?_) fun _ _ e => e)
    obtain ⟨z1, z2⟩ := z
    subst z1
    subst z2
    refine wpAny_bind (m := tryCompare (.ref y) _ (.ref x)) (wpAny_mono (try_tup X I e hl) (fun r s1 z => ?_) fun _ _ e => e)
    obtain ⟨z1, z2⟩ := z
    subst z1
    subst z2
    exact wpAny_bind (wpAny_rule (wpAny_bind (wpAny_isSame_ref_other ne I.at_ hl nt (wpAny_pure h))))
  split
  · refine wpAny_bind ((PySem.W.looks_subIn X hs).here ?_)
    simp only [Bool.false_eq_true, if_false, Bool.not_false, if_true]
    exact rest
  · refine wpAny_bind (wpAny_pure ?_)
    simp only [Bool.false_eq_true, if_false, Bool.not_false, if_true]
    exact rest
end
theorem kit_tup {K : PySem.W.Frag} {CL : List Str} (F : IsF K CL) {C : Str} (hC : C ∈ CL) : PySem.W.kitCls K (.ref (cAt K C)) (.type "tuple") = some false := by
  have q := (F.one C hC).o "tuple" (by decide)
  unfold PySem.W.kitCls
  simp only
  rw [if_pos (List.all_eq_true.mp meta_all "tuple" (by decide)), q]
/-- as gEqI, and an instance beside a tuple -/
def gEqIT (CL : List Str) : W → W → HH → Rs W
  | .ref i, .tup xs, h => match h[i]? with
    | some (.ins C _) => if CL.contains C = true then .ok (.bl false) h else .bad
    | _ => gEqI CL (.ref i) (.tup xs) h
  | x, y, h => gEqI CL x y h
section
variable {X : Cx} {Wx : WJ} {CL : List Str}
theorem dop_eqIT (F : EqF X.K CL) (hu : X.A.units + 64 < cLine) : DOp X (compareOp .Eq) (gEqIT CL) := by
  intro pins s σ H x y v u Q I rx ry ⟨ι, h, w, z, S, rw', rz, A⟩
  unfold gEqIT at A
  split at A
  · rename_i h i xs
    split at A
    · rename_i C fs h1
      split at A
      · rename_i hc
        rw [List.contains_iff_mem] at hc
        cases rw' with
        | ref ea =>
        cases rz with
        | tup hq rs =>
        obtain ⟨a, ha, dx, gs1, hl, r1⟩ := S.at h1
        rw [ea] at ha; cases ha
        cases rx; cases ry
        obtain ⟨m1, O1, _⟩ := ins_get I.hok hl
        obtain ⟨od1, J1, _⟩ := O1.look
        obtain ⟨its, r2, ⟨⟨cls, dd, data, sl⟩, e2, hcl, m, hdat⟩, z2⟩ := I.tuple hq.sq
        simp only at hcl hdat
        subst hcl hdat
        have q := A.now S (.bl false) (.bl _)
        exact op_rc (x := .non) (y := .non) pins s σ H _ _ Q I (rc_tup (by omega) I.kIn J1 (F.c hc) (kit_tup F.i hc) ((F.i.one C hc).b "tuple" (by decide)) e2) q
      · exact A.elim
    · exact dop_eqI F hu pins s σ H _ _ v u Q I rx ry ⟨ι, _, _, _, S, rw', rz, A⟩
  · exact dop_eqI F hu pins s σ H _ _ v u Q I rx ry ⟨ι, _, _, _, S, rw', rz, A⟩
/-! ### is not True -/
def gIsNotT : W → W → HH → Rs W
  | .bl a, .bl b, h => .ok (.bl (!(a == b))) h
  | _, _, _ => .bad
@[simp] theorem gIsNotT_bl {a b : Bool} {h : HH} : gIsNotT (.bl a) (.bl b) h = .ok (.bl (!(a == b))) h := rfl
theorem dop_isNotT : DOp X (compareOp .IsNot) gIsNotT := fun pins s σ H x y v u Q I rx ry ⟨ι, h, w, z, S, rw', rz, A⟩ => by
  unfold gIsNotT at A
  split at A
  · rename_i a b
    cases rw'; cases rz; cases rx; cases ry
    exact wpAny_isNot_plain rfl (fin_bl I (A.now S _ (.bl _)) (by cases a <;> cases b <;> rfl))
  · exact A.elim
end
end D
/-! D: dicts with tuples as keys; displays of dicts; isinstance(e, B) in a suite. -/
namespace D
open PySem PySem.Spec PyProof.Rows
open L2 hiding XE Takes CX ps_raise mk_of pmk_own passAt takes_of passes_call MkP PMk ps_try_as ps_try_many
open L2N hiding St
/-! ### dicts with tuples as keys -/
section
variable {κ : Type} [DecidableEq κ]
def lookA (kvs : List (κ × W)) (k : κ) : Option W := (kvs.find? fun kv => decide (kv.1 = k)).map (·.2)
def putA (kvs : List (κ × W)) (k : κ) (v : W) : List (κ × W) :=
  if (kvs.any fun kv => decide (kv.1 = k)) = true then kvs.map (fun kv => if kv.1 = k then (kv.1, v) else kv) else kvs ++ [(k, v)]
@[simp] theorem lookA_nil {k : κ} : lookA [] k = none := rfl
theorem lookA_snoc (k j : κ) (y : W) : ∀ kvs : List (κ × W), lookA kvs k = none → lookA (kvs ++ [(k, y)]) j = if j = k then some y else lookA kvs j
  | [], _ => by
    by_cases h : j = k
    · subst h; simp [lookA]
    · have : ¬ k = j := fun e => h e.symm
      simp [lookA, h, this]
  | p :: r, e => by
    have hp : ¬ p.1 = k := fun q => by simp [lookA, q] at e
    have e' : lookA r k = none := by simpa [lookA, hp] using e
    have ih := lookA_snoc k j y r e'
    by_cases hj : p.1 = j
    · have : ¬ j = k := fun q => hp (hj.trans q)
      simp [lookA, hj, this]
    · simpa [lookA, hj] using ih
theorem any_lookA (k : κ) : ∀ kvs : List (κ × W), (kvs.any fun kv => decide (kv.1 = k)) = (lookA kvs k).isSome
  | [] => rfl
  | p :: r => by
    by_cases h : p.1 = k
    · simp [lookA, h]
    · have := any_lookA k r
      simpa [lookA, h] using this
theorem lookA_repl (k j : κ) (y : W) : ∀ kvs : List (κ × W), lookA (kvs.map fun kv => if kv.1 = k then (kv.1, y) else kv) j = if j = k ∧ (lookA kvs k).isSome = true then some y else lookA kvs j
  | [] => by simp
  | p :: r => by
    have ih := lookA_repl k j y r
    by_cases h : p.1 = k
    · by_cases hj : j = k
      · subst hj; simp [lookA, h]
      · have h2 : ¬ p.1 = j := fun q => hj (q.symm.trans h)
        have h3 : ¬ k = j := fun q => hj q.symm
        simpa [lookA, h, hj, h2, h3] using ih
    · have e0 : lookA (p :: r) k = lookA r k := by simp [lookA, h]
      rw [e0]
      by_cases hj : p.1 = j
      · have h3 : ¬ j = k := fun q => h (hj.trans q)
        simp [lookA, h, hj, h3]
      · have e1 : lookA (p :: r) j = lookA r j := by simp [lookA, hj]
        rw [e1, ← ih]
        simp [lookA, h, hj]
/-- what is there behind a put -/
theorem look_putA (kvs : List (κ × W)) (k j : κ) (y : W) : lookA (putA kvs k y) j = if j = k then some y else lookA kvs j := by
  unfold putA
  rw [any_lookA]
  cases e : lookA kvs k with
  | none => simpa using lookA_snoc k j y kvs e
  | some w =>
    rw [if_pos (show (some w).isSome = true from rfl), lookA_repl, e]
    simp
theorem length_putA (kvs : List (κ × W)) (k : κ) (y : W) : (putA kvs k y).length ≤ kvs.length + 1 := by
  unfold putA; split <;> simp
variable {K : PySem.W.Frag} {ι : List Addr} {H : Hp}
theorem RA.look {k : κ} : ∀ {kvs : List (κ × W)} {gs : List (κ × V)}, RK K ι H kvs gs → (∀ w, lookA kvs k = some w → ∃ v, valV gs k = some v ∧ RW K ι H w v) ∧ (lookA kvs k = none → valV gs k = none)
  | [], _, .nil => ⟨fun w e => (by cases e), fun _ => rfl⟩
  | (x, u) :: kvs, (y, v) :: gs, .cons ⟨e, r⟩ t => by
    cases e
    by_cases h : x = k
    · refine ⟨fun w q => ?_, fun q => ?_⟩
      · have : u = w := by simpa [lookA, h] using q
        subst this
        exact ⟨v, by simp [valV, h], r⟩
      · simp [lookA, h] at q
    · have ih := RA.look (k := k) t
      refine ⟨fun w q => ?_, fun q => ?_⟩
      · obtain ⟨v', e', r'⟩ := ih.1 w (by simpa [lookA, h] using q)
        exact ⟨v', by simpa [valV, h] using e', r'⟩
      · simpa [valV, h] using ih.2 (by simpa [lookA, h] using q)
theorem RA.any {k : κ} : ∀ {kvs : List (κ × W)} {gs : List (κ × V)}, RK K ι H kvs gs → (kvs.any fun kv => decide (kv.1 = k)) = gs.any fun kv => decide (kv.1 = k)
  | [], _, .nil => rfl
  | (x, u) :: kvs, (y, v) :: gs, .cons ⟨e, r⟩ t => by
    cases e
    simp only [List.any_cons, RA.any t]
theorem RA.repl {k : κ} {w : W} {v : V} (q : RW K ι H w v) : ∀ {kvs : List (κ × W)} {gs : List (κ × V)}, RK K ι H kvs gs → RK K ι H (kvs.map fun kv => if kv.1 = k then (kv.1, w) else kv) (gs.map fun kv => if kv.1 = k then (kv.1, v) else kv)
  | [], _, .nil => .nil
  | (x, u) :: kvs, (y, z) :: gs, .cons ⟨e, r⟩ t => by
    cases e
    by_cases h : x = k
    · simp only [List.map_cons, h, if_true]
      exact .cons ⟨rfl, q⟩ (RA.repl q t)
    · simp only [List.map_cons, h, if_false]
      exact .cons ⟨rfl, r⟩ (RA.repl q t)
theorem RA.app : ∀ {kvs kvs2 : List (κ × W)} {gs gs2 : List (κ × V)}, RK K ι H kvs gs → RK K ι H kvs2 gs2 → RK K ι H (kvs ++ kvs2) (gs ++ gs2)
  | [], _, _, _, .nil, r => r
  | _ :: _, _, _ :: _, _, .cons a t, r => .cons a (RA.app t r)
theorem RA.put {k : κ} {w : W} {v : V} (q : RW K ι H w v) {kvs : List (κ × W)} {gs : List (κ × V)} (r : RK K ι H kvs gs) : RK K ι H (putA kvs k w) (putK gs k v) := by
  unfold putA putK
  rw [RA.any r]
  split
  · exact RA.repl q r
  · exact RA.app r (.cons ⟨rfl, q⟩ .nil)
end
/-- the key that values make -/
def tkW : List W → Option (List Key)
  | [] => some []
  | w :: r => match kW w, tkW r with
    | some k, some ks => some (k :: ks)
    | _, _ => none
@[simp] theorem tkW_nil : tkW [] = some [] := rfl
@[simp] theorem tkW_cons {w : W} {r : List W} : tkW (w :: r) = match kW w, tkW r with
    | some k, some ks => some (k :: ks)
    | _, _ => none := rfl
theorem tkW_at {K : PySem.W.Frag} {ι : List Addr} {H : Hp} : ∀ {ws : List W} {vs : List V} {ks : List Key}, RWs K ι H ws vs → tkW ws = some ks → vs = ks.map kV
  | [], _, ks, .nil, e => by cases e; rfl
  | w :: r, _, ks, .cons q t, e => by
    simp only [tkW] at e
    split at e
    · rename_i k ks' e1 e2
      cases e
      rw [kW_at q e1, tkW_at t e2]
      rfl
    · cases e
def dicTW (w : W) (h : HH) : Option (List (List Key × W)) := match w with
  | .ref i => match h[i]? with
    | some (.dT kvs) => some kvs
    | _ => none
  | _ => none
@[simp] theorem dicTW_ref {i : Nat} {h : HH} : dicTW (.ref i) h = match h[i]? with
    | some (.dT kvs) => some kvs
    | _ => none := rfl
theorem dicT_at {K : PySem.W.Frag} {ι : List Addr} {H : Hp} {h : HH} {w : W} {v : V} {kvs : List (List Key × W)} (S : Sim K ι h H) (r : RW K ι H w v) (e : dicTW w h = some kvs) :
    ∃ i a gs, w = .ref i ∧ v = .ref a ∧ ι[i]? = some a ∧ H a = some (.dT gs) ∧ RK K ι H kvs gs := by
  unfold dicTW at e
  split at e
  · split at e
    · rename_i j kvs' hx
      cases e
      cases r with
      | ref ha =>
      obtain ⟨b, hb, gs, e1, e2⟩ := S.at hx
      rw [ha] at hb; cases hb
      exact ⟨_, _, gs, rfl, rfl, ha, e1, e2⟩
    · cases e
  · cases e
def gGetT (d : W) (ks : List W) (z : W) (h : HH) : Rs W := match dicTW d h, tkW ks with
  | some kvs, some k => .ok ((lookA kvs k).getD z) h
  | _, _ => .bad
@[simp] theorem gGetT_ref {i : Nat} {ks : List W} {z : W} {h : HH} : gGetT (.ref i) ks z h = match dicTW (.ref i) h, tkW ks with
  | some kvs, some k => .ok ((lookA kvs k).getD z) h
  | _, _ => .bad := rfl
def gPutT (x : W) (ks : List W) (w : W) (h : HH) : Rs Unit := match x, tkW ks with
  | .ref i, some k => match h[i]? with
    | some (.dT kvs) => if kvs.length < lim then .ok () (h.set i (.dT (putA kvs k w))) else .bad
    | _ => .bad
  | _, _ => .bad
@[simp] theorem gPutT_ref {i : Nat} {ks : List W} {w : W} {h : HH} : gPutT (.ref i) ks w h = match tkW ks with
  | some k => match h[i]? with
    | some (.dT kvs) => if kvs.length < lim then .ok () (h.set i (.dT (putA kvs k w))) else .bad
    | _ => .bad
  | _ => .bad := by unfold gPutT; cases tkW ks <;> rfl
@[simp] def mGetT (mo : ME) (mk : MA) (mx : ME) : ME := fun s h => (mo s h).bind fun d h1 => match dicTW d h1 with
  | none => .bad
  | some _ => (mk s h1).bind fun ks h2 => if ks.length ≤ lim then (mx s h2).bind fun z h3 => cut (gGetT d ks z h3) else .bad
section
variable {X : Cx} {Wx : WJ} {pos apos cpos : Pos} {o e f : Expr} {mo me mx : ME}
theorem new_dT {K : PySem.W.Frag} {ι : List Addr} {H : Hp} {h : HH} {xs : List (List Key × W)} {ys : List (List Key × V)} {Q : VK} {Ex : ExK} (S : Sim K ι h H) (r : RK K ι H xs ys) (A : After K ι H (okV K Q) Ex (.ok (.ref h.length) (h ++ [.dT xs]))) {p : Addr} (hp : H p = none) :
    Q (.ref p) (upd H p (.dT ys)) :=
  A (ι ++ [p]) _ pre_snoc (Grow.new hp) (S.new hp ⟨ys, upd_same, r.mono pre_snoc (Grow.new hp)⟩) _ (.ref (getElem?_last S.len))
@[simp] def mDictT : ME := fun _ h => .ok (.ref h.length) (h ++ [.dT []])
theorem de_dictT : DE X Wx (.Dict [] [] pos) mDictT := pe_dnewT.imp fun σ H Q ⟨ι, s, h, S, R, A⟩ p hp => new_dT S .nil A hp
theorem de_getT {es : List Expr} {k : Nat} {tp : Pos} {mk : MA} (hu : X.A.units + 64 < cLine) (ho : DE X Wx o mo) (hk : DA X Wx es mk) (hx : DE X Wx f mx) (m : M2 X o "get" apos (.Tuple es k tp) f cpos := by exact ⟨rfl, rfl, rfl, rfl⟩) :
    DE X Wx (.Call (.Attribute o "get" apos) [.Tuple es k tp, f] [] cpos) (mGetT mo mk mx) :=
  (pe_dget2 (by omega) ho (pe_tup hk) hx m).imp fun σ H Q ⟨ι, s, h, S, R, A⟩ => ⟨ι, s, h, S, R, A.bind.imp (fun ι1 h1 H1 x p1 g1 S1 A1 v rv => by
    split at A1
    · exact A1.elim
    · rename_i kvs0 e0
      obtain ⟨j, a, gs, rfl, rfl, ha, hd, rk⟩ := dicT_at S1 rv e0
      refine ⟨a, rfl, .inr ⟨gs, .inl hd⟩, ι1, s, h1, S1, R.mono p1 g1, A1.bind.imp (fun ι2 h2 H2 ks p2 g2 S2 A2 vs rvs => ?_) idX⟩
      split at A2
      · rename_i hl
        refine ⟨by rw [← rvs.length]; exact lim_le hl, fun p hp => ?_⟩
        have gs2 : Grow ι2 ι2 H2 (upd H2 p (.tup vs)) := Grow.side hp
        have S2' := S2.side (u := .tup vs) hp
        refine ⟨ι2, s, h2, S2', ((R.mono p1 g1).mono p2 g2).mono (List.prefix_refl _) gs2, (A2.le (List.prefix_refl _) gs2).bind.imp (fun ι3 h3 H3 z p3 g3 S3 A3 u ru => ?_) idX⟩
        have A4 := A3.cut (Ex' := exN)
        unfold gGetT at A4
        split at A4
        · rename_i kvs k e1 e2
          obtain ⟨j', a', gs', e3, e4, ha', hd', rk'⟩ := dicT_at S3 (((rv.mono p2 g2).mono (List.prefix_refl _) gs2).mono p3 g3) e1
          cases e4
          have ev := tkW_at rvs e2
          have hp3 : H3 p = some (.tup (k.map kV)) := by rw [← ev]; exact g3.2 _ _ upd_same (.inr trivial)
          refine ⟨_, DGet.t hd' hp3, A4.now S3 _ ?_⟩
          cases el : lookA kvs k with
          | none => rw [(RA.look (k := k) rk').2 el]; exact ru
          | some w => obtain ⟨v', e', r'⟩ := (RA.look (k := k) rk').1 w el; rw [e']; exact r'
        · exact A4.elim
      · exact A2.elim) idX⟩
@[simp] def sDPtT (mo : ME) (mk : MA) (me : ME) : MS := fun s h => (atS s (me s h)).bind fun w h1 => (atS s (mo s h1)).bind fun ow h2 => (atS s (mk s h2)).bind fun ks h3 => if ks.length ≤ lim then (cut (gPutT ow ks w h3)).bind fun _ h4 => .ok (.nx, s) h4 else .bad
theorem ds_dputT {es : List Expr} {k : Nat} {tp pos' : Pos} {mk : MA} (hu : X.A.units + 64 < cLine) (ho : DE X Wx o mo) (hk : DA X Wx es mk) (he : DE X Wx e me) (hs : swapsWith e (some (.Subscript o (.Tuple es k tp) pos')) pos.line X.env = pure false := by rfl) :
    DS X Wx (.Assign [.Subscript o (.Tuple es k tp) pos'] e pos) (sDPtT mo mk me) :=
  (ps_dput (by omega) ho (pe_tup hk) he hs).imp fun D σ H ⟨ι, s, h, S, R, A⟩ => ⟨ι, s, h, S, R, (A.bind.atS R).imp (fun ι1 h1 H1 w p1 g1 S1 A1 y ry => by
    have R1 := R.mono p1 g1
    refine ⟨ι1, s, h1, S1, R1, (A1.bind.atS R1).imp (fun ι2 h2 H2 ow p2 g2 S2 A2 x rx => ?_) idX⟩
    have R2 := R1.mono p2 g2
    refine ⟨ι2, s, h2, S2, R2, (A2.bind.atS R2).imp (fun ι3 h3 H3 ks p3 g3 S3 A3 vs rvs => ?_) idX⟩
    have R3 := R2.mono p3 g3
    split at A3
    · rename_i hl
      refine ⟨by rw [← rvs.length]; exact lim_le hl, fun p hp => ?_⟩
      have gs3 : Grow ι3 ι3 H3 (upd H3 p (.tup vs)) := Grow.side hp
      have S3' := S3.side (u := .tup vs) hp
      have A5 := (A3.le (List.prefix_refl _) gs3).bind.cutX
      unfold gPutT at A5
      split at A5
      · rename_i j k ek
        have ev := tkW_at rvs ek
        split at A5
        · rename_i kvs hx
          obtain ⟨b, hb, gs, e1, e2⟩ := S3'.at hx
          have rx3 := (rx.mono p3 g3).mono (List.prefix_refl _) gs3
          cases rx3 with
          | ref ha =>
          rw [ha] at hb; cases hb
          split at A5
          · rename_i hl'
            have ry3 := ((ry.mono p2 g2).mono p3 g3).mono (List.prefix_refl _) gs3
            have gr : Grow ι3 ι3 (upd H3 p (.tup vs)) (upd (upd H3 p (.tup vs)) _ (.dT (putK gs k y))) := Grow.put (List.mem_of_getElem? ha) e1 id
            have S4 := S3'.put (o := .dT (putA kvs k w)) ha ⟨_, upd_same, RK.mono (List.prefix_refl _) gr (RA.put ry3 e2)⟩
            refine ⟨_, _, rfl, DPut.t e1 (by rw [← ev]; exact upd_same) (by rw [← Paired.length e2]; exact lim_lt hl'), (A5 ι3 _ (List.prefix_refl _) gr S4).now S4 σ ((R3.mono (List.prefix_refl _) gs3).mono (List.prefix_refl _) gr)⟩
          · exact A5.elim
        · exact A5.elim
      · exact A5.elim
    · exact A3.elim) idX⟩
/-! ### displays -/
@[simp] def mPrs : List (Str × ME) → Sl → HH → Rs (List (Key × W))
  | [], _, h => .ok [] h
  | (k, m) :: r, s, h => (m s h).bind fun w h1 => (mPrs r s h1).bind fun ws h2 => .ok ((.inr k, w) :: ws) h2
def mergeW (kvs : List (Key × W)) : List (Key × W) := kvs.foldl (fun acc kv => putKW acc kv.1 kv.2) []
@[simp] def mDisp (kms : List (Str × ME)) : ME := fun s h => (mPrs kms s (h ++ [.dK []])).bind fun kvs h1 => match h1[h.length]? with
  | some (.dK []) => if kvs.length ≤ 15 then .ok (.ref h.length) (h1.set h.length (.dK (mergeW kvs))) else .bad
  | _ => .bad
inductive DPr (X : Cx) (Wx : WJ) : List (Option Expr) → List Expr → List (Str × ME) → Prop
  | nil : DPr X Wx [] [] []
  | cons {k : Str} {j} {p : Pos} {e : Expr} {m : ME} {ks : List (Option Expr)} {es : List Expr} {r : List (Str × ME)} (h : DE X Wx e m) (t : DPr X Wx ks es r) : DPr X Wx (some (.Constant (.str k) j p) :: ks) (e :: es) ((k, m) :: r)
def trsD (K : PySem.W.Frag) (Wx : WJ) (kms : List (Str × ME)) : List (TE × TE) := kms.map fun km => (tC (.str km.1), tD K Wx km.2)
theorem DPr.pps {ks : List (Option Expr)} {es : List Expr} {kms : List (Str × ME)} (h : DPr X Wx ks es kms) : PPs X pos ks es (trsD X.K Wx kms) := by
  induction h with
  | nil => exact pps_nil
  | cons h t ih => exact pps_cons pe_str h ih
theorem prs_ok {K : PySem.W.Frag} {σ : St} {s : Sl} : ∀ (kms : List (Str × ME)) {Q : List (V × V) → Hp → Prop} {ι : List Addr} {h : HH} {H : Hp}, Sim K ι h H → RSl K Wx.J ι H s σ →
    After K ι H (fun ι' h' H' kvs => ∀ gs, RK K ι' H' kvs gs → Q (gs.map fun kv => (kV kv.1, kv.2)) H') (exE K Wx σ) (mPrs kms s h) → tPairs (trsD K Wx kms) σ H Q
  | [], Q, ι, h, H, S, R, A => A.now S [] .nil
  | (k, m) :: r, Q, ι, h, H, S, R, A => by
    show tD K Wx m σ H fun y H2 => tPairs (trsD K Wx r) σ H2 fun ps H3 => Q ((.str k, y) :: ps) H3
    exact ⟨ι, s, h, S, R, A.bind.imp (fun ι1 h1 H1 w p1 g1 S1 A1 y ry => prs_ok r S1 (R.mono p1 g1)
      (A1.bind.imp (fun ι2 h2 H2 ws p2 g2 S2 A2 gs rk => A2.now S2 ((.inr k, y) :: gs) (.cons ⟨rfl, ry.mono p2 g2⟩ rk)) idX)) idX⟩
theorem RK.mergeW' {K : PySem.W.Frag} {ι : List Addr} {H : Hp} : ∀ {kvs : List (Key × W)} {gs : List (Key × V)} {acc : List (Key × W)} {acg : List (Key × V)}, RK K ι H kvs gs → RK K ι H acc acg → RK K ι H (kvs.foldl (fun acc kv => putKW acc kv.1 kv.2) acc) (mergeK acg gs)
  | [], _, _, _, .nil, r => r
  | (x, u) :: kvs, (y, v) :: gs, acc, acg, .cons ⟨e, q⟩ t, r => by
    cases e
    have z := RK.mergeW' t (RK.put (k := x) q r)
    exact z
theorem de_disp {ks : List (Option Expr)} {es : List Expr} {kms : List (Str × ME)} (h : DPr X Wx ks es kms) (hall : ks.all (·.isSome) = true := by rfl) (hl : ks.length = es.length := by rfl) (h0 : ks ≠ [] := by exact fun z => nomatch z) (h15 : ks.length ≤ 15 := by decide) :
    DE X Wx (.Dict ks es pos) (mDisp kms) :=
  (pe_disp h.pps hall hl h0 h15).imp fun σ H Q ⟨ι, s, hh, S, R, A⟩ p hp =>
    prs_ok kms (S.new (o := .dK []) hp ⟨[], upd_same, .nil⟩) (R.mono pre_snoc (Grow.new hp)) ((A.le pre_snoc (Grow.new hp)).bind.imp (fun ι2 h2 H2 kvs p2 g2 S2 A2 gs rk => by
      split at A2
      · rename_i hx
        split at A2
        · rename_i hl'
          have hp2 : ι2[hh.length]? = some p := getElem?_pre p2 (getElem?_last S.len)
          obtain ⟨b, hb, gs0, e1, e2⟩ := S2.at hx
          rw [hp2] at hb; cases hb
          cases e2
          refine ⟨e1, gs, rfl, by rw [← rk.len]; exact hl', ?_⟩
          have gr : Grow ι2 ι2 H2 (upd H2 p (.dK (mergeK [] gs))) := Grow.put (List.mem_of_getElem? hp2) e1 id
          exact A2 ι2 _ (List.prefix_refl _) gr (S2.put hp2 ⟨_, upd_same, RK.mono (List.prefix_refl _) gr (RK.mergeW' rk .nil)⟩) _ (.ref hp2)
        · exact A2.elim
      · exact A2.elim) idX)
end
end D
namespace D
open PySem PySem.Spec PyProof.Rows
open L2 hiding XE Takes CX ps_raise mk_of pmk_own passAt takes_of passes_call MkP PMk ps_try_as ps_try_many
open L2N hiding St
theorem exm_row {M : Model} {K : PySem.W.Frag} {cls : Value} {tp e : Addr} {cs : List Value} {b : Bool} {h : Heap} (X : K.In h) (LT : PySem.W.Looks M h (typeOf (.ref e)) cls) (hp : h.get? tp = some { cls := .type "tuple", data := .seq cs.toArray }) (hx : PySem.W.exmAny K cls cs = some b) :
    PySem.W.Looks M h (excMatches (.ref e) (.ref tp)) b := by
  intro A Q E s k₀ q
  obtain ⟨hh, g, d, tk, os⟩ := s
  have keep : ∀ b o, h.get? b = some o → hh.get? b = some o := k₀
  have isT : PySem.W.Looks M h (isInstance (.ref tp) (.type "tuple")) true := ((PySem.W.Looks.ld hp).andThen .now).andThen (PySem.W.Looks.of_pure isSubtype_tuple_tuple)
  have LTk := LT.keeps keep
  have isTk := isT.keeps keep
  have hpk := keep _ _ hp
  unfold excMatches
  refine wpAny_bind (isTk.at ?_)
  dsimp only
  rw [if_pos rfl]
  first
    | refine wpAny_bind (wpAny_seqItems hpk rfl ?_)
    | refine wpAny_bind (wpAny_bind (wpAny_seqItems hpk rfl (wpAny_pure ?_)))
  dsimp only [Option.getD_some, Option.getD]
  refine wpAny_bind (wpAny_pure ?_)
  have one : ∀ (cs : List Value) (b : Bool), PySem.W.exmAny K cls cs = some b → ∀ {Q' : PUnit → Shared → Prop}, Q' PUnit.unit ⟨hh, g, d, tk, os⟩ → wpAny M A (forIn cs PUnit.unit fun c __s => do
          let __do_lift ← isExcClass c
          if (!__do_lift) = true then do
              rule "try.except-non-exception-class"
              raiseErrorWords "TypeError" "catching classes that do not inherit from BaseException is not allowed"
              pure (ForInStep.yield PUnit.unit)
            else pure (ForInStep.yield PUnit.unit)) Q' E ⟨hh, g, d, tk, os⟩ := by
    intro cs
    induction cs with
    | nil => intro b _ Q' q'; exact wpAny_pure q'
    | cons c r ih =>
      intro b hx Q' q'
      obtain ⟨b1, d1, x1, y1, z1⟩ := PySem.W.exmAny_cons hx
      have e1 := ((PySem.W.exm_cls (M := M) X x1).1).keeps keep
      simp only [List.forIn_cons]
      refine wpAny_bind (wpAny_bind (e1.at ?_))
      simp only [Bool.not_true, Bool.false_eq_true, if_false]
      exact wpAny_pure (ih d1 y1 q')
  have two : ∀ (cs : List Value) (b : Bool), PySem.W.exmAny K cls cs = some b → ∀ {Q' : Option Bool × Unit → Shared → Prop}, Q' (if b = true then some true else none, ()) ⟨hh, g, d, tk, os⟩ → wpAny M A (forIn cs ((none : Option Bool), ()) fun c __s => do
            let __do_lift ← isSubtype cls c
            if __do_lift = true then pure (ForInStep.done (some true, ())) else pure (ForInStep.yield (none, ()))) Q' E ⟨hh, g, d, tk, os⟩ := by
    intro cs
    induction cs with
    | nil =>
      intro b hb Q' q'
      have : some false = some b := hb
      cases this
      exact wpAny_pure q'
    | cons c r ih =>
      intro b hx Q' q'
      obtain ⟨b1, d1, x1, y1, rfl⟩ := PySem.W.exmAny_cons hx
      have e1 := ((PySem.W.exm_cls (M := M) X x1).2).keeps keep
      simp only [List.forIn_cons]
      refine wpAny_bind (wpAny_bind (e1.at ?_))
      cases b1 with
      | true => simp only [if_true]; exact wpAny_pure (wpAny_pure q')
      | false =>
        simp only [Bool.false_eq_true, if_false]
        exact wpAny_pure (ih d1 y1 q')
  refine wpAny_bind (one cs b hx ?_)
  refine wpAny_bind (LTk.at ?_)
  refine wpAny_bind (two cs b hx ?_)
  cases b
  · exact wpAny_pure q
  · exact wpAny_pure q
/-- a tuple of names -/
inductive TNames : List Expr → List Str → Prop
  | nil : TNames [] []
  | cons {x : Str} {np : Pos} {es : List Expr} {ds : List Str} (t : TNames es ds) : TNames (.Name x np :: es) (x :: ds)
theorem any_row {K : PySem.W.Frag} {cls : Value} {f : Str → Bool} : ∀ {ds : List Str}, (∀ D ∈ ds, PySem.W.exmOne K cls (.ref (cAt K D)) = some (f D)) → PySem.W.exmAny K cls (ds.map fun D => .ref (cAt K D)) = some (ds.any f)
  | [], _ => rfl
  | D :: r, h => by
    have h1 := h D (List.mem_cons_self ..)
    have h2 := any_row (ds := r) fun x hx => h x (List.mem_cons_of_mem _ hx)
    simp only [List.map_cons, PySem.W.exmAny, h1, h2, List.any_cons]
section
variable {X : Cx} {B : Heap} {a : Addr} {cls : Value} {d : Option Addr} {pins : List (Addr × Obj)} {σ : St} {H : Hp} {sI z : Shared}
theorem Came.row (hs : X.stack = X.env :: X.outer) (hf : X.env.frame = some X.env.locals) (c : Came X B a cls d pins σ H sI z) {pos : Pos} {E : Value → Shared → Prop} {es : List Expr} {ds : List Str} (t : TNames es ds) (N : ∀ x ∈ ds, Names X x (.ref (cAt X.K x))) {Q : List Value → Shared → Prop}
    (q : Q (ds.map fun x => .ref (cAt X.K x)) z) : wpAny (model X.prog X.w) (X.A.mark (some (.ref a))) (spliced (backTo pos (starEach es X.env))) Q E z := by
  induction t generalizing Q with
  | nil => exact wpAny_items_nil q
  | cons t ih => exact wpAny_items_cons (c.named hs hf (N _ (List.mem_cons_self ..)) (ih (fun x hx => N x (List.mem_cons_of_mem _ hx)) q))
theorem push_up {h : Heap} {o : Obj} : h.UpToSlots (h.push o) := fun b u e _ => ⟨u.slots, Heap.get?_push_of_some _ e⟩
theorem flies_push {l : List Env} {Z : Obj → Prop} {h : Heap} {o : Obj} (f : HandSPX.FlyingZ B l a Z h) : HandSPX.FlyingZ B l a Z (h.push o) := by
  obtain ⟨f1, f2, f3, oe, vs, T, oT, ts, e1, e2, e3, e4, e5, e6, e7, e8, e9⟩ := f
  exact ⟨fun b u e => Heap.get?_push_of_some _ (f1 b u e), f2, Heap.FunFrames.of_keeps (fun b u e _ => ⟨u, Heap.get?_push_of_some _ e, rfl⟩) f3, oe, vs, T, oT, ts, Heap.get?_push_of_some _ e1, e2, e3, e4, e5, e6, Heap.get?_push_of_some _ e7, e8, e9⟩
/-- what a clause of several classes wishes: one of them is met -/
def wRow (K : PySem.W.Frag) (ds : List Str) (ix : Option Nat) (ts : Addr → Value → Option Addr → TS) (D : Ends) : WX := fun cls d σ H =>
  PySem.W.exmAny K cls (ds.map fun x => .ref (cAt K x)) = some true ∧ ∀ a, H a = none → match ix with
    | none => ts a cls d D σ H
    | some i => ts a cls d (dropN i D) (σ.set i (some (.ref a))) H
structure NmOk (X : Cx) (ix : Option Nat) (nm : Option Str) : Prop where
  ok : (ix = none ∧ nm = none) ∨ ∃ i n, ix = some i ∧ nm = some n ∧ X.N.Nodup ∧ X.N[i]? = some n ∧ X.env.kindOf n = some .local
theorem Came.rowClause (hs : X.stack = X.env :: X.outer) (hf : X.env.frame = some X.env.locals) (c : Came X B a cls d pins σ H sI z) {es : List Expr} {ds : List Str} {k : Nat} {tpos pos' : Pos} {ix : Option Nat} {nm : Option Str} {b₀ : Stmt} {suite : List Stmt} {ts : Addr → Value → Option Addr → TS} {D : Ends}
    (t : TNames es ds) (hl : ds.length ≤ 100) (N : ∀ x ∈ ds, Names X x (.ref (cAt X.K x))) (M : NmOk X ix nm)
    (hsu : ∀ (a : Addr) (oe : Obj) (cls : Value) (d : Option Addr) (pn : List (Addr × Obj)), Zn cls d oe → (∃ vs, oe.data = .fields vs) → PSs (X.suite a ((a, oe) :: pn)) (b₀ :: suite) (ts a cls d))
    (w : wRow X.K ds ix ts D cls d σ H) : wpAny (model X.prog X.w) X.A (handleBy (.ref a) X.env [.ExceptHandler (some (.Tuple es k tpos)) nm (b₀ :: suite) pos']) (SP X pins D) X.xe z := by
  have ok := c.inv0.ok
  obtain ⟨e, yes⟩ := w
  have f1 : HandSPX.FlyingZ B X.stack a (Zn cls d) (z.heap.push { cls := .type "tuple", data := .seq (ds.map fun x => Value.ref (cAt X.K x)).toArray }) := flies_push c.flies
  have look : PySem.W.Looks (model X.prog X.w) (z.heap.push { cls := .type "tuple", data := .seq (ds.map fun x => Value.ref (cAt X.K x)).toArray }) (excMatches (.ref a) (.ref z.heap.objs.size)) true :=
    exm_row (c.inv.kIn.keeps fun _ _ q => Heap.get?_push_of_some _ q) (fun _ _ _ _ k q => by
      obtain ⟨_, _, e1, e2, _⟩ := f1.there
      exact wpAny_typeOf_ref (k _ _ e1) (by rw [e2.1]; exact q)) (Heap.get?_push_size _ rfl) e
  rcases M.ok with ⟨rfl, rfl⟩ | ⟨i, n, rfl, rfl, hN, hi, hn⟩
  · refine wpAny_handleBy_cons (codeAny_handlers_test (wpAny_Tuple (c.row hs hf t N ⟨by rw [List.length_map]; exact Nat.le_trans hl (by decide), look.here ?_⟩))) nofun
    refine codeAny_handlers_suite (HandSPX.lands_againZ f1 fun h f u => ?_)
    obtain ⟨oe, vs, _, z2, z3, S⟩ := (c.go f (push_up.trans u)).obj hs hf
    exact wpAny_mono ((hsu a oe cls d _ z2 ⟨vs, z3⟩).run [] _ σ H D S (yes a c.out)) (fun fl y p => sp_unsuite ok p) (fun _ _ q => False.elim q)
  · refine wpAny_handleBy_cons (codeAny_handlers_test (wpAny_Tuple (c.row hs hf t N ⟨by rw [List.length_map]; exact Nat.le_trans hl (by decide), look.here ?_⟩))) nofun
    refine codeAny_handlers_suite_as (HandSPX.lands_againZ f1 fun h f u => ?_)
    obtain ⟨oe, vs, _, z2, z3, S⟩ := (c.go f (push_up.trans u)).obj hs hf
    refine store_ok (X := X.suite a ((a, oe) :: (X.pn ++ pins))) (v := .ref a) S hN hi (.inl hn) rfl (fun y J => ?_) (.inr hn)
    exact wpAny_mono ((hsu a oe cls d _ z2 ⟨vs, z3⟩).run [] y _ H _ J (yes a c.out)) (fun fl y p => sp_dropN ok hN hi hn p) (fun _ _ q => False.elim q)
theorem ps_try_row {body : List Stmt} {es : List Expr} {ds : List Str} {k : Nat} {tpos pos' pos : Pos} {ix : Option Nat} {nm : Option Str} {b₀ : Stmt} {suite : List Stmt} {ts : Addr → Value → Option Addr → TS} {tb : WX → TS}
    (hs : X.stack = X.env :: X.outer) (hf : X.env.frame = some X.env.locals)
    (hb : ∀ (W : WX) (pn : List (Addr × Obj)) (xe : Value → Shared → Prop), Takes (X.tr pn xe) W → PassesOwn (model X.prog X.w) X.A X.env xe → PSs (X.tr pn xe) body (tb W))
    (t : TNames es ds) (hl : ds.length ≤ 100) (N : ∀ x ∈ ds, Names X x (.ref (cAt X.K x))) (M : NmOk X ix nm)
    (hsu : ∀ (a : Addr) (oe : Obj) (cls : Value) (d : Option Addr) (pn : List (Addr × Obj)), Zn cls d oe → (∃ vs, oe.data = .fields vs) → PSs (X.suite a ((a, oe) :: pn)) (b₀ :: suite) (ts a cls d)) :
    PS X (.Try body [.ExceptHandler (some (.Tuple es k tpos)) nm (b₀ :: suite) pos'] [] [] pos) (fun D σ H => tb (wRow X.K ds ix ts D) D σ H) := by
  refine ⟨fun pins s σ H D I tt => wpAny_Try_except ?_⟩
  have ok := I.ok
  have got : ∀ u y, XE (X.tr (X.pn ++ pins) X.xe) (wRow X.K ds ix ts D) u y → wpAny (model X.prog X.w) X.A (noteFrame u X.env) (fun _ y1 => wpAny (model X.prog X.w) X.A (setFlight u none) (fun _ y2 =>
      wpAny (model X.prog X.w) X.A (handleBy u X.env [.ExceptHandler (some (.Tuple es k tpos)) nm (b₀ :: suite) pos']) (SP X pins D) X.xe y2) X.xe y1) X.xe y := by
    rintro u y ⟨a, B, sI, p2, σ', H', cls, d, rfl, J, g, up, sky, out, os, ag, w⟩
    have air : Sky B (X.env :: X.outer) a (Zn cls d) X.env.locals y.heap := hs ▸ sky
    refine Sky.land Zn.steady (by rw [ok.frames, hs]) hf air fun h f u => ?_
    exact Came.rowClause (z := { y with heap := h }) hs hf ⟨J.ofTry ok, g, up.trans u, out, os, ag, hs ▸ f⟩ t hl N M hsu w
  refine wpAny_mono ((hb (wRow X.K ds ix ts D) (X.pn ++ pins)
    (fun u y => wpAny (model X.prog X.w) X.A (noteFrame u X.env) (fun _ y1 => wpAny (model X.prog X.w) X.A (setFlight u none) (fun _ y2 => wpAny (model X.prog X.w) X.A (handleBy u X.env [.ExceptHandler (some (.Tuple es k tpos)) nm (b₀ :: suite) pos']) (SP X pins D) X.xe y2) X.xe y1) X.xe y)
    (fun u y x => got u y ?_) PassesOwn.looking).run [] s σ H D (I.toTry _) tt) (fun fl y p => ?_) (fun _ _ q => q)
  · obtain ⟨a, B, sI, p2, σ', H', cls, d, e, J, r⟩ := x
    exact ⟨a, B, sI, p2, σ', H', cls, d, e, ⟨J.ok.toTry _ _, J.os, J.bare, J.base, J.loc, J.cell, J.free, J.freeC, J.pin, J.hok, J.len⟩, r⟩
  · cases fl with
    | ret u => exact let ⟨v, s, h, i, r, q⟩ := p; ⟨v, s, h, i.ofTry ok, r, q⟩
    | next => exact let ⟨s, h, i, q⟩ := p; wpAny_execs_nil ⟨s, h, i.ofTry ok, q⟩
    | brk => exact let ⟨s, h, i, q⟩ := p; ⟨s, h, i.ofTry ok, q⟩
    | cont => exact let ⟨s, h, i, q⟩ := p; ⟨s, h, i.ofTry ok, q⟩
end
/-! ### computed: one clause of several classes -/
def sTryT (xs ds : List Str) (ix : Option Nat) (b : MS) (m : Str → List (Str × W) → MS) : MS := fun s h => match b s h with
  | .exc C fs s1 h1 => if C ∈ xs ∧ C ∈ ds then endN ix (m C fs (putN ix s1) h1) else .bad
  | r => r
section
variable {X : Cx} {Wx : WJ}
theorem ds_tryT {B : Str} {xs ds : List Str} {body : List Stmt} {es : List Expr} {k : Nat} {tpos pos' pos : Pos} {ix : Option Nat} {nm : Option Str} {b₀ : Stmt} {suite : List Stmt} {b : MS} {m : Str → List (Str × W) → MS}
    (hJ : Wx.J = none) (hs : X.stack = X.env :: X.outer) (hf : X.env.frame = some X.env.locals)
    (hb : ∀ (W : WX) (pn : List (Addr × Obj)) (xe : Value → Shared → Prop), Takes (X.tr pn xe) W → PassesOwn (model X.prog X.w) X.A X.env xe → DSs (X.tr pn xe) ⟨W, none⟩ body b)
    (t : TNames es ds) (hl : ds.length ≤ 100) (T : ∀ x ∈ ds, ExT X.K X.mg B xs x) (G : ∀ x ∈ ds, Gl X x ∧ (x == ("__debug__" : Str)) = false) (M : NmOk X ix nm)
    (hsu : ∀ (a : Addr) (oe : Obj) (C : Str) (fs : List (Str × W)) (gs : List (Str × V)) (d : Option Addr) (pn : List (Addr × Obj)), Zn (.ref (cAt X.K C)) d oe → (∃ vs, oe.data = .fields vs) → DSs (X.suite a ((a, oe) :: pn)) ⟨fun _ _ _ _ => False, exI ix a d C fs gs none⟩ (b₀ :: suite) (m C fs)) :
    DS X Wx (.Try body [.ExceptHandler (some (.Tuple es k tpos)) nm (b₀ :: suite) pos'] [] [] pos) (sTryT xs ds ix b m) := by
  obtain ⟨Wo, J⟩ := Wx
  cases hJ
  refine (ps_try_row (ds := ds) (ix := ix) (ts := tsH X.K ⟨"", ix, m⟩) (tb := fun W => tDS X.K ⟨W, none⟩ b) hs hf (fun W pn xe t p => hb W pn xe t p) t hl (fun x hx => ⟨(G x hx).1, (G x hx).2, .inl (T x hx).g⟩) M
    (fun a oe cls d pn z f => ⟨fun pins s σ H D I q => ?_⟩)).imp fun D σ H z => ?_
  · obtain ⟨C, fs, gs, rfl, q⟩ := q
    exact (hsu a oe C fs gs d pn z f).run pins s σ H D I q
  obtain ⟨ι, s, h, S, R, A⟩ := z
  refine ⟨ι, s, h, S, R, ?_⟩
  unfold sTryT at A
  cases e : b s h with
  | bad => rw [e] at A; exact A.elim
  | ok r h1 => rw [e] at A; exact A
  | exc C fs s1 h1 =>
    rw [e] at A
    replace A : After X.K ι H (okS X.K none D) (exS X.K ⟨Wo, none⟩) (if C ∈ xs ∧ C ∈ ds then endN ix (m C fs (putN ix s1) h1) else .bad) := A
    intro ι' H' p g S' σ' d gs R' hd rf
    replace A := A.le p g
    replace R' : RSl X.K none ι' H' s1 σ' := R'
    clear e
    by_cases c : C ∈ xs ∧ C ∈ ds
    · rw [if_pos c] at A
      refine ⟨?_, fun a na => ?_⟩
      · rw [any_row (f := fun D => decide (C = D) || decide (D = B)) fun D hD => (T D hD).is C c.1]
        congr 1
        rw [List.any_eq_true]
        exact ⟨C, c.2, by simp⟩
      · cases ix with
        | none =>
          refine ⟨C, fs, gs, rfl, ι', s1, h1, S', R', ?_⟩
          revert A
          show After X.K ι' H' (okS X.K none D) (exS X.K ⟨Wo, none⟩) (endN none (m C fs s1 h1)) → After X.K ι' H' (okS X.K none D) _ (m C fs s1 h1)
          cases m C fs s1 h1 with
          | bad => exact fun z => z
          | exc => exact fun z => z.elim
          | ok q h2 =>
            obtain ⟨f, s2⟩ := q
            cases f <;> exact fun z => z
        | some i =>
          refine ⟨C, fs, gs, rfl, ι', s1.set i none, h1, S', R'.holds hd rf, ?_⟩
          revert A
          show After X.K ι' H' (okS X.K none D) (exS X.K ⟨Wo, none⟩) (endN (some i) (m C fs (s1.set i none) h1)) → After X.K ι' H' (okS X.K (exI (some i) a d C fs gs none) (dropN i D)) _ (m C fs (s1.set i none) h1)
          cases m C fs (s1.set i none) h1 with
          | bad => exact fun z => z
          | exc => exact fun z => z.elim
          | ok q h2 =>
            obtain ⟨f, s2⟩ := q
            cases f with
            | ret w => exact fun z => z
            | nx => exact fun z ι2 H2 p2 g2 S2 σ2 R2 => z ι2 H2 p2 g2 S2 (σ2.set i none) (R2.lets (J' := none) i)
            | brk => exact fun z ι2 H2 p2 g2 S2 σ2 R2 => z ι2 H2 p2 g2 S2 (σ2.set i none) (R2.lets (J' := none) i)
            | cnt => exact fun z ι2 H2 p2 g2 S2 σ2 R2 => z ι2 H2 p2 g2 S2 (σ2.set i none) (R2.lets (J' := none) i)
    · rw [if_neg c] at A
      exact A.elim
end
end D
/-! D: list comprehensions over ranges within an except suite. -/
namespace D
open PySem PySem.Spec PyProof.Rows
open L2 hiding XE Takes CX ps_raise mk_of pmk_own passAt takes_of passes_call MkP PMk ps_try_as ps_try_many
open L2N hiding St
open L2H (Hot1 HotC PIH PIEH TurnH)
section
variable {Y : Cx} {q : Addr × Obj} {pl : List (Addr × Obj)} {σ : St} {H : Hp} {s : Shared}
/-- a pin more in the context, and back -/
theorem inv_up (e : Y.pn = []) (I : Inv Y (q :: pl) σ H s) : Inv { Y with pn := [q] } pl σ H s :=
  ⟨⟨I.ok.mod, I.ok.kind, I.ok.glob, I.ok.blt, I.ok.above, I.ok.inj, I.ok.has, I.ok.cab, I.ok.hd, I.ok.frames, I.ok.stk, I.ok.exf, I.ok.bs, I.ok.bsz, I.ok.noex, I.ok.exfs, I.ok.funs, I.ok.frf⟩, I.os, I.bare, I.base, I.loc, I.cell, I.free, I.freeC, fun p hp => I.pin p (by rw [e]; exact hp), I.hok, I.len⟩
theorem inv_dn (e : Y.pn = []) (I : Inv { Y with pn := [q] } pl σ H s) : Inv Y (q :: pl) σ H s :=
  ⟨⟨I.ok.mod, I.ok.kind, I.ok.glob, I.ok.blt, I.ok.above, I.ok.inj, I.ok.has, I.ok.cab, I.ok.hd, I.ok.frames, I.ok.stk, I.ok.exf, I.ok.bs, I.ok.bsz, I.ok.noex, I.ok.exfs, I.ok.funs, I.ok.frf⟩, I.os, I.bare, I.base, I.loc, I.cell, I.free, I.freeC, fun p hp => I.pin p (by rw [e] at hp; exact hp), I.hok, I.len⟩
end
theorem comp_hot {X : Cx} {q : Addr × Obj} {pins : List (Addr × Obj)} {s : Shared} {σ : St} {H : Hp} {Q : VK} {elt tg iter : Expr} {ifs : List Expr} {scope : Scope} {own : List (Str × Nat)} {pos pos' : Pos} {wi : TI} {g : TG} {tt : TT} {te : TE}
    (hq : q ∈ X.pn) (hot : Hot1 X.A q) (nd : X.N.Nodup) (inv : Inv X pins σ H s) (src : PIH X tg iter wi) (ok : BlkOk X.N X.env.scope scope own)
    (hg : ∀ (s : Shared) (H : Hp) (C : Addr) (cl : List (Str × Addr)) (fp : List Addr), PG (X.blk s H scope (compEnvC scope cl C X.env) fp) tg g)
    (ht : ∀ (s : Shared) (H : Hp) (C : Addr) (cl : List (Str × Addr)) (fp : List Addr), PTs (X.blk s H scope (compEnvC scope cl C X.env) fp) ifs tt)
    (he : ∀ (s : Shared) (H : Hp) (C : Addr) (cl : List (Str × Addr)) (fp : List Addr), PE (X.blk s H scope (compEnvC scope cl C X.env) fp) elt te)
    (hs : ∀ x, foldedSetIterable iter X.env x = pure x) (wish : tLc wi g tt te (own.map (·.2)) σ H Q) :
    wpAny (model X.prog X.w) X.A (comprehension (.ListComp elt [⟨tg, iter, ifs, 0⟩] scope pos) scope X.env pos' (newList []) false (eval iter X.env) none) (EP X pins σ Q) X.xe s := by
  have caps : ∀ y ∈ scope.names, y.2 = .free → ∃ c, X.env.cells.lookup y.1 = some c := fun y hy e =>
    (ok.free y hy e).elim (fun k => inv.ok.has _ (.inl k)) (fun k => inv.ok.has _ (.inr k))
  refine wpAny_comprehension_free (use := none) rfl hs (closure_ok caps) ok.kind (fun y hy e => by rw [ok.uniq y hy, e]) (thn (src.run pins s σ H _ inv wish) fun _ _ hx => thn hx fun itv t2 got => ?_)
  obtain ⟨it, fp, tn, J, H2, rfl, inv2, T, at2, own2, more⟩ := got
  refine wpAny_newObj_type (newEnv_comp ?_) (by show 0 ≤ sizeLine; decide)
  obtain ⟨D, hD⟩ : ∃ D, t2.heap.objs.size = D := ⟨_, rfl⟩
  rw [hD]
  obtain ⟨W, ⟨m0, w0⟩, turn⟩ := more D (inv2.hok.fresh (Nat.le_of_eq hD))
  obtain ⟨t3, h3⟩ : ∃ t3 : Shared, { t2 with heap := t2.heap.push { cls := .type "list", data := .seq ([] : List Value).toArray } } = t3 := ⟨_, rfl⟩
  rw [h3]
  have hp3 : t3.heap = t2.heap.push { cls := .type "list", data := .seq ([] : List Value).toArray } := by rw [← h3]
  have up3 : ∀ b o, t2.heap.get? b = some o → t3.heap.get? b = some o := fun b o e => by rw [hp3]; exact Heap.get?_push_of_some _ e
  obtain ⟨H3, hH3⟩ : ∃ H3, upd H2 D (.lst []) = H3 := ⟨_, rfl⟩
  have inv3 : Inv X pins σ H3 t3 := by
    rw [← h3, ← hH3]
    refine inv2.laid (t' := t2.toks) (fun b o e => Heap.get?_push_of_some _ e) (Nat.le_of_eq hD) ⟨Nat.zero_le _, [], 0, .nil, ?_⟩
    rw [← hD]
    exact Heap.get?_push_size _ rfl
  rw [hH3] at w0
  have own3 : ∀ b ∈ fp, FpOk X pins H3 b ∧ b < t3.heap.objs.size := fun b hb => by
    obtain ⟨o, e, _⟩ := T.obj _ _ at2 b hb
    have lt : b < t2.heap.objs.size := Heap.lt_size e
    refine ⟨⟨?_, (own2 b hb).2⟩, by rw [hp3, Heap.size_push]; exact Nat.lt_succ_of_lt lt⟩
    rw [← hH3, upd_ne (by rw [← hD]; exact Nat.ne_of_lt lt)]
    exact (own2 b hb).1
  have begin4 := block_start inv3 ok nd own3
  have q3 := inv3.pin q (List.mem_append_left _ hq)
  show codeAny _ _ (.compStart _ 0 (.ref it) (.ref D) (compEnvC scope (cellsFrom (t3.heap.objs.size + 1) scope.names (cloFrom X.env.cells scope.names [])) t3.heap.objs.size X.env)) (compPost (model X.prog X.w) X.A X.xe none _ (.ref D) t3.heap.objs.size) { t3 with heap := pushCells (t3.heap.push { cls := .type "dict", data := .dict #[] }) scope.names }
  have pg := hg t3 H3 t3.heap.objs.size (cellsFrom (t3.heap.objs.size + 1) scope.names (cloFrom X.env.cells scope.names [])) fp
  have pt := ht t3 H3 t3.heap.objs.size (cellsFrom (t3.heap.objs.size + 1) scope.names (cloFrom X.env.cells scope.names [])) fp
  have pe := he t3 H3 t3.heap.objs.size (cellsFrom (t3.heap.objs.size + 1) scope.names (cloFrom X.env.cells scope.names [])) fp
  obtain ⟨ce, hce⟩ : ∃ ce, compEnvC scope (cellsFrom (t3.heap.objs.size + 1) scope.names (cloFrom X.env.cells scope.names [])) t3.heap.objs.size X.env = ce := ⟨_, rfl⟩
  have cL : ce.locals = t3.heap.objs.size := by rw [← hce]; rfl
  rw [hce] at begin4 pg pt pe
  rw [hce]
  obtain ⟨t4, h4⟩ : ∃ t4 : Shared, { t3 with heap := pushCells (t3.heap.push { cls := .type "dict", data := .dict #[] }) scope.names } = t4 := ⟨_, rfl⟩
  rw [h4] at begin4
  rw [h4]
  have up4 : ∀ b o, t3.heap.get? b = some o → t4.heap.get? b = some o := fun b o e => by rw [← h4]; exact pushCells_keeps _ _ _ _ (Heap.get?_push_of_some _ e)
  have at4 : tn 0 t4.heap := T.keep _ _ _ at2 fun b _ o e => up4 _ _ (up3 _ _ e)
  have far : ∀ b ∈ fp, q.1 ≠ b := fun b hb => (own2 b hb).2.2.2.2.2 q (List.mem_append_left _ hq)
  have inv4 : Inv (X.blk t3 H3 scope ce fp) [q] (wipe σ (own.map (·.2))) H3 t4 := begin4.pins_of fun p hp => by
    have : p = q := List.mem_singleton.mp hp
    subst this
    refine ⟨up4 _ _ q3.1, q3.2.1, ?_, fun hm => (List.mem_cons.mp (inv3.stkSub p.1 hm)).elim q3.2.2.1 q3.2.2.2.1, q3.2.2.2.2⟩
    show p.1 ≠ ce.locals
    rw [cL]
    exact Nat.ne_of_lt (Heap.lt_size q3.1)
  have still : ∀ {σ' : St} {H' : Hp} {s' : Shared}, Inv (X.blk t3 H3 scope ce fp) [q] σ' H' s' → (∀ b ∈ fp, H' b = none) → ∀ b ∈ fp, FpOk { X.blk t3 H3 scope ce fp with pn := [q] } [] H' b := fun {σ' H' s'} I no b hb =>
    ⟨no b hb, (I.ok.exf b hb).1, I.ok.exfs b hb, .inl hb, fun x c e => (I.ok.exf b hb).2 x c e, fun p hp => by
      have : p = q := by simpa using hp
      subst this
      exact far b hb⟩
  have hotY : HotC { X.blk t3 H3 scope ce fp with pn := [q] } := ⟨q, hot, List.mem_singleton.mpr rfl⟩
  have turns : codeAny (model X.prog X.w) X.A (.compLoop (.ListComp elt [⟨tg, iter, ifs, 0⟩] scope pos) 0 (.ref it) (.ref D) ce) (compPost (model X.prog X.w) X.A X.xe none (EP X pins σ Q) (.ref D) t3.heap.objs.size) t4 := by
    refine compLoop_any (fun n s' => ∃ i H', Inv (X.blk t3 H3 scope ce fp) [q] (wipe σ (own.map (·.2))) H' s' ∧ tn i s'.heap ∧ (∀ b ∈ fp, H' b = none) ∧ W i n H') ?_ m0 ⟨0, H3, inv4, at4, fun b hb => (own3 b hb).1.1, w0⟩
    rintro n s5 ⟨i, H5, I5, at5, no5, w5⟩
    rcases turn i n H5 w5 with ⟨stop, fine⟩ | ⟨go, Nx, less, step⟩
    · have ended := T.done { X.blk t3 H3 scope ce fp with pn := [q] } rfl rfl rfl hotY i [] s5 _ H5 (fun _ _ => False) (inv_up rfl I5) (still I5 no5) at5 stop
      refine thnF ended fun r s6 ⟨none', I6⟩ => ?_
      subst none'
      have I7 : Inv X pins σ H5 s6 := inv3.call' (ch := fp) I6.os I6.base I6.hok I6.bare fun b hb => ⟨(own3 b hb).1.2.2.2.1, (own3 b hb).1.2.1, (own3 b hb).1.2.2.2.2.1, (own3 b hb).1.2.2.2.2.2⟩
      have noL : H5 t3.heap.objs.size = none := by
        have z : H5 ce.locals = none := I6.free
        rwa [cL] at z
      obtain ⟨m, ns, _⟩ := I6.loc
      have ns : s6.heap.Ns ce.locals m := ns
      rw [cL] at ns
      obtain ⟨f0, f1, f2, f3, f4, f5⟩ := inv3.fpOk (Nat.le_refl _) noL
      exact ⟨m, ns, fun h'' sb => ⟨.ref D, H5, I7.turned (t' := s6.toks) (fun b o hb e => (sb.2 b hb).trans e) f0 f1 f3 f4 f5, rfl, fine⟩⟩
    · have next := T.item { X.blk t3 H3 scope ce fp with pn := [q] } rfl rfl rfl hotY i [] s5 _ H5 (fun _ _ => False) (inv_up rfl I5) (still I5 no5) at5 go
      refine thnF next fun r s6 ⟨u, some', h6⟩ => ?_
      subst some'
      refine thnF h6 fun _ s7 ⟨x, H7, J7, r7, y7, at7, no7⟩ => ?_
      have I7 : Inv (X.blk t3 H3 scope ce fp) [q] (wipe σ (own.map (·.2))) H7 s7 := inv_dn rfl J7
      have I8 : Inv (X.blk t3 H3 scope ce fp) ([q] ++ pinsAt fp s7.heap) (wipe σ (own.map (·.2))) H7 s7 := I7.pinned (fun b hb => by
        obtain ⟨a1, a2, a3, a4, a5, a6⟩ := still I7 no7 b hb
        exact ⟨a1, a2, a3, a4, a5, fun p hp => a6 p (by simpa using hp)⟩) (T.obj _ _ at7)
      refine thnF (pg.run _ s7 _ H7 x u _ I8 r7 (step x H7 y7)) fun _ s8 ⟨σ8, H8, K8, wp8, q8⟩ => ?_
      refine thnF (pt.run _ s8 σ8 H8 _ K8 q8) fun b s9 ⟨H9, K9, q9⟩ => ?_
      have back : ∀ {s' : Shared} {H' : Hp}, Inv (X.blk t3 H3 scope ce fp) ([q] ++ pinsAt fp s7.heap) σ8 H' s' → Nx H' → ∃ m, m < n ∧ ∃ i H', Inv (X.blk t3 H3 scope ce fp) [q] (wipe σ (own.map (·.2))) H' s' ∧ tn i s'.heap ∧ (∀ b ∈ fp, H' b = none) ∧ W i m H' := fun {s' H'} I' nx => by
        obtain ⟨m', lt, w'⟩ := less H' nx
        have there : ∀ b ∈ fp, ∀ o, s7.heap.get? b = some o → s'.heap.get? b = some o ∧ H' b = none := fun b hb o e =>
          have z := I'.pin (b, o) (List.mem_append_right _ (List.mem_append_right _ (mem_pinsAt hb e)))
          ⟨z.1, z.2.1⟩
        refine ⟨m', lt, i + 1, H', I'.unpinned.weak (by rw [← wp8, wipe_length]) (fun j v e => ?_), T.keep _ _ _ at7 fun b hb o e => (there b hb o e).1, fun b hb => ?_, w'⟩
        · rw [← wp8] at e
          exact (wipe_some e).1
        · obtain ⟨o, e, _⟩ := T.obj _ _ at7 b hb
          exact (there b hb o e).2
      cases b with
      | false =>
        simp only [Bool.false_eq_true, if_false] at q9 ⊢
        exact back K9 q9
      | true =>
        simp only [if_true] at q9 ⊢
        refine thnF (pe.run _ s9 σ8 H9 _ K9 q9) fun z s10 ⟨yv, H10, K10, r10, acc, hD10, hz10, nx⟩ => ?_
        exact app_ok (X := X.blk t3 H3 scope ce fp) K10 hD10 hz10 r10 fun s11 K11 => back K11 nx
  exact codeAny_compStart_list turns (T.self X.A 0 _ _ _ at4 turns)
section
variable {X : Cx} {Wx : WJ} {pos p : Pos} {tg iter elt a : Expr} {ifs : List Expr} {mas : MA}
theorem hot_suite {Y : Cx} {a : Addr} {oe : Obj} {pn : List (Addr × Obj)} {cls : Value} {d : Option Addr} (hz : Zn cls d oe) (hf : ∃ vs, oe.data = .fields vs) : Hot1 (Y.suite a ((a, oe) :: pn)).A (a, oe) := by
  obtain ⟨vs, e⟩ := hf
  exact ⟨rfl, vs, e, hz.2.2 vs e⟩
def DIH (X : Cx) (Wx : WJ) (tg e : Expr) (m : MI) : Prop := PIH X tg e (tDI X.K Wx m)
theorem dih_range1 (hg : Gl X "range") (hm : X.mg "range" = none) (ha : DA X Wx [a] mas) (hl : ∀ s h ws h1, mas s h = .ok ws h1 → ws.length = 1) (hs : starEach [a] X.env = [(false, eval a X.env)] := by rfl) :
    DIH X Wx tg (.Call (.Name "range" p) [a] [] pos) (iRng mas) :=
  ⟨fun pins s0 σ0 H0 R I z => (L2H.pi_range1H hg hm ha hs).run pins s0 σ0 H0 R I (by
    obtain ⟨ι, s, h, S, Rs', A⟩ := z
    refine ⟨ι, s, h, S, Rs', ?_⟩
    have B := After.bind (K := X.K) A
    revert B
    generalize hr : mas s h = res
    intro B
    cases res with
    | bad => exact B.elim
    | exc C fs s' h' => exact B
    | ok ws h1 =>
      have n1 := hl _ _ _ _ hr
      refine fun ι1 H1 p1 g1 S1 vs rv => ?_
      have A1 := B ι1 H1 p1 g1 S1
      dsimp only at A1
      split at A1
      · obtain ⟨v, rfl, r⟩ := rws1 rv
        cases r
        split at A1
        · rename_i hc; exact ⟨_, rfl, hc.1, hc.2, A1.now S1 _ yld_rng⟩
        · exact A1.elim
      · simp at n1
      · simp at n1
      · exact A1.elim)⟩
theorem de_lcH {q : Addr × Obj} {scope : Scope} {own : List (Str × Nat)} {mi : MI} {g : MG} {t : MT} {me : ME} (hq : q ∈ X.pn) (hot : Hot1 X.A q) (hN : X.N.Nodup) (hi : DIH X Wx tg iter mi) (ok : BlkOk X.N X.env.scope scope own)
    (hg : ∀ (s : Shared) (H : Hp) (C : Addr) (cl : List (Str × Addr)) (fp : List Addr), DGw (X.blk s H scope (compEnvC scope cl C X.env) fp) (own.map (·.2)) tg g)
    (ht : ∀ (s : Shared) (H : Hp) (C : Addr) (cl : List (Str × Addr)) (fp : List Addr), DTs (X.blk s H scope (compEnvC scope cl C X.env) fp) WF ifs t)
    (he : ∀ (s : Shared) (H : Hp) (C : Addr) (cl : List (Str × Addr)) (fp : List Addr), DE (X.blk s H scope (compEnvC scope cl C X.env) fp) WF elt me) (hs : ∀ x, foldedSetIterable iter X.env x = pure x := by intro _; rfl) :
    DE X Wx (.ListComp elt [⟨tg, iter, ifs, 0⟩] scope pos) (mLc mi (own.map (·.2)) g t me) := by
  refine ⟨fun pins s σ H Q I z => ?_⟩
  rw [eval_ListComp]
  exact comp_hot (g := tDGw X.K (own.map fun (q : Str × Nat) => q.2) g) (tt := tDT X.K WF t) (te := tD X.K WF me) hq hot hN I hi ok hg ht he hs (lc_go z)
end
end D
/-! D: own exception classes called with names of arguments, or without arguments. -/
namespace D
open PySem PySem.Spec PySem.Calls PyProof.Rows
open PySem.HandSPX
section
variable {prog : Program} {w : World} {A : Around} {E : Value → Shared → Prop} {R : Result → Shared → Prop} {h : Heap} {g : Array GenState} {d : Drawn} {t : Nat} {os : OsState}
variable {nm q : Str} {C N : Addr} {bs bm bmB : List Value} {hdct : Bool} {sn : List Str} {sub : List Value} {ab : Bool} {col : Option Bool} {dd : Option Addr} {k0 k1 k2 k3 k5 : Option Value} {B newId initId : String} {kw : List (Str × Value)}
theorem newK_look {M : Model} (F : ExcBaseFacts B newId initId bmB) (same : ∀ X : String, bm.contains (.type X) = bmB.contains (.type X)) {Q : Unit → Shared → Prop}
    (hC : h.get? C = some (excClassObj nm q C N bs bm hdct sn sub ab col dd k0 k1 k2 k3 k5 newId)) (z : Q () ⟨h, g, d, t, os⟩) : wpAny M A (checkBuiltinCall newId ⟨[.ref C], kw⟩) Q E ⟨h, g, d, t, os⟩ := by
  have below : (Value.ref C :: bm).contains (.type B) = true := by rw [List.contains_cons, same, F.hasB, Bool.or_true]
  have named := F.noStar
  have row : ∀ (r : Manifest.Receiver) (a b : String) (n : Nat) (ks : List Str), Bind.check ⟨.any, B, B, r, [⟨"args", .varPos, false⟩, ⟨"kwargs", .varKw, false⟩]⟩ a b n ks = pure () := fun _ _ _ _ _ => rfl
  simp only [checkBuiltinCall, F.newKind, F.newSplit, F.newRow]
  repeat (first | refine wpAny_loadPart_at hC ?_ | (refine wpAny_isSubtype_exc hC ?_; rw [below]) | refine wpAny_staticBase_exc hC ?_ | refine wpAny_madeBy_exc hC ?_ | simp only [bne_self_eq_false, Bool.false_eq_true, if_false] | wp_step)
  exact z
theorem newK_run (F : ExcBaseFacts B newId initId bmB) (same : ∀ X : String, bm.contains (.type X) = bmB.contains (.type X)) (hC : h.get? C = some (excClassObj nm q C N bs bm hdct sn sub ab col dd k0 k1 k2 k3 k5 newId))
    (z : R (.ok (.ret (.ref (h.objs.size + 1)))) ⟨(h.push (W.kdv_tup [])).push (excO C h.objs.size), g, d, t, os⟩) : codeAny (model prog w) A (.builtin newId ⟨[.ref C], kw⟩) R ⟨h, g, d, t, os⟩ := by
  have ends := F.ends
  have inB : (Value.ref C :: bm).contains (.type B) = true := by rw [List.contains_cons, same, F.hasB, Bool.or_true]
  have noA : (Value.ref C :: bm).contains (.type "AttributeError") = false := by rw [List.contains_cons, same, F.noAttr]; rfl
  have noN : (Value.ref C :: bm).contains (.type "NameError") = false := by rw [List.contains_cons, same, F.noName]; rfl
  have few : ([] : List Value).length ≤ sizeLine := Nat.zero_le _
  refine codeAny_builtinAt F.entry ?_
  unfold Builtin.«BaseException.__new__»
  refine PySem.wpAt_bind ?_
  show PySem.wpAt _ _ _ (stack >>= _) _ _ _
  refine PySem.wpAt_bind (PySem.wpAt_stack fun p below => wpAt_of_wpAny ?_)
  wp_walk
  refine wpAt_of_wpAny ?_
  rw [F.owner]
  repeat (first | with_reducible refine wpAny_madeHere_exc F.canon hC ?_ | with_reducible refine wpAny_loadPart_at hC ?_ | (with_reducible refine wpAny_isSubtype_exc hC ?_; first | rw [inB] | rw [noA] | rw [noN]) | wp_step)
  show R _ _
  rw [Heap.size_push]
  exact z
theorem makeK_run (F : ExcBaseFacts B newId initId bmB) (same : ∀ X : String, bm.contains (.type X) = bmB.contains (.type X)) {i : Addr} {Q : Fin → Shared → Prop} (hC : h.get? C = some (excClassObj nm q C N bs bm hdct sn sub ab col dd k0 k1 k2 k3 k5 newId))
    (own : W.Looks (model prog w) h (typeLookup (.ref C) "__init__") (some (.ref i))) (bd : ∀ self, W.Looks (model prog w) h (bindSpecial (.ref i) self) (.ref i, [self]))
    (z : codeAny (model prog w) A (.call (.ref i) ⟨[.ref (h.objs.size + 1)], kw⟩) (fun r s' => match r with
        | .ok (.ret v) => v = .none ∧ Q (.done (.ret (.ref (h.objs.size + 1)))) s'
        | .ok _ => False
        | .error e => E e s') ⟨(h.push (W.kdv_tup [])).push (excO C h.objs.size), g, d, t, os⟩) :
    wpAny (model prog w) A (Builtin.«type.__call__» ⟨[.ref C], kw⟩) Q E ⟨h, g, d, t, os⟩ := by
  repeat (first | with_reducible refine wpAny_loadPart_at hC ?_ | with_reducible refine wpAny_madeBy_exc hC ?_ | wp_step)
  refine codeAny_call_builtin_code (Code.quiet_builtin _ F.quiet) (newK_look F same hC (newK_run F same hC ?_))
  show wpAny _ _ _ _ _ _
  have up : ∀ b o, h.get? b = some o → ((h.push (W.kdv_tup [])).push (excO C h.objs.size)).get? b = some o := fun b o e => Heap.get?_push_of_some _ (Heap.get?_push_of_some _ e)
  have new : ((h.push (W.kdv_tup [])).push (excO C h.objs.size)).get? (h.objs.size + 1) = some (excO C h.objs.size) := by heap_get
  have hC2 := up _ _ hC
  have self : (Value.ref C :: bm).contains (.ref C) = true := by simp
  have own2 := own.keeps up
  have bd2 := (bd (.ref (h.objs.size + 1))).keeps up
  unfold isInstance
  repeat (first | with_reducible refine wpAny_loadPart_at new ?_ | (with_reducible refine wpAny_isSubtype_exc hC2 ?_; rw [self]) | wp_step)
  show wpAny _ _ (typeLookup (.ref C) _) _ _ _
  refine own2.at (wpAny_holding (wpAny_bind (bd2.at (wpAny_bind (wpAny_call (codeAny_mono z fun r s' y => ?_))))))
  rcases r with e | (v | _ | _ | _) <;> first | exact y | exact y.elim | skip
  obtain ⟨rfl, y⟩ := y
  first
    | exact wpAny_pure (wpAny_pure y)
    | (wp_walk; exact y)
theorem callK_run (F : ExcBaseFacts B newId initId bmB) (same : ∀ X : String, bm.contains (.type X) = bmB.contains (.type X)) {i : Addr} (hC : h.get? C = some (excClassObj nm q C N bs bm hdct sn sub ab col dd k0 k1 k2 k3 k5 newId))
    (own : W.Looks (model prog w) h (typeLookup (.ref C) "__init__") (some (.ref i))) (bd : ∀ self, W.Looks (model prog w) h (bindSpecial (.ref i) self) (.ref i, [self])) (typ : W.Looks (model prog w) h (isInstance (.ref C) (.type "type")) true)
    (z : codeAny (model prog w) (A.under (.builtin "type.__call__" ⟨[.ref C], kw⟩)) (.call (.ref i) ⟨[.ref (h.objs.size + 1)], kw⟩) (W.InitBack (h.objs.size + 1) R) ⟨(h.push (W.kdv_tup [])).push (excO C h.objs.size), g, d, t, os⟩) :
    codeAny (model prog w) A (.call (.ref C) ⟨[], kw⟩) R ⟨h, g, d, t, os⟩ := by
  have f1 := tc_lookup
  have f2 := tc_bind (.ref C)
  have typ0 : (⟨h, g, d, t, os⟩ : Shared).TypeIs (.ref C) "type" := ⟨_, hC, rfl⟩
  refine codeAny_of_tree ?_
  show wpAny _ _ (callAny (.ref C) _) _ _ _
  repeat (any_goals (first | assumption | with_reducible refine wpAny_loadPart_at hC ?_ | wp_step))
  refine ⟨rfl, ?_⟩
  refine codeAny_call_builtin_at (Code.quiet_builtin _ (by decide +kernel)) entry_typeCall (W.check_slot PySem.tc_kind PySem.tc_split typ (W.tc_args _ _ _) (makeK_run F same hC own bd ?_))
  refine codeAny_mono z fun r s' y => ?_
  rcases r with e | (v | _ | _ | _) <;> exact y
end
end D
/-! D: isinstance(e, C) in a suite, e the exception that the suite holds, C an own class of exceptions. -/
namespace D
open PySem PySem.Spec PySem.Calls PyProof.Rows
open L2 hiding XE Takes CX ps_raise mk_of pmk_own passAt takes_of passes_call MkP PMk ps_try_as ps_try_many
open L2N hiding St
section
variable {prog : Program} {w : World} {A : Around} {E : Value → Shared → Prop} {s : Shared} {K : PySem.W.Frag} {x C : Addr} {ox od : Obj}
/-- e.__class__, where e has attributes of its own -/
theorem class_exc {Q : Option Value → Shared → Prop} (F : ExcC K C) (X : K.In s.heap) (I : PySem.W.InstAt s.heap x ox C (some od)) (h : Q (some (.ref C)) { s with toks := s.toks + 1 }) : wpAny (model prog w) A (getAttr? (.ref x) "__class__") Q E s := by
  obtain ⟨cd, hc, _⟩ := PySem.W.any_some F.hd
  have hf : PySem.W.findObj K C (some od) "__class__" = some (.bind (.builtin "getset_descriptor.__get__") (.builtin "object.__class__")) := PySem.W.findObj_data (by rw [hc]; rfl) F.ha F.hn F.ht
  obtain ⟨hp, g, d, t, os⟩ := s
  have ty := I.type (M := model prog w)
  have l1 := PySem.W.looks_findIn (M := model prog w) X F.hg
  have l2 := PySem.W.looks_findIn (M := model prog w) X F.hk
  have l3 := PySem.W.looks_find (M := model prog w) X I hf
  have sub : PySem.W.Looks (model prog w) hp (isInstance (.ref x) (.type "BaseException")) true := ty.andThen (PySem.W.looks_subIn X F.hs)
  have no : (onTheHeap (Value.ref C) && Value.builtin "BaseException.__getattribute__" == Value.builtin "object.__getattribute__") = false := by
    rw [show (Value.builtin "BaseException.__getattribute__" == Value.builtin "object.__getattribute__") = false by decide +kernel]; rfl
  unfold getAttr? getAttrBy? getAttrBy
  refine wpAny_bind (wpAny_mkText (wpAny_bind (wpAny_attempt (wpAny_holding (wpAny_bind (ty.at (wpAny_bind (l1.at ?_))))))))
  show wpAny _ _ (if (onTheHeap (Value.ref C) && Value.builtin "BaseException.__getattribute__" == Value.builtin "object.__getattribute__") = true then _ else _) _ _ _
  rw [no, if_neg Bool.false_ne_true]
  unfold getAttrByItsOwn hookBefore
  refine wpAny_bind ?_
  rw [if_pos (show onTheHeap (Value.ref C) = true from rfl)]
  refine l2.at ?_
  refine wpAny_bind (wpAny_attempt (wpAny_holding ?_))
  unfold callGetattribute
  rw [show (false && onTheHeap (Value.builtin "BaseException.__getattribute__")) = false from rfl, if_neg Bool.false_ne_true]
  unfold boundAndCalled
  rw [PySem.F.excAttr_ValueError.ga.bind (.ref x)]
  refine wpAny_bind (wpAny_pure ?_)
  show wpAny _ _ (call (.builtin "BaseException.__getattribute__") [.ref x, .str "__class__" t]) _ _ _
  refine wpAny_call (codeAny_call_builtin PySem.F.excAttr_ValueError.ga.plain PySem.F.entry_bexc_ga ?_)
  refine @PySem.W.check_slot (model prog w) _ _ ⟨hp, g, d, t + 1, os⟩ "BaseException.__getattribute__" "BaseException" "__getattribute__" (.ref x) [.str "__class__" t] [] _ (by decide +kernel) (by decide +kernel) sub (PySem.F.args_bexc_ga (.ref x) (.str "__class__" t)) ?_
  unfold Builtin.«object.__getattribute__»
  refine wpAny_bind (wpAny_of_eq (a := ((Value.ref x : Value), [Value.str "__class__" t])) (by first | rfl | (simp only [slotArgs]; rfl)) ?_)
  refine wpAny_bind (wpAny_pure (wpAny_bind (ty.at (wpAny_bind (l3.at ?_)))))
  show wpAny _ _ (holding [Value.builtin "object.__class__"] (call (.builtin "getset_descriptor.__get__") [.builtin "object.__class__", .ref x, .ref C]) >>= ret) _ _ _
  refine wpAny_bind (wpAny_holding (wpAny_call (PySem.W.class_get (s := ⟨hp, g, d, t + 1, os⟩) (ox := ox) (od := some od) X I F.hm ?_)))
  refine wpAny_pure ?_
  show wpAny _ _ (handedOut (.ref C)) _ _ _
  rw [PySem.W.handedOut_of (v := .ref C) rfl]
  first
    | exact wpAny_pure (wpAny_pure h)
    | exact wpAny_pure h
    | exact wpAny_pure (wpAny_bind (wpAny_pure (wpAny_pure h)))
theorem kitx_exc (F : ExcC K C) : PySem.W.KitX K (.ref x) (.ref C) (fun h => PySem.W.InstAt h x ox C (some od)) where
  ty := fun _ _ _ I => I.type
  it := fun _ _ X _ => by
    obtain ⟨cd, hc, _⟩ := PySem.W.any_some F.hd
    unfold PySem.W.clsIn at hc
    split at hc
    · rename_i ho
      intro A' Q' E' s' k q
      unfold isType loadHead
      exact wpAny_bind (wpAny_loadPart (k _ _ (X _ _ ho)) (wpAny_pure q))
    · cases hc
  ne := fun h tp dd its n sl X htp => by
    obtain ⟨cd, hc, _⟩ := PySem.W.any_some F.hd
    refine Bool.eq_false_iff.mpr fun q => ?_
    have e : C = tp := Value.ref.inj (beq_iff_eq.mp q)
    subst e
    unfold PySem.W.clsIn at hc
    split at hc
    · rename_i ho
      have z := (X _ _ ho).symm.trans htp
      cases z
    · cases hc
  ca := fun X I k => class_exc F X I k
end
theorem kit_same {K : PySem.W.Frag} {C : Addr} : PySem.W.kitOne K (.ref C) (.ref C) = some true := by
  unfold PySem.W.kitOne
  rw [if_pos (beq_self_eq_true _)]
theorem kit_other {K : PySem.W.Frag} {C T : Addr} {b : Bool} (h : PySem.W.hasDictIn K T = true) (t : PySem.W.typeIn K (.ref T) = some (.type "type")) (s : PySem.W.subIn K (.ref C) (.ref T) = some b) (n : C ≠ T) : PySem.W.kitOne K (.ref C) (.ref T) = some b := by
  obtain ⟨cd, hc, _⟩ := PySem.W.any_some h
  unfold PySem.W.kitOne
  rw [if_neg (fun q => n (Value.ref.inj (beq_iff_eq.mp q)))]
  unfold PySem.W.kitCls
  simp only
  rw [if_pos, s]
  rw [Bool.and_eq_true]
  exact ⟨by rw [hc]; rfl, by rw [t]; exact beq_self_eq_true _⟩
end D
/-! D: exceptions of own classes as values: made by place, by name, without arguments. -/
namespace D
open PySem PySem.Spec PyProof.Rows
open L2 hiding XE Takes CX ps_raise mk_of pmk_own passAt takes_of passes_call MkP PMk ps_try_as ps_try_many
open L2N hiding St
/-- what the __init__ of a class without attributes does -/
def spIni0 (K : PySem.W.Frag) (C : Addr) : Sp := fun vs H Q _ => ∃ a : Addr, vs = [.ref a] ∧ H a = some (exo a C none) ∧ OexC K C ∧ Q .non H
theorem ini0_ok {P : Program} {w : World} {K : PySem.W.Frag} {mg : Str → Option Value} {base : Heap} {st : Stmt} {q t : Str} {fI C : Addr} {fd : FuncData} (F : Fun K "__init__" q st fI fd) (S : FnScope ["self"] ["self"] (defScope st))
    (der : ∀ (cdv : Value) (A : Around) (outer : List Env) (s : Shared) (H : Hp) (E : XK), PSs (cxOf (L2N.CX P w) P w K mg base ["self"] q (defScope st) fI cdv A outer s H E) (defBody st) (tDrop (tVeI K (tCons (tVar 0) (tCons (tC (.str t)) tNil))))) :
    FnOk P w K mg base (L2N.CX P w) 1 fI fd ["self"] (spIni0 K C) := by
  obtain ⟨oc, od, kV, doc, pm, an, cdv, ct, osl, e, lk, hcode⟩ := F.ex
  subst e
  refine fn_of lk hcode S (fun vs H Q E z => ?_) fun A outer s H vs Q E hr hsp => ⟨_, der cdv A outer s H E, ?_⟩
  · obtain ⟨a, e, _⟩ := z
    rw [e]; rfl
  · obtain ⟨a, rfl, ea, T, q⟩ := hsp
    exact ⟨_, rfl, a, C, [.str t], rfl, by simp, T, ea, q⟩
/-- what the text says of an own exception class with one attribute -/
structure ExO (P : Program) (w : World) (K : PySem.W.Frag) (mg : Str → Option Value) (base : Heap) (x f p : Str) : Prop where
  gC : mg x = some (.ref (cAt K x))
  T : OexC K (cAt K x)
  no : PySem.W.findIn K (.ref (cAt K x)) f = some none
  ini : ∃ (fI : Addr) (fd : FuncData), PySem.W.findIn K (.ref (cAt K x)) "__init__" = some (some (.ref fI)) ∧ PySem.W.typeIn K (.ref fI) = some (.type "function") ∧ FnOk P w K mg base (L2N.CX P w) 1 fI fd ["self", p] (spIni K (cAt K x) f) ∧ Binds K fd ["self", p] [] ∧ BindsN K fd ["self", p] 1 [p] [0, 1] []
/-- .. without one -/
structure ExB (P : Program) (w : World) (K : PySem.W.Frag) (mg : Str → Option Value) (base : Heap) (x : Str) : Prop where
  gC : mg x = some (.ref (cAt K x))
  T : OexC K (cAt K x)
  ini : ∃ (fI : Addr) (fd : FuncData), PySem.W.findIn K (.ref (cAt K x)) "__init__" = some (some (.ref fI)) ∧ PySem.W.typeIn K (.ref fI) = some (.type "function") ∧ FnOk P w K mg base (L2N.CX P w) 1 fI fd ["self"] (spIni0 K (cAt K x)) ∧ Binds K fd ["self"] []
theorem typ_at {M : Model} {K : PySem.W.Frag} {h : Heap} {C : Addr} (X : K.In h) (T : OexC K C) : PySem.W.Looks M h (isInstance (.ref C) (.type "type")) true :=
  (PySem.W.looks_typeIn X T.tyC).andThen (PySem.W.Looks.of_pure (by rw [isSubtype_type]; kernel_rfl))
section
variable {X : Cx} {pins : List (Addr × Obj)} {σ : St} {H1 : Hp} {C i : Addr} {k : Nat} {fd : FuncData} {ps : List Str} {sp : Sp} {us ws : List Value} {vs : List V} {kw : List (Str × Value)}
/-- how the class is called: us by place, kw by name -/
def Called (X : Cx) (C i : Addr) (us : List Value) (kw : List (Str × Value)) (hp : Heap) : Prop := ∀ {A : Around} {R : Result → Shared → Prop} {g : Array GenState} {dr : Drawn} {tk : Nat} {os : OsState},
  codeAny (model X.prog X.w) (A.under (.builtin "type.__call__" ⟨.ref C :: us, kw⟩)) (.call (.ref i) ⟨.ref (hp.objs.size + 1) :: us, kw⟩) (PySem.W.InitBack (hp.objs.size + 1) R) ⟨(hp.push (PySem.W.kdv_tup us)).push (PySem.HandSPX.excO C hp.objs.size), g, dr, tk, os⟩ →
    codeAny (model X.prog X.w) A (.call (.ref C) ⟨us, kw⟩) R ⟨hp, g, dr, tk, os⟩
theorem called_place {hp : Heap} (T : OexC X.K C) (own : PySem.W.findIn X.K (.ref C) "__init__" = some (some (.ref i))) (isF : PySem.W.typeIn X.K (.ref i) = some (.type "function")) (inK : X.K.In hp) (few : us.length ≤ sizeLine) : Called X C i us [] hp := by
  obtain ⟨_, _, _, _, bm, _, _, _, _, _, _, _, _, _, _, look, inBm⟩ := T.cls
  intro A R g dr tk os z
  exact PySem.HandSPX.call_own F.excBase_ValueError (fun Y => PySem.HandSPX.refsVE_contains Y bm inBm) (inK _ _ look) (PySem.W.looks_findIn inK own) (fun self => PySem.W.bind_fn inK self isF) few z
theorem called_names {hp : Heap} (T : OexC X.K C) (own : PySem.W.findIn X.K (.ref C) "__init__" = some (some (.ref i))) (isF : PySem.W.typeIn X.K (.ref i) = some (.type "function")) (inK : X.K.In hp) : Called X C i [] kw hp := by
  obtain ⟨_, _, _, _, bm, _, _, _, _, _, _, _, _, _, _, look, inBm⟩ := T.cls
  intro A R g dr tk os z
  exact callK_run F.excBase_ValueError (fun Y => PySem.HandSPX.refsVE_contains Y bm inBm) (inK _ _ look) (PySem.W.looks_findIn inK own) (fun self => PySem.W.bind_fn inK self isF) (typ_at inK T) z
/-- the exception is made, and stands as a value -/
theorem val_run {Q : VK} {s : Shared} (I : Inv X pins σ H1 s) (call' : Called X C i us kw s.heap) (Fn : FnOk X.prog X.w X.K X.mg X.base (L2N.CX X.prog X.w) k i fd ps sp) (room : Room (k + 1) X.A) (out : Passes (L2N.CX X.prog X.w) X (fun _ _ _ => False)) (rel : Vals vs ws)
    (bound : ∀ (s' : Shared) (a : Addr), X.K.In s'.heap → BindsTo s' fd ⟨.ref a :: us, kw⟩ (ps.zip (.ref a :: ws)))
    (wish : ∀ a, H1 a = none → sp (.ref a :: vs) (upd H1 a (exo a C none)) (fun v H2 => v = .non ∧ Q (.ref a) H2) (fun _ _ _ => False)) :
    wpAny (model X.prog X.w) X.A (call (.ref C) us kw) (EP X pins σ Q) X.xe s := by
  obtain ⟨hp, g, dr, tk, os⟩ := s
  have up : hp.objs.size ≤ hp.objs.size + 1 := Nat.le_succ _
  have wish1 := wish (hp.objs.size + 1) (I.hok.fresh up)
  obtain ⟨hp', two⟩ : ∃ hp', (hp.push (PySem.W.kdv_tup us)).push (PySem.HandSPX.excO C hp.objs.size) = hp' := ⟨_, rfl⟩
  have keep : ∀ b o, hp.get? b = some o → hp'.get? b = some o := fun b o z => by
    rw [← two]
    exact Heap.get?_push_of_some _ (Heap.get?_push_of_some _ z)
  have new : hp'.get? (hp.objs.size + 1) = some (PySem.HandSPX.excO C hp.objs.size) := by
    rw [← two]
    heap_get
  have inv2 : Inv X pins σ (upd H1 (hp.objs.size + 1) (exo (hp.objs.size + 1) C none)) ⟨hp', g, dr, tk, os⟩ := I.laid (t' := tk) keep up (exo_ok new)
  have rel2 : Vals (V.ref (hp.objs.size + 1) :: vs) (Value.ref (hp.objs.size + 1) :: ws) := .cons rfl rel
  refine wpAny_call (call' ?_)
  rw [two]
  refine codeAny_mono (Fn.run _ X.stack _ _ ⟨Value.ref (hp.objs.size + 1) :: us, kw⟩ (Value.ref (hp.objs.size + 1) :: ws) _ _ (fun _ _ _ => False) (room.make C us kw) (inv2.env0.make C us kw) (bound _ _ inv2.kIn) rel2 wish1) fun r s' z => ?_
  cases r with
  | error er => exact out pins σ _ _ er s' inv2 z
  | ok fl =>
    cases fl with
    | ret u =>
      obtain ⟨v, H', I3, rv, ev, q3⟩ := inv2.after z
      subst ev
      exact ⟨rv, V.ref (hp.objs.size + 1), H', I3, rfl, q3⟩
    | next => exact z.elim
    | brk => exact z.elim
    | cont => exact z.elim
end
/-! ### as values -/
theorem Sim.none_at {K : PySem.W.Frag} {ι : List Addr} {h : HH} {H : Hp} (S : Sim K ι h H) {a : Addr} (n : H a = none) : a ∉ ι := fun m => by
  obtain ⟨j, hj⟩ := List.mem_iff_getElem?.mp m
  exact S.ne hj n rfl
section
variable {K : PySem.W.Frag} {ι : List Addr} {h : HH} {H : Hp}
/-- with one attribute: what the heap is then -/
theorem one_stands {a dx C' : Addr} {f : Str} {v : V} (S : Sim K ι h H) (na : H a = none) (nd : upd H a (exo a C' none) dx = none) (ne : dx ≠ a) :
    Grow ι ι H (upd (upd (upd H a (exo a C' none)) dx (exd dx [(f, v)])) a (exo a C' (some dx))) ∧ Sim K ι h (upd (upd (upd H a (exo a C' none)) dx (exd dx [(f, v)])) a (exo a C' (some dx))) := by
  have nd' : H dx = none := by rw [upd_ne ne] at nd; exact nd
  have e : upd (upd (upd H a (exo a C' none)) dx (exd dx [(f, v)])) a (exo a C' (some dx)) = upd (upd H dx (exd dx [(f, v)])) a (exo a C' (some dx)) := by
    funext b
    by_cases h1 : b = a
    · rw [h1, upd_same, upd_same]
    · rw [upd_ne h1, upd_ne h1]
      by_cases h2 : b = dx
      · rw [h2, upd_same, upd_same]
      · rw [upd_ne h2, upd_ne h2, upd_ne h1]
  rw [e]
  have na2 : upd H dx (exd dx [(f, v)]) a = none := by rw [upd_ne (Ne.symm ne)]; exact na
  exact ⟨(Grow.side nd').trans (Grow.side na2), (S.side nd').side na2⟩
end
@[simp] def mExv (C f : Str) (m : ME) : ME := fun s h => (m s h).bind fun w h1 => .ok (.exv C [f] [w]) h1
@[simp] def mExvK (C f : Str) (m : MA) : ME := fun s h => (m s h).bind fun ws h1 => match ws with
  | [w] => .ok (.exv C [f] [w]) h1
  | _ => .bad
section
variable {X : Cx} {Wx : WJ} {x f pr : Str} {e : Expr} {me : ME} {mk : MA} {p pos : Pos} {kws : List Keyword}
theorem exv_wish {σ : St} {H1 : Hp} {Q : VK} {ι : List Addr} {h : HH} {w : W} {v : V} (T : OexC X.K (cAt X.K x)) (no : PySem.W.findIn X.K (.ref (cAt X.K x)) f = some none) (S : Sim X.K ι h H1) (rv : RW X.K ι H1 w v)
    (A : After X.K ι H1 (okV X.K Q) (exE X.K Wx σ) (.ok (.exv x [f] [w]) h)) : ∀ a, H1 a = none → spIni X.K (cAt X.K x) f [.ref a, v] (upd H1 a (exo a (cAt X.K x) none)) (fun u H2 => u = .non ∧ Q (.ref a) H2) (fun _ _ _ => False) := fun a na =>
  ⟨a, v, rfl, upd_same, T, no, fun dx nd ne => by
    obtain ⟨g, S2⟩ := one_stands (f := f) (v := v) S na nd ne
    refine ⟨rfl, A ι _ (List.prefix_refl _) g S2 _ (.exv (.inr ⟨dx, f, v, rfl, rfl, upd_same, ?_⟩) (.cons (rv.mono (List.prefix_refl _) g) .nil))⟩
    rw [upd_ne ne, upd_same]⟩
theorem de_exv (R : ExO X.prog X.w X.K X.mg X.base x f pr) (tk : Takes X Wx.W) (hr : RmG 2 X.A) (hg : Gl X x) (ha : DE X Wx e me)
    (hdb : (x == ("__debug__" : Str)) = false := by decide) (he : starEach [e] X.env = (false, eval e X.env) :: starEach [] X.env := by rfl) (hpl : (backTo pos (starEach [] X.env)).any (·.1) = false := by rfl) :
    DE X Wx (.Call (.Name x p) [e] [] pos) (mExv x f me) := by
  obtain ⟨fI, fd, iC, tI, F1, hb, -⟩ := R.ini
  have hx : Passes (L2N.CX X.prog X.w) X (fun _ _ _ => False) := passes_call (W := Wx.W) tk fun _ _ _ _ z => z.elim
  refine ⟨fun pins s σ H Q I ⟨ι, sl, h, S, Rl, A⟩ => ?_⟩
  refine wpAny_Call_Name_kw (ld_glob I hg R.gC ?_ hdb)
  refine PySem.W.callWith_K (h₀ := X.base) I.ok.mod.kin R.T.kC ?_ he hpl
  have q : tDA X.K Wx (mCons me mNil) σ H (fun vs H1 => ∃ v, vs = [v] ∧ ∀ a, H1 a = none → spIni X.K (cAt X.K x) f [.ref a, v] (upd H1 a (exo a (cAt X.K x) none)) (fun u H2 => u = .non ∧ Q (.ref a) H2) (fun _ _ _ => False)) := by
    refine ⟨ι, sl, h, S, Rl, ?_⟩
    unfold mExv at A
    unfold mCons
    revert A
    generalize me sl h = res
    intro A
    cases res with
    | bad => exact A
    | exc => exact A
    | ok w h1 =>
      intro ι1 H1 p1 g1 S1 vs r
      cases r with
      | cons rv t =>
        cases t
        exact ⟨_, rfl, exv_wish R.T R.no S1 rv (After.le A p1 g1)⟩
  refine thn ((da_cons ha (da_nil (X := X) (Wx := Wx)) he).run pos pins s σ H _ I q) fun us s1 ⟨vs, H1, I1, r, v, ev, q1⟩ => ⟨I1.kIn, ?_⟩
  subst ev
  cases r with
  | @cons _ u0 _ ur ra rr =>
    cases rr
    refine val_run I1 (called_place R.T iC tI I1.kIn (by rw [sizeLine_eq]; simp)) F1 hr.r hx (.cons ra .nil) (fun s' a k => ?_) q1
    have b := hb s' [.ref a, u0] k rfl
    rw [List.append_nil] at b
    exact b
theorem de_exvK {nm : Option Str} {kpos : Pos} (R : ExO X.prog X.w X.K X.mg X.base x f pr) (tk : Takes X Wx.W) (hr : RmG 2 X.A) (hg : Gl X x) (ha : DE X Wx e me)
    (hall : (backToKw pos (keywordEach [⟨nm, e, kpos⟩] X.env)).all (·.1.isSome) = true := by rfl) (hks : (backToKw pos (keywordEach [⟨nm, e, kpos⟩] X.env)).filterMap (·.1) = [pr] := by rfl) (hdb : (x == ("__debug__" : Str)) = false := by decide)
    (hpl : ((backTo pos (starEach [] X.env)).any (·.1) || (backToKw pos (keywordEach [⟨nm, e, kpos⟩] X.env)).any (·.1.isNone)) = false := by rfl) :
    DE X Wx (.Call (.Name x p) [] [⟨nm, e, kpos⟩] pos) (mExv x f me) := by
  obtain ⟨fI, fd, iC, tI, F1, -, hb⟩ := R.ini
  have hx : Passes (L2N.CX X.prog X.w) X (fun _ _ _ => False) := passes_call (W := Wx.W) tk fun _ _ _ _ z => z.elim
  refine ⟨fun pins s σ H Q I ⟨ι, sl, h, S, Rl, A⟩ => ?_⟩
  refine wpAny_Call_Name_kw (ld_glob I hg R.gC ?_ hdb)
  have q : tDA X.K Wx (mCons me mNil) σ H (fun vs H1 => ∃ v, vs = [v] ∧ ∀ a, H1 a = none → spIni X.K (cAt X.K x) f [.ref a, v] (upd H1 a (exo a (cAt X.K x) none)) (fun u H2 => u = .non ∧ Q (.ref a) H2) (fun _ _ _ => False)) := by
    refine ⟨ι, sl, h, S, Rl, ?_⟩
    unfold mExv at A
    unfold mCons
    revert A
    generalize me sl h = res
    intro A
    cases res with
    | bad => exact A
    | exc => exact A
    | ok w h1 =>
      intro ι1 H1 p1 g1 S1 vs r
      cases r with
      | cons rv t =>
        cases t
        exact ⟨_, rfl, exv_wish R.T R.no S1 rv (After.le A p1 g1)⟩
  refine PySem.W.callWith_KW0 (h₀ := X.base) I.ok.mod.kin R.T.kC hall ?_ hpl
  refine thn (PK.run (dk_cons ha dk_nil) pos pins s σ H _ I q) fun us s1 ⟨vs, H1, I1, r, v, ev, q1⟩ => ⟨I1.kIn, ?_⟩
  rw [hks]
  subst ev
  cases r with
  | @cons _ u0 _ ur ra rr =>
    cases rr
    exact val_run I1 (called_names R.T iC tI I1.kIn) F1 hr.r hx (.cons ra .nil) (fun s' a k => hb s' [.ref a] [u0] k rfl rfl) q1
theorem de_exv0 (R : ExB X.prog X.w X.K X.mg X.base x) (tk : Takes X Wx.W) (hr : RmG 2 X.A) (hg : Gl X x) (hdb : (x == ("__debug__" : Str)) = false := by decide) : DE X Wx (.Call (.Name x p) [] [] pos) (mC (.exv x [] [])) := by
  obtain ⟨fI, fd, iC, tI, F1, hb⟩ := R.ini
  have hx : Passes (L2N.CX X.prog X.w) X (fun _ _ _ => False) := passes_call (W := Wx.W) tk fun _ _ _ _ z => z.elim
  refine ⟨fun pins s σ H Q I ⟨ι, sl, h, S, Rl, A⟩ => ?_⟩
  refine wpAny_Call_Name_kw (ld_glob I hg R.gC ?_ hdb)
  refine PySem.W.callWith_K0 I.kIn R.T.kC ?_
  refine val_run (vs := []) (ws := []) I (called_names R.T iC tI I.kIn) F1 hr.r hx .nil (fun s' a k => ?_) (fun a na => ⟨a, rfl, upd_same, R.T, rfl, ?_⟩)
  · have b := hb s' [.ref a] k rfl
    rw [List.append_nil] at b
    exact b
  · have g : Grow ι ι H (upd H a (exo a (cAt X.K x) none)) := Grow.side na
    exact A ι _ (List.prefix_refl _) g (S.side na) _ (.exv (.inl ⟨rfl, rfl, upd_same⟩) .nil)
end
/-! ### isinstance -/
theorem inst_dict {P : Program} {w : World} {H : Hp} {h : Heap} {a C d : Addr} {fs : List (Str × V)} (hok : HOk P w H h) (e : H a = some (exo a C (some d))) (ed : H d = some (exd d fs)) :
    ∃ (oe od : Obj) (mA : Str → Option Value), PySem.W.InstAt h a oe C (some od) ∧ (∀ f, PySem.W.lookIn f od = some (mA f)) ∧ ∀ f, RelO (fs.lookup f) (mA f) := by
  obtain ⟨t1, ho⟩ := exo_at hok e
  obtain ⟨mA, hns, rel⟩ := exd_at hok ed
  obtain ⟨od, hod, hl⟩ := lookIn_ns hns
  exact ⟨_, od, mA, ⟨ho, rfl, rfl, hod⟩, hl, rel⟩
theorem inst_bare {P : Program} {w : World} {H : Hp} {h : Heap} {a C : Addr} (hok : HOk P w H h) (e : H a = some (exo a C none)) : ∃ oe, PySem.W.InstAt h a oe C none := by
  obtain ⟨t1, ho⟩ := exo_at hok e
  exact ⟨_, ho, rfl, rfl, trivial⟩
theorem exm_mro {K : PySem.W.Frag} {C : Addr} {l : List Value} {v : Value} (m : ∃ cd, PySem.W.clsIn K C = some cd ∧ cd.mro = .ref C :: l) : PySem.W.subIn K (.ref C) v = some ((Value.ref C :: l).contains v) := by
  obtain ⟨cd, h1, h2⟩ := m
  show PySem.W.mroIn K C v = _
  unfold PySem.W.mroIn
  rw [h1, Option.bind_some, h2]
  rfl
/-- what the text says of its classes of exceptions, all below B, which is below ValueError -/
structure ExI (K : PySem.W.Frag) (xs : List Str) (B : Str) : Prop where
  c : ∀ C ∈ xs, ExcC K (cAt K C)
  m : ∀ C ∈ xs, ∃ cd, PySem.W.clsIn K (cAt K C) = some cd ∧ cd.mro = .ref (cAt K C) :: .ref (cAt K B) :: PySem.HandSPX.veTail
  t : ∀ C ∈ B :: xs, PySem.W.typeIn K (.ref (cAt K C)) = some (.type "type")
  dB : PySem.W.hasDictIn K (cAt K B) = true
  sB : PySem.W.subIn K (.ref (cAt K B)) (.type "BaseException") = some true
  nd : ((B :: xs).map (cAt K)).Nodup
theorem nodup_inj {α β : Type} {f : α → β} : ∀ {l : List α}, (l.map f).Nodup → ∀ a ∈ l, ∀ b ∈ l, f a = f b → a = b
  | [], _, a, h, _, _, _ => by cases h
  | x :: r, n, a, ha, b, hb, e => by
    rw [List.map_cons, List.nodup_cons] at n
    rcases List.mem_cons.mp ha with h1 | h1
    · rcases List.mem_cons.mp hb with h2 | h2
      · rw [h1, h2]
      · exact absurd (by rw [← h1, e]; exact List.mem_map_of_mem h2) n.1
    · rcases List.mem_cons.mp hb with h2 | h2
      · exact absurd (by rw [← h2, ← e]; exact List.mem_map_of_mem h1) n.1
      · exact nodup_inj n.2 a h1 b h2 e
section
variable {K : PySem.W.Frag} {xs : List Str} {B C D' : Str}
theorem ExI.inj (I : ExI K xs B) (h1 : C ∈ B :: xs) (h2 : D' ∈ B :: xs) (e : cAt K C = cAt K D') : C = D' := nodup_inj I.nd _ h1 _ h2 e
theorem ExI.sub (I : ExI K xs B) (hB : B ∉ xs) (h1 : C ∈ xs) (h2 : D' ∈ B :: xs) : PySem.W.subIn K (.ref (cAt K C)) (.ref (cAt K D')) = some (decide (C = D') || decide (D' = B)) := by
  rw [exm_mro (I.m C h1)]
  congr 1
  have no : PySem.HandSPX.veTail.contains (Value.ref (cAt K D')) = false := by simp [PySem.HandSPX.veTail]
  rw [List.contains_cons, List.contains_cons, no, Bool.or_false]
  have e1 : (Value.ref (cAt K D') == Value.ref (cAt K C)) = decide (C = D') := by
    by_cases h : C = D'
    · rw [h, decide_eq_true rfl]; simp
    · rw [decide_eq_false h]
      simp only [beq_eq_false_iff_ne, ne_eq, Value.ref.injEq]
      exact fun e => h (I.inj (List.mem_cons_of_mem _ h1) h2 e.symm)
  have e2 : (Value.ref (cAt K D') == Value.ref (cAt K B)) = decide (D' = B) := by
    by_cases h : D' = B
    · rw [h, decide_eq_true rfl]; simp
    · rw [decide_eq_false h]
      simp only [beq_eq_false_iff_ne, ne_eq, Value.ref.injEq]
      exact fun e => h (I.inj h2 (List.mem_cons_self ..) e)
  rw [e1, e2]
theorem ExI.dict (I : ExI K xs B) (h : D' ∈ B :: xs) : PySem.W.hasDictIn K (cAt K D') = true := by
  rcases List.mem_cons.mp h with rfl | h
  · exact I.dB
  · exact (I.c _ h).hd
theorem ExI.kit (I : ExI K xs B) (hB : B ∉ xs) (h1 : C ∈ xs) (h2 : D' ∈ B :: xs) : PySem.W.kitOne K (.ref (cAt K C)) (.ref (cAt K D')) = some (decide (C = D') || decide (D' = B)) := by
  by_cases h : C = D'
  · subst h
    rw [kit_same, decide_eq_true rfl, Bool.true_or]
  · exact kit_other (I.dict h2) (I.t _ h2) (I.sub hB h1 h2) fun e => h (I.inj (List.mem_cons_of_mem _ h1) h2 e)
theorem ExI.ve (I : ExI K xs B) (h1 : C ∈ xs) : PySem.W.kitOne K (.ref (cAt K C)) (.type "ValueError") = some true := by
  have e : PySem.W.subIn K (.ref (cAt K C)) (.type "ValueError") = some true := by
    rw [exm_mro (I.m C h1)]
    congr 1
  unfold PySem.W.kitOne
  rw [if_neg (fun q => by cases beq_iff_eq.mp q)]
  unfold PySem.W.kitCls
  simp only
  rw [if_pos (by decide +kernel), e]
theorem ExI.exm (I : ExI K xs B) (hB : B ∉ xs) (h1 : C ∈ xs) (h2 : D' ∈ B :: xs) : PySem.W.exmOne K (.ref (cAt K C)) (.ref (cAt K D')) = some (decide (C = D') || decide (D' = B)) := by
  refine PySem.W.exm_ref ?_ (I.dict h2) (I.t _ h2) (I.sub hB h1 h2)
  rcases List.mem_cons.mp h2 with rfl | h
  · exact I.sB
  · exact (I.c _ h).hs
theorem ExI.ext {mg : Str → Option Value} (I : ExI K xs B) (hB : B ∉ xs) (h2 : D' ∈ B :: xs) (g : mg D' = some (.ref (cAt K D'))) : ExT K mg B xs D' := ⟨g, fun C h1 => I.exm hB h1 h2⟩
end
end D
/-! D: exceptions as values: isinstance, attributes; raise with names of arguments, without arguments; defs without arguments. -/
namespace D
open PySem PySem.Spec PyProof.Rows
open L2 hiding XE Takes CX ps_raise mk_of pmk_own passAt takes_of passes_call MkP PMk ps_try_as ps_try_many
open L2N hiding St
def gIsV (xs : List Str) (B : Str) : List W → HH → Rs W
  | [.exv C _ _, .gl D'], h => if C ∈ xs ∧ D' ∈ B :: xs then .ok (.bl (decide (C = D') || decide (D' = B))) h else .bad
  | [.exv C _ _, .ty T], h => if C ∈ xs ∧ T = "ValueError" then .ok (.bl true) h else .bad
  | _, _ => .bad
section
variable {X : Cx} {Wx : WJ}
theorem ask_isV {P : Value → Shared → Prop} {pins : List (Addr × Obj)} {s : Shared} {σ : St} {H : Hp} {Q : VK} {a C : Addr} {cv : Value} {b : Bool} (F : ExcC X.K C) (I : Inv X pins σ H s) (h : H a = some (exo a C none) ∨ ∃ d fs, H a = some (exo a C (some d)) ∧ H d = some (exd d fs))
    (k : PySem.W.kitOne X.K (.ref C) cv = some b) (q : Q (.bl b) H) : wpAny (model X.prog X.w) X.A (call (.builtin "isinstance") [.ref a, cv]) (EP X pins σ Q) P s := by
  rcases h with e | ⟨d, fs, e, ed⟩
  · obtain ⟨oe, J⟩ := inst_bare I.hok e
    exact PySem.W.kia_one (PySem.W.handS_kitx_exc F.hg F.hk F.hs F.hd F.ha F.hn F.ht F.hm) I.kIn J k (fun z => nomatch z) fun tk => ⟨.bl b, H, I.kept (t' := tk) fun _ _ z => z, rfl, q⟩
  · obtain ⟨oe, od, mA, J, _, _⟩ := inst_dict I.hok e ed
    exact PySem.W.kia_one (kitx_exc F) I.kIn J k (fun z => nomatch z) fun tk => ⟨.bl b, H, I.kept (t' := tk) fun _ _ z => z, rfl, q⟩
theorem xo_at {K : PySem.W.Frag} {H : Hp} {a : Addr} {C : Str} {ns : List Str} {vs : List V} (x : XO K H a C ns vs) : H a = some (exo a (cAt K C) none) ∨ ∃ d fs, H a = some (exo a (cAt K C) (some d)) ∧ H d = some (exd d fs) := by
  rcases x with ⟨_, _, e⟩ | ⟨d, f, v, _, _, e1, e2⟩
  · exact .inl e
  · exact .inr ⟨d, _, e1, e2⟩
theorem dc_isV {xs : List Str} {B : Str} (F : ExI X.K xs B) (hB : B ∉ xs) : DC X (.builtin "isinstance") (gIsV xs B) := fun pins s σ H vs us Q I rv ⟨ι, h, ws, S, r, A⟩ => by
  unfold gIsV at A
  split at A
  · split at A
    · rename_i c
      obtain ⟨v, u, rfl, r1, r2⟩ := rws2 r
      cases r1 with
      | exv x _ =>
      cases r2
      cases rv with
      | cons e1 t =>
      cases t with
      | cons e2 t =>
      cases t
      cases e1
      cases e2
      exact ask_isV (F.c _ c.1) I (xo_at x) (F.kit hB c.1 c.2) (A.now S _ (.bl _))
    · exact A.elim
  · split at A
    · rename_i c
      obtain ⟨c1, rfl⟩ := c
      obtain ⟨v, u, rfl, r1, r2⟩ := rws2 r
      cases r1 with
      | exv x _ =>
      cases r2
      cases rv with
      | cons e1 t =>
      cases t with
      | cons e2 t =>
      cases t
      cases e1
      cases e2
      exact ask_isV (F.c _ c1) I (xo_at x) (F.ve c1) (A.now S _ (.bl _))
    · exact A.elim
  · exact A.elim
/-- e.f, e an exception as a value -/
@[simp] def mXfV (xs : List Str) (f : Str) (m : ME) : ME := fun s h => (m s h).bind fun w h1 => match w with
  | .exv C [g] [v] => if C ∈ xs ∧ g = f then .ok v h1 else .bad
  | _ => .bad
theorem de_xfV {xs : List Str} {f : Str} {e : Expr} {me : ME} {pos : Pos} (T : ∀ C ∈ xs, ExF X.K C f) (he : DE X Wx e me) (hb : attributeBase e f X.env (eval e X.env) = eval e X.env := by rfl) : DE X Wx (.Attribute e f pos) (mXfV xs f me) := by
  refine ⟨fun pins s σ H Q I ⟨ι, sl, h, S, R, A⟩ => ?_⟩
  have q : tD X.K Wx me σ H (fun x H1 => ∃ (a : Addr) (C : Str) (v : V) (d : Addr), x = .ref a ∧ C ∈ xs ∧ H1 a = some (exo a (cAt X.K C) (some d)) ∧ H1 d = some (exd d [(f, v)]) ∧ Q v H1) := by
    refine ⟨ι, sl, h, S, R, (After.bind A).imp (fun ι1 h1 H1 w p1 g1 S1 A1 x rx => ?_) idX⟩
    split at A1
    · split at A1
      · rename_i c
        obtain ⟨c1, rfl⟩ := c
        cases rx with
        | exv xo rs =>
        rcases xo with ⟨e0, _, _⟩ | ⟨d, f', v', e1, rfl, e3, e4⟩
        · cases e0
        · cases e1
          cases rs with
          | cons rv t =>
          exact ⟨_, _, _, d, rfl, c1, e3, e4, A1.now S1 _ rv⟩
      · exact A1.elim
    · exact A1.elim
  refine attr_of hb (thn (he.run pins s σ H _ I q) fun u s1 hh => ?_)
  obtain ⟨x, H1, I1, rx, a, C, v, d, ex, hC, e1, e2, q1⟩ := hh
  subst ex
  obtain rfl : u = Value.ref a := rx
  obtain ⟨oe, od, mA, J, hl, hr⟩ := inst_dict I1.hok e1 e2
  obtain ⟨u, hu, ru⟩ := RelO.some_of (v := v) (o := mA f) (by have z := hr f; rwa [show List.lookup f [(f, v)] = some v by simp [List.lookup]] at z)
  have T1 := T C hC
  exact HandSPX.exc_get I1.kIn J T1.T.ga T1.T.gg T1.T.exC (PySem.W.findObj_own T1.T.hdC T1.no rfl (by rw [hl, hu])) (handed_of ru) ⟨v, H1, I1.tok _, ru, q1⟩
/-! ### raise -/
section
variable {pins : List (Addr × Obj)} {σ : St} {H1 : Hp} {C i : Addr} {k : Nat} {fd : FuncData} {ps : List Str} {sp : Sp} {us ws : List Value} {vs : List V} {kw : List (Str × Value)}
theorem end_bare {hp hp2 h2 : Heap} {g1 g2 : Array GenState} {d1 d2 : Drawn} {t1 t2 : Nat} {os1 os2 : OsState} {a : Addr} (I1 : Inv X pins σ H1 ⟨hp, g1, d1, t1, os1⟩) (ha : hp.objs.size ≤ a) (up : ∀ b o, hp.get? b = some o → hp2.get? b = some o)
    (un : Un (frs X.stack) [] (upd H1 a (exo a C none)) (upd H1 a (exo a C none)) hp2 h2) (hok : HOk X.prog X.w (upd H1 a (exo a C none)) h2) (ho : os2 = os1) (hb : AllBare g2) :
    ∃ (t0 : Addr) (G : Heap), Inv X pins σ H1 ⟨G, g2, d2, t2, os2⟩ ∧ (∀ b o, G.get? b = some o → h2.get? b = some o) ∧ G.get? a = none ∧
      h2.get? a = some ({ cls := .ref C, dict := none, data := .fields #[.ref t0, .none, .none, .none, .bool false, .none] } : Obj) ∧ H1 a = none := by
  obtain ⟨t0, there⟩ := exo_at hok upd_same
  have na : H1 a = none := I1.hok.fresh ha
  obtain ⟨G, r1, r2⟩ := restrict h2 fun b => decide (b ≠ a)
  have same : ∀ b, b ≠ a → G.get? b = h2.get? b := fun b z => r1 b (decide_eq_true z)
  have gone : G.get? a = none := r2 a (by simp)
  have old : ∀ {b : Addr} {o : Obj}, hp.get? b = some o → b ≠ a := fun {b o} z => Nat.ne_of_lt (Nat.lt_of_lt_of_le (Heap.lt_size z) ha)
  have low : ∀ {b : Addr}, b ≠ a → H1 b = none → upd H1 a (exo a C none) b = none := fun {b} z n => by rw [upd_ne z]; exact n
  have U : Un (frs X.stack) [] H1 H1 hp G := ⟨fun b o z n f x => by rw [same b (old z)]; exact un.keep b o (up b o z) (low (old z) n) f x, fun b o z n f x => by rw [same b (old z)]; exact un.slot b o (up b o z) (low (old z) n) f x,
    fun b o z n x => n, fun b o z x => by rw [same b (old z)]; exact un.there b o (up b o z) x, fun b xs z => z, fun b o v z => z, fun b ps z => ⟨#[], by rw [z]; simp⟩⟩
  have ok3 : HOk X.prog X.w H1 G := fun b o z => by
    have nb : b ≠ a := ne_of_none z na
    refine (hok b o (by rw [upd_ne nb]; exact z)).stay (fun c v hc y => ?_) (fun c hc => ?_) fun c xs hc => ?_
    · have nc : c ≠ a := by
        rcases hc with hc | hc
        · rw [hc]; exact nb
        · exact fun e => by rw [e, upd_same] at hc; exact exo_own (Option.some.inj hc)
      rw [same c nc]; exact y
    · by_cases e : c = a
      · rw [e, upd_same] at hc; exact absurd (Option.some.inj hc) exo_own
      · rw [upd_ne e] at hc; exact hc
    · by_cases e : c = a
      · rw [e, upd_same] at hc; exact absurd (Option.some.inj hc) exo_tup
      · rw [upd_ne e] at hc; exact hc
  have J : Inv X pins σ H1 ⟨G, g2, d2, t2, os2⟩ := I1.call' (ch := []) ho U ok3 hb (fun b z => absurd z (by simp))
  refine ⟨t0, G, J, fun b o z => ?_, gone, there, na⟩
  by_cases e : b = a
  · rw [e, gone] at z; cases z
  · exact (same b e).symm.trans z
/-- the exception is made, to be raised -/
theorem mk_run {Q : XK} {s : Shared} (T : OexC X.K C) (I : Inv X pins σ H1 s) (call' : Called X C i us kw s.heap) (Fn : FnOk X.prog X.w X.K X.mg X.base (L2N.CX X.prog X.w) k i fd ps sp) (room : Room (k + 1) X.A) (out : Passes (L2N.CX X.prog X.w) X (fun _ _ _ => False)) (rel : Vals vs ws)
    (bound : ∀ (s' : Shared) (a : Addr), X.K.In s'.heap → BindsTo s' fd ⟨.ref a :: us, kw⟩ (ps.zip (.ref a :: ws)))
    (wish : ∀ a, H1 a = none → sp (.ref a :: vs) (upd H1 a (exo a C none)) (fun v H2 => v = .non ∧ ((∃ (d : Addr) (fs : List (Str × V)), H2 a = some (exo a C (some d)) ∧ H2 d = some (exd d fs) ∧ H1 d = none ∧ Q (.ref C) (some d) (upd (del H2 a) d (.xd fs))) ∨
      (H2 = upd H1 a (exo a C none) ∧ Q (.ref C) none H1))) (fun _ _ _ => False)) :
    wpAny (model X.prog X.w) X.A (call (.ref C) us kw) (MkP X pins σ Q) X.xe s := by
  obtain ⟨hp, g, dr, tk, os⟩ := s
  have up : hp.objs.size ≤ hp.objs.size + 1 := Nat.le_succ _
  have wish1 := wish (hp.objs.size + 1) (I.hok.fresh up)
  obtain ⟨hp', two⟩ : ∃ hp', (hp.push (PySem.W.kdv_tup us)).push (PySem.HandSPX.excO C hp.objs.size) = hp' := ⟨_, rfl⟩
  have keep : ∀ b o, hp.get? b = some o → hp'.get? b = some o := fun b o z => by
    rw [← two]
    exact Heap.get?_push_of_some _ (Heap.get?_push_of_some _ z)
  have new : hp'.get? (hp.objs.size + 1) = some (PySem.HandSPX.excO C hp.objs.size) := by
    rw [← two]
    heap_get
  have inv2 : Inv X pins σ (upd H1 (hp.objs.size + 1) (exo (hp.objs.size + 1) C none)) ⟨hp', g, dr, tk, os⟩ := I.laid (t' := tk) keep up (exo_ok new)
  have rel2 : Vals (V.ref (hp.objs.size + 1) :: vs) (Value.ref (hp.objs.size + 1) :: ws) := .cons rfl rel
  refine wpAny_call (call' ?_)
  rw [two]
  refine codeAny_mono (Fn.run _ X.stack _ _ ⟨Value.ref (hp.objs.size + 1) :: us, kw⟩ (Value.ref (hp.objs.size + 1) :: ws) _ _ (fun _ _ _ => False) (room.make C us kw) (inv2.env0.make C us kw) (bound _ _ inv2.kIn) rel2 wish1) fun r s' z => ?_
  cases r with
  | error er => exact out pins σ _ _ er s' inv2 z
  | ok fl =>
    cases fl with
    | ret u =>
      obtain ⟨v, H2, os2, bare2, un2, hok2, rv, ev, q⟩ := z
      subst ev
      obtain ⟨h2, g2, d2, t2, os'⟩ := s'
      rcases q with ⟨d, fs, ea, ed, hd1, q2⟩ | ⟨eH, q2⟩
      · obtain ⟨_, G, J, kG, ge, hoe, na⟩ := mk_end0 (d2 := d2) (t2 := t2) I up keep un2 hok2 os2 bare2 ea ed hd1
        exact ⟨rv, hp.objs.size + 1, _, _, ⟨G, g2, d2, t2, os'⟩, _, .ref C, some d, rfl, J, kG, ge, hoe, ⟨rfl, rfl, fun vs hv => by cases hv; rfl⟩, rfl, rfl, na, rfl, bare2, raises_own T.exC T.tyC, q2⟩
      · subst eH
        obtain ⟨_, G, J, kG, ge, hoe, na⟩ := end_bare (d2 := d2) (t2 := t2) I up keep un2 hok2 os2 bare2
        exact ⟨rv, hp.objs.size + 1, _, _, ⟨G, g2, d2, t2, os'⟩, _, .ref C, none, rfl, J, kG, ge, hoe, ⟨rfl, rfl, fun vs hv => by cases hv; rfl⟩, rfl, rfl, na, rfl, bare2, raises_own T.exC T.tyC, q2⟩
    | next => exact z.elim
    | brk => exact z.elim
    | cont => exact z.elim
end
/-! ### f(), a def without arguments -/
theorem de_call0 {x : Str} {f : Addr} {fd : FuncData} {M : MF} {k : Nat} {p pos : Pos} (F : FnM X.prog X.w X.K X.mg X.base k f fd [] M) (rm : RmG k X.A) (tk : Takes X Wx.W) (hg : Gl X x) (hm : X.mg x = some (.ref f)) (kp : PySem.W.keepIn X.K (.ref f) = true) (hb : L2.Binds X.K fd [] [])
    (hd : (x == ("__debug__" : Str)) = false := by decide) : DE X Wx (.Call (.Name x p) [] [] pos) (mCall M mNil) := by
  refine ⟨fun pins s σ H Q I ⟨ι, sl, h, S, R, A⟩ => ?_⟩
  refine wpAny_Call_Name_kw (ld_glob I hg hm ?_ hd)
  refine PySem.W.callWith_K0 I.kIn kp ?_
  exact wpAny_call (go_fn F rm tk I (vs := []) (us := []) .nil (fun n => hb s [] I.kIn rfl) ⟨ι, [], h, rfl, S, .nil, After.imp A (fun _ _ _ _ _ _ _ z => z) fun _ _ _ _ _ _ _ z => z⟩)
/-- what is wished of an exception that is made to be raised -/
def WR (X : Cx) (C : Addr) (Q : XK) (H1 : Hp) (a : Addr) : VK := fun v H2 => v = .non ∧ ((∃ (d : Addr) (fs : List (Str × V)), H2 a = some (exo a C (some d)) ∧ H2 d = some (exd d fs) ∧ H1 d = none ∧ Q (.ref C) (some d) (upd (del H2 a) d (.xd fs))) ∨ (H2 = upd H1 a (exo a C none) ∧ Q (.ref C) none H1))
section
variable {x f pr : Str} {e : Expr} {me : ME} {p pos pos2 kpos : Pos} {nm : Option Str}
theorem pmk_named (R : ExO X.prog X.w X.K X.mg X.base x f pr) (tk : Takes X Wx.W) (hr : RmG 2 X.A) (hg : Gl X x) (ha : DE X Wx e me)
    (hall : (backToKw pos (keywordEach [⟨nm, e, kpos⟩] X.env)).all (·.1.isSome) = true) (hks : (backToKw pos (keywordEach [⟨nm, e, kpos⟩] X.env)).filterMap (·.1) = [pr]) (hdb : (x == ("__debug__" : Str)) = false)
    (hpl : ((backTo pos (starEach [] X.env)).any (·.1) || (backToKw pos (keywordEach [⟨nm, e, kpos⟩] X.env)).any (·.1.isNone)) = false) :
    PMk X (.Call (.Name x p) [] [⟨nm, e, kpos⟩] pos) (fun σ H Q => tDA X.K Wx (mCons me mNil) σ H fun vs H1 => ∃ v, vs = [v] ∧ ∀ a, H1 a = none → spIni X.K (cAt X.K x) f [.ref a, v] (upd H1 a (exo a (cAt X.K x) none)) (WR X (cAt X.K x) Q H1 a) (fun _ _ _ => False)) := by
  obtain ⟨fI, fd, iC, tI, F1, -, hb⟩ := R.ini
  have hx : Passes (L2N.CX X.prog X.w) X (fun _ _ _ => False) := passes_call (W := Wx.W) tk fun _ _ _ _ z => z.elim
  intro pins s σ H Q I q
  refine wpAny_Call_Name_kw (ld_glob I hg R.gC ?_ hdb)
  refine PySem.W.callWith_KW0 (h₀ := X.base) I.ok.mod.kin R.T.kC hall ?_ hpl
  refine thn (PK.run (dk_cons ha dk_nil) pos pins s σ H _ I q) fun us s1 ⟨vs, H1, I1, r, v, ev, q1⟩ => ⟨I1.kIn, ?_⟩
  rw [hks]
  subst ev
  cases r with
  | @cons _ u0 _ ur ra rr =>
    cases rr
    exact mk_run R.T I1 (called_names R.T iC tI I1.kIn) F1 hr.r hx (.cons ra .nil) (fun s' a k => hb s' [.ref a] [u0] k rfl rfl) q1
theorem raise_wish {σ : St} {Q : XK} {ι : List Addr} {h : HH} {H1 : Hp} {w : W} {v : V} {sl : Sl} (T : OexC X.K (cAt X.K x)) (no : PySem.W.findIn X.K (.ref (cAt X.K x)) f = some none) (S : Sim X.K ι h H1) (Rl : RSl X.K Wx.J ι H1 sl σ) (rv : RW X.K ι H1 w v)
    (A : After X.K ι H1 (okS X.K Wx.J ⟨fun _ _ => True, fun _ _ => True, fun _ _ => True, fun _ _ => True⟩) (fun ι H C fs s => ∀ (d : Option Addr) gs, RSl X.K Wx.J ι H s σ → XD H d gs → RF X.K ι H fs gs → Q (.ref (cAt X.K C)) d H) (.exc x [(f, w)] sl h)) :
    ∀ a, H1 a = none → spIni X.K (cAt X.K x) f [.ref a, v] (upd H1 a (exo a (cAt X.K x) none)) (WR X (cAt X.K x) Q H1 a) (fun _ _ _ => False) := by
  refine fun a na => ⟨a, v, rfl, upd_same, T, no, fun dx nd ne => ⟨rfl, .inl ⟨dx, [(f, v)], upd_same, by rw [upd_ne ne, upd_same], ?_, ?_⟩⟩⟩
  · rw [upd_ne ne] at nd; exact nd
  · have nd' : H1 dx = none := by
      rw [upd_ne ne] at nd; exact nd
    have eH : upd (del (upd (upd (upd H1 a (exo a (cAt X.K x) none)) dx (exd dx [(f, v)])) a (exo a (cAt X.K x) (some dx))) a) dx (.xd [(f, v)]) = upd H1 dx (.xd [(f, v)]) := by
      funext b
      by_cases h1 : b = dx
      · rw [h1, upd_same, upd_same]
      · rw [upd_ne h1, upd_ne h1]
        by_cases h2 : b = a
        · rw [h2, del_same, na]
        · rw [del_ne h2, upd_ne h2, upd_ne h1, upd_ne h2]
    rw [eH]
    have gr : Grow ι ι H1 (upd H1 dx (.xd [(f, v)])) := Grow.side nd'
    exact A ι _ (List.prefix_refl _) gr (S.side nd') (some dx) [(f, v)] (Rl.mono (List.prefix_refl _) gr) upd_same (.cons ⟨rfl, rv.mono (List.prefix_refl _) gr⟩ .nil)
/-- raise C(p = e) -/
theorem ds_raiseK (R : ExO X.prog X.w X.K X.mg X.base x f pr) (hc : X.calm = true) (tk : Takes X Wx.W) (hr : RmG 2 X.A) (hg : Gl X x) (ha : DE X Wx e me)
    (hall : (backToKw pos (keywordEach [⟨nm, e, kpos⟩] X.env)).all (·.1.isSome) = true := by rfl) (hks : (backToKw pos (keywordEach [⟨nm, e, kpos⟩] X.env)).filterMap (·.1) = [pr] := by rfl) (hdb : (x == ("__debug__" : Str)) = false := by decide)
    (hpl : ((backTo pos (starEach [] X.env)).any (·.1) || (backToKw pos (keywordEach [⟨nm, e, kpos⟩] X.env)).any (·.1.isNone)) = false := by rfl) :
    DS X Wx (.Raise (some (.Call (.Name x p) [] [⟨nm, e, kpos⟩] pos)) none pos2) (sRaise x f me) := by
  refine (ps_raise hc tk (pmk_named R tk hr hg ha hall hks hdb hpl)).imp fun D σ H ⟨ι, s, h, S, Rl, A⟩ => ?_
  refine ⟨ι, s, h, S, Rl, ?_⟩
  unfold sRaise at A
  unfold mCons
  revert A
  generalize me s h = res
  intro A
  cases res with
  | bad => exact A
  | exc => exact fun ι' H' p g S' d gs hd rf => A ι' H' p g S' σ d gs (Rl.mono p g) hd rf
  | ok w h1 =>
    intro ι1 H1 p1 g1 S1 vs r
    cases r with
    | cons rv t =>
      cases t
      exact ⟨_, rfl, raise_wish R.T R.no S1 (Rl.mono p1 g1) rv fun ι2 H2 p2 g2 S2 d gs R2 hd rf => A ι2 H2 (p1.trans p2) (g1.trans g2) S2 σ d gs R2 hd rf⟩
/-- raise C() -/
@[simp] def sRaise0 (C : Str) : MS := fun s h => .exc C [] s h
theorem ds_raise0 (R : ExB X.prog X.w X.K X.mg X.base x) (hc : X.calm = true) (tk : Takes X Wx.W) (hr : RmG 2 X.A) (hg : Gl X x) (hdb : (x == ("__debug__" : Str)) = false := by decide) :
    DS X Wx (.Raise (some (.Call (.Name x p) [] [] pos)) none pos2) (sRaise0 x) := by
  obtain ⟨fI, fd, iC, tI, F1, hb⟩ := R.ini
  have hx : Passes (L2N.CX X.prog X.w) X (fun _ _ _ => False) := passes_call (W := Wx.W) tk fun _ _ _ _ z => z.elim
  have mk : PMk X (.Call (.Name x p) [] [] pos) (fun σ H Q => Q (.ref (cAt X.K x)) none H) := fun pins s σ H Q I q => by
    refine wpAny_Call_Name_kw (ld_glob I hg R.gC ?_ hdb)
    refine PySem.W.callWith_K0 I.kIn R.T.kC ?_
    refine mk_run (vs := []) (ws := []) R.T I (called_names R.T iC tI I.kIn) F1 hr.r hx .nil (fun s' a k => ?_) (fun a na => ⟨a, rfl, upd_same, R.T, rfl, .inr ⟨rfl, q⟩⟩)
    have b := hb s' [.ref a] k rfl
    rw [List.append_nil] at b
    exact b
  exact (ps_raise hc tk mk).imp fun D σ H ⟨ι, s, h, S, Rl, A⟩ => A ι H (List.prefix_refl _) Grow.refl S σ none [] Rl rfl .nil
end
end
end D
/-! D: the exception that a suite holds, handed to defs as their first argument. -/
namespace D
open PySem PySem.Spec PyProof.Rows
open L2 hiding XE Takes CX ps_raise mk_of pmk_own passAt takes_of passes_call MkP PMk ps_try_as ps_try_many
open L2N hiding St
open L2H (Hot1 HotC RoomH PinOk cxH inv_startH)
theorem uGh {k : Nat} {A : Around} (r : RoomH k A) : A.units + 64 < cLine := by have := r.un; omega
theorem room_mk {k : Nat} {A : Around} (r : RmG k A) (h : Option Value) : RoomH k (A.mark h) := ⟨r.r.dp, r.r.un⟩
/-- a def that gets the held exception first -/
structure FnX (P : Program) (w : World) (K : PySem.W.Frag) (mg : Str → Option Value) (base : Heap) (k : Nat) (f : Addr) (fd : FuncData) (ps : List Str) (M : Str → List (Str × W) → MF) : Prop where
  go : ∀ (A : Around) (outer : List Env) (s : Shared) (H : Hp) (args : Args) (us : List Value) (vs : List V) (Q : VK) (p : Addr × Obj) (C : Str) (fs : List (Str × W)) (gs : List (Str × V)) (d : Option Addr) (ι : List Addr) (ws : List W) (h : HH),
    RoomH k A → Hot1 A p → PinOk outer H s p → Zn (.ref (cAt K C)) d p.2 → (∃ fv, p.2.data = .fields fv) → Env0 P w K mg base A outer s H → BindsTo s fd args (ps.zip us) → Vals (.ref p.1 :: vs) us → vs.length + 1 = ps.length →
      Sim K ι h H → RWs K ι H ws vs → XD H d gs → RF K ι H fs gs → After K ι H (okV K Q) exN (M C fs ws h) → codeAny (model P w) A (.call (.ref f) args) (CR (L2N.CX P w) outer P w H s Q (fun _ _ _ => False)) s
@[simp] def runX (n : Nat) (m : MS) : MF := fun ws h => cut (outS (m (none :: (ws.map some ++ List.replicate (n - 1 - ws.length) none)) h))
theorem rsl_held {K : PySem.W.Frag} {ι : List Addr} {H : Hp} {ws : List W} {vs : List V} {a : Addr} {d : Option Addr} {C : Str} {fs : List (Str × W)} {gs : List (Str × V)} {N : List Str} (r : RWs K ι H ws vs) (hd : XD H d gs) (rf : RF K ι H fs gs) (hn : vs.length + 1 ≤ N.length) :
    RSl K (some ⟨0, a, d, C, fs, gs⟩) ι H (none :: (ws.map some ++ List.replicate (N.length - 1 - ws.length) none)) (L2.start N (.ref a :: vs)) := by
  have e : L2.start N (V.ref a :: vs) = some (V.ref a) :: (vs.map some ++ List.replicate (N.length - (vs.length + 1)) none) := by unfold L2.start; rfl
  have hl := r.length
  rw [e]
  refine ⟨by simp [hl]; omega, fun i w e => ?_, fun x ex => ?_⟩
  · cases i with
    | zero => simp at e
    | succ i =>
      rw [List.getElem?_cons_succ] at e ⊢
      by_cases hi : i < ws.length
      · rw [List.getElem?_append_left (by simpa using hi), List.getElem?_map] at e
        cases q : ws[i]? with
        | none => rw [q] at e; cases e
        | some w' =>
          rw [q] at e
          have e' : w' = w := by simpa using e
          subst e'
          obtain ⟨v, hv, rv⟩ := r.get q
          refine ⟨v, ?_, rv⟩
          rw [List.getElem?_append_left (by simp; omega), List.getElem?_map, hv]; rfl
      · rw [List.getElem?_append_right (by simpa using hi), List.getElem?_replicate] at e
        split at e <;> cases e
  · cases ex
    exact ⟨fun _ => rfl, hd, rf⟩
theorem fnx_body {P : Program} {w : World} {K : PySem.W.Frag} {mg : Str → Option Value} {base : Heap} {k : Nat} {f : Addr} {fd : FuncData} {x qual : Str} {st : Stmt} {N ps : List Str} {m : Str → List (Str × W) → MS} (F : Fun K x qual st f fd) (S : FnScope N ps (defScope st))
    (body : ∀ (cdv : Value) (A : Around) (outer : List Env) (s : Shared) (H : Hp) (p : Addr × Obj) (C : Str) (fs : List (Str × W)) (gs : List (Str × V)) (d : Option Addr), Hot1 A p → RoomH k (A.deeper (envOfC qual (defScope st) s.heap.objs.size f cdv)) → Zn (.ref (cAt K C)) d p.2 → (∃ fv, p.2.data = .fields fv) →
      DSs (cxH (L2N.CX P w) P w K mg base N qual (defScope st) f cdv A outer s H (fun _ _ _ => False) p) ⟨fun _ _ _ _ => False, some ⟨0, p.1, d, C, fs, gs⟩⟩ (defBody st) (m C fs)) : FnX P w K mg base (k + 1) f fd ps (fun C fs => runX N.length (m C fs)) := by
  obtain ⟨oc, od, kV, doc, pm, an, cdv, ct, osl, rfl, lk, hcode⟩ := F.ex
  refine ⟨fun A outer s H args us vs Q p C fs gs d ι ws h rm hot pin zn hf env0 bnd rel n Si r xd rf A0 => ?_⟩
  have n' : (V.ref p.1 :: vs).length = ps.length := by rw [List.length_cons]; exact n
  have inK : K.In s.heap := env0.mod.kin.keeps fun b o q => (env0.bs b o q).1
  have noLim : s.heap.NoLimit := env0.mod.nolimit.keeps fun b o q => (env0.bs b o q).1
  have kinds : ∀ z ∈ ps.zip us, (defScope st).names.lookup z.1 = some .local ∨ ((defScope st).names.lookup z.1 = some .cell ∧ ((cellsFrom (s.heap.objs.size + 1) (defScope st).names []).lookup z.1).isSome = true) := by
    rintro ⟨y, v⟩ hz
    rcases S.par y (List.of_mem_zip hz).1 with q | q
    · left; exact q
    · right; exact ⟨q, PySem.W.cellsFrom_some _ _ _ (.inl q)⟩
  refine codeAny_call_function rm.depth (inK _ _ lk) rfl S.co S.gen rfl (PySem.W.codeRec_of inK hcode) (bnd _ _ _ _ ?_)
  refine wpAny_newFunctionEnv_cells S.kind kinds fun env eq s1 inside => ?_
  subst eq
  refine ⟨noLim.keeps inside.toInCall.keep, codeAny_func ?_⟩
  have der := body cdv A outer s H p C fs gs d hot (rm.deeper _) zn hf
  have J : Inv (cxH (L2N.CX P w) P w K mg base N qual (defScope st) f cdv A outer s H (fun _ _ _ => False) p) [] (L2.start N (.ref p.1 :: vs)) H s1 := inv_startH S pin env0 n' rel inside
  have hN : vs.length + 1 ≤ N.length := by
    have := congrArg List.length S.pre
    rw [List.length_take] at this
    omega
  have read : tDS K ⟨fun _ _ _ _ => False, some ⟨0, p.1, d, C, fs, gs⟩⟩ (m C fs) { nx := fun _ H' => Q .non H', rt := Q } (L2.start N (.ref p.1 :: vs)) H := by
    refine ⟨ι, _, h, Si, rsl_held r xd rf hN, ?_⟩
    unfold runX at A0
    revert A0
    generalize m C fs (none :: (ws.map some ++ List.replicate (N.length - 1 - ws.length) none)) h = r'
    intro Af
    cases r' with
    | bad => exact Af
    | exc => exact Af.elim
    | ok x h =>
      obtain ⟨fl, s'⟩ := x
      cases fl with
      | nx => exact fun ι' H' p g S' σ _ => Af ι' H' p g S' _ .non
      | ret w => exact fun ι' H' p g S' v rv => Af ι' H' p g S' v rv
      | brk => exact Af.elim
      | cnt => exact Af.elim
  refine wpAny_mono (der.run [] s1 _ H _ J read) ?_ fun e s' z => z
  intro fl s' z
  have close : ∀ {σ' : L2.St} {H' : Hp} {v : V} {u : Value}, Inv (cxH (L2N.CX P w) P w K mg base N qual (defScope st) f cdv A outer s H (fun _ _ _ => False) p) [] σ' H' s' → RelV v u → Q v H' → CE outer P w H s Q u s' := by
    intro σ' H' v u I r q
    exact ⟨v, H', I.os, I.bare, I.base, I.hok, r, q⟩
  cases fl with
  | next => obtain ⟨σ', H', I, q⟩ := z; exact close (v := .non) (u := Value.none) I rfl q
  | ret u => obtain ⟨v, σ', H', I, r, q⟩ := z; exact close I r q
  | brk => obtain ⟨_, _, _, q⟩ := z; exact q.elim
  | cont => obtain ⟨_, _, _, q⟩ := z; exact q.elim
/-! ### what a suite and such a def do with it -/
/-- q is pinned, and is the exception that J tells -/
structure Holds (X : Cx) (q : Addr × Obj) (C : Str) (d : Option Addr) : Prop where
  pin : q ∈ X.pn
  hot : Hot1 X.A q
  z : Zn (.ref (cAt X.K C)) d q.2
  f : ∃ fv, q.2.data = .fields fv
theorem holds_suite {Y : Cx} {a : Addr} {oe : Obj} {pn : List (Addr × Obj)} {C : Str} {d : Option Addr} (hz : Zn (.ref (cAt Y.K C)) d oe) (hf : ∃ vs, oe.data = .fields vs) : Holds (Y.suite a ((a, oe) :: pn)) (a, oe) C d :=
  ⟨List.mem_cons_self .., hot_suite hz hf, hz, hf⟩
theorem holds_def {P : Program} {w : World} {K : PySem.W.Frag} {mg : Str → Option Value} {base : Heap} {N : List Str} {q : Str} {sc : Scope} {f : Addr} {cdv : Value} {A : Around} {outer : List Env} {s : Shared} {H : Hp} {p : Addr × Obj} {C : Str} {d : Option Addr} {CX : CXT} {E : XK} (hot : Hot1 A p) (hz : Zn (.ref (cAt K C)) d p.2) (hf : ∃ fv, p.2.data = .fields fv) :
    Holds (cxH CX P w K mg base N q sc f cdv A outer s H E p) p C d := ⟨List.mem_cons_self .., ⟨hot.1, hot.2⟩, hz, hf⟩
theorem holds_inst {X : Cx} {q : Addr × Obj} {C : Str} {d : Option Addr} (h : Holds X q C d) {pins : List (Addr × Obj)} {σ : St} {H : Hp} {s : Shared} {gs : List (Str × V)} (I : Inv X pins σ H s) (xd : XD H d gs) :
    (d = none ∧ gs = [] ∧ PySem.W.InstAt s.heap q.1 q.2 (cAt X.K C) none) ∨ ∃ (od : Obj) (mA : Str → Option Value), PySem.W.InstAt s.heap q.1 q.2 (cAt X.K C) (some od) ∧ (∀ f, PySem.W.lookIn f od = some (mA f)) ∧ ∀ f, RelO (gs.lookup f) (mA f) := by
  obtain ⟨hp, hot, hz, fv, hf⟩ := h
  obtain ⟨ha, _⟩ := I.pin q (List.mem_append_left _ hp)
  cases d with
  | none =>
    refine .inl ⟨rfl, xd, ha, hz.1, by unfold PySem.W.notCls; rw [hf] <;> rfl, ?_⟩
    rw [hz.2.1]
    trivial
  | some d =>
    have hx : ObjOk X.prog X.w H s.heap d (.xd gs) := I.hok d _ xd
    obtain ⟨mA, hns, hr⟩ := hx
    obtain ⟨od, ho, hl⟩ := lookIn_ns hns
    exact .inr ⟨od, mA, ⟨ha, hz.1, by unfold PySem.W.notCls; rw [hf] <;> rfl, by rw [hz.2.1]; exact ho⟩, hl, hr⟩
@[simp] def mIsZ (xs : List Str) (B : Str) (i : Nat) (C D' : Str) : ME := fun s h => if C ∈ xs ∧ isHid s i = true ∧ D' ∈ B :: xs then .ok (.bl (decide (C = D') || decide (D' = B))) h else .bad
@[simp] def mIsZv (xs : List Str) (i : Nat) (C : Str) : ME := fun s h => if C ∈ xs ∧ isHid s i = true then .ok (.bl true) h else .bad
section
variable {X : Cx} {q : Addr × Obj} {C n f : Str} {d : Option Addr} {i : Nat} {fs : List (Str × W)} {gs : List (Str × V)} {W : WX} {p p1 p2 pos : Pos}
theorem call_isZ {cv : V} {u : Value} {b : Bool} (h : Holds X q C d) (F : ExcC X.K (cAt X.K C)) (k : PySem.W.kitOne X.K (.ref (cAt X.K C)) u = some b) (one : ∀ u', RelV cv u' → u' = u) :
    CallR X (.builtin "isinstance") (fun xs H Q => xs = [.ref q.1, cv] ∧ XD H d gs ∧ Q (.bl b) H) := by
  intro pins s σ H xs us Q I r ⟨e, xd, z⟩
  subst e
  cases r with
  | cons rx rr =>
    cases rr with
    | cons rt rr =>
      cases rr
      cases rx
      have e := one _ rt
      subst e
      rcases holds_inst h I xd with ⟨_, _, J⟩ | ⟨od, mA, J, _, _⟩
      · exact PySem.W.kia_one (PySem.W.handS_kitx_exc F.hg F.hk F.hs F.hd F.ha F.hn F.ht F.hm) I.kIn J k (fun z => nomatch z) fun tk => ⟨.bl b, H, I.kept (t' := tk) fun _ _ z => z, rfl, z⟩
      · exact PySem.W.kia_one (kitx_exc F) I.kIn J k (fun z => nomatch z) fun tk => ⟨.bl b, H, I.kept (t' := tk) fun _ _ z => z, rfl, z⟩
theorem de_isZ {xs : List Str} {B D' : Str} (F : ExI X.K xs B) (hB : B ∉ xs) (h : Holds X q C d) (hN : X.N[i]? = some n) (hv : Vis X.env.scope n) (hgB : Gl X D') (hmB : X.mg D' = some (.ref (cAt X.K D'))) (hg : Gl X "isinstance") (hm : X.mg "isinstance" = none) (hdB : (D' == ("__debug__" : Str)) = false := by decide)
    (hd : (n == ("__debug__" : Str)) = false := by decide) (hcd : (n == ("__classdict__" : Str)) = false := by decide) :
    DE X ⟨W, some ⟨i, q.1, d, C, fs, gs⟩⟩ (.Call (.Name "isinstance" p) [.Name n p1, .Name D' p2] [] pos) (mIsZ xs B i C D') := by
  by_cases hx : C ∈ xs ∧ D' ∈ B :: xs
  · refine (pe_callB (call_isZ (gs := gs) h (F.c C hx.1) (F.kit hB hx.1 hx.2) (cv := .ref (cAt X.K D')) fun _ z => z) hg hm bt_isinstance (pa_cons (pe_var hN hv hd hcd) (pa_cons (pe_glob (v := .ref (cAt X.K D')) hgB hmB rfl hdB) pa_nil))).imp fun σ H Q ⟨ι, s, hh, S, R, A⟩ => ?_
    unfold mIsZ at A
    split at A
    · rename_i c
      obtain ⟨h1, h2, h3⟩ := R.2.2 _ rfl
      exact ⟨_, h1 (isHid_at c.2.1), rfl, h2, A.now S _ (.bl _)⟩
    · exact A.elim
  · refine ⟨fun pins s σ H Q I ⟨ι, sl, hh, S, R, A⟩ => ?_⟩
    unfold mIsZ at A
    rw [if_neg (fun z => hx ⟨z.1, z.2.2⟩)] at A
    exact A.elim
theorem de_isZv {xs : List Str} {B : Str} (F : ExI X.K xs B) (h : Holds X q C d) (hN : X.N[i]? = some n) (hv : Vis X.env.scope n) (hgB : Gl X "ValueError") (hmB : X.mg "ValueError" = none) (hg : Gl X "isinstance") (hm : X.mg "isinstance" = none)
    (hd : (n == ("__debug__" : Str)) = false := by decide) (hcd : (n == ("__classdict__" : Str)) = false := by decide) :
    DE X ⟨W, some ⟨i, q.1, d, C, fs, gs⟩⟩ (.Call (.Name "isinstance" p) [.Name n p1, .Name "ValueError" p2] [] pos) (mIsZv xs i C) := by
  by_cases hx : C ∈ xs
  · refine (pe_callB (call_isZ (gs := gs) h (F.c C hx) (F.ve hx) (cv := .ty "ValueError") fun _ z => z) hg hm bt_isinstance (pa_cons (pe_var hN hv hd hcd) (pa_cons (pe_bltn (v := .ty "ValueError") hgB hmB PyProof.Rows.Boot.«ValueError» rfl (by decide) (by decide)) pa_nil))).imp fun σ H Q ⟨ι, s, hh, S, R, A⟩ => ?_
    unfold mIsZv at A
    split at A
    · rename_i c
      obtain ⟨h1, h2, h3⟩ := R.2.2 _ rfl
      exact ⟨_, h1 (isHid_at c.2), rfl, h2, A.now S _ (.bl _)⟩
    · exact A.elim
  · refine ⟨fun pins s σ H Q I ⟨ι, sl, hh, S, R, A⟩ => ?_⟩
    unfold mIsZv at A
    rw [if_neg (fun z => hx z.1)] at A
    exact A.elim
theorem de_xfH {xs : List Str} (T : ∀ C ∈ xs, ExF X.K C f) (h : Holds X q C d) (hN : X.N[i]? = some n) (hv : Vis X.env.scope n) (hd : (n == ("__debug__" : Str)) = false := by decide) (hcd : (n == ("__classdict__" : Str)) = false := by decide)
    (hb : attributeBase (.Name n p) f X.env (eval (.Name n p) X.env) = eval (.Name n p) X.env := by rfl) : DE X ⟨W, some ⟨i, q.1, d, C, fs, gs⟩⟩ (.Attribute (.Name n p) f pos) (mXf xs i C fs f) := by
  refine ⟨fun pins s σ H Q I ⟨ι, sl, hh, S, R, A⟩ => ?_⟩
  unfold mXf at A
  split at A
  · rename_i c
    split at A
    · rename_i w ew
      obtain ⟨h1, h2, h3⟩ := R.2.2 _ rfl
      obtain ⟨v, lv, rv⟩ := RF.look h3 ew
      have T1 := T C c.1
      refine attr_of hb (thn ((pe_var (pos := p) (i := i) hN hv hd hcd).run pins s σ H (fun x H1 => x = .ref q.1 ∧ H1 = H) I ⟨.ref q.1, h1 (isHid_at c.2), rfl, rfl⟩) fun u s1 ⟨x, H1, I1, rx, ex, eH⟩ => ?_)
      subst ex
      subst eH
      obtain rfl : u = Value.ref q.1 := rx
      rcases holds_inst h I1 h2 with ⟨_, e, _⟩ | ⟨od, mA, J, hl, hr⟩
      · rw [e] at lv; cases lv
      · obtain ⟨u, hu, ru⟩ := RelO.some_of (v := v) (o := mA f) (by have z := hr f; rwa [lv] at z)
        exact HandSPX.exc_get I1.kIn J T1.T.ga T1.T.gg T1.T.exC (PySem.W.findObj_own T1.T.hdC T1.no rfl (by rw [hl, hu])) (handed_of ru) ⟨v, H1, I1.tok _, ru, A.now S v rv⟩
    · exact A.elim
  · exact A.elim
/-- g(e, ..) -/
@[simp] def mCallX (i : Nat) (M : MF) (m : MA) : ME := fun s h => if isHid s i = true then (m s h).bind fun ws h1 => cut (M ws h1) else .bad
theorem de_callX {x : Str} {g : Addr} {fd : FuncData} {ps : List Str} {M : Str → List (Str × D.W) → MF} {k : Nat} {es : List Expr} {mas : MA} (F : FnX X.prog X.w X.K X.mg X.base k g fd ps M) (h : Holds X q C d) (rm : RoomH k X.A) (hg : Gl X x) (hm : X.mg x = some (.ref g)) (kp : PySem.W.keepIn X.K (.ref g) = true) (hb : L2.Binds X.K fd ps [])
    (hN : X.N[i]? = some n) (hv : Vis X.env.scope n) (ha : DA X ⟨W, some ⟨i, q.1, d, C, fs, gs⟩⟩ es mas) (hlen : ∀ s h ws h1, mas s h = .ok ws h1 → ws.length = es.length) (hl : es.length + 1 = ps.length) (hd : (n == ("__debug__" : Str)) = false := by decide) (hcd : (n == ("__classdict__" : Str)) = false := by decide) (hdb : (x == ("__debug__" : Str)) = false := by decide)
    (he : starEach (.Name n p1 :: es) X.env = (false, eval (.Name n p1) X.env) :: starEach es X.env := by rfl) (hpl : (backTo pos (starEach es X.env)).any (·.1) = false := by rfl) :
    DE X ⟨W, some ⟨i, q.1, d, C, fs, gs⟩⟩ (.Call (.Name x p) (.Name n p1 :: es) [] pos) (mCallX i (M C fs) mas) := by
  refine ⟨fun pins s σ H Q I ⟨ι, sl, hh, S, R, A⟩ => ?_⟩
  unfold mCallX at A
  split at A
  · rename_i c
    obtain ⟨h1, h2, h3⟩ := R.2.2 _ rfl
    refine wpAny_Call_Name_kw (ld_glob I hg hm ?_ hdb)
    refine PySem.W.callWith_K (h₀ := X.base) I.ok.mod.kin kp ?_ he hpl
    have z : tDA X.K ⟨W, some ⟨i, q.1, d, C, fs, gs⟩⟩ mas σ H (fun vs H1 => vs.length + 1 = ps.length ∧ ∃ ι ws h, Sim X.K ι h H1 ∧ RWs X.K ι H1 ws vs ∧ XD H1 d gs ∧ RF X.K ι H1 fs gs ∧ After X.K ι H1 (okV X.K Q) exN (M C fs ws h)) := by
      refine ⟨ι, sl, hh, S, R, ?_⟩
      have B := After.bind (K := X.K) A
      revert B
      generalize hr : mas sl hh = res
      intro B
      cases res with
      | bad => exact B
      | exc => exact B
      | ok ws h4 => exact fun ι1 H1 p1 g1 S1 vs r => ⟨by rw [← r.length, hlen _ _ _ _ hr]; exact hl, ι1, ws, h4, S1, r, h2.mono g1, RF.mono p1 g1 h3, (B ι1 H1 p1 g1 S1).cut⟩
    have pa : PA X (.Name n p1 :: es) (tCons (tVar i) (tDA X.K ⟨W, some ⟨i, q.1, d, C, fs, gs⟩⟩ mas)) := pa_cons (pe_var hN hv hd hcd) ha he
    refine thn (pa.run pos pins s σ H (fun vs H1 => ∃ v t, vs = v :: t ∧ v = .ref q.1 ∧ t.length + 1 = ps.length ∧ ∃ ι ws h, Sim X.K ι h H1 ∧ RWs X.K ι H1 ws t ∧ XD H1 d gs ∧ RF X.K ι H1 fs gs ∧ After X.K ι H1 (okV X.K Q) exN (M C fs ws h)) I
      ⟨.ref q.1, h1 (isHid_at c), ?_⟩) fun us s1 ⟨vs, H1, I1, r, v, t, e1, e2, n1, ι1, ws, h4, S1, r1, x1, f1, A1⟩ => ⟨I1.kIn, ?_⟩
    · obtain ⟨ι0, sl0, h0, S0, R0, A0⟩ := z
      exact ⟨ι0, sl0, h0, S0, R0, A0.imp (fun ι1 h1' H1 ws p1 g1 S1 ok vs r => by
        obtain ⟨n1, z⟩ := ok vs r
        exact ⟨_, _, rfl, rfl, n1, z⟩) idX⟩
    subst e1
    subst e2
    have P1 := I1.pin q (List.mem_append_left _ h.pin)
    have hpin : PinOk X.stack H1 s1 q := ⟨P1.1, P1.2.1, fun hm => (List.mem_cons.mp (I1.stkSub q.1 hm)).elim P1.2.2.1 P1.2.2.2.1, P1.2.2.2.2⟩
    have nl : us.length = ps.length := by rw [← r.length]; simpa using n1
    have b := hb s1 us I1.kIn (by rw [List.append_nil]; exact nl)
    rw [List.append_nil] at b
    refine wpAny_call (codeAny_mono (F.go X.A X.stack s1 H1 ⟨us, []⟩ us t Q q C fs gs d ι1 ws h4 rm h.hot hpin h.z h.f I1.env0 b r n1 S1 r1 x1 f1 A1) fun r' s' hq => ?_)
    cases r' with
    | error e => exact passes_call (W := fun _ _ _ _ => False) (fun u s' ⟨_, _, _, _, _, _, _, _, _, _, _, _, _, _, _, _, z⟩ => z.elim) (fun _ _ _ _ z => z.elim) pins σ H1 s1 e s' I1 hq
    | ok fl =>
      cases fl with
      | ret u => exact I1.after hq
      | next => exact False.elim hq
      | brk => exact False.elim hq
      | cont => exact False.elim hq
  · exact A.elim
end
end D
/-! D: try with several except clauses, each of several classes, none of which names the exception. -/
namespace D
open PySem PySem.Spec PyProof.Rows
open L2 hiding XE Takes CX ps_raise mk_of pmk_own passAt takes_of passes_call MkP PMk ps_try_as ps_try_many
open L2N hiding St
abbrev RwT := List Str × (Addr → Value → Option Addr → TS)
def wRows (K : PySem.W.Frag) (D : Ends) : List RwT → WX
  | [] => fun _ _ _ _ => False
  | (ds, ts) :: r => fun cls d σ H => ∃ b, PySem.W.exmAny K cls (ds.map fun x => .ref (cAt K x)) = some b ∧ (b = true → ∀ a, H a = none → ts a cls d D σ H) ∧ (b = false → wRows K D r cls d σ H)
inductive RowsX (X : Cx) : List ExceptHandler → List RwT → Prop
  | nil : RowsX X [] []
  | cons {es : List Expr} {ds : List Str} {k : Nat} {tpos pos' : Pos} {ts : Addr → Value → Option Addr → TS} {b₀ : Stmt} {suite : List Stmt} {hds : List ExceptHandler} {l : List RwT} (t : TNames es ds) (hl : ds.length ≤ 100) (N : ∀ x ∈ ds, Names X x (.ref (cAt X.K x)))
      (hsu : ∀ (a : Addr) (oe : Obj) (cls : Value) (d : Option Addr) (pn : List (Addr × Obj)), Zn cls d oe → (∃ vs, oe.data = .fields vs) → PSs (X.suite a ((a, oe) :: pn)) (b₀ :: suite) (ts a cls d)) (r : RowsX X hds l) :
      RowsX X (.ExceptHandler (some (.Tuple es k tpos)) none (b₀ :: suite) pos' :: hds) ((ds, ts) :: l)
section
variable {X : Cx} {B : Heap} {a : Addr} {cls : Value} {d : Option Addr} {pins : List (Addr × Obj)} {σ : St} {H : Hp} {sI z : Shared}
theorem Came.rows (hs : X.stack = X.env :: X.outer) (hf : X.env.frame = some X.env.locals) {D : Ends} {hd : List ExceptHandler} {l : List RwT} (k : RowsX X hd l) (c : Came X B a cls d pins σ H sI z) (w : wRows X.K D l cls d σ H) :
    wpAny (model X.prog X.w) X.A (handleBy (.ref a) X.env hd) (SP X pins D) X.xe z := by
  have ok := c.inv0.ok
  induction k generalizing z with
  | nil => exact w.elim
  | @cons es ds k tpos pos' ts b₀ suite hds l t hl N su _ ih =>
    obtain ⟨b, e, yes, no⟩ := w
    have f1 : HandSPX.FlyingZ B X.stack a (Zn cls d) (z.heap.push { cls := .type "tuple", data := .seq (ds.map fun x => Value.ref (cAt X.K x)).toArray }) := flies_push c.flies
    have look : PySem.W.Looks (model X.prog X.w) (z.heap.push { cls := .type "tuple", data := .seq (ds.map fun x => Value.ref (cAt X.K x)).toArray }) (excMatches (.ref a) (.ref z.heap.objs.size)) b :=
      exm_row (c.inv.kIn.keeps fun _ _ q => Heap.get?_push_of_some _ q) (fun _ _ _ _ k q => by
        obtain ⟨_, _, e1, e2, _⟩ := f1.there
        exact wpAny_typeOf_ref (k _ _ e1) (by rw [e2.1]; exact q)) (Heap.get?_push_size _ rfl) e
    refine wpAny_handleBy_cons (codeAny_handlers_test (wpAny_Tuple (c.row hs hf t N ⟨by rw [List.length_map]; exact Nat.le_trans hl (by decide), look.here ?_⟩))) nofun
    cases b
    · exact ih (c.go f1 push_up) (no rfl)
    · refine codeAny_handlers_suite (HandSPX.lands_againZ f1 fun h f u => ?_)
      obtain ⟨oe, vs, _, z2, z3, S⟩ := (c.go f (push_up.trans u)).obj hs hf
      exact wpAny_mono ((su a oe cls d _ z2 ⟨vs, z3⟩).run [] _ σ H D S (yes rfl a c.out)) (fun fl y p => sp_unsuite ok p) (fun _ _ q => False.elim q)
theorem ps_try_rows {body : List Stmt} {h₀ : ExceptHandler} {hds : List ExceptHandler} {l : List RwT} {pos : Pos} {tb : WX → TS} (hs : X.stack = X.env :: X.outer) (hf : X.env.frame = some X.env.locals)
    (hb : ∀ (W : WX) (pn : List (Addr × Obj)) (xe : Value → Shared → Prop), Takes (X.tr pn xe) W → PassesOwn (model X.prog X.w) X.A X.env xe → PSs (X.tr pn xe) body (tb W)) (hh : RowsX X (h₀ :: hds) l) :
    PS X (.Try body (h₀ :: hds) [] [] pos) (fun D σ H => tb (wRows X.K D l) D σ H) := by
  refine ⟨fun pins s σ H D I tt => wpAny_Try_except ?_⟩
  have ok := I.ok
  have caught : ∀ u y, XE (X.tr (X.pn ++ pins) X.xe) (wRows X.K D l) u y → wpAny (model X.prog X.w) X.A (noteFrame u X.env) (fun _ y1 => wpAny (model X.prog X.w) X.A (setFlight u none) (fun _ y2 =>
      wpAny (model X.prog X.w) X.A (handleBy u X.env (h₀ :: hds)) (SP X pins D) X.xe y2) X.xe y1) X.xe y := by
    rintro u y ⟨a, B, sI, p2, σ', H', cls, d, rfl, J, g, up, sky, out, os, ag, w⟩
    have sky : Sky B (X.env :: X.outer) a (Zn cls d) X.env.locals y.heap := hs ▸ sky
    refine Sky.land Zn.steady (by rw [ok.frames, hs]) hf sky fun h f u => ?_
    exact Came.rows (z := { y with heap := h }) hs hf hh ⟨J.ofTry ok, g, up.trans u, out, os, ag, hs ▸ f⟩ w
  refine wpAny_mono ((hb (wRows X.K D l) (X.pn ++ pins)
    (fun u y => wpAny (model X.prog X.w) X.A (noteFrame u X.env) (fun _ y1 => wpAny (model X.prog X.w) X.A (setFlight u none) (fun _ y2 => wpAny (model X.prog X.w) X.A (handleBy u X.env (h₀ :: hds)) (SP X pins D) X.xe y2) X.xe y1) X.xe y)
    (fun u y x => caught u y ?_) PassesOwn.looking).run [] s σ H D (I.toTry _) tt) (fun fl y p => ?_) (fun _ _ q => q)
  · obtain ⟨a, B, sI, p2, σ', H', cls, d, e, J, r⟩ := x
    exact ⟨a, B, sI, p2, σ', H', cls, d, e, ⟨J.ok.toTry _ _, J.os, J.bare, J.base, J.loc, J.cell, J.free, J.freeC, J.pin, J.hok, J.len⟩, r⟩
  · cases fl with
    | ret u => exact let ⟨v, s, h, i, r, q⟩ := p; ⟨v, s, h, i.ofTry ok, r, q⟩
    | next => exact let ⟨s, h, i, q⟩ := p; wpAny_execs_nil ⟨s, h, i.ofTry ok, q⟩
    | brk => exact let ⟨s, h, i, q⟩ := p; ⟨s, h, i.ofTry ok, q⟩
    | cont => exact let ⟨s, h, i, q⟩ := p; ⟨s, h, i.ofTry ok, q⟩
end
/-! ### computed -/
abbrev Rw := List Str × (Str → List (Str × W) → MS)
def goR (xs : List Str) : List Rw → Str → List (Str × W) → MS
  | [], _, _ => fun _ _ => .bad
  | (ds, m) :: r, C, fs => fun s h => if C ∈ xs then (if C ∈ ds then endN none (m C fs s h) else goR xs r C fs s h) else .bad
def sTryR (xs : List Str) (b : MS) (l : List Rw) : MS := fun s h => match b s h with
  | .exc C fs s1 h1 => goR xs l C fs s1 h1
  | r => r
inductive RowsD (X : Cx) (B : Str) (xs : List Str) : List ExceptHandler → List Rw → Prop
  | nil : RowsD X B xs [] []
  | cons {es : List Expr} {ds : List Str} {k : Nat} {tpos pos' : Pos} {m : Str → List (Str × W) → MS} {b₀ : Stmt} {suite : List Stmt} {hds : List ExceptHandler} {l : List Rw} (t : TNames es ds) (hl : ds.length ≤ 100) (T : ∀ x ∈ ds, ExT X.K X.mg B xs x) (nB : B ∉ ds) (G : ∀ x ∈ ds, Gl X x ∧ (x == ("__debug__" : Str)) = false)
      (hsu : ∀ (a : Addr) (oe : Obj) (C : Str) (fs : List (Str × W)) (gs : List (Str × V)) (d : Option Addr) (pn : List (Addr × Obj)), Zn (.ref (cAt X.K C)) d oe → (∃ vs, oe.data = .fields vs) → DSs (X.suite a ((a, oe) :: pn)) ⟨fun _ _ _ _ => False, none⟩ (b₀ :: suite) (m C fs)) (r : RowsD X B xs hds l) :
      RowsD X B xs (.ExceptHandler (some (.Tuple es k tpos)) none (b₀ :: suite) pos' :: hds) ((ds, m) :: l)
section
variable {X : Cx} {Wx : WJ} {B : Str} {xs : List Str}
theorem RowsD.x {hds : List ExceptHandler} {l : List Rw} (h : RowsD X B xs hds l) : RowsX X hds (l.map fun q => (q.1, tsH X.K ⟨"", none, q.2⟩)) := by
  induction h with
  | nil => exact .nil
  | @cons es ds k tpos pos' m b₀ suite hds l t hl T nB G hsu r ih =>
    refine .cons t hl (fun x hx => ⟨(G x hx).1, (G x hx).2, .inl (T x hx).g⟩) (fun a oe cls d pn z f => ⟨fun pins s σ H D I q => ?_⟩) ih
    obtain ⟨C, fs, gs, rfl, q⟩ := q
    exact (hsu a oe C fs gs d pn z f).run pins s σ H D I q
theorem ds_tryR {body : List Stmt} {h₀ : ExceptHandler} {hds : List ExceptHandler} {l : List Rw} {pos : Pos} {b : MS} (hJ : Wx.J = none) (hs : X.stack = X.env :: X.outer) (hf : X.env.frame = some X.env.locals)
    (hb : ∀ (W : WX) (pn : List (Addr × Obj)) (xe : Value → Shared → Prop), Takes (X.tr pn xe) W → PassesOwn (model X.prog X.w) X.A X.env xe → DSs (X.tr pn xe) ⟨W, none⟩ body b)
    (hh : RowsD X B xs (h₀ :: hds) l) : DS X Wx (.Try body (h₀ :: hds) [] [] pos) (sTryR xs b l) := by
  obtain ⟨Wo, J⟩ := Wx
  cases hJ
  refine (ps_try_rows (tb := fun W => tDS X.K ⟨W, none⟩ b) hs hf (fun W pn xe t p => hb W pn xe t p) hh.x).imp fun D σ H z => ?_
  obtain ⟨ι, s, h, S, R, A⟩ := z
  refine ⟨ι, s, h, S, R, ?_⟩
  unfold sTryR at A
  cases e : b s h with
  | bad => rw [e] at A; exact A.elim
  | ok r h1 => rw [e] at A; exact A
  | exc C fs s1 h1 =>
    rw [e] at A
    replace A : After X.K ι H (okS X.K none D) (exS X.K ⟨Wo, none⟩) (goR xs l C fs s1 h1) := A
    intro ι' H' p g S' σ' d gs R' hd rf
    replace A := A.le p g
    replace R' : RSl X.K none ι' H' s1 σ' := R'
    clear e
    revert A
    generalize h₀ :: hds = hl at hh
    intro A
    induction hh with
    | nil => exact A.elim
    | @cons es ds k tpos pos' m b₀ suite hds l t hl T nB G hsu r ih =>
      unfold goR at A
      split at A
      · rename_i cx
        have any : PySem.W.exmAny X.K (.ref (cAt X.K C)) (ds.map fun x => .ref (cAt X.K x)) = some (ds.any fun D' => decide (C = D') || decide (D' = B)) := any_row fun D' hD => (T D' hD).is C cx
        have val : (ds.any fun D' => decide (C = D') || decide (D' = B)) = decide (C ∈ ds) := by
          rw [Bool.eq_iff_iff, List.any_eq_true, decide_eq_true_iff]
          constructor
          · rintro ⟨D', h1, h2⟩
            rw [Bool.or_eq_true, decide_eq_true_iff, decide_eq_true_iff] at h2
            rcases h2 with rfl | rfl
            · exact h1
            · exact absurd h1 nB
          · exact fun h => ⟨C, h, by simp⟩
        refine ⟨decide (C ∈ ds), by rw [any, val], fun y a na => ⟨C, fs, gs, rfl, ι', s1, h1, S', R', ?_⟩, fun y => ih ?_⟩
        · rw [if_pos (of_decide_eq_true y)] at A
          revert A
          show After X.K ι' H' (okS X.K none D) (exS X.K ⟨Wo, none⟩) (endN none (m C fs s1 h1)) → After X.K ι' H' (okS X.K none D) _ (m C fs s1 h1)
          cases m C fs s1 h1 with
          | bad => exact fun z => z
          | exc => exact fun z => z.elim
          | ok q h2 =>
            obtain ⟨f, s2⟩ := q
            cases f <;> exact fun z => z
        · rw [if_neg (of_decide_eq_false y)] at A; exact A
      · exact A.elim
end
/-- the class as ds_raise knows it -/
theorem ExO.r {P : Program} {w : World} {K : PySem.W.Frag} {mg : Str → Option Value} {base : Heap} {x f p : Str} (R : ExO P w K mg base x f p) : ExR P w K mg base x f := by
  obtain ⟨fI, fd, h1, h2, h3, h4, -⟩ := R.ini
  exact ⟨R.gC, R.T, R.no, fI, fd, _, h1, h2, h3, h4⟩
theorem cls_of {K : PySem.W.Frag} {C B N : Addr} {nm q : Str} {bs sub : List Value} {sn : List Str} {ab : Bool} {col : Option Bool} {dd : Option Addr} {k0 k1 k2 k3 k5 : Option Value} {nw : String} (h : K.lookup C = some (excClassObj nm q C N bs (.ref B :: PySem.HandSPX.veTail) true sn sub ab col dd k0 k1 k2 k3 k5 nw)) :
    ∃ cd, PySem.W.clsIn K C = some cd ∧ cd.mro = .ref C :: .ref B :: PySem.HandSPX.veTail := by
  unfold PySem.W.clsIn
  rw [h]
  exact ⟨_, rfl, rfl⟩
end D
/-! printed by gen.py: the defs of the text, as computed functions -/
namespace K00
open PySem D
def EXC : List Str := ["InvalidOctets", "InvalidCount", "InvalidNumber", "InvalidMask", "InvalidOp", "InvalidBlock", "InvalidPage", "InvalidShape", "InvalidImage", "InvalidData", "InvalidRecord", "InvalidPath", "InvalidDeed", "InvalidLine", "InvalidScript", "InvalidTree", "InvalidChip", "InvalidRecords", "InvalidName", "InvalidPlans", "PowerCut", "TooMany", "NoThing", "NotReady", "NoRoom", "NothingToUndo"]
def XF_count : List Str := ["TooMany"]
def XF_given : List Str := ["InvalidOctets", "InvalidCount", "InvalidNumber", "InvalidMask", "InvalidOp", "InvalidBlock", "InvalidPage", "InvalidShape", "InvalidImage", "InvalidData", "InvalidRecord", "InvalidPath", "InvalidDeed", "InvalidLine", "InvalidScript", "InvalidTree", "InvalidChip", "InvalidRecords", "InvalidName", "InvalidPlans"]
def XF_name : List Str := ["NoThing"]
def XF_op : List Str := ["PowerCut"]
/-- _law_cell(_law_script, _law_k); slots: _law_script _law_k -/
def m__law_cell : MS :=
  (sRet (mIf (mTst (mBin gLt (mVar 1) (mCallG gLen (mCons (mVar 0) mNil)))) (mBin gIx (mVar 0) (mVar 1)) (mBin gAdd (mBin gMul (mC (.int 7919)) (mVar 1)) (mBin gMod (mCallG gSum (mCons (mSl (mVar 0) (mPart none) (mPart (some (mC (.int 1))))) mNil)) (mC (.int 1000003))))))
def R__law_cell : MF := runB 2 m__law_cell
/-- _law_box(_law_great); slots: _law_great -/
def m__law_box : MS :=
  (sRet (mLst (mCons (mCallG gAbs (mCons (mVar 0) mNil)) (mCons (mBin gGe (mCallG gAbs (mCons (mVar 0) mNil)) (mBin gPow (mC (.int 10)) (mC (.int 18)))) (mCons (mBin gMod (mCallG gInt (mCons (mCallG gAbs (mCons (mVar 0) mNil)) mNil)) (mC (.int 2147483629))) (mCons (mC (.int 0)) mNil))))))
def R__law_box : MF := runB 1 m__law_box
/-- _law_take(_law_box_here, _law_many); slots: _law_box_here _law_many _law_digit _law_mixed -/
def m__law_take : MS :=
  (sSeq (sIf (mAnd (mTru (mBin gIx (mVar 0) (mC (.int 1)))) (mTst (mBin gGt (mBin gIx (mVar 0) (mC (.int 0))) (mC (.int 0))))) (sSeq (sSet 2 (mBin gMod (mCallG gInt (mCons (mBin gIx (mVar 0) (mC (.int 0))) mNil)) (mVar 1)))
    (sSeq (sAsg (mBin gDiv (mBin gIx (mVar 0) (mC (.int 0))) (mVar 1)) (gSb (mVar 0) (mC (.int 0))))
    (sRet (mVar 2)))) sNx)
    (sSeq (sAsg (mBin gAdd (mBin gIx (mVar 0) (mC (.int 3))) (mC (.int 1))) (gSb (mVar 0) (mC (.int 3))))
    (sSeq (sSet 3 (mBin gMod (mCallG gInt (mCons (mBin gPow (mBin gAdd (mBin gAdd (mBin gIx (mVar 0) (mC (.int 2))) (mBin gMul (mC (.int 15485867)) (mBin gIx (mVar 0) (mC (.int 3))))) (mC (.int 179425033))) (mC (.int 5))) mNil)) (mC (.int 2147483647))))
    (sRet (mBin gMod (mBin gDiv (mBin gMod (mCallG gInt (mCons (mBin gPow (mBin gAdd (mBin gMul (mVar 3) (mC (.int 48271))) (mBin gMul (mC (.int 7919)) (mBin gIx (mVar 0) (mC (.int 3))))) (mC (.int 3))) mNil)) (mC (.int 2147483587))) (mC (.int 64))) (mVar 1))))))
def R__law_take : MF := runB 4 m__law_take
/-- _law_by_place(_law_thing_here); slots: _law_thing_here _law_found -/
def m__law_by_place : MS :=
  (sSeq (sSet 1 (mLst (mCons (mExv "InvalidOctets" "given" (mVar 0)) (mCons (mExv "InvalidCount" "given" (mVar 0)) (mCons (mExv "InvalidNumber" "given" (mVar 0)) (mCons (mExv "InvalidMask" "given" (mVar 0)) (mCons (mExv "InvalidOp" "given" (mVar 0)) mNil)))))))
    (sSeq (sSet 1 (mBin gAdd (mVar 1) (mLst (mCons (mExv "InvalidBlock" "given" (mVar 0)) (mCons (mExv "InvalidPage" "given" (mVar 0)) (mCons (mExv "InvalidShape" "given" (mVar 0)) (mCons (mExv "InvalidImage" "given" (mVar 0)) mNil)))))))
    (sSeq (sSet 1 (mBin gAdd (mVar 1) (mLst (mCons (mExv "InvalidData" "given" (mVar 0)) (mCons (mExv "InvalidRecord" "given" (mVar 0)) (mCons (mExv "InvalidPath" "given" (mVar 0)) (mCons (mExv "InvalidDeed" "given" (mVar 0)) mNil)))))))
    (sSeq (sSet 1 (mBin gAdd (mVar 1) (mLst (mCons (mExv "InvalidLine" "given" (mVar 0)) (mCons (mExv "InvalidScript" "given" (mVar 0)) (mCons (mExv "InvalidTree" "given" (mVar 0)) (mCons (mExv "InvalidChip" "given" (mVar 0)) mNil)))))))
    (sSeq (sSet 1 (mBin gAdd (mVar 1) (mLst (mCons (mExv "InvalidRecords" "given" (mVar 0)) (mCons (mExv "InvalidName" "given" (mVar 0)) (mCons (mExv "InvalidPlans" "given" (mVar 0)) mNil))))))
    (sRet (mBin gAdd (mVar 1) (mLst (mCons (mExv "PowerCut" "op" (mVar 0)) (mCons (mExv "TooMany" "count" (mVar 0)) (mCons (mExv "NoThing" "name" (mVar 0)) mNil)))))))))))
def R__law_by_place : MF := runB 2 m__law_by_place
/-- _law_by_name(_law_thing_here); slots: _law_thing_here _law_found -/
def m__law_by_name : MS :=
  (sSeq (sSet 1 (mLst (mCons (mExv "InvalidOctets" "given" (mVar 0)) (mCons (mExv "InvalidCount" "given" (mVar 0)) (mCons (mExv "InvalidNumber" "given" (mVar 0)) mNil)))))
    (sSeq (sSet 1 (mBin gAdd (mVar 1) (mLst (mCons (mExv "InvalidMask" "given" (mVar 0)) (mCons (mExv "InvalidOp" "given" (mVar 0)) (mCons (mExv "InvalidBlock" "given" (mVar 0)) mNil))))))
    (sSeq (sSet 1 (mBin gAdd (mVar 1) (mLst (mCons (mExv "InvalidPage" "given" (mVar 0)) (mCons (mExv "InvalidShape" "given" (mVar 0)) (mCons (mExv "InvalidImage" "given" (mVar 0)) mNil))))))
    (sSeq (sSet 1 (mBin gAdd (mVar 1) (mLst (mCons (mExv "InvalidData" "given" (mVar 0)) (mCons (mExv "InvalidRecord" "given" (mVar 0)) (mCons (mExv "InvalidPath" "given" (mVar 0)) mNil))))))
    (sSeq (sSet 1 (mBin gAdd (mVar 1) (mLst (mCons (mExv "InvalidDeed" "given" (mVar 0)) (mCons (mExv "InvalidLine" "given" (mVar 0)) (mCons (mExv "InvalidScript" "given" (mVar 0)) mNil))))))
    (sSeq (sSet 1 (mBin gAdd (mVar 1) (mLst (mCons (mExv "InvalidTree" "given" (mVar 0)) (mCons (mExv "InvalidChip" "given" (mVar 0)) (mCons (mExv "InvalidRecords" "given" (mVar 0)) mNil))))))
    (sSeq (sSet 1 (mBin gAdd (mVar 1) (mLst (mCons (mExv "InvalidName" "given" (mVar 0)) (mCons (mExv "InvalidPlans" "given" (mVar 0)) mNil)))))
    (sRet (mBin gAdd (mVar 1) (mLst (mCons (mExv "PowerCut" "op" (mVar 0)) (mCons (mExv "TooMany" "count" (mVar 0)) (mCons (mExv "NoThing" "name" (mVar 0)) mNil)))))))))))))
def R__law_by_name : MF := runB 2 m__law_by_name
/-- _law_sorts(_law_e); slots: _law_e _law_found -/
def m__law_sorts : MS :=
  (sSeq (sSet 1 (mLst (mCons (mCallG (gIsV EXC "FlashError") (mCons (mVar 0) (mCons (mC (.gl "InvalidOctets")) mNil))) (mCons (mCallG (gIsV EXC "FlashError") (mCons (mVar 0) (mCons (mC (.gl "InvalidCount")) mNil))) (mCons (mCallG (gIsV EXC "FlashError") (mCons (mVar 0) (mCons (mC (.gl "InvalidNumber")) mNil))) mNil)))))
    (sSeq (sSet 1 (mBin gAdd (mVar 1) (mLst (mCons (mCallG (gIsV EXC "FlashError") (mCons (mVar 0) (mCons (mC (.gl "InvalidMask")) mNil))) (mCons (mCallG (gIsV EXC "FlashError") (mCons (mVar 0) (mCons (mC (.gl "InvalidOp")) mNil))) (mCons (mCallG (gIsV EXC "FlashError") (mCons (mVar 0) (mCons (mC (.gl "InvalidBlock")) mNil))) mNil))))))
    (sSeq (sSet 1 (mBin gAdd (mVar 1) (mLst (mCons (mCallG (gIsV EXC "FlashError") (mCons (mVar 0) (mCons (mC (.gl "InvalidPage")) mNil))) (mCons (mCallG (gIsV EXC "FlashError") (mCons (mVar 0) (mCons (mC (.gl "InvalidShape")) mNil))) (mCons (mCallG (gIsV EXC "FlashError") (mCons (mVar 0) (mCons (mC (.gl "InvalidImage")) mNil))) mNil))))))
    (sSeq (sSet 1 (mBin gAdd (mVar 1) (mLst (mCons (mCallG (gIsV EXC "FlashError") (mCons (mVar 0) (mCons (mC (.gl "InvalidData")) mNil))) (mCons (mCallG (gIsV EXC "FlashError") (mCons (mVar 0) (mCons (mC (.gl "InvalidRecord")) mNil))) (mCons (mCallG (gIsV EXC "FlashError") (mCons (mVar 0) (mCons (mC (.gl "InvalidPath")) mNil))) mNil))))))
    (sSeq (sSet 1 (mBin gAdd (mVar 1) (mLst (mCons (mCallG (gIsV EXC "FlashError") (mCons (mVar 0) (mCons (mC (.gl "InvalidDeed")) mNil))) (mCons (mCallG (gIsV EXC "FlashError") (mCons (mVar 0) (mCons (mC (.gl "InvalidLine")) mNil))) (mCons (mCallG (gIsV EXC "FlashError") (mCons (mVar 0) (mCons (mC (.gl "InvalidScript")) mNil))) mNil))))))
    (sSeq (sSet 1 (mBin gAdd (mVar 1) (mLst (mCons (mCallG (gIsV EXC "FlashError") (mCons (mVar 0) (mCons (mC (.gl "InvalidTree")) mNil))) (mCons (mCallG (gIsV EXC "FlashError") (mCons (mVar 0) (mCons (mC (.gl "InvalidChip")) mNil))) (mCons (mCallG (gIsV EXC "FlashError") (mCons (mVar 0) (mCons (mC (.gl "InvalidRecords")) mNil))) mNil))))))
    (sSeq (sSet 1 (mBin gAdd (mVar 1) (mLst (mCons (mCallG (gIsV EXC "FlashError") (mCons (mVar 0) (mCons (mC (.gl "InvalidName")) mNil))) (mCons (mCallG (gIsV EXC "FlashError") (mCons (mVar 0) (mCons (mC (.gl "InvalidPlans")) mNil))) (mCons (mCallG (gIsV EXC "FlashError") (mCons (mVar 0) (mCons (mC (.gl "PowerCut")) mNil))) mNil))))))
    (sSeq (sSet 1 (mBin gAdd (mVar 1) (mLst (mCons (mCallG (gIsV EXC "FlashError") (mCons (mVar 0) (mCons (mC (.gl "TooMany")) mNil))) (mCons (mCallG (gIsV EXC "FlashError") (mCons (mVar 0) (mCons (mC (.gl "NoThing")) mNil))) mNil)))))
    (sRet (mBin gAdd (mVar 1) (mLst (mCons (mCallG (gIsV EXC "FlashError") (mCons (mVar 0) (mCons (mC (.gl "NotReady")) mNil))) (mCons (mCallG (gIsV EXC "FlashError") (mCons (mVar 0) (mCons (mC (.gl "NoRoom")) mNil))) (mCons (mCallG (gIsV EXC "FlashError") (mCons (mVar 0) (mCons (mC (.gl "NothingToUndo")) mNil))) mNil))))))))))))))
def R__law_sorts : MF := runB 2 m__law_sorts
def mX__law_sorts (C : Str) (fs : List (Str × W)) : MS :=
  (sSeq (sSet 1 (mLst (mCons (mIsZ EXC "FlashError" 0 C "InvalidOctets") (mCons (mIsZ EXC "FlashError" 0 C "InvalidCount") (mCons (mIsZ EXC "FlashError" 0 C "InvalidNumber") mNil)))))
    (sSeq (sSet 1 (mBin gAdd (mVar 1) (mLst (mCons (mIsZ EXC "FlashError" 0 C "InvalidMask") (mCons (mIsZ EXC "FlashError" 0 C "InvalidOp") (mCons (mIsZ EXC "FlashError" 0 C "InvalidBlock") mNil))))))
    (sSeq (sSet 1 (mBin gAdd (mVar 1) (mLst (mCons (mIsZ EXC "FlashError" 0 C "InvalidPage") (mCons (mIsZ EXC "FlashError" 0 C "InvalidShape") (mCons (mIsZ EXC "FlashError" 0 C "InvalidImage") mNil))))))
    (sSeq (sSet 1 (mBin gAdd (mVar 1) (mLst (mCons (mIsZ EXC "FlashError" 0 C "InvalidData") (mCons (mIsZ EXC "FlashError" 0 C "InvalidRecord") (mCons (mIsZ EXC "FlashError" 0 C "InvalidPath") mNil))))))
    (sSeq (sSet 1 (mBin gAdd (mVar 1) (mLst (mCons (mIsZ EXC "FlashError" 0 C "InvalidDeed") (mCons (mIsZ EXC "FlashError" 0 C "InvalidLine") (mCons (mIsZ EXC "FlashError" 0 C "InvalidScript") mNil))))))
    (sSeq (sSet 1 (mBin gAdd (mVar 1) (mLst (mCons (mIsZ EXC "FlashError" 0 C "InvalidTree") (mCons (mIsZ EXC "FlashError" 0 C "InvalidChip") (mCons (mIsZ EXC "FlashError" 0 C "InvalidRecords") mNil))))))
    (sSeq (sSet 1 (mBin gAdd (mVar 1) (mLst (mCons (mIsZ EXC "FlashError" 0 C "InvalidName") (mCons (mIsZ EXC "FlashError" 0 C "InvalidPlans") (mCons (mIsZ EXC "FlashError" 0 C "PowerCut") mNil))))))
    (sSeq (sSet 1 (mBin gAdd (mVar 1) (mLst (mCons (mIsZ EXC "FlashError" 0 C "TooMany") (mCons (mIsZ EXC "FlashError" 0 C "NoThing") mNil)))))
    (sRet (mBin gAdd (mVar 1) (mLst (mCons (mIsZ EXC "FlashError" 0 C "NotReady") (mCons (mIsZ EXC "FlashError" 0 C "NoRoom") (mCons (mIsZ EXC "FlashError" 0 C "NothingToUndo") mNil))))))))))))))
def RX__law_sorts : Str → List (Str × W) → MF := fun C fs => runX 2 (mX__law_sorts C fs)
/-- _law_is(_law_e, _law_spot); slots: _law_e _law_spot _law_sorts_here _law_k -/
def m__law_is : MS :=
  (sSeq (sSet 2 (mCall R__law_sorts (mCons (mVar 0) mNil)))
    (sSeq (sIf (mOr (mNot (mTru (mCallG (gIsV EXC "FlashError") (mCons (mVar 0) (mCons (mC (.gl "FlashError")) mNil))))) (mNot (mTru (mCallG (gIsV EXC "FlashError") (mCons (mVar 0) (mCons (mC (.ty "ValueError")) mNil)))))) (sRet (mC (.bl false))) sNx)
    (sRet (mBin gEq (mLc (iRng (mCons (mCallG gLen (mCons (mVar 2) mNil)) mNil)) [3] (gNm 3) (mTru (mBin gIx (mVar 2) (mVar 3))) (mVar 3)) (mLst (mCons (mVar 1) mNil))))))
def R__law_is : MF := runB 4 m__law_is
def mX__law_is (C : Str) (fs : List (Str × W)) : MS :=
  (sSeq (sSet 2 (mCallX 0 (RX__law_sorts C fs) mNil))
    (sSeq (sIf (mOr (mNot (mTru (mIsZ EXC "FlashError" 0 C "FlashError"))) (mNot (mTru (mIsZv EXC 0 C)))) (sRet (mC (.bl false))) sNx)
    (sRet (mBin gEq (mLc (iRng (mCons (mCallG gLen (mCons (mVar 2) mNil)) mNil)) [3] (gNm 3) (mTru (mBin gIx (mVar 2) (mVar 3))) (mVar 3)) (mLst (mCons (mVar 1) mNil))))))
def RX__law_is : Str → List (Str × W) → MF := fun C fs => runX 4 (mX__law_is C fs)
/-- _law_kept(_law_e); slots: _law_e -/
def m__law_kept : MS :=
  (sSeq (sIf (mTru (mCallG (gIsV EXC "FlashError") (mCons (mVar 0) (mCons (mC (.gl "PowerCut")) mNil)))) (sRet (mXfV XF_op "op" (mVar 0))) sNx)
    (sSeq (sIf (mTru (mCallG (gIsV EXC "FlashError") (mCons (mVar 0) (mCons (mC (.gl "TooMany")) mNil)))) (sRet (mXfV XF_count "count" (mVar 0))) sNx)
    (sRet (mIf (mTru (mCallG (gIsV EXC "FlashError") (mCons (mVar 0) (mCons (mC (.gl "NoThing")) mNil)))) (mXfV XF_name "name" (mVar 0)) (mXfV XF_given "given" (mVar 0))))))
def R__law_kept : MF := runB 1 m__law_kept
def mX__law_kept (C : Str) (fs : List (Str × W)) : MS :=
  (sSeq (sIf (mTru (mIsZ EXC "FlashError" 0 C "PowerCut")) (sRet (mXf XF_op 0 C fs "op")) sNx)
    (sSeq (sIf (mTru (mIsZ EXC "FlashError" 0 C "TooMany")) (sRet (mXf XF_count 0 C fs "count")) sNx)
    (sRet (mIf (mTru (mIsZ EXC "FlashError" 0 C "NoThing")) (mXf XF_name 0 C fs "name") (mXf XF_given 0 C fs "given")))))
def RX__law_kept : Str → List (Str × W) → MF := fun C fs => runX 1 (mX__law_kept C fs)
/-- _law_thing(_law_box_here); slots: _law_box_here _law_menu -/
def m__law_thing : MS :=
  (sSeq (sSet 1 (mLst (mCons (mC .non) (mCons (mC (.bl true)) (mCons (mC (.bl false)) (mCons (mC (.int 0)) (mCons (mC (.int 7)) (mCons (mC (.str "")) (mCons (mC (.str "path")) (mCons (mLst mNil) (mCons (mLst (mCons (mC (.int 1)) (mCons (mC (.str "a")) mNil))) (mCons (mTup mNil) (mCons (mTup (mCons (mC (.int 1)) (mCons (mC (.bl true)) mNil))) (mCons mDict0 (mCons (mCallG gDict1 (mCons (mLst (mCons (mTup (mCons (mC (.str "a")) (mCons (mLst (mCons (mC (.int 3)) mNil)) mNil))) mNil)) mNil)) (mCons (mUn gNeg (mBin gPow (mC (.int 10)) (mC (.int 29)))) mNil))))))))))))))))
    (sRet (mBin gIx (mVar 1) (mCall R__law_take (mCons (mVar 0) (mCons (mC (.int 14)) mNil))))))
def R__law_thing : MF := runB 2 m__law_thing
/-- _law_all_right(_law_box_here); slots: _law_box_here _law_first _law_last _law_lists _law_turn _law_spot _law_e -/
def m__law_all_right : MS :=
  (sSeq (sPar 1 2 (mCall R__law_thing (mCons (mVar 0) mNil)) (mCall R__law_thing (mCons (mVar 0) mNil)))
    (sSeq (sSet 3 (mLst (mCons (mCall R__law_by_place (mCons (mVar 1) mNil)) (mCons (mCall R__law_by_name (mCons (mVar 2) mNil)) (mCons (mCall R__law_by_name (mCons (mVar 1) mNil)) (mCons (mCall R__law_by_place (mCons (mVar 2) mNil)) mNil))))))
    (sSeq (sFor (iRng (mCons (mC (.int 4)) mNil)) (gNm 4)
    (sFor (iRng (mCons (mC (.int 23)) mNil)) (gNm 5)
    (sSeq (sSet 6 (mBin gIx (mBin gIx (mVar 3) (mVar 4)) (mVar 5)))
    (sIf (mOr (mNot (mTru (mCall R__law_is (mCons (mVar 6) (mCons (mVar 5) mNil))))) (mTst (mBin gNe (mCallG gReprD (mCons (mCall R__law_kept (mCons (mVar 6) mNil)) mNil)) (mCallG gReprD (mCons (mBin gIx (mLst (mCons (mVar 1) (mCons (mVar 2) mNil))) (mBin gMod (mVar 4) (mC (.int 2)))) mNil))))) (sRet (mC (.bl false))) sNx))))
    (sRet (mC (.bl true))))))
def R__law_all_right : MF := runB 7 m__law_all_right
/-- _law_raised(_law_way, _law_thing_here); slots: _law_way _law_thing_here -/
def m__law_raised : MS :=
  (sSeq (sIf (mTst (mBin gEq (mVar 0) (mC (.int 0)))) (sRaise "InvalidMask" "given" (mVar 1)) sNx)
    (sSeq (sIf (mTst (mBin gEq (mVar 0) (mC (.int 1)))) (sRaise "PowerCut" "op" (mVar 1)) sNx)
    (sSeq (sIf (mTst (mBin gEq (mVar 0) (mC (.int 2)))) (sRaise "InvalidTree" "given" (mVar 1)) sNx)
    (sSeq (sIf (mTst (mBin gEq (mVar 0) (mC (.int 3)))) (sRaise0 "NoRoom") sNx)
    (sSeq (sIf (mTst (mBin gEq (mVar 0) (mC (.int 4)))) (sRaise "InvalidRecords" "given" (mVar 1)) sNx)
    (sRaise "NoThing" "name" (mVar 1)))))))
def R__law_raised : MF := runB 2 m__law_raised
@[simp] def H__law_caught_0 : Hd := ⟨"FlashError", some 4, fun C fs => (sExp (mMth gAppend (mVar 3) (mCons (mAndV (mCallX 4 (RX__law_is C fs) (mCons (mBin gIx (mLst (mCons (mC (.int 3)) (mCons (mC (.int 20)) (mCons (mC (.int 15)) (mCons (mC (.int 24)) (mCons (mC (.int 17)) (mCons (mC (.int 22)) mNil))))))) (mVar 2)) mNil)) (mOrV (mBin gEq (mVar 2) (mC (.int 3))) (mBin gEq (mCallG gReprD (mCons (mCallX 4 (RX__law_kept C fs) mNil) mNil)) (mCallG gReprD (mCons (mVar 1) mNil))))) mNil)))⟩
@[simp] def H__law_caught_1 : List Hd := [H__law_caught_0]
@[simp] def H__law_caught_2 : Rw := (["InvalidMask", "PowerCut", "InvalidTree", "NoRoom", "InvalidRecords", "NoThing"], fun C fs => (sExp (mMth gAppend (mVar 3) (mCons (mC (.bl true)) mNil))))
@[simp] def H__law_caught_3 : Rw := (["InvalidNumber", "InvalidOp", "InvalidChip", "NotReady", "InvalidRecord", "InvalidName", "TooMany", "NothingToUndo"], fun C fs => (sExp (mMth gAppend (mVar 3) (mCons (mC (.bl false)) mNil))))
@[simp] def H__law_caught_4 : List Rw := [H__law_caught_3, H__law_caught_2]
/-- _law_caught(_law_box_here, _law_thing_here); slots: _law_box_here _law_thing_here _law_way _law_met _law_e -/
def m__law_caught : MS :=
  (sSeq (sSet 2 (mCall R__law_take (mCons (mVar 0) (mCons (mC (.int 6)) mNil))))
    (sSeq (sSet 3 (mLst mNil))
    (sSeq (sTry "FlashError" EXC
    (sExp (mCall R__law_raised (mCons (mVar 2) (mCons (mVar 1) mNil))))
    H__law_caught_1)
    (sSeq (sTryR EXC
    (sExp (mCall R__law_raised (mCons (mVar 2) (mCons (mVar 1) mNil))))
    H__law_caught_4)
    (sRet (mBin gEq (mVar 3) (mLst (mCons (mC (.bl true)) (mCons (mC (.bl true)) mNil)))))))))
def R__law_caught : MF := runB 5 m__law_caught
/-- _law_very_right(); slots: _law_grown _law_kept_here _law_inner _law_outer _law_e _law_thing_here -/
def m__law_very_right : MS :=
  (sSeq (sSet 0 (mLst (mCons (mC (.int 1)) mNil)))
    (sSeq (sSet 1 (mLc (iSeq (mBin gAdd (mCall R__law_by_place (mCons (mVar 0) mNil)) (mCall R__law_by_name (mCons (mVar 0) mNil)))) [4] (gNm 4) tTru (mCall R__law_kept (mCons (mVar 4) mNil))))
    (sSeq (sExp (mMth gAppend (mVar 0) (mCons (mC (.str "more")) mNil)))
    (sSeq (sIf (mOr (mTst (mBin gNe (mCallG gLen (mCons (mVar 1) mNil)) (mC (.int 46)))) (mTst (mBin gNe (mLc (iSeq (mVar 1)) [5] (gNm 5) (mTst (mBin gNe (mVar 5) (mLst (mCons (mC (.int 1)) (mCons (mC (.str "more")) mNil))))) (mVar 5)) (mLst mNil)))) (sRet (mC (.bl false))) sNx)
    (sSeq (sSet 2 (mLst (mCons (mC (.int 1)) mNil)))
    (sSeq (sSet 3 (mExv "TooMany" "count" (mExv "InvalidChip" "given" (mExv "NoThing" "name" (mVar 2)))))
    (sSeq (sExp (mMth gAppend (mVar 2) (mCons (mC (.int 2)) mNil)))
    (sRet (mAndV (mCallG (gIsV EXC "FlashError") (mCons (mXfV XF_count "count" (mVar 3)) (mCons (mC (.gl "InvalidChip")) mNil))) (mBin gEq (mXfV XF_name "name" (mXfV XF_given "given" (mXfV XF_count "count" (mVar 3)))) (mLst (mCons (mC (.int 1)) (mCons (mC (.int 2)) mNil)))))))))))))
def R__law_very_right : MF := runB 6 m__law_very_right
/-- law(_law_script); slots: _law_script _law_bare _law_k _law_box_here -/
def m_law : MS :=
  (sSeq (sSet 1 (mLst (mCons (mC (.exv "NotReady" [] [])) (mCons (mC (.exv "NoRoom" [] [])) (mCons (mC (.exv "NothingToUndo" [] [])) mNil)))))
    (sSeq (sIf (mTst (mBin gNe (mLc (iRng (mCons (mC (.int 3)) mNil)) [2] (gNm 2) (mNot (mTru (mCall R__law_is (mCons (mBin gIx (mVar 1) (mVar 2)) (mCons (mBin gAdd (mC (.int 23)) (mVar 2)) mNil))))) (mVar 2)) (mLst mNil))) (sRet (mC (.bl false))) sNx)
    (sSeq (sFor (iRng (mCons (mCallG gMax (mCons (mC (.int 2)) (mCons (mCallG gMin (mCons (mC (.int 4)) (mCons (mCallG gLen (mCons (mVar 0) mNil)) mNil))) mNil))) mNil)) (gNm 2)
    (sSeq (sSet 3 (mCall R__law_box (mCons (mCall R__law_cell (mCons (mVar 0) (mCons (mVar 2) mNil))) mNil)))
    (sIf (mOr (mNot (mTru (mCall R__law_all_right (mCons (mVar 3) mNil)))) (mNot (mTru (mCall R__law_caught (mCons (mVar 3) (mCons (mCall R__law_thing (mCons (mVar 3) mNil)) mNil)))))) (sRet (mC (.bl false))) sNx)))
    (sRet (mAndV (mCall R__law_very_right mNil) (mCallG (gIsV EXC "FlashError") (mCons (mXfV XF_given "given" (mExv "InvalidRecord" "given" (mC (.exv "NoRoom" [] [])))) (mCons (mC (.gl "NoRoom")) mNil))))))))
def R_law : MF := runB 4 m_law
end K00
namespace Q00
open K00
open PySem D L2
/-- the box that digits are taken from -/
def Bx (b : Nat) (n : Int) (h : HH) : Prop := ∃ (g : Int) (k : Bool) (r c : Int), h[b]? = some (.lst [.int g, .bl k, .int r, .int c]) ∧ 0 ≤ r ∧ r < 2147483648 ∧ 0 ≤ c ∧ c ≤ n
theorem Bx.lt {b : Nat} {n : Int} {h : HH} (x : Bx b n h) : b < h.length := by
  obtain ⟨g, k, r, c, e, _⟩ := x
  exact hlt e
theorem Bx.le {b : Nat} {n m : Int} {h : HH} (x : Bx b n h) (l : n ≤ m) : Bx b m h := by
  obtain ⟨g, k, r, c, e, a1, a2, a3, a4⟩ := x
  exact ⟨g, k, r, c, e, a1, a2, a3, by omega⟩
theorem Bx.sub {b : Nat} {n : Int} {h h1 : HH} (x : Bx b n h) (s : Sub h h1) : Bx b n h1 := by
  obtain ⟨g, k, r, c, e, a⟩ := x
  exact ⟨g, k, r, c, s _ _ e, a⟩
def Tk (b : Nat) (n m : Int) (h : HH) (v : W) (h' : HH) : Prop := ∃ d, v = W.int d ∧ 0 ≤ d ∧ d < m ∧ Bx b (n + 1) h' ∧ SubX b h h'
theorem log_ok {m : Int} (a : 0 < m) (b : m < 8589934592) : m.natAbs.log2 < 9000 := by
  have : m.natAbs.log2 < 33 := (Nat.log2_lt (by omega)).mpr (by omega)
  omega
theorem t_take {b : Nat} {n m : Int} {h : HH} (x : Bx b n h) (hn : n ≤ 1000000000) (m0 : 0 < m) (m1 : m < 8589934592) : Po (Tk b n m h) (R__law_take [.ref b, .int m] h) := by
  obtain ⟨g, k, r, c, e, a1, a2, a3, a4⟩ := x
  have hb := hlt e
  have lg := log_ok m0 m1
  have i0 : ∀ w1 w2 w3 w4 : W, atI [w1, w2, w3, w4] 0 = some w1 := fun _ _ _ _ => rfl
  have i1 : ∀ w1 w2 w3 w4 : W, atI [w1, w2, w3, w4] 1 = some w2 := fun _ _ _ _ => rfl
  have i2 : ∀ w1 w2 w3 w4 : W, atI [w1, w2, w3, w4] 2 = some w3 := fun _ _ _ _ => rfl
  have i3 : ∀ w1 w2 w3 w4 : W, atI [w1, w2, w3, w4] 3 = some w4 := fun _ _ _ _ => rfl
  have j0 : ixN 4 0 = some 0 := rfl
  have j3 : ixN 4 3 = some 3 := rfl
  have hg : ∀ u : O, (h.set b u)[b]? = some u := fun u => hget_set hb
  have mk : ∀ x y : Int, (x = 15485867 ∨ x = 7919) → mulOk x y = true := fun x y h => by
    rcases h with rfl | rfl <;> simp [mulOk]
  have mk2 : ∀ y : Int, mulOk y 48271 = true := fun y => by simp [mulOk]
  have tail : ∀ t : Int, Po (Tk b n m h) (Rs.ok (W.int (t % 2147483587 / 64 % m)) (h.set b (.lst [.int g, .bl k, .int r, .int (c + 1)]))) := fun t => by
    refine ⟨_, rfl, Int.emod_nonneg _ (by omega), Int.emod_lt_of_pos _ m0, ⟨g, k, r, c + 1, hg _, a1, a2, by omega, by omega⟩, .set⟩
  have p1 : (r + 15485867 * (c + 1) + 179425033).natAbs < 18446744073709551616 := by omega
  have p2 : ((r + 15485867 * (c + 1) + 179425033) ^ 5 % 2147483647 * 48271 + 7919 * (c + 1)).natAbs < 18446744073709551616 := by omega
  have rest : (k = false ∨ ¬ 0 < g) → R__law_take [.ref b, .int m] h = .ok (W.int ((((r + 15485867 * (c + 1) + 179425033) ^ 5 % 2147483647 * 48271 + 7919 * (c + 1)) ^ 3) % 2147483587 / 64 % m)) (h.set b (.lst [.int g, .bl k, .int r, .int (c + 1)])) := fun hk => by
    rcases hk with rfl | hk
    · simp [R__law_take, m__law_take, e, i0, i1, i3, j3, i2, hg, mk, mk2, p1, p2, m0, lg]
    · cases k <;> simp [R__law_take, m__law_take, e, i0, i1, i3, j3, i2, hg, mk, mk2, p1, p2, m0, lg, hk]
  by_cases c0 : k = true ∧ 0 < g
  · obtain ⟨rfl, g0⟩ := c0
    simp [R__law_take, m__law_take, e, i0, i1, g0, m0, lg, j0]
    exact ⟨_, rfl, Int.emod_nonneg _ (by omega), Int.emod_lt_of_pos _ m0, ⟨g / m, true, r, c, hg _, a1, a2, a3, by omega⟩, .set⟩
  · rw [rest (by cases k <;> simp at c0 ⊢; exact c0)]
    exact tail _
theorem t_box {g : Int} {h : HH} : Po (fun v h' => v = .ref h.length ∧ Bx h.length 0 h') (R__law_box [.int g] h) := by
  simp [R__law_box, m__law_box]
  exact ⟨_, _, _, _, by simp; exact ⟨rfl, rfl, rfl, rfl⟩, Int.emod_nonneg _ (by omega), by omega, by omega, by omega⟩
theorem ints_cut (ns : List Int) (lo hi : Option Int) : ∃ l, intsW (cutW (wI ns) lo hi) = some l := by
  refine ⟨(ns.drop (HT.sIx (wI ns).length 0 lo)).take (HT.sIx (wI ns).length (wI ns).length hi - HT.sIx (wI ns).length 0 lo), ?_⟩
  rw [← ints_wI ((ns.drop _).take _)]
  simp [cutW, wI, List.map_take, List.map_drop]
theorem t_cell {ns : List Int} {k : Int} {h : HH} (k0 : 0 ≤ k) (k1 : k < 1000) : Po (fun v h' => ∃ g, v = .int g) (R__law_cell [.fl (wI ns), .int k] h) := by
  simp [R__law_cell, m__law_cell]
  by_cases c : k < ns.length
  · simp [c, atI_ints k0 c]
  · have m : mulOk 7919 k = true := by simp [mulOk]
    obtain ⟨l, e⟩ := ints_cut ns none (some 1)
    simp [c, m, e]
def EX1 : List Str := ["InvalidOctets", "InvalidCount", "InvalidNumber", "InvalidMask", "InvalidOp", "InvalidBlock", "InvalidPage", "InvalidShape", "InvalidImage", "InvalidData", "InvalidRecord", "InvalidPath", "InvalidDeed", "InvalidLine", "InvalidScript", "InvalidTree", "InvalidChip", "InvalidRecords", "InvalidName", "InvalidPlans", "PowerCut", "TooMany", "NoThing"]
/-- the attribute of a class -/
def fld (C : Str) : Str := if C = "PowerCut" then "op" else if C = "TooMany" then "count" else if C = "NoThing" then "name" else "given"
def ev (w : W) (C : Str) : W := .exv C [fld C] [w]
def evs (w : W) : List W := EX1.map (ev w)
theorem t_by_place {w : W} {h : HH} : Po (fun v h' => ∃ p, v = .ref p ∧ h'[p]? = some (.lst (evs w)) ∧ h.length ≤ p ∧ Sub h h') (R__law_by_place [w] h) := by
  simp [R__law_by_place, m__law_by_place]
  rfl
theorem t_by_name {w : W} {h : HH} : Po (fun v h' => ∃ p, v = .ref p ∧ h'[p]? = some (.lst (evs w)) ∧ h.length ≤ p ∧ Sub h h') (R__law_by_name [w] h) := by
  simp [R__law_by_name, m__law_by_name]
  rfl
end Q00
namespace Q00
open K00
open PySem D L2
theorem m_InvalidOctets : ("InvalidOctets" : Str) ∈ EXC := by decide +kernel
theorem f_InvalidOctets : (("InvalidOctets" : Str) = "FlashError") = False := by decide
theorem m_InvalidCount : ("InvalidCount" : Str) ∈ EXC := by decide +kernel
theorem f_InvalidCount : (("InvalidCount" : Str) = "FlashError") = False := by decide
theorem m_InvalidNumber : ("InvalidNumber" : Str) ∈ EXC := by decide +kernel
theorem f_InvalidNumber : (("InvalidNumber" : Str) = "FlashError") = False := by decide
theorem m_InvalidMask : ("InvalidMask" : Str) ∈ EXC := by decide +kernel
theorem f_InvalidMask : (("InvalidMask" : Str) = "FlashError") = False := by decide
theorem m_InvalidOp : ("InvalidOp" : Str) ∈ EXC := by decide +kernel
theorem f_InvalidOp : (("InvalidOp" : Str) = "FlashError") = False := by decide
theorem m_InvalidBlock : ("InvalidBlock" : Str) ∈ EXC := by decide +kernel
theorem f_InvalidBlock : (("InvalidBlock" : Str) = "FlashError") = False := by decide
theorem m_InvalidPage : ("InvalidPage" : Str) ∈ EXC := by decide +kernel
theorem f_InvalidPage : (("InvalidPage" : Str) = "FlashError") = False := by decide
theorem m_InvalidShape : ("InvalidShape" : Str) ∈ EXC := by decide +kernel
theorem f_InvalidShape : (("InvalidShape" : Str) = "FlashError") = False := by decide
theorem m_InvalidImage : ("InvalidImage" : Str) ∈ EXC := by decide +kernel
theorem f_InvalidImage : (("InvalidImage" : Str) = "FlashError") = False := by decide
theorem m_InvalidData : ("InvalidData" : Str) ∈ EXC := by decide +kernel
theorem f_InvalidData : (("InvalidData" : Str) = "FlashError") = False := by decide
theorem m_InvalidRecord : ("InvalidRecord" : Str) ∈ EXC := by decide +kernel
theorem f_InvalidRecord : (("InvalidRecord" : Str) = "FlashError") = False := by decide
theorem m_InvalidPath : ("InvalidPath" : Str) ∈ EXC := by decide +kernel
theorem f_InvalidPath : (("InvalidPath" : Str) = "FlashError") = False := by decide
theorem m_InvalidDeed : ("InvalidDeed" : Str) ∈ EXC := by decide +kernel
theorem f_InvalidDeed : (("InvalidDeed" : Str) = "FlashError") = False := by decide
theorem m_InvalidLine : ("InvalidLine" : Str) ∈ EXC := by decide +kernel
theorem f_InvalidLine : (("InvalidLine" : Str) = "FlashError") = False := by decide
theorem m_InvalidScript : ("InvalidScript" : Str) ∈ EXC := by decide +kernel
theorem f_InvalidScript : (("InvalidScript" : Str) = "FlashError") = False := by decide
theorem m_InvalidTree : ("InvalidTree" : Str) ∈ EXC := by decide +kernel
theorem f_InvalidTree : (("InvalidTree" : Str) = "FlashError") = False := by decide
theorem m_InvalidChip : ("InvalidChip" : Str) ∈ EXC := by decide +kernel
theorem f_InvalidChip : (("InvalidChip" : Str) = "FlashError") = False := by decide
theorem m_InvalidRecords : ("InvalidRecords" : Str) ∈ EXC := by decide +kernel
theorem f_InvalidRecords : (("InvalidRecords" : Str) = "FlashError") = False := by decide
theorem m_InvalidName : ("InvalidName" : Str) ∈ EXC := by decide +kernel
theorem f_InvalidName : (("InvalidName" : Str) = "FlashError") = False := by decide
theorem m_InvalidPlans : ("InvalidPlans" : Str) ∈ EXC := by decide +kernel
theorem f_InvalidPlans : (("InvalidPlans" : Str) = "FlashError") = False := by decide
theorem m_PowerCut : ("PowerCut" : Str) ∈ EXC := by decide +kernel
theorem f_PowerCut : (("PowerCut" : Str) = "FlashError") = False := by decide
theorem m_TooMany : ("TooMany" : Str) ∈ EXC := by decide +kernel
theorem f_TooMany : (("TooMany" : Str) = "FlashError") = False := by decide
theorem m_NoThing : ("NoThing" : Str) ∈ EXC := by decide +kernel
theorem f_NoThing : (("NoThing" : Str) = "FlashError") = False := by decide
theorem m_NotReady : ("NotReady" : Str) ∈ EXC := by decide +kernel
theorem f_NotReady : (("NotReady" : Str) = "FlashError") = False := by decide
theorem m_NoRoom : ("NoRoom" : Str) ∈ EXC := by decide +kernel
theorem f_NoRoom : (("NoRoom" : Str) = "FlashError") = False := by decide
theorem m_NothingToUndo : ("NothingToUndo" : Str) ∈ EXC := by decide +kernel
theorem f_NothingToUndo : (("NothingToUndo" : Str) = "FlashError") = False := by decide
section
variable {C : Str} {ns : List Str} {ws : List W} {h : HH}
theorem isV {D' : Str} (hC : C ∈ EXC) (hD : D' ∈ EXC) (nD : (D' = "FlashError") = False) : gIsV EXC "FlashError" [.exv C ns ws, .gl D'] h = .ok (.bl (decide (C = D'))) h := by
  show (if C ∈ EXC ∧ D' ∈ ("FlashError" : Str) :: EXC then Rs.ok (W.bl (decide (C = D') || decide (D' = "FlashError"))) h else .bad) = _
  rw [if_pos ⟨hC, List.mem_cons_of_mem _ hD⟩]
  simp [nD]
theorem isB (hC : C ∈ EXC) : gIsV EXC "FlashError" [.exv C ns ws, .gl "FlashError"] h = .ok (.bl true) h := by
  show (if C ∈ EXC ∧ ("FlashError" : Str) ∈ ("FlashError" : Str) :: EXC then Rs.ok (W.bl (decide (C = "FlashError") || decide (("FlashError" : Str) = "FlashError"))) h else .bad) = _
  rw [if_pos ⟨hC, List.mem_cons_self ..⟩]
  simp
theorem isE (hC : C ∈ EXC) : gIsV EXC "FlashError" [.exv C ns ws, .ty "ValueError"] h = .ok (.bl true) h := by
  show (if C ∈ EXC ∧ ("ValueError" : String) = "ValueError" then Rs.ok (W.bl true) h else .bad) = _
  rw [if_pos ⟨hC, rfl⟩]
def sorts (C : Str) : List W := EXC.map fun D' => .bl (decide (C = D'))
theorem t_sorts (hC : C ∈ EXC) : Po (fun v h' => ∃ p, v = .ref p ∧ h'[p]? = some (.lst (sorts C)) ∧ Sub h h') (R__law_sorts [.exv C ns ws] h) := by
  simp [R__law_sorts, m__law_sorts, isV hC, m_InvalidOctets, f_InvalidOctets, m_InvalidCount, f_InvalidCount, m_InvalidNumber, f_InvalidNumber, m_InvalidMask, f_InvalidMask, m_InvalidOp, f_InvalidOp, m_InvalidBlock, f_InvalidBlock, m_InvalidPage, f_InvalidPage, m_InvalidShape, f_InvalidShape, m_InvalidImage, f_InvalidImage, m_InvalidData, f_InvalidData, m_InvalidRecord, f_InvalidRecord, m_InvalidPath, f_InvalidPath, m_InvalidDeed, f_InvalidDeed, m_InvalidLine, f_InvalidLine, m_InvalidScript, f_InvalidScript, m_InvalidTree, f_InvalidTree, m_InvalidChip, f_InvalidChip, m_InvalidRecords, f_InvalidRecords, m_InvalidName, f_InvalidName, m_InvalidPlans, f_InvalidPlans, m_PowerCut, f_PowerCut, m_TooMany, f_TooMany, m_NoThing, f_NoThing, m_NotReady, f_NotReady, m_NoRoom, f_NoRoom, m_NothingToUndo, f_NothingToUndo]
  simp [sorts, EXC]
/-- of the numbers below n those at which xs is true -/
theorem lc_flt {n g : Nat} {t : MT} {e : ME} {s : Sl} {h : HH} {k : Nat} (hk : k < n) (hn : n < 1000000) (tst : ∀ (j : Nat), j < n → t (s.set g (some (.int (j : Int)))) h = .ok (decide (j = k)) h) (val : e (s.set g (some (.int (k : Int)))) h = .ok (.int (k : Int)) h) :
    Po (fun ws h2 => ws = [.int (k : Int)] ∧ h2 = h) (loopC (fun _ => true) (gNm g) t e (rngW 0 n 1) [] s h) := by
  have key : ∀ (xs acc : List W), Rn n xs → acc = (if k < n - xs.length then [W.int (k : Int)] else []) → loopC (fun _ => true) (gNm g) t e xs acc s h = .ok [.int (k : Int)] h := by
    intro xs
    induction xs with
    | nil =>
      intro acc r e
      simp [hk] at e
      subst e
      rfl
    | cons x xs ih =>
      intro acc r ea
      obtain ⟨j, hj, rfl, l, r'⟩ := rn_cons r
      unfold loopC
      simp only [gNm, cut_ok, Rs.bind_ok, tst j hj]
      have e1 : n - (W.int (j : Int) :: xs).length = j := by simp; omega
      rw [e1] at ea
      by_cases c : j = k
      · subst c
        simp only [decide_true, if_true, val, Rs.bind_ok]
        subst ea
        simp
        exact ih _ r' (by rw [if_pos (by omega)])
      · simp only [c, decide_false, Bool.false_eq_true, if_false]
        refine ih _ r' ?_
        rw [ea]
        by_cases c2 : k < j
        · rw [if_pos c2, if_pos (by omega)]
        · rw [if_neg c2, if_neg (by omega)]
  rw [key _ _ rn_all (by simp [rngW])]
  exact ⟨rfl, rfl⟩
end
end Q00
namespace Q00
open K00
open PySem D L2
theorem exc_nd : EXC.Nodup := by decide +kernel
theorem exc_len : EXC.length = 26 := rfl
theorem sorts_len {C : Str} : (sorts C).length = 26 := rfl
theorem sorts_at {C : Str} {k j : Nat} (hk : EXC[k]? = some C) (hj : j < 26) : atI (sorts C) (j : Int) = some (.bl (decide (j = k))) := by
  have h1 : (sorts C)[j]? = some (.bl (decide (j = k))) := by
    unfold sorts
    rw [List.getElem?_map]
    have hj' : j < EXC.length := hj
    rw [List.getElem?_eq_getElem hj']
    show some (W.bl (decide (C = EXC[j]))) = _
    congr 2
    obtain ⟨hk', e⟩ := List.getElem?_eq_some_iff.mp hk
    rw [← e]
    by_cases c : j = k
    · subst c; simp
    · rw [decide_eq_false c, decide_eq_false]
      exact fun q => c ((List.getElem_inj exc_nd).mp q).symm
  have : (sorts C).length = 26 := rfl
  have hj2 : (j : Int) < 26 := by omega
  simp [atI, ixN, this, hj2]
  exact h1
theorem t_is {C : Str} {ns : List Str} {ws : List W} {h : HH} {k : Nat} (hk : EXC[k]? = some C) : Po (fun v h' => v = .bl true ∧ Sub h h') (R__law_is [.exv C ns ws, .int (k : Int)] h) := by
  have hC : C ∈ EXC := List.mem_of_getElem? hk
  have k26 : k < 26 := (List.getElem?_eq_some_iff.mp hk).1
  simp [R__law_is, m__law_is]
  refine (t_sorts hC).mono ?_
  rintro _ h1 ⟨p, rfl, hp, s1⟩
  simp [isB hC, isE hC, hp, sorts_len]
  refine (lc_flt (k := k) k26 (by decide) (fun j hj => ?_) ?_).mono ?_
  · simp [hp, sorts_at hk hj]
  · simp
  rintro _ h2 ⟨rfl, rfl⟩
  rw [eq_refs (ns := [(k : Int)]) (ms := [(k : Int)]) (by simp [wI]) (by simp [wI])]
  simp
  exact s1.more
/-- of its classes, what an attribute holds -/
def given3 (C : Str) : Bool := decide (C ∈ XF_given)
theorem kept_cases : ∀ C ∈ EX1, (C = "PowerCut" ∨ C = "TooMany" ∨ C = "NoThing") ∨ (C ∈ XF_given ∧ C ≠ "PowerCut" ∧ C ≠ "TooMany" ∧ C ≠ "NoThing") := by decide +kernel
theorem ex1_exc : ∀ C ∈ EX1, C ∈ EXC := by decide +kernel
theorem fld_PowerCut : fld "PowerCut" = "op" := by decide
theorem fld_TooMany : fld "TooMany" = "count" := by decide
theorem fld_NoThing : fld "NoThing" = "name" := by decide
theorem n12 : (("TooMany" : Str) = "PowerCut") = False := by decide
theorem n31 : (("NoThing" : Str) = "PowerCut") = False := by decide
theorem n32 : (("NoThing" : Str) = "TooMany") = False := by decide
theorem in_op : ("PowerCut" : Str) ∈ XF_op := by decide
theorem in_count : ("TooMany" : Str) ∈ XF_count := by decide
theorem in_name : ("NoThing" : Str) ∈ XF_name := by decide
theorem t_kept {C : Str} {w : W} {h : HH} (hC : C ∈ EX1) : R__law_kept [ev w C] h = .ok w h := by
  have hE := ex1_exc C hC
  rcases kept_cases C hC with (rfl | rfl | rfl) | ⟨h0, h1, h2, h3⟩
  · simp [R__law_kept, m__law_kept, ev, fld_PowerCut, isV hE, m_PowerCut, f_PowerCut, in_op]
  · simp [R__law_kept, m__law_kept, ev, fld_TooMany, isV hE, m_PowerCut, f_PowerCut, m_TooMany, f_TooMany, n12, in_count]
  · simp [R__law_kept, m__law_kept, ev, fld_NoThing, isV hE, m_PowerCut, f_PowerCut, m_TooMany, f_TooMany, m_NoThing, f_NoThing, n31, n32, in_name]
  · have e : fld C = "given" := by unfold fld; rw [if_neg h1, if_neg h2, if_neg h3]
    simp [R__law_kept, m__law_kept, ev, e, isV hE, m_PowerCut, f_PowerCut, m_TooMany, f_TooMany, m_NoThing, f_NoThing, h1, h2, h3, h0]
end Q00
namespace Q00
open K00
open PySem D L2
theorem hid0 {l : Sl} : isHid (none :: l) 0 = true := rfl
section
variable {C : Str} {fs : List (Str × W)} {h : HH}
theorem t_sortsX (hC : C ∈ EXC) : Po (fun v h' => ∃ p, v = .ref p ∧ h'[p]? = some (.lst (sorts C)) ∧ Sub h h') (RX__law_sorts C fs [] h) := by
  simp [RX__law_sorts, mX__law_sorts, hC, isHid, m_InvalidOctets, f_InvalidOctets, m_InvalidCount, f_InvalidCount, m_InvalidNumber, f_InvalidNumber, m_InvalidMask, f_InvalidMask, m_InvalidOp, f_InvalidOp, m_InvalidBlock, f_InvalidBlock, m_InvalidPage, f_InvalidPage, m_InvalidShape, f_InvalidShape, m_InvalidImage, f_InvalidImage, m_InvalidData, f_InvalidData, m_InvalidRecord, f_InvalidRecord, m_InvalidPath, f_InvalidPath, m_InvalidDeed, f_InvalidDeed, m_InvalidLine, f_InvalidLine, m_InvalidScript, f_InvalidScript, m_InvalidTree, f_InvalidTree, m_InvalidChip, f_InvalidChip, m_InvalidRecords, f_InvalidRecords, m_InvalidName, f_InvalidName, m_InvalidPlans, f_InvalidPlans, m_PowerCut, f_PowerCut, m_TooMany, f_TooMany, m_NoThing, f_NoThing, m_NotReady, f_NotReady, m_NoRoom, f_NoRoom, m_NothingToUndo, f_NothingToUndo]
  simp [sorts, EXC]
theorem t_isX {k : Nat} (hk : EXC[k]? = some C) : Po (fun v h' => v = .bl true ∧ Sub h h') (RX__law_is C fs [.int (k : Int)] h) := by
  have hC : C ∈ EXC := List.mem_of_getElem? hk
  have k26 : k < 26 := (List.getElem?_eq_some_iff.mp hk).1
  simp [RX__law_is, mX__law_is, isHid]
  refine (t_sortsX hC).mono ?_
  rintro _ h1 ⟨p, rfl, hp, s1⟩
  simp [isHid, hC, hp, sorts_len]
  refine (lc_flt (k := k) k26 (by decide) (fun j hj => ?_) ?_).mono ?_
  · simp [hp, sorts_at hk hj]
  · simp
  rintro _ h2 ⟨rfl, rfl⟩
  rw [eq_refs (ns := [(k : Int)]) (ms := [(k : Int)]) (by simp [wI]) (by simp [wI])]
  simp
  exact s1.more
theorem t_keptX {w : W} (hC : C ∈ EX1) : RX__law_kept C [(fld C, w)] [] h = .ok w h := by
  have hE := ex1_exc C hC
  rcases kept_cases C hC with (rfl | rfl | rfl) | ⟨h0, h1, h2, h3⟩
  · simp [RX__law_kept, mX__law_kept, fld_PowerCut, hE, isHid, m_PowerCut, f_PowerCut, in_op]
  · simp [RX__law_kept, mX__law_kept, fld_TooMany, hE, isHid, m_PowerCut, f_PowerCut, m_TooMany, f_TooMany, n12, in_count]
  · simp [RX__law_kept, mX__law_kept, fld_NoThing, hE, isHid, m_PowerCut, f_PowerCut, m_TooMany, f_TooMany, m_NoThing, f_NoThing, n31, n32, in_name]
  · have e : fld C = "given" := by unfold fld; rw [if_neg h1, if_neg h2, if_neg h3]
    simp [RX__law_kept, mX__law_kept, e, hE, isHid, m_PowerCut, f_PowerCut, m_TooMany, f_TooMany, m_NoThing, f_NoThing, h1, h2, h3, h0]
end
/-! ### the things -/
/-- a value that repr writes, whatever becomes of the box -/
def Th (b : Nat) (h : HH) (w : W) : Prop := ∃ d, shR d = true ∧ ∀ h', SubX b h h' → datR h' fuelD w = some d
theorem Th.sub {b : Nat} {h h1 : HH} {w : W} (t : Th b h w) (s : SubX b h h1) : Th b h1 w := by
  obtain ⟨d, e1, e2⟩ := t
  exact ⟨d, e1, fun h' s' => e2 h' (s.trans s')⟩
theorem Th.rep {b : Nat} {h : HH} {w : W} (t : Th b h w) : ∃ x, ∀ h', SubX b h h' → gReprD [w] h' = .ok (.str x) h' := by
  obtain ⟨d, e1, e2⟩ := t
  exact ⟨d.shown, fun h' s => by rw [gReprD_one, e2 h' s]; simp [e1]⟩
def Tg (b : Nat) (n : Int) (h : HH) (v : W) (h' : HH) : Prop := Th b h' v ∧ Bx b (n + 1) h' ∧ SubX b h h'
theorem tail_at {h l : HH} (k : Nat) : (h ++ l)[h.length + k]? = l[k]? := by
  rw [List.getElem?_append_right (by omega)]
  congr 1
  omega
theorem po_pick {p : Nat} {h : HH} {xs : List W} {i : Int} {w : W} {Q : W → HH → Prop} (e : h[p]? = some (.lst xs)) (a : atI xs i = some w) (q : Q w h) : Po Q (gIx (.ref p) (.int i) h) := by
  simp [e, a]
  exact q
theorem t_thing {b : Nat} {n : Int} {h : HH} (x : Bx b n h) (hn : n ≤ 999999990) : Po (Tg b n h) (R__law_thing [.ref b] h) := by
  have hb := x.lt
  simp [R__law_thing, m__law_thing, gDict1]
  refine (t_take (n := n) (x.sub .app) (by omega) (by decide) (by decide)).mono ?_
  rintro _ h2 ⟨d, rfl, d0, d1, x2, s2⟩
  have out : ∀ {h' : HH}, SubX b h2 h' → ∀ (i : Nat) (o : O), h.length ≤ i → h2[i]? = some o → h'[i]? = some o := fun s i o l e => s.2 i o (by omega) e
  have e0 : h2[h.length]? = some (.lst []) := s2.2 _ _ (by omega) (tail_at 0)
  have e1 : h2[h.length + 1]? = some (.lst [.int 1, .str "a"]) := s2.2 _ _ (by omega) (tail_at 1)
  have e2 : h2[h.length + 1 + 1]? = some (.dK []) := s2.2 _ _ (by omega) (tail_at 2)
  have e3 : h2[h.length + 1 + 1 + 1]? = some (.lst [.int 3]) := s2.2 _ _ (by omega) (tail_at 3)
  have e5 : h2[h.length + 1 + 1 + 1 + 1 + 1]? = some (.dK [(.inr "a", .ref (h.length + 1 + 1 + 1))]) := s2.2 _ _ (by omega) (tail_at 5)
  have s3 : SubX b h h2 := (Sub.app : Sub h (h ++ _)).x.trans s2
  have pick : ∀ (k : Nat) (w : W) (e : PyData), shR e = true → (∀ h', SubX b h2 h' → datR h' fuelD w = some e) → Tg b n h w h2 := fun k w e a c => ⟨⟨e, a, c⟩, x2, s3⟩
  have em := s2.2 _ _ (by omega) (tail_at (h := h) 6)
  have em2 : h2[h.length + 1 + 1 + 1 + 1 + 1 + 1]? = some (.lst [.non, .bl true, .bl false, .int 0, .int 7, .str "", .str "path", .ref h.length, .ref (h.length + 1), .tup [], .tup [.int 1, .bl true], .ref (h.length + 1 + 1), .ref (h.length + 1 + 1 + 1 + 2), .int (-100000000000000000000000000000)]) := em
  have c : d = 0 ∨ d = 1 ∨ d = 2 ∨ d = 3 ∨ d = 4 ∨ d = 5 ∨ d = 6 ∨ d = 7 ∨ d = 8 ∨ d = 9 ∨ d = 10 ∨ d = 11 ∨ d = 12 ∨ d = 13 := by omega
  rcases c with rfl | rfl | rfl | rfl | rfl | rfl | rfl | rfl | rfl | rfl | rfl | rfl | rfl | rfl
  · refine po_pick em2 rfl (pick 0 _ (.none) (by decide +kernel) fun h' s => ?_)
    simp [datR, fuelD, optAll, keyD]
  · refine po_pick em2 rfl (pick 1 _ (.bool true) (by decide +kernel) fun h' s => ?_)
    simp [datR, fuelD, optAll, keyD]
  · refine po_pick em2 rfl (pick 2 _ (.bool false) (by decide +kernel) fun h' s => ?_)
    simp [datR, fuelD, optAll, keyD]
  · refine po_pick em2 rfl (pick 3 _ (.int 0) (by decide +kernel) fun h' s => ?_)
    simp [datR, fuelD, optAll, keyD]
  · refine po_pick em2 rfl (pick 4 _ (.int 7) (by decide +kernel) fun h' s => ?_)
    simp [datR, fuelD, optAll, keyD]
  · refine po_pick em2 rfl (pick 5 _ (.str "") (by decide +kernel) fun h' s => ?_)
    simp [datR, fuelD, optAll, keyD]
  · refine po_pick em2 rfl (pick 6 _ (.str "path") (by decide +kernel) fun h' s => ?_)
    simp [datR, fuelD, optAll, keyD]
  · refine po_pick em2 rfl (pick 7 _ (.list []) (by decide +kernel) fun h' s => ?_)
    simp [datR, fuelD, optAll, keyD, out s _ _ (by omega) e0]
  · refine po_pick em2 rfl (pick 8 _ (.list [.int 1, .str "a"]) (by decide +kernel) fun h' s => ?_)
    simp [datR, fuelD, optAll, keyD, out s _ _ (by omega) e1]
  · refine po_pick em2 rfl (pick 9 _ (.tuple []) (by decide +kernel) fun h' s => ?_)
    simp [datR, fuelD, optAll, keyD]
  · refine po_pick em2 rfl (pick 10 _ (.tuple [.int 1, .bool true]) (by decide +kernel) fun h' s => ?_)
    simp [datR, fuelD, optAll, keyD]
  · refine po_pick em2 rfl (pick 11 _ (.dict []) (by decide +kernel) fun h' s => ?_)
    simp [datR, fuelD, optAll, keyD, out s _ _ (by omega) e2]
  · refine po_pick em2 rfl (pick 12 _ (.dict [(.str "a", .list [.int 3])]) (by decide +kernel) fun h' s => ?_)
    simp [datR, fuelD, optAll, keyD, out s _ _ (by omega) e5, out s _ _ (by omega) e3]
  · refine po_pick em2 rfl (pick 13 _ (.int (-100000000000000000000000000000)) (by decide +kernel) fun h' s => ?_)
    simp [datR, fuelD, optAll, keyD]
end Q00
namespace Q00
open K00
open PySem D L2
theorem ex1_at : ∀ j : Nat, j < 23 → ∃ C, EX1[j]? = some C ∧ EXC[j]? = some C ∧ C ∈ EX1 := by
  intro j hj
  have l : j < EX1.length := hj
  have a : EX1[j]? = some EX1[j] := List.getElem?_eq_getElem l
  have p : EXC = EX1 ++ (["NotReady", "NoRoom", "NothingToUndo"] : List Str) := rfl
  exact ⟨EX1[j], a, by rw [p, List.getElem?_append_left l]; exact a, List.getElem_mem l⟩
theorem evs_at {w : W} {j : Nat} {C : Str} (e : EX1[j]? = some C) (hj : j < 23) : atI (evs w) (j : Int) = some (ev w C) := by
  have l : (evs w).length = 23 := rfl
  have h2 : (j : Int) < 23 := by omega
  have a : (evs w)[j]? = some (ev w C) := by unfold evs; rw [List.getElem?_map, e]; rfl
  simp [atI, ixN, l, h2]
  exact a
/-- the slots of _law_all_right -/
def Sl7 (b : Nat) (w1 w2 : W) (L : Nat) (s : Sl) : Prop := ∃ x y z, s = [some (.ref b), some w1, some w2, some (.ref L), x, y, z]
theorem t_all_right {b : Nat} {n : Int} {h : HH} (x : Bx b n h) (hn : n ≤ 999999980) : Po (fun v h' => v = .bl true ∧ Bx b (n + 2) h' ∧ SubX b h h') (R__law_all_right [.ref b] h) := by
  simp [R__law_all_right, m__law_all_right]
  refine (t_thing x (by omega)).mono ?_
  rintro w1 h1 ⟨t1, x1, s1⟩
  refine (t_thing x1 (by omega)).mono ?_
  rintro w2 h2 ⟨t2, x2, s2⟩
  refine t_by_place.mono ?_
  rintro _ h3 ⟨p3, rfl, e3, l3, s3⟩
  refine t_by_name.mono ?_
  rintro _ h4 ⟨p4, rfl, e4, l4, s4⟩
  refine t_by_name.mono ?_
  rintro _ h5 ⟨p5, rfl, e5, l5, s5⟩
  refine t_by_place.mono ?_
  rintro _ h6 ⟨p6, rfl, e6, l6, s6⟩
  obtain ⟨H, hH⟩ : ∃ H, h6 ++ [O.lst [W.ref p3, W.ref p4, W.ref p5, W.ref p6]] = H := ⟨_, rfl⟩
  obtain ⟨L, hL⟩ : ∃ L, h6.length = L := ⟨_, rfl⟩
  have u : Sub h2 h6 := s3.trans (s4.trans (s5.trans s6))
  have uH : Sub h6 H := by rw [← hH]; exact .app
  have eL : H[L]? = some (.lst [.ref p3, .ref p4, .ref p5, .ref p6]) := by rw [← hH, ← hL]; simp
  have f3 := uH _ _ (s6 _ _ (s5 _ _ (s4 _ _ e3)))
  have f4 := uH _ _ (s6 _ _ (s5 _ _ e4))
  have f5 := uH _ _ (s6 _ _ e5)
  have f6 := uH _ _ e6
  have T1 : Th b H w1 := t1.sub (s2.trans (u.trans uH).x)
  have T2 : Th b H w2 := t2.sub (u.trans uH).x
  have bx : Bx b (n + 2) H := (x2.sub (u.trans uH)).le (by omega)
  have sx : SubX b h H := s1.trans (s2.trans (u.trans uH).x)
  rw [hH, hL]
  have key : ∀ i : Nat, i < 4 → ∃ p w, atI [W.ref p3, W.ref p4, W.ref p5, W.ref p6] (i : Int) = some (.ref p) ∧ H[p]? = some (.lst (evs w)) ∧ atI [w1, w2] ((i : Int) % 2) = some w ∧ Th b H w := by
    intro i hi
    have c : i = 0 ∨ i = 1 ∨ i = 2 ∨ i = 3 := by omega
    rcases c with rfl | rfl | rfl | rfl
    · exact ⟨p3, w1, rfl, f3, rfl, T1⟩
    · exact ⟨p4, w2, rfl, f4, rfl, T2⟩
    · exact ⟨p5, w1, rfl, f5, rfl, T1⟩
    · exact ⟨p6, w2, rfl, f6, rfl, T2⟩
  refine po_rng (n := 4) (fun _ s h' => Sl7 b w1 w2 L s ∧ Sub H h') ?_ ?_ _ _ ⟨⟨_, _, _, rfl⟩, .refl⟩
  · rintro i s g hi ⟨⟨x', y', z', rfl⟩, ug⟩
    obtain ⟨p, w, k1, k2, k3, T⟩ := key i hi
    obtain ⟨q, q1, q2⟩ := T
    simp
    refine po_rng (n := 23) (fun _ s h' => (∃ y z, s = [some (.ref b), some w1, some w2, some (.ref L), some (.int (i : Int)), y, z]) ∧ Sub H h') ?_ ?_ _ _ ⟨⟨_, _, rfl⟩, ug⟩
    · rintro j s g2 hj ⟨⟨y2, z2, rfl⟩, ug2⟩
      obtain ⟨C, c1, c2, c3⟩ := ex1_at j hj
      simp [ug2 _ _ eL, k1, ug2 _ _ k2, evs_at c1 hj]
      refine (t_is (k := j) c2).mono ?_
      rintro _ g3 ⟨rfl, ug3⟩
      have v3 := ug2.trans ug3
      simp [t_kept c3, q1, q2 _ v3.x, k3, q2 _ (v3.trans (Sub.app : Sub g3 (g3 ++ [.lst [w1, w2]]))).x]
      exact v3.more
    · rintro s g2 ⟨⟨y2, z2, rfl⟩, ug2⟩
      simp
      exact ⟨⟨_, _, _, rfl⟩, ug2⟩
  · rintro s g ⟨⟨x', y', z', rfl⟩, ug⟩
    simp
    exact ⟨bx.sub ug, sx.trans ug.x⟩
end Q00
namespace Q00
open K00
open PySem D L2
section
variable {w : W} {h : HH}
theorem z0 : R__law_raised [.int 0, w] h = .exc "InvalidMask" [("given", w)] [some (.int 0), some w] h := by simp [R__law_raised, m__law_raised]
theorem z1 : R__law_raised [.int 1, w] h = .exc "PowerCut" [("op", w)] [some (.int 1), some w] h := by simp [R__law_raised, m__law_raised]
theorem z2 : R__law_raised [.int 2, w] h = .exc "InvalidTree" [("given", w)] [some (.int 2), some w] h := by simp [R__law_raised, m__law_raised]
theorem z3 : R__law_raised [.int 3, w] h = .exc "NoRoom" [] [some (.int 3), some w] h := by simp [R__law_raised, m__law_raised]
theorem z4 : R__law_raised [.int 4, w] h = .exc "InvalidRecords" [("given", w)] [some (.int 4), some w] h := by simp [R__law_raised, m__law_raised]
theorem z5 : R__law_raised [.int 5, w] h = .exc "NoThing" [("name", w)] [some (.int 5), some w] h := by simp [R__law_raised, m__law_raised]
end
theorem tryR2 {b : MS} {s s1 : Sl} {h h1 : HH} {C : Str} {fs : List (Str × W)} {ds1 ds2 : List Str} {m1 m2 : Str → List (Str × W) → MS} (e : b s h = .exc C fs s1 h1) (hC : C ∈ EXC) (n : C ∉ ds1) (y : C ∈ ds2) : sTryR EXC b [(ds1, m1), (ds2, m2)] s h = endN none (m2 C fs s1 h1) := by
  unfold sTryR
  rw [e]
  simp only [goR, if_pos hC, if_neg n, if_pos y]
theorem eq_dat {h : HH} {x y : W} {d : PyData} (e1 : datE h x = some d) (e2 : datE h y = some d) (r : PyData.eqv d d = true) (n1 : ∀ i, x ≠ .int i) (n2 : ∀ i, x ≠ .str i) : gEq x y h = .ok (.bl true) h := by
  unfold gEq
  split
  · exact absurd rfl (n1 _)
  · exact absurd rfl (n2 _)
  · rw [e1, e2]
    simp [r]
theorem t_caught {b : Nat} {n : Int} {h : HH} {w : W} (x : Bx b n h) (hn : n ≤ 999999980) (T : Th b h w) : Po (fun v h' => v = .bl true ∧ Bx b (n + 1) h' ∧ SubX b h h') (R__law_caught [.ref b, w] h) := by
  simp [R__law_caught, m__law_caught]
  refine (t_take (n := n) x (by omega) (by decide) (by decide)).mono ?_
  rintro _ h1 ⟨d, rfl, d0, d1, x1, s1⟩
  obtain ⟨k, spot, C, fs, rfl, hz, hs, ha, hin, hout, hkept⟩ : ∃ (k spot : Nat) (C : Str) (fs : List (Str × W)), d = (k : Int) ∧ (∀ g, R__law_raised [.int (k : Int), w] g = .exc C fs [some (.int (k : Int)), some w] g) ∧ EXC[spot]? = some C ∧
      atI [W.int 3, .int 20, .int 15, .int 24, .int 17, .int 22] (k : Int) = some (.int (spot : Int)) ∧ C ∈ (["InvalidMask", "PowerCut", "InvalidTree", "NoRoom", "InvalidRecords", "NoThing"] : List Str) ∧
      C ∉ (["InvalidNumber", "InvalidOp", "InvalidChip", "NotReady", "InvalidRecord", "InvalidName", "TooMany", "NothingToUndo"] : List Str) ∧ ((k : Int) = 3 ∨ ((k : Int) ≠ 3 ∧ C ∈ EX1 ∧ fs = [(fld C, w)])) := by
    have c : d = 0 ∨ d = 1 ∨ d = 2 ∨ d = 3 ∨ d = 4 ∨ d = 5 := by omega
    rcases c with rfl | rfl | rfl | rfl | rfl | rfl
    · exact ⟨0, 3, _, _, rfl, fun _ => z0, rfl, rfl, by decide, by decide, .inr ⟨by decide, by decide, rfl⟩⟩
    · exact ⟨1, 20, _, _, rfl, fun _ => z1, rfl, rfl, by decide, by decide, .inr ⟨by decide, by decide, rfl⟩⟩
    · exact ⟨2, 15, _, _, rfl, fun _ => z2, rfl, rfl, by decide, by decide, .inr ⟨by decide, by decide, rfl⟩⟩
    · exact ⟨3, 24, _, _, rfl, fun _ => z3, rfl, rfl, by decide, by decide, .inl rfl⟩
    · exact ⟨4, 17, _, _, rfl, fun _ => z4, rfl, rfl, by decide, by decide, .inr ⟨by decide, by decide, rfl⟩⟩
    · exact ⟨5, 22, _, _, rfl, fun _ => z5, rfl, rfl, by decide, by decide, .inr ⟨by decide, by decide, rfl⟩⟩
  have hC : C ∈ EXC := List.mem_of_getElem? hs
  refine po_try ?_
  simp [hz]
  rw [goH_yes (by simp [isX, hC])]
  simp [isHid, ha]
  refine (t_isX (k := spot) hs).mono ?_
  rintro _ g1 ⟨rfl, u1⟩
  have e1 : g1[h1.length]? = some (.lst []) := u1 _ _ (by simp)
  have v1 : Sub h1 g1 := (Sub.app : Sub h1 (h1 ++ _)).trans u1
  obtain ⟨q, q1, q2⟩ := T
  have lb : b < h1.length := x1.lt
  have l1 : h1.length < g1.length := hlt e1
  have qd := q2 g1 (s1.trans v1.x)
  have fin : Po (seqQ (fun s h' => s = [some (W.ref b), some w, some (W.int (k : Int)), some (W.ref h1.length), none] ∧ h' = g1.set h1.length (.lst [.bl true, .bl true])) (fun _ _ => False)) (sTryR EXC (sExp (mCall R__law_raised (mCons (mVar 2) (mCons (mVar 1) mNil)))) H__law_caught_4 [some (W.ref b), some w, some (W.int (k : Int)), some (W.ref h1.length), none] (g1.set h1.length (.lst [.bl true]))) := by
    unfold H__law_caught_4 H__law_caught_3 H__law_caught_2
    rw [tryR2 (C := C) (fs := fs) (s1 := [some (W.ref b), some w, some (W.int (k : Int)), some (W.ref h1.length), none]) (h1 := g1.set h1.length (.lst [.bl true])) (by simp [hz]) hC hout hin]
    simp [l1]
  obtain ⟨⟨f, s'⟩, h', eT, pT⟩ := fin.out
  cases f with
  | nx =>
    obtain ⟨rfl, rfl⟩ := pT
    simp at eT
    have last : gEq (.ref h1.length) (.ref g1.length) (g1.set h1.length (.lst [.bl true, .bl true]) ++ [.lst [.bl true, .bl true]]) = .ok (.bl true) (g1.set h1.length (.lst [.bl true, .bl true]) ++ [.lst [.bl true, .bl true]]) := by
      refine eq_dat (d := .list [.bool true, .bool true]) ?_ ?_ (by decide +kernel) (by simp) (by simp)
      · simp [datE, datW, fuelD, optAll, l1, List.getElem?_append_left]
        decide +kernel
      · simp [datE, datW, fuelD, optAll]
        decide +kernel
    have hx : Bx b (n + 1) (g1.set h1.length (.lst [.bl true, .bl true]) ++ [.lst [.bl true, .bl true]]) := by
      obtain ⟨g, k', r, c, e, rest⟩ := x1.sub v1
      refine ⟨g, k', r, c, ?_, rest⟩
      rw [List.getElem?_append_left (by simp; omega), List.getElem?_set_ne (by omega)]
      exact e
    have sx : SubX b h (g1.set h1.length (.lst [.bl true, .bl true]) ++ [.lst [.bl true, .bl true]]) := ((s1.trans v1.x).put s1.1).more
    rcases hkept with c | ⟨c, c1, rfl⟩
    · rw [c] at eT
      simp [c, e1, eT, last, hx, sx]
    · simp [c, t_keptX c1, qd, q1, e1, eT, last, hx, sx]
  | ret => exact pT.elim
  | brk => exact pT.elim
  | cnt => exact pT.elim
end Q00
namespace Q00
open K00
open PySem D L2
/-- none of them passes -/
theorem lc_none {chk : HH → Bool} {g : Nat} {t : MT} {e : ME} {s : Sl} : ∀ {xs : List W} {h : HH}, (∀ h', Sub h h' → chk h' = true) → (∀ x ∈ xs, ∀ h1, Sub h h1 → Po (fun v h2 => v = false ∧ Sub h1 h2) (t (s.set g (some x)) h1)) →
    Po (fun ws h2 => ws = [] ∧ Sub h h2) (loopC chk (gNm g) t e xs [] s h)
  | [], h, _, _ => ⟨rfl, .refl⟩
  | x :: xs, h, ck, st => by
    obtain ⟨v, h2, e1, rfl, u⟩ := (st x (List.mem_cons_self ..) h .refl).out
    unfold loopC
    simp [e1, ck _ u]
    exact (lc_none (fun h' u' => ck h' (u.trans u')) fun y hy h1 u' => st y (List.mem_cons_of_mem _ hy) h1 (u.trans u')).mono fun ws h3 z => ⟨z.1, u.trans z.2⟩
theorem ne_dat {h : HH} {x y : W} {d : PyData} (e1 : datE h x = some d) (e2 : datE h y = some d) (r : PyData.eqv d d = true) (n1 : ∀ i, x ≠ .int i) (n2 : ∀ i, x ≠ .str i) : gNe x y h = .ok (.bl false) h := by
  unfold gNe
  split
  · exact absurd rfl (n1 _)
  · exact absurd rfl (n2 _)
  · rw [e1, e2]
    simp [r]
theorem dat1 {h : HH} {p : Nat} (e : h[p]? = some (.lst [.int 1, .str "more"])) : datE h (.ref p) = some (.list [.int 1, .str "more"]) := by
  simp [datE, datW, fuelD, optAll, e]
  decide +kernel
theorem dat0 {h : HH} {p : Nat} (e : h[p]? = some (.lst [])) : datE h (.ref p) = some (.list []) := by
  simp [datE, datW, fuelD, optAll, e]
  decide +kernel
theorem dat2 {h : HH} {p : Nat} (e : h[p]? = some (.lst [.int 1, .int 2])) : datE h (.ref p) = some (.list [.int 1, .int 2]) := by
  simp [datE, datW, fuelD, optAll, e]
  decide +kernel
def V1 (L : Nat) (h0 : HH) (s : Sl) (g : HH) : Prop := s = [some (.ref L), none, none, none, none, none] ∧ g = h0
def V2 (L : Nat) (l : List W) (s : Sl) (g : HH) : Prop := ∃ p, s = [some (.ref L), some (.ref p), none, none, none, none] ∧ g[p]? = some (.lst (List.replicate 46 (.ref L))) ∧ p ≠ L ∧ g[L]? = some (.lst l)
def V5 (M : Nat) (l : List W) (s : Sl) (g : HH) : Prop := (∃ x y, s = [x, y, some (.ref M), none, none, none]) ∧ g[M]? = some (.lst l)
def V6 (M : Nat) (l : List W) (s : Sl) (g : HH) : Prop := (∃ x y, s = [x, y, some (.ref M), some (.exv "TooMany" ["count"] [.exv "InvalidChip" ["given"] [.exv "NoThing" ["name"] [.ref M]]]), none, none]) ∧ g[M]? = some (.lst l)
theorem in_chip : ("InvalidChip" : Str) ∈ XF_given := by decide
theorem t_very_right {h : HH} : Po (fun v h' => v = .bl true) (R__law_very_right [] h) := by
  obtain ⟨L, hL⟩ : ∃ L, h.length = L := ⟨_, rfl⟩
  obtain ⟨h0, hh⟩ : ∃ h0, h ++ [.lst [.int 1]] = h0 := ⟨_, rfl⟩
  have eL : h0[L]? = some (.lst [.int 1]) := by rw [← hh, ← hL]; simp
  simp only [R__law_very_right, runB, po_outS]
  unfold m__law_very_right
  refine po_seq (V1 L h0) (by simp [V1, hL, hh]) ?_
  rintro s g ⟨hs, hg⟩
  subst hs; subst hg
  refine po_seq (V2 L [.int 1]) ?_ ?_
  · simp
    refine t_by_place.mono ?_
    rintro _ h1 ⟨p1, rfl, e1, l1, s1⟩
    refine t_by_name.mono ?_
    rintro _ h2 ⟨p2, rfl, e2, l2, s2⟩
    have e1' := s2 _ _ e1
    have eL2 := s2 _ _ (s1 _ _ eL)
    have len : (evs (.ref L)).length = 23 := rfl
    simp [e1', e2, len, srcW]
    refine ⟨stayL_of (by simp), ?_⟩
    have hL2 : L < h2.length := hlt eL2
    refine (lc_all (P := fun _ w _ => w = .ref L) (fun z _ => z) (by simp [len]) (fun h' u => stayL_of (u _ _ (by simp))) (fun j x g1 ex u => ?_)).mono ?_
    · have mem : x ∈ evs (.ref L) := by
        rcases List.mem_append.mp (List.mem_of_getElem? ex) with q | q <;> exact q
      unfold evs at mem
      obtain ⟨C, hC, rfl⟩ := List.mem_map.mp mem
      simp [t_kept hC]
    · rintro ws g1 ⟨lw, hw, u⟩
      have hw' : ws = List.replicate 46 (.ref L) := List.eq_replicate_iff.mpr ⟨by simpa [len] using lw, fun w hm => by
        obtain ⟨j, hj⟩ := List.mem_iff_getElem?.mp hm
        exact hw j w hj⟩
      subst hw'
      have hg : L < g1.length := Nat.lt_of_lt_of_le hL2 (Nat.le_trans (by simp) u.len)
      refine ⟨_, rfl, by simp, by omega, ?_⟩
      rw [List.getElem?_append_left hg]
      exact u _ _ (by rw [List.getElem?_append_left hL2]; exact eL2)
  rintro s g ⟨p, hs, ep, np, el⟩
  subst hs
  have pl := hlt ep
  have ll := hlt el
  refine po_seq (V2 L [.int 1, .str "more"]) ?_ ?_
  · simp [el]
    refine ⟨p, rfl, ?_, np, by simp [ll]⟩
    rw [List.getElem?_set_ne (Ne.symm np)]
    exact ep
  rintro s g ⟨p, hs, ep, np, el⟩
  subst hs
  refine po_seq (fun s _ => ∃ x y, s = [x, y, none, none, none, none]) ?_ ?_
  · simp [ep, srcW]
    refine ⟨stayL_of ep, ?_⟩
    refine (lc_none (fun h' u => stayL_of (u _ _ ep)) (fun x hx g1 u => ?_)).mono ?_
    · have ex : x = .ref L := List.eq_of_mem_replicate (show x ∈ List.replicate 46 (W.ref L) from hx)
      subst ex
      have e := u _ _ el
      have lg := hlt e
      have n1 : gNe (.ref L) (.ref g1.length) (g1 ++ [.lst [.int 1, .str "more"]]) = .ok (.bl false) (g1 ++ [.lst [.int 1, .str "more"]]) :=
        ne_dat (dat1 (by rw [List.getElem?_append_left lg]; exact e)) (dat1 (by simp)) (by decide +kernel) (by simp) (by simp)
      simp [n1]
    · rintro _ g1 ⟨rfl, u⟩
      have n1 : gNe (.ref g1.length) (.ref (g1.length + 1)) (g1 ++ [.lst [], .lst []]) = .ok (.bl false) (g1 ++ [.lst [], .lst []]) :=
        ne_dat (dat0 (by simp)) (dat0 (by simp)) (by decide +kernel) (by simp) (by simp)
      simp [n1]
  rintro s g ⟨x, y, hs⟩
  subst hs
  refine po_seq (V5 g.length [.int 1]) ?_ ?_
  · simp
    exact ⟨⟨_, _, rfl⟩, by simp⟩
  rintro s g2 ⟨⟨x, y, hs⟩, e⟩
  subst hs
  obtain ⟨M, hM⟩ : ∃ M, g.length = M := ⟨_, rfl⟩
  rw [hM] at e ⊢
  refine po_seq (V6 M [.int 1]) ?_ ?_
  · simp
    exact ⟨⟨_, _, rfl⟩, e⟩
  rintro s g3 ⟨⟨x, y, hs⟩, e⟩
  subst hs
  have lM := hlt e
  refine po_seq (V6 M [.int 1, .int 2]) ?_ ?_
  · simp [e]
    exact ⟨⟨_, _, rfl⟩, by simp [lM]⟩
  rintro s g4 ⟨⟨x, y, hs⟩, e⟩
  subst hs
  have lM := hlt e
  have e1 : gEq (.ref M) (.ref g4.length) (g4 ++ [.lst [.int 1, .int 2]]) = .ok (.bl true) (g4 ++ [.lst [.int 1, .int 2]]) :=
    eq_dat (dat2 (by rw [List.getElem?_append_left lM]; exact e)) (dat2 (by simp)) (by decide +kernel) (by simp) (by simp)
  simp [in_count, in_chip, in_name, isV m_InvalidChip m_InvalidChip f_InvalidChip, e1]
end Q00
namespace Q00
open K00
open PySem D L2
theorem bare_at : ∀ j : Nat, j < 3 → ∃ C, atI [W.exv "NotReady" [] [], .exv "NoRoom" [] [], .exv "NothingToUndo" [] []] (j : Int) = some (.exv C [] []) ∧ EXC[23 + j]? = some C := by
  intro j hj
  have c : j = 0 ∨ j = 1 ∨ j = 2 := by omega
  rcases c with rfl | rfl | rfl
  · exact ⟨_, rfl, rfl⟩
  · exact ⟨_, rfl, rfl⟩
  · exact ⟨_, rfl, rfl⟩
/-- the slots of law -/
def Sl4 (ns : List Int) (L : Nat) (s : Sl) (g : HH) : Prop := (∃ x y, s = [some (.fl (wI ns)), some (.ref L), x, y]) ∧ g[L]? = some (.lst [.exv "NotReady" [] [], .exv "NoRoom" [] [], .exv "NothingToUndo" [] []])
theorem law_true (ns : List Int) : Po (fun v h' => v = .bl true) (R_law [.fl (wI ns)] []) := by
  simp only [R_law, runB, po_outS]
  unfold m_law
  refine po_seq (Sl4 ns 0) ?_ ?_
  · simp
    exact ⟨⟨_, _, rfl⟩, rfl⟩
  rintro s g ⟨⟨x, y, hs⟩, e⟩
  subst hs
  refine po_seq (Sl4 ns 0) ?_ ?_
  · simp
    refine (lc_none (fun _ _ => rfl) (fun x hx g1 u => ?_)).mono ?_
    · obtain ⟨j, hj⟩ := List.mem_iff_getElem?.mp hx
      obtain ⟨hj3, rfl⟩ := rngW_get hj
      obtain ⟨C, c1, c2⟩ := bare_at j hj3
      have q : (23 : Int) + (j : Int) = ((23 + j : Nat) : Int) := by omega
      simp [u _ _ e, c1]
      rw [q]
      refine (t_is c2).mono ?_
      rintro _ g2 ⟨rfl, u2⟩
      simp [u2]
    · rintro _ g1 ⟨rfl, u⟩
      have n1 : gNe (.ref g1.length) (.ref (g1.length + 1)) (g1 ++ [.lst [], .lst []]) = .ok (.bl false) (g1 ++ [.lst [], .lst []]) :=
        ne_dat (dat0 (by simp)) (dat0 (by simp)) (by decide +kernel) (by simp) (by simp)
      simp [n1]
      exact ⟨⟨_, _, rfl⟩, (u.more) _ _ e⟩
  rintro s g ⟨⟨x, y, hs⟩, e⟩
  subst hs
  refine po_seq (fun s _ => ∃ x y z, s = [some (.fl (wI ns)), x, y, z]) ?_ ?_
  · obtain ⟨N, hN, N0, N1⟩ : ∃ N : Int, (mCallG gMax (mCons (mC (.int 2)) (mCons (mCallG gMin (mCons (mC (.int 4)) (mCons (mCallG gLen (mCons (mVar 0) mNil)) mNil))) mNil))) [some (.fl (wI ns)), some (.ref 0), x, y] g = .ok (.int N) g ∧ 0 ≤ N ∧ N < 1000 := by
      simp [wI]
      refine ⟨?_, ?_⟩ <;> (repeat' split) <;> omega
    have er := rng1 (q := mCons (mCallG gMax (mCons (mC (.int 2)) (mCons (mCallG gMin (mCons (mC (.int 4)) (mCons (mCallG gLen (mCons (mVar 0) mNil)) mNil))) mNil))) mNil) (s := [some (.fl (wI ns)), some (.ref 0), x, y]) (h := g) (h1 := g) (n := N) (by simp only [mCons, mNil, hN, Rs.bind_ok]) N0 (by omega)
    rw [sFor_rng er]
    refine po_rng (fun i s h' => ∃ x y z, s = [some (.fl (wI ns)), x, y, z]) ?_ (fun s h' z => z) _ _ ⟨_, _, _, rfl⟩
    rintro i s h1 hi ⟨x1, y1, z1, hs⟩
    subst hs
    obtain ⟨I, hI⟩ : ∃ I : Int, (i : Int) = I := ⟨_, rfl⟩
    rw [hI]
    simp
    refine (t_cell (ns := ns) (k := I) (by omega) (by omega)).mono ?_
    rintro _ h2 ⟨g, rfl⟩
    refine t_box.mono ?_
    rintro _ h3 ⟨rfl, x3⟩
    refine (t_all_right x3 (by decide)).mono ?_
    rintro _ h4 ⟨rfl, x4, s4⟩
    simp
    refine (t_thing x4 (by decide)).mono ?_
    rintro w h5 ⟨t5, x5, s5⟩
    refine (t_caught x5 (by decide) t5).mono ?_
    rintro _ h6 ⟨rfl, x6, s6⟩
    simp
  rintro s g ⟨x, y, z, hs⟩
  subst hs
  simp
  refine t_very_right.mono ?_
  rintro _ g2 rfl
  have m1 : ("InvalidRecord" : Str) ∈ XF_given := by decide
  simp [m1, isV m_NoRoom m_NoRoom f_NoRoom]
end Q00
namespace K00
open PySem D L2
theorem law_true (ns : List Int) (_ : ns.length ≤ 63) (_ : ∀ i ∈ ns, Builtin.Int.intBits i ≤ 1048576) : ∃ h', R_law [.fl (ns.map W.int)] [] = .ok (.bl true) h' := by
  obtain ⟨v, h', e, rfl⟩ := (Q00.law_true ns).out
  exact ⟨h', e⟩
end K00
/-! printed by gen.py: the derivations -/
namespace K00
open PySem PySem.Spec PyProof.Rows
open L2 hiding XE Takes CX ps_raise mk_of pmk_own passAt takes_of passes_call MkP PMk ps_try_as ps_try_many
open L2N hiding St
open D
abbrev s__law_cell : Stmt := topOf PySem.Challenge.pw_onewaybits_k00_errors 29
abbrev s__law_box : Stmt := topOf PySem.Challenge.pw_onewaybits_k00_errors 30
abbrev s__law_take : Stmt := topOf PySem.Challenge.pw_onewaybits_k00_errors 31
abbrev s__law_by_place : Stmt := topOf PySem.Challenge.pw_onewaybits_k00_errors 32
abbrev s__law_by_name : Stmt := topOf PySem.Challenge.pw_onewaybits_k00_errors 33
abbrev s__law_sorts : Stmt := topOf PySem.Challenge.pw_onewaybits_k00_errors 34
abbrev s__law_is : Stmt := topOf PySem.Challenge.pw_onewaybits_k00_errors 35
abbrev s__law_kept : Stmt := topOf PySem.Challenge.pw_onewaybits_k00_errors 36
abbrev s__law_thing : Stmt := topOf PySem.Challenge.pw_onewaybits_k00_errors 37
abbrev s__law_all_right : Stmt := topOf PySem.Challenge.pw_onewaybits_k00_errors 38
abbrev s__law_raised : Stmt := topOf PySem.Challenge.pw_onewaybits_k00_errors 39
abbrev s__law_caught : Stmt := topOf PySem.Challenge.pw_onewaybits_k00_errors 40
abbrev s__law_very_right : Stmt := topOf PySem.Challenge.pw_onewaybits_k00_errors 41
abbrev s_law : Stmt := topOf PySem.Challenge.pw_onewaybits_k00_errors 42
abbrev si_NotReady : Stmt := inClass (topOf PySem.Challenge.pw_onewaybits_k00_errors 25) 0
abbrev si_NoRoom : Stmt := inClass (topOf PySem.Challenge.pw_onewaybits_k00_errors 26) 0
abbrev si_NothingToUndo : Stmt := inClass (topOf PySem.Challenge.pw_onewaybits_k00_errors 27) 0
abbrev si_InvalidOctets : Stmt := inClass (topOf PySem.Challenge.pw_onewaybits_k00_errors 2) 0
abbrev si_InvalidCount : Stmt := inClass (topOf PySem.Challenge.pw_onewaybits_k00_errors 3) 0
abbrev si_InvalidNumber : Stmt := inClass (topOf PySem.Challenge.pw_onewaybits_k00_errors 4) 0
abbrev si_InvalidMask : Stmt := inClass (topOf PySem.Challenge.pw_onewaybits_k00_errors 5) 0
abbrev si_InvalidOp : Stmt := inClass (topOf PySem.Challenge.pw_onewaybits_k00_errors 6) 0
abbrev si_InvalidBlock : Stmt := inClass (topOf PySem.Challenge.pw_onewaybits_k00_errors 7) 0
abbrev si_InvalidPage : Stmt := inClass (topOf PySem.Challenge.pw_onewaybits_k00_errors 8) 0
abbrev si_InvalidShape : Stmt := inClass (topOf PySem.Challenge.pw_onewaybits_k00_errors 9) 0
abbrev si_InvalidImage : Stmt := inClass (topOf PySem.Challenge.pw_onewaybits_k00_errors 10) 0
abbrev si_InvalidData : Stmt := inClass (topOf PySem.Challenge.pw_onewaybits_k00_errors 11) 0
abbrev si_InvalidRecord : Stmt := inClass (topOf PySem.Challenge.pw_onewaybits_k00_errors 12) 0
abbrev si_InvalidPath : Stmt := inClass (topOf PySem.Challenge.pw_onewaybits_k00_errors 13) 0
abbrev si_InvalidDeed : Stmt := inClass (topOf PySem.Challenge.pw_onewaybits_k00_errors 14) 0
abbrev si_InvalidLine : Stmt := inClass (topOf PySem.Challenge.pw_onewaybits_k00_errors 15) 0
abbrev si_InvalidScript : Stmt := inClass (topOf PySem.Challenge.pw_onewaybits_k00_errors 16) 0
abbrev si_InvalidTree : Stmt := inClass (topOf PySem.Challenge.pw_onewaybits_k00_errors 17) 0
abbrev si_InvalidChip : Stmt := inClass (topOf PySem.Challenge.pw_onewaybits_k00_errors 18) 0
abbrev si_InvalidRecords : Stmt := inClass (topOf PySem.Challenge.pw_onewaybits_k00_errors 19) 0
abbrev si_InvalidName : Stmt := inClass (topOf PySem.Challenge.pw_onewaybits_k00_errors 20) 0
abbrev si_InvalidPlans : Stmt := inClass (topOf PySem.Challenge.pw_onewaybits_k00_errors 21) 0
abbrev si_PowerCut : Stmt := inClass (topOf PySem.Challenge.pw_onewaybits_k00_errors 22) 0
abbrev si_TooMany : Stmt := inClass (topOf PySem.Challenge.pw_onewaybits_k00_errors 23) 0
abbrev si_NoThing : Stmt := inClass (topOf PySem.Challenge.pw_onewaybits_k00_errors 24) 0
structure Txt (K : PySem.W.Frag) (mg : Str → Option Value) (base : Heap) where
  sy : ∃ mm, base.Ns sysModules mm
  nd : base.NoDigits
  f__law_cell : Addr
  fd__law_cell : FuncData
  F__law_cell : Fun K "_law_cell" "_law_cell" s__law_cell f__law_cell fd__law_cell
  g__law_cell : mg "_law_cell" = some (.ref f__law_cell)
  f__law_box : Addr
  fd__law_box : FuncData
  F__law_box : Fun K "_law_box" "_law_box" s__law_box f__law_box fd__law_box
  g__law_box : mg "_law_box" = some (.ref f__law_box)
  f__law_take : Addr
  fd__law_take : FuncData
  F__law_take : Fun K "_law_take" "_law_take" s__law_take f__law_take fd__law_take
  g__law_take : mg "_law_take" = some (.ref f__law_take)
  f__law_by_place : Addr
  fd__law_by_place : FuncData
  F__law_by_place : Fun K "_law_by_place" "_law_by_place" s__law_by_place f__law_by_place fd__law_by_place
  g__law_by_place : mg "_law_by_place" = some (.ref f__law_by_place)
  f__law_by_name : Addr
  fd__law_by_name : FuncData
  F__law_by_name : Fun K "_law_by_name" "_law_by_name" s__law_by_name f__law_by_name fd__law_by_name
  g__law_by_name : mg "_law_by_name" = some (.ref f__law_by_name)
  f__law_sorts : Addr
  fd__law_sorts : FuncData
  F__law_sorts : Fun K "_law_sorts" "_law_sorts" s__law_sorts f__law_sorts fd__law_sorts
  g__law_sorts : mg "_law_sorts" = some (.ref f__law_sorts)
  f__law_is : Addr
  fd__law_is : FuncData
  F__law_is : Fun K "_law_is" "_law_is" s__law_is f__law_is fd__law_is
  g__law_is : mg "_law_is" = some (.ref f__law_is)
  f__law_kept : Addr
  fd__law_kept : FuncData
  F__law_kept : Fun K "_law_kept" "_law_kept" s__law_kept f__law_kept fd__law_kept
  g__law_kept : mg "_law_kept" = some (.ref f__law_kept)
  f__law_thing : Addr
  fd__law_thing : FuncData
  F__law_thing : Fun K "_law_thing" "_law_thing" s__law_thing f__law_thing fd__law_thing
  g__law_thing : mg "_law_thing" = some (.ref f__law_thing)
  f__law_all_right : Addr
  fd__law_all_right : FuncData
  F__law_all_right : Fun K "_law_all_right" "_law_all_right" s__law_all_right f__law_all_right fd__law_all_right
  g__law_all_right : mg "_law_all_right" = some (.ref f__law_all_right)
  f__law_raised : Addr
  fd__law_raised : FuncData
  F__law_raised : Fun K "_law_raised" "_law_raised" s__law_raised f__law_raised fd__law_raised
  g__law_raised : mg "_law_raised" = some (.ref f__law_raised)
  f__law_caught : Addr
  fd__law_caught : FuncData
  F__law_caught : Fun K "_law_caught" "_law_caught" s__law_caught f__law_caught fd__law_caught
  g__law_caught : mg "_law_caught" = some (.ref f__law_caught)
  f__law_very_right : Addr
  fd__law_very_right : FuncData
  F__law_very_right : Fun K "_law_very_right" "_law_very_right" s__law_very_right f__law_very_right fd__law_very_right
  g__law_very_right : mg "_law_very_right" = some (.ref f__law_very_right)
  f_law : Addr
  fd_law : FuncData
  F_law : Fun K "law" "law" s_law f_law fd_law
  g_law : mg "law" = some (.ref f_law)
  cg_InvalidOctets : mg "InvalidOctets" = some (.ref (cAt K "InvalidOctets"))
  cg_InvalidCount : mg "InvalidCount" = some (.ref (cAt K "InvalidCount"))
  cg_InvalidNumber : mg "InvalidNumber" = some (.ref (cAt K "InvalidNumber"))
  cg_InvalidMask : mg "InvalidMask" = some (.ref (cAt K "InvalidMask"))
  cg_InvalidOp : mg "InvalidOp" = some (.ref (cAt K "InvalidOp"))
  cg_InvalidBlock : mg "InvalidBlock" = some (.ref (cAt K "InvalidBlock"))
  cg_InvalidPage : mg "InvalidPage" = some (.ref (cAt K "InvalidPage"))
  cg_InvalidShape : mg "InvalidShape" = some (.ref (cAt K "InvalidShape"))
  cg_InvalidImage : mg "InvalidImage" = some (.ref (cAt K "InvalidImage"))
  cg_InvalidData : mg "InvalidData" = some (.ref (cAt K "InvalidData"))
  cg_InvalidRecord : mg "InvalidRecord" = some (.ref (cAt K "InvalidRecord"))
  cg_InvalidPath : mg "InvalidPath" = some (.ref (cAt K "InvalidPath"))
  cg_InvalidDeed : mg "InvalidDeed" = some (.ref (cAt K "InvalidDeed"))
  cg_InvalidLine : mg "InvalidLine" = some (.ref (cAt K "InvalidLine"))
  cg_InvalidScript : mg "InvalidScript" = some (.ref (cAt K "InvalidScript"))
  cg_InvalidTree : mg "InvalidTree" = some (.ref (cAt K "InvalidTree"))
  cg_InvalidChip : mg "InvalidChip" = some (.ref (cAt K "InvalidChip"))
  cg_InvalidRecords : mg "InvalidRecords" = some (.ref (cAt K "InvalidRecords"))
  cg_InvalidName : mg "InvalidName" = some (.ref (cAt K "InvalidName"))
  cg_InvalidPlans : mg "InvalidPlans" = some (.ref (cAt K "InvalidPlans"))
  cg_PowerCut : mg "PowerCut" = some (.ref (cAt K "PowerCut"))
  cg_TooMany : mg "TooMany" = some (.ref (cAt K "TooMany"))
  cg_NoThing : mg "NoThing" = some (.ref (cAt K "NoThing"))
  ci_InvalidOctets : Addr
  cfd_InvalidOctets : FuncData
  cT_InvalidOctets : OexC K (cAt K "InvalidOctets")
  cn_InvalidOctets : PySem.W.findIn K (.ref (cAt K "InvalidOctets")) "given" = some none
  cI_InvalidOctets : PySem.W.findIn K (.ref (cAt K "InvalidOctets")) "__init__" = some (some (.ref ci_InvalidOctets))
  ct_InvalidOctets : PySem.W.typeIn K (.ref ci_InvalidOctets) = some (.type "function")
  cF_InvalidOctets : Fun K "__init__" "InvalidOctets.__init__" si_InvalidOctets ci_InvalidOctets cfd_InvalidOctets
  ci_InvalidCount : Addr
  cfd_InvalidCount : FuncData
  cT_InvalidCount : OexC K (cAt K "InvalidCount")
  cn_InvalidCount : PySem.W.findIn K (.ref (cAt K "InvalidCount")) "given" = some none
  cI_InvalidCount : PySem.W.findIn K (.ref (cAt K "InvalidCount")) "__init__" = some (some (.ref ci_InvalidCount))
  ct_InvalidCount : PySem.W.typeIn K (.ref ci_InvalidCount) = some (.type "function")
  cF_InvalidCount : Fun K "__init__" "InvalidCount.__init__" si_InvalidCount ci_InvalidCount cfd_InvalidCount
  ci_InvalidNumber : Addr
  cfd_InvalidNumber : FuncData
  cT_InvalidNumber : OexC K (cAt K "InvalidNumber")
  cn_InvalidNumber : PySem.W.findIn K (.ref (cAt K "InvalidNumber")) "given" = some none
  cI_InvalidNumber : PySem.W.findIn K (.ref (cAt K "InvalidNumber")) "__init__" = some (some (.ref ci_InvalidNumber))
  ct_InvalidNumber : PySem.W.typeIn K (.ref ci_InvalidNumber) = some (.type "function")
  cF_InvalidNumber : Fun K "__init__" "InvalidNumber.__init__" si_InvalidNumber ci_InvalidNumber cfd_InvalidNumber
  ci_InvalidMask : Addr
  cfd_InvalidMask : FuncData
  cT_InvalidMask : OexC K (cAt K "InvalidMask")
  cn_InvalidMask : PySem.W.findIn K (.ref (cAt K "InvalidMask")) "given" = some none
  cI_InvalidMask : PySem.W.findIn K (.ref (cAt K "InvalidMask")) "__init__" = some (some (.ref ci_InvalidMask))
  ct_InvalidMask : PySem.W.typeIn K (.ref ci_InvalidMask) = some (.type "function")
  cF_InvalidMask : Fun K "__init__" "InvalidMask.__init__" si_InvalidMask ci_InvalidMask cfd_InvalidMask
  ci_InvalidOp : Addr
  cfd_InvalidOp : FuncData
  cT_InvalidOp : OexC K (cAt K "InvalidOp")
  cn_InvalidOp : PySem.W.findIn K (.ref (cAt K "InvalidOp")) "given" = some none
  cI_InvalidOp : PySem.W.findIn K (.ref (cAt K "InvalidOp")) "__init__" = some (some (.ref ci_InvalidOp))
  ct_InvalidOp : PySem.W.typeIn K (.ref ci_InvalidOp) = some (.type "function")
  cF_InvalidOp : Fun K "__init__" "InvalidOp.__init__" si_InvalidOp ci_InvalidOp cfd_InvalidOp
  ci_InvalidBlock : Addr
  cfd_InvalidBlock : FuncData
  cT_InvalidBlock : OexC K (cAt K "InvalidBlock")
  cn_InvalidBlock : PySem.W.findIn K (.ref (cAt K "InvalidBlock")) "given" = some none
  cI_InvalidBlock : PySem.W.findIn K (.ref (cAt K "InvalidBlock")) "__init__" = some (some (.ref ci_InvalidBlock))
  ct_InvalidBlock : PySem.W.typeIn K (.ref ci_InvalidBlock) = some (.type "function")
  cF_InvalidBlock : Fun K "__init__" "InvalidBlock.__init__" si_InvalidBlock ci_InvalidBlock cfd_InvalidBlock
  ci_InvalidPage : Addr
  cfd_InvalidPage : FuncData
  cT_InvalidPage : OexC K (cAt K "InvalidPage")
  cn_InvalidPage : PySem.W.findIn K (.ref (cAt K "InvalidPage")) "given" = some none
  cI_InvalidPage : PySem.W.findIn K (.ref (cAt K "InvalidPage")) "__init__" = some (some (.ref ci_InvalidPage))
  ct_InvalidPage : PySem.W.typeIn K (.ref ci_InvalidPage) = some (.type "function")
  cF_InvalidPage : Fun K "__init__" "InvalidPage.__init__" si_InvalidPage ci_InvalidPage cfd_InvalidPage
  ci_InvalidShape : Addr
  cfd_InvalidShape : FuncData
  cT_InvalidShape : OexC K (cAt K "InvalidShape")
  cn_InvalidShape : PySem.W.findIn K (.ref (cAt K "InvalidShape")) "given" = some none
  cI_InvalidShape : PySem.W.findIn K (.ref (cAt K "InvalidShape")) "__init__" = some (some (.ref ci_InvalidShape))
  ct_InvalidShape : PySem.W.typeIn K (.ref ci_InvalidShape) = some (.type "function")
  cF_InvalidShape : Fun K "__init__" "InvalidShape.__init__" si_InvalidShape ci_InvalidShape cfd_InvalidShape
  ci_InvalidImage : Addr
  cfd_InvalidImage : FuncData
  cT_InvalidImage : OexC K (cAt K "InvalidImage")
  cn_InvalidImage : PySem.W.findIn K (.ref (cAt K "InvalidImage")) "given" = some none
  cI_InvalidImage : PySem.W.findIn K (.ref (cAt K "InvalidImage")) "__init__" = some (some (.ref ci_InvalidImage))
  ct_InvalidImage : PySem.W.typeIn K (.ref ci_InvalidImage) = some (.type "function")
  cF_InvalidImage : Fun K "__init__" "InvalidImage.__init__" si_InvalidImage ci_InvalidImage cfd_InvalidImage
  ci_InvalidData : Addr
  cfd_InvalidData : FuncData
  cT_InvalidData : OexC K (cAt K "InvalidData")
  cn_InvalidData : PySem.W.findIn K (.ref (cAt K "InvalidData")) "given" = some none
  cI_InvalidData : PySem.W.findIn K (.ref (cAt K "InvalidData")) "__init__" = some (some (.ref ci_InvalidData))
  ct_InvalidData : PySem.W.typeIn K (.ref ci_InvalidData) = some (.type "function")
  cF_InvalidData : Fun K "__init__" "InvalidData.__init__" si_InvalidData ci_InvalidData cfd_InvalidData
  ci_InvalidRecord : Addr
  cfd_InvalidRecord : FuncData
  cT_InvalidRecord : OexC K (cAt K "InvalidRecord")
  cn_InvalidRecord : PySem.W.findIn K (.ref (cAt K "InvalidRecord")) "given" = some none
  cI_InvalidRecord : PySem.W.findIn K (.ref (cAt K "InvalidRecord")) "__init__" = some (some (.ref ci_InvalidRecord))
  ct_InvalidRecord : PySem.W.typeIn K (.ref ci_InvalidRecord) = some (.type "function")
  cF_InvalidRecord : Fun K "__init__" "InvalidRecord.__init__" si_InvalidRecord ci_InvalidRecord cfd_InvalidRecord
  ci_InvalidPath : Addr
  cfd_InvalidPath : FuncData
  cT_InvalidPath : OexC K (cAt K "InvalidPath")
  cn_InvalidPath : PySem.W.findIn K (.ref (cAt K "InvalidPath")) "given" = some none
  cI_InvalidPath : PySem.W.findIn K (.ref (cAt K "InvalidPath")) "__init__" = some (some (.ref ci_InvalidPath))
  ct_InvalidPath : PySem.W.typeIn K (.ref ci_InvalidPath) = some (.type "function")
  cF_InvalidPath : Fun K "__init__" "InvalidPath.__init__" si_InvalidPath ci_InvalidPath cfd_InvalidPath
  ci_InvalidDeed : Addr
  cfd_InvalidDeed : FuncData
  cT_InvalidDeed : OexC K (cAt K "InvalidDeed")
  cn_InvalidDeed : PySem.W.findIn K (.ref (cAt K "InvalidDeed")) "given" = some none
  cI_InvalidDeed : PySem.W.findIn K (.ref (cAt K "InvalidDeed")) "__init__" = some (some (.ref ci_InvalidDeed))
  ct_InvalidDeed : PySem.W.typeIn K (.ref ci_InvalidDeed) = some (.type "function")
  cF_InvalidDeed : Fun K "__init__" "InvalidDeed.__init__" si_InvalidDeed ci_InvalidDeed cfd_InvalidDeed
  ci_InvalidLine : Addr
  cfd_InvalidLine : FuncData
  cT_InvalidLine : OexC K (cAt K "InvalidLine")
  cn_InvalidLine : PySem.W.findIn K (.ref (cAt K "InvalidLine")) "given" = some none
  cI_InvalidLine : PySem.W.findIn K (.ref (cAt K "InvalidLine")) "__init__" = some (some (.ref ci_InvalidLine))
  ct_InvalidLine : PySem.W.typeIn K (.ref ci_InvalidLine) = some (.type "function")
  cF_InvalidLine : Fun K "__init__" "InvalidLine.__init__" si_InvalidLine ci_InvalidLine cfd_InvalidLine
  ci_InvalidScript : Addr
  cfd_InvalidScript : FuncData
  cT_InvalidScript : OexC K (cAt K "InvalidScript")
  cn_InvalidScript : PySem.W.findIn K (.ref (cAt K "InvalidScript")) "given" = some none
  cI_InvalidScript : PySem.W.findIn K (.ref (cAt K "InvalidScript")) "__init__" = some (some (.ref ci_InvalidScript))
  ct_InvalidScript : PySem.W.typeIn K (.ref ci_InvalidScript) = some (.type "function")
  cF_InvalidScript : Fun K "__init__" "InvalidScript.__init__" si_InvalidScript ci_InvalidScript cfd_InvalidScript
  ci_InvalidTree : Addr
  cfd_InvalidTree : FuncData
  cT_InvalidTree : OexC K (cAt K "InvalidTree")
  cn_InvalidTree : PySem.W.findIn K (.ref (cAt K "InvalidTree")) "given" = some none
  cI_InvalidTree : PySem.W.findIn K (.ref (cAt K "InvalidTree")) "__init__" = some (some (.ref ci_InvalidTree))
  ct_InvalidTree : PySem.W.typeIn K (.ref ci_InvalidTree) = some (.type "function")
  cF_InvalidTree : Fun K "__init__" "InvalidTree.__init__" si_InvalidTree ci_InvalidTree cfd_InvalidTree
  ci_InvalidChip : Addr
  cfd_InvalidChip : FuncData
  cT_InvalidChip : OexC K (cAt K "InvalidChip")
  cn_InvalidChip : PySem.W.findIn K (.ref (cAt K "InvalidChip")) "given" = some none
  cI_InvalidChip : PySem.W.findIn K (.ref (cAt K "InvalidChip")) "__init__" = some (some (.ref ci_InvalidChip))
  ct_InvalidChip : PySem.W.typeIn K (.ref ci_InvalidChip) = some (.type "function")
  cF_InvalidChip : Fun K "__init__" "InvalidChip.__init__" si_InvalidChip ci_InvalidChip cfd_InvalidChip
  ci_InvalidRecords : Addr
  cfd_InvalidRecords : FuncData
  cT_InvalidRecords : OexC K (cAt K "InvalidRecords")
  cn_InvalidRecords : PySem.W.findIn K (.ref (cAt K "InvalidRecords")) "given" = some none
  cI_InvalidRecords : PySem.W.findIn K (.ref (cAt K "InvalidRecords")) "__init__" = some (some (.ref ci_InvalidRecords))
  ct_InvalidRecords : PySem.W.typeIn K (.ref ci_InvalidRecords) = some (.type "function")
  cF_InvalidRecords : Fun K "__init__" "InvalidRecords.__init__" si_InvalidRecords ci_InvalidRecords cfd_InvalidRecords
  ci_InvalidName : Addr
  cfd_InvalidName : FuncData
  cT_InvalidName : OexC K (cAt K "InvalidName")
  cn_InvalidName : PySem.W.findIn K (.ref (cAt K "InvalidName")) "given" = some none
  cI_InvalidName : PySem.W.findIn K (.ref (cAt K "InvalidName")) "__init__" = some (some (.ref ci_InvalidName))
  ct_InvalidName : PySem.W.typeIn K (.ref ci_InvalidName) = some (.type "function")
  cF_InvalidName : Fun K "__init__" "InvalidName.__init__" si_InvalidName ci_InvalidName cfd_InvalidName
  ci_InvalidPlans : Addr
  cfd_InvalidPlans : FuncData
  cT_InvalidPlans : OexC K (cAt K "InvalidPlans")
  cn_InvalidPlans : PySem.W.findIn K (.ref (cAt K "InvalidPlans")) "given" = some none
  cI_InvalidPlans : PySem.W.findIn K (.ref (cAt K "InvalidPlans")) "__init__" = some (some (.ref ci_InvalidPlans))
  ct_InvalidPlans : PySem.W.typeIn K (.ref ci_InvalidPlans) = some (.type "function")
  cF_InvalidPlans : Fun K "__init__" "InvalidPlans.__init__" si_InvalidPlans ci_InvalidPlans cfd_InvalidPlans
  ci_PowerCut : Addr
  cfd_PowerCut : FuncData
  cT_PowerCut : OexC K (cAt K "PowerCut")
  cn_PowerCut : PySem.W.findIn K (.ref (cAt K "PowerCut")) "op" = some none
  cI_PowerCut : PySem.W.findIn K (.ref (cAt K "PowerCut")) "__init__" = some (some (.ref ci_PowerCut))
  ct_PowerCut : PySem.W.typeIn K (.ref ci_PowerCut) = some (.type "function")
  cF_PowerCut : Fun K "__init__" "PowerCut.__init__" si_PowerCut ci_PowerCut cfd_PowerCut
  ci_TooMany : Addr
  cfd_TooMany : FuncData
  cT_TooMany : OexC K (cAt K "TooMany")
  cn_TooMany : PySem.W.findIn K (.ref (cAt K "TooMany")) "count" = some none
  cI_TooMany : PySem.W.findIn K (.ref (cAt K "TooMany")) "__init__" = some (some (.ref ci_TooMany))
  ct_TooMany : PySem.W.typeIn K (.ref ci_TooMany) = some (.type "function")
  cF_TooMany : Fun K "__init__" "TooMany.__init__" si_TooMany ci_TooMany cfd_TooMany
  ci_NoThing : Addr
  cfd_NoThing : FuncData
  cT_NoThing : OexC K (cAt K "NoThing")
  cn_NoThing : PySem.W.findIn K (.ref (cAt K "NoThing")) "name" = some none
  cI_NoThing : PySem.W.findIn K (.ref (cAt K "NoThing")) "__init__" = some (some (.ref ci_NoThing))
  ct_NoThing : PySem.W.typeIn K (.ref ci_NoThing) = some (.type "function")
  cF_NoThing : Fun K "__init__" "NoThing.__init__" si_NoThing ci_NoThing cfd_NoThing
  cg_NotReady : mg "NotReady" = some (.ref (cAt K "NotReady"))
  ci_NotReady : Addr
  cfd_NotReady : FuncData
  cT_NotReady : OexC K (cAt K "NotReady")
  cI_NotReady : PySem.W.findIn K (.ref (cAt K "NotReady")) "__init__" = some (some (.ref ci_NotReady))
  ct_NotReady : PySem.W.typeIn K (.ref ci_NotReady) = some (.type "function")
  cF_NotReady : Fun K "__init__" "NotReady.__init__" si_NotReady ci_NotReady cfd_NotReady
  cg_NoRoom : mg "NoRoom" = some (.ref (cAt K "NoRoom"))
  ci_NoRoom : Addr
  cfd_NoRoom : FuncData
  cT_NoRoom : OexC K (cAt K "NoRoom")
  cI_NoRoom : PySem.W.findIn K (.ref (cAt K "NoRoom")) "__init__" = some (some (.ref ci_NoRoom))
  ct_NoRoom : PySem.W.typeIn K (.ref ci_NoRoom) = some (.type "function")
  cF_NoRoom : Fun K "__init__" "NoRoom.__init__" si_NoRoom ci_NoRoom cfd_NoRoom
  cg_NothingToUndo : mg "NothingToUndo" = some (.ref (cAt K "NothingToUndo"))
  ci_NothingToUndo : Addr
  cfd_NothingToUndo : FuncData
  cT_NothingToUndo : OexC K (cAt K "NothingToUndo")
  cI_NothingToUndo : PySem.W.findIn K (.ref (cAt K "NothingToUndo")) "__init__" = some (some (.ref ci_NothingToUndo))
  ct_NothingToUndo : PySem.W.typeIn K (.ref ci_NothingToUndo) = some (.type "function")
  cF_NothingToUndo : Fun K "__init__" "NothingToUndo.__init__" si_NothingToUndo ci_NothingToUndo cfd_NothingToUndo
  exi : ExI K EXC "FlashError"
  cg_FlashError : mg "FlashError" = some (.ref (cAt K "FlashError"))
  fg : mg "FlashError" = some (.ref (cAt K "FlashError"))
  fr : PySem.W.readsIn K (cAt K "FlashError") (.type "type") = true
  fa : PySem.W.specialIn K (.ref (cAt K "FlashError")) "__getattribute__" = some (some (.builtin "type.__getattribute__"))
  fv : PySem.W.findCls K (.ref (cAt K "FlashError")) (.type "type") "__init__" = some (.val (.builtin "ValueError.__init__"))
  n_ValueError : mg "ValueError" = none
  n_abs : mg "abs" = none
  n_dict : mg "dict" = none
  n_int : mg "int" = none
  n_isinstance : mg "isinstance" = none
  n_len : mg "len" = none
  n_max : mg "max" = none
  n_min : mg "min" = none
  n_range : mg "range" = none
  n_repr : mg "repr" = none
  n_sum : mg "sum" = none
section
variable {P : Program} {w : World} {K : PySem.W.Frag} {mg : Str → Option Value} {base : Heap}
theorem sci_InvalidOctets : FnScope ["self", "given"] ["self", "given"] (defScope si_InvalidOctets) := ⟨rfl, rfl, rfl, by decide +kernel, rfl, by decide +kernel, by decide +kernel⟩
theorem bi_InvalidOctets (T : Txt K mg base) : Binds K T.cfd_InvalidOctets ["self", "given"] [] := T.cF_InvalidOctets.binds fun _ _ _ _ _ _ us hl => match us, hl with | [_, _], _ => rfl
theorem i_InvalidOctets (T : Txt K mg base) : FnOk P w K mg base (L2N.CX P w) 1 T.ci_InvalidOctets T.cfd_InvalidOctets ["self", "given"] (spIni K (cAt K "InvalidOctets") "given") :=
  ini_ok (t := "no such octets") T.cF_InvalidOctets sci_InvalidOctets fun cdv A outer s H E => pss_cons (ps_expr (pe_feinit rfl T.fg T.fr T.fa T.fv (pa_cons (pe_var (i := 0) rfl (Or.inl rfl)) (pa_cons pe_str pa_nil)))) (pss_one (ps_ost (pe_var (i := 0) rfl (Or.inl rfl)) (pe_var (i := 1) rfl (Or.inl rfl))))
theorem x_InvalidOctets (T : Txt K mg base) : ExR P w K mg base "InvalidOctets" "given" := ⟨T.cg_InvalidOctets, T.cT_InvalidOctets, T.cn_InvalidOctets, T.ci_InvalidOctets, T.cfd_InvalidOctets, _, T.cI_InvalidOctets, T.ct_InvalidOctets, i_InvalidOctets T, bi_InvalidOctets T⟩
theorem sci_InvalidCount : FnScope ["self", "given"] ["self", "given"] (defScope si_InvalidCount) := ⟨rfl, rfl, rfl, by decide +kernel, rfl, by decide +kernel, by decide +kernel⟩
theorem bi_InvalidCount (T : Txt K mg base) : Binds K T.cfd_InvalidCount ["self", "given"] [] := T.cF_InvalidCount.binds fun _ _ _ _ _ _ us hl => match us, hl with | [_, _], _ => rfl
theorem i_InvalidCount (T : Txt K mg base) : FnOk P w K mg base (L2N.CX P w) 1 T.ci_InvalidCount T.cfd_InvalidCount ["self", "given"] (spIni K (cAt K "InvalidCount") "given") :=
  ini_ok (t := "no such count") T.cF_InvalidCount sci_InvalidCount fun cdv A outer s H E => pss_cons (ps_expr (pe_feinit rfl T.fg T.fr T.fa T.fv (pa_cons (pe_var (i := 0) rfl (Or.inl rfl)) (pa_cons pe_str pa_nil)))) (pss_one (ps_ost (pe_var (i := 0) rfl (Or.inl rfl)) (pe_var (i := 1) rfl (Or.inl rfl))))
theorem x_InvalidCount (T : Txt K mg base) : ExR P w K mg base "InvalidCount" "given" := ⟨T.cg_InvalidCount, T.cT_InvalidCount, T.cn_InvalidCount, T.ci_InvalidCount, T.cfd_InvalidCount, _, T.cI_InvalidCount, T.ct_InvalidCount, i_InvalidCount T, bi_InvalidCount T⟩
theorem sci_InvalidNumber : FnScope ["self", "given"] ["self", "given"] (defScope si_InvalidNumber) := ⟨rfl, rfl, rfl, by decide +kernel, rfl, by decide +kernel, by decide +kernel⟩
theorem bi_InvalidNumber (T : Txt K mg base) : Binds K T.cfd_InvalidNumber ["self", "given"] [] := T.cF_InvalidNumber.binds fun _ _ _ _ _ _ us hl => match us, hl with | [_, _], _ => rfl
theorem i_InvalidNumber (T : Txt K mg base) : FnOk P w K mg base (L2N.CX P w) 1 T.ci_InvalidNumber T.cfd_InvalidNumber ["self", "given"] (spIni K (cAt K "InvalidNumber") "given") :=
  ini_ok (t := "no such number") T.cF_InvalidNumber sci_InvalidNumber fun cdv A outer s H E => pss_cons (ps_expr (pe_feinit rfl T.fg T.fr T.fa T.fv (pa_cons (pe_var (i := 0) rfl (Or.inl rfl)) (pa_cons pe_str pa_nil)))) (pss_one (ps_ost (pe_var (i := 0) rfl (Or.inl rfl)) (pe_var (i := 1) rfl (Or.inl rfl))))
theorem x_InvalidNumber (T : Txt K mg base) : ExR P w K mg base "InvalidNumber" "given" := ⟨T.cg_InvalidNumber, T.cT_InvalidNumber, T.cn_InvalidNumber, T.ci_InvalidNumber, T.cfd_InvalidNumber, _, T.cI_InvalidNumber, T.ct_InvalidNumber, i_InvalidNumber T, bi_InvalidNumber T⟩
theorem sci_InvalidMask : FnScope ["self", "given"] ["self", "given"] (defScope si_InvalidMask) := ⟨rfl, rfl, rfl, by decide +kernel, rfl, by decide +kernel, by decide +kernel⟩
theorem bi_InvalidMask (T : Txt K mg base) : Binds K T.cfd_InvalidMask ["self", "given"] [] := T.cF_InvalidMask.binds fun _ _ _ _ _ _ us hl => match us, hl with | [_, _], _ => rfl
theorem i_InvalidMask (T : Txt K mg base) : FnOk P w K mg base (L2N.CX P w) 1 T.ci_InvalidMask T.cfd_InvalidMask ["self", "given"] (spIni K (cAt K "InvalidMask") "given") :=
  ini_ok (t := "no mask") T.cF_InvalidMask sci_InvalidMask fun cdv A outer s H E => pss_cons (ps_expr (pe_feinit rfl T.fg T.fr T.fa T.fv (pa_cons (pe_var (i := 0) rfl (Or.inl rfl)) (pa_cons pe_str pa_nil)))) (pss_one (ps_ost (pe_var (i := 0) rfl (Or.inl rfl)) (pe_var (i := 1) rfl (Or.inl rfl))))
theorem x_InvalidMask (T : Txt K mg base) : ExR P w K mg base "InvalidMask" "given" := ⟨T.cg_InvalidMask, T.cT_InvalidMask, T.cn_InvalidMask, T.ci_InvalidMask, T.cfd_InvalidMask, _, T.cI_InvalidMask, T.ct_InvalidMask, i_InvalidMask T, bi_InvalidMask T⟩
theorem sci_InvalidOp : FnScope ["self", "given"] ["self", "given"] (defScope si_InvalidOp) := ⟨rfl, rfl, rfl, by decide +kernel, rfl, by decide +kernel, by decide +kernel⟩
theorem bi_InvalidOp (T : Txt K mg base) : Binds K T.cfd_InvalidOp ["self", "given"] [] := T.cF_InvalidOp.binds fun _ _ _ _ _ _ us hl => match us, hl with | [_, _], _ => rfl
theorem i_InvalidOp (T : Txt K mg base) : FnOk P w K mg base (L2N.CX P w) 1 T.ci_InvalidOp T.cfd_InvalidOp ["self", "given"] (spIni K (cAt K "InvalidOp") "given") :=
  ini_ok (t := "no op") T.cF_InvalidOp sci_InvalidOp fun cdv A outer s H E => pss_cons (ps_expr (pe_feinit rfl T.fg T.fr T.fa T.fv (pa_cons (pe_var (i := 0) rfl (Or.inl rfl)) (pa_cons pe_str pa_nil)))) (pss_one (ps_ost (pe_var (i := 0) rfl (Or.inl rfl)) (pe_var (i := 1) rfl (Or.inl rfl))))
theorem x_InvalidOp (T : Txt K mg base) : ExR P w K mg base "InvalidOp" "given" := ⟨T.cg_InvalidOp, T.cT_InvalidOp, T.cn_InvalidOp, T.ci_InvalidOp, T.cfd_InvalidOp, _, T.cI_InvalidOp, T.ct_InvalidOp, i_InvalidOp T, bi_InvalidOp T⟩
theorem sci_InvalidBlock : FnScope ["self", "given"] ["self", "given"] (defScope si_InvalidBlock) := ⟨rfl, rfl, rfl, by decide +kernel, rfl, by decide +kernel, by decide +kernel⟩
theorem bi_InvalidBlock (T : Txt K mg base) : Binds K T.cfd_InvalidBlock ["self", "given"] [] := T.cF_InvalidBlock.binds fun _ _ _ _ _ _ us hl => match us, hl with | [_, _], _ => rfl
theorem i_InvalidBlock (T : Txt K mg base) : FnOk P w K mg base (L2N.CX P w) 1 T.ci_InvalidBlock T.cfd_InvalidBlock ["self", "given"] (spIni K (cAt K "InvalidBlock") "given") :=
  ini_ok (t := "no block of the chip") T.cF_InvalidBlock sci_InvalidBlock fun cdv A outer s H E => pss_cons (ps_expr (pe_feinit rfl T.fg T.fr T.fa T.fv (pa_cons (pe_var (i := 0) rfl (Or.inl rfl)) (pa_cons pe_str pa_nil)))) (pss_one (ps_ost (pe_var (i := 0) rfl (Or.inl rfl)) (pe_var (i := 1) rfl (Or.inl rfl))))
theorem x_InvalidBlock (T : Txt K mg base) : ExR P w K mg base "InvalidBlock" "given" := ⟨T.cg_InvalidBlock, T.cT_InvalidBlock, T.cn_InvalidBlock, T.ci_InvalidBlock, T.cfd_InvalidBlock, _, T.cI_InvalidBlock, T.ct_InvalidBlock, i_InvalidBlock T, bi_InvalidBlock T⟩
theorem sci_InvalidPage : FnScope ["self", "given"] ["self", "given"] (defScope si_InvalidPage) := ⟨rfl, rfl, rfl, by decide +kernel, rfl, by decide +kernel, by decide +kernel⟩
theorem bi_InvalidPage (T : Txt K mg base) : Binds K T.cfd_InvalidPage ["self", "given"] [] := T.cF_InvalidPage.binds fun _ _ _ _ _ _ us hl => match us, hl with | [_, _], _ => rfl
theorem i_InvalidPage (T : Txt K mg base) : FnOk P w K mg base (L2N.CX P w) 1 T.ci_InvalidPage T.cfd_InvalidPage ["self", "given"] (spIni K (cAt K "InvalidPage") "given") :=
  ini_ok (t := "no page of a block") T.cF_InvalidPage sci_InvalidPage fun cdv A outer s H E => pss_cons (ps_expr (pe_feinit rfl T.fg T.fr T.fa T.fv (pa_cons (pe_var (i := 0) rfl (Or.inl rfl)) (pa_cons pe_str pa_nil)))) (pss_one (ps_ost (pe_var (i := 0) rfl (Or.inl rfl)) (pe_var (i := 1) rfl (Or.inl rfl))))
theorem x_InvalidPage (T : Txt K mg base) : ExR P w K mg base "InvalidPage" "given" := ⟨T.cg_InvalidPage, T.cT_InvalidPage, T.cn_InvalidPage, T.ci_InvalidPage, T.cfd_InvalidPage, _, T.cI_InvalidPage, T.ct_InvalidPage, i_InvalidPage T, bi_InvalidPage T⟩
theorem sci_InvalidShape : FnScope ["self", "given"] ["self", "given"] (defScope si_InvalidShape) := ⟨rfl, rfl, rfl, by decide +kernel, rfl, by decide +kernel, by decide +kernel⟩
theorem bi_InvalidShape (T : Txt K mg base) : Binds K T.cfd_InvalidShape ["self", "given"] [] := T.cF_InvalidShape.binds fun _ _ _ _ _ _ us hl => match us, hl with | [_, _], _ => rfl
theorem i_InvalidShape (T : Txt K mg base) : FnOk P w K mg base (L2N.CX P w) 1 T.ci_InvalidShape T.cfd_InvalidShape ["self", "given"] (spIni K (cAt K "InvalidShape") "given") :=
  ini_ok (t := "no shape of a chip") T.cF_InvalidShape sci_InvalidShape fun cdv A outer s H E => pss_cons (ps_expr (pe_feinit rfl T.fg T.fr T.fa T.fv (pa_cons (pe_var (i := 0) rfl (Or.inl rfl)) (pa_cons pe_str pa_nil)))) (pss_one (ps_ost (pe_var (i := 0) rfl (Or.inl rfl)) (pe_var (i := 1) rfl (Or.inl rfl))))
theorem x_InvalidShape (T : Txt K mg base) : ExR P w K mg base "InvalidShape" "given" := ⟨T.cg_InvalidShape, T.cT_InvalidShape, T.cn_InvalidShape, T.ci_InvalidShape, T.cfd_InvalidShape, _, T.cI_InvalidShape, T.ct_InvalidShape, i_InvalidShape T, bi_InvalidShape T⟩
theorem sci_InvalidImage : FnScope ["self", "given"] ["self", "given"] (defScope si_InvalidImage) := ⟨rfl, rfl, rfl, by decide +kernel, rfl, by decide +kernel, by decide +kernel⟩
theorem bi_InvalidImage (T : Txt K mg base) : Binds K T.cfd_InvalidImage ["self", "given"] [] := T.cF_InvalidImage.binds fun _ _ _ _ _ _ us hl => match us, hl with | [_, _], _ => rfl
theorem i_InvalidImage (T : Txt K mg base) : FnOk P w K mg base (L2N.CX P w) 1 T.ci_InvalidImage T.cfd_InvalidImage ["self", "given"] (spIni K (cAt K "InvalidImage") "given") :=
  ini_ok (t := "no image of a chip") T.cF_InvalidImage sci_InvalidImage fun cdv A outer s H E => pss_cons (ps_expr (pe_feinit rfl T.fg T.fr T.fa T.fv (pa_cons (pe_var (i := 0) rfl (Or.inl rfl)) (pa_cons pe_str pa_nil)))) (pss_one (ps_ost (pe_var (i := 0) rfl (Or.inl rfl)) (pe_var (i := 1) rfl (Or.inl rfl))))
theorem x_InvalidImage (T : Txt K mg base) : ExR P w K mg base "InvalidImage" "given" := ⟨T.cg_InvalidImage, T.cT_InvalidImage, T.cn_InvalidImage, T.ci_InvalidImage, T.cfd_InvalidImage, _, T.cI_InvalidImage, T.ct_InvalidImage, i_InvalidImage T, bi_InvalidImage T⟩
theorem sci_InvalidData : FnScope ["self", "given"] ["self", "given"] (defScope si_InvalidData) := ⟨rfl, rfl, rfl, by decide +kernel, rfl, by decide +kernel, by decide +kernel⟩
theorem bi_InvalidData (T : Txt K mg base) : Binds K T.cfd_InvalidData ["self", "given"] [] := T.cF_InvalidData.binds fun _ _ _ _ _ _ us hl => match us, hl with | [_, _], _ => rfl
theorem i_InvalidData (T : Txt K mg base) : FnOk P w K mg base (L2N.CX P w) 1 T.ci_InvalidData T.cfd_InvalidData ["self", "given"] (spIni K (cAt K "InvalidData") "given") :=
  ini_ok (t := "no data of a page") T.cF_InvalidData sci_InvalidData fun cdv A outer s H E => pss_cons (ps_expr (pe_feinit rfl T.fg T.fr T.fa T.fv (pa_cons (pe_var (i := 0) rfl (Or.inl rfl)) (pa_cons pe_str pa_nil)))) (pss_one (ps_ost (pe_var (i := 0) rfl (Or.inl rfl)) (pe_var (i := 1) rfl (Or.inl rfl))))
theorem x_InvalidData (T : Txt K mg base) : ExR P w K mg base "InvalidData" "given" := ⟨T.cg_InvalidData, T.cT_InvalidData, T.cn_InvalidData, T.ci_InvalidData, T.cfd_InvalidData, _, T.cI_InvalidData, T.ct_InvalidData, i_InvalidData T, bi_InvalidData T⟩
theorem sci_InvalidRecord : FnScope ["self", "given"] ["self", "given"] (defScope si_InvalidRecord) := ⟨rfl, rfl, rfl, by decide +kernel, rfl, by decide +kernel, by decide +kernel⟩
theorem bi_InvalidRecord (T : Txt K mg base) : Binds K T.cfd_InvalidRecord ["self", "given"] [] := T.cF_InvalidRecord.binds fun _ _ _ _ _ _ us hl => match us, hl with | [_, _], _ => rfl
theorem i_InvalidRecord (T : Txt K mg base) : FnOk P w K mg base (L2N.CX P w) 1 T.ci_InvalidRecord T.cfd_InvalidRecord ["self", "given"] (spIni K (cAt K "InvalidRecord") "given") :=
  ini_ok (t := "no record") T.cF_InvalidRecord sci_InvalidRecord fun cdv A outer s H E => pss_cons (ps_expr (pe_feinit rfl T.fg T.fr T.fa T.fv (pa_cons (pe_var (i := 0) rfl (Or.inl rfl)) (pa_cons pe_str pa_nil)))) (pss_one (ps_ost (pe_var (i := 0) rfl (Or.inl rfl)) (pe_var (i := 1) rfl (Or.inl rfl))))
theorem x_InvalidRecord (T : Txt K mg base) : ExR P w K mg base "InvalidRecord" "given" := ⟨T.cg_InvalidRecord, T.cT_InvalidRecord, T.cn_InvalidRecord, T.ci_InvalidRecord, T.cfd_InvalidRecord, _, T.cI_InvalidRecord, T.ct_InvalidRecord, i_InvalidRecord T, bi_InvalidRecord T⟩
theorem sci_InvalidPath : FnScope ["self", "given"] ["self", "given"] (defScope si_InvalidPath) := ⟨rfl, rfl, rfl, by decide +kernel, rfl, by decide +kernel, by decide +kernel⟩
theorem bi_InvalidPath (T : Txt K mg base) : Binds K T.cfd_InvalidPath ["self", "given"] [] := T.cF_InvalidPath.binds fun _ _ _ _ _ _ us hl => match us, hl with | [_, _], _ => rfl
theorem i_InvalidPath (T : Txt K mg base) : FnOk P w K mg base (L2N.CX P w) 1 T.ci_InvalidPath T.cfd_InvalidPath ["self", "given"] (spIni K (cAt K "InvalidPath") "given") :=
  ini_ok (t := "no path") T.cF_InvalidPath sci_InvalidPath fun cdv A outer s H E => pss_cons (ps_expr (pe_feinit rfl T.fg T.fr T.fa T.fv (pa_cons (pe_var (i := 0) rfl (Or.inl rfl)) (pa_cons pe_str pa_nil)))) (pss_one (ps_ost (pe_var (i := 0) rfl (Or.inl rfl)) (pe_var (i := 1) rfl (Or.inl rfl))))
theorem x_InvalidPath (T : Txt K mg base) : ExR P w K mg base "InvalidPath" "given" := ⟨T.cg_InvalidPath, T.cT_InvalidPath, T.cn_InvalidPath, T.ci_InvalidPath, T.cfd_InvalidPath, _, T.cI_InvalidPath, T.ct_InvalidPath, i_InvalidPath T, bi_InvalidPath T⟩
theorem sci_InvalidDeed : FnScope ["self", "given"] ["self", "given"] (defScope si_InvalidDeed) := ⟨rfl, rfl, rfl, by decide +kernel, rfl, by decide +kernel, by decide +kernel⟩
theorem bi_InvalidDeed (T : Txt K mg base) : Binds K T.cfd_InvalidDeed ["self", "given"] [] := T.cF_InvalidDeed.binds fun _ _ _ _ _ _ us hl => match us, hl with | [_, _], _ => rfl
theorem i_InvalidDeed (T : Txt K mg base) : FnOk P w K mg base (L2N.CX P w) 1 T.ci_InvalidDeed T.cfd_InvalidDeed ["self", "given"] (spIni K (cAt K "InvalidDeed") "given") :=
  ini_ok (t := "no deed") T.cF_InvalidDeed sci_InvalidDeed fun cdv A outer s H E => pss_cons (ps_expr (pe_feinit rfl T.fg T.fr T.fa T.fv (pa_cons (pe_var (i := 0) rfl (Or.inl rfl)) (pa_cons pe_str pa_nil)))) (pss_one (ps_ost (pe_var (i := 0) rfl (Or.inl rfl)) (pe_var (i := 1) rfl (Or.inl rfl))))
theorem x_InvalidDeed (T : Txt K mg base) : ExR P w K mg base "InvalidDeed" "given" := ⟨T.cg_InvalidDeed, T.cT_InvalidDeed, T.cn_InvalidDeed, T.ci_InvalidDeed, T.cfd_InvalidDeed, _, T.cI_InvalidDeed, T.ct_InvalidDeed, i_InvalidDeed T, bi_InvalidDeed T⟩
theorem sci_InvalidLine : FnScope ["self", "given"] ["self", "given"] (defScope si_InvalidLine) := ⟨rfl, rfl, rfl, by decide +kernel, rfl, by decide +kernel, by decide +kernel⟩
theorem bi_InvalidLine (T : Txt K mg base) : Binds K T.cfd_InvalidLine ["self", "given"] [] := T.cF_InvalidLine.binds fun _ _ _ _ _ _ us hl => match us, hl with | [_, _], _ => rfl
theorem i_InvalidLine (T : Txt K mg base) : FnOk P w K mg base (L2N.CX P w) 1 T.ci_InvalidLine T.cfd_InvalidLine ["self", "given"] (spIni K (cAt K "InvalidLine") "given") :=
  ini_ok (t := "no such line") T.cF_InvalidLine sci_InvalidLine fun cdv A outer s H E => pss_cons (ps_expr (pe_feinit rfl T.fg T.fr T.fa T.fv (pa_cons (pe_var (i := 0) rfl (Or.inl rfl)) (pa_cons pe_str pa_nil)))) (pss_one (ps_ost (pe_var (i := 0) rfl (Or.inl rfl)) (pe_var (i := 1) rfl (Or.inl rfl))))
theorem x_InvalidLine (T : Txt K mg base) : ExR P w K mg base "InvalidLine" "given" := ⟨T.cg_InvalidLine, T.cT_InvalidLine, T.cn_InvalidLine, T.ci_InvalidLine, T.cfd_InvalidLine, _, T.cI_InvalidLine, T.ct_InvalidLine, i_InvalidLine T, bi_InvalidLine T⟩
theorem sci_InvalidScript : FnScope ["self", "given"] ["self", "given"] (defScope si_InvalidScript) := ⟨rfl, rfl, rfl, by decide +kernel, rfl, by decide +kernel, by decide +kernel⟩
theorem bi_InvalidScript (T : Txt K mg base) : Binds K T.cfd_InvalidScript ["self", "given"] [] := T.cF_InvalidScript.binds fun _ _ _ _ _ _ us hl => match us, hl with | [_, _], _ => rfl
theorem i_InvalidScript (T : Txt K mg base) : FnOk P w K mg base (L2N.CX P w) 1 T.ci_InvalidScript T.cfd_InvalidScript ["self", "given"] (spIni K (cAt K "InvalidScript") "given") :=
  ini_ok (t := "no script") T.cF_InvalidScript sci_InvalidScript fun cdv A outer s H E => pss_cons (ps_expr (pe_feinit rfl T.fg T.fr T.fa T.fv (pa_cons (pe_var (i := 0) rfl (Or.inl rfl)) (pa_cons pe_str pa_nil)))) (pss_one (ps_ost (pe_var (i := 0) rfl (Or.inl rfl)) (pe_var (i := 1) rfl (Or.inl rfl))))
theorem x_InvalidScript (T : Txt K mg base) : ExR P w K mg base "InvalidScript" "given" := ⟨T.cg_InvalidScript, T.cT_InvalidScript, T.cn_InvalidScript, T.ci_InvalidScript, T.cfd_InvalidScript, _, T.cI_InvalidScript, T.ct_InvalidScript, i_InvalidScript T, bi_InvalidScript T⟩
theorem sci_InvalidTree : FnScope ["self", "given"] ["self", "given"] (defScope si_InvalidTree) := ⟨rfl, rfl, rfl, by decide +kernel, rfl, by decide +kernel, by decide +kernel⟩
theorem bi_InvalidTree (T : Txt K mg base) : Binds K T.cfd_InvalidTree ["self", "given"] [] := T.cF_InvalidTree.binds fun _ _ _ _ _ _ us hl => match us, hl with | [_, _], _ => rfl
theorem i_InvalidTree (T : Txt K mg base) : FnOk P w K mg base (L2N.CX P w) 1 T.ci_InvalidTree T.cfd_InvalidTree ["self", "given"] (spIni K (cAt K "InvalidTree") "given") :=
  ini_ok (t := "no tree") T.cF_InvalidTree sci_InvalidTree fun cdv A outer s H E => pss_cons (ps_expr (pe_feinit rfl T.fg T.fr T.fa T.fv (pa_cons (pe_var (i := 0) rfl (Or.inl rfl)) (pa_cons pe_str pa_nil)))) (pss_one (ps_ost (pe_var (i := 0) rfl (Or.inl rfl)) (pe_var (i := 1) rfl (Or.inl rfl))))
theorem x_InvalidTree (T : Txt K mg base) : ExR P w K mg base "InvalidTree" "given" := ⟨T.cg_InvalidTree, T.cT_InvalidTree, T.cn_InvalidTree, T.ci_InvalidTree, T.cfd_InvalidTree, _, T.cI_InvalidTree, T.ct_InvalidTree, i_InvalidTree T, bi_InvalidTree T⟩
theorem sci_InvalidChip : FnScope ["self", "given"] ["self", "given"] (defScope si_InvalidChip) := ⟨rfl, rfl, rfl, by decide +kernel, rfl, by decide +kernel, by decide +kernel⟩
theorem bi_InvalidChip (T : Txt K mg base) : Binds K T.cfd_InvalidChip ["self", "given"] [] := T.cF_InvalidChip.binds fun _ _ _ _ _ _ us hl => match us, hl with | [_, _], _ => rfl
theorem i_InvalidChip (T : Txt K mg base) : FnOk P w K mg base (L2N.CX P w) 1 T.ci_InvalidChip T.cfd_InvalidChip ["self", "given"] (spIni K (cAt K "InvalidChip") "given") :=
  ini_ok (t := "no chip") T.cF_InvalidChip sci_InvalidChip fun cdv A outer s H E => pss_cons (ps_expr (pe_feinit rfl T.fg T.fr T.fa T.fv (pa_cons (pe_var (i := 0) rfl (Or.inl rfl)) (pa_cons pe_str pa_nil)))) (pss_one (ps_ost (pe_var (i := 0) rfl (Or.inl rfl)) (pe_var (i := 1) rfl (Or.inl rfl))))
theorem x_InvalidChip (T : Txt K mg base) : ExR P w K mg base "InvalidChip" "given" := ⟨T.cg_InvalidChip, T.cT_InvalidChip, T.cn_InvalidChip, T.ci_InvalidChip, T.cfd_InvalidChip, _, T.cI_InvalidChip, T.ct_InvalidChip, i_InvalidChip T, bi_InvalidChip T⟩
theorem sci_InvalidRecords : FnScope ["self", "given"] ["self", "given"] (defScope si_InvalidRecords) := ⟨rfl, rfl, rfl, by decide +kernel, rfl, by decide +kernel, by decide +kernel⟩
theorem bi_InvalidRecords (T : Txt K mg base) : Binds K T.cfd_InvalidRecords ["self", "given"] [] := T.cF_InvalidRecords.binds fun _ _ _ _ _ _ us hl => match us, hl with | [_, _], _ => rfl
theorem i_InvalidRecords (T : Txt K mg base) : FnOk P w K mg base (L2N.CX P w) 1 T.ci_InvalidRecords T.cfd_InvalidRecords ["self", "given"] (spIni K (cAt K "InvalidRecords") "given") :=
  ini_ok (t := "no such records") T.cF_InvalidRecords sci_InvalidRecords fun cdv A outer s H E => pss_cons (ps_expr (pe_feinit rfl T.fg T.fr T.fa T.fv (pa_cons (pe_var (i := 0) rfl (Or.inl rfl)) (pa_cons pe_str pa_nil)))) (pss_one (ps_ost (pe_var (i := 0) rfl (Or.inl rfl)) (pe_var (i := 1) rfl (Or.inl rfl))))
theorem x_InvalidRecords (T : Txt K mg base) : ExR P w K mg base "InvalidRecords" "given" := ⟨T.cg_InvalidRecords, T.cT_InvalidRecords, T.cn_InvalidRecords, T.ci_InvalidRecords, T.cfd_InvalidRecords, _, T.cI_InvalidRecords, T.ct_InvalidRecords, i_InvalidRecords T, bi_InvalidRecords T⟩
theorem sci_InvalidName : FnScope ["self", "given"] ["self", "given"] (defScope si_InvalidName) := ⟨rfl, rfl, rfl, by decide +kernel, rfl, by decide +kernel, by decide +kernel⟩
theorem bi_InvalidName (T : Txt K mg base) : Binds K T.cfd_InvalidName ["self", "given"] [] := T.cF_InvalidName.binds fun _ _ _ _ _ _ us hl => match us, hl with | [_, _], _ => rfl
theorem i_InvalidName (T : Txt K mg base) : FnOk P w K mg base (L2N.CX P w) 1 T.ci_InvalidName T.cfd_InvalidName ["self", "given"] (spIni K (cAt K "InvalidName") "given") :=
  ini_ok (t := "no name") T.cF_InvalidName sci_InvalidName fun cdv A outer s H E => pss_cons (ps_expr (pe_feinit rfl T.fg T.fr T.fa T.fv (pa_cons (pe_var (i := 0) rfl (Or.inl rfl)) (pa_cons pe_str pa_nil)))) (pss_one (ps_ost (pe_var (i := 0) rfl (Or.inl rfl)) (pe_var (i := 1) rfl (Or.inl rfl))))
theorem x_InvalidName (T : Txt K mg base) : ExR P w K mg base "InvalidName" "given" := ⟨T.cg_InvalidName, T.cT_InvalidName, T.cn_InvalidName, T.ci_InvalidName, T.cfd_InvalidName, _, T.cI_InvalidName, T.ct_InvalidName, i_InvalidName T, bi_InvalidName T⟩
theorem sci_InvalidPlans : FnScope ["self", "given"] ["self", "given"] (defScope si_InvalidPlans) := ⟨rfl, rfl, rfl, by decide +kernel, rfl, by decide +kernel, by decide +kernel⟩
theorem bi_InvalidPlans (T : Txt K mg base) : Binds K T.cfd_InvalidPlans ["self", "given"] [] := T.cF_InvalidPlans.binds fun _ _ _ _ _ _ us hl => match us, hl with | [_, _], _ => rfl
theorem i_InvalidPlans (T : Txt K mg base) : FnOk P w K mg base (L2N.CX P w) 1 T.ci_InvalidPlans T.cfd_InvalidPlans ["self", "given"] (spIni K (cAt K "InvalidPlans") "given") :=
  ini_ok (t := "no plans") T.cF_InvalidPlans sci_InvalidPlans fun cdv A outer s H E => pss_cons (ps_expr (pe_feinit rfl T.fg T.fr T.fa T.fv (pa_cons (pe_var (i := 0) rfl (Or.inl rfl)) (pa_cons pe_str pa_nil)))) (pss_one (ps_ost (pe_var (i := 0) rfl (Or.inl rfl)) (pe_var (i := 1) rfl (Or.inl rfl))))
theorem x_InvalidPlans (T : Txt K mg base) : ExR P w K mg base "InvalidPlans" "given" := ⟨T.cg_InvalidPlans, T.cT_InvalidPlans, T.cn_InvalidPlans, T.ci_InvalidPlans, T.cfd_InvalidPlans, _, T.cI_InvalidPlans, T.ct_InvalidPlans, i_InvalidPlans T, bi_InvalidPlans T⟩
theorem sci_PowerCut : FnScope ["self", "op"] ["self", "op"] (defScope si_PowerCut) := ⟨rfl, rfl, rfl, by decide +kernel, rfl, by decide +kernel, by decide +kernel⟩
theorem bi_PowerCut (T : Txt K mg base) : Binds K T.cfd_PowerCut ["self", "op"] [] := T.cF_PowerCut.binds fun _ _ _ _ _ _ us hl => match us, hl with | [_, _], _ => rfl
theorem i_PowerCut (T : Txt K mg base) : FnOk P w K mg base (L2N.CX P w) 1 T.ci_PowerCut T.cfd_PowerCut ["self", "op"] (spIni K (cAt K "PowerCut") "op") :=
  ini_ok (t := "the power is cut") T.cF_PowerCut sci_PowerCut fun cdv A outer s H E => pss_cons (ps_expr (pe_feinit rfl T.fg T.fr T.fa T.fv (pa_cons (pe_var (i := 0) rfl (Or.inl rfl)) (pa_cons pe_str pa_nil)))) (pss_one (ps_ost (pe_var (i := 0) rfl (Or.inl rfl)) (pe_var (i := 1) rfl (Or.inl rfl))))
theorem x_PowerCut (T : Txt K mg base) : ExR P w K mg base "PowerCut" "op" := ⟨T.cg_PowerCut, T.cT_PowerCut, T.cn_PowerCut, T.ci_PowerCut, T.cfd_PowerCut, _, T.cI_PowerCut, T.ct_PowerCut, i_PowerCut T, bi_PowerCut T⟩
theorem sci_TooMany : FnScope ["self", "count"] ["self", "count"] (defScope si_TooMany) := ⟨rfl, rfl, rfl, by decide +kernel, rfl, by decide +kernel, by decide +kernel⟩
theorem bi_TooMany (T : Txt K mg base) : Binds K T.cfd_TooMany ["self", "count"] [] := T.cF_TooMany.binds fun _ _ _ _ _ _ us hl => match us, hl with | [_, _], _ => rfl
theorem i_TooMany (T : Txt K mg base) : FnOk P w K mg base (L2N.CX P w) 1 T.ci_TooMany T.cfd_TooMany ["self", "count"] (spIni K (cAt K "TooMany") "count") :=
  ini_ok (t := "too many") T.cF_TooMany sci_TooMany fun cdv A outer s H E => pss_cons (ps_expr (pe_feinit rfl T.fg T.fr T.fa T.fv (pa_cons (pe_var (i := 0) rfl (Or.inl rfl)) (pa_cons pe_str pa_nil)))) (pss_one (ps_ost (pe_var (i := 0) rfl (Or.inl rfl)) (pe_var (i := 1) rfl (Or.inl rfl))))
theorem x_TooMany (T : Txt K mg base) : ExR P w K mg base "TooMany" "count" := ⟨T.cg_TooMany, T.cT_TooMany, T.cn_TooMany, T.ci_TooMany, T.cfd_TooMany, _, T.cI_TooMany, T.ct_TooMany, i_TooMany T, bi_TooMany T⟩
theorem sci_NoThing : FnScope ["self", "name"] ["self", "name"] (defScope si_NoThing) := ⟨rfl, rfl, rfl, by decide +kernel, rfl, by decide +kernel, by decide +kernel⟩
theorem bi_NoThing (T : Txt K mg base) : Binds K T.cfd_NoThing ["self", "name"] [] := T.cF_NoThing.binds fun _ _ _ _ _ _ us hl => match us, hl with | [_, _], _ => rfl
theorem i_NoThing (T : Txt K mg base) : FnOk P w K mg base (L2N.CX P w) 1 T.ci_NoThing T.cfd_NoThing ["self", "name"] (spIni K (cAt K "NoThing") "name") :=
  ini_ok (t := "no thing of this name") T.cF_NoThing sci_NoThing fun cdv A outer s H E => pss_cons (ps_expr (pe_feinit rfl T.fg T.fr T.fa T.fv (pa_cons (pe_var (i := 0) rfl (Or.inl rfl)) (pa_cons pe_str pa_nil)))) (pss_one (ps_ost (pe_var (i := 0) rfl (Or.inl rfl)) (pe_var (i := 1) rfl (Or.inl rfl))))
theorem x_NoThing (T : Txt K mg base) : ExR P w K mg base "NoThing" "name" := ⟨T.cg_NoThing, T.cT_NoThing, T.cn_NoThing, T.ci_NoThing, T.cfd_NoThing, _, T.cI_NoThing, T.ct_NoThing, i_NoThing T, bi_NoThing T⟩
theorem nB : ("FlashError" : Str) ∉ EXC := by decide +kernel
theorem bk_InvalidOctets (T : Txt K mg base) : BindsN K T.cfd_InvalidOctets ["self", "given"] 1 ["given"] [0, 1] [] := binds_kw T.cF_InvalidOctets fun _ _ _ _ _ _ us zs h1 h2 => match us, zs, h1, h2 with | [_], [_], _, _ => rfl
theorem xo_InvalidOctets (T : Txt K mg base) : ExO P w K mg base "InvalidOctets" "given" "given" := ⟨T.cg_InvalidOctets, T.cT_InvalidOctets, T.cn_InvalidOctets, T.ci_InvalidOctets, T.cfd_InvalidOctets, T.cI_InvalidOctets, T.ct_InvalidOctets, i_InvalidOctets T, bi_InvalidOctets T, bk_InvalidOctets T⟩
theorem bk_InvalidCount (T : Txt K mg base) : BindsN K T.cfd_InvalidCount ["self", "given"] 1 ["given"] [0, 1] [] := binds_kw T.cF_InvalidCount fun _ _ _ _ _ _ us zs h1 h2 => match us, zs, h1, h2 with | [_], [_], _, _ => rfl
theorem xo_InvalidCount (T : Txt K mg base) : ExO P w K mg base "InvalidCount" "given" "given" := ⟨T.cg_InvalidCount, T.cT_InvalidCount, T.cn_InvalidCount, T.ci_InvalidCount, T.cfd_InvalidCount, T.cI_InvalidCount, T.ct_InvalidCount, i_InvalidCount T, bi_InvalidCount T, bk_InvalidCount T⟩
theorem bk_InvalidNumber (T : Txt K mg base) : BindsN K T.cfd_InvalidNumber ["self", "given"] 1 ["given"] [0, 1] [] := binds_kw T.cF_InvalidNumber fun _ _ _ _ _ _ us zs h1 h2 => match us, zs, h1, h2 with | [_], [_], _, _ => rfl
theorem xo_InvalidNumber (T : Txt K mg base) : ExO P w K mg base "InvalidNumber" "given" "given" := ⟨T.cg_InvalidNumber, T.cT_InvalidNumber, T.cn_InvalidNumber, T.ci_InvalidNumber, T.cfd_InvalidNumber, T.cI_InvalidNumber, T.ct_InvalidNumber, i_InvalidNumber T, bi_InvalidNumber T, bk_InvalidNumber T⟩
theorem bk_InvalidMask (T : Txt K mg base) : BindsN K T.cfd_InvalidMask ["self", "given"] 1 ["given"] [0, 1] [] := binds_kw T.cF_InvalidMask fun _ _ _ _ _ _ us zs h1 h2 => match us, zs, h1, h2 with | [_], [_], _, _ => rfl
theorem xo_InvalidMask (T : Txt K mg base) : ExO P w K mg base "InvalidMask" "given" "given" := ⟨T.cg_InvalidMask, T.cT_InvalidMask, T.cn_InvalidMask, T.ci_InvalidMask, T.cfd_InvalidMask, T.cI_InvalidMask, T.ct_InvalidMask, i_InvalidMask T, bi_InvalidMask T, bk_InvalidMask T⟩
theorem bk_InvalidOp (T : Txt K mg base) : BindsN K T.cfd_InvalidOp ["self", "given"] 1 ["given"] [0, 1] [] := binds_kw T.cF_InvalidOp fun _ _ _ _ _ _ us zs h1 h2 => match us, zs, h1, h2 with | [_], [_], _, _ => rfl
theorem xo_InvalidOp (T : Txt K mg base) : ExO P w K mg base "InvalidOp" "given" "given" := ⟨T.cg_InvalidOp, T.cT_InvalidOp, T.cn_InvalidOp, T.ci_InvalidOp, T.cfd_InvalidOp, T.cI_InvalidOp, T.ct_InvalidOp, i_InvalidOp T, bi_InvalidOp T, bk_InvalidOp T⟩
theorem bk_InvalidBlock (T : Txt K mg base) : BindsN K T.cfd_InvalidBlock ["self", "given"] 1 ["given"] [0, 1] [] := binds_kw T.cF_InvalidBlock fun _ _ _ _ _ _ us zs h1 h2 => match us, zs, h1, h2 with | [_], [_], _, _ => rfl
theorem xo_InvalidBlock (T : Txt K mg base) : ExO P w K mg base "InvalidBlock" "given" "given" := ⟨T.cg_InvalidBlock, T.cT_InvalidBlock, T.cn_InvalidBlock, T.ci_InvalidBlock, T.cfd_InvalidBlock, T.cI_InvalidBlock, T.ct_InvalidBlock, i_InvalidBlock T, bi_InvalidBlock T, bk_InvalidBlock T⟩
theorem bk_InvalidPage (T : Txt K mg base) : BindsN K T.cfd_InvalidPage ["self", "given"] 1 ["given"] [0, 1] [] := binds_kw T.cF_InvalidPage fun _ _ _ _ _ _ us zs h1 h2 => match us, zs, h1, h2 with | [_], [_], _, _ => rfl
theorem xo_InvalidPage (T : Txt K mg base) : ExO P w K mg base "InvalidPage" "given" "given" := ⟨T.cg_InvalidPage, T.cT_InvalidPage, T.cn_InvalidPage, T.ci_InvalidPage, T.cfd_InvalidPage, T.cI_InvalidPage, T.ct_InvalidPage, i_InvalidPage T, bi_InvalidPage T, bk_InvalidPage T⟩
theorem bk_InvalidShape (T : Txt K mg base) : BindsN K T.cfd_InvalidShape ["self", "given"] 1 ["given"] [0, 1] [] := binds_kw T.cF_InvalidShape fun _ _ _ _ _ _ us zs h1 h2 => match us, zs, h1, h2 with | [_], [_], _, _ => rfl
theorem xo_InvalidShape (T : Txt K mg base) : ExO P w K mg base "InvalidShape" "given" "given" := ⟨T.cg_InvalidShape, T.cT_InvalidShape, T.cn_InvalidShape, T.ci_InvalidShape, T.cfd_InvalidShape, T.cI_InvalidShape, T.ct_InvalidShape, i_InvalidShape T, bi_InvalidShape T, bk_InvalidShape T⟩
theorem bk_InvalidImage (T : Txt K mg base) : BindsN K T.cfd_InvalidImage ["self", "given"] 1 ["given"] [0, 1] [] := binds_kw T.cF_InvalidImage fun _ _ _ _ _ _ us zs h1 h2 => match us, zs, h1, h2 with | [_], [_], _, _ => rfl
theorem xo_InvalidImage (T : Txt K mg base) : ExO P w K mg base "InvalidImage" "given" "given" := ⟨T.cg_InvalidImage, T.cT_InvalidImage, T.cn_InvalidImage, T.ci_InvalidImage, T.cfd_InvalidImage, T.cI_InvalidImage, T.ct_InvalidImage, i_InvalidImage T, bi_InvalidImage T, bk_InvalidImage T⟩
theorem bk_InvalidData (T : Txt K mg base) : BindsN K T.cfd_InvalidData ["self", "given"] 1 ["given"] [0, 1] [] := binds_kw T.cF_InvalidData fun _ _ _ _ _ _ us zs h1 h2 => match us, zs, h1, h2 with | [_], [_], _, _ => rfl
theorem xo_InvalidData (T : Txt K mg base) : ExO P w K mg base "InvalidData" "given" "given" := ⟨T.cg_InvalidData, T.cT_InvalidData, T.cn_InvalidData, T.ci_InvalidData, T.cfd_InvalidData, T.cI_InvalidData, T.ct_InvalidData, i_InvalidData T, bi_InvalidData T, bk_InvalidData T⟩
theorem bk_InvalidRecord (T : Txt K mg base) : BindsN K T.cfd_InvalidRecord ["self", "given"] 1 ["given"] [0, 1] [] := binds_kw T.cF_InvalidRecord fun _ _ _ _ _ _ us zs h1 h2 => match us, zs, h1, h2 with | [_], [_], _, _ => rfl
theorem xo_InvalidRecord (T : Txt K mg base) : ExO P w K mg base "InvalidRecord" "given" "given" := ⟨T.cg_InvalidRecord, T.cT_InvalidRecord, T.cn_InvalidRecord, T.ci_InvalidRecord, T.cfd_InvalidRecord, T.cI_InvalidRecord, T.ct_InvalidRecord, i_InvalidRecord T, bi_InvalidRecord T, bk_InvalidRecord T⟩
theorem bk_InvalidPath (T : Txt K mg base) : BindsN K T.cfd_InvalidPath ["self", "given"] 1 ["given"] [0, 1] [] := binds_kw T.cF_InvalidPath fun _ _ _ _ _ _ us zs h1 h2 => match us, zs, h1, h2 with | [_], [_], _, _ => rfl
theorem xo_InvalidPath (T : Txt K mg base) : ExO P w K mg base "InvalidPath" "given" "given" := ⟨T.cg_InvalidPath, T.cT_InvalidPath, T.cn_InvalidPath, T.ci_InvalidPath, T.cfd_InvalidPath, T.cI_InvalidPath, T.ct_InvalidPath, i_InvalidPath T, bi_InvalidPath T, bk_InvalidPath T⟩
theorem bk_InvalidDeed (T : Txt K mg base) : BindsN K T.cfd_InvalidDeed ["self", "given"] 1 ["given"] [0, 1] [] := binds_kw T.cF_InvalidDeed fun _ _ _ _ _ _ us zs h1 h2 => match us, zs, h1, h2 with | [_], [_], _, _ => rfl
theorem xo_InvalidDeed (T : Txt K mg base) : ExO P w K mg base "InvalidDeed" "given" "given" := ⟨T.cg_InvalidDeed, T.cT_InvalidDeed, T.cn_InvalidDeed, T.ci_InvalidDeed, T.cfd_InvalidDeed, T.cI_InvalidDeed, T.ct_InvalidDeed, i_InvalidDeed T, bi_InvalidDeed T, bk_InvalidDeed T⟩
theorem bk_InvalidLine (T : Txt K mg base) : BindsN K T.cfd_InvalidLine ["self", "given"] 1 ["given"] [0, 1] [] := binds_kw T.cF_InvalidLine fun _ _ _ _ _ _ us zs h1 h2 => match us, zs, h1, h2 with | [_], [_], _, _ => rfl
theorem xo_InvalidLine (T : Txt K mg base) : ExO P w K mg base "InvalidLine" "given" "given" := ⟨T.cg_InvalidLine, T.cT_InvalidLine, T.cn_InvalidLine, T.ci_InvalidLine, T.cfd_InvalidLine, T.cI_InvalidLine, T.ct_InvalidLine, i_InvalidLine T, bi_InvalidLine T, bk_InvalidLine T⟩
theorem bk_InvalidScript (T : Txt K mg base) : BindsN K T.cfd_InvalidScript ["self", "given"] 1 ["given"] [0, 1] [] := binds_kw T.cF_InvalidScript fun _ _ _ _ _ _ us zs h1 h2 => match us, zs, h1, h2 with | [_], [_], _, _ => rfl
theorem xo_InvalidScript (T : Txt K mg base) : ExO P w K mg base "InvalidScript" "given" "given" := ⟨T.cg_InvalidScript, T.cT_InvalidScript, T.cn_InvalidScript, T.ci_InvalidScript, T.cfd_InvalidScript, T.cI_InvalidScript, T.ct_InvalidScript, i_InvalidScript T, bi_InvalidScript T, bk_InvalidScript T⟩
theorem bk_InvalidTree (T : Txt K mg base) : BindsN K T.cfd_InvalidTree ["self", "given"] 1 ["given"] [0, 1] [] := binds_kw T.cF_InvalidTree fun _ _ _ _ _ _ us zs h1 h2 => match us, zs, h1, h2 with | [_], [_], _, _ => rfl
theorem xo_InvalidTree (T : Txt K mg base) : ExO P w K mg base "InvalidTree" "given" "given" := ⟨T.cg_InvalidTree, T.cT_InvalidTree, T.cn_InvalidTree, T.ci_InvalidTree, T.cfd_InvalidTree, T.cI_InvalidTree, T.ct_InvalidTree, i_InvalidTree T, bi_InvalidTree T, bk_InvalidTree T⟩
theorem bk_InvalidChip (T : Txt K mg base) : BindsN K T.cfd_InvalidChip ["self", "given"] 1 ["given"] [0, 1] [] := binds_kw T.cF_InvalidChip fun _ _ _ _ _ _ us zs h1 h2 => match us, zs, h1, h2 with | [_], [_], _, _ => rfl
theorem xo_InvalidChip (T : Txt K mg base) : ExO P w K mg base "InvalidChip" "given" "given" := ⟨T.cg_InvalidChip, T.cT_InvalidChip, T.cn_InvalidChip, T.ci_InvalidChip, T.cfd_InvalidChip, T.cI_InvalidChip, T.ct_InvalidChip, i_InvalidChip T, bi_InvalidChip T, bk_InvalidChip T⟩
theorem bk_InvalidRecords (T : Txt K mg base) : BindsN K T.cfd_InvalidRecords ["self", "given"] 1 ["given"] [0, 1] [] := binds_kw T.cF_InvalidRecords fun _ _ _ _ _ _ us zs h1 h2 => match us, zs, h1, h2 with | [_], [_], _, _ => rfl
theorem xo_InvalidRecords (T : Txt K mg base) : ExO P w K mg base "InvalidRecords" "given" "given" := ⟨T.cg_InvalidRecords, T.cT_InvalidRecords, T.cn_InvalidRecords, T.ci_InvalidRecords, T.cfd_InvalidRecords, T.cI_InvalidRecords, T.ct_InvalidRecords, i_InvalidRecords T, bi_InvalidRecords T, bk_InvalidRecords T⟩
theorem bk_InvalidName (T : Txt K mg base) : BindsN K T.cfd_InvalidName ["self", "given"] 1 ["given"] [0, 1] [] := binds_kw T.cF_InvalidName fun _ _ _ _ _ _ us zs h1 h2 => match us, zs, h1, h2 with | [_], [_], _, _ => rfl
theorem xo_InvalidName (T : Txt K mg base) : ExO P w K mg base "InvalidName" "given" "given" := ⟨T.cg_InvalidName, T.cT_InvalidName, T.cn_InvalidName, T.ci_InvalidName, T.cfd_InvalidName, T.cI_InvalidName, T.ct_InvalidName, i_InvalidName T, bi_InvalidName T, bk_InvalidName T⟩
theorem bk_InvalidPlans (T : Txt K mg base) : BindsN K T.cfd_InvalidPlans ["self", "given"] 1 ["given"] [0, 1] [] := binds_kw T.cF_InvalidPlans fun _ _ _ _ _ _ us zs h1 h2 => match us, zs, h1, h2 with | [_], [_], _, _ => rfl
theorem xo_InvalidPlans (T : Txt K mg base) : ExO P w K mg base "InvalidPlans" "given" "given" := ⟨T.cg_InvalidPlans, T.cT_InvalidPlans, T.cn_InvalidPlans, T.ci_InvalidPlans, T.cfd_InvalidPlans, T.cI_InvalidPlans, T.ct_InvalidPlans, i_InvalidPlans T, bi_InvalidPlans T, bk_InvalidPlans T⟩
theorem bk_PowerCut (T : Txt K mg base) : BindsN K T.cfd_PowerCut ["self", "op"] 1 ["op"] [0, 1] [] := binds_kw T.cF_PowerCut fun _ _ _ _ _ _ us zs h1 h2 => match us, zs, h1, h2 with | [_], [_], _, _ => rfl
theorem xo_PowerCut (T : Txt K mg base) : ExO P w K mg base "PowerCut" "op" "op" := ⟨T.cg_PowerCut, T.cT_PowerCut, T.cn_PowerCut, T.ci_PowerCut, T.cfd_PowerCut, T.cI_PowerCut, T.ct_PowerCut, i_PowerCut T, bi_PowerCut T, bk_PowerCut T⟩
theorem bk_TooMany (T : Txt K mg base) : BindsN K T.cfd_TooMany ["self", "count"] 1 ["count"] [0, 1] [] := binds_kw T.cF_TooMany fun _ _ _ _ _ _ us zs h1 h2 => match us, zs, h1, h2 with | [_], [_], _, _ => rfl
theorem xo_TooMany (T : Txt K mg base) : ExO P w K mg base "TooMany" "count" "count" := ⟨T.cg_TooMany, T.cT_TooMany, T.cn_TooMany, T.ci_TooMany, T.cfd_TooMany, T.cI_TooMany, T.ct_TooMany, i_TooMany T, bi_TooMany T, bk_TooMany T⟩
theorem bk_NoThing (T : Txt K mg base) : BindsN K T.cfd_NoThing ["self", "name"] 1 ["name"] [0, 1] [] := binds_kw T.cF_NoThing fun _ _ _ _ _ _ us zs h1 h2 => match us, zs, h1, h2 with | [_], [_], _, _ => rfl
theorem xo_NoThing (T : Txt K mg base) : ExO P w K mg base "NoThing" "name" "name" := ⟨T.cg_NoThing, T.cT_NoThing, T.cn_NoThing, T.ci_NoThing, T.cfd_NoThing, T.cI_NoThing, T.ct_NoThing, i_NoThing T, bi_NoThing T, bk_NoThing T⟩
theorem sci_NotReady : FnScope ["self"] ["self"] (defScope si_NotReady) := ⟨rfl, rfl, rfl, by decide +kernel, rfl, by decide +kernel, by decide +kernel⟩
theorem bi_NotReady (T : Txt K mg base) : Binds K T.cfd_NotReady ["self"] [] := T.cF_NotReady.binds fun _ _ _ _ _ _ us hl => match us, hl with | [_], _ => rfl
theorem i_NotReady (T : Txt K mg base) : FnOk P w K mg base (L2N.CX P w) 1 T.ci_NotReady T.cfd_NotReady ["self"] (spIni0 K (cAt K "NotReady")) :=
  ini0_ok (t := "no block counts") T.cF_NotReady sci_NotReady fun cdv A outer s H E => pss_one (ps_expr (pe_feinit rfl T.fg T.fr T.fa T.fv (pa_cons (pe_var (i := 0) rfl (Or.inl rfl)) (pa_cons pe_str pa_nil))))
theorem xb_NotReady (T : Txt K mg base) : ExB P w K mg base "NotReady" := ⟨T.cg_NotReady, T.cT_NotReady, T.ci_NotReady, T.cfd_NotReady, T.cI_NotReady, T.ct_NotReady, i_NotReady T, bi_NotReady T⟩
theorem sci_NoRoom : FnScope ["self"] ["self"] (defScope si_NoRoom) := ⟨rfl, rfl, rfl, by decide +kernel, rfl, by decide +kernel, by decide +kernel⟩
theorem bi_NoRoom (T : Txt K mg base) : Binds K T.cfd_NoRoom ["self"] [] := T.cF_NoRoom.binds fun _ _ _ _ _ _ us hl => match us, hl with | [_], _ => rfl
theorem i_NoRoom (T : Txt K mg base) : FnOk P w K mg base (L2N.CX P w) 1 T.ci_NoRoom T.cfd_NoRoom ["self"] (spIni0 K (cAt K "NoRoom")) :=
  ini0_ok (t := "no block is free") T.cF_NoRoom sci_NoRoom fun cdv A outer s H E => pss_one (ps_expr (pe_feinit rfl T.fg T.fr T.fa T.fv (pa_cons (pe_var (i := 0) rfl (Or.inl rfl)) (pa_cons pe_str pa_nil))))
theorem xb_NoRoom (T : Txt K mg base) : ExB P w K mg base "NoRoom" := ⟨T.cg_NoRoom, T.cT_NoRoom, T.ci_NoRoom, T.cfd_NoRoom, T.cI_NoRoom, T.ct_NoRoom, i_NoRoom T, bi_NoRoom T⟩
theorem sci_NothingToUndo : FnScope ["self"] ["self"] (defScope si_NothingToUndo) := ⟨rfl, rfl, rfl, by decide +kernel, rfl, by decide +kernel, by decide +kernel⟩
theorem bi_NothingToUndo (T : Txt K mg base) : Binds K T.cfd_NothingToUndo ["self"] [] := T.cF_NothingToUndo.binds fun _ _ _ _ _ _ us hl => match us, hl with | [_], _ => rfl
theorem i_NothingToUndo (T : Txt K mg base) : FnOk P w K mg base (L2N.CX P w) 1 T.ci_NothingToUndo T.cfd_NothingToUndo ["self"] (spIni0 K (cAt K "NothingToUndo")) :=
  ini0_ok (t := "nothing to undo") T.cF_NothingToUndo sci_NothingToUndo fun cdv A outer s H E => pss_one (ps_expr (pe_feinit rfl T.fg T.fr T.fa T.fv (pa_cons (pe_var (i := 0) rfl (Or.inl rfl)) (pa_cons pe_str pa_nil))))
theorem xb_NothingToUndo (T : Txt K mg base) : ExB P w K mg base "NothingToUndo" := ⟨T.cg_NothingToUndo, T.cT_NothingToUndo, T.ci_NothingToUndo, T.cfd_NothingToUndo, T.cI_NothingToUndo, T.ct_NothingToUndo, i_NothingToUndo T, bi_NothingToUndo T⟩
theorem xf_count (T : Txt K mg base) : ∀ C ∈ XF_count, ExF K C "count" := all_in ⟨⟨⟨(T.exi.c "TooMany" (by decide +kernel)).hg, (T.exi.c "TooMany" (by decide +kernel)).hk, (T.exi.c "TooMany" (by decide +kernel)).hs, (T.exi.c "TooMany" (by decide +kernel)).hd⟩, T.cn_TooMany⟩, trivial⟩
theorem xf_given (T : Txt K mg base) : ∀ C ∈ XF_given, ExF K C "given" := all_in ⟨⟨⟨(T.exi.c "InvalidOctets" (by decide +kernel)).hg, (T.exi.c "InvalidOctets" (by decide +kernel)).hk, (T.exi.c "InvalidOctets" (by decide +kernel)).hs, (T.exi.c "InvalidOctets" (by decide +kernel)).hd⟩, T.cn_InvalidOctets⟩, ⟨⟨(T.exi.c "InvalidCount" (by decide +kernel)).hg, (T.exi.c "InvalidCount" (by decide +kernel)).hk, (T.exi.c "InvalidCount" (by decide +kernel)).hs, (T.exi.c "InvalidCount" (by decide +kernel)).hd⟩, T.cn_InvalidCount⟩, ⟨⟨(T.exi.c "InvalidNumber" (by decide +kernel)).hg, (T.exi.c "InvalidNumber" (by decide +kernel)).hk, (T.exi.c "InvalidNumber" (by decide +kernel)).hs, (T.exi.c "InvalidNumber" (by decide +kernel)).hd⟩, T.cn_InvalidNumber⟩, ⟨⟨(T.exi.c "InvalidMask" (by decide +kernel)).hg, (T.exi.c "InvalidMask" (by decide +kernel)).hk, (T.exi.c "InvalidMask" (by decide +kernel)).hs, (T.exi.c "InvalidMask" (by decide +kernel)).hd⟩, T.cn_InvalidMask⟩, ⟨⟨(T.exi.c "InvalidOp" (by decide +kernel)).hg, (T.exi.c "InvalidOp" (by decide +kernel)).hk, (T.exi.c "InvalidOp" (by decide +kernel)).hs, (T.exi.c "InvalidOp" (by decide +kernel)).hd⟩, T.cn_InvalidOp⟩, ⟨⟨(T.exi.c "InvalidBlock" (by decide +kernel)).hg, (T.exi.c "InvalidBlock" (by decide +kernel)).hk, (T.exi.c "InvalidBlock" (by decide +kernel)).hs, (T.exi.c "InvalidBlock" (by decide +kernel)).hd⟩, T.cn_InvalidBlock⟩, ⟨⟨(T.exi.c "InvalidPage" (by decide +kernel)).hg, (T.exi.c "InvalidPage" (by decide +kernel)).hk, (T.exi.c "InvalidPage" (by decide +kernel)).hs, (T.exi.c "InvalidPage" (by decide +kernel)).hd⟩, T.cn_InvalidPage⟩, ⟨⟨(T.exi.c "InvalidShape" (by decide +kernel)).hg, (T.exi.c "InvalidShape" (by decide +kernel)).hk, (T.exi.c "InvalidShape" (by decide +kernel)).hs, (T.exi.c "InvalidShape" (by decide +kernel)).hd⟩, T.cn_InvalidShape⟩, ⟨⟨(T.exi.c "InvalidImage" (by decide +kernel)).hg, (T.exi.c "InvalidImage" (by decide +kernel)).hk, (T.exi.c "InvalidImage" (by decide +kernel)).hs, (T.exi.c "InvalidImage" (by decide +kernel)).hd⟩, T.cn_InvalidImage⟩, ⟨⟨(T.exi.c "InvalidData" (by decide +kernel)).hg, (T.exi.c "InvalidData" (by decide +kernel)).hk, (T.exi.c "InvalidData" (by decide +kernel)).hs, (T.exi.c "InvalidData" (by decide +kernel)).hd⟩, T.cn_InvalidData⟩, ⟨⟨(T.exi.c "InvalidRecord" (by decide +kernel)).hg, (T.exi.c "InvalidRecord" (by decide +kernel)).hk, (T.exi.c "InvalidRecord" (by decide +kernel)).hs, (T.exi.c "InvalidRecord" (by decide +kernel)).hd⟩, T.cn_InvalidRecord⟩, ⟨⟨(T.exi.c "InvalidPath" (by decide +kernel)).hg, (T.exi.c "InvalidPath" (by decide +kernel)).hk, (T.exi.c "InvalidPath" (by decide +kernel)).hs, (T.exi.c "InvalidPath" (by decide +kernel)).hd⟩, T.cn_InvalidPath⟩, ⟨⟨(T.exi.c "InvalidDeed" (by decide +kernel)).hg, (T.exi.c "InvalidDeed" (by decide +kernel)).hk, (T.exi.c "InvalidDeed" (by decide +kernel)).hs, (T.exi.c "InvalidDeed" (by decide +kernel)).hd⟩, T.cn_InvalidDeed⟩, ⟨⟨(T.exi.c "InvalidLine" (by decide +kernel)).hg, (T.exi.c "InvalidLine" (by decide +kernel)).hk, (T.exi.c "InvalidLine" (by decide +kernel)).hs, (T.exi.c "InvalidLine" (by decide +kernel)).hd⟩, T.cn_InvalidLine⟩, ⟨⟨(T.exi.c "InvalidScript" (by decide +kernel)).hg, (T.exi.c "InvalidScript" (by decide +kernel)).hk, (T.exi.c "InvalidScript" (by decide +kernel)).hs, (T.exi.c "InvalidScript" (by decide +kernel)).hd⟩, T.cn_InvalidScript⟩, ⟨⟨(T.exi.c "InvalidTree" (by decide +kernel)).hg, (T.exi.c "InvalidTree" (by decide +kernel)).hk, (T.exi.c "InvalidTree" (by decide +kernel)).hs, (T.exi.c "InvalidTree" (by decide +kernel)).hd⟩, T.cn_InvalidTree⟩, ⟨⟨(T.exi.c "InvalidChip" (by decide +kernel)).hg, (T.exi.c "InvalidChip" (by decide +kernel)).hk, (T.exi.c "InvalidChip" (by decide +kernel)).hs, (T.exi.c "InvalidChip" (by decide +kernel)).hd⟩, T.cn_InvalidChip⟩, ⟨⟨(T.exi.c "InvalidRecords" (by decide +kernel)).hg, (T.exi.c "InvalidRecords" (by decide +kernel)).hk, (T.exi.c "InvalidRecords" (by decide +kernel)).hs, (T.exi.c "InvalidRecords" (by decide +kernel)).hd⟩, T.cn_InvalidRecords⟩, ⟨⟨(T.exi.c "InvalidName" (by decide +kernel)).hg, (T.exi.c "InvalidName" (by decide +kernel)).hk, (T.exi.c "InvalidName" (by decide +kernel)).hs, (T.exi.c "InvalidName" (by decide +kernel)).hd⟩, T.cn_InvalidName⟩, ⟨⟨(T.exi.c "InvalidPlans" (by decide +kernel)).hg, (T.exi.c "InvalidPlans" (by decide +kernel)).hk, (T.exi.c "InvalidPlans" (by decide +kernel)).hs, (T.exi.c "InvalidPlans" (by decide +kernel)).hd⟩, T.cn_InvalidPlans⟩, trivial⟩
theorem xf_name (T : Txt K mg base) : ∀ C ∈ XF_name, ExF K C "name" := all_in ⟨⟨⟨(T.exi.c "NoThing" (by decide +kernel)).hg, (T.exi.c "NoThing" (by decide +kernel)).hk, (T.exi.c "NoThing" (by decide +kernel)).hs, (T.exi.c "NoThing" (by decide +kernel)).hd⟩, T.cn_NoThing⟩, trivial⟩
theorem xf_op (T : Txt K mg base) : ∀ C ∈ XF_op, ExF K C "op" := all_in ⟨⟨⟨(T.exi.c "PowerCut" (by decide +kernel)).hg, (T.exi.c "PowerCut" (by decide +kernel)).hk, (T.exi.c "PowerCut" (by decide +kernel)).hs, (T.exi.c "PowerCut" (by decide +kernel)).hd⟩, T.cn_PowerCut⟩, trivial⟩
theorem sc__law_cell : FnScope ["_law_script", "_law_k"] ["_law_script", "_law_k"] (defScope s__law_cell) := ⟨rfl, rfl, rfl, by decide +kernel, rfl, by decide +kernel, by decide +kernel⟩
theorem b__law_cell (T : Txt K mg base) : Binds K T.fd__law_cell ["_law_script", "_law_k"] [] := T.F__law_cell.binds fun _ _ _ _ _ _ us hl => match us, hl with | [_, _], _ => rfl
theorem d__law_cell (T : Txt K mg base) : FnM P w K mg base 1 T.f__law_cell T.fd__law_cell ["_law_script", "_law_k"] R__law_cell :=
  fnm_body T.F__law_cell sc__law_cell fun cdv A outer s H E hr => by
    have tk : Takes (cxOf (L2N.CX P w) P w K mg base ["_law_script", "_law_k"] "_law_cell" (defScope s__law_cell) T.f__law_cell cdv A outer s H E) (fun c d _ H' => E c d H') := takes_of rfl rfl rfl rfl
    show DSs _ _ (defBody s__law_cell) m__law_cell
    exact (dss_one (ds_ret (de_if (dt_cmp dop_lt (dv 1) (de_callB dc_len rfl T.n_len bt_len (da_cons (dv 0) da_nil)) (nomark _)) (de_ix (dv 0) (dv 1)) (de_op dop_add (de_op dop_mul de_int (dv 1)) (de_op dop_mod (de_callB (dc_sum rfl) rfl T.n_sum bt_sum (da_cons (de_slice (dv 0) do_none (do_some de_int)) da_nil)) de_int)))))
theorem O__law_cell (T : Txt K mg base) : FnM P w K mg base 1 T.f__law_cell T.fd__law_cell ["_law_script", "_law_k"] R__law_cell := d__law_cell T
theorem sc__law_box : FnScope ["_law_great"] ["_law_great"] (defScope s__law_box) := ⟨rfl, rfl, rfl, by decide +kernel, rfl, by decide +kernel, by decide +kernel⟩
theorem b__law_box (T : Txt K mg base) : Binds K T.fd__law_box ["_law_great"] [] := T.F__law_box.binds fun _ _ _ _ _ _ us hl => match us, hl with | [_], _ => rfl
theorem d__law_box (T : Txt K mg base) : FnM P w K mg base 1 T.f__law_box T.fd__law_box ["_law_great"] R__law_box :=
  fnm_body T.F__law_box sc__law_box fun cdv A outer s H E hr => by
    have tk : Takes (cxOf (L2N.CX P w) P w K mg base ["_law_great"] "_law_box" (defScope s__law_box) T.f__law_box cdv A outer s H E) (fun c d _ H' => E c d H') := takes_of rfl rfl rfl rfl
    show DSs _ _ (defBody s__law_box) m__law_box
    exact (dss_one (ds_ret (de_lst (da_cons (de_callB dc_abs rfl T.n_abs bt_abs (da_cons (dv 0) da_nil)) (da_cons (de_cmp dop_ge (de_callB dc_abs rfl T.n_abs bt_abs (da_cons (dv 0) da_nil)) (de_op dop_pow de_int de_int) (nomark _)) (da_cons (de_op dop_mod (de_callTy dc_int rfl T.n_int bt_int (da_cons (de_callB dc_abs rfl T.n_abs bt_abs (da_cons (dv 0) da_nil)) da_nil)) de_int) (da_cons de_int da_nil)))))))
theorem O__law_box (T : Txt K mg base) : FnM P w K mg base 1 T.f__law_box T.fd__law_box ["_law_great"] R__law_box := d__law_box T
theorem sc__law_take : FnScope ["_law_box_here", "_law_many", "_law_digit", "_law_mixed"] ["_law_box_here", "_law_many"] (defScope s__law_take) := ⟨rfl, rfl, rfl, by decide +kernel, rfl, by decide +kernel, by decide +kernel⟩
theorem b__law_take (T : Txt K mg base) : Binds K T.fd__law_take ["_law_box_here", "_law_many"] [] := T.F__law_take.binds fun _ _ _ _ _ _ us hl => match us, hl with | [_, _], _ => rfl
theorem d__law_take (T : Txt K mg base) : FnM P w K mg base 1 T.f__law_take T.fd__law_take ["_law_box_here", "_law_many"] R__law_take :=
  fnm_body T.F__law_take sc__law_take fun cdv A outer s H E hr => by
    have tk : Takes (cxOf (L2N.CX P w) P w K mg base ["_law_box_here", "_law_many", "_law_digit", "_law_mixed"] "_law_take" (defScope s__law_take) T.f__law_take cdv A outer s H E) (fun c d _ H' => E c d H') := takes_of rfl rfl rfl rfl
    show DSs _ _ (defBody s__law_take) m__law_take
    exact (dss_cons (ds_if (DW.dt (dw_and (dt_tru (de_ix (dv 0) de_int)) (dw_and1 (dt_cmp dop_gt (de_ix (dv 0) de_int) de_int (nomark _))))) (dss_cons (ds_set (i := 2) sc__law_take.nd rfl (by first | exact Or.inl rfl | exact Or.inr rfl) (de_op dop_mod (de_callTy dc_int rfl T.n_int bt_int (da_cons (de_ix (dv 0) de_int) da_nil)) (dv 1)))
    (dss_cons (ds_asg (de_op dop_div (de_ix (dv 0) de_int) (dv 1)) (dg_sub (dv 0) de_int))
    (dss_one (ds_ret (dv 2))))) dss_nil)
    (dss_cons (ds_asg (de_op dop_add (de_ix (dv 0) de_int) de_int) (dg_sub (dv 0) de_int))
    (dss_cons (ds_set (i := 3) sc__law_take.nd rfl (by first | exact Or.inl rfl | exact Or.inr rfl) (de_op dop_mod (de_callTy dc_int rfl T.n_int bt_int (da_cons (de_op dop_pow (de_op dop_add (de_op dop_add (de_ix (dv 0) de_int) (de_op dop_mul de_int (de_ix (dv 0) de_int))) de_int) de_int) da_nil)) de_int))
    (dss_one (ds_ret (de_op dop_mod (de_op dop_div (de_op dop_mod (de_callTy dc_int rfl T.n_int bt_int (da_cons (de_op dop_pow (de_op dop_add (de_op dop_mul (dv 3) de_int) (de_op dop_mul de_int (de_ix (dv 0) de_int))) de_int) da_nil)) de_int) de_int) (dv 1)))))))
theorem O__law_take (T : Txt K mg base) : FnM P w K mg base 1 T.f__law_take T.fd__law_take ["_law_box_here", "_law_many"] R__law_take := d__law_take T
theorem sc__law_by_place : FnScope ["_law_thing_here", "_law_found"] ["_law_thing_here"] (defScope s__law_by_place) := ⟨rfl, rfl, rfl, by decide +kernel, rfl, by decide +kernel, by decide +kernel⟩
theorem b__law_by_place (T : Txt K mg base) : Binds K T.fd__law_by_place ["_law_thing_here"] [] := T.F__law_by_place.binds fun _ _ _ _ _ _ us hl => match us, hl with | [_], _ => rfl
theorem d__law_by_place (T : Txt K mg base) : FnM P w K mg base 3 T.f__law_by_place T.fd__law_by_place ["_law_thing_here"] R__law_by_place :=
  fnm_body T.F__law_by_place sc__law_by_place fun cdv A outer s H E hr => by
    have tk : Takes (cxOf (L2N.CX P w) P w K mg base ["_law_thing_here", "_law_found"] "_law_by_place" (defScope s__law_by_place) T.f__law_by_place cdv A outer s H E) (fun c d _ H' => E c d H') := takes_of rfl rfl rfl rfl
    show DSs _ _ (defBody s__law_by_place) m__law_by_place
    exact (dss_cons (ds_set (i := 1) sc__law_by_place.nd rfl (by first | exact Or.inl rfl | exact Or.inr rfl) (de_lst (da_cons (de_exv (xo_InvalidOctets T) tk (hr.mono (by decide)) rfl (dv 0)) (da_cons (de_exv (xo_InvalidCount T) tk (hr.mono (by decide)) rfl (dv 0)) (da_cons (de_exv (xo_InvalidNumber T) tk (hr.mono (by decide)) rfl (dv 0)) (da_cons (de_exv (xo_InvalidMask T) tk (hr.mono (by decide)) rfl (dv 0)) (da_cons (de_exv (xo_InvalidOp T) tk (hr.mono (by decide)) rfl (dv 0)) da_nil)))))))
    (dss_cons (ds_set (i := 1) sc__law_by_place.nd rfl (by first | exact Or.inl rfl | exact Or.inr rfl) (de_op dop_add (dv 1) (de_lst (da_cons (de_exv (xo_InvalidBlock T) tk (hr.mono (by decide)) rfl (dv 0)) (da_cons (de_exv (xo_InvalidPage T) tk (hr.mono (by decide)) rfl (dv 0)) (da_cons (de_exv (xo_InvalidShape T) tk (hr.mono (by decide)) rfl (dv 0)) (da_cons (de_exv (xo_InvalidImage T) tk (hr.mono (by decide)) rfl (dv 0)) da_nil)))))))
    (dss_cons (ds_set (i := 1) sc__law_by_place.nd rfl (by first | exact Or.inl rfl | exact Or.inr rfl) (de_op dop_add (dv 1) (de_lst (da_cons (de_exv (xo_InvalidData T) tk (hr.mono (by decide)) rfl (dv 0)) (da_cons (de_exv (xo_InvalidRecord T) tk (hr.mono (by decide)) rfl (dv 0)) (da_cons (de_exv (xo_InvalidPath T) tk (hr.mono (by decide)) rfl (dv 0)) (da_cons (de_exv (xo_InvalidDeed T) tk (hr.mono (by decide)) rfl (dv 0)) da_nil)))))))
    (dss_cons (ds_set (i := 1) sc__law_by_place.nd rfl (by first | exact Or.inl rfl | exact Or.inr rfl) (de_op dop_add (dv 1) (de_lst (da_cons (de_exv (xo_InvalidLine T) tk (hr.mono (by decide)) rfl (dv 0)) (da_cons (de_exv (xo_InvalidScript T) tk (hr.mono (by decide)) rfl (dv 0)) (da_cons (de_exv (xo_InvalidTree T) tk (hr.mono (by decide)) rfl (dv 0)) (da_cons (de_exv (xo_InvalidChip T) tk (hr.mono (by decide)) rfl (dv 0)) da_nil)))))))
    (dss_cons (ds_set (i := 1) sc__law_by_place.nd rfl (by first | exact Or.inl rfl | exact Or.inr rfl) (de_op dop_add (dv 1) (de_lst (da_cons (de_exv (xo_InvalidRecords T) tk (hr.mono (by decide)) rfl (dv 0)) (da_cons (de_exv (xo_InvalidName T) tk (hr.mono (by decide)) rfl (dv 0)) (da_cons (de_exv (xo_InvalidPlans T) tk (hr.mono (by decide)) rfl (dv 0)) da_nil))))))
    (dss_one (ds_ret (de_op dop_add (dv 1) (de_lst (da_cons (de_exv (xo_PowerCut T) tk (hr.mono (by decide)) rfl (dv 0)) (da_cons (de_exv (xo_TooMany T) tk (hr.mono (by decide)) rfl (dv 0)) (da_cons (de_exv (xo_NoThing T) tk (hr.mono (by decide)) rfl (dv 0)) da_nil))))))))))))
theorem O__law_by_place (T : Txt K mg base) : FnM P w K mg base 3 T.f__law_by_place T.fd__law_by_place ["_law_thing_here"] R__law_by_place := d__law_by_place T
theorem sc__law_by_name : FnScope ["_law_thing_here", "_law_found"] ["_law_thing_here"] (defScope s__law_by_name) := ⟨rfl, rfl, rfl, by decide +kernel, rfl, by decide +kernel, by decide +kernel⟩
theorem b__law_by_name (T : Txt K mg base) : Binds K T.fd__law_by_name ["_law_thing_here"] [] := T.F__law_by_name.binds fun _ _ _ _ _ _ us hl => match us, hl with | [_], _ => rfl
theorem d__law_by_name (T : Txt K mg base) : FnM P w K mg base 3 T.f__law_by_name T.fd__law_by_name ["_law_thing_here"] R__law_by_name :=
  fnm_body T.F__law_by_name sc__law_by_name fun cdv A outer s H E hr => by
    have tk : Takes (cxOf (L2N.CX P w) P w K mg base ["_law_thing_here", "_law_found"] "_law_by_name" (defScope s__law_by_name) T.f__law_by_name cdv A outer s H E) (fun c d _ H' => E c d H') := takes_of rfl rfl rfl rfl
    show DSs _ _ (defBody s__law_by_name) m__law_by_name
    exact (dss_cons (ds_set (i := 1) sc__law_by_name.nd rfl (by first | exact Or.inl rfl | exact Or.inr rfl) (de_lst (da_cons (de_exvK (xo_InvalidOctets T) tk (hr.mono (by decide)) rfl (dv 0)) (da_cons (de_exvK (xo_InvalidCount T) tk (hr.mono (by decide)) rfl (dv 0)) (da_cons (de_exvK (xo_InvalidNumber T) tk (hr.mono (by decide)) rfl (dv 0)) da_nil)))))
    (dss_cons (ds_set (i := 1) sc__law_by_name.nd rfl (by first | exact Or.inl rfl | exact Or.inr rfl) (de_op dop_add (dv 1) (de_lst (da_cons (de_exvK (xo_InvalidMask T) tk (hr.mono (by decide)) rfl (dv 0)) (da_cons (de_exvK (xo_InvalidOp T) tk (hr.mono (by decide)) rfl (dv 0)) (da_cons (de_exvK (xo_InvalidBlock T) tk (hr.mono (by decide)) rfl (dv 0)) da_nil))))))
    (dss_cons (ds_set (i := 1) sc__law_by_name.nd rfl (by first | exact Or.inl rfl | exact Or.inr rfl) (de_op dop_add (dv 1) (de_lst (da_cons (de_exvK (xo_InvalidPage T) tk (hr.mono (by decide)) rfl (dv 0)) (da_cons (de_exvK (xo_InvalidShape T) tk (hr.mono (by decide)) rfl (dv 0)) (da_cons (de_exvK (xo_InvalidImage T) tk (hr.mono (by decide)) rfl (dv 0)) da_nil))))))
    (dss_cons (ds_set (i := 1) sc__law_by_name.nd rfl (by first | exact Or.inl rfl | exact Or.inr rfl) (de_op dop_add (dv 1) (de_lst (da_cons (de_exvK (xo_InvalidData T) tk (hr.mono (by decide)) rfl (dv 0)) (da_cons (de_exvK (xo_InvalidRecord T) tk (hr.mono (by decide)) rfl (dv 0)) (da_cons (de_exvK (xo_InvalidPath T) tk (hr.mono (by decide)) rfl (dv 0)) da_nil))))))
    (dss_cons (ds_set (i := 1) sc__law_by_name.nd rfl (by first | exact Or.inl rfl | exact Or.inr rfl) (de_op dop_add (dv 1) (de_lst (da_cons (de_exvK (xo_InvalidDeed T) tk (hr.mono (by decide)) rfl (dv 0)) (da_cons (de_exvK (xo_InvalidLine T) tk (hr.mono (by decide)) rfl (dv 0)) (da_cons (de_exvK (xo_InvalidScript T) tk (hr.mono (by decide)) rfl (dv 0)) da_nil))))))
    (dss_cons (ds_set (i := 1) sc__law_by_name.nd rfl (by first | exact Or.inl rfl | exact Or.inr rfl) (de_op dop_add (dv 1) (de_lst (da_cons (de_exvK (xo_InvalidTree T) tk (hr.mono (by decide)) rfl (dv 0)) (da_cons (de_exvK (xo_InvalidChip T) tk (hr.mono (by decide)) rfl (dv 0)) (da_cons (de_exvK (xo_InvalidRecords T) tk (hr.mono (by decide)) rfl (dv 0)) da_nil))))))
    (dss_cons (ds_set (i := 1) sc__law_by_name.nd rfl (by first | exact Or.inl rfl | exact Or.inr rfl) (de_op dop_add (dv 1) (de_lst (da_cons (de_exvK (xo_InvalidName T) tk (hr.mono (by decide)) rfl (dv 0)) (da_cons (de_exvK (xo_InvalidPlans T) tk (hr.mono (by decide)) rfl (dv 0)) da_nil)))))
    (dss_one (ds_ret (de_op dop_add (dv 1) (de_lst (da_cons (de_exvK (xo_PowerCut T) tk (hr.mono (by decide)) rfl (dv 0)) (da_cons (de_exvK (xo_TooMany T) tk (hr.mono (by decide)) rfl (dv 0)) (da_cons (de_exvK (xo_NoThing T) tk (hr.mono (by decide)) rfl (dv 0)) da_nil))))))))))))))
theorem O__law_by_name (T : Txt K mg base) : FnM P w K mg base 3 T.f__law_by_name T.fd__law_by_name ["_law_thing_here"] R__law_by_name := d__law_by_name T
theorem sc__law_sorts : FnScope ["_law_e", "_law_found"] ["_law_e"] (defScope s__law_sorts) := ⟨rfl, rfl, rfl, by decide +kernel, rfl, by decide +kernel, by decide +kernel⟩
theorem b__law_sorts (T : Txt K mg base) : Binds K T.fd__law_sorts ["_law_e"] [] := T.F__law_sorts.binds fun _ _ _ _ _ _ us hl => match us, hl with | [_], _ => rfl
theorem d__law_sorts (T : Txt K mg base) : FnM P w K mg base 1 T.f__law_sorts T.fd__law_sorts ["_law_e"] R__law_sorts :=
  fnm_body T.F__law_sorts sc__law_sorts fun cdv A outer s H E hr => by
    have tk : Takes (cxOf (L2N.CX P w) P w K mg base ["_law_e", "_law_found"] "_law_sorts" (defScope s__law_sorts) T.f__law_sorts cdv A outer s H E) (fun c d _ H' => E c d H') := takes_of rfl rfl rfl rfl
    show DSs _ _ (defBody s__law_sorts) m__law_sorts
    exact (dss_cons (ds_set (i := 1) sc__law_sorts.nd rfl (by first | exact Or.inl rfl | exact Or.inr rfl) (de_lst (da_cons (de_callB (dc_isV T.exi nB) rfl T.n_isinstance bt_isinstance (da_cons (dv 0) (da_cons (de_gcls T.cg_InvalidOctets) da_nil))) (da_cons (de_callB (dc_isV T.exi nB) rfl T.n_isinstance bt_isinstance (da_cons (dv 0) (da_cons (de_gcls T.cg_InvalidCount) da_nil))) (da_cons (de_callB (dc_isV T.exi nB) rfl T.n_isinstance bt_isinstance (da_cons (dv 0) (da_cons (de_gcls T.cg_InvalidNumber) da_nil))) da_nil)))))
    (dss_cons (ds_set (i := 1) sc__law_sorts.nd rfl (by first | exact Or.inl rfl | exact Or.inr rfl) (de_op dop_add (dv 1) (de_lst (da_cons (de_callB (dc_isV T.exi nB) rfl T.n_isinstance bt_isinstance (da_cons (dv 0) (da_cons (de_gcls T.cg_InvalidMask) da_nil))) (da_cons (de_callB (dc_isV T.exi nB) rfl T.n_isinstance bt_isinstance (da_cons (dv 0) (da_cons (de_gcls T.cg_InvalidOp) da_nil))) (da_cons (de_callB (dc_isV T.exi nB) rfl T.n_isinstance bt_isinstance (da_cons (dv 0) (da_cons (de_gcls T.cg_InvalidBlock) da_nil))) da_nil))))))
    (dss_cons (ds_set (i := 1) sc__law_sorts.nd rfl (by first | exact Or.inl rfl | exact Or.inr rfl) (de_op dop_add (dv 1) (de_lst (da_cons (de_callB (dc_isV T.exi nB) rfl T.n_isinstance bt_isinstance (da_cons (dv 0) (da_cons (de_gcls T.cg_InvalidPage) da_nil))) (da_cons (de_callB (dc_isV T.exi nB) rfl T.n_isinstance bt_isinstance (da_cons (dv 0) (da_cons (de_gcls T.cg_InvalidShape) da_nil))) (da_cons (de_callB (dc_isV T.exi nB) rfl T.n_isinstance bt_isinstance (da_cons (dv 0) (da_cons (de_gcls T.cg_InvalidImage) da_nil))) da_nil))))))
    (dss_cons (ds_set (i := 1) sc__law_sorts.nd rfl (by first | exact Or.inl rfl | exact Or.inr rfl) (de_op dop_add (dv 1) (de_lst (da_cons (de_callB (dc_isV T.exi nB) rfl T.n_isinstance bt_isinstance (da_cons (dv 0) (da_cons (de_gcls T.cg_InvalidData) da_nil))) (da_cons (de_callB (dc_isV T.exi nB) rfl T.n_isinstance bt_isinstance (da_cons (dv 0) (da_cons (de_gcls T.cg_InvalidRecord) da_nil))) (da_cons (de_callB (dc_isV T.exi nB) rfl T.n_isinstance bt_isinstance (da_cons (dv 0) (da_cons (de_gcls T.cg_InvalidPath) da_nil))) da_nil))))))
    (dss_cons (ds_set (i := 1) sc__law_sorts.nd rfl (by first | exact Or.inl rfl | exact Or.inr rfl) (de_op dop_add (dv 1) (de_lst (da_cons (de_callB (dc_isV T.exi nB) rfl T.n_isinstance bt_isinstance (da_cons (dv 0) (da_cons (de_gcls T.cg_InvalidDeed) da_nil))) (da_cons (de_callB (dc_isV T.exi nB) rfl T.n_isinstance bt_isinstance (da_cons (dv 0) (da_cons (de_gcls T.cg_InvalidLine) da_nil))) (da_cons (de_callB (dc_isV T.exi nB) rfl T.n_isinstance bt_isinstance (da_cons (dv 0) (da_cons (de_gcls T.cg_InvalidScript) da_nil))) da_nil))))))
    (dss_cons (ds_set (i := 1) sc__law_sorts.nd rfl (by first | exact Or.inl rfl | exact Or.inr rfl) (de_op dop_add (dv 1) (de_lst (da_cons (de_callB (dc_isV T.exi nB) rfl T.n_isinstance bt_isinstance (da_cons (dv 0) (da_cons (de_gcls T.cg_InvalidTree) da_nil))) (da_cons (de_callB (dc_isV T.exi nB) rfl T.n_isinstance bt_isinstance (da_cons (dv 0) (da_cons (de_gcls T.cg_InvalidChip) da_nil))) (da_cons (de_callB (dc_isV T.exi nB) rfl T.n_isinstance bt_isinstance (da_cons (dv 0) (da_cons (de_gcls T.cg_InvalidRecords) da_nil))) da_nil))))))
    (dss_cons (ds_set (i := 1) sc__law_sorts.nd rfl (by first | exact Or.inl rfl | exact Or.inr rfl) (de_op dop_add (dv 1) (de_lst (da_cons (de_callB (dc_isV T.exi nB) rfl T.n_isinstance bt_isinstance (da_cons (dv 0) (da_cons (de_gcls T.cg_InvalidName) da_nil))) (da_cons (de_callB (dc_isV T.exi nB) rfl T.n_isinstance bt_isinstance (da_cons (dv 0) (da_cons (de_gcls T.cg_InvalidPlans) da_nil))) (da_cons (de_callB (dc_isV T.exi nB) rfl T.n_isinstance bt_isinstance (da_cons (dv 0) (da_cons (de_gcls T.cg_PowerCut) da_nil))) da_nil))))))
    (dss_cons (ds_set (i := 1) sc__law_sorts.nd rfl (by first | exact Or.inl rfl | exact Or.inr rfl) (de_op dop_add (dv 1) (de_lst (da_cons (de_callB (dc_isV T.exi nB) rfl T.n_isinstance bt_isinstance (da_cons (dv 0) (da_cons (de_gcls T.cg_TooMany) da_nil))) (da_cons (de_callB (dc_isV T.exi nB) rfl T.n_isinstance bt_isinstance (da_cons (dv 0) (da_cons (de_gcls T.cg_NoThing) da_nil))) da_nil)))))
    (dss_one (ds_ret (de_op dop_add (dv 1) (de_lst (da_cons (de_callB (dc_isV T.exi nB) rfl T.n_isinstance bt_isinstance (da_cons (dv 0) (da_cons (de_gcls T.cg_NotReady) da_nil))) (da_cons (de_callB (dc_isV T.exi nB) rfl T.n_isinstance bt_isinstance (da_cons (dv 0) (da_cons (de_gcls T.cg_NoRoom) da_nil))) (da_cons (de_callB (dc_isV T.exi nB) rfl T.n_isinstance bt_isinstance (da_cons (dv 0) (da_cons (de_gcls T.cg_NothingToUndo) da_nil))) da_nil)))))))))))))))
theorem O__law_sorts (T : Txt K mg base) : FnM P w K mg base 1 T.f__law_sorts T.fd__law_sorts ["_law_e"] R__law_sorts := d__law_sorts T
theorem OX__law_sorts (T : Txt K mg base) : FnX P w K mg base 1 T.f__law_sorts T.fd__law_sorts ["_law_e"] RX__law_sorts :=
  fnx_body T.F__law_sorts sc__law_sorts fun cdv A outer s H p C fs gs d hot hr hz hf => by
    have tk : Takes (L2H.cxH (L2N.CX P w) P w K mg base ["_law_e", "_law_found"] "_law_sorts" (defScope s__law_sorts) T.f__law_sorts cdv A outer s H (fun _ _ _ => False) p) (fun _ _ _ _ => False) := takesF
    have hold := holds_def (CX := L2N.CX P w) (P := P) (w := w) (mg := mg) (base := base) (N := ["_law_e", "_law_found"]) (q := "_law_sorts") (sc := defScope s__law_sorts) (f := T.f__law_sorts) (cdv := cdv) (outer := outer) (s := s) (H := H) (E := fun _ _ _ => False) hot hz hf
    show DSs _ _ (defBody s__law_sorts) (mX__law_sorts C fs)
    exact (dss_cons (ds_set (i := 1) sc__law_sorts.nd rfl (by first | exact Or.inl rfl | exact Or.inr rfl) (de_lst (da_cons (de_isZ (i := 0) T.exi nB hold rfl (Or.inl rfl) rfl T.cg_InvalidOctets rfl T.n_isinstance) (da_cons (de_isZ (i := 0) T.exi nB hold rfl (Or.inl rfl) rfl T.cg_InvalidCount rfl T.n_isinstance) (da_cons (de_isZ (i := 0) T.exi nB hold rfl (Or.inl rfl) rfl T.cg_InvalidNumber rfl T.n_isinstance) da_nil)))))
    (dss_cons (ds_set (i := 1) sc__law_sorts.nd rfl (by first | exact Or.inl rfl | exact Or.inr rfl) (de_op dop_add (dv 1) (de_lst (da_cons (de_isZ (i := 0) T.exi nB hold rfl (Or.inl rfl) rfl T.cg_InvalidMask rfl T.n_isinstance) (da_cons (de_isZ (i := 0) T.exi nB hold rfl (Or.inl rfl) rfl T.cg_InvalidOp rfl T.n_isinstance) (da_cons (de_isZ (i := 0) T.exi nB hold rfl (Or.inl rfl) rfl T.cg_InvalidBlock rfl T.n_isinstance) da_nil))))))
    (dss_cons (ds_set (i := 1) sc__law_sorts.nd rfl (by first | exact Or.inl rfl | exact Or.inr rfl) (de_op dop_add (dv 1) (de_lst (da_cons (de_isZ (i := 0) T.exi nB hold rfl (Or.inl rfl) rfl T.cg_InvalidPage rfl T.n_isinstance) (da_cons (de_isZ (i := 0) T.exi nB hold rfl (Or.inl rfl) rfl T.cg_InvalidShape rfl T.n_isinstance) (da_cons (de_isZ (i := 0) T.exi nB hold rfl (Or.inl rfl) rfl T.cg_InvalidImage rfl T.n_isinstance) da_nil))))))
    (dss_cons (ds_set (i := 1) sc__law_sorts.nd rfl (by first | exact Or.inl rfl | exact Or.inr rfl) (de_op dop_add (dv 1) (de_lst (da_cons (de_isZ (i := 0) T.exi nB hold rfl (Or.inl rfl) rfl T.cg_InvalidData rfl T.n_isinstance) (da_cons (de_isZ (i := 0) T.exi nB hold rfl (Or.inl rfl) rfl T.cg_InvalidRecord rfl T.n_isinstance) (da_cons (de_isZ (i := 0) T.exi nB hold rfl (Or.inl rfl) rfl T.cg_InvalidPath rfl T.n_isinstance) da_nil))))))
    (dss_cons (ds_set (i := 1) sc__law_sorts.nd rfl (by first | exact Or.inl rfl | exact Or.inr rfl) (de_op dop_add (dv 1) (de_lst (da_cons (de_isZ (i := 0) T.exi nB hold rfl (Or.inl rfl) rfl T.cg_InvalidDeed rfl T.n_isinstance) (da_cons (de_isZ (i := 0) T.exi nB hold rfl (Or.inl rfl) rfl T.cg_InvalidLine rfl T.n_isinstance) (da_cons (de_isZ (i := 0) T.exi nB hold rfl (Or.inl rfl) rfl T.cg_InvalidScript rfl T.n_isinstance) da_nil))))))
    (dss_cons (ds_set (i := 1) sc__law_sorts.nd rfl (by first | exact Or.inl rfl | exact Or.inr rfl) (de_op dop_add (dv 1) (de_lst (da_cons (de_isZ (i := 0) T.exi nB hold rfl (Or.inl rfl) rfl T.cg_InvalidTree rfl T.n_isinstance) (da_cons (de_isZ (i := 0) T.exi nB hold rfl (Or.inl rfl) rfl T.cg_InvalidChip rfl T.n_isinstance) (da_cons (de_isZ (i := 0) T.exi nB hold rfl (Or.inl rfl) rfl T.cg_InvalidRecords rfl T.n_isinstance) da_nil))))))
    (dss_cons (ds_set (i := 1) sc__law_sorts.nd rfl (by first | exact Or.inl rfl | exact Or.inr rfl) (de_op dop_add (dv 1) (de_lst (da_cons (de_isZ (i := 0) T.exi nB hold rfl (Or.inl rfl) rfl T.cg_InvalidName rfl T.n_isinstance) (da_cons (de_isZ (i := 0) T.exi nB hold rfl (Or.inl rfl) rfl T.cg_InvalidPlans rfl T.n_isinstance) (da_cons (de_isZ (i := 0) T.exi nB hold rfl (Or.inl rfl) rfl T.cg_PowerCut rfl T.n_isinstance) da_nil))))))
    (dss_cons (ds_set (i := 1) sc__law_sorts.nd rfl (by first | exact Or.inl rfl | exact Or.inr rfl) (de_op dop_add (dv 1) (de_lst (da_cons (de_isZ (i := 0) T.exi nB hold rfl (Or.inl rfl) rfl T.cg_TooMany rfl T.n_isinstance) (da_cons (de_isZ (i := 0) T.exi nB hold rfl (Or.inl rfl) rfl T.cg_NoThing rfl T.n_isinstance) da_nil)))))
    (dss_one (ds_ret (de_op dop_add (dv 1) (de_lst (da_cons (de_isZ (i := 0) T.exi nB hold rfl (Or.inl rfl) rfl T.cg_NotReady rfl T.n_isinstance) (da_cons (de_isZ (i := 0) T.exi nB hold rfl (Or.inl rfl) rfl T.cg_NoRoom rfl T.n_isinstance) (da_cons (de_isZ (i := 0) T.exi nB hold rfl (Or.inl rfl) rfl T.cg_NothingToUndo rfl T.n_isinstance) da_nil)))))))))))))))
theorem sc__law_is : FnScope ["_law_e", "_law_spot", "_law_sorts_here", "_law_k"] ["_law_e", "_law_spot"] (defScope s__law_is) := ⟨rfl, rfl, rfl, by decide +kernel, rfl, by decide +kernel, by decide +kernel⟩
theorem b__law_is (T : Txt K mg base) : Binds K T.fd__law_is ["_law_e", "_law_spot"] [] := T.F__law_is.binds fun _ _ _ _ _ _ us hl => match us, hl with | [_, _], _ => rfl
theorem d__law_is (T : Txt K mg base) : FnM P w K mg base 2 T.f__law_is T.fd__law_is ["_law_e", "_law_spot"] R__law_is :=
  fnm_body T.F__law_is sc__law_is fun cdv A outer s H E hr => by
    have tk : Takes (cxOf (L2N.CX P w) P w K mg base ["_law_e", "_law_spot", "_law_sorts_here", "_law_k"] "_law_is" (defScope s__law_is) T.f__law_is cdv A outer s H E) (fun c d _ H' => E c d H') := takes_of rfl rfl rfl rfl
    show DSs _ _ (defBody s__law_is) m__law_is
    exact (dss_cons (ds_set (i := 2) sc__law_is.nd rfl (by first | exact Or.inl rfl | exact Or.inr rfl) (de_call (O__law_sorts T) (hr.mono (by decide)) tk rfl T.g__law_sorts T.F__law_sorts.kp (b__law_sorts T) (da_cons (dv 0) da_nil)))
    (dss_cons (ds_if (DW.dt (dw_or (dt_not (dt_tru (de_callB (dc_isV T.exi nB) rfl T.n_isinstance bt_isinstance (da_cons (dv 0) (da_cons (de_gcls T.cg_FlashError) da_nil))))) (dw_or1 (dt_not (dt_tru (de_callB (dc_isV T.exi nB) rfl T.n_isinstance bt_isinstance (da_cons (dv 0) (da_cons (de_bty T.n_ValueError PyProof.Rows.Boot.«ValueError») da_nil)))))))) (dss_one (ds_ret de_bl)) dss_nil)
    (dss_one (ds_ret (de_cmp (dop_eq (uG hr)) (de_lc (own := [("_law_k", 3)]) rfl sc__law_is.nd (di_range1 rfl T.n_range (da_cons (de_callB dc_len rfl T.n_len bt_len (da_cons (dv 2) da_nil)) da_nil) (fun _ _ _ _ e => ma_len e)) (blkOk_by (N := ["_law_e", "_law_spot", "_law_sorts_here", "_law_k"]) (sc := defScope s__law_is) (by decide +kernel)) (fun _ _ _ _ _ => (dgw_name (i := 3) sc__law_is.nd rfl (by first | exact Or.inl rfl | exact Or.inr rfl) (by decide))) (fun _ _ _ _ _ => (dts_one (dt_tru (de_ix (dv 2) (dv 3))))) (fun _ _ _ _ _ => (dv 3))) (de_lst (da_cons (dv 1) da_nil)) (nomark _))))))
theorem O__law_is (T : Txt K mg base) : FnM P w K mg base 2 T.f__law_is T.fd__law_is ["_law_e", "_law_spot"] R__law_is := d__law_is T
theorem OX__law_is (T : Txt K mg base) : FnX P w K mg base 2 T.f__law_is T.fd__law_is ["_law_e", "_law_spot"] RX__law_is :=
  fnx_body T.F__law_is sc__law_is fun cdv A outer s H p C fs gs d hot hr hz hf => by
    have tk : Takes (L2H.cxH (L2N.CX P w) P w K mg base ["_law_e", "_law_spot", "_law_sorts_here", "_law_k"] "_law_is" (defScope s__law_is) T.f__law_is cdv A outer s H (fun _ _ _ => False) p) (fun _ _ _ _ => False) := takesF
    have hold := holds_def (CX := L2N.CX P w) (P := P) (w := w) (mg := mg) (base := base) (N := ["_law_e", "_law_spot", "_law_sorts_here", "_law_k"]) (q := "_law_is") (sc := defScope s__law_is) (f := T.f__law_is) (cdv := cdv) (outer := outer) (s := s) (H := H) (E := fun _ _ _ => False) hot hz hf
    show DSs _ _ (defBody s__law_is) (mX__law_is C fs)
    exact (dss_cons (ds_set (i := 2) sc__law_is.nd rfl (by first | exact Or.inl rfl | exact Or.inr rfl) (de_callX (i := 0) (OX__law_sorts T) hold (L2H.RoomH.mono hr (by decide)) rfl T.g__law_sorts T.F__law_sorts.kp (b__law_sorts T) rfl (Or.inl rfl) da_nil (fun _ _ _ _ e => ma_len e) rfl))
    (dss_cons (ds_if (DW.dt (dw_or (dt_not (dt_tru (de_isZ (i := 0) T.exi nB hold rfl (Or.inl rfl) rfl T.cg_FlashError rfl T.n_isinstance))) (dw_or1 (dt_not (dt_tru (de_isZv (i := 0) T.exi hold rfl (Or.inl rfl) rfl T.n_ValueError rfl T.n_isinstance)))))) (dss_one (ds_ret de_bl)) dss_nil)
    (dss_one (ds_ret (de_cmp (dop_eq (uGh hr)) (de_lcH (own := [("_law_k", 3)]) hold.pin hold.hot sc__law_is.nd (dih_range1 rfl T.n_range (da_cons (de_callB dc_len rfl T.n_len bt_len (da_cons (dv 2) da_nil)) da_nil) (fun _ _ _ _ e => ma_len e)) (blkOk_by (N := ["_law_e", "_law_spot", "_law_sorts_here", "_law_k"]) (sc := defScope s__law_is) (by decide +kernel)) (fun _ _ _ _ _ => (dgw_name (i := 3) sc__law_is.nd rfl (by first | exact Or.inl rfl | exact Or.inr rfl) (by decide))) (fun _ _ _ _ _ => (dts_one (dt_tru (de_ix (dv 2) (dv 3))))) (fun _ _ _ _ _ => (dv 3))) (de_lst (da_cons (dv 1) da_nil)) (nomark _))))))
theorem sc__law_kept : FnScope ["_law_e"] ["_law_e"] (defScope s__law_kept) := ⟨rfl, rfl, rfl, by decide +kernel, rfl, by decide +kernel, by decide +kernel⟩
theorem b__law_kept (T : Txt K mg base) : Binds K T.fd__law_kept ["_law_e"] [] := T.F__law_kept.binds fun _ _ _ _ _ _ us hl => match us, hl with | [_], _ => rfl
theorem d__law_kept (T : Txt K mg base) : FnM P w K mg base 1 T.f__law_kept T.fd__law_kept ["_law_e"] R__law_kept :=
  fnm_body T.F__law_kept sc__law_kept fun cdv A outer s H E hr => by
    have tk : Takes (cxOf (L2N.CX P w) P w K mg base ["_law_e"] "_law_kept" (defScope s__law_kept) T.f__law_kept cdv A outer s H E) (fun c d _ H' => E c d H') := takes_of rfl rfl rfl rfl
    show DSs _ _ (defBody s__law_kept) m__law_kept
    exact (dss_cons (ds_if (dt_tru (de_callB (dc_isV T.exi nB) rfl T.n_isinstance bt_isinstance (da_cons (dv 0) (da_cons (de_gcls T.cg_PowerCut) da_nil)))) (dss_one (ds_ret (de_xfV (xf_op T) (dv 0)))) dss_nil)
    (dss_cons (ds_if (dt_tru (de_callB (dc_isV T.exi nB) rfl T.n_isinstance bt_isinstance (da_cons (dv 0) (da_cons (de_gcls T.cg_TooMany) da_nil)))) (dss_one (ds_ret (de_xfV (xf_count T) (dv 0)))) dss_nil)
    (dss_one (ds_ret (de_if (dt_tru (de_callB (dc_isV T.exi nB) rfl T.n_isinstance bt_isinstance (da_cons (dv 0) (da_cons (de_gcls T.cg_NoThing) da_nil)))) (de_xfV (xf_name T) (dv 0)) (de_xfV (xf_given T) (dv 0)))))))
theorem O__law_kept (T : Txt K mg base) : FnM P w K mg base 1 T.f__law_kept T.fd__law_kept ["_law_e"] R__law_kept := d__law_kept T
theorem OX__law_kept (T : Txt K mg base) : FnX P w K mg base 1 T.f__law_kept T.fd__law_kept ["_law_e"] RX__law_kept :=
  fnx_body T.F__law_kept sc__law_kept fun cdv A outer s H p C fs gs d hot hr hz hf => by
    have tk : Takes (L2H.cxH (L2N.CX P w) P w K mg base ["_law_e"] "_law_kept" (defScope s__law_kept) T.f__law_kept cdv A outer s H (fun _ _ _ => False) p) (fun _ _ _ _ => False) := takesF
    have hold := holds_def (CX := L2N.CX P w) (P := P) (w := w) (mg := mg) (base := base) (N := ["_law_e"]) (q := "_law_kept") (sc := defScope s__law_kept) (f := T.f__law_kept) (cdv := cdv) (outer := outer) (s := s) (H := H) (E := fun _ _ _ => False) hot hz hf
    show DSs _ _ (defBody s__law_kept) (mX__law_kept C fs)
    exact (dss_cons (ds_if (dt_tru (de_isZ (i := 0) T.exi nB hold rfl (Or.inl rfl) rfl T.cg_PowerCut rfl T.n_isinstance)) (dss_one (ds_ret (de_xfH (i := 0) (xf_op T) hold rfl (Or.inl rfl)))) dss_nil)
    (dss_cons (ds_if (dt_tru (de_isZ (i := 0) T.exi nB hold rfl (Or.inl rfl) rfl T.cg_TooMany rfl T.n_isinstance)) (dss_one (ds_ret (de_xfH (i := 0) (xf_count T) hold rfl (Or.inl rfl)))) dss_nil)
    (dss_one (ds_ret (de_if (dt_tru (de_isZ (i := 0) T.exi nB hold rfl (Or.inl rfl) rfl T.cg_NoThing rfl T.n_isinstance)) (de_xfH (i := 0) (xf_name T) hold rfl (Or.inl rfl)) (de_xfH (i := 0) (xf_given T) hold rfl (Or.inl rfl)))))))
theorem sc__law_thing : FnScope ["_law_box_here", "_law_menu"] ["_law_box_here"] (defScope s__law_thing) := ⟨rfl, rfl, rfl, by decide +kernel, rfl, by decide +kernel, by decide +kernel⟩
theorem b__law_thing (T : Txt K mg base) : Binds K T.fd__law_thing ["_law_box_here"] [] := T.F__law_thing.binds fun _ _ _ _ _ _ us hl => match us, hl with | [_], _ => rfl
theorem d__law_thing (T : Txt K mg base) : FnM P w K mg base 2 T.f__law_thing T.fd__law_thing ["_law_box_here"] R__law_thing :=
  fnm_body T.F__law_thing sc__law_thing fun cdv A outer s H E hr => by
    have tk : Takes (cxOf (L2N.CX P w) P w K mg base ["_law_box_here", "_law_menu"] "_law_thing" (defScope s__law_thing) T.f__law_thing cdv A outer s H E) (fun c d _ H' => E c d H') := takes_of rfl rfl rfl rfl
    show DSs _ _ (defBody s__law_thing) m__law_thing
    exact (dss_cons (ds_set (i := 1) sc__law_thing.nd rfl (by first | exact Or.inl rfl | exact Or.inr rfl) (de_lst (da_cons de_non (da_cons de_bl (da_cons de_bl (da_cons de_int (da_cons de_int (da_cons de_str (da_cons de_str (da_cons (de_lst da_nil) (da_cons (de_lst (da_cons de_int (da_cons de_str da_nil))) (da_cons (de_tup da_nil) (da_cons (de_tup (da_cons de_int (da_cons de_bl da_nil))) (da_cons de_dict0 (da_cons (de_callTy (dc_dict1 rfl) rfl T.n_dict bt_dict (da_cons (de_lst (da_cons (de_tup (da_cons de_str (da_cons (de_lst (da_cons de_int da_nil)) da_nil))) da_nil)) da_nil)) (da_cons (de_un dun_neg (de_op dop_pow de_int de_int)) da_nil))))))))))))))))
    (dss_one (ds_ret (de_ix (dv 1) (de_call (O__law_take T) (hr.mono (by decide)) tk rfl T.g__law_take T.F__law_take.kp (b__law_take T) (da_cons (dv 0) (da_cons de_int da_nil)))))))
theorem O__law_thing (T : Txt K mg base) : FnM P w K mg base 2 T.f__law_thing T.fd__law_thing ["_law_box_here"] R__law_thing := d__law_thing T
theorem sc__law_all_right : FnScope ["_law_box_here", "_law_first", "_law_last", "_law_lists", "_law_turn", "_law_spot", "_law_e"] ["_law_box_here"] (defScope s__law_all_right) := ⟨rfl, rfl, rfl, by decide +kernel, rfl, by decide +kernel, by decide +kernel⟩
theorem b__law_all_right (T : Txt K mg base) : Binds K T.fd__law_all_right ["_law_box_here"] [] := T.F__law_all_right.binds fun _ _ _ _ _ _ us hl => match us, hl with | [_], _ => rfl
theorem d__law_all_right (T : Txt K mg base) : FnM P w K mg base 4 T.f__law_all_right T.fd__law_all_right ["_law_box_here"] R__law_all_right :=
  fnm_body T.F__law_all_right sc__law_all_right fun cdv A outer s H E hr => by
    have tk : Takes (cxOf (L2N.CX P w) P w K mg base ["_law_box_here", "_law_first", "_law_last", "_law_lists", "_law_turn", "_law_spot", "_law_e"] "_law_all_right" (defScope s__law_all_right) T.f__law_all_right cdv A outer s H E) (fun c d _ H' => E c d H') := takes_of rfl rfl rfl rfl
    show DSs _ _ (defBody s__law_all_right) m__law_all_right
    exact (dss_cons (ds_par (i := 1) (j := 2) rfl sc__law_all_right.nd rfl rfl (by decide) rfl rfl (de_call (O__law_thing T) (hr.mono (by decide)) tk rfl T.g__law_thing T.F__law_thing.kp (b__law_thing T) (da_cons (dv 0) da_nil)) (de_call (O__law_thing T) (hr.mono (by decide)) tk rfl T.g__law_thing T.F__law_thing.kp (b__law_thing T) (da_cons (dv 0) da_nil)) (by rfl))
    (dss_cons (ds_set (i := 3) sc__law_all_right.nd rfl (by first | exact Or.inl rfl | exact Or.inr rfl) (de_lst (da_cons (de_call (O__law_by_place T) (hr.mono (by decide)) tk rfl T.g__law_by_place T.F__law_by_place.kp (b__law_by_place T) (da_cons (dv 1) da_nil)) (da_cons (de_call (O__law_by_name T) (hr.mono (by decide)) tk rfl T.g__law_by_name T.F__law_by_name.kp (b__law_by_name T) (da_cons (dv 2) da_nil)) (da_cons (de_call (O__law_by_name T) (hr.mono (by decide)) tk rfl T.g__law_by_name T.F__law_by_name.kp (b__law_by_name T) (da_cons (dv 1) da_nil)) (da_cons (de_call (O__law_by_place T) (hr.mono (by decide)) tk rfl T.g__law_by_place T.F__law_by_place.kp (b__law_by_place T) (da_cons (dv 2) da_nil)) da_nil))))))
    (dss_cons (ds_for (by first | exact pw | exact passes_of rfl) rfl (di_range1 rfl T.n_range (da_cons de_int da_nil) (fun _ _ _ _ e => ma_len e)) (dg_name (i := 4) sc__law_all_right.nd rfl (by first | exact Or.inl rfl | exact Or.inr rfl) )
    (dss_one (ds_for (by first | exact pw | exact passes_of rfl) rfl (di_range1 rfl T.n_range (da_cons de_int da_nil) (fun _ _ _ _ e => ma_len e)) (dg_name (i := 5) sc__law_all_right.nd rfl (by first | exact Or.inl rfl | exact Or.inr rfl) )
    (dss_cons (ds_set (i := 6) sc__law_all_right.nd rfl (by first | exact Or.inl rfl | exact Or.inr rfl) (de_ix (de_ix (dv 3) (dv 4)) (dv 5)))
    (dss_one (ds_if (DW.dt (dw_or (dt_not (dt_tru (de_call (O__law_is T) (hr.mono (by decide)) tk rfl T.g__law_is T.F__law_is.kp (b__law_is T) (da_cons (dv 6) (da_cons (dv 5) da_nil))))) (dw_or1 (dt_cmp (dop_ne (uG hr)) (de_callB (dc_reprD T.sy hr.g (uR hr)) rfl T.n_repr bt_repr (da_cons (de_call (O__law_kept T) (hr.mono (by decide)) tk rfl T.g__law_kept T.F__law_kept.kp (b__law_kept T) (da_cons (dv 6) da_nil)) da_nil)) (de_callB (dc_reprD T.sy hr.g (uR hr)) rfl T.n_repr bt_repr (da_cons (de_ix (de_lst (da_cons (dv 1) (da_cons (dv 2) da_nil))) (de_op dop_mod (dv 4) de_int)) da_nil)) (nomark _))))) (dss_one (ds_ret de_bl)) dss_nil))))))
    (dss_one (ds_ret de_bl)))))
theorem O__law_all_right (T : Txt K mg base) : FnM P w K mg base 4 T.f__law_all_right T.fd__law_all_right ["_law_box_here"] R__law_all_right := d__law_all_right T
theorem sc__law_raised : FnScope ["_law_way", "_law_thing_here"] ["_law_way", "_law_thing_here"] (defScope s__law_raised) := ⟨rfl, rfl, rfl, by decide +kernel, rfl, by decide +kernel, by decide +kernel⟩
theorem b__law_raised (T : Txt K mg base) : Binds K T.fd__law_raised ["_law_way", "_law_thing_here"] [] := T.F__law_raised.binds fun _ _ _ _ _ _ us hl => match us, hl with | [_, _], _ => rfl
theorem d__law_raised (T : Txt K mg base) : FnM P w K mg base 3 T.f__law_raised T.fd__law_raised ["_law_way", "_law_thing_here"] R__law_raised :=
  fnm_body T.F__law_raised sc__law_raised fun cdv A outer s H E hr => by
    have tk : Takes (cxOf (L2N.CX P w) P w K mg base ["_law_way", "_law_thing_here"] "_law_raised" (defScope s__law_raised) T.f__law_raised cdv A outer s H E) (fun c d _ H' => E c d H') := takes_of rfl rfl rfl rfl
    show DSs _ _ (defBody s__law_raised) m__law_raised
    exact (dss_cons (ds_if (dt_cmp (dop_eq (uG hr)) (dv 0) de_int (nomark _)) (dss_one (ds_raise (ExO.r (xo_InvalidMask T)) rfl tk (hr.mono (by decide)) rfl (dv 1))) dss_nil)
    (dss_cons (ds_if (dt_cmp (dop_eq (uG hr)) (dv 0) de_int (nomark _)) (dss_one (ds_raiseK (xo_PowerCut T) rfl tk (hr.mono (by decide)) rfl (dv 1))) dss_nil)
    (dss_cons (ds_if (dt_cmp (dop_eq (uG hr)) (dv 0) de_int (nomark _)) (dss_one (ds_raiseK (xo_InvalidTree T) rfl tk (hr.mono (by decide)) rfl (dv 1))) dss_nil)
    (dss_cons (ds_if (dt_cmp (dop_eq (uG hr)) (dv 0) de_int (nomark _)) (dss_one (ds_raise0 (xb_NoRoom T) rfl tk (hr.mono (by decide)) rfl)) dss_nil)
    (dss_cons (ds_if (dt_cmp (dop_eq (uG hr)) (dv 0) de_int (nomark _)) (dss_one (ds_raise (ExO.r (xo_InvalidRecords T)) rfl tk (hr.mono (by decide)) rfl (dv 1))) dss_nil)
    (dss_one (ds_raise (ExO.r (xo_NoThing T)) rfl tk (hr.mono (by decide)) rfl (dv 1))))))))
theorem O__law_raised (T : Txt K mg base) : FnM P w K mg base 3 T.f__law_raised T.fd__law_raised ["_law_way", "_law_thing_here"] R__law_raised := d__law_raised T
theorem sc__law_caught : FnScope ["_law_box_here", "_law_thing_here", "_law_way", "_law_met", "_law_e"] ["_law_box_here", "_law_thing_here"] (defScope s__law_caught) := ⟨rfl, rfl, rfl, by decide +kernel, rfl, by decide +kernel, by decide +kernel⟩
theorem b__law_caught (T : Txt K mg base) : Binds K T.fd__law_caught ["_law_box_here", "_law_thing_here"] [] := T.F__law_caught.binds fun _ _ _ _ _ _ us hl => match us, hl with | [_, _], _ => rfl
theorem d__law_caught (T : Txt K mg base) : FnM P w K mg base 4 T.f__law_caught T.fd__law_caught ["_law_box_here", "_law_thing_here"] R__law_caught :=
  fnm_body T.F__law_caught sc__law_caught fun cdv A outer s H E hr => by
    have tk : Takes (cxOf (L2N.CX P w) P w K mg base ["_law_box_here", "_law_thing_here", "_law_way", "_law_met", "_law_e"] "_law_caught" (defScope s__law_caught) T.f__law_caught cdv A outer s H E) (fun c d _ H' => E c d H') := takes_of rfl rfl rfl rfl
    show DSs _ _ (defBody s__law_caught) m__law_caught
    exact (dss_cons (ds_set (i := 2) sc__law_caught.nd rfl (by first | exact Or.inl rfl | exact Or.inr rfl) (de_call (O__law_take T) (hr.mono (by decide)) tk rfl T.g__law_take T.F__law_take.kp (b__law_take T) (da_cons (dv 0) (da_cons de_int da_nil))))
    (dss_cons (ds_set (i := 3) sc__law_caught.nd rfl (by first | exact Or.inl rfl | exact Or.inr rfl) (de_lst da_nil))
    (dss_cons (ds_try (B := "FlashError") (xs := EXC) (l := H__law_caught_1) rfl rfl rfl tk (fun W pn xe tk pw => (dss_one (ds_expr (de_call (O__law_raised T) (hr.mono (by decide)) tk rfl T.g__law_raised T.F__law_raised.kp (b__law_raised T) (da_cons (dv 2) (da_cons (dv 1) da_nil))))))
    (HdsD.consN (hd := H__law_caught_0) (i := 4) rfl sc__law_caught.nd rfl rfl rfl (by decide) (by decide +kernel) (T.exi.ext nB (by decide +kernel) T.cg_FlashError) (fun a oe C fs gs d pn hz hf => (dss_one (ds_expr (de_append (dv 3) (de_and (de_callX (i := 4) (OX__law_is T) (holds_suite hz hf) (L2H.RoomH.mono (room_mk hr _) (by decide)) rfl T.g__law_is T.F__law_is.kp (b__law_is T) rfl (Or.inl rfl) (da_cons (de_ix (de_lst (da_cons de_int (da_cons de_int (da_cons de_int (da_cons de_int (da_cons de_int (da_cons de_int da_nil))))))) (dv 2)) da_nil) (fun _ _ _ _ e => ma_len e) rfl) (de_one (de_or (de_cmp (dop_eq (by have z := uG hr; exact z)) (dv 2) de_int (nomark _)) (de_one (de_cmp (dop_eq (by have z := uG hr; exact z)) (de_callB (dc_reprD T.sy (by have z := hr.g; exact z) (by have z := uR hr; exact z)) rfl T.n_repr bt_repr (da_cons (de_callX (i := 4) (OX__law_kept T) (holds_suite hz hf) (L2H.RoomH.mono (room_mk hr _) (by decide)) rfl T.g__law_kept T.F__law_kept.kp (b__law_kept T) rfl (Or.inl rfl) da_nil (fun _ _ _ _ e => ma_len e) rfl) da_nil)) (de_callB (dc_reprD T.sy (by have z := hr.g; exact z) (by have z := uR hr; exact z)) rfl T.n_repr bt_repr (da_cons (dv 1) da_nil)) (nomark _))))))))))
    HdsD.nil))
    (dss_cons (ds_tryR (B := "FlashError") (xs := EXC) (l := H__law_caught_4) rfl rfl rfl (fun W pn xe tk pw => (dss_one (ds_expr (de_call (O__law_raised T) (hr.mono (by decide)) tk rfl T.g__law_raised T.F__law_raised.kp (b__law_raised T) (da_cons (dv 2) (da_cons (dv 1) da_nil))))))
    (RowsD.cons (ds := ["InvalidNumber", "InvalidOp", "InvalidChip", "NotReady", "InvalidRecord", "InvalidName", "TooMany", "NothingToUndo"]) (m := H__law_caught_3.2) (.cons (.cons (.cons (.cons (.cons (.cons (.cons (.cons TNames.nil)))))))) (by decide) (all_in ⟨(T.exi.ext nB (by decide +kernel) T.cg_InvalidNumber), (T.exi.ext nB (by decide +kernel) T.cg_InvalidOp), (T.exi.ext nB (by decide +kernel) T.cg_InvalidChip), (T.exi.ext nB (by decide +kernel) T.cg_NotReady), (T.exi.ext nB (by decide +kernel) T.cg_InvalidRecord), (T.exi.ext nB (by decide +kernel) T.cg_InvalidName), (T.exi.ext nB (by decide +kernel) T.cg_TooMany), (T.exi.ext nB (by decide +kernel) T.cg_NothingToUndo), trivial⟩) (by decide +kernel) (all_in ⟨⟨rfl, by decide⟩, ⟨rfl, by decide⟩, ⟨rfl, by decide⟩, ⟨rfl, by decide⟩, ⟨rfl, by decide⟩, ⟨rfl, by decide⟩, ⟨rfl, by decide⟩, ⟨rfl, by decide⟩, trivial⟩) (fun a oe C fs gs d pn hz hf => (dss_one (ds_expr (de_append (dv 3) de_bl))))
    (RowsD.cons (ds := ["InvalidMask", "PowerCut", "InvalidTree", "NoRoom", "InvalidRecords", "NoThing"]) (m := H__law_caught_2.2) (.cons (.cons (.cons (.cons (.cons (.cons TNames.nil)))))) (by decide) (all_in ⟨(T.exi.ext nB (by decide +kernel) T.cg_InvalidMask), (T.exi.ext nB (by decide +kernel) T.cg_PowerCut), (T.exi.ext nB (by decide +kernel) T.cg_InvalidTree), (T.exi.ext nB (by decide +kernel) T.cg_NoRoom), (T.exi.ext nB (by decide +kernel) T.cg_InvalidRecords), (T.exi.ext nB (by decide +kernel) T.cg_NoThing), trivial⟩) (by decide +kernel) (all_in ⟨⟨rfl, by decide⟩, ⟨rfl, by decide⟩, ⟨rfl, by decide⟩, ⟨rfl, by decide⟩, ⟨rfl, by decide⟩, ⟨rfl, by decide⟩, trivial⟩) (fun a oe C fs gs d pn hz hf => (dss_one (ds_expr (de_append (dv 3) de_bl))))
    RowsD.nil)))
    (dss_one (ds_ret (de_cmp (dop_eq (uG hr)) (dv 3) (de_lst (da_cons de_bl (da_cons de_bl da_nil))) (nomark _))))))))
theorem O__law_caught (T : Txt K mg base) : FnM P w K mg base 4 T.f__law_caught T.fd__law_caught ["_law_box_here", "_law_thing_here"] R__law_caught := d__law_caught T
theorem sc__law_very_right : FnScope ["_law_grown", "_law_kept_here", "_law_inner", "_law_outer", "_law_e", "_law_thing_here"] [] (defScope s__law_very_right) := ⟨rfl, rfl, rfl, by decide +kernel, rfl, by decide +kernel, by decide +kernel⟩
theorem b__law_very_right (T : Txt K mg base) : Binds K T.fd__law_very_right [] [] := T.F__law_very_right.binds fun _ _ _ _ _ _ us hl => match us, hl with | [], _ => rfl
theorem d__law_very_right (T : Txt K mg base) : FnM P w K mg base 4 T.f__law_very_right T.fd__law_very_right [] R__law_very_right :=
  fnm_body T.F__law_very_right sc__law_very_right fun cdv A outer s H E hr => by
    have tk : Takes (cxOf (L2N.CX P w) P w K mg base ["_law_grown", "_law_kept_here", "_law_inner", "_law_outer", "_law_e", "_law_thing_here"] "_law_very_right" (defScope s__law_very_right) T.f__law_very_right cdv A outer s H E) (fun c d _ H' => E c d H') := takes_of rfl rfl rfl rfl
    show DSs _ _ (defBody s__law_very_right) m__law_very_right
    exact (dss_cons (ds_set (i := 0) sc__law_very_right.nd rfl (by first | exact Or.inl rfl | exact Or.inr rfl) (de_lst (da_cons de_int da_nil)))
    (dss_cons (by first | exact (ds_setLc (i := 1) (own := [("_law_e", 4)]) rfl sc__law_very_right.nd rfl rfl (sw_true rfl rfl rfl (by decide +kernel)) (di_seq (de_op dop_add (de_call (O__law_by_place T) (hr.mono (by decide)) tk rfl T.g__law_by_place T.F__law_by_place.kp (b__law_by_place T) (da_cons (dv 0) da_nil)) (de_call (O__law_by_name T) (hr.mono (by decide)) tk rfl T.g__law_by_name T.F__law_by_name.kp (b__law_by_name T) (da_cons (dv 0) da_nil)))) (blkOk_by (N := ["_law_grown", "_law_kept_here", "_law_inner", "_law_outer", "_law_e", "_law_thing_here"]) (sc := defScope s__law_very_right) (by decide +kernel)) (fun _ _ _ _ _ => (dgw_name (i := 4) sc__law_very_right.nd rfl (by first | exact Or.inl rfl | exact Or.inr rfl) (by decide))) (fun _ _ _ _ _ => dts_nil) (fun _ _ _ _ _ => (de_call (O__law_kept T) (hr.mono (by decide)) takesF rfl T.g__law_kept T.F__law_kept.kp (b__law_kept T) (da_cons (dv 4) da_nil)))) | exact (ds_set (i := 1) sc__law_very_right.nd rfl (by first | exact Or.inl rfl | exact Or.inr rfl) (de_lc (own := [("_law_e", 4)]) rfl sc__law_very_right.nd (di_seq (de_op dop_add (de_call (O__law_by_place T) (hr.mono (by decide)) tk rfl T.g__law_by_place T.F__law_by_place.kp (b__law_by_place T) (da_cons (dv 0) da_nil)) (de_call (O__law_by_name T) (hr.mono (by decide)) tk rfl T.g__law_by_name T.F__law_by_name.kp (b__law_by_name T) (da_cons (dv 0) da_nil)))) (blkOk_by (N := ["_law_grown", "_law_kept_here", "_law_inner", "_law_outer", "_law_e", "_law_thing_here"]) (sc := defScope s__law_very_right) (by decide +kernel)) (fun _ _ _ _ _ => (dgw_name (i := 4) sc__law_very_right.nd rfl (by first | exact Or.inl rfl | exact Or.inr rfl) (by decide))) (fun _ _ _ _ _ => dts_nil) (fun _ _ _ _ _ => (de_call (O__law_kept T) (hr.mono (by decide)) takesF rfl T.g__law_kept T.F__law_kept.kp (b__law_kept T) (da_cons (dv 4) da_nil))))))
    (dss_cons (ds_expr (de_append (dv 0) de_str))
    (dss_cons (ds_if (DW.dt (dw_or (dt_cmp (dop_ne (uG hr)) (de_callB dc_len rfl T.n_len bt_len (da_cons (dv 1) da_nil)) de_int (nomark _)) (dw_or1 (dt_cmp (dop_ne (uG hr)) (de_lc (own := [("_law_thing_here", 5)]) rfl sc__law_very_right.nd (di_seq (dv 1)) (blkOk_by (N := ["_law_grown", "_law_kept_here", "_law_inner", "_law_outer", "_law_e", "_law_thing_here"]) (sc := defScope s__law_very_right) (by decide +kernel)) (fun _ _ _ _ _ => (dgw_name (i := 5) sc__law_very_right.nd rfl (by first | exact Or.inl rfl | exact Or.inr rfl) (by decide))) (fun _ _ _ _ _ => (dts_one (dt_cmp (dop_ne (uG hr)) (dv 5) (de_lst (da_cons de_int (da_cons de_str da_nil))) (nomark _)))) (fun _ _ _ _ _ => (dv 5))) (de_lst da_nil) (nomark _))))) (dss_one (ds_ret de_bl)) dss_nil)
    (dss_cons (ds_set (i := 2) sc__law_very_right.nd rfl (by first | exact Or.inl rfl | exact Or.inr rfl) (de_lst (da_cons de_int da_nil)))
    (dss_cons (ds_set (i := 3) sc__law_very_right.nd rfl (by first | exact Or.inl rfl | exact Or.inr rfl) (de_exvK (xo_TooMany T) tk (hr.mono (by decide)) rfl (de_exv (xo_InvalidChip T) tk (hr.mono (by decide)) rfl (de_exv (xo_NoThing T) tk (hr.mono (by decide)) rfl (dv 2)))))
    (dss_cons (ds_expr (de_append (dv 2) de_int))
    (dss_one (ds_ret (de_and (de_callB (dc_isV T.exi nB) rfl T.n_isinstance bt_isinstance (da_cons (de_xfV (xf_count T) (dv 3)) (da_cons (de_gcls T.cg_InvalidChip) da_nil))) (de_one (de_cmp (dop_eq (uG hr)) (de_xfV (xf_name T) (de_xfV (xf_given T) (de_xfV (xf_count T) (dv 3)))) (de_lst (da_cons de_int (da_cons de_int da_nil))) (nomark _)))))))))))))
theorem O__law_very_right (T : Txt K mg base) : FnM P w K mg base 4 T.f__law_very_right T.fd__law_very_right [] R__law_very_right := d__law_very_right T
theorem sc_law : FnScope ["_law_script", "_law_bare", "_law_k", "_law_box_here"] ["_law_script"] (defScope s_law) := ⟨rfl, rfl, rfl, by decide +kernel, rfl, by decide +kernel, by decide +kernel⟩
theorem b_law (T : Txt K mg base) : Binds K T.fd_law ["_law_script"] [] := T.F_law.binds fun _ _ _ _ _ _ us hl => match us, hl with | [_], _ => rfl
theorem d_law (T : Txt K mg base) : FnM P w K mg base 5 T.f_law T.fd_law ["_law_script"] R_law :=
  fnm_body T.F_law sc_law fun cdv A outer s H E hr => by
    have tk : Takes (cxOf (L2N.CX P w) P w K mg base ["_law_script", "_law_bare", "_law_k", "_law_box_here"] "law" (defScope s_law) T.f_law cdv A outer s H E) (fun c d _ H' => E c d H') := takes_of rfl rfl rfl rfl
    show DSs _ _ (defBody s_law) m_law
    exact (dss_cons (ds_set (i := 1) sc_law.nd rfl (by first | exact Or.inl rfl | exact Or.inr rfl) (de_lst (da_cons (de_exv0 (xb_NotReady T) tk (hr.mono (by decide)) rfl) (da_cons (de_exv0 (xb_NoRoom T) tk (hr.mono (by decide)) rfl) (da_cons (de_exv0 (xb_NothingToUndo T) tk (hr.mono (by decide)) rfl) da_nil)))))
    (dss_cons (ds_if (dt_cmp (dop_ne (uG hr)) (de_lc (own := [("_law_k", 2)]) rfl sc_law.nd (di_range1 rfl T.n_range (da_cons de_int da_nil) (fun _ _ _ _ e => ma_len e)) (blkOk_by (N := ["_law_script", "_law_bare", "_law_k", "_law_box_here"]) (sc := defScope s_law) (by decide +kernel)) (fun _ _ _ _ _ => (dgw_name (i := 2) sc_law.nd rfl (by first | exact Or.inl rfl | exact Or.inr rfl) (by decide))) (fun _ _ _ _ _ => (dts_one (dt_not (dt_tru (de_call (O__law_is T) (hr.mono (by decide)) takesF rfl T.g__law_is T.F__law_is.kp (b__law_is T) (da_cons (de_ix (dv 1) (dv 2)) (da_cons (de_op dop_add de_int (dv 2)) da_nil))))))) (fun _ _ _ _ _ => (dv 2))) (de_lst da_nil) (nomark _)) (dss_one (ds_ret de_bl)) dss_nil)
    (dss_cons (ds_for (by first | exact pw | exact passes_of rfl) rfl (di_range1 rfl T.n_range (da_cons (de_callB (dc_max rfl) rfl T.n_max bt_max (da_cons de_int (da_cons (de_callB (dc_min rfl) rfl T.n_min bt_min (da_cons de_int (da_cons (de_callB dc_len rfl T.n_len bt_len (da_cons (dv 0) da_nil)) da_nil))) da_nil))) da_nil) (fun _ _ _ _ e => ma_len e)) (dg_name (i := 2) sc_law.nd rfl (by first | exact Or.inl rfl | exact Or.inr rfl) )
    (dss_cons (ds_set (i := 3) sc_law.nd rfl (by first | exact Or.inl rfl | exact Or.inr rfl) (de_call (O__law_box T) (hr.mono (by decide)) tk rfl T.g__law_box T.F__law_box.kp (b__law_box T) (da_cons (de_call (O__law_cell T) (hr.mono (by decide)) tk rfl T.g__law_cell T.F__law_cell.kp (b__law_cell T) (da_cons (dv 0) (da_cons (dv 2) da_nil))) da_nil)))
    (dss_one (ds_if (DW.dt (dw_or (dt_not (dt_tru (de_call (O__law_all_right T) (hr.mono (by decide)) tk rfl T.g__law_all_right T.F__law_all_right.kp (b__law_all_right T) (da_cons (dv 3) da_nil)))) (dw_or1 (dt_not (dt_tru (de_call (O__law_caught T) (hr.mono (by decide)) tk rfl T.g__law_caught T.F__law_caught.kp (b__law_caught T) (da_cons (dv 3) (da_cons (de_call (O__law_thing T) (hr.mono (by decide)) tk rfl T.g__law_thing T.F__law_thing.kp (b__law_thing T) (da_cons (dv 3) da_nil)) da_nil)))))))) (dss_one (ds_ret de_bl)) dss_nil))))
    (dss_one (ds_ret (de_and (de_call0 (O__law_very_right T) (hr.mono (by decide)) tk rfl T.g__law_very_right T.F__law_very_right.kp (b__law_very_right T)) (de_one (de_callB (dc_isV T.exi nB) rfl T.n_isinstance bt_isinstance (da_cons (de_xfV (xf_given T) (de_exvK (xo_InvalidRecord T) tk (hr.mono (by decide)) rfl (de_exv0 (xb_NoRoom T) tk (hr.mono (by decide)) rfl))) (da_cons (de_gcls T.cg_NoRoom) da_nil))))))))))
theorem O_law (T : Txt K mg base) : FnM P w K mg base 5 T.f_law T.fd_law ["_law_script"] R_law := d_law T
end
end K00
namespace K00
open PySem PySem.Spec PyProof.Rows
open L2 hiding XE Takes CX ps_raise mk_of pmk_own passAt takes_of passes_call MkP PMk ps_try_as ps_try_many
open L2N hiding St
open D
/-- what the top has written -/
theorem all_mk {l : PySem.W.OpenLaw} {w : World} {K : PySem.W.Frag} {h : Heap} {mg : Str → Option Value} {fa : Addr} (X : K.In h) (G : h.Ns mainGlobals mg) (hfa : mg "law" = some (.ref fa))
    {f0 : Addr} {od0 an0 : Option Addr} {sl0 : Array (Option Value)} {oc0 kV0 dc0 pm0 cd0 ct0 : Value}
    {f1 : Addr} {od1 an1 : Option Addr} {sl1 : Array (Option Value)} {oc1 kV1 dc1 pm1 cd1 ct1 : Value}
    {f2 : Addr} {od2 an2 : Option Addr} {sl2 : Array (Option Value)} {oc2 kV2 dc2 pm2 cd2 ct2 : Value}
    {f3 : Addr} {od3 an3 : Option Addr} {sl3 : Array (Option Value)} {oc3 kV3 dc3 pm3 cd3 ct3 : Value}
    {f4 : Addr} {od4 an4 : Option Addr} {sl4 : Array (Option Value)} {oc4 kV4 dc4 pm4 cd4 ct4 : Value}
    {f5 : Addr} {od5 an5 : Option Addr} {sl5 : Array (Option Value)} {oc5 kV5 dc5 pm5 cd5 ct5 : Value}
    {f6 : Addr} {od6 an6 : Option Addr} {sl6 : Array (Option Value)} {oc6 kV6 dc6 pm6 cd6 ct6 : Value}
    {f7 : Addr} {od7 an7 : Option Addr} {sl7 : Array (Option Value)} {oc7 kV7 dc7 pm7 cd7 ct7 : Value}
    {f8 : Addr} {od8 an8 : Option Addr} {sl8 : Array (Option Value)} {oc8 kV8 dc8 pm8 cd8 ct8 : Value}
    {f9 : Addr} {od9 an9 : Option Addr} {sl9 : Array (Option Value)} {oc9 kV9 dc9 pm9 cd9 ct9 : Value}
    {f10 : Addr} {od10 an10 : Option Addr} {sl10 : Array (Option Value)} {oc10 kV10 dc10 pm10 cd10 ct10 : Value}
    {f11 : Addr} {od11 an11 : Option Addr} {sl11 : Array (Option Value)} {oc11 kV11 dc11 pm11 cd11 ct11 : Value}
    {f12 : Addr} {od12 an12 : Option Addr} {sl12 : Array (Option Value)} {oc12 kV12 dc12 pm12 cd12 ct12 : Value}
    {f13 : Addr} {od13 an13 : Option Addr} {sl13 : Array (Option Value)} {oc13 kV13 dc13 pm13 cd13 ct13 : Value}
    {A_InvalidOctets : Addr}
    {A_InvalidCount : Addr}
    {A_InvalidNumber : Addr}
    {A_InvalidMask : Addr}
    {A_InvalidOp : Addr}
    {A_InvalidBlock : Addr}
    {A_InvalidPage : Addr}
    {A_InvalidShape : Addr}
    {A_InvalidImage : Addr}
    {A_InvalidData : Addr}
    {A_InvalidRecord : Addr}
    {A_InvalidPath : Addr}
    {A_InvalidDeed : Addr}
    {A_InvalidLine : Addr}
    {A_InvalidScript : Addr}
    {A_InvalidTree : Addr}
    {A_InvalidChip : Addr}
    {A_InvalidRecords : Addr}
    {A_InvalidName : Addr}
    {A_InvalidPlans : Addr}
    {A_PowerCut : Addr}
    {A_TooMany : Addr}
    {A_NoThing : Addr}
    {A_NotReady : Addr}
    {A_NoRoom : Addr}
    {A_NothingToUndo : Addr}
    {A_FlashError : Addr}
    {I_InvalidOctets : Addr} {nm_InvalidOctets q_InvalidOctets' : Str} {N_InvalidOctets : Addr} {bs_InvalidOctets : List Value} {sn_InvalidOctets : List Str} {sub_InvalidOctets : List Value} {ab_InvalidOctets : Bool} {col_InvalidOctets : Option Bool} {dd_InvalidOctets : Option Addr} {k0_InvalidOctets k1_InvalidOctets k2_InvalidOctets k3_InvalidOctets k5_InvalidOctets : Option Value}
    {od_InvalidOctets an_InvalidOctets : Option Addr} {sl_InvalidOctets : Array (Option Value)} {oc_InvalidOctets kV_InvalidOctets dc_InvalidOctets pm_InvalidOctets cd_InvalidOctets ct_InvalidOctets : Value}
    {I_InvalidCount : Addr} {nm_InvalidCount q_InvalidCount' : Str} {N_InvalidCount : Addr} {bs_InvalidCount : List Value} {sn_InvalidCount : List Str} {sub_InvalidCount : List Value} {ab_InvalidCount : Bool} {col_InvalidCount : Option Bool} {dd_InvalidCount : Option Addr} {k0_InvalidCount k1_InvalidCount k2_InvalidCount k3_InvalidCount k5_InvalidCount : Option Value}
    {od_InvalidCount an_InvalidCount : Option Addr} {sl_InvalidCount : Array (Option Value)} {oc_InvalidCount kV_InvalidCount dc_InvalidCount pm_InvalidCount cd_InvalidCount ct_InvalidCount : Value}
    {I_InvalidNumber : Addr} {nm_InvalidNumber q_InvalidNumber' : Str} {N_InvalidNumber : Addr} {bs_InvalidNumber : List Value} {sn_InvalidNumber : List Str} {sub_InvalidNumber : List Value} {ab_InvalidNumber : Bool} {col_InvalidNumber : Option Bool} {dd_InvalidNumber : Option Addr} {k0_InvalidNumber k1_InvalidNumber k2_InvalidNumber k3_InvalidNumber k5_InvalidNumber : Option Value}
    {od_InvalidNumber an_InvalidNumber : Option Addr} {sl_InvalidNumber : Array (Option Value)} {oc_InvalidNumber kV_InvalidNumber dc_InvalidNumber pm_InvalidNumber cd_InvalidNumber ct_InvalidNumber : Value}
    {I_InvalidMask : Addr} {nm_InvalidMask q_InvalidMask' : Str} {N_InvalidMask : Addr} {bs_InvalidMask : List Value} {sn_InvalidMask : List Str} {sub_InvalidMask : List Value} {ab_InvalidMask : Bool} {col_InvalidMask : Option Bool} {dd_InvalidMask : Option Addr} {k0_InvalidMask k1_InvalidMask k2_InvalidMask k3_InvalidMask k5_InvalidMask : Option Value}
    {od_InvalidMask an_InvalidMask : Option Addr} {sl_InvalidMask : Array (Option Value)} {oc_InvalidMask kV_InvalidMask dc_InvalidMask pm_InvalidMask cd_InvalidMask ct_InvalidMask : Value}
    {I_InvalidOp : Addr} {nm_InvalidOp q_InvalidOp' : Str} {N_InvalidOp : Addr} {bs_InvalidOp : List Value} {sn_InvalidOp : List Str} {sub_InvalidOp : List Value} {ab_InvalidOp : Bool} {col_InvalidOp : Option Bool} {dd_InvalidOp : Option Addr} {k0_InvalidOp k1_InvalidOp k2_InvalidOp k3_InvalidOp k5_InvalidOp : Option Value}
    {od_InvalidOp an_InvalidOp : Option Addr} {sl_InvalidOp : Array (Option Value)} {oc_InvalidOp kV_InvalidOp dc_InvalidOp pm_InvalidOp cd_InvalidOp ct_InvalidOp : Value}
    {I_InvalidBlock : Addr} {nm_InvalidBlock q_InvalidBlock' : Str} {N_InvalidBlock : Addr} {bs_InvalidBlock : List Value} {sn_InvalidBlock : List Str} {sub_InvalidBlock : List Value} {ab_InvalidBlock : Bool} {col_InvalidBlock : Option Bool} {dd_InvalidBlock : Option Addr} {k0_InvalidBlock k1_InvalidBlock k2_InvalidBlock k3_InvalidBlock k5_InvalidBlock : Option Value}
    {od_InvalidBlock an_InvalidBlock : Option Addr} {sl_InvalidBlock : Array (Option Value)} {oc_InvalidBlock kV_InvalidBlock dc_InvalidBlock pm_InvalidBlock cd_InvalidBlock ct_InvalidBlock : Value}
    {I_InvalidPage : Addr} {nm_InvalidPage q_InvalidPage' : Str} {N_InvalidPage : Addr} {bs_InvalidPage : List Value} {sn_InvalidPage : List Str} {sub_InvalidPage : List Value} {ab_InvalidPage : Bool} {col_InvalidPage : Option Bool} {dd_InvalidPage : Option Addr} {k0_InvalidPage k1_InvalidPage k2_InvalidPage k3_InvalidPage k5_InvalidPage : Option Value}
    {od_InvalidPage an_InvalidPage : Option Addr} {sl_InvalidPage : Array (Option Value)} {oc_InvalidPage kV_InvalidPage dc_InvalidPage pm_InvalidPage cd_InvalidPage ct_InvalidPage : Value}
    {I_InvalidShape : Addr} {nm_InvalidShape q_InvalidShape' : Str} {N_InvalidShape : Addr} {bs_InvalidShape : List Value} {sn_InvalidShape : List Str} {sub_InvalidShape : List Value} {ab_InvalidShape : Bool} {col_InvalidShape : Option Bool} {dd_InvalidShape : Option Addr} {k0_InvalidShape k1_InvalidShape k2_InvalidShape k3_InvalidShape k5_InvalidShape : Option Value}
    {od_InvalidShape an_InvalidShape : Option Addr} {sl_InvalidShape : Array (Option Value)} {oc_InvalidShape kV_InvalidShape dc_InvalidShape pm_InvalidShape cd_InvalidShape ct_InvalidShape : Value}
    {I_InvalidImage : Addr} {nm_InvalidImage q_InvalidImage' : Str} {N_InvalidImage : Addr} {bs_InvalidImage : List Value} {sn_InvalidImage : List Str} {sub_InvalidImage : List Value} {ab_InvalidImage : Bool} {col_InvalidImage : Option Bool} {dd_InvalidImage : Option Addr} {k0_InvalidImage k1_InvalidImage k2_InvalidImage k3_InvalidImage k5_InvalidImage : Option Value}
    {od_InvalidImage an_InvalidImage : Option Addr} {sl_InvalidImage : Array (Option Value)} {oc_InvalidImage kV_InvalidImage dc_InvalidImage pm_InvalidImage cd_InvalidImage ct_InvalidImage : Value}
    {I_InvalidData : Addr} {nm_InvalidData q_InvalidData' : Str} {N_InvalidData : Addr} {bs_InvalidData : List Value} {sn_InvalidData : List Str} {sub_InvalidData : List Value} {ab_InvalidData : Bool} {col_InvalidData : Option Bool} {dd_InvalidData : Option Addr} {k0_InvalidData k1_InvalidData k2_InvalidData k3_InvalidData k5_InvalidData : Option Value}
    {od_InvalidData an_InvalidData : Option Addr} {sl_InvalidData : Array (Option Value)} {oc_InvalidData kV_InvalidData dc_InvalidData pm_InvalidData cd_InvalidData ct_InvalidData : Value}
    {I_InvalidRecord : Addr} {nm_InvalidRecord q_InvalidRecord' : Str} {N_InvalidRecord : Addr} {bs_InvalidRecord : List Value} {sn_InvalidRecord : List Str} {sub_InvalidRecord : List Value} {ab_InvalidRecord : Bool} {col_InvalidRecord : Option Bool} {dd_InvalidRecord : Option Addr} {k0_InvalidRecord k1_InvalidRecord k2_InvalidRecord k3_InvalidRecord k5_InvalidRecord : Option Value}
    {od_InvalidRecord an_InvalidRecord : Option Addr} {sl_InvalidRecord : Array (Option Value)} {oc_InvalidRecord kV_InvalidRecord dc_InvalidRecord pm_InvalidRecord cd_InvalidRecord ct_InvalidRecord : Value}
    {I_InvalidPath : Addr} {nm_InvalidPath q_InvalidPath' : Str} {N_InvalidPath : Addr} {bs_InvalidPath : List Value} {sn_InvalidPath : List Str} {sub_InvalidPath : List Value} {ab_InvalidPath : Bool} {col_InvalidPath : Option Bool} {dd_InvalidPath : Option Addr} {k0_InvalidPath k1_InvalidPath k2_InvalidPath k3_InvalidPath k5_InvalidPath : Option Value}
    {od_InvalidPath an_InvalidPath : Option Addr} {sl_InvalidPath : Array (Option Value)} {oc_InvalidPath kV_InvalidPath dc_InvalidPath pm_InvalidPath cd_InvalidPath ct_InvalidPath : Value}
    {I_InvalidDeed : Addr} {nm_InvalidDeed q_InvalidDeed' : Str} {N_InvalidDeed : Addr} {bs_InvalidDeed : List Value} {sn_InvalidDeed : List Str} {sub_InvalidDeed : List Value} {ab_InvalidDeed : Bool} {col_InvalidDeed : Option Bool} {dd_InvalidDeed : Option Addr} {k0_InvalidDeed k1_InvalidDeed k2_InvalidDeed k3_InvalidDeed k5_InvalidDeed : Option Value}
    {od_InvalidDeed an_InvalidDeed : Option Addr} {sl_InvalidDeed : Array (Option Value)} {oc_InvalidDeed kV_InvalidDeed dc_InvalidDeed pm_InvalidDeed cd_InvalidDeed ct_InvalidDeed : Value}
    {I_InvalidLine : Addr} {nm_InvalidLine q_InvalidLine' : Str} {N_InvalidLine : Addr} {bs_InvalidLine : List Value} {sn_InvalidLine : List Str} {sub_InvalidLine : List Value} {ab_InvalidLine : Bool} {col_InvalidLine : Option Bool} {dd_InvalidLine : Option Addr} {k0_InvalidLine k1_InvalidLine k2_InvalidLine k3_InvalidLine k5_InvalidLine : Option Value}
    {od_InvalidLine an_InvalidLine : Option Addr} {sl_InvalidLine : Array (Option Value)} {oc_InvalidLine kV_InvalidLine dc_InvalidLine pm_InvalidLine cd_InvalidLine ct_InvalidLine : Value}
    {I_InvalidScript : Addr} {nm_InvalidScript q_InvalidScript' : Str} {N_InvalidScript : Addr} {bs_InvalidScript : List Value} {sn_InvalidScript : List Str} {sub_InvalidScript : List Value} {ab_InvalidScript : Bool} {col_InvalidScript : Option Bool} {dd_InvalidScript : Option Addr} {k0_InvalidScript k1_InvalidScript k2_InvalidScript k3_InvalidScript k5_InvalidScript : Option Value}
    {od_InvalidScript an_InvalidScript : Option Addr} {sl_InvalidScript : Array (Option Value)} {oc_InvalidScript kV_InvalidScript dc_InvalidScript pm_InvalidScript cd_InvalidScript ct_InvalidScript : Value}
    {I_InvalidTree : Addr} {nm_InvalidTree q_InvalidTree' : Str} {N_InvalidTree : Addr} {bs_InvalidTree : List Value} {sn_InvalidTree : List Str} {sub_InvalidTree : List Value} {ab_InvalidTree : Bool} {col_InvalidTree : Option Bool} {dd_InvalidTree : Option Addr} {k0_InvalidTree k1_InvalidTree k2_InvalidTree k3_InvalidTree k5_InvalidTree : Option Value}
    {od_InvalidTree an_InvalidTree : Option Addr} {sl_InvalidTree : Array (Option Value)} {oc_InvalidTree kV_InvalidTree dc_InvalidTree pm_InvalidTree cd_InvalidTree ct_InvalidTree : Value}
    {I_InvalidChip : Addr} {nm_InvalidChip q_InvalidChip' : Str} {N_InvalidChip : Addr} {bs_InvalidChip : List Value} {sn_InvalidChip : List Str} {sub_InvalidChip : List Value} {ab_InvalidChip : Bool} {col_InvalidChip : Option Bool} {dd_InvalidChip : Option Addr} {k0_InvalidChip k1_InvalidChip k2_InvalidChip k3_InvalidChip k5_InvalidChip : Option Value}
    {od_InvalidChip an_InvalidChip : Option Addr} {sl_InvalidChip : Array (Option Value)} {oc_InvalidChip kV_InvalidChip dc_InvalidChip pm_InvalidChip cd_InvalidChip ct_InvalidChip : Value}
    {I_InvalidRecords : Addr} {nm_InvalidRecords q_InvalidRecords' : Str} {N_InvalidRecords : Addr} {bs_InvalidRecords : List Value} {sn_InvalidRecords : List Str} {sub_InvalidRecords : List Value} {ab_InvalidRecords : Bool} {col_InvalidRecords : Option Bool} {dd_InvalidRecords : Option Addr} {k0_InvalidRecords k1_InvalidRecords k2_InvalidRecords k3_InvalidRecords k5_InvalidRecords : Option Value}
    {od_InvalidRecords an_InvalidRecords : Option Addr} {sl_InvalidRecords : Array (Option Value)} {oc_InvalidRecords kV_InvalidRecords dc_InvalidRecords pm_InvalidRecords cd_InvalidRecords ct_InvalidRecords : Value}
    {I_InvalidName : Addr} {nm_InvalidName q_InvalidName' : Str} {N_InvalidName : Addr} {bs_InvalidName : List Value} {sn_InvalidName : List Str} {sub_InvalidName : List Value} {ab_InvalidName : Bool} {col_InvalidName : Option Bool} {dd_InvalidName : Option Addr} {k0_InvalidName k1_InvalidName k2_InvalidName k3_InvalidName k5_InvalidName : Option Value}
    {od_InvalidName an_InvalidName : Option Addr} {sl_InvalidName : Array (Option Value)} {oc_InvalidName kV_InvalidName dc_InvalidName pm_InvalidName cd_InvalidName ct_InvalidName : Value}
    {I_InvalidPlans : Addr} {nm_InvalidPlans q_InvalidPlans' : Str} {N_InvalidPlans : Addr} {bs_InvalidPlans : List Value} {sn_InvalidPlans : List Str} {sub_InvalidPlans : List Value} {ab_InvalidPlans : Bool} {col_InvalidPlans : Option Bool} {dd_InvalidPlans : Option Addr} {k0_InvalidPlans k1_InvalidPlans k2_InvalidPlans k3_InvalidPlans k5_InvalidPlans : Option Value}
    {od_InvalidPlans an_InvalidPlans : Option Addr} {sl_InvalidPlans : Array (Option Value)} {oc_InvalidPlans kV_InvalidPlans dc_InvalidPlans pm_InvalidPlans cd_InvalidPlans ct_InvalidPlans : Value}
    {I_PowerCut : Addr} {nm_PowerCut q_PowerCut' : Str} {N_PowerCut : Addr} {bs_PowerCut : List Value} {sn_PowerCut : List Str} {sub_PowerCut : List Value} {ab_PowerCut : Bool} {col_PowerCut : Option Bool} {dd_PowerCut : Option Addr} {k0_PowerCut k1_PowerCut k2_PowerCut k3_PowerCut k5_PowerCut : Option Value}
    {od_PowerCut an_PowerCut : Option Addr} {sl_PowerCut : Array (Option Value)} {oc_PowerCut kV_PowerCut dc_PowerCut pm_PowerCut cd_PowerCut ct_PowerCut : Value}
    {I_TooMany : Addr} {nm_TooMany q_TooMany' : Str} {N_TooMany : Addr} {bs_TooMany : List Value} {sn_TooMany : List Str} {sub_TooMany : List Value} {ab_TooMany : Bool} {col_TooMany : Option Bool} {dd_TooMany : Option Addr} {k0_TooMany k1_TooMany k2_TooMany k3_TooMany k5_TooMany : Option Value}
    {od_TooMany an_TooMany : Option Addr} {sl_TooMany : Array (Option Value)} {oc_TooMany kV_TooMany dc_TooMany pm_TooMany cd_TooMany ct_TooMany : Value}
    {I_NoThing : Addr} {nm_NoThing q_NoThing' : Str} {N_NoThing : Addr} {bs_NoThing : List Value} {sn_NoThing : List Str} {sub_NoThing : List Value} {ab_NoThing : Bool} {col_NoThing : Option Bool} {dd_NoThing : Option Addr} {k0_NoThing k1_NoThing k2_NoThing k3_NoThing k5_NoThing : Option Value}
    {od_NoThing an_NoThing : Option Addr} {sl_NoThing : Array (Option Value)} {oc_NoThing kV_NoThing dc_NoThing pm_NoThing cd_NoThing ct_NoThing : Value}
    {I_NotReady : Addr} {nm_NotReady q_NotReady' : Str} {N_NotReady : Addr} {bs_NotReady : List Value} {sn_NotReady : List Str} {sub_NotReady : List Value} {ab_NotReady : Bool} {col_NotReady : Option Bool} {dd_NotReady : Option Addr} {k0_NotReady k1_NotReady k2_NotReady k3_NotReady k5_NotReady : Option Value}
    {od_NotReady an_NotReady : Option Addr} {sl_NotReady : Array (Option Value)} {oc_NotReady kV_NotReady dc_NotReady pm_NotReady cd_NotReady ct_NotReady : Value}
    {I_NoRoom : Addr} {nm_NoRoom q_NoRoom' : Str} {N_NoRoom : Addr} {bs_NoRoom : List Value} {sn_NoRoom : List Str} {sub_NoRoom : List Value} {ab_NoRoom : Bool} {col_NoRoom : Option Bool} {dd_NoRoom : Option Addr} {k0_NoRoom k1_NoRoom k2_NoRoom k3_NoRoom k5_NoRoom : Option Value}
    {od_NoRoom an_NoRoom : Option Addr} {sl_NoRoom : Array (Option Value)} {oc_NoRoom kV_NoRoom dc_NoRoom pm_NoRoom cd_NoRoom ct_NoRoom : Value}
    {I_NothingToUndo : Addr} {nm_NothingToUndo q_NothingToUndo' : Str} {N_NothingToUndo : Addr} {bs_NothingToUndo : List Value} {sn_NothingToUndo : List Str} {sub_NothingToUndo : List Value} {ab_NothingToUndo : Bool} {col_NothingToUndo : Option Bool} {dd_NothingToUndo : Option Addr} {k0_NothingToUndo k1_NothingToUndo k2_NothingToUndo k3_NothingToUndo k5_NothingToUndo : Option Value}
    {od_NothingToUndo an_NothingToUndo : Option Addr} {sl_NothingToUndo : Array (Option Value)} {oc_NothingToUndo kV_NothingToUndo dc_NothingToUndo pm_NothingToUndo cd_NothingToUndo ct_NothingToUndo : Value}
    (a0 : PySem.W.nsIn K mainGlobals "_law_cell" = some (some (.ref f0))) (l0 : K.lookup f0 = some ⟨oc0, od0, .func (PySem.W.fnOf "_law_cell" "_law_cell" (defArgs s__law_cell) (defBody s__law_cell) (defScope s__law_cell) .none kV0 dc0 pm0 an0 cd0 ct0), sl0⟩) (q0 : PySem.W.codeIn K cd0 "_law_cell" = true) (k0 : PySem.W.keepIn K (.ref f0) = true)
    (a1 : PySem.W.nsIn K mainGlobals "_law_box" = some (some (.ref f1))) (l1 : K.lookup f1 = some ⟨oc1, od1, .func (PySem.W.fnOf "_law_box" "_law_box" (defArgs s__law_box) (defBody s__law_box) (defScope s__law_box) .none kV1 dc1 pm1 an1 cd1 ct1), sl1⟩) (q1 : PySem.W.codeIn K cd1 "_law_box" = true) (k1 : PySem.W.keepIn K (.ref f1) = true)
    (a2 : PySem.W.nsIn K mainGlobals "_law_take" = some (some (.ref f2))) (l2 : K.lookup f2 = some ⟨oc2, od2, .func (PySem.W.fnOf "_law_take" "_law_take" (defArgs s__law_take) (defBody s__law_take) (defScope s__law_take) .none kV2 dc2 pm2 an2 cd2 ct2), sl2⟩) (q2 : PySem.W.codeIn K cd2 "_law_take" = true) (k2 : PySem.W.keepIn K (.ref f2) = true)
    (a3 : PySem.W.nsIn K mainGlobals "_law_by_place" = some (some (.ref f3))) (l3 : K.lookup f3 = some ⟨oc3, od3, .func (PySem.W.fnOf "_law_by_place" "_law_by_place" (defArgs s__law_by_place) (defBody s__law_by_place) (defScope s__law_by_place) .none kV3 dc3 pm3 an3 cd3 ct3), sl3⟩) (q3 : PySem.W.codeIn K cd3 "_law_by_place" = true) (k3 : PySem.W.keepIn K (.ref f3) = true)
    (a4 : PySem.W.nsIn K mainGlobals "_law_by_name" = some (some (.ref f4))) (l4 : K.lookup f4 = some ⟨oc4, od4, .func (PySem.W.fnOf "_law_by_name" "_law_by_name" (defArgs s__law_by_name) (defBody s__law_by_name) (defScope s__law_by_name) .none kV4 dc4 pm4 an4 cd4 ct4), sl4⟩) (q4 : PySem.W.codeIn K cd4 "_law_by_name" = true) (k4 : PySem.W.keepIn K (.ref f4) = true)
    (a5 : PySem.W.nsIn K mainGlobals "_law_sorts" = some (some (.ref f5))) (l5 : K.lookup f5 = some ⟨oc5, od5, .func (PySem.W.fnOf "_law_sorts" "_law_sorts" (defArgs s__law_sorts) (defBody s__law_sorts) (defScope s__law_sorts) .none kV5 dc5 pm5 an5 cd5 ct5), sl5⟩) (q5 : PySem.W.codeIn K cd5 "_law_sorts" = true) (k5 : PySem.W.keepIn K (.ref f5) = true)
    (a6 : PySem.W.nsIn K mainGlobals "_law_is" = some (some (.ref f6))) (l6 : K.lookup f6 = some ⟨oc6, od6, .func (PySem.W.fnOf "_law_is" "_law_is" (defArgs s__law_is) (defBody s__law_is) (defScope s__law_is) .none kV6 dc6 pm6 an6 cd6 ct6), sl6⟩) (q6 : PySem.W.codeIn K cd6 "_law_is" = true) (k6 : PySem.W.keepIn K (.ref f6) = true)
    (a7 : PySem.W.nsIn K mainGlobals "_law_kept" = some (some (.ref f7))) (l7 : K.lookup f7 = some ⟨oc7, od7, .func (PySem.W.fnOf "_law_kept" "_law_kept" (defArgs s__law_kept) (defBody s__law_kept) (defScope s__law_kept) .none kV7 dc7 pm7 an7 cd7 ct7), sl7⟩) (q7 : PySem.W.codeIn K cd7 "_law_kept" = true) (k7 : PySem.W.keepIn K (.ref f7) = true)
    (a8 : PySem.W.nsIn K mainGlobals "_law_thing" = some (some (.ref f8))) (l8 : K.lookup f8 = some ⟨oc8, od8, .func (PySem.W.fnOf "_law_thing" "_law_thing" (defArgs s__law_thing) (defBody s__law_thing) (defScope s__law_thing) .none kV8 dc8 pm8 an8 cd8 ct8), sl8⟩) (q8 : PySem.W.codeIn K cd8 "_law_thing" = true) (k8 : PySem.W.keepIn K (.ref f8) = true)
    (a9 : PySem.W.nsIn K mainGlobals "_law_all_right" = some (some (.ref f9))) (l9 : K.lookup f9 = some ⟨oc9, od9, .func (PySem.W.fnOf "_law_all_right" "_law_all_right" (defArgs s__law_all_right) (defBody s__law_all_right) (defScope s__law_all_right) .none kV9 dc9 pm9 an9 cd9 ct9), sl9⟩) (q9 : PySem.W.codeIn K cd9 "_law_all_right" = true) (k9 : PySem.W.keepIn K (.ref f9) = true)
    (a10 : PySem.W.nsIn K mainGlobals "_law_raised" = some (some (.ref f10))) (l10 : K.lookup f10 = some ⟨oc10, od10, .func (PySem.W.fnOf "_law_raised" "_law_raised" (defArgs s__law_raised) (defBody s__law_raised) (defScope s__law_raised) .none kV10 dc10 pm10 an10 cd10 ct10), sl10⟩) (q10 : PySem.W.codeIn K cd10 "_law_raised" = true) (k10 : PySem.W.keepIn K (.ref f10) = true)
    (a11 : PySem.W.nsIn K mainGlobals "_law_caught" = some (some (.ref f11))) (l11 : K.lookup f11 = some ⟨oc11, od11, .func (PySem.W.fnOf "_law_caught" "_law_caught" (defArgs s__law_caught) (defBody s__law_caught) (defScope s__law_caught) .none kV11 dc11 pm11 an11 cd11 ct11), sl11⟩) (q11 : PySem.W.codeIn K cd11 "_law_caught" = true) (k11 : PySem.W.keepIn K (.ref f11) = true)
    (a12 : PySem.W.nsIn K mainGlobals "_law_very_right" = some (some (.ref f12))) (l12 : K.lookup f12 = some ⟨oc12, od12, .func (PySem.W.fnOf "_law_very_right" "_law_very_right" (defArgs s__law_very_right) (defBody s__law_very_right) (defScope s__law_very_right) .none kV12 dc12 pm12 an12 cd12 ct12), sl12⟩) (q12 : PySem.W.codeIn K cd12 "_law_very_right" = true) (k12 : PySem.W.keepIn K (.ref f12) = true)
    (a13 : PySem.W.nsIn K mainGlobals "law" = some (some (.ref f13))) (l13 : K.lookup f13 = some ⟨oc13, od13, .func (PySem.W.fnOf "law" "law" (defArgs s_law) (defBody s_law) (defScope s_law) .none kV13 dc13 pm13 an13 cd13 ct13), sl13⟩) (q13 : PySem.W.codeIn K cd13 "law" = true) (k13 : PySem.W.keepIn K (.ref f13) = true)
    (xa_InvalidOctets : PySem.W.nsIn K mainGlobals "InvalidOctets" = some (some (.ref A_InvalidOctets)))
    (xa_InvalidCount : PySem.W.nsIn K mainGlobals "InvalidCount" = some (some (.ref A_InvalidCount)))
    (xa_InvalidNumber : PySem.W.nsIn K mainGlobals "InvalidNumber" = some (some (.ref A_InvalidNumber)))
    (xa_InvalidMask : PySem.W.nsIn K mainGlobals "InvalidMask" = some (some (.ref A_InvalidMask)))
    (xa_InvalidOp : PySem.W.nsIn K mainGlobals "InvalidOp" = some (some (.ref A_InvalidOp)))
    (xa_InvalidBlock : PySem.W.nsIn K mainGlobals "InvalidBlock" = some (some (.ref A_InvalidBlock)))
    (xa_InvalidPage : PySem.W.nsIn K mainGlobals "InvalidPage" = some (some (.ref A_InvalidPage)))
    (xa_InvalidShape : PySem.W.nsIn K mainGlobals "InvalidShape" = some (some (.ref A_InvalidShape)))
    (xa_InvalidImage : PySem.W.nsIn K mainGlobals "InvalidImage" = some (some (.ref A_InvalidImage)))
    (xa_InvalidData : PySem.W.nsIn K mainGlobals "InvalidData" = some (some (.ref A_InvalidData)))
    (xa_InvalidRecord : PySem.W.nsIn K mainGlobals "InvalidRecord" = some (some (.ref A_InvalidRecord)))
    (xa_InvalidPath : PySem.W.nsIn K mainGlobals "InvalidPath" = some (some (.ref A_InvalidPath)))
    (xa_InvalidDeed : PySem.W.nsIn K mainGlobals "InvalidDeed" = some (some (.ref A_InvalidDeed)))
    (xa_InvalidLine : PySem.W.nsIn K mainGlobals "InvalidLine" = some (some (.ref A_InvalidLine)))
    (xa_InvalidScript : PySem.W.nsIn K mainGlobals "InvalidScript" = some (some (.ref A_InvalidScript)))
    (xa_InvalidTree : PySem.W.nsIn K mainGlobals "InvalidTree" = some (some (.ref A_InvalidTree)))
    (xa_InvalidChip : PySem.W.nsIn K mainGlobals "InvalidChip" = some (some (.ref A_InvalidChip)))
    (xa_InvalidRecords : PySem.W.nsIn K mainGlobals "InvalidRecords" = some (some (.ref A_InvalidRecords)))
    (xa_InvalidName : PySem.W.nsIn K mainGlobals "InvalidName" = some (some (.ref A_InvalidName)))
    (xa_InvalidPlans : PySem.W.nsIn K mainGlobals "InvalidPlans" = some (some (.ref A_InvalidPlans)))
    (xa_PowerCut : PySem.W.nsIn K mainGlobals "PowerCut" = some (some (.ref A_PowerCut)))
    (xa_TooMany : PySem.W.nsIn K mainGlobals "TooMany" = some (some (.ref A_TooMany)))
    (xa_NoThing : PySem.W.nsIn K mainGlobals "NoThing" = some (some (.ref A_NoThing)))
    (xa_NotReady : PySem.W.nsIn K mainGlobals "NotReady" = some (some (.ref A_NotReady)))
    (xa_NoRoom : PySem.W.nsIn K mainGlobals "NoRoom" = some (some (.ref A_NoRoom)))
    (xa_NothingToUndo : PySem.W.nsIn K mainGlobals "NothingToUndo" = some (some (.ref A_NothingToUndo)))
    (xa_FlashError : PySem.W.nsIn K mainGlobals "FlashError" = some (some (.ref A_FlashError)))
    (xl_InvalidOctets : K.lookup A_InvalidOctets = some (excClassObj nm_InvalidOctets q_InvalidOctets' A_InvalidOctets N_InvalidOctets bs_InvalidOctets (.ref A_FlashError :: PySem.HandSPX.veTail) true sn_InvalidOctets sub_InvalidOctets ab_InvalidOctets col_InvalidOctets dd_InvalidOctets k0_InvalidOctets k1_InvalidOctets k2_InvalidOctets k3_InvalidOctets k5_InvalidOctets "ValueError.__new__"))
    (xs_InvalidOctets : PySem.W.findIn K (.ref A_InvalidOctets) "__setattr__" = some (some (.builtin "object.__setattr__")))
    (xe_InvalidOctets : PySem.W.subIn K (.ref A_InvalidOctets) (.type "BaseException") = some true)
    (xt_InvalidOctets : PySem.W.typeIn K (.ref A_InvalidOctets) = some (.type "type"))
    (xk_InvalidOctets : PySem.W.keepIn K (.ref A_InvalidOctets) = true)
    (xn_InvalidOctets : PySem.W.findIn K (.ref A_InvalidOctets) "given" = some none)
    (xi_InvalidOctets : PySem.W.findIn K (.ref A_InvalidOctets) "__init__" = some (some (.ref I_InvalidOctets)))
    (xf_InvalidOctets : PySem.W.typeIn K (.ref I_InvalidOctets) = some (.type "function"))
    (fl_InvalidOctets : K.lookup I_InvalidOctets = some ⟨oc_InvalidOctets, od_InvalidOctets, .func (PySem.W.fnOf "__init__" "InvalidOctets.__init__" (defArgs si_InvalidOctets) (defBody si_InvalidOctets) (defScope si_InvalidOctets) .none kV_InvalidOctets dc_InvalidOctets pm_InvalidOctets an_InvalidOctets cd_InvalidOctets ct_InvalidOctets), sl_InvalidOctets⟩)
    (fq_InvalidOctets : PySem.W.codeIn K cd_InvalidOctets "InvalidOctets.__init__" = true)
    (fk_InvalidOctets : PySem.W.keepIn K (.ref I_InvalidOctets) = true)
    (xl_InvalidCount : K.lookup A_InvalidCount = some (excClassObj nm_InvalidCount q_InvalidCount' A_InvalidCount N_InvalidCount bs_InvalidCount (.ref A_FlashError :: PySem.HandSPX.veTail) true sn_InvalidCount sub_InvalidCount ab_InvalidCount col_InvalidCount dd_InvalidCount k0_InvalidCount k1_InvalidCount k2_InvalidCount k3_InvalidCount k5_InvalidCount "ValueError.__new__"))
    (xs_InvalidCount : PySem.W.findIn K (.ref A_InvalidCount) "__setattr__" = some (some (.builtin "object.__setattr__")))
    (xe_InvalidCount : PySem.W.subIn K (.ref A_InvalidCount) (.type "BaseException") = some true)
    (xt_InvalidCount : PySem.W.typeIn K (.ref A_InvalidCount) = some (.type "type"))
    (xk_InvalidCount : PySem.W.keepIn K (.ref A_InvalidCount) = true)
    (xn_InvalidCount : PySem.W.findIn K (.ref A_InvalidCount) "given" = some none)
    (xi_InvalidCount : PySem.W.findIn K (.ref A_InvalidCount) "__init__" = some (some (.ref I_InvalidCount)))
    (xf_InvalidCount : PySem.W.typeIn K (.ref I_InvalidCount) = some (.type "function"))
    (fl_InvalidCount : K.lookup I_InvalidCount = some ⟨oc_InvalidCount, od_InvalidCount, .func (PySem.W.fnOf "__init__" "InvalidCount.__init__" (defArgs si_InvalidCount) (defBody si_InvalidCount) (defScope si_InvalidCount) .none kV_InvalidCount dc_InvalidCount pm_InvalidCount an_InvalidCount cd_InvalidCount ct_InvalidCount), sl_InvalidCount⟩)
    (fq_InvalidCount : PySem.W.codeIn K cd_InvalidCount "InvalidCount.__init__" = true)
    (fk_InvalidCount : PySem.W.keepIn K (.ref I_InvalidCount) = true)
    (xl_InvalidNumber : K.lookup A_InvalidNumber = some (excClassObj nm_InvalidNumber q_InvalidNumber' A_InvalidNumber N_InvalidNumber bs_InvalidNumber (.ref A_FlashError :: PySem.HandSPX.veTail) true sn_InvalidNumber sub_InvalidNumber ab_InvalidNumber col_InvalidNumber dd_InvalidNumber k0_InvalidNumber k1_InvalidNumber k2_InvalidNumber k3_InvalidNumber k5_InvalidNumber "ValueError.__new__"))
    (xs_InvalidNumber : PySem.W.findIn K (.ref A_InvalidNumber) "__setattr__" = some (some (.builtin "object.__setattr__")))
    (xe_InvalidNumber : PySem.W.subIn K (.ref A_InvalidNumber) (.type "BaseException") = some true)
    (xt_InvalidNumber : PySem.W.typeIn K (.ref A_InvalidNumber) = some (.type "type"))
    (xk_InvalidNumber : PySem.W.keepIn K (.ref A_InvalidNumber) = true)
    (xn_InvalidNumber : PySem.W.findIn K (.ref A_InvalidNumber) "given" = some none)
    (xi_InvalidNumber : PySem.W.findIn K (.ref A_InvalidNumber) "__init__" = some (some (.ref I_InvalidNumber)))
    (xf_InvalidNumber : PySem.W.typeIn K (.ref I_InvalidNumber) = some (.type "function"))
    (fl_InvalidNumber : K.lookup I_InvalidNumber = some ⟨oc_InvalidNumber, od_InvalidNumber, .func (PySem.W.fnOf "__init__" "InvalidNumber.__init__" (defArgs si_InvalidNumber) (defBody si_InvalidNumber) (defScope si_InvalidNumber) .none kV_InvalidNumber dc_InvalidNumber pm_InvalidNumber an_InvalidNumber cd_InvalidNumber ct_InvalidNumber), sl_InvalidNumber⟩)
    (fq_InvalidNumber : PySem.W.codeIn K cd_InvalidNumber "InvalidNumber.__init__" = true)
    (fk_InvalidNumber : PySem.W.keepIn K (.ref I_InvalidNumber) = true)
    (xl_InvalidMask : K.lookup A_InvalidMask = some (excClassObj nm_InvalidMask q_InvalidMask' A_InvalidMask N_InvalidMask bs_InvalidMask (.ref A_FlashError :: PySem.HandSPX.veTail) true sn_InvalidMask sub_InvalidMask ab_InvalidMask col_InvalidMask dd_InvalidMask k0_InvalidMask k1_InvalidMask k2_InvalidMask k3_InvalidMask k5_InvalidMask "ValueError.__new__"))
    (xs_InvalidMask : PySem.W.findIn K (.ref A_InvalidMask) "__setattr__" = some (some (.builtin "object.__setattr__")))
    (xe_InvalidMask : PySem.W.subIn K (.ref A_InvalidMask) (.type "BaseException") = some true)
    (xt_InvalidMask : PySem.W.typeIn K (.ref A_InvalidMask) = some (.type "type"))
    (xk_InvalidMask : PySem.W.keepIn K (.ref A_InvalidMask) = true)
    (xn_InvalidMask : PySem.W.findIn K (.ref A_InvalidMask) "given" = some none)
    (xi_InvalidMask : PySem.W.findIn K (.ref A_InvalidMask) "__init__" = some (some (.ref I_InvalidMask)))
    (xf_InvalidMask : PySem.W.typeIn K (.ref I_InvalidMask) = some (.type "function"))
    (fl_InvalidMask : K.lookup I_InvalidMask = some ⟨oc_InvalidMask, od_InvalidMask, .func (PySem.W.fnOf "__init__" "InvalidMask.__init__" (defArgs si_InvalidMask) (defBody si_InvalidMask) (defScope si_InvalidMask) .none kV_InvalidMask dc_InvalidMask pm_InvalidMask an_InvalidMask cd_InvalidMask ct_InvalidMask), sl_InvalidMask⟩)
    (fq_InvalidMask : PySem.W.codeIn K cd_InvalidMask "InvalidMask.__init__" = true)
    (fk_InvalidMask : PySem.W.keepIn K (.ref I_InvalidMask) = true)
    (xl_InvalidOp : K.lookup A_InvalidOp = some (excClassObj nm_InvalidOp q_InvalidOp' A_InvalidOp N_InvalidOp bs_InvalidOp (.ref A_FlashError :: PySem.HandSPX.veTail) true sn_InvalidOp sub_InvalidOp ab_InvalidOp col_InvalidOp dd_InvalidOp k0_InvalidOp k1_InvalidOp k2_InvalidOp k3_InvalidOp k5_InvalidOp "ValueError.__new__"))
    (xs_InvalidOp : PySem.W.findIn K (.ref A_InvalidOp) "__setattr__" = some (some (.builtin "object.__setattr__")))
    (xe_InvalidOp : PySem.W.subIn K (.ref A_InvalidOp) (.type "BaseException") = some true)
    (xt_InvalidOp : PySem.W.typeIn K (.ref A_InvalidOp) = some (.type "type"))
    (xk_InvalidOp : PySem.W.keepIn K (.ref A_InvalidOp) = true)
    (xn_InvalidOp : PySem.W.findIn K (.ref A_InvalidOp) "given" = some none)
    (xi_InvalidOp : PySem.W.findIn K (.ref A_InvalidOp) "__init__" = some (some (.ref I_InvalidOp)))
    (xf_InvalidOp : PySem.W.typeIn K (.ref I_InvalidOp) = some (.type "function"))
    (fl_InvalidOp : K.lookup I_InvalidOp = some ⟨oc_InvalidOp, od_InvalidOp, .func (PySem.W.fnOf "__init__" "InvalidOp.__init__" (defArgs si_InvalidOp) (defBody si_InvalidOp) (defScope si_InvalidOp) .none kV_InvalidOp dc_InvalidOp pm_InvalidOp an_InvalidOp cd_InvalidOp ct_InvalidOp), sl_InvalidOp⟩)
    (fq_InvalidOp : PySem.W.codeIn K cd_InvalidOp "InvalidOp.__init__" = true)
    (fk_InvalidOp : PySem.W.keepIn K (.ref I_InvalidOp) = true)
    (xl_InvalidBlock : K.lookup A_InvalidBlock = some (excClassObj nm_InvalidBlock q_InvalidBlock' A_InvalidBlock N_InvalidBlock bs_InvalidBlock (.ref A_FlashError :: PySem.HandSPX.veTail) true sn_InvalidBlock sub_InvalidBlock ab_InvalidBlock col_InvalidBlock dd_InvalidBlock k0_InvalidBlock k1_InvalidBlock k2_InvalidBlock k3_InvalidBlock k5_InvalidBlock "ValueError.__new__"))
    (xs_InvalidBlock : PySem.W.findIn K (.ref A_InvalidBlock) "__setattr__" = some (some (.builtin "object.__setattr__")))
    (xe_InvalidBlock : PySem.W.subIn K (.ref A_InvalidBlock) (.type "BaseException") = some true)
    (xt_InvalidBlock : PySem.W.typeIn K (.ref A_InvalidBlock) = some (.type "type"))
    (xk_InvalidBlock : PySem.W.keepIn K (.ref A_InvalidBlock) = true)
    (xn_InvalidBlock : PySem.W.findIn K (.ref A_InvalidBlock) "given" = some none)
    (xi_InvalidBlock : PySem.W.findIn K (.ref A_InvalidBlock) "__init__" = some (some (.ref I_InvalidBlock)))
    (xf_InvalidBlock : PySem.W.typeIn K (.ref I_InvalidBlock) = some (.type "function"))
    (fl_InvalidBlock : K.lookup I_InvalidBlock = some ⟨oc_InvalidBlock, od_InvalidBlock, .func (PySem.W.fnOf "__init__" "InvalidBlock.__init__" (defArgs si_InvalidBlock) (defBody si_InvalidBlock) (defScope si_InvalidBlock) .none kV_InvalidBlock dc_InvalidBlock pm_InvalidBlock an_InvalidBlock cd_InvalidBlock ct_InvalidBlock), sl_InvalidBlock⟩)
    (fq_InvalidBlock : PySem.W.codeIn K cd_InvalidBlock "InvalidBlock.__init__" = true)
    (fk_InvalidBlock : PySem.W.keepIn K (.ref I_InvalidBlock) = true)
    (xl_InvalidPage : K.lookup A_InvalidPage = some (excClassObj nm_InvalidPage q_InvalidPage' A_InvalidPage N_InvalidPage bs_InvalidPage (.ref A_FlashError :: PySem.HandSPX.veTail) true sn_InvalidPage sub_InvalidPage ab_InvalidPage col_InvalidPage dd_InvalidPage k0_InvalidPage k1_InvalidPage k2_InvalidPage k3_InvalidPage k5_InvalidPage "ValueError.__new__"))
    (xs_InvalidPage : PySem.W.findIn K (.ref A_InvalidPage) "__setattr__" = some (some (.builtin "object.__setattr__")))
    (xe_InvalidPage : PySem.W.subIn K (.ref A_InvalidPage) (.type "BaseException") = some true)
    (xt_InvalidPage : PySem.W.typeIn K (.ref A_InvalidPage) = some (.type "type"))
    (xk_InvalidPage : PySem.W.keepIn K (.ref A_InvalidPage) = true)
    (xn_InvalidPage : PySem.W.findIn K (.ref A_InvalidPage) "given" = some none)
    (xi_InvalidPage : PySem.W.findIn K (.ref A_InvalidPage) "__init__" = some (some (.ref I_InvalidPage)))
    (xf_InvalidPage : PySem.W.typeIn K (.ref I_InvalidPage) = some (.type "function"))
    (fl_InvalidPage : K.lookup I_InvalidPage = some ⟨oc_InvalidPage, od_InvalidPage, .func (PySem.W.fnOf "__init__" "InvalidPage.__init__" (defArgs si_InvalidPage) (defBody si_InvalidPage) (defScope si_InvalidPage) .none kV_InvalidPage dc_InvalidPage pm_InvalidPage an_InvalidPage cd_InvalidPage ct_InvalidPage), sl_InvalidPage⟩)
    (fq_InvalidPage : PySem.W.codeIn K cd_InvalidPage "InvalidPage.__init__" = true)
    (fk_InvalidPage : PySem.W.keepIn K (.ref I_InvalidPage) = true)
    (xl_InvalidShape : K.lookup A_InvalidShape = some (excClassObj nm_InvalidShape q_InvalidShape' A_InvalidShape N_InvalidShape bs_InvalidShape (.ref A_FlashError :: PySem.HandSPX.veTail) true sn_InvalidShape sub_InvalidShape ab_InvalidShape col_InvalidShape dd_InvalidShape k0_InvalidShape k1_InvalidShape k2_InvalidShape k3_InvalidShape k5_InvalidShape "ValueError.__new__"))
    (xs_InvalidShape : PySem.W.findIn K (.ref A_InvalidShape) "__setattr__" = some (some (.builtin "object.__setattr__")))
    (xe_InvalidShape : PySem.W.subIn K (.ref A_InvalidShape) (.type "BaseException") = some true)
    (xt_InvalidShape : PySem.W.typeIn K (.ref A_InvalidShape) = some (.type "type"))
    (xk_InvalidShape : PySem.W.keepIn K (.ref A_InvalidShape) = true)
    (xn_InvalidShape : PySem.W.findIn K (.ref A_InvalidShape) "given" = some none)
    (xi_InvalidShape : PySem.W.findIn K (.ref A_InvalidShape) "__init__" = some (some (.ref I_InvalidShape)))
    (xf_InvalidShape : PySem.W.typeIn K (.ref I_InvalidShape) = some (.type "function"))
    (fl_InvalidShape : K.lookup I_InvalidShape = some ⟨oc_InvalidShape, od_InvalidShape, .func (PySem.W.fnOf "__init__" "InvalidShape.__init__" (defArgs si_InvalidShape) (defBody si_InvalidShape) (defScope si_InvalidShape) .none kV_InvalidShape dc_InvalidShape pm_InvalidShape an_InvalidShape cd_InvalidShape ct_InvalidShape), sl_InvalidShape⟩)
    (fq_InvalidShape : PySem.W.codeIn K cd_InvalidShape "InvalidShape.__init__" = true)
    (fk_InvalidShape : PySem.W.keepIn K (.ref I_InvalidShape) = true)
    (xl_InvalidImage : K.lookup A_InvalidImage = some (excClassObj nm_InvalidImage q_InvalidImage' A_InvalidImage N_InvalidImage bs_InvalidImage (.ref A_FlashError :: PySem.HandSPX.veTail) true sn_InvalidImage sub_InvalidImage ab_InvalidImage col_InvalidImage dd_InvalidImage k0_InvalidImage k1_InvalidImage k2_InvalidImage k3_InvalidImage k5_InvalidImage "ValueError.__new__"))
    (xs_InvalidImage : PySem.W.findIn K (.ref A_InvalidImage) "__setattr__" = some (some (.builtin "object.__setattr__")))
    (xe_InvalidImage : PySem.W.subIn K (.ref A_InvalidImage) (.type "BaseException") = some true)
    (xt_InvalidImage : PySem.W.typeIn K (.ref A_InvalidImage) = some (.type "type"))
    (xk_InvalidImage : PySem.W.keepIn K (.ref A_InvalidImage) = true)
    (xn_InvalidImage : PySem.W.findIn K (.ref A_InvalidImage) "given" = some none)
    (xi_InvalidImage : PySem.W.findIn K (.ref A_InvalidImage) "__init__" = some (some (.ref I_InvalidImage)))
    (xf_InvalidImage : PySem.W.typeIn K (.ref I_InvalidImage) = some (.type "function"))
    (fl_InvalidImage : K.lookup I_InvalidImage = some ⟨oc_InvalidImage, od_InvalidImage, .func (PySem.W.fnOf "__init__" "InvalidImage.__init__" (defArgs si_InvalidImage) (defBody si_InvalidImage) (defScope si_InvalidImage) .none kV_InvalidImage dc_InvalidImage pm_InvalidImage an_InvalidImage cd_InvalidImage ct_InvalidImage), sl_InvalidImage⟩)
    (fq_InvalidImage : PySem.W.codeIn K cd_InvalidImage "InvalidImage.__init__" = true)
    (fk_InvalidImage : PySem.W.keepIn K (.ref I_InvalidImage) = true)
    (xl_InvalidData : K.lookup A_InvalidData = some (excClassObj nm_InvalidData q_InvalidData' A_InvalidData N_InvalidData bs_InvalidData (.ref A_FlashError :: PySem.HandSPX.veTail) true sn_InvalidData sub_InvalidData ab_InvalidData col_InvalidData dd_InvalidData k0_InvalidData k1_InvalidData k2_InvalidData k3_InvalidData k5_InvalidData "ValueError.__new__"))
    (xs_InvalidData : PySem.W.findIn K (.ref A_InvalidData) "__setattr__" = some (some (.builtin "object.__setattr__")))
    (xe_InvalidData : PySem.W.subIn K (.ref A_InvalidData) (.type "BaseException") = some true)
    (xt_InvalidData : PySem.W.typeIn K (.ref A_InvalidData) = some (.type "type"))
    (xk_InvalidData : PySem.W.keepIn K (.ref A_InvalidData) = true)
    (xn_InvalidData : PySem.W.findIn K (.ref A_InvalidData) "given" = some none)
    (xi_InvalidData : PySem.W.findIn K (.ref A_InvalidData) "__init__" = some (some (.ref I_InvalidData)))
    (xf_InvalidData : PySem.W.typeIn K (.ref I_InvalidData) = some (.type "function"))
    (fl_InvalidData : K.lookup I_InvalidData = some ⟨oc_InvalidData, od_InvalidData, .func (PySem.W.fnOf "__init__" "InvalidData.__init__" (defArgs si_InvalidData) (defBody si_InvalidData) (defScope si_InvalidData) .none kV_InvalidData dc_InvalidData pm_InvalidData an_InvalidData cd_InvalidData ct_InvalidData), sl_InvalidData⟩)
    (fq_InvalidData : PySem.W.codeIn K cd_InvalidData "InvalidData.__init__" = true)
    (fk_InvalidData : PySem.W.keepIn K (.ref I_InvalidData) = true)
    (xl_InvalidRecord : K.lookup A_InvalidRecord = some (excClassObj nm_InvalidRecord q_InvalidRecord' A_InvalidRecord N_InvalidRecord bs_InvalidRecord (.ref A_FlashError :: PySem.HandSPX.veTail) true sn_InvalidRecord sub_InvalidRecord ab_InvalidRecord col_InvalidRecord dd_InvalidRecord k0_InvalidRecord k1_InvalidRecord k2_InvalidRecord k3_InvalidRecord k5_InvalidRecord "ValueError.__new__"))
    (xs_InvalidRecord : PySem.W.findIn K (.ref A_InvalidRecord) "__setattr__" = some (some (.builtin "object.__setattr__")))
    (xe_InvalidRecord : PySem.W.subIn K (.ref A_InvalidRecord) (.type "BaseException") = some true)
    (xt_InvalidRecord : PySem.W.typeIn K (.ref A_InvalidRecord) = some (.type "type"))
    (xk_InvalidRecord : PySem.W.keepIn K (.ref A_InvalidRecord) = true)
    (xn_InvalidRecord : PySem.W.findIn K (.ref A_InvalidRecord) "given" = some none)
    (xi_InvalidRecord : PySem.W.findIn K (.ref A_InvalidRecord) "__init__" = some (some (.ref I_InvalidRecord)))
    (xf_InvalidRecord : PySem.W.typeIn K (.ref I_InvalidRecord) = some (.type "function"))
    (fl_InvalidRecord : K.lookup I_InvalidRecord = some ⟨oc_InvalidRecord, od_InvalidRecord, .func (PySem.W.fnOf "__init__" "InvalidRecord.__init__" (defArgs si_InvalidRecord) (defBody si_InvalidRecord) (defScope si_InvalidRecord) .none kV_InvalidRecord dc_InvalidRecord pm_InvalidRecord an_InvalidRecord cd_InvalidRecord ct_InvalidRecord), sl_InvalidRecord⟩)
    (fq_InvalidRecord : PySem.W.codeIn K cd_InvalidRecord "InvalidRecord.__init__" = true)
    (fk_InvalidRecord : PySem.W.keepIn K (.ref I_InvalidRecord) = true)
    (xl_InvalidPath : K.lookup A_InvalidPath = some (excClassObj nm_InvalidPath q_InvalidPath' A_InvalidPath N_InvalidPath bs_InvalidPath (.ref A_FlashError :: PySem.HandSPX.veTail) true sn_InvalidPath sub_InvalidPath ab_InvalidPath col_InvalidPath dd_InvalidPath k0_InvalidPath k1_InvalidPath k2_InvalidPath k3_InvalidPath k5_InvalidPath "ValueError.__new__"))
    (xs_InvalidPath : PySem.W.findIn K (.ref A_InvalidPath) "__setattr__" = some (some (.builtin "object.__setattr__")))
    (xe_InvalidPath : PySem.W.subIn K (.ref A_InvalidPath) (.type "BaseException") = some true)
    (xt_InvalidPath : PySem.W.typeIn K (.ref A_InvalidPath) = some (.type "type"))
    (xk_InvalidPath : PySem.W.keepIn K (.ref A_InvalidPath) = true)
    (xn_InvalidPath : PySem.W.findIn K (.ref A_InvalidPath) "given" = some none)
    (xi_InvalidPath : PySem.W.findIn K (.ref A_InvalidPath) "__init__" = some (some (.ref I_InvalidPath)))
    (xf_InvalidPath : PySem.W.typeIn K (.ref I_InvalidPath) = some (.type "function"))
    (fl_InvalidPath : K.lookup I_InvalidPath = some ⟨oc_InvalidPath, od_InvalidPath, .func (PySem.W.fnOf "__init__" "InvalidPath.__init__" (defArgs si_InvalidPath) (defBody si_InvalidPath) (defScope si_InvalidPath) .none kV_InvalidPath dc_InvalidPath pm_InvalidPath an_InvalidPath cd_InvalidPath ct_InvalidPath), sl_InvalidPath⟩)
    (fq_InvalidPath : PySem.W.codeIn K cd_InvalidPath "InvalidPath.__init__" = true)
    (fk_InvalidPath : PySem.W.keepIn K (.ref I_InvalidPath) = true)
    (xl_InvalidDeed : K.lookup A_InvalidDeed = some (excClassObj nm_InvalidDeed q_InvalidDeed' A_InvalidDeed N_InvalidDeed bs_InvalidDeed (.ref A_FlashError :: PySem.HandSPX.veTail) true sn_InvalidDeed sub_InvalidDeed ab_InvalidDeed col_InvalidDeed dd_InvalidDeed k0_InvalidDeed k1_InvalidDeed k2_InvalidDeed k3_InvalidDeed k5_InvalidDeed "ValueError.__new__"))
    (xs_InvalidDeed : PySem.W.findIn K (.ref A_InvalidDeed) "__setattr__" = some (some (.builtin "object.__setattr__")))
    (xe_InvalidDeed : PySem.W.subIn K (.ref A_InvalidDeed) (.type "BaseException") = some true)
    (xt_InvalidDeed : PySem.W.typeIn K (.ref A_InvalidDeed) = some (.type "type"))
    (xk_InvalidDeed : PySem.W.keepIn K (.ref A_InvalidDeed) = true)
    (xn_InvalidDeed : PySem.W.findIn K (.ref A_InvalidDeed) "given" = some none)
    (xi_InvalidDeed : PySem.W.findIn K (.ref A_InvalidDeed) "__init__" = some (some (.ref I_InvalidDeed)))
    (xf_InvalidDeed : PySem.W.typeIn K (.ref I_InvalidDeed) = some (.type "function"))
    (fl_InvalidDeed : K.lookup I_InvalidDeed = some ⟨oc_InvalidDeed, od_InvalidDeed, .func (PySem.W.fnOf "__init__" "InvalidDeed.__init__" (defArgs si_InvalidDeed) (defBody si_InvalidDeed) (defScope si_InvalidDeed) .none kV_InvalidDeed dc_InvalidDeed pm_InvalidDeed an_InvalidDeed cd_InvalidDeed ct_InvalidDeed), sl_InvalidDeed⟩)
    (fq_InvalidDeed : PySem.W.codeIn K cd_InvalidDeed "InvalidDeed.__init__" = true)
    (fk_InvalidDeed : PySem.W.keepIn K (.ref I_InvalidDeed) = true)
    (xl_InvalidLine : K.lookup A_InvalidLine = some (excClassObj nm_InvalidLine q_InvalidLine' A_InvalidLine N_InvalidLine bs_InvalidLine (.ref A_FlashError :: PySem.HandSPX.veTail) true sn_InvalidLine sub_InvalidLine ab_InvalidLine col_InvalidLine dd_InvalidLine k0_InvalidLine k1_InvalidLine k2_InvalidLine k3_InvalidLine k5_InvalidLine "ValueError.__new__"))
    (xs_InvalidLine : PySem.W.findIn K (.ref A_InvalidLine) "__setattr__" = some (some (.builtin "object.__setattr__")))
    (xe_InvalidLine : PySem.W.subIn K (.ref A_InvalidLine) (.type "BaseException") = some true)
    (xt_InvalidLine : PySem.W.typeIn K (.ref A_InvalidLine) = some (.type "type"))
    (xk_InvalidLine : PySem.W.keepIn K (.ref A_InvalidLine) = true)
    (xn_InvalidLine : PySem.W.findIn K (.ref A_InvalidLine) "given" = some none)
    (xi_InvalidLine : PySem.W.findIn K (.ref A_InvalidLine) "__init__" = some (some (.ref I_InvalidLine)))
    (xf_InvalidLine : PySem.W.typeIn K (.ref I_InvalidLine) = some (.type "function"))
    (fl_InvalidLine : K.lookup I_InvalidLine = some ⟨oc_InvalidLine, od_InvalidLine, .func (PySem.W.fnOf "__init__" "InvalidLine.__init__" (defArgs si_InvalidLine) (defBody si_InvalidLine) (defScope si_InvalidLine) .none kV_InvalidLine dc_InvalidLine pm_InvalidLine an_InvalidLine cd_InvalidLine ct_InvalidLine), sl_InvalidLine⟩)
    (fq_InvalidLine : PySem.W.codeIn K cd_InvalidLine "InvalidLine.__init__" = true)
    (fk_InvalidLine : PySem.W.keepIn K (.ref I_InvalidLine) = true)
    (xl_InvalidScript : K.lookup A_InvalidScript = some (excClassObj nm_InvalidScript q_InvalidScript' A_InvalidScript N_InvalidScript bs_InvalidScript (.ref A_FlashError :: PySem.HandSPX.veTail) true sn_InvalidScript sub_InvalidScript ab_InvalidScript col_InvalidScript dd_InvalidScript k0_InvalidScript k1_InvalidScript k2_InvalidScript k3_InvalidScript k5_InvalidScript "ValueError.__new__"))
    (xs_InvalidScript : PySem.W.findIn K (.ref A_InvalidScript) "__setattr__" = some (some (.builtin "object.__setattr__")))
    (xe_InvalidScript : PySem.W.subIn K (.ref A_InvalidScript) (.type "BaseException") = some true)
    (xt_InvalidScript : PySem.W.typeIn K (.ref A_InvalidScript) = some (.type "type"))
    (xk_InvalidScript : PySem.W.keepIn K (.ref A_InvalidScript) = true)
    (xn_InvalidScript : PySem.W.findIn K (.ref A_InvalidScript) "given" = some none)
    (xi_InvalidScript : PySem.W.findIn K (.ref A_InvalidScript) "__init__" = some (some (.ref I_InvalidScript)))
    (xf_InvalidScript : PySem.W.typeIn K (.ref I_InvalidScript) = some (.type "function"))
    (fl_InvalidScript : K.lookup I_InvalidScript = some ⟨oc_InvalidScript, od_InvalidScript, .func (PySem.W.fnOf "__init__" "InvalidScript.__init__" (defArgs si_InvalidScript) (defBody si_InvalidScript) (defScope si_InvalidScript) .none kV_InvalidScript dc_InvalidScript pm_InvalidScript an_InvalidScript cd_InvalidScript ct_InvalidScript), sl_InvalidScript⟩)
    (fq_InvalidScript : PySem.W.codeIn K cd_InvalidScript "InvalidScript.__init__" = true)
    (fk_InvalidScript : PySem.W.keepIn K (.ref I_InvalidScript) = true)
    (xl_InvalidTree : K.lookup A_InvalidTree = some (excClassObj nm_InvalidTree q_InvalidTree' A_InvalidTree N_InvalidTree bs_InvalidTree (.ref A_FlashError :: PySem.HandSPX.veTail) true sn_InvalidTree sub_InvalidTree ab_InvalidTree col_InvalidTree dd_InvalidTree k0_InvalidTree k1_InvalidTree k2_InvalidTree k3_InvalidTree k5_InvalidTree "ValueError.__new__"))
    (xs_InvalidTree : PySem.W.findIn K (.ref A_InvalidTree) "__setattr__" = some (some (.builtin "object.__setattr__")))
    (xe_InvalidTree : PySem.W.subIn K (.ref A_InvalidTree) (.type "BaseException") = some true)
    (xt_InvalidTree : PySem.W.typeIn K (.ref A_InvalidTree) = some (.type "type"))
    (xk_InvalidTree : PySem.W.keepIn K (.ref A_InvalidTree) = true)
    (xn_InvalidTree : PySem.W.findIn K (.ref A_InvalidTree) "given" = some none)
    (xi_InvalidTree : PySem.W.findIn K (.ref A_InvalidTree) "__init__" = some (some (.ref I_InvalidTree)))
    (xf_InvalidTree : PySem.W.typeIn K (.ref I_InvalidTree) = some (.type "function"))
    (fl_InvalidTree : K.lookup I_InvalidTree = some ⟨oc_InvalidTree, od_InvalidTree, .func (PySem.W.fnOf "__init__" "InvalidTree.__init__" (defArgs si_InvalidTree) (defBody si_InvalidTree) (defScope si_InvalidTree) .none kV_InvalidTree dc_InvalidTree pm_InvalidTree an_InvalidTree cd_InvalidTree ct_InvalidTree), sl_InvalidTree⟩)
    (fq_InvalidTree : PySem.W.codeIn K cd_InvalidTree "InvalidTree.__init__" = true)
    (fk_InvalidTree : PySem.W.keepIn K (.ref I_InvalidTree) = true)
    (xl_InvalidChip : K.lookup A_InvalidChip = some (excClassObj nm_InvalidChip q_InvalidChip' A_InvalidChip N_InvalidChip bs_InvalidChip (.ref A_FlashError :: PySem.HandSPX.veTail) true sn_InvalidChip sub_InvalidChip ab_InvalidChip col_InvalidChip dd_InvalidChip k0_InvalidChip k1_InvalidChip k2_InvalidChip k3_InvalidChip k5_InvalidChip "ValueError.__new__"))
    (xs_InvalidChip : PySem.W.findIn K (.ref A_InvalidChip) "__setattr__" = some (some (.builtin "object.__setattr__")))
    (xe_InvalidChip : PySem.W.subIn K (.ref A_InvalidChip) (.type "BaseException") = some true)
    (xt_InvalidChip : PySem.W.typeIn K (.ref A_InvalidChip) = some (.type "type"))
    (xk_InvalidChip : PySem.W.keepIn K (.ref A_InvalidChip) = true)
    (xn_InvalidChip : PySem.W.findIn K (.ref A_InvalidChip) "given" = some none)
    (xi_InvalidChip : PySem.W.findIn K (.ref A_InvalidChip) "__init__" = some (some (.ref I_InvalidChip)))
    (xf_InvalidChip : PySem.W.typeIn K (.ref I_InvalidChip) = some (.type "function"))
    (fl_InvalidChip : K.lookup I_InvalidChip = some ⟨oc_InvalidChip, od_InvalidChip, .func (PySem.W.fnOf "__init__" "InvalidChip.__init__" (defArgs si_InvalidChip) (defBody si_InvalidChip) (defScope si_InvalidChip) .none kV_InvalidChip dc_InvalidChip pm_InvalidChip an_InvalidChip cd_InvalidChip ct_InvalidChip), sl_InvalidChip⟩)
    (fq_InvalidChip : PySem.W.codeIn K cd_InvalidChip "InvalidChip.__init__" = true)
    (fk_InvalidChip : PySem.W.keepIn K (.ref I_InvalidChip) = true)
    (xl_InvalidRecords : K.lookup A_InvalidRecords = some (excClassObj nm_InvalidRecords q_InvalidRecords' A_InvalidRecords N_InvalidRecords bs_InvalidRecords (.ref A_FlashError :: PySem.HandSPX.veTail) true sn_InvalidRecords sub_InvalidRecords ab_InvalidRecords col_InvalidRecords dd_InvalidRecords k0_InvalidRecords k1_InvalidRecords k2_InvalidRecords k3_InvalidRecords k5_InvalidRecords "ValueError.__new__"))
    (xs_InvalidRecords : PySem.W.findIn K (.ref A_InvalidRecords) "__setattr__" = some (some (.builtin "object.__setattr__")))
    (xe_InvalidRecords : PySem.W.subIn K (.ref A_InvalidRecords) (.type "BaseException") = some true)
    (xt_InvalidRecords : PySem.W.typeIn K (.ref A_InvalidRecords) = some (.type "type"))
    (xk_InvalidRecords : PySem.W.keepIn K (.ref A_InvalidRecords) = true)
    (xn_InvalidRecords : PySem.W.findIn K (.ref A_InvalidRecords) "given" = some none)
    (xi_InvalidRecords : PySem.W.findIn K (.ref A_InvalidRecords) "__init__" = some (some (.ref I_InvalidRecords)))
    (xf_InvalidRecords : PySem.W.typeIn K (.ref I_InvalidRecords) = some (.type "function"))
    (fl_InvalidRecords : K.lookup I_InvalidRecords = some ⟨oc_InvalidRecords, od_InvalidRecords, .func (PySem.W.fnOf "__init__" "InvalidRecords.__init__" (defArgs si_InvalidRecords) (defBody si_InvalidRecords) (defScope si_InvalidRecords) .none kV_InvalidRecords dc_InvalidRecords pm_InvalidRecords an_InvalidRecords cd_InvalidRecords ct_InvalidRecords), sl_InvalidRecords⟩)
    (fq_InvalidRecords : PySem.W.codeIn K cd_InvalidRecords "InvalidRecords.__init__" = true)
    (fk_InvalidRecords : PySem.W.keepIn K (.ref I_InvalidRecords) = true)
    (xl_InvalidName : K.lookup A_InvalidName = some (excClassObj nm_InvalidName q_InvalidName' A_InvalidName N_InvalidName bs_InvalidName (.ref A_FlashError :: PySem.HandSPX.veTail) true sn_InvalidName sub_InvalidName ab_InvalidName col_InvalidName dd_InvalidName k0_InvalidName k1_InvalidName k2_InvalidName k3_InvalidName k5_InvalidName "ValueError.__new__"))
    (xs_InvalidName : PySem.W.findIn K (.ref A_InvalidName) "__setattr__" = some (some (.builtin "object.__setattr__")))
    (xe_InvalidName : PySem.W.subIn K (.ref A_InvalidName) (.type "BaseException") = some true)
    (xt_InvalidName : PySem.W.typeIn K (.ref A_InvalidName) = some (.type "type"))
    (xk_InvalidName : PySem.W.keepIn K (.ref A_InvalidName) = true)
    (xn_InvalidName : PySem.W.findIn K (.ref A_InvalidName) "given" = some none)
    (xi_InvalidName : PySem.W.findIn K (.ref A_InvalidName) "__init__" = some (some (.ref I_InvalidName)))
    (xf_InvalidName : PySem.W.typeIn K (.ref I_InvalidName) = some (.type "function"))
    (fl_InvalidName : K.lookup I_InvalidName = some ⟨oc_InvalidName, od_InvalidName, .func (PySem.W.fnOf "__init__" "InvalidName.__init__" (defArgs si_InvalidName) (defBody si_InvalidName) (defScope si_InvalidName) .none kV_InvalidName dc_InvalidName pm_InvalidName an_InvalidName cd_InvalidName ct_InvalidName), sl_InvalidName⟩)
    (fq_InvalidName : PySem.W.codeIn K cd_InvalidName "InvalidName.__init__" = true)
    (fk_InvalidName : PySem.W.keepIn K (.ref I_InvalidName) = true)
    (xl_InvalidPlans : K.lookup A_InvalidPlans = some (excClassObj nm_InvalidPlans q_InvalidPlans' A_InvalidPlans N_InvalidPlans bs_InvalidPlans (.ref A_FlashError :: PySem.HandSPX.veTail) true sn_InvalidPlans sub_InvalidPlans ab_InvalidPlans col_InvalidPlans dd_InvalidPlans k0_InvalidPlans k1_InvalidPlans k2_InvalidPlans k3_InvalidPlans k5_InvalidPlans "ValueError.__new__"))
    (xs_InvalidPlans : PySem.W.findIn K (.ref A_InvalidPlans) "__setattr__" = some (some (.builtin "object.__setattr__")))
    (xe_InvalidPlans : PySem.W.subIn K (.ref A_InvalidPlans) (.type "BaseException") = some true)
    (xt_InvalidPlans : PySem.W.typeIn K (.ref A_InvalidPlans) = some (.type "type"))
    (xk_InvalidPlans : PySem.W.keepIn K (.ref A_InvalidPlans) = true)
    (xn_InvalidPlans : PySem.W.findIn K (.ref A_InvalidPlans) "given" = some none)
    (xi_InvalidPlans : PySem.W.findIn K (.ref A_InvalidPlans) "__init__" = some (some (.ref I_InvalidPlans)))
    (xf_InvalidPlans : PySem.W.typeIn K (.ref I_InvalidPlans) = some (.type "function"))
    (fl_InvalidPlans : K.lookup I_InvalidPlans = some ⟨oc_InvalidPlans, od_InvalidPlans, .func (PySem.W.fnOf "__init__" "InvalidPlans.__init__" (defArgs si_InvalidPlans) (defBody si_InvalidPlans) (defScope si_InvalidPlans) .none kV_InvalidPlans dc_InvalidPlans pm_InvalidPlans an_InvalidPlans cd_InvalidPlans ct_InvalidPlans), sl_InvalidPlans⟩)
    (fq_InvalidPlans : PySem.W.codeIn K cd_InvalidPlans "InvalidPlans.__init__" = true)
    (fk_InvalidPlans : PySem.W.keepIn K (.ref I_InvalidPlans) = true)
    (xl_PowerCut : K.lookup A_PowerCut = some (excClassObj nm_PowerCut q_PowerCut' A_PowerCut N_PowerCut bs_PowerCut (.ref A_FlashError :: PySem.HandSPX.veTail) true sn_PowerCut sub_PowerCut ab_PowerCut col_PowerCut dd_PowerCut k0_PowerCut k1_PowerCut k2_PowerCut k3_PowerCut k5_PowerCut "ValueError.__new__"))
    (xs_PowerCut : PySem.W.findIn K (.ref A_PowerCut) "__setattr__" = some (some (.builtin "object.__setattr__")))
    (xe_PowerCut : PySem.W.subIn K (.ref A_PowerCut) (.type "BaseException") = some true)
    (xt_PowerCut : PySem.W.typeIn K (.ref A_PowerCut) = some (.type "type"))
    (xk_PowerCut : PySem.W.keepIn K (.ref A_PowerCut) = true)
    (xn_PowerCut : PySem.W.findIn K (.ref A_PowerCut) "op" = some none)
    (xi_PowerCut : PySem.W.findIn K (.ref A_PowerCut) "__init__" = some (some (.ref I_PowerCut)))
    (xf_PowerCut : PySem.W.typeIn K (.ref I_PowerCut) = some (.type "function"))
    (fl_PowerCut : K.lookup I_PowerCut = some ⟨oc_PowerCut, od_PowerCut, .func (PySem.W.fnOf "__init__" "PowerCut.__init__" (defArgs si_PowerCut) (defBody si_PowerCut) (defScope si_PowerCut) .none kV_PowerCut dc_PowerCut pm_PowerCut an_PowerCut cd_PowerCut ct_PowerCut), sl_PowerCut⟩)
    (fq_PowerCut : PySem.W.codeIn K cd_PowerCut "PowerCut.__init__" = true)
    (fk_PowerCut : PySem.W.keepIn K (.ref I_PowerCut) = true)
    (xl_TooMany : K.lookup A_TooMany = some (excClassObj nm_TooMany q_TooMany' A_TooMany N_TooMany bs_TooMany (.ref A_FlashError :: PySem.HandSPX.veTail) true sn_TooMany sub_TooMany ab_TooMany col_TooMany dd_TooMany k0_TooMany k1_TooMany k2_TooMany k3_TooMany k5_TooMany "ValueError.__new__"))
    (xs_TooMany : PySem.W.findIn K (.ref A_TooMany) "__setattr__" = some (some (.builtin "object.__setattr__")))
    (xe_TooMany : PySem.W.subIn K (.ref A_TooMany) (.type "BaseException") = some true)
    (xt_TooMany : PySem.W.typeIn K (.ref A_TooMany) = some (.type "type"))
    (xk_TooMany : PySem.W.keepIn K (.ref A_TooMany) = true)
    (xn_TooMany : PySem.W.findIn K (.ref A_TooMany) "count" = some none)
    (xi_TooMany : PySem.W.findIn K (.ref A_TooMany) "__init__" = some (some (.ref I_TooMany)))
    (xf_TooMany : PySem.W.typeIn K (.ref I_TooMany) = some (.type "function"))
    (fl_TooMany : K.lookup I_TooMany = some ⟨oc_TooMany, od_TooMany, .func (PySem.W.fnOf "__init__" "TooMany.__init__" (defArgs si_TooMany) (defBody si_TooMany) (defScope si_TooMany) .none kV_TooMany dc_TooMany pm_TooMany an_TooMany cd_TooMany ct_TooMany), sl_TooMany⟩)
    (fq_TooMany : PySem.W.codeIn K cd_TooMany "TooMany.__init__" = true)
    (fk_TooMany : PySem.W.keepIn K (.ref I_TooMany) = true)
    (xl_NoThing : K.lookup A_NoThing = some (excClassObj nm_NoThing q_NoThing' A_NoThing N_NoThing bs_NoThing (.ref A_FlashError :: PySem.HandSPX.veTail) true sn_NoThing sub_NoThing ab_NoThing col_NoThing dd_NoThing k0_NoThing k1_NoThing k2_NoThing k3_NoThing k5_NoThing "ValueError.__new__"))
    (xs_NoThing : PySem.W.findIn K (.ref A_NoThing) "__setattr__" = some (some (.builtin "object.__setattr__")))
    (xe_NoThing : PySem.W.subIn K (.ref A_NoThing) (.type "BaseException") = some true)
    (xt_NoThing : PySem.W.typeIn K (.ref A_NoThing) = some (.type "type"))
    (xk_NoThing : PySem.W.keepIn K (.ref A_NoThing) = true)
    (xn_NoThing : PySem.W.findIn K (.ref A_NoThing) "name" = some none)
    (xi_NoThing : PySem.W.findIn K (.ref A_NoThing) "__init__" = some (some (.ref I_NoThing)))
    (xf_NoThing : PySem.W.typeIn K (.ref I_NoThing) = some (.type "function"))
    (fl_NoThing : K.lookup I_NoThing = some ⟨oc_NoThing, od_NoThing, .func (PySem.W.fnOf "__init__" "NoThing.__init__" (defArgs si_NoThing) (defBody si_NoThing) (defScope si_NoThing) .none kV_NoThing dc_NoThing pm_NoThing an_NoThing cd_NoThing ct_NoThing), sl_NoThing⟩)
    (fq_NoThing : PySem.W.codeIn K cd_NoThing "NoThing.__init__" = true)
    (fk_NoThing : PySem.W.keepIn K (.ref I_NoThing) = true)
    (xl_NotReady : K.lookup A_NotReady = some (excClassObj nm_NotReady q_NotReady' A_NotReady N_NotReady bs_NotReady (.ref A_FlashError :: PySem.HandSPX.veTail) true sn_NotReady sub_NotReady ab_NotReady col_NotReady dd_NotReady k0_NotReady k1_NotReady k2_NotReady k3_NotReady k5_NotReady "ValueError.__new__"))
    (xs_NotReady : PySem.W.findIn K (.ref A_NotReady) "__setattr__" = some (some (.builtin "object.__setattr__")))
    (xe_NotReady : PySem.W.subIn K (.ref A_NotReady) (.type "BaseException") = some true)
    (xt_NotReady : PySem.W.typeIn K (.ref A_NotReady) = some (.type "type"))
    (xk_NotReady : PySem.W.keepIn K (.ref A_NotReady) = true)
    (xi_NotReady : PySem.W.findIn K (.ref A_NotReady) "__init__" = some (some (.ref I_NotReady)))
    (xf_NotReady : PySem.W.typeIn K (.ref I_NotReady) = some (.type "function"))
    (fl_NotReady : K.lookup I_NotReady = some ⟨oc_NotReady, od_NotReady, .func (PySem.W.fnOf "__init__" "NotReady.__init__" (defArgs si_NotReady) (defBody si_NotReady) (defScope si_NotReady) .none kV_NotReady dc_NotReady pm_NotReady an_NotReady cd_NotReady ct_NotReady), sl_NotReady⟩)
    (fq_NotReady : PySem.W.codeIn K cd_NotReady "NotReady.__init__" = true)
    (fk_NotReady : PySem.W.keepIn K (.ref I_NotReady) = true)
    (xl_NoRoom : K.lookup A_NoRoom = some (excClassObj nm_NoRoom q_NoRoom' A_NoRoom N_NoRoom bs_NoRoom (.ref A_FlashError :: PySem.HandSPX.veTail) true sn_NoRoom sub_NoRoom ab_NoRoom col_NoRoom dd_NoRoom k0_NoRoom k1_NoRoom k2_NoRoom k3_NoRoom k5_NoRoom "ValueError.__new__"))
    (xs_NoRoom : PySem.W.findIn K (.ref A_NoRoom) "__setattr__" = some (some (.builtin "object.__setattr__")))
    (xe_NoRoom : PySem.W.subIn K (.ref A_NoRoom) (.type "BaseException") = some true)
    (xt_NoRoom : PySem.W.typeIn K (.ref A_NoRoom) = some (.type "type"))
    (xk_NoRoom : PySem.W.keepIn K (.ref A_NoRoom) = true)
    (xi_NoRoom : PySem.W.findIn K (.ref A_NoRoom) "__init__" = some (some (.ref I_NoRoom)))
    (xf_NoRoom : PySem.W.typeIn K (.ref I_NoRoom) = some (.type "function"))
    (fl_NoRoom : K.lookup I_NoRoom = some ⟨oc_NoRoom, od_NoRoom, .func (PySem.W.fnOf "__init__" "NoRoom.__init__" (defArgs si_NoRoom) (defBody si_NoRoom) (defScope si_NoRoom) .none kV_NoRoom dc_NoRoom pm_NoRoom an_NoRoom cd_NoRoom ct_NoRoom), sl_NoRoom⟩)
    (fq_NoRoom : PySem.W.codeIn K cd_NoRoom "NoRoom.__init__" = true)
    (fk_NoRoom : PySem.W.keepIn K (.ref I_NoRoom) = true)
    (xl_NothingToUndo : K.lookup A_NothingToUndo = some (excClassObj nm_NothingToUndo q_NothingToUndo' A_NothingToUndo N_NothingToUndo bs_NothingToUndo (.ref A_FlashError :: PySem.HandSPX.veTail) true sn_NothingToUndo sub_NothingToUndo ab_NothingToUndo col_NothingToUndo dd_NothingToUndo k0_NothingToUndo k1_NothingToUndo k2_NothingToUndo k3_NothingToUndo k5_NothingToUndo "ValueError.__new__"))
    (xs_NothingToUndo : PySem.W.findIn K (.ref A_NothingToUndo) "__setattr__" = some (some (.builtin "object.__setattr__")))
    (xe_NothingToUndo : PySem.W.subIn K (.ref A_NothingToUndo) (.type "BaseException") = some true)
    (xt_NothingToUndo : PySem.W.typeIn K (.ref A_NothingToUndo) = some (.type "type"))
    (xk_NothingToUndo : PySem.W.keepIn K (.ref A_NothingToUndo) = true)
    (xi_NothingToUndo : PySem.W.findIn K (.ref A_NothingToUndo) "__init__" = some (some (.ref I_NothingToUndo)))
    (xf_NothingToUndo : PySem.W.typeIn K (.ref I_NothingToUndo) = some (.type "function"))
    (fl_NothingToUndo : K.lookup I_NothingToUndo = some ⟨oc_NothingToUndo, od_NothingToUndo, .func (PySem.W.fnOf "__init__" "NothingToUndo.__init__" (defArgs si_NothingToUndo) (defBody si_NothingToUndo) (defScope si_NothingToUndo) .none kV_NothingToUndo dc_NothingToUndo pm_NothingToUndo an_NothingToUndo cd_NothingToUndo ct_NothingToUndo), sl_NothingToUndo⟩)
    (fq_NothingToUndo : PySem.W.codeIn K cd_NothingToUndo "NothingToUndo.__init__" = true)
    (fk_NothingToUndo : PySem.W.keepIn K (.ref I_NothingToUndo) = true)
    (fr_ : PySem.W.readsIn K A_FlashError (.type "type") = true)
    (fa_ : PySem.W.specialIn K (.ref A_FlashError) "__getattribute__" = some (some (.builtin "type.__getattribute__")))
    (fv_ : PySem.W.findCls K (.ref A_FlashError) (.type "type") "__init__" = some (.val (.builtin "ValueError.__init__")))
    (isn_ : PySem.W.specialIn K (.builtin "object.__class__") "__get__" = some (some (.builtin "getset_descriptor.__get__")))
    (ist_ : PySem.W.takesIn K (.builtin "object.__class__") = some true)
    (tb_ : PySem.W.typeIn K (.ref A_FlashError) = some (.type "type"))
    (db_ : PySem.W.hasDictIn K A_FlashError = true)
    (sb_ : PySem.W.subIn K (.ref A_FlashError) (.type "BaseException") = some true)
    (ya_InvalidOctets : PySem.W.findIn K (.ref A_InvalidOctets) "__getattribute__" = some (some (.builtin "BaseException.__getattribute__")))
    (yg_InvalidOctets : PySem.W.findIn K (.ref A_InvalidOctets) "__getattr__" = some none)
    (yh_InvalidOctets : PySem.W.hasDictIn K A_InvalidOctets = true)
    (yc_InvalidOctets : PySem.W.findIn K (.ref A_InvalidOctets) "__class__" = some (some (.builtin "object.__class__")))
    (ym_InvalidOctets : PySem.W.mroIn K A_InvalidOctets (.type "object") = some true)
    (ya_InvalidCount : PySem.W.findIn K (.ref A_InvalidCount) "__getattribute__" = some (some (.builtin "BaseException.__getattribute__")))
    (yg_InvalidCount : PySem.W.findIn K (.ref A_InvalidCount) "__getattr__" = some none)
    (yh_InvalidCount : PySem.W.hasDictIn K A_InvalidCount = true)
    (yc_InvalidCount : PySem.W.findIn K (.ref A_InvalidCount) "__class__" = some (some (.builtin "object.__class__")))
    (ym_InvalidCount : PySem.W.mroIn K A_InvalidCount (.type "object") = some true)
    (ya_InvalidNumber : PySem.W.findIn K (.ref A_InvalidNumber) "__getattribute__" = some (some (.builtin "BaseException.__getattribute__")))
    (yg_InvalidNumber : PySem.W.findIn K (.ref A_InvalidNumber) "__getattr__" = some none)
    (yh_InvalidNumber : PySem.W.hasDictIn K A_InvalidNumber = true)
    (yc_InvalidNumber : PySem.W.findIn K (.ref A_InvalidNumber) "__class__" = some (some (.builtin "object.__class__")))
    (ym_InvalidNumber : PySem.W.mroIn K A_InvalidNumber (.type "object") = some true)
    (ya_InvalidMask : PySem.W.findIn K (.ref A_InvalidMask) "__getattribute__" = some (some (.builtin "BaseException.__getattribute__")))
    (yg_InvalidMask : PySem.W.findIn K (.ref A_InvalidMask) "__getattr__" = some none)
    (yh_InvalidMask : PySem.W.hasDictIn K A_InvalidMask = true)
    (yc_InvalidMask : PySem.W.findIn K (.ref A_InvalidMask) "__class__" = some (some (.builtin "object.__class__")))
    (ym_InvalidMask : PySem.W.mroIn K A_InvalidMask (.type "object") = some true)
    (ya_InvalidOp : PySem.W.findIn K (.ref A_InvalidOp) "__getattribute__" = some (some (.builtin "BaseException.__getattribute__")))
    (yg_InvalidOp : PySem.W.findIn K (.ref A_InvalidOp) "__getattr__" = some none)
    (yh_InvalidOp : PySem.W.hasDictIn K A_InvalidOp = true)
    (yc_InvalidOp : PySem.W.findIn K (.ref A_InvalidOp) "__class__" = some (some (.builtin "object.__class__")))
    (ym_InvalidOp : PySem.W.mroIn K A_InvalidOp (.type "object") = some true)
    (ya_InvalidBlock : PySem.W.findIn K (.ref A_InvalidBlock) "__getattribute__" = some (some (.builtin "BaseException.__getattribute__")))
    (yg_InvalidBlock : PySem.W.findIn K (.ref A_InvalidBlock) "__getattr__" = some none)
    (yh_InvalidBlock : PySem.W.hasDictIn K A_InvalidBlock = true)
    (yc_InvalidBlock : PySem.W.findIn K (.ref A_InvalidBlock) "__class__" = some (some (.builtin "object.__class__")))
    (ym_InvalidBlock : PySem.W.mroIn K A_InvalidBlock (.type "object") = some true)
    (ya_InvalidPage : PySem.W.findIn K (.ref A_InvalidPage) "__getattribute__" = some (some (.builtin "BaseException.__getattribute__")))
    (yg_InvalidPage : PySem.W.findIn K (.ref A_InvalidPage) "__getattr__" = some none)
    (yh_InvalidPage : PySem.W.hasDictIn K A_InvalidPage = true)
    (yc_InvalidPage : PySem.W.findIn K (.ref A_InvalidPage) "__class__" = some (some (.builtin "object.__class__")))
    (ym_InvalidPage : PySem.W.mroIn K A_InvalidPage (.type "object") = some true)
    (ya_InvalidShape : PySem.W.findIn K (.ref A_InvalidShape) "__getattribute__" = some (some (.builtin "BaseException.__getattribute__")))
    (yg_InvalidShape : PySem.W.findIn K (.ref A_InvalidShape) "__getattr__" = some none)
    (yh_InvalidShape : PySem.W.hasDictIn K A_InvalidShape = true)
    (yc_InvalidShape : PySem.W.findIn K (.ref A_InvalidShape) "__class__" = some (some (.builtin "object.__class__")))
    (ym_InvalidShape : PySem.W.mroIn K A_InvalidShape (.type "object") = some true)
    (ya_InvalidImage : PySem.W.findIn K (.ref A_InvalidImage) "__getattribute__" = some (some (.builtin "BaseException.__getattribute__")))
    (yg_InvalidImage : PySem.W.findIn K (.ref A_InvalidImage) "__getattr__" = some none)
    (yh_InvalidImage : PySem.W.hasDictIn K A_InvalidImage = true)
    (yc_InvalidImage : PySem.W.findIn K (.ref A_InvalidImage) "__class__" = some (some (.builtin "object.__class__")))
    (ym_InvalidImage : PySem.W.mroIn K A_InvalidImage (.type "object") = some true)
    (ya_InvalidData : PySem.W.findIn K (.ref A_InvalidData) "__getattribute__" = some (some (.builtin "BaseException.__getattribute__")))
    (yg_InvalidData : PySem.W.findIn K (.ref A_InvalidData) "__getattr__" = some none)
    (yh_InvalidData : PySem.W.hasDictIn K A_InvalidData = true)
    (yc_InvalidData : PySem.W.findIn K (.ref A_InvalidData) "__class__" = some (some (.builtin "object.__class__")))
    (ym_InvalidData : PySem.W.mroIn K A_InvalidData (.type "object") = some true)
    (ya_InvalidRecord : PySem.W.findIn K (.ref A_InvalidRecord) "__getattribute__" = some (some (.builtin "BaseException.__getattribute__")))
    (yg_InvalidRecord : PySem.W.findIn K (.ref A_InvalidRecord) "__getattr__" = some none)
    (yh_InvalidRecord : PySem.W.hasDictIn K A_InvalidRecord = true)
    (yc_InvalidRecord : PySem.W.findIn K (.ref A_InvalidRecord) "__class__" = some (some (.builtin "object.__class__")))
    (ym_InvalidRecord : PySem.W.mroIn K A_InvalidRecord (.type "object") = some true)
    (ya_InvalidPath : PySem.W.findIn K (.ref A_InvalidPath) "__getattribute__" = some (some (.builtin "BaseException.__getattribute__")))
    (yg_InvalidPath : PySem.W.findIn K (.ref A_InvalidPath) "__getattr__" = some none)
    (yh_InvalidPath : PySem.W.hasDictIn K A_InvalidPath = true)
    (yc_InvalidPath : PySem.W.findIn K (.ref A_InvalidPath) "__class__" = some (some (.builtin "object.__class__")))
    (ym_InvalidPath : PySem.W.mroIn K A_InvalidPath (.type "object") = some true)
    (ya_InvalidDeed : PySem.W.findIn K (.ref A_InvalidDeed) "__getattribute__" = some (some (.builtin "BaseException.__getattribute__")))
    (yg_InvalidDeed : PySem.W.findIn K (.ref A_InvalidDeed) "__getattr__" = some none)
    (yh_InvalidDeed : PySem.W.hasDictIn K A_InvalidDeed = true)
    (yc_InvalidDeed : PySem.W.findIn K (.ref A_InvalidDeed) "__class__" = some (some (.builtin "object.__class__")))
    (ym_InvalidDeed : PySem.W.mroIn K A_InvalidDeed (.type "object") = some true)
    (ya_InvalidLine : PySem.W.findIn K (.ref A_InvalidLine) "__getattribute__" = some (some (.builtin "BaseException.__getattribute__")))
    (yg_InvalidLine : PySem.W.findIn K (.ref A_InvalidLine) "__getattr__" = some none)
    (yh_InvalidLine : PySem.W.hasDictIn K A_InvalidLine = true)
    (yc_InvalidLine : PySem.W.findIn K (.ref A_InvalidLine) "__class__" = some (some (.builtin "object.__class__")))
    (ym_InvalidLine : PySem.W.mroIn K A_InvalidLine (.type "object") = some true)
    (ya_InvalidScript : PySem.W.findIn K (.ref A_InvalidScript) "__getattribute__" = some (some (.builtin "BaseException.__getattribute__")))
    (yg_InvalidScript : PySem.W.findIn K (.ref A_InvalidScript) "__getattr__" = some none)
    (yh_InvalidScript : PySem.W.hasDictIn K A_InvalidScript = true)
    (yc_InvalidScript : PySem.W.findIn K (.ref A_InvalidScript) "__class__" = some (some (.builtin "object.__class__")))
    (ym_InvalidScript : PySem.W.mroIn K A_InvalidScript (.type "object") = some true)
    (ya_InvalidTree : PySem.W.findIn K (.ref A_InvalidTree) "__getattribute__" = some (some (.builtin "BaseException.__getattribute__")))
    (yg_InvalidTree : PySem.W.findIn K (.ref A_InvalidTree) "__getattr__" = some none)
    (yh_InvalidTree : PySem.W.hasDictIn K A_InvalidTree = true)
    (yc_InvalidTree : PySem.W.findIn K (.ref A_InvalidTree) "__class__" = some (some (.builtin "object.__class__")))
    (ym_InvalidTree : PySem.W.mroIn K A_InvalidTree (.type "object") = some true)
    (ya_InvalidChip : PySem.W.findIn K (.ref A_InvalidChip) "__getattribute__" = some (some (.builtin "BaseException.__getattribute__")))
    (yg_InvalidChip : PySem.W.findIn K (.ref A_InvalidChip) "__getattr__" = some none)
    (yh_InvalidChip : PySem.W.hasDictIn K A_InvalidChip = true)
    (yc_InvalidChip : PySem.W.findIn K (.ref A_InvalidChip) "__class__" = some (some (.builtin "object.__class__")))
    (ym_InvalidChip : PySem.W.mroIn K A_InvalidChip (.type "object") = some true)
    (ya_InvalidRecords : PySem.W.findIn K (.ref A_InvalidRecords) "__getattribute__" = some (some (.builtin "BaseException.__getattribute__")))
    (yg_InvalidRecords : PySem.W.findIn K (.ref A_InvalidRecords) "__getattr__" = some none)
    (yh_InvalidRecords : PySem.W.hasDictIn K A_InvalidRecords = true)
    (yc_InvalidRecords : PySem.W.findIn K (.ref A_InvalidRecords) "__class__" = some (some (.builtin "object.__class__")))
    (ym_InvalidRecords : PySem.W.mroIn K A_InvalidRecords (.type "object") = some true)
    (ya_InvalidName : PySem.W.findIn K (.ref A_InvalidName) "__getattribute__" = some (some (.builtin "BaseException.__getattribute__")))
    (yg_InvalidName : PySem.W.findIn K (.ref A_InvalidName) "__getattr__" = some none)
    (yh_InvalidName : PySem.W.hasDictIn K A_InvalidName = true)
    (yc_InvalidName : PySem.W.findIn K (.ref A_InvalidName) "__class__" = some (some (.builtin "object.__class__")))
    (ym_InvalidName : PySem.W.mroIn K A_InvalidName (.type "object") = some true)
    (ya_InvalidPlans : PySem.W.findIn K (.ref A_InvalidPlans) "__getattribute__" = some (some (.builtin "BaseException.__getattribute__")))
    (yg_InvalidPlans : PySem.W.findIn K (.ref A_InvalidPlans) "__getattr__" = some none)
    (yh_InvalidPlans : PySem.W.hasDictIn K A_InvalidPlans = true)
    (yc_InvalidPlans : PySem.W.findIn K (.ref A_InvalidPlans) "__class__" = some (some (.builtin "object.__class__")))
    (ym_InvalidPlans : PySem.W.mroIn K A_InvalidPlans (.type "object") = some true)
    (ya_PowerCut : PySem.W.findIn K (.ref A_PowerCut) "__getattribute__" = some (some (.builtin "BaseException.__getattribute__")))
    (yg_PowerCut : PySem.W.findIn K (.ref A_PowerCut) "__getattr__" = some none)
    (yh_PowerCut : PySem.W.hasDictIn K A_PowerCut = true)
    (yc_PowerCut : PySem.W.findIn K (.ref A_PowerCut) "__class__" = some (some (.builtin "object.__class__")))
    (ym_PowerCut : PySem.W.mroIn K A_PowerCut (.type "object") = some true)
    (ya_TooMany : PySem.W.findIn K (.ref A_TooMany) "__getattribute__" = some (some (.builtin "BaseException.__getattribute__")))
    (yg_TooMany : PySem.W.findIn K (.ref A_TooMany) "__getattr__" = some none)
    (yh_TooMany : PySem.W.hasDictIn K A_TooMany = true)
    (yc_TooMany : PySem.W.findIn K (.ref A_TooMany) "__class__" = some (some (.builtin "object.__class__")))
    (ym_TooMany : PySem.W.mroIn K A_TooMany (.type "object") = some true)
    (ya_NoThing : PySem.W.findIn K (.ref A_NoThing) "__getattribute__" = some (some (.builtin "BaseException.__getattribute__")))
    (yg_NoThing : PySem.W.findIn K (.ref A_NoThing) "__getattr__" = some none)
    (yh_NoThing : PySem.W.hasDictIn K A_NoThing = true)
    (yc_NoThing : PySem.W.findIn K (.ref A_NoThing) "__class__" = some (some (.builtin "object.__class__")))
    (ym_NoThing : PySem.W.mroIn K A_NoThing (.type "object") = some true)
    (ya_NotReady : PySem.W.findIn K (.ref A_NotReady) "__getattribute__" = some (some (.builtin "BaseException.__getattribute__")))
    (yg_NotReady : PySem.W.findIn K (.ref A_NotReady) "__getattr__" = some none)
    (yh_NotReady : PySem.W.hasDictIn K A_NotReady = true)
    (yc_NotReady : PySem.W.findIn K (.ref A_NotReady) "__class__" = some (some (.builtin "object.__class__")))
    (ym_NotReady : PySem.W.mroIn K A_NotReady (.type "object") = some true)
    (ya_NoRoom : PySem.W.findIn K (.ref A_NoRoom) "__getattribute__" = some (some (.builtin "BaseException.__getattribute__")))
    (yg_NoRoom : PySem.W.findIn K (.ref A_NoRoom) "__getattr__" = some none)
    (yh_NoRoom : PySem.W.hasDictIn K A_NoRoom = true)
    (yc_NoRoom : PySem.W.findIn K (.ref A_NoRoom) "__class__" = some (some (.builtin "object.__class__")))
    (ym_NoRoom : PySem.W.mroIn K A_NoRoom (.type "object") = some true)
    (ya_NothingToUndo : PySem.W.findIn K (.ref A_NothingToUndo) "__getattribute__" = some (some (.builtin "BaseException.__getattribute__")))
    (yg_NothingToUndo : PySem.W.findIn K (.ref A_NothingToUndo) "__getattr__" = some none)
    (yh_NothingToUndo : PySem.W.hasDictIn K A_NothingToUndo = true)
    (yc_NothingToUndo : PySem.W.findIn K (.ref A_NothingToUndo) "__class__" = some (some (.builtin "object.__class__")))
    (ym_NothingToUndo : PySem.W.mroIn K A_NothingToUndo (.type "object") = some true)
    (nd_ : [A_FlashError, A_InvalidOctets, A_InvalidCount, A_InvalidNumber, A_InvalidMask, A_InvalidOp, A_InvalidBlock, A_InvalidPage, A_InvalidShape, A_InvalidImage, A_InvalidData, A_InvalidRecord, A_InvalidPath, A_InvalidDeed, A_InvalidLine, A_InvalidScript, A_InvalidTree, A_InvalidChip, A_InvalidRecords, A_InvalidName, A_InvalidPlans, A_PowerCut, A_TooMany, A_NoThing, A_NotReady, A_NoRoom, A_NothingToUndo].Nodup)
    (z_ValueError : PySem.W.nsIn K mainGlobals "ValueError" = some none)
    (z_abs : PySem.W.nsIn K mainGlobals "abs" = some none)
    (z_dict : PySem.W.nsIn K mainGlobals "dict" = some none)
    (z_int : PySem.W.nsIn K mainGlobals "int" = some none)
    (z_isinstance : PySem.W.nsIn K mainGlobals "isinstance" = some none)
    (z_len : PySem.W.nsIn K mainGlobals "len" = some none)
    (z_max : PySem.W.nsIn K mainGlobals "max" = some none)
    (z_min : PySem.W.nsIn K mainGlobals "min" = some none)
    (z_range : PySem.W.nsIn K mainGlobals "range" = some none)
    (z_repr : PySem.W.nsIn K mainGlobals "repr" = some none)
    (z_sum : PySem.W.nsIn K mainGlobals "sum" = some none)
    (true_law : ∀ ns : List Int, ns.length ≤ 63 → (∀ i ∈ ns, Builtin.Int.intBits i ≤ 1048576) → ∃ h', R_law [.fl (ns.map W.int)] [] = .ok (.bl true) h') :
    ∃ (fd : FuncData) (M : MF), (∀ (s : Shared) (u : Value), BindsTo s fd ⟨[u], []⟩ [("_law_script", u)]) ∧ (∀ base : Heap, K.In base → base.Ns mainGlobals mg → D.BaseF base → FnM l.prog w K mg base 5 fa fd ["_law_script"] M) ∧
      ∀ ns : List Int, ns.length ≤ 63 → (∀ i ∈ ns, Builtin.Int.intBits i ≤ 1048576) → ∃ h', M [.fl (ns.map W.int)] [] = .ok (.bl true) h' := by
  have q_InvalidOctets : cAt K "InvalidOctets" = A_InvalidOctets := by unfold cAt; rw [xa_InvalidOctets]
  have q_InvalidCount : cAt K "InvalidCount" = A_InvalidCount := by unfold cAt; rw [xa_InvalidCount]
  have q_InvalidNumber : cAt K "InvalidNumber" = A_InvalidNumber := by unfold cAt; rw [xa_InvalidNumber]
  have q_InvalidMask : cAt K "InvalidMask" = A_InvalidMask := by unfold cAt; rw [xa_InvalidMask]
  have q_InvalidOp : cAt K "InvalidOp" = A_InvalidOp := by unfold cAt; rw [xa_InvalidOp]
  have q_InvalidBlock : cAt K "InvalidBlock" = A_InvalidBlock := by unfold cAt; rw [xa_InvalidBlock]
  have q_InvalidPage : cAt K "InvalidPage" = A_InvalidPage := by unfold cAt; rw [xa_InvalidPage]
  have q_InvalidShape : cAt K "InvalidShape" = A_InvalidShape := by unfold cAt; rw [xa_InvalidShape]
  have q_InvalidImage : cAt K "InvalidImage" = A_InvalidImage := by unfold cAt; rw [xa_InvalidImage]
  have q_InvalidData : cAt K "InvalidData" = A_InvalidData := by unfold cAt; rw [xa_InvalidData]
  have q_InvalidRecord : cAt K "InvalidRecord" = A_InvalidRecord := by unfold cAt; rw [xa_InvalidRecord]
  have q_InvalidPath : cAt K "InvalidPath" = A_InvalidPath := by unfold cAt; rw [xa_InvalidPath]
  have q_InvalidDeed : cAt K "InvalidDeed" = A_InvalidDeed := by unfold cAt; rw [xa_InvalidDeed]
  have q_InvalidLine : cAt K "InvalidLine" = A_InvalidLine := by unfold cAt; rw [xa_InvalidLine]
  have q_InvalidScript : cAt K "InvalidScript" = A_InvalidScript := by unfold cAt; rw [xa_InvalidScript]
  have q_InvalidTree : cAt K "InvalidTree" = A_InvalidTree := by unfold cAt; rw [xa_InvalidTree]
  have q_InvalidChip : cAt K "InvalidChip" = A_InvalidChip := by unfold cAt; rw [xa_InvalidChip]
  have q_InvalidRecords : cAt K "InvalidRecords" = A_InvalidRecords := by unfold cAt; rw [xa_InvalidRecords]
  have q_InvalidName : cAt K "InvalidName" = A_InvalidName := by unfold cAt; rw [xa_InvalidName]
  have q_InvalidPlans : cAt K "InvalidPlans" = A_InvalidPlans := by unfold cAt; rw [xa_InvalidPlans]
  have q_PowerCut : cAt K "PowerCut" = A_PowerCut := by unfold cAt; rw [xa_PowerCut]
  have q_TooMany : cAt K "TooMany" = A_TooMany := by unfold cAt; rw [xa_TooMany]
  have q_NoThing : cAt K "NoThing" = A_NoThing := by unfold cAt; rw [xa_NoThing]
  have q_NotReady : cAt K "NotReady" = A_NotReady := by unfold cAt; rw [xa_NotReady]
  have q_NoRoom : cAt K "NoRoom" = A_NoRoom := by unfold cAt; rw [xa_NoRoom]
  have q_NothingToUndo : cAt K "NothingToUndo" = A_NothingToUndo := by unfold cAt; rw [xa_NothingToUndo]
  have q_FlashError : cAt K "FlashError" = A_FlashError := by unfold cAt; rw [xa_FlashError]
  have e := hfa.symm.trans (PySem.W.mg_of X G a13)
  have e2 : fa = f13 := by cases e; rfl
  subst e2
  let T : ∀ base : Heap, D.BaseF base → Txt K mg base := fun base sy => { sy := sy.sy, nd := sy.nd, f__law_cell := f0, fd__law_cell := _, F__law_cell := fun_mk (st := s__law_cell) l0 q0 k0, g__law_cell := PySem.W.mg_of X G a0, f__law_box := f1, fd__law_box := _, F__law_box := fun_mk (st := s__law_box) l1 q1 k1, g__law_box := PySem.W.mg_of X G a1, f__law_take := f2, fd__law_take := _, F__law_take := fun_mk (st := s__law_take) l2 q2 k2, g__law_take := PySem.W.mg_of X G a2, f__law_by_place := f3, fd__law_by_place := _, F__law_by_place := fun_mk (st := s__law_by_place) l3 q3 k3, g__law_by_place := PySem.W.mg_of X G a3, f__law_by_name := f4, fd__law_by_name := _, F__law_by_name := fun_mk (st := s__law_by_name) l4 q4 k4, g__law_by_name := PySem.W.mg_of X G a4, f__law_sorts := f5, fd__law_sorts := _, F__law_sorts := fun_mk (st := s__law_sorts) l5 q5 k5, g__law_sorts := PySem.W.mg_of X G a5, f__law_is := f6, fd__law_is := _, F__law_is := fun_mk (st := s__law_is) l6 q6 k6, g__law_is := PySem.W.mg_of X G a6, f__law_kept := f7, fd__law_kept := _, F__law_kept := fun_mk (st := s__law_kept) l7 q7 k7, g__law_kept := PySem.W.mg_of X G a7, f__law_thing := f8, fd__law_thing := _, F__law_thing := fun_mk (st := s__law_thing) l8 q8 k8, g__law_thing := PySem.W.mg_of X G a8, f__law_all_right := f9, fd__law_all_right := _, F__law_all_right := fun_mk (st := s__law_all_right) l9 q9 k9, g__law_all_right := PySem.W.mg_of X G a9, f__law_raised := f10, fd__law_raised := _, F__law_raised := fun_mk (st := s__law_raised) l10 q10 k10, g__law_raised := PySem.W.mg_of X G a10, f__law_caught := f11, fd__law_caught := _, F__law_caught := fun_mk (st := s__law_caught) l11 q11 k11, g__law_caught := PySem.W.mg_of X G a11, f__law_very_right := f12, fd__law_very_right := _, F__law_very_right := fun_mk (st := s__law_very_right) l12 q12 k12, g__law_very_right := PySem.W.mg_of X G a12, f_law := fa, fd_law := _, F_law := fun_mk (st := s_law) l13 q13 k13, g_law := PySem.W.mg_of X G a13, cg_InvalidOctets := by rw [q_InvalidOctets]; exact PySem.W.mg_of X G xa_InvalidOctets, cg_InvalidCount := by rw [q_InvalidCount]; exact PySem.W.mg_of X G xa_InvalidCount, cg_InvalidNumber := by rw [q_InvalidNumber]; exact PySem.W.mg_of X G xa_InvalidNumber, cg_InvalidMask := by rw [q_InvalidMask]; exact PySem.W.mg_of X G xa_InvalidMask, cg_InvalidOp := by rw [q_InvalidOp]; exact PySem.W.mg_of X G xa_InvalidOp, cg_InvalidBlock := by rw [q_InvalidBlock]; exact PySem.W.mg_of X G xa_InvalidBlock, cg_InvalidPage := by rw [q_InvalidPage]; exact PySem.W.mg_of X G xa_InvalidPage, cg_InvalidShape := by rw [q_InvalidShape]; exact PySem.W.mg_of X G xa_InvalidShape, cg_InvalidImage := by rw [q_InvalidImage]; exact PySem.W.mg_of X G xa_InvalidImage, cg_InvalidData := by rw [q_InvalidData]; exact PySem.W.mg_of X G xa_InvalidData, cg_InvalidRecord := by rw [q_InvalidRecord]; exact PySem.W.mg_of X G xa_InvalidRecord, cg_InvalidPath := by rw [q_InvalidPath]; exact PySem.W.mg_of X G xa_InvalidPath, cg_InvalidDeed := by rw [q_InvalidDeed]; exact PySem.W.mg_of X G xa_InvalidDeed, cg_InvalidLine := by rw [q_InvalidLine]; exact PySem.W.mg_of X G xa_InvalidLine, cg_InvalidScript := by rw [q_InvalidScript]; exact PySem.W.mg_of X G xa_InvalidScript, cg_InvalidTree := by rw [q_InvalidTree]; exact PySem.W.mg_of X G xa_InvalidTree, cg_InvalidChip := by rw [q_InvalidChip]; exact PySem.W.mg_of X G xa_InvalidChip, cg_InvalidRecords := by rw [q_InvalidRecords]; exact PySem.W.mg_of X G xa_InvalidRecords, cg_InvalidName := by rw [q_InvalidName]; exact PySem.W.mg_of X G xa_InvalidName, cg_InvalidPlans := by rw [q_InvalidPlans]; exact PySem.W.mg_of X G xa_InvalidPlans, cg_PowerCut := by rw [q_PowerCut]; exact PySem.W.mg_of X G xa_PowerCut, cg_TooMany := by rw [q_TooMany]; exact PySem.W.mg_of X G xa_TooMany, cg_NoThing := by rw [q_NoThing]; exact PySem.W.mg_of X G xa_NoThing, cg_NotReady := by rw [q_NotReady]; exact PySem.W.mg_of X G xa_NotReady, cg_NoRoom := by rw [q_NoRoom]; exact PySem.W.mg_of X G xa_NoRoom, cg_NothingToUndo := by rw [q_NothingToUndo]; exact PySem.W.mg_of X G xa_NothingToUndo, fg := by rw [q_FlashError]; exact PySem.W.mg_of X G xa_FlashError, ci_InvalidOctets := I_InvalidOctets, cfd_InvalidOctets := _, cT_InvalidOctets := by rw [q_InvalidOctets]; exact ⟨⟨_, _, _, _, _, _, _, _, _, _, _, _, _, _, _, xl_InvalidOctets, rfl⟩, xs_InvalidOctets, xe_InvalidOctets, xt_InvalidOctets, xk_InvalidOctets⟩, cn_InvalidOctets := by rw [q_InvalidOctets]; exact xn_InvalidOctets, cI_InvalidOctets := by rw [q_InvalidOctets]; exact xi_InvalidOctets, ct_InvalidOctets := xf_InvalidOctets, cF_InvalidOctets := fun_mk (st := si_InvalidOctets) fl_InvalidOctets fq_InvalidOctets fk_InvalidOctets, ci_InvalidCount := I_InvalidCount, cfd_InvalidCount := _, cT_InvalidCount := by rw [q_InvalidCount]; exact ⟨⟨_, _, _, _, _, _, _, _, _, _, _, _, _, _, _, xl_InvalidCount, rfl⟩, xs_InvalidCount, xe_InvalidCount, xt_InvalidCount, xk_InvalidCount⟩, cn_InvalidCount := by rw [q_InvalidCount]; exact xn_InvalidCount, cI_InvalidCount := by rw [q_InvalidCount]; exact xi_InvalidCount, ct_InvalidCount := xf_InvalidCount, cF_InvalidCount := fun_mk (st := si_InvalidCount) fl_InvalidCount fq_InvalidCount fk_InvalidCount, ci_InvalidNumber := I_InvalidNumber, cfd_InvalidNumber := _, cT_InvalidNumber := by rw [q_InvalidNumber]; exact ⟨⟨_, _, _, _, _, _, _, _, _, _, _, _, _, _, _, xl_InvalidNumber, rfl⟩, xs_InvalidNumber, xe_InvalidNumber, xt_InvalidNumber, xk_InvalidNumber⟩, cn_InvalidNumber := by rw [q_InvalidNumber]; exact xn_InvalidNumber, cI_InvalidNumber := by rw [q_InvalidNumber]; exact xi_InvalidNumber, ct_InvalidNumber := xf_InvalidNumber, cF_InvalidNumber := fun_mk (st := si_InvalidNumber) fl_InvalidNumber fq_InvalidNumber fk_InvalidNumber, ci_InvalidMask := I_InvalidMask, cfd_InvalidMask := _, cT_InvalidMask := by rw [q_InvalidMask]; exact ⟨⟨_, _, _, _, _, _, _, _, _, _, _, _, _, _, _, xl_InvalidMask, rfl⟩, xs_InvalidMask, xe_InvalidMask, xt_InvalidMask, xk_InvalidMask⟩, cn_InvalidMask := by rw [q_InvalidMask]; exact xn_InvalidMask, cI_InvalidMask := by rw [q_InvalidMask]; exact xi_InvalidMask, ct_InvalidMask := xf_InvalidMask, cF_InvalidMask := fun_mk (st := si_InvalidMask) fl_InvalidMask fq_InvalidMask fk_InvalidMask, ci_InvalidOp := I_InvalidOp, cfd_InvalidOp := _, cT_InvalidOp := by rw [q_InvalidOp]; exact ⟨⟨_, _, _, _, _, _, _, _, _, _, _, _, _, _, _, xl_InvalidOp, rfl⟩, xs_InvalidOp, xe_InvalidOp, xt_InvalidOp, xk_InvalidOp⟩, cn_InvalidOp := by rw [q_InvalidOp]; exact xn_InvalidOp, cI_InvalidOp := by rw [q_InvalidOp]; exact xi_InvalidOp, ct_InvalidOp := xf_InvalidOp, cF_InvalidOp := fun_mk (st := si_InvalidOp) fl_InvalidOp fq_InvalidOp fk_InvalidOp, ci_InvalidBlock := I_InvalidBlock, cfd_InvalidBlock := _, cT_InvalidBlock := by rw [q_InvalidBlock]; exact ⟨⟨_, _, _, _, _, _, _, _, _, _, _, _, _, _, _, xl_InvalidBlock, rfl⟩, xs_InvalidBlock, xe_InvalidBlock, xt_InvalidBlock, xk_InvalidBlock⟩, cn_InvalidBlock := by rw [q_InvalidBlock]; exact xn_InvalidBlock, cI_InvalidBlock := by rw [q_InvalidBlock]; exact xi_InvalidBlock, ct_InvalidBlock := xf_InvalidBlock, cF_InvalidBlock := fun_mk (st := si_InvalidBlock) fl_InvalidBlock fq_InvalidBlock fk_InvalidBlock, ci_InvalidPage := I_InvalidPage, cfd_InvalidPage := _, cT_InvalidPage := by rw [q_InvalidPage]; exact ⟨⟨_, _, _, _, _, _, _, _, _, _, _, _, _, _, _, xl_InvalidPage, rfl⟩, xs_InvalidPage, xe_InvalidPage, xt_InvalidPage, xk_InvalidPage⟩, cn_InvalidPage := by rw [q_InvalidPage]; exact xn_InvalidPage, cI_InvalidPage := by rw [q_InvalidPage]; exact xi_InvalidPage, ct_InvalidPage := xf_InvalidPage, cF_InvalidPage := fun_mk (st := si_InvalidPage) fl_InvalidPage fq_InvalidPage fk_InvalidPage, ci_InvalidShape := I_InvalidShape, cfd_InvalidShape := _, cT_InvalidShape := by rw [q_InvalidShape]; exact ⟨⟨_, _, _, _, _, _, _, _, _, _, _, _, _, _, _, xl_InvalidShape, rfl⟩, xs_InvalidShape, xe_InvalidShape, xt_InvalidShape, xk_InvalidShape⟩, cn_InvalidShape := by rw [q_InvalidShape]; exact xn_InvalidShape, cI_InvalidShape := by rw [q_InvalidShape]; exact xi_InvalidShape, ct_InvalidShape := xf_InvalidShape, cF_InvalidShape := fun_mk (st := si_InvalidShape) fl_InvalidShape fq_InvalidShape fk_InvalidShape, ci_InvalidImage := I_InvalidImage, cfd_InvalidImage := _, cT_InvalidImage := by rw [q_InvalidImage]; exact ⟨⟨_, _, _, _, _, _, _, _, _, _, _, _, _, _, _, xl_InvalidImage, rfl⟩, xs_InvalidImage, xe_InvalidImage, xt_InvalidImage, xk_InvalidImage⟩, cn_InvalidImage := by rw [q_InvalidImage]; exact xn_InvalidImage, cI_InvalidImage := by rw [q_InvalidImage]; exact xi_InvalidImage, ct_InvalidImage := xf_InvalidImage, cF_InvalidImage := fun_mk (st := si_InvalidImage) fl_InvalidImage fq_InvalidImage fk_InvalidImage, ci_InvalidData := I_InvalidData, cfd_InvalidData := _, cT_InvalidData := by rw [q_InvalidData]; exact ⟨⟨_, _, _, _, _, _, _, _, _, _, _, _, _, _, _, xl_InvalidData, rfl⟩, xs_InvalidData, xe_InvalidData, xt_InvalidData, xk_InvalidData⟩, cn_InvalidData := by rw [q_InvalidData]; exact xn_InvalidData, cI_InvalidData := by rw [q_InvalidData]; exact xi_InvalidData, ct_InvalidData := xf_InvalidData, cF_InvalidData := fun_mk (st := si_InvalidData) fl_InvalidData fq_InvalidData fk_InvalidData, ci_InvalidRecord := I_InvalidRecord, cfd_InvalidRecord := _, cT_InvalidRecord := by rw [q_InvalidRecord]; exact ⟨⟨_, _, _, _, _, _, _, _, _, _, _, _, _, _, _, xl_InvalidRecord, rfl⟩, xs_InvalidRecord, xe_InvalidRecord, xt_InvalidRecord, xk_InvalidRecord⟩, cn_InvalidRecord := by rw [q_InvalidRecord]; exact xn_InvalidRecord, cI_InvalidRecord := by rw [q_InvalidRecord]; exact xi_InvalidRecord, ct_InvalidRecord := xf_InvalidRecord, cF_InvalidRecord := fun_mk (st := si_InvalidRecord) fl_InvalidRecord fq_InvalidRecord fk_InvalidRecord, ci_InvalidPath := I_InvalidPath, cfd_InvalidPath := _, cT_InvalidPath := by rw [q_InvalidPath]; exact ⟨⟨_, _, _, _, _, _, _, _, _, _, _, _, _, _, _, xl_InvalidPath, rfl⟩, xs_InvalidPath, xe_InvalidPath, xt_InvalidPath, xk_InvalidPath⟩, cn_InvalidPath := by rw [q_InvalidPath]; exact xn_InvalidPath, cI_InvalidPath := by rw [q_InvalidPath]; exact xi_InvalidPath, ct_InvalidPath := xf_InvalidPath, cF_InvalidPath := fun_mk (st := si_InvalidPath) fl_InvalidPath fq_InvalidPath fk_InvalidPath, ci_InvalidDeed := I_InvalidDeed, cfd_InvalidDeed := _, cT_InvalidDeed := by rw [q_InvalidDeed]; exact ⟨⟨_, _, _, _, _, _, _, _, _, _, _, _, _, _, _, xl_InvalidDeed, rfl⟩, xs_InvalidDeed, xe_InvalidDeed, xt_InvalidDeed, xk_InvalidDeed⟩, cn_InvalidDeed := by rw [q_InvalidDeed]; exact xn_InvalidDeed, cI_InvalidDeed := by rw [q_InvalidDeed]; exact xi_InvalidDeed, ct_InvalidDeed := xf_InvalidDeed, cF_InvalidDeed := fun_mk (st := si_InvalidDeed) fl_InvalidDeed fq_InvalidDeed fk_InvalidDeed, ci_InvalidLine := I_InvalidLine, cfd_InvalidLine := _, cT_InvalidLine := by rw [q_InvalidLine]; exact ⟨⟨_, _, _, _, _, _, _, _, _, _, _, _, _, _, _, xl_InvalidLine, rfl⟩, xs_InvalidLine, xe_InvalidLine, xt_InvalidLine, xk_InvalidLine⟩, cn_InvalidLine := by rw [q_InvalidLine]; exact xn_InvalidLine, cI_InvalidLine := by rw [q_InvalidLine]; exact xi_InvalidLine, ct_InvalidLine := xf_InvalidLine, cF_InvalidLine := fun_mk (st := si_InvalidLine) fl_InvalidLine fq_InvalidLine fk_InvalidLine, ci_InvalidScript := I_InvalidScript, cfd_InvalidScript := _, cT_InvalidScript := by rw [q_InvalidScript]; exact ⟨⟨_, _, _, _, _, _, _, _, _, _, _, _, _, _, _, xl_InvalidScript, rfl⟩, xs_InvalidScript, xe_InvalidScript, xt_InvalidScript, xk_InvalidScript⟩, cn_InvalidScript := by rw [q_InvalidScript]; exact xn_InvalidScript, cI_InvalidScript := by rw [q_InvalidScript]; exact xi_InvalidScript, ct_InvalidScript := xf_InvalidScript, cF_InvalidScript := fun_mk (st := si_InvalidScript) fl_InvalidScript fq_InvalidScript fk_InvalidScript, ci_InvalidTree := I_InvalidTree, cfd_InvalidTree := _, cT_InvalidTree := by rw [q_InvalidTree]; exact ⟨⟨_, _, _, _, _, _, _, _, _, _, _, _, _, _, _, xl_InvalidTree, rfl⟩, xs_InvalidTree, xe_InvalidTree, xt_InvalidTree, xk_InvalidTree⟩, cn_InvalidTree := by rw [q_InvalidTree]; exact xn_InvalidTree, cI_InvalidTree := by rw [q_InvalidTree]; exact xi_InvalidTree, ct_InvalidTree := xf_InvalidTree, cF_InvalidTree := fun_mk (st := si_InvalidTree) fl_InvalidTree fq_InvalidTree fk_InvalidTree, ci_InvalidChip := I_InvalidChip, cfd_InvalidChip := _, cT_InvalidChip := by rw [q_InvalidChip]; exact ⟨⟨_, _, _, _, _, _, _, _, _, _, _, _, _, _, _, xl_InvalidChip, rfl⟩, xs_InvalidChip, xe_InvalidChip, xt_InvalidChip, xk_InvalidChip⟩, cn_InvalidChip := by rw [q_InvalidChip]; exact xn_InvalidChip, cI_InvalidChip := by rw [q_InvalidChip]; exact xi_InvalidChip, ct_InvalidChip := xf_InvalidChip, cF_InvalidChip := fun_mk (st := si_InvalidChip) fl_InvalidChip fq_InvalidChip fk_InvalidChip, ci_InvalidRecords := I_InvalidRecords, cfd_InvalidRecords := _, cT_InvalidRecords := by rw [q_InvalidRecords]; exact ⟨⟨_, _, _, _, _, _, _, _, _, _, _, _, _, _, _, xl_InvalidRecords, rfl⟩, xs_InvalidRecords, xe_InvalidRecords, xt_InvalidRecords, xk_InvalidRecords⟩, cn_InvalidRecords := by rw [q_InvalidRecords]; exact xn_InvalidRecords, cI_InvalidRecords := by rw [q_InvalidRecords]; exact xi_InvalidRecords, ct_InvalidRecords := xf_InvalidRecords, cF_InvalidRecords := fun_mk (st := si_InvalidRecords) fl_InvalidRecords fq_InvalidRecords fk_InvalidRecords, ci_InvalidName := I_InvalidName, cfd_InvalidName := _, cT_InvalidName := by rw [q_InvalidName]; exact ⟨⟨_, _, _, _, _, _, _, _, _, _, _, _, _, _, _, xl_InvalidName, rfl⟩, xs_InvalidName, xe_InvalidName, xt_InvalidName, xk_InvalidName⟩, cn_InvalidName := by rw [q_InvalidName]; exact xn_InvalidName, cI_InvalidName := by rw [q_InvalidName]; exact xi_InvalidName, ct_InvalidName := xf_InvalidName, cF_InvalidName := fun_mk (st := si_InvalidName) fl_InvalidName fq_InvalidName fk_InvalidName, ci_InvalidPlans := I_InvalidPlans, cfd_InvalidPlans := _, cT_InvalidPlans := by rw [q_InvalidPlans]; exact ⟨⟨_, _, _, _, _, _, _, _, _, _, _, _, _, _, _, xl_InvalidPlans, rfl⟩, xs_InvalidPlans, xe_InvalidPlans, xt_InvalidPlans, xk_InvalidPlans⟩, cn_InvalidPlans := by rw [q_InvalidPlans]; exact xn_InvalidPlans, cI_InvalidPlans := by rw [q_InvalidPlans]; exact xi_InvalidPlans, ct_InvalidPlans := xf_InvalidPlans, cF_InvalidPlans := fun_mk (st := si_InvalidPlans) fl_InvalidPlans fq_InvalidPlans fk_InvalidPlans, ci_PowerCut := I_PowerCut, cfd_PowerCut := _, cT_PowerCut := by rw [q_PowerCut]; exact ⟨⟨_, _, _, _, _, _, _, _, _, _, _, _, _, _, _, xl_PowerCut, rfl⟩, xs_PowerCut, xe_PowerCut, xt_PowerCut, xk_PowerCut⟩, cn_PowerCut := by rw [q_PowerCut]; exact xn_PowerCut, cI_PowerCut := by rw [q_PowerCut]; exact xi_PowerCut, ct_PowerCut := xf_PowerCut, cF_PowerCut := fun_mk (st := si_PowerCut) fl_PowerCut fq_PowerCut fk_PowerCut, ci_TooMany := I_TooMany, cfd_TooMany := _, cT_TooMany := by rw [q_TooMany]; exact ⟨⟨_, _, _, _, _, _, _, _, _, _, _, _, _, _, _, xl_TooMany, rfl⟩, xs_TooMany, xe_TooMany, xt_TooMany, xk_TooMany⟩, cn_TooMany := by rw [q_TooMany]; exact xn_TooMany, cI_TooMany := by rw [q_TooMany]; exact xi_TooMany, ct_TooMany := xf_TooMany, cF_TooMany := fun_mk (st := si_TooMany) fl_TooMany fq_TooMany fk_TooMany, ci_NoThing := I_NoThing, cfd_NoThing := _, cT_NoThing := by rw [q_NoThing]; exact ⟨⟨_, _, _, _, _, _, _, _, _, _, _, _, _, _, _, xl_NoThing, rfl⟩, xs_NoThing, xe_NoThing, xt_NoThing, xk_NoThing⟩, cn_NoThing := by rw [q_NoThing]; exact xn_NoThing, cI_NoThing := by rw [q_NoThing]; exact xi_NoThing, ct_NoThing := xf_NoThing, cF_NoThing := fun_mk (st := si_NoThing) fl_NoThing fq_NoThing fk_NoThing, ci_NotReady := I_NotReady, cfd_NotReady := _, cT_NotReady := by rw [q_NotReady]; exact ⟨⟨_, _, _, _, _, _, _, _, _, _, _, _, _, _, _, xl_NotReady, rfl⟩, xs_NotReady, xe_NotReady, xt_NotReady, xk_NotReady⟩, cI_NotReady := by rw [q_NotReady]; exact xi_NotReady, ct_NotReady := xf_NotReady, cF_NotReady := fun_mk (st := si_NotReady) fl_NotReady fq_NotReady fk_NotReady, ci_NoRoom := I_NoRoom, cfd_NoRoom := _, cT_NoRoom := by rw [q_NoRoom]; exact ⟨⟨_, _, _, _, _, _, _, _, _, _, _, _, _, _, _, xl_NoRoom, rfl⟩, xs_NoRoom, xe_NoRoom, xt_NoRoom, xk_NoRoom⟩, cI_NoRoom := by rw [q_NoRoom]; exact xi_NoRoom, ct_NoRoom := xf_NoRoom, cF_NoRoom := fun_mk (st := si_NoRoom) fl_NoRoom fq_NoRoom fk_NoRoom, ci_NothingToUndo := I_NothingToUndo, cfd_NothingToUndo := _, cT_NothingToUndo := by rw [q_NothingToUndo]; exact ⟨⟨_, _, _, _, _, _, _, _, _, _, _, _, _, _, _, xl_NothingToUndo, rfl⟩, xs_NothingToUndo, xe_NothingToUndo, xt_NothingToUndo, xk_NothingToUndo⟩, cI_NothingToUndo := by rw [q_NothingToUndo]; exact xi_NothingToUndo, ct_NothingToUndo := xf_NothingToUndo, cF_NothingToUndo := fun_mk (st := si_NothingToUndo) fl_NothingToUndo fq_NothingToUndo fk_NothingToUndo, fr := by rw [q_FlashError]; exact fr_, fa := by rw [q_FlashError]; exact fa_, fv := by rw [q_FlashError]; exact fv_, exi := ⟨all_in ⟨(show ExcC K (cAt K "InvalidOctets") by rw [q_InvalidOctets]; exact ⟨ya_InvalidOctets, yg_InvalidOctets, xe_InvalidOctets, yh_InvalidOctets, yc_InvalidOctets, isn_, ist_, ym_InvalidOctets⟩), (show ExcC K (cAt K "InvalidCount") by rw [q_InvalidCount]; exact ⟨ya_InvalidCount, yg_InvalidCount, xe_InvalidCount, yh_InvalidCount, yc_InvalidCount, isn_, ist_, ym_InvalidCount⟩), (show ExcC K (cAt K "InvalidNumber") by rw [q_InvalidNumber]; exact ⟨ya_InvalidNumber, yg_InvalidNumber, xe_InvalidNumber, yh_InvalidNumber, yc_InvalidNumber, isn_, ist_, ym_InvalidNumber⟩), (show ExcC K (cAt K "InvalidMask") by rw [q_InvalidMask]; exact ⟨ya_InvalidMask, yg_InvalidMask, xe_InvalidMask, yh_InvalidMask, yc_InvalidMask, isn_, ist_, ym_InvalidMask⟩), (show ExcC K (cAt K "InvalidOp") by rw [q_InvalidOp]; exact ⟨ya_InvalidOp, yg_InvalidOp, xe_InvalidOp, yh_InvalidOp, yc_InvalidOp, isn_, ist_, ym_InvalidOp⟩), (show ExcC K (cAt K "InvalidBlock") by rw [q_InvalidBlock]; exact ⟨ya_InvalidBlock, yg_InvalidBlock, xe_InvalidBlock, yh_InvalidBlock, yc_InvalidBlock, isn_, ist_, ym_InvalidBlock⟩), (show ExcC K (cAt K "InvalidPage") by rw [q_InvalidPage]; exact ⟨ya_InvalidPage, yg_InvalidPage, xe_InvalidPage, yh_InvalidPage, yc_InvalidPage, isn_, ist_, ym_InvalidPage⟩), (show ExcC K (cAt K "InvalidShape") by rw [q_InvalidShape]; exact ⟨ya_InvalidShape, yg_InvalidShape, xe_InvalidShape, yh_InvalidShape, yc_InvalidShape, isn_, ist_, ym_InvalidShape⟩), (show ExcC K (cAt K "InvalidImage") by rw [q_InvalidImage]; exact ⟨ya_InvalidImage, yg_InvalidImage, xe_InvalidImage, yh_InvalidImage, yc_InvalidImage, isn_, ist_, ym_InvalidImage⟩), (show ExcC K (cAt K "InvalidData") by rw [q_InvalidData]; exact ⟨ya_InvalidData, yg_InvalidData, xe_InvalidData, yh_InvalidData, yc_InvalidData, isn_, ist_, ym_InvalidData⟩), (show ExcC K (cAt K "InvalidRecord") by rw [q_InvalidRecord]; exact ⟨ya_InvalidRecord, yg_InvalidRecord, xe_InvalidRecord, yh_InvalidRecord, yc_InvalidRecord, isn_, ist_, ym_InvalidRecord⟩), (show ExcC K (cAt K "InvalidPath") by rw [q_InvalidPath]; exact ⟨ya_InvalidPath, yg_InvalidPath, xe_InvalidPath, yh_InvalidPath, yc_InvalidPath, isn_, ist_, ym_InvalidPath⟩), (show ExcC K (cAt K "InvalidDeed") by rw [q_InvalidDeed]; exact ⟨ya_InvalidDeed, yg_InvalidDeed, xe_InvalidDeed, yh_InvalidDeed, yc_InvalidDeed, isn_, ist_, ym_InvalidDeed⟩), (show ExcC K (cAt K "InvalidLine") by rw [q_InvalidLine]; exact ⟨ya_InvalidLine, yg_InvalidLine, xe_InvalidLine, yh_InvalidLine, yc_InvalidLine, isn_, ist_, ym_InvalidLine⟩), (show ExcC K (cAt K "InvalidScript") by rw [q_InvalidScript]; exact ⟨ya_InvalidScript, yg_InvalidScript, xe_InvalidScript, yh_InvalidScript, yc_InvalidScript, isn_, ist_, ym_InvalidScript⟩), (show ExcC K (cAt K "InvalidTree") by rw [q_InvalidTree]; exact ⟨ya_InvalidTree, yg_InvalidTree, xe_InvalidTree, yh_InvalidTree, yc_InvalidTree, isn_, ist_, ym_InvalidTree⟩), (show ExcC K (cAt K "InvalidChip") by rw [q_InvalidChip]; exact ⟨ya_InvalidChip, yg_InvalidChip, xe_InvalidChip, yh_InvalidChip, yc_InvalidChip, isn_, ist_, ym_InvalidChip⟩), (show ExcC K (cAt K "InvalidRecords") by rw [q_InvalidRecords]; exact ⟨ya_InvalidRecords, yg_InvalidRecords, xe_InvalidRecords, yh_InvalidRecords, yc_InvalidRecords, isn_, ist_, ym_InvalidRecords⟩), (show ExcC K (cAt K "InvalidName") by rw [q_InvalidName]; exact ⟨ya_InvalidName, yg_InvalidName, xe_InvalidName, yh_InvalidName, yc_InvalidName, isn_, ist_, ym_InvalidName⟩), (show ExcC K (cAt K "InvalidPlans") by rw [q_InvalidPlans]; exact ⟨ya_InvalidPlans, yg_InvalidPlans, xe_InvalidPlans, yh_InvalidPlans, yc_InvalidPlans, isn_, ist_, ym_InvalidPlans⟩), (show ExcC K (cAt K "PowerCut") by rw [q_PowerCut]; exact ⟨ya_PowerCut, yg_PowerCut, xe_PowerCut, yh_PowerCut, yc_PowerCut, isn_, ist_, ym_PowerCut⟩), (show ExcC K (cAt K "TooMany") by rw [q_TooMany]; exact ⟨ya_TooMany, yg_TooMany, xe_TooMany, yh_TooMany, yc_TooMany, isn_, ist_, ym_TooMany⟩), (show ExcC K (cAt K "NoThing") by rw [q_NoThing]; exact ⟨ya_NoThing, yg_NoThing, xe_NoThing, yh_NoThing, yc_NoThing, isn_, ist_, ym_NoThing⟩), (show ExcC K (cAt K "NotReady") by rw [q_NotReady]; exact ⟨ya_NotReady, yg_NotReady, xe_NotReady, yh_NotReady, yc_NotReady, isn_, ist_, ym_NotReady⟩), (show ExcC K (cAt K "NoRoom") by rw [q_NoRoom]; exact ⟨ya_NoRoom, yg_NoRoom, xe_NoRoom, yh_NoRoom, yc_NoRoom, isn_, ist_, ym_NoRoom⟩), (show ExcC K (cAt K "NothingToUndo") by rw [q_NothingToUndo]; exact ⟨ya_NothingToUndo, yg_NothingToUndo, xe_NothingToUndo, yh_NothingToUndo, yc_NothingToUndo, isn_, ist_, ym_NothingToUndo⟩), trivial⟩, all_in ⟨(show ∃ cd, PySem.W.clsIn K (cAt K "InvalidOctets") = some cd ∧ cd.mro = .ref (cAt K "InvalidOctets") :: .ref (cAt K "FlashError") :: PySem.HandSPX.veTail by rw [q_InvalidOctets, q_FlashError]; exact cls_of xl_InvalidOctets), (show ∃ cd, PySem.W.clsIn K (cAt K "InvalidCount") = some cd ∧ cd.mro = .ref (cAt K "InvalidCount") :: .ref (cAt K "FlashError") :: PySem.HandSPX.veTail by rw [q_InvalidCount, q_FlashError]; exact cls_of xl_InvalidCount), (show ∃ cd, PySem.W.clsIn K (cAt K "InvalidNumber") = some cd ∧ cd.mro = .ref (cAt K "InvalidNumber") :: .ref (cAt K "FlashError") :: PySem.HandSPX.veTail by rw [q_InvalidNumber, q_FlashError]; exact cls_of xl_InvalidNumber), (show ∃ cd, PySem.W.clsIn K (cAt K "InvalidMask") = some cd ∧ cd.mro = .ref (cAt K "InvalidMask") :: .ref (cAt K "FlashError") :: PySem.HandSPX.veTail by rw [q_InvalidMask, q_FlashError]; exact cls_of xl_InvalidMask), (show ∃ cd, PySem.W.clsIn K (cAt K "InvalidOp") = some cd ∧ cd.mro = .ref (cAt K "InvalidOp") :: .ref (cAt K "FlashError") :: PySem.HandSPX.veTail by rw [q_InvalidOp, q_FlashError]; exact cls_of xl_InvalidOp), (show ∃ cd, PySem.W.clsIn K (cAt K "InvalidBlock") = some cd ∧ cd.mro = .ref (cAt K "InvalidBlock") :: .ref (cAt K "FlashError") :: PySem.HandSPX.veTail by rw [q_InvalidBlock, q_FlashError]; exact cls_of xl_InvalidBlock), (show ∃ cd, PySem.W.clsIn K (cAt K "InvalidPage") = some cd ∧ cd.mro = .ref (cAt K "InvalidPage") :: .ref (cAt K "FlashError") :: PySem.HandSPX.veTail by rw [q_InvalidPage, q_FlashError]; exact cls_of xl_InvalidPage), (show ∃ cd, PySem.W.clsIn K (cAt K "InvalidShape") = some cd ∧ cd.mro = .ref (cAt K "InvalidShape") :: .ref (cAt K "FlashError") :: PySem.HandSPX.veTail by rw [q_InvalidShape, q_FlashError]; exact cls_of xl_InvalidShape), (show ∃ cd, PySem.W.clsIn K (cAt K "InvalidImage") = some cd ∧ cd.mro = .ref (cAt K "InvalidImage") :: .ref (cAt K "FlashError") :: PySem.HandSPX.veTail by rw [q_InvalidImage, q_FlashError]; exact cls_of xl_InvalidImage), (show ∃ cd, PySem.W.clsIn K (cAt K "InvalidData") = some cd ∧ cd.mro = .ref (cAt K "InvalidData") :: .ref (cAt K "FlashError") :: PySem.HandSPX.veTail by rw [q_InvalidData, q_FlashError]; exact cls_of xl_InvalidData), (show ∃ cd, PySem.W.clsIn K (cAt K "InvalidRecord") = some cd ∧ cd.mro = .ref (cAt K "InvalidRecord") :: .ref (cAt K "FlashError") :: PySem.HandSPX.veTail by rw [q_InvalidRecord, q_FlashError]; exact cls_of xl_InvalidRecord), (show ∃ cd, PySem.W.clsIn K (cAt K "InvalidPath") = some cd ∧ cd.mro = .ref (cAt K "InvalidPath") :: .ref (cAt K "FlashError") :: PySem.HandSPX.veTail by rw [q_InvalidPath, q_FlashError]; exact cls_of xl_InvalidPath), (show ∃ cd, PySem.W.clsIn K (cAt K "InvalidDeed") = some cd ∧ cd.mro = .ref (cAt K "InvalidDeed") :: .ref (cAt K "FlashError") :: PySem.HandSPX.veTail by rw [q_InvalidDeed, q_FlashError]; exact cls_of xl_InvalidDeed), (show ∃ cd, PySem.W.clsIn K (cAt K "InvalidLine") = some cd ∧ cd.mro = .ref (cAt K "InvalidLine") :: .ref (cAt K "FlashError") :: PySem.HandSPX.veTail by rw [q_InvalidLine, q_FlashError]; exact cls_of xl_InvalidLine), (show ∃ cd, PySem.W.clsIn K (cAt K "InvalidScript") = some cd ∧ cd.mro = .ref (cAt K "InvalidScript") :: .ref (cAt K "FlashError") :: PySem.HandSPX.veTail by rw [q_InvalidScript, q_FlashError]; exact cls_of xl_InvalidScript), (show ∃ cd, PySem.W.clsIn K (cAt K "InvalidTree") = some cd ∧ cd.mro = .ref (cAt K "InvalidTree") :: .ref (cAt K "FlashError") :: PySem.HandSPX.veTail by rw [q_InvalidTree, q_FlashError]; exact cls_of xl_InvalidTree), (show ∃ cd, PySem.W.clsIn K (cAt K "InvalidChip") = some cd ∧ cd.mro = .ref (cAt K "InvalidChip") :: .ref (cAt K "FlashError") :: PySem.HandSPX.veTail by rw [q_InvalidChip, q_FlashError]; exact cls_of xl_InvalidChip), (show ∃ cd, PySem.W.clsIn K (cAt K "InvalidRecords") = some cd ∧ cd.mro = .ref (cAt K "InvalidRecords") :: .ref (cAt K "FlashError") :: PySem.HandSPX.veTail by rw [q_InvalidRecords, q_FlashError]; exact cls_of xl_InvalidRecords), (show ∃ cd, PySem.W.clsIn K (cAt K "InvalidName") = some cd ∧ cd.mro = .ref (cAt K "InvalidName") :: .ref (cAt K "FlashError") :: PySem.HandSPX.veTail by rw [q_InvalidName, q_FlashError]; exact cls_of xl_InvalidName), (show ∃ cd, PySem.W.clsIn K (cAt K "InvalidPlans") = some cd ∧ cd.mro = .ref (cAt K "InvalidPlans") :: .ref (cAt K "FlashError") :: PySem.HandSPX.veTail by rw [q_InvalidPlans, q_FlashError]; exact cls_of xl_InvalidPlans), (show ∃ cd, PySem.W.clsIn K (cAt K "PowerCut") = some cd ∧ cd.mro = .ref (cAt K "PowerCut") :: .ref (cAt K "FlashError") :: PySem.HandSPX.veTail by rw [q_PowerCut, q_FlashError]; exact cls_of xl_PowerCut), (show ∃ cd, PySem.W.clsIn K (cAt K "TooMany") = some cd ∧ cd.mro = .ref (cAt K "TooMany") :: .ref (cAt K "FlashError") :: PySem.HandSPX.veTail by rw [q_TooMany, q_FlashError]; exact cls_of xl_TooMany), (show ∃ cd, PySem.W.clsIn K (cAt K "NoThing") = some cd ∧ cd.mro = .ref (cAt K "NoThing") :: .ref (cAt K "FlashError") :: PySem.HandSPX.veTail by rw [q_NoThing, q_FlashError]; exact cls_of xl_NoThing), (show ∃ cd, PySem.W.clsIn K (cAt K "NotReady") = some cd ∧ cd.mro = .ref (cAt K "NotReady") :: .ref (cAt K "FlashError") :: PySem.HandSPX.veTail by rw [q_NotReady, q_FlashError]; exact cls_of xl_NotReady), (show ∃ cd, PySem.W.clsIn K (cAt K "NoRoom") = some cd ∧ cd.mro = .ref (cAt K "NoRoom") :: .ref (cAt K "FlashError") :: PySem.HandSPX.veTail by rw [q_NoRoom, q_FlashError]; exact cls_of xl_NoRoom), (show ∃ cd, PySem.W.clsIn K (cAt K "NothingToUndo") = some cd ∧ cd.mro = .ref (cAt K "NothingToUndo") :: .ref (cAt K "FlashError") :: PySem.HandSPX.veTail by rw [q_NothingToUndo, q_FlashError]; exact cls_of xl_NothingToUndo), trivial⟩, all_in ⟨(show PySem.W.typeIn K (.ref (cAt K "FlashError")) = some (.type "type") by rw [q_FlashError]; exact tb_), (show PySem.W.typeIn K (.ref (cAt K "InvalidOctets")) = some (.type "type") by rw [q_InvalidOctets]; exact xt_InvalidOctets), (show PySem.W.typeIn K (.ref (cAt K "InvalidCount")) = some (.type "type") by rw [q_InvalidCount]; exact xt_InvalidCount), (show PySem.W.typeIn K (.ref (cAt K "InvalidNumber")) = some (.type "type") by rw [q_InvalidNumber]; exact xt_InvalidNumber), (show PySem.W.typeIn K (.ref (cAt K "InvalidMask")) = some (.type "type") by rw [q_InvalidMask]; exact xt_InvalidMask), (show PySem.W.typeIn K (.ref (cAt K "InvalidOp")) = some (.type "type") by rw [q_InvalidOp]; exact xt_InvalidOp), (show PySem.W.typeIn K (.ref (cAt K "InvalidBlock")) = some (.type "type") by rw [q_InvalidBlock]; exact xt_InvalidBlock), (show PySem.W.typeIn K (.ref (cAt K "InvalidPage")) = some (.type "type") by rw [q_InvalidPage]; exact xt_InvalidPage), (show PySem.W.typeIn K (.ref (cAt K "InvalidShape")) = some (.type "type") by rw [q_InvalidShape]; exact xt_InvalidShape), (show PySem.W.typeIn K (.ref (cAt K "InvalidImage")) = some (.type "type") by rw [q_InvalidImage]; exact xt_InvalidImage), (show PySem.W.typeIn K (.ref (cAt K "InvalidData")) = some (.type "type") by rw [q_InvalidData]; exact xt_InvalidData), (show PySem.W.typeIn K (.ref (cAt K "InvalidRecord")) = some (.type "type") by rw [q_InvalidRecord]; exact xt_InvalidRecord), (show PySem.W.typeIn K (.ref (cAt K "InvalidPath")) = some (.type "type") by rw [q_InvalidPath]; exact xt_InvalidPath), (show PySem.W.typeIn K (.ref (cAt K "InvalidDeed")) = some (.type "type") by rw [q_InvalidDeed]; exact xt_InvalidDeed), (show PySem.W.typeIn K (.ref (cAt K "InvalidLine")) = some (.type "type") by rw [q_InvalidLine]; exact xt_InvalidLine), (show PySem.W.typeIn K (.ref (cAt K "InvalidScript")) = some (.type "type") by rw [q_InvalidScript]; exact xt_InvalidScript), (show PySem.W.typeIn K (.ref (cAt K "InvalidTree")) = some (.type "type") by rw [q_InvalidTree]; exact xt_InvalidTree), (show PySem.W.typeIn K (.ref (cAt K "InvalidChip")) = some (.type "type") by rw [q_InvalidChip]; exact xt_InvalidChip), (show PySem.W.typeIn K (.ref (cAt K "InvalidRecords")) = some (.type "type") by rw [q_InvalidRecords]; exact xt_InvalidRecords), (show PySem.W.typeIn K (.ref (cAt K "InvalidName")) = some (.type "type") by rw [q_InvalidName]; exact xt_InvalidName), (show PySem.W.typeIn K (.ref (cAt K "InvalidPlans")) = some (.type "type") by rw [q_InvalidPlans]; exact xt_InvalidPlans), (show PySem.W.typeIn K (.ref (cAt K "PowerCut")) = some (.type "type") by rw [q_PowerCut]; exact xt_PowerCut), (show PySem.W.typeIn K (.ref (cAt K "TooMany")) = some (.type "type") by rw [q_TooMany]; exact xt_TooMany), (show PySem.W.typeIn K (.ref (cAt K "NoThing")) = some (.type "type") by rw [q_NoThing]; exact xt_NoThing), (show PySem.W.typeIn K (.ref (cAt K "NotReady")) = some (.type "type") by rw [q_NotReady]; exact xt_NotReady), (show PySem.W.typeIn K (.ref (cAt K "NoRoom")) = some (.type "type") by rw [q_NoRoom]; exact xt_NoRoom), (show PySem.W.typeIn K (.ref (cAt K "NothingToUndo")) = some (.type "type") by rw [q_NothingToUndo]; exact xt_NothingToUndo), trivial⟩, by rw [q_FlashError]; exact db_, by rw [q_FlashError]; exact sb_, by show ([cAt K "FlashError", cAt K "InvalidOctets", cAt K "InvalidCount", cAt K "InvalidNumber", cAt K "InvalidMask", cAt K "InvalidOp", cAt K "InvalidBlock", cAt K "InvalidPage", cAt K "InvalidShape", cAt K "InvalidImage", cAt K "InvalidData", cAt K "InvalidRecord", cAt K "InvalidPath", cAt K "InvalidDeed", cAt K "InvalidLine", cAt K "InvalidScript", cAt K "InvalidTree", cAt K "InvalidChip", cAt K "InvalidRecords", cAt K "InvalidName", cAt K "InvalidPlans", cAt K "PowerCut", cAt K "TooMany", cAt K "NoThing", cAt K "NotReady", cAt K "NoRoom", cAt K "NothingToUndo"] : List Addr).Nodup; rw [q_FlashError, q_InvalidOctets, q_InvalidCount, q_InvalidNumber, q_InvalidMask, q_InvalidOp, q_InvalidBlock, q_InvalidPage, q_InvalidShape, q_InvalidImage, q_InvalidData, q_InvalidRecord, q_InvalidPath, q_InvalidDeed, q_InvalidLine, q_InvalidScript, q_InvalidTree, q_InvalidChip, q_InvalidRecords, q_InvalidName, q_InvalidPlans, q_PowerCut, q_TooMany, q_NoThing, q_NotReady, q_NoRoom, q_NothingToUndo]; exact nd_⟩, cg_FlashError := by rw [q_FlashError]; exact PySem.W.mg_of X G xa_FlashError, n_ValueError := PySem.W.mg_none_of X G z_ValueError, n_abs := PySem.W.mg_none_of X G z_abs, n_dict := PySem.W.mg_none_of X G z_dict, n_int := PySem.W.mg_none_of X G z_int, n_isinstance := PySem.W.mg_none_of X G z_isinstance, n_len := PySem.W.mg_none_of X G z_len, n_max := PySem.W.mg_none_of X G z_max, n_min := PySem.W.mg_none_of X G z_min, n_range := PySem.W.mg_none_of X G z_range, n_repr := PySem.W.mg_none_of X G z_repr, n_sum := PySem.W.mg_none_of X G z_sum }
  exact ⟨_, _, fun s v => .of_eq rfl, fun base _ _ sy => O_law (T base sy), true_law⟩
end K00
open PySem PySem.W PyProof.Rows in
set_option maxRecDepth 100000 in
set_option maxHeartbeats 0 in
theorem PySem.Challenge.cw_onewaybits_k00_errors_holds : PySem.Challenge.rw_onewaybits_k00_errors.Holds := by
  w_on; o_law; k_head; (case hw => w_witness2)
  k_fill
  refine D.walk_law (l := PySem.Challenge.rw_onewaybits_k00_errors) (n := 63) (k := 5) (x := "_law_script") rfl (by decide) rfl ⟨rfl, by decide, by decide⟩ (by rfl) (fun w h Y => PySem.W.kIn_of Y) ?F
  case F =>
    intro w mg fa h KX G hmg
    refine' K00.all_mk KX G hmg ?a0 ?l0 ?q0 ?k0 ?a1 ?l1 ?q1 ?k1 ?a2 ?l2 ?q2 ?k2 ?a3 ?l3 ?q3 ?k3 ?a4 ?l4 ?q4 ?k4 ?a5 ?l5 ?q5 ?k5 ?a6 ?l6 ?q6 ?k6 ?a7 ?l7 ?q7 ?k7 ?a8 ?l8 ?q8 ?k8 ?a9 ?l9 ?q9 ?k9 ?a10 ?l10 ?q10 ?k10 ?a11 ?l11 ?q11 ?k11 ?a12 ?l12 ?q12 ?k12 ?a13 ?l13 ?q13 ?k13 ?xa_InvalidOctets ?xa_InvalidCount ?xa_InvalidNumber ?xa_InvalidMask ?xa_InvalidOp ?xa_InvalidBlock ?xa_InvalidPage ?xa_InvalidShape ?xa_InvalidImage ?xa_InvalidData ?xa_InvalidRecord ?xa_InvalidPath ?xa_InvalidDeed ?xa_InvalidLine ?xa_InvalidScript ?xa_InvalidTree ?xa_InvalidChip ?xa_InvalidRecords ?xa_InvalidName ?xa_InvalidPlans ?xa_PowerCut ?xa_TooMany ?xa_NoThing ?xa_NotReady ?xa_NoRoom ?xa_NothingToUndo ?xa_FlashError ?xl_InvalidOctets ?xs_InvalidOctets ?xe_InvalidOctets ?xt_InvalidOctets ?xk_InvalidOctets ?xn_InvalidOctets ?xi_InvalidOctets ?xf_InvalidOctets ?fl_InvalidOctets ?fq_InvalidOctets ?fk_InvalidOctets ?xl_InvalidCount ?xs_InvalidCount ?xe_InvalidCount ?xt_InvalidCount ?xk_InvalidCount ?xn_InvalidCount ?xi_InvalidCount ?xf_InvalidCount ?fl_InvalidCount ?fq_InvalidCount ?fk_InvalidCount ?xl_InvalidNumber ?xs_InvalidNumber ?xe_InvalidNumber ?xt_InvalidNumber ?xk_InvalidNumber ?xn_InvalidNumber ?xi_InvalidNumber ?xf_InvalidNumber ?fl_InvalidNumber ?fq_InvalidNumber ?fk_InvalidNumber ?xl_InvalidMask ?xs_InvalidMask ?xe_InvalidMask ?xt_InvalidMask ?xk_InvalidMask ?xn_InvalidMask ?xi_InvalidMask ?xf_InvalidMask ?fl_InvalidMask ?fq_InvalidMask ?fk_InvalidMask ?xl_InvalidOp ?xs_InvalidOp ?xe_InvalidOp ?xt_InvalidOp ?xk_InvalidOp ?xn_InvalidOp ?xi_InvalidOp ?xf_InvalidOp ?fl_InvalidOp ?fq_InvalidOp ?fk_InvalidOp ?xl_InvalidBlock ?xs_InvalidBlock ?xe_InvalidBlock ?xt_InvalidBlock ?xk_InvalidBlock ?xn_InvalidBlock ?xi_InvalidBlock ?xf_InvalidBlock ?fl_InvalidBlock ?fq_InvalidBlock ?fk_InvalidBlock ?xl_InvalidPage ?xs_InvalidPage ?xe_InvalidPage ?xt_InvalidPage ?xk_InvalidPage ?xn_InvalidPage ?xi_InvalidPage ?xf_InvalidPage ?fl_InvalidPage ?fq_InvalidPage ?fk_InvalidPage ?xl_InvalidShape ?xs_InvalidShape ?xe_InvalidShape ?xt_InvalidShape ?xk_InvalidShape ?xn_InvalidShape ?xi_InvalidShape ?xf_InvalidShape ?fl_InvalidShape ?fq_InvalidShape ?fk_InvalidShape ?xl_InvalidImage ?xs_InvalidImage ?xe_InvalidImage ?xt_InvalidImage ?xk_InvalidImage ?xn_InvalidImage ?xi_InvalidImage ?xf_InvalidImage ?fl_InvalidImage ?fq_InvalidImage ?fk_InvalidImage ?xl_InvalidData ?xs_InvalidData ?xe_InvalidData ?xt_InvalidData ?xk_InvalidData ?xn_InvalidData ?xi_InvalidData ?xf_InvalidData ?fl_InvalidData ?fq_InvalidData ?fk_InvalidData ?xl_InvalidRecord ?xs_InvalidRecord ?xe_InvalidRecord ?xt_InvalidRecord ?xk_InvalidRecord ?xn_InvalidRecord ?xi_InvalidRecord ?xf_InvalidRecord ?fl_InvalidRecord ?fq_InvalidRecord ?fk_InvalidRecord ?xl_InvalidPath ?xs_InvalidPath ?xe_InvalidPath ?xt_InvalidPath ?xk_InvalidPath ?xn_InvalidPath ?xi_InvalidPath ?xf_InvalidPath ?fl_InvalidPath ?fq_InvalidPath ?fk_InvalidPath ?xl_InvalidDeed ?xs_InvalidDeed ?xe_InvalidDeed ?xt_InvalidDeed ?xk_InvalidDeed ?xn_InvalidDeed ?xi_InvalidDeed ?xf_InvalidDeed ?fl_InvalidDeed ?fq_InvalidDeed ?fk_InvalidDeed ?xl_InvalidLine ?xs_InvalidLine ?xe_InvalidLine ?xt_InvalidLine ?xk_InvalidLine ?xn_InvalidLine ?xi_InvalidLine ?xf_InvalidLine ?fl_InvalidLine ?fq_InvalidLine ?fk_InvalidLine ?xl_InvalidScript ?xs_InvalidScript ?xe_InvalidScript ?xt_InvalidScript ?xk_InvalidScript ?xn_InvalidScript ?xi_InvalidScript ?xf_InvalidScript ?fl_InvalidScript ?fq_InvalidScript ?fk_InvalidScript ?xl_InvalidTree ?xs_InvalidTree ?xe_InvalidTree ?xt_InvalidTree ?xk_InvalidTree ?xn_InvalidTree ?xi_InvalidTree ?xf_InvalidTree ?fl_InvalidTree ?fq_InvalidTree ?fk_InvalidTree ?xl_InvalidChip ?xs_InvalidChip ?xe_InvalidChip ?xt_InvalidChip ?xk_InvalidChip ?xn_InvalidChip ?xi_InvalidChip ?xf_InvalidChip ?fl_InvalidChip ?fq_InvalidChip ?fk_InvalidChip ?xl_InvalidRecords ?xs_InvalidRecords ?xe_InvalidRecords ?xt_InvalidRecords ?xk_InvalidRecords ?xn_InvalidRecords ?xi_InvalidRecords ?xf_InvalidRecords ?fl_InvalidRecords ?fq_InvalidRecords ?fk_InvalidRecords ?xl_InvalidName ?xs_InvalidName ?xe_InvalidName ?xt_InvalidName ?xk_InvalidName ?xn_InvalidName ?xi_InvalidName ?xf_InvalidName ?fl_InvalidName ?fq_InvalidName ?fk_InvalidName ?xl_InvalidPlans ?xs_InvalidPlans ?xe_InvalidPlans ?xt_InvalidPlans ?xk_InvalidPlans ?xn_InvalidPlans ?xi_InvalidPlans ?xf_InvalidPlans ?fl_InvalidPlans ?fq_InvalidPlans ?fk_InvalidPlans ?xl_PowerCut ?xs_PowerCut ?xe_PowerCut ?xt_PowerCut ?xk_PowerCut ?xn_PowerCut ?xi_PowerCut ?xf_PowerCut ?fl_PowerCut ?fq_PowerCut ?fk_PowerCut ?xl_TooMany ?xs_TooMany ?xe_TooMany ?xt_TooMany ?xk_TooMany ?xn_TooMany ?xi_TooMany ?xf_TooMany ?fl_TooMany ?fq_TooMany ?fk_TooMany ?xl_NoThing ?xs_NoThing ?xe_NoThing ?xt_NoThing ?xk_NoThing ?xn_NoThing ?xi_NoThing ?xf_NoThing ?fl_NoThing ?fq_NoThing ?fk_NoThing ?xl_NotReady ?xs_NotReady ?xe_NotReady ?xt_NotReady ?xk_NotReady ?xi_NotReady ?xf_NotReady ?fl_NotReady ?fq_NotReady ?fk_NotReady ?xl_NoRoom ?xs_NoRoom ?xe_NoRoom ?xt_NoRoom ?xk_NoRoom ?xi_NoRoom ?xf_NoRoom ?fl_NoRoom ?fq_NoRoom ?fk_NoRoom ?xl_NothingToUndo ?xs_NothingToUndo ?xe_NothingToUndo ?xt_NothingToUndo ?xk_NothingToUndo ?xi_NothingToUndo ?xf_NothingToUndo ?fl_NothingToUndo ?fq_NothingToUndo ?fk_NothingToUndo ?fr_ ?fa_ ?fv_ ?isn_ ?ist_ ?tb_ ?db_ ?sb_ ?ya_InvalidOctets ?yg_InvalidOctets ?yh_InvalidOctets ?yc_InvalidOctets ?ym_InvalidOctets ?ya_InvalidCount ?yg_InvalidCount ?yh_InvalidCount ?yc_InvalidCount ?ym_InvalidCount ?ya_InvalidNumber ?yg_InvalidNumber ?yh_InvalidNumber ?yc_InvalidNumber ?ym_InvalidNumber ?ya_InvalidMask ?yg_InvalidMask ?yh_InvalidMask ?yc_InvalidMask ?ym_InvalidMask ?ya_InvalidOp ?yg_InvalidOp ?yh_InvalidOp ?yc_InvalidOp ?ym_InvalidOp ?ya_InvalidBlock ?yg_InvalidBlock ?yh_InvalidBlock ?yc_InvalidBlock ?ym_InvalidBlock ?ya_InvalidPage ?yg_InvalidPage ?yh_InvalidPage ?yc_InvalidPage ?ym_InvalidPage ?ya_InvalidShape ?yg_InvalidShape ?yh_InvalidShape ?yc_InvalidShape ?ym_InvalidShape ?ya_InvalidImage ?yg_InvalidImage ?yh_InvalidImage ?yc_InvalidImage ?ym_InvalidImage ?ya_InvalidData ?yg_InvalidData ?yh_InvalidData ?yc_InvalidData ?ym_InvalidData ?ya_InvalidRecord ?yg_InvalidRecord ?yh_InvalidRecord ?yc_InvalidRecord ?ym_InvalidRecord ?ya_InvalidPath ?yg_InvalidPath ?yh_InvalidPath ?yc_InvalidPath ?ym_InvalidPath ?ya_InvalidDeed ?yg_InvalidDeed ?yh_InvalidDeed ?yc_InvalidDeed ?ym_InvalidDeed ?ya_InvalidLine ?yg_InvalidLine ?yh_InvalidLine ?yc_InvalidLine ?ym_InvalidLine ?ya_InvalidScript ?yg_InvalidScript ?yh_InvalidScript ?yc_InvalidScript ?ym_InvalidScript ?ya_InvalidTree ?yg_InvalidTree ?yh_InvalidTree ?yc_InvalidTree ?ym_InvalidTree ?ya_InvalidChip ?yg_InvalidChip ?yh_InvalidChip ?yc_InvalidChip ?ym_InvalidChip ?ya_InvalidRecords ?yg_InvalidRecords ?yh_InvalidRecords ?yc_InvalidRecords ?ym_InvalidRecords ?ya_InvalidName ?yg_InvalidName ?yh_InvalidName ?yc_InvalidName ?ym_InvalidName ?ya_InvalidPlans ?yg_InvalidPlans ?yh_InvalidPlans ?yc_InvalidPlans ?ym_InvalidPlans ?ya_PowerCut ?yg_PowerCut ?yh_PowerCut ?yc_PowerCut ?ym_PowerCut ?ya_TooMany ?yg_TooMany ?yh_TooMany ?yc_TooMany ?ym_TooMany ?ya_NoThing ?yg_NoThing ?yh_NoThing ?yc_NoThing ?ym_NoThing ?ya_NotReady ?yg_NotReady ?yh_NotReady ?yc_NotReady ?ym_NotReady ?ya_NoRoom ?yg_NoRoom ?yh_NoRoom ?yc_NoRoom ?ym_NoRoom ?ya_NothingToUndo ?yg_NothingToUndo ?yh_NothingToUndo ?yc_NothingToUndo ?ym_NothingToUndo ?nd_ ?z_ValueError ?z_abs ?z_dict ?z_int ?z_isinstance ?z_len ?z_max ?z_min ?z_range ?z_repr ?z_sum K00.law_true
    (case xa_InvalidOctets => k_is)
    (case xa_InvalidCount => k_is)
    (case xa_InvalidNumber => k_is)
    (case xa_InvalidMask => k_is)
    (case xa_InvalidOp => k_is)
    (case xa_InvalidBlock => k_is)
    (case xa_InvalidPage => k_is)
    (case xa_InvalidShape => k_is)
    (case xa_InvalidImage => k_is)
    (case xa_InvalidData => k_is)
    (case xa_InvalidRecord => k_is)
    (case xa_InvalidPath => k_is)
    (case xa_InvalidDeed => k_is)
    (case xa_InvalidLine => k_is)
    (case xa_InvalidScript => k_is)
    (case xa_InvalidTree => k_is)
    (case xa_InvalidChip => k_is)
    (case xa_InvalidRecords => k_is)
    (case xa_InvalidName => k_is)
    (case xa_InvalidPlans => k_is)
    (case xa_PowerCut => k_is)
    (case xa_TooMany => k_is)
    (case xa_NoThing => k_is)
    (case xa_NotReady => k_is)
    (case xa_NoRoom => k_is)
    (case xa_NothingToUndo => k_is)
    (case xa_FlashError => k_is)
    (case a0 => k_is)
    (case l0 => k_is)
    (case q0 => k_is)
    (case k0 => k_is)
    (case a1 => k_is)
    (case l1 => k_is)
    (case q1 => k_is)
    (case k1 => k_is)
    (case a2 => k_is)
    (case l2 => k_is)
    (case q2 => k_is)
    (case k2 => k_is)
    (case a3 => k_is)
    (case l3 => k_is)
    (case q3 => k_is)
    (case k3 => k_is)
    (case a4 => k_is)
    (case l4 => k_is)
    (case q4 => k_is)
    (case k4 => k_is)
    (case a5 => k_is)
    (case l5 => k_is)
    (case q5 => k_is)
    (case k5 => k_is)
    (case a6 => k_is)
    (case l6 => k_is)
    (case q6 => k_is)
    (case k6 => k_is)
    (case a7 => k_is)
    (case l7 => k_is)
    (case q7 => k_is)
    (case k7 => k_is)
    (case a8 => k_is)
    (case l8 => k_is)
    (case q8 => k_is)
    (case k8 => k_is)
    (case a9 => k_is)
    (case l9 => k_is)
    (case q9 => k_is)
    (case k9 => k_is)
    (case a10 => k_is)
    (case l10 => k_is)
    (case q10 => k_is)
    (case k10 => k_is)
    (case a11 => k_is)
    (case l11 => k_is)
    (case q11 => k_is)
    (case k11 => k_is)
    (case a12 => k_is)
    (case l12 => k_is)
    (case q12 => k_is)
    (case k12 => k_is)
    (case a13 => k_is)
    (case l13 => k_is)
    (case q13 => k_is)
    (case k13 => k_is)
    (case xl_InvalidOctets => k_is)
    (case xs_InvalidOctets => k_is)
    (case xe_InvalidOctets => k_is)
    (case xt_InvalidOctets => k_is)
    (case xk_InvalidOctets => k_is)
    (case xn_InvalidOctets => k_is)
    (case xi_InvalidOctets => k_is)
    (case xf_InvalidOctets => k_is)
    (case fl_InvalidOctets => k_is)
    (case fq_InvalidOctets => k_is)
    (case fk_InvalidOctets => k_is)
    (case xl_InvalidCount => k_is)
    (case xs_InvalidCount => k_is)
    (case xe_InvalidCount => k_is)
    (case xt_InvalidCount => k_is)
    (case xk_InvalidCount => k_is)
    (case xn_InvalidCount => k_is)
    (case xi_InvalidCount => k_is)
    (case xf_InvalidCount => k_is)
    (case fl_InvalidCount => k_is)
    (case fq_InvalidCount => k_is)
    (case fk_InvalidCount => k_is)
    (case xl_InvalidNumber => k_is)
    (case xs_InvalidNumber => k_is)
    (case xe_InvalidNumber => k_is)
    (case xt_InvalidNumber => k_is)
    (case xk_InvalidNumber => k_is)
    (case xn_InvalidNumber => k_is)
    (case xi_InvalidNumber => k_is)
    (case xf_InvalidNumber => k_is)
    (case fl_InvalidNumber => k_is)
    (case fq_InvalidNumber => k_is)
    (case fk_InvalidNumber => k_is)
    (case xl_InvalidMask => k_is)
    (case xs_InvalidMask => k_is)
    (case xe_InvalidMask => k_is)
    (case xt_InvalidMask => k_is)
    (case xk_InvalidMask => k_is)
    (case xn_InvalidMask => k_is)
    (case xi_InvalidMask => k_is)
    (case xf_InvalidMask => k_is)
    (case fl_InvalidMask => k_is)
    (case fq_InvalidMask => k_is)
    (case fk_InvalidMask => k_is)
    (case xl_InvalidOp => k_is)
    (case xs_InvalidOp => k_is)
    (case xe_InvalidOp => k_is)
    (case xt_InvalidOp => k_is)
    (case xk_InvalidOp => k_is)
    (case xn_InvalidOp => k_is)
    (case xi_InvalidOp => k_is)
    (case xf_InvalidOp => k_is)
    (case fl_InvalidOp => k_is)
    (case fq_InvalidOp => k_is)
    (case fk_InvalidOp => k_is)
    (case xl_InvalidBlock => k_is)
    (case xs_InvalidBlock => k_is)
    (case xe_InvalidBlock => k_is)
    (case xt_InvalidBlock => k_is)
    (case xk_InvalidBlock => k_is)
    (case xn_InvalidBlock => k_is)
    (case xi_InvalidBlock => k_is)
    (case xf_InvalidBlock => k_is)
    (case fl_InvalidBlock => k_is)
    (case fq_InvalidBlock => k_is)
    (case fk_InvalidBlock => k_is)
    (case xl_InvalidPage => k_is)
    (case xs_InvalidPage => k_is)
    (case xe_InvalidPage => k_is)
    (case xt_InvalidPage => k_is)
    (case xk_InvalidPage => k_is)
    (case xn_InvalidPage => k_is)
    (case xi_InvalidPage => k_is)
    (case xf_InvalidPage => k_is)
    (case fl_InvalidPage => k_is)
    (case fq_InvalidPage => k_is)
    (case fk_InvalidPage => k_is)
    (case xl_InvalidShape => k_is)
    (case xs_InvalidShape => k_is)
    (case xe_InvalidShape => k_is)
    (case xt_InvalidShape => k_is)
    (case xk_InvalidShape => k_is)
    (case xn_InvalidShape => k_is)
    (case xi_InvalidShape => k_is)
    (case xf_InvalidShape => k_is)
    (case fl_InvalidShape => k_is)
    (case fq_InvalidShape => k_is)
    (case fk_InvalidShape => k_is)
    (case xl_InvalidImage => k_is)
    (case xs_InvalidImage => k_is)
    (case xe_InvalidImage => k_is)
    (case xt_InvalidImage => k_is)
    (case xk_InvalidImage => k_is)
    (case xn_InvalidImage => k_is)
    (case xi_InvalidImage => k_is)
    (case xf_InvalidImage => k_is)
    (case fl_InvalidImage => k_is)
    (case fq_InvalidImage => k_is)
    (case fk_InvalidImage => k_is)
    (case xl_InvalidData => k_is)
    (case xs_InvalidData => k_is)
    (case xe_InvalidData => k_is)
    (case xt_InvalidData => k_is)
    (case xk_InvalidData => k_is)
    (case xn_InvalidData => k_is)
    (case xi_InvalidData => k_is)
    (case xf_InvalidData => k_is)
    (case fl_InvalidData => k_is)
    (case fq_InvalidData => k_is)
    (case fk_InvalidData => k_is)
    (case xl_InvalidRecord => k_is)
    (case xs_InvalidRecord => k_is)
    (case xe_InvalidRecord => k_is)
    (case xt_InvalidRecord => k_is)
    (case xk_InvalidRecord => k_is)
    (case xn_InvalidRecord => k_is)
    (case xi_InvalidRecord => k_is)
    (case xf_InvalidRecord => k_is)
    (case fl_InvalidRecord => k_is)
    (case fq_InvalidRecord => k_is)
    (case fk_InvalidRecord => k_is)
    (case xl_InvalidPath => k_is)
    (case xs_InvalidPath => k_is)
    (case xe_InvalidPath => k_is)
    (case xt_InvalidPath => k_is)
    (case xk_InvalidPath => k_is)
    (case xn_InvalidPath => k_is)
    (case xi_InvalidPath => k_is)
    (case xf_InvalidPath => k_is)
    (case fl_InvalidPath => k_is)
    (case fq_InvalidPath => k_is)
    (case fk_InvalidPath => k_is)
    (case xl_InvalidDeed => k_is)
    (case xs_InvalidDeed => k_is)
    (case xe_InvalidDeed => k_is)
    (case xt_InvalidDeed => k_is)
    (case xk_InvalidDeed => k_is)
    (case xn_InvalidDeed => k_is)
    (case xi_InvalidDeed => k_is)
    (case xf_InvalidDeed => k_is)
    (case fl_InvalidDeed => k_is)
    (case fq_InvalidDeed => k_is)
    (case fk_InvalidDeed => k_is)
    (case xl_InvalidLine => k_is)
    (case xs_InvalidLine => k_is)
    (case xe_InvalidLine => k_is)
    (case xt_InvalidLine => k_is)
    (case xk_InvalidLine => k_is)
    (case xn_InvalidLine => k_is)
    (case xi_InvalidLine => k_is)
    (case xf_InvalidLine => k_is)
    (case fl_InvalidLine => k_is)
    (case fq_InvalidLine => k_is)
    (case fk_InvalidLine => k_is)
    (case xl_InvalidScript => k_is)
    (case xs_InvalidScript => k_is)
    (case xe_InvalidScript => k_is)
    (case xt_InvalidScript => k_is)
    (case xk_InvalidScript => k_is)
    (case xn_InvalidScript => k_is)
    (case xi_InvalidScript => k_is)
    (case xf_InvalidScript => k_is)
    (case fl_InvalidScript => k_is)
    (case fq_InvalidScript => k_is)
    (case fk_InvalidScript => k_is)
    (case xl_InvalidTree => k_is)
    (case xs_InvalidTree => k_is)
    (case xe_InvalidTree => k_is)
    (case xt_InvalidTree => k_is)
    (case xk_InvalidTree => k_is)
    (case xn_InvalidTree => k_is)
    (case xi_InvalidTree => k_is)
    (case xf_InvalidTree => k_is)
    (case fl_InvalidTree => k_is)
    (case fq_InvalidTree => k_is)
    (case fk_InvalidTree => k_is)
    (case xl_InvalidChip => k_is)
    (case xs_InvalidChip => k_is)
    (case xe_InvalidChip => k_is)
    (case xt_InvalidChip => k_is)
    (case xk_InvalidChip => k_is)
    (case xn_InvalidChip => k_is)
    (case xi_InvalidChip => k_is)
    (case xf_InvalidChip => k_is)
    (case fl_InvalidChip => k_is)
    (case fq_InvalidChip => k_is)
    (case fk_InvalidChip => k_is)
    (case xl_InvalidRecords => k_is)
    (case xs_InvalidRecords => k_is)
    (case xe_InvalidRecords => k_is)
    (case xt_InvalidRecords => k_is)
    (case xk_InvalidRecords => k_is)
    (case xn_InvalidRecords => k_is)
    (case xi_InvalidRecords => k_is)
    (case xf_InvalidRecords => k_is)
    (case fl_InvalidRecords => k_is)
    (case fq_InvalidRecords => k_is)
    (case fk_InvalidRecords => k_is)
    (case xl_InvalidName => k_is)
    (case xs_InvalidName => k_is)
    (case xe_InvalidName => k_is)
    (case xt_InvalidName => k_is)
    (case xk_InvalidName => k_is)
    (case xn_InvalidName => k_is)
    (case xi_InvalidName => k_is)
    (case xf_InvalidName => k_is)
    (case fl_InvalidName => k_is)
    (case fq_InvalidName => k_is)
    (case fk_InvalidName => k_is)
    (case xl_InvalidPlans => k_is)
    (case xs_InvalidPlans => k_is)
    (case xe_InvalidPlans => k_is)
    (case xt_InvalidPlans => k_is)
    (case xk_InvalidPlans => k_is)
    (case xn_InvalidPlans => k_is)
    (case xi_InvalidPlans => k_is)
    (case xf_InvalidPlans => k_is)
    (case fl_InvalidPlans => k_is)
    (case fq_InvalidPlans => k_is)
    (case fk_InvalidPlans => k_is)
    (case xl_PowerCut => k_is)
    (case xs_PowerCut => k_is)
    (case xe_PowerCut => k_is)
    (case xt_PowerCut => k_is)
    (case xk_PowerCut => k_is)
    (case xn_PowerCut => k_is)
    (case xi_PowerCut => k_is)
    (case xf_PowerCut => k_is)
    (case fl_PowerCut => k_is)
    (case fq_PowerCut => k_is)
    (case fk_PowerCut => k_is)
    (case xl_TooMany => k_is)
    (case xs_TooMany => k_is)
    (case xe_TooMany => k_is)
    (case xt_TooMany => k_is)
    (case xk_TooMany => k_is)
    (case xn_TooMany => k_is)
    (case xi_TooMany => k_is)
    (case xf_TooMany => k_is)
    (case fl_TooMany => k_is)
    (case fq_TooMany => k_is)
    (case fk_TooMany => k_is)
    (case xl_NoThing => k_is)
    (case xs_NoThing => k_is)
    (case xe_NoThing => k_is)
    (case xt_NoThing => k_is)
    (case xk_NoThing => k_is)
    (case xn_NoThing => k_is)
    (case xi_NoThing => k_is)
    (case xf_NoThing => k_is)
    (case fl_NoThing => k_is)
    (case fq_NoThing => k_is)
    (case fk_NoThing => k_is)
    (case xl_NotReady => k_is)
    (case xs_NotReady => k_is)
    (case xe_NotReady => k_is)
    (case xt_NotReady => k_is)
    (case xk_NotReady => k_is)
    (case xi_NotReady => k_is)
    (case xf_NotReady => k_is)
    (case fl_NotReady => k_is)
    (case fq_NotReady => k_is)
    (case fk_NotReady => k_is)
    (case xl_NoRoom => k_is)
    (case xs_NoRoom => k_is)
    (case xe_NoRoom => k_is)
    (case xt_NoRoom => k_is)
    (case xk_NoRoom => k_is)
    (case xi_NoRoom => k_is)
    (case xf_NoRoom => k_is)
    (case fl_NoRoom => k_is)
    (case fq_NoRoom => k_is)
    (case fk_NoRoom => k_is)
    (case xl_NothingToUndo => k_is)
    (case xs_NothingToUndo => k_is)
    (case xe_NothingToUndo => k_is)
    (case xt_NothingToUndo => k_is)
    (case xk_NothingToUndo => k_is)
    (case xi_NothingToUndo => k_is)
    (case xf_NothingToUndo => k_is)
    (case fl_NothingToUndo => k_is)
    (case fq_NothingToUndo => k_is)
    (case fk_NothingToUndo => k_is)
    (case fr_ => k_is)
    (case fa_ => k_is)
    (case fv_ => k_is)
    (case isn_ => k_is)
    (case ist_ => k_is)
    (case tb_ => k_is)
    (case db_ => k_is)
    (case sb_ => k_is)
    (case ya_InvalidOctets => k_is)
    (case yg_InvalidOctets => k_is)
    (case yh_InvalidOctets => k_is)
    (case yc_InvalidOctets => k_is)
    (case ym_InvalidOctets => k_is)
    (case ya_InvalidCount => k_is)
    (case yg_InvalidCount => k_is)
    (case yh_InvalidCount => k_is)
    (case yc_InvalidCount => k_is)
    (case ym_InvalidCount => k_is)
    (case ya_InvalidNumber => k_is)
    (case yg_InvalidNumber => k_is)
    (case yh_InvalidNumber => k_is)
    (case yc_InvalidNumber => k_is)
    (case ym_InvalidNumber => k_is)
    (case ya_InvalidMask => k_is)
    (case yg_InvalidMask => k_is)
    (case yh_InvalidMask => k_is)
    (case yc_InvalidMask => k_is)
    (case ym_InvalidMask => k_is)
    (case ya_InvalidOp => k_is)
    (case yg_InvalidOp => k_is)
    (case yh_InvalidOp => k_is)
    (case yc_InvalidOp => k_is)
    (case ym_InvalidOp => k_is)
    (case ya_InvalidBlock => k_is)
    (case yg_InvalidBlock => k_is)
    (case yh_InvalidBlock => k_is)
    (case yc_InvalidBlock => k_is)
    (case ym_InvalidBlock => k_is)
    (case ya_InvalidPage => k_is)
    (case yg_InvalidPage => k_is)
    (case yh_InvalidPage => k_is)
    (case yc_InvalidPage => k_is)
    (case ym_InvalidPage => k_is)
    (case ya_InvalidShape => k_is)
    (case yg_InvalidShape => k_is)
    (case yh_InvalidShape => k_is)
    (case yc_InvalidShape => k_is)
    (case ym_InvalidShape => k_is)
    (case ya_InvalidImage => k_is)
    (case yg_InvalidImage => k_is)
    (case yh_InvalidImage => k_is)
    (case yc_InvalidImage => k_is)
    (case ym_InvalidImage => k_is)
    (case ya_InvalidData => k_is)
    (case yg_InvalidData => k_is)
    (case yh_InvalidData => k_is)
    (case yc_InvalidData => k_is)
    (case ym_InvalidData => k_is)
    (case ya_InvalidRecord => k_is)
    (case yg_InvalidRecord => k_is)
    (case yh_InvalidRecord => k_is)
    (case yc_InvalidRecord => k_is)
    (case ym_InvalidRecord => k_is)
    (case ya_InvalidPath => k_is)
    (case yg_InvalidPath => k_is)
    (case yh_InvalidPath => k_is)
    (case yc_InvalidPath => k_is)
    (case ym_InvalidPath => k_is)
    (case ya_InvalidDeed => k_is)
    (case yg_InvalidDeed => k_is)
    (case yh_InvalidDeed => k_is)
    (case yc_InvalidDeed => k_is)
    (case ym_InvalidDeed => k_is)
    (case ya_InvalidLine => k_is)
    (case yg_InvalidLine => k_is)
    (case yh_InvalidLine => k_is)
    (case yc_InvalidLine => k_is)
    (case ym_InvalidLine => k_is)
    (case ya_InvalidScript => k_is)
    (case yg_InvalidScript => k_is)
    (case yh_InvalidScript => k_is)
    (case yc_InvalidScript => k_is)
    (case ym_InvalidScript => k_is)
    (case ya_InvalidTree => k_is)
    (case yg_InvalidTree => k_is)
    (case yh_InvalidTree => k_is)
    (case yc_InvalidTree => k_is)
    (case ym_InvalidTree => k_is)
    (case ya_InvalidChip => k_is)
    (case yg_InvalidChip => k_is)
    (case yh_InvalidChip => k_is)
    (case yc_InvalidChip => k_is)
    (case ym_InvalidChip => k_is)
    (case ya_InvalidRecords => k_is)
    (case yg_InvalidRecords => k_is)
    (case yh_InvalidRecords => k_is)
    (case yc_InvalidRecords => k_is)
    (case ym_InvalidRecords => k_is)
    (case ya_InvalidName => k_is)
    (case yg_InvalidName => k_is)
    (case yh_InvalidName => k_is)
    (case yc_InvalidName => k_is)
    (case ym_InvalidName => k_is)
    (case ya_InvalidPlans => k_is)
    (case yg_InvalidPlans => k_is)
    (case yh_InvalidPlans => k_is)
    (case yc_InvalidPlans => k_is)
    (case ym_InvalidPlans => k_is)
    (case ya_PowerCut => k_is)
    (case yg_PowerCut => k_is)
    (case yh_PowerCut => k_is)
    (case yc_PowerCut => k_is)
    (case ym_PowerCut => k_is)
    (case ya_TooMany => k_is)
    (case yg_TooMany => k_is)
    (case yh_TooMany => k_is)
    (case yc_TooMany => k_is)
    (case ym_TooMany => k_is)
    (case ya_NoThing => k_is)
    (case yg_NoThing => k_is)
    (case yh_NoThing => k_is)
    (case yc_NoThing => k_is)
    (case ym_NoThing => k_is)
    (case ya_NotReady => k_is)
    (case yg_NotReady => k_is)
    (case yh_NotReady => k_is)
    (case yc_NotReady => k_is)
    (case ym_NotReady => k_is)
    (case ya_NoRoom => k_is)
    (case yg_NoRoom => k_is)
    (case yh_NoRoom => k_is)
    (case yc_NoRoom => k_is)
    (case ym_NoRoom => k_is)
    (case ya_NothingToUndo => k_is)
    (case yg_NothingToUndo => k_is)
    (case yh_NothingToUndo => k_is)
    (case yc_NothingToUndo => k_is)
    (case ym_NothingToUndo => k_is)
    (case nd_ => decide +kernel)
    (case z_ValueError => k_is)
    (case z_abs => k_is)
    (case z_dict => k_is)
    (case z_int => k_is)
    (case z_isinstance => k_is)
    (case z_len => k_is)
    (case z_max => k_is)
    (case z_min => k_is)
    (case z_range => k_is)
    (case z_repr => k_is)
    (case z_sum => k_is)
