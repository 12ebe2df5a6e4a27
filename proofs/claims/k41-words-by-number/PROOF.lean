import PyProof.Rows.All
import Wide.All
import OpenK.AllK
import Wide.FinOn
import HandS.ForMost
import HandS.Exc
import HandS.TryOnly
import HandS.ExcOwn
import HandS.WordsExc
import HandS.Evl
import HandS.Wide
import HandS.IsInst
import HandS.Defaults
import HandS.Head0
import HandS.Head1
import HandS.Head2
import HandS.HeadEnd
import HandS.HeadHook1
import HandS.HeadHook2
import HandS.Walk
import HandS.Zip
import KE.GoesNew
import KE.KStateDown
import HandS.HeadHook3
import HandS.Replace
import HandS.FltList
import PySem.Challenge.RW_quadwoods_k41_words_by_number
set_option Elab.async false
set_option linter.all false
set_option maxRecDepth 100000
set_option maxHeartbeats 4000000
/-! QW1: semantic readings, values over a known part B and owned objects l. -/
namespace QW
open PySem L2 Evl

/-! ### the weakest readings -/
def wE (X : Cx) (e : Expr) : TE := fun σ H Q => ∀ pins s, Inv X pins σ H s → wpAny (model X.prog X.w) X.A (eval e X.env) (EP X pins σ Q) X.xe s
def wT (X : Cx) (e : Expr) : TT := fun σ H Q => ∀ pins s, Inv X pins σ H s → wpAny (model X.prog X.w) X.A (isTrue e X.env (eval e X.env)) (TP X pins σ Q) X.xe s
def wW (X : Cx) (e : Expr) : TT := fun σ H Q => ∀ (whole : Sem Value) pins s, Inv X pins σ H s → wpAny (model X.prog X.w) X.A (isTrue e X.env whole) (TP X pins σ Q) X.xe s
def wA (X : Cx) (es : List Expr) : TA := fun σ H Q => ∀ pos pins s, Inv X pins σ H s → wpAny (model X.prog X.w) X.A (spliced (backTo pos (starEach es X.env))) (AP X pins σ Q) X.xe s
def wS (X : Cx) (st : Stmt) : TS := fun D σ H => ∀ pins s, Inv X pins σ H s → wpAny (model X.prog X.w) X.A (exec st X.env) (SP X pins D) X.xe s
def wSs (X : Cx) (st : List Stmt) : TS := fun D σ H => ∀ pins s, Inv X pins σ H s → wpAny (model X.prog X.w) X.A (execs st X.env) (SP X pins D) X.xe s
section
variable {X : Cx} {e : Expr} {es : List Expr} {st : Stmt} {sts : List Stmt}
theorem pE : PE X e (wE X e) := ⟨fun pins s σ H Q I h => h pins s I⟩
theorem pT : PT X e (wT X e) := ⟨fun pins s σ H Q I h => h pins s I⟩
theorem pW : PW X e (wW X e) := ⟨fun wh pins s σ H Q I h => h wh pins s I⟩
theorem pA : PA X es (wA X es) := ⟨fun pos pins s σ H Q I h => h pos pins s I⟩
theorem pS : PS X st (wS X st) := ⟨fun pins s σ H D I h => h pins s I⟩
theorem pSs : PSs X sts (wSs X sts) := ⟨fun pins s σ H D I h => h pins s I⟩
theorem wE_of {t : TE} (h : PE X e t) {σ H Q} (q : t σ H Q) : wE X e σ H Q := fun pins s I => h.run pins s σ H Q I q
theorem wT_of {t : TT} (h : PT X e t) {σ H Q} (q : t σ H Q) : wT X e σ H Q := fun pins s I => h.run pins s σ H Q I q
theorem wW_of {t : TT} (h : PW X e t) {σ H Q} (q : t σ H Q) : wW X e σ H Q := fun wh pins s I => h.run wh pins s σ H Q I q
theorem wA_of {t : TA} (h : PA X es t) {σ H Q} (q : t σ H Q) : wA X es σ H Q := fun pos pins s I => h.run pos pins s σ H Q I q
theorem wS_of {t : TS} (h : PS X st t) {σ H D} (q : t D σ H) : wS X st D σ H := fun pins s I => h.run pins s σ H D I q
theorem wSs_of {t : TS} (h : PSs X sts t) {σ H D} (q : t D σ H) : wSs X sts D σ H := fun pins s I => h.run pins s σ H D I q
end

/-! ### the known part and the owned objects -/
abbrev Ob := Addr × HO
structure Cfg (B : Hp) (l : List Ob) (H : Hp) : Prop where
  ex : Ex B H
  own : ∀ p o, (p, o) ∈ l → H p = some o
  fr : ∀ p o, (p, o) ∈ l → B p = none
  nd : (l.map (·.1)).Nodup
section
variable {B B' H H' : Hp} {l : List Ob} {p : Addr} {o o' : HO}
theorem Cfg.mono (c : Cfg B l H) (e : Ex H H') : Cfg B l H' := ⟨c.ex.trans e, fun p o h => e p o (c.own p o h), c.fr, c.nd⟩
theorem Cfg.start : Cfg H [] H := ⟨Ex.refl H, fun _ _ h => (nomatch h), fun _ _ h => (nomatch h), List.nodup_nil⟩
theorem Cfg.notin (c : Cfg B l H) (h : H p = none) : p ∉ l.map (·.1) := fun m => by
  obtain ⟨q, hq, e⟩ := List.mem_map.mp m
  obtain ⟨a, u⟩ := q
  have e' : a = p := e
  subst e'
  rw [c.own _ _ hq] at h
  cases h
/-- a new object, told by what stands behind -/
theorem Cfg.new (c : Cfg B l H) (h : H p = none) (e : Ex H H') (hp : H' p = some o) : Cfg B ((p, o) :: l) H' := by
  refine ⟨c.ex.trans e, fun q u m => ?_, fun q u m => ?_, ?_⟩
  · rcases List.mem_cons.mp m with m | m
    · cases m; exact hp
    · exact e q u (c.own q u m)
  · rcases List.mem_cons.mp m with m | m
    · cases m
      cases hB : B p with
      | none => rfl
      | some u => rw [c.ex _ _ hB] at h; cases h
    · exact c.fr q u m
  · rw [List.map_cons]
    exact List.nodup_cons.mpr ⟨c.notin h, c.nd⟩
theorem Cfg.add (c : Cfg B l H) (h : H p = none) : Cfg B ((p, o) :: l) (upd H p o) := c.new h (Ex.new h) upd_same
/-- the object's content in the row of owned ones is exchanged -/
def put (p : Addr) (o : HO) : List Ob → List Ob
  | [] => []
  | x :: r => if x.1 = p then (p, o) :: r else x :: put p o r
theorem put_map (p : Addr) (o : HO) : ∀ l : List Ob, (put p o l).map (·.1) = l.map (·.1)
  | [] => rfl
  | x :: r => by
    unfold put
    by_cases h : x.1 = p
    · rw [if_pos h, List.map_cons, List.map_cons, h]
    · rw [if_neg h, List.map_cons, List.map_cons, put_map p o r]
theorem put_mem {p : Addr} {o : HO} : ∀ {l : List Ob} {q : Addr} {u : HO}, (l.map (·.1)).Nodup → (q, u) ∈ put p o l → (q = p ∧ u = o) ∨ (q ≠ p ∧ (q, u) ∈ l)
  | [], _, _, _, h => nomatch h
  | x :: r, q, u, nd, h => by
    unfold put at h
    rw [List.map_cons] at nd
    obtain ⟨n1, n2⟩ := List.nodup_cons.mp nd
    by_cases hx : x.1 = p
    · rw [if_pos hx] at h
      rcases List.mem_cons.mp h with h | h
      · cases h; exact Or.inl ⟨rfl, rfl⟩
      · refine Or.inr ⟨fun z => n1 ?_, List.mem_cons_of_mem _ h⟩
        rw [hx, ← z]
        exact List.mem_map.mpr ⟨(q, u), h, rfl⟩
    · rw [if_neg hx] at h
      rcases List.mem_cons.mp h with h | h
      · refine Or.inr ⟨fun z => hx ?_, by rw [h]; exact List.mem_cons_self⟩
        rw [← h, z]
      · rcases put_mem n2 h with z | ⟨z1, z2⟩
        · exact Or.inl z
        · exact Or.inr ⟨z1, List.mem_cons_of_mem _ z2⟩
theorem Cfg.put (c : Cfg B l H) (h : (p, o) ∈ l) : Cfg B (put p o' l) (upd H p o') := by
  have hB := c.fr p o h
  refine ⟨c.ex.mut hB, fun q u m => ?_, fun q u m => ?_, by rw [put_map]; exact c.nd⟩
  · rcases put_mem c.nd m with ⟨rfl, rfl⟩ | ⟨z1, z2⟩
    · exact upd_same
    · rw [upd_ne z1]; exact c.own q u z2
  · rcases put_mem c.nd m with ⟨rfl, rfl⟩ | ⟨z1, z2⟩
    · exact hB
    · exact c.fr q u z2
/-- the first owned object becomes known for good -/
theorem Cfg.keep (c : Cfg B ((p, o) :: l) H) : Cfg (upd B p o) l H ∧ Ex B (upd B p o) ∧ (upd B p o) p = some o := by
  have hp : B p = none := c.fr p o List.mem_cons_self
  have nd := c.nd
  rw [List.map_cons] at nd
  obtain ⟨n1, n2⟩ := List.nodup_cons.mp nd
  refine ⟨⟨fun a u h => ?_, fun q u m => c.own q u (List.mem_cons_of_mem _ m), fun q u m => ?_, n2⟩, Ex.new hp, upd_same⟩
  · by_cases ha : a = p
    · subst ha; rw [upd_same] at h; cases h; exact c.own _ _ List.mem_cons_self
    · rw [upd_ne ha] at h; exact c.ex a u h
  · rw [upd_ne (fun z => n1 (List.mem_map.mpr ⟨(q, u), m, z⟩))]
    exact c.fr q u (List.mem_cons_of_mem _ m)
theorem Cfg.drop (c : Cfg B ((p, o) :: l) H) : Cfg B l H := by
  have nd := c.nd
  rw [List.map_cons] at nd
  exact ⟨c.ex, fun q u m => c.own q u (List.mem_cons_of_mem _ m), fun q u m => c.fr q u (List.mem_cons_of_mem _ m), (List.nodup_cons.mp nd).2⟩
theorem Cfg.swap {p1 p2 : Addr} {o1 o2 : HO} (c : Cfg B ((p1, o1) :: (p2, o2) :: l) H) : Cfg B ((p2, o2) :: (p1, o1) :: l) H := by
  refine ⟨c.ex, fun q u m => c.own q u ?_, fun q u m => c.fr q u ?_, ?_⟩
  · rcases List.mem_cons.mp m with m | m
    · rw [m]; exact List.mem_cons_of_mem _ List.mem_cons_self
    · rcases List.mem_cons.mp m with m | m
      · rw [m]; exact List.mem_cons_self
      · exact List.mem_cons_of_mem _ (List.mem_cons_of_mem _ m)
  · rcases List.mem_cons.mp m with m | m
    · rw [m]; exact List.mem_cons_of_mem _ List.mem_cons_self
    · rcases List.mem_cons.mp m with m | m
      · rw [m]; exact List.mem_cons_self
      · exact List.mem_cons_of_mem _ (List.mem_cons_of_mem _ m)
  · exact (List.Perm.swap p2 p1 (l.map fun x : Ob => x.1)).nodup_iff.mp c.nd
/-- all owned objects become known: what is handed to a callee -/
theorem Cfg.all (c : Cfg B l H) : Cfg H [] H := Cfg.start
end

/-! ### lists, tuples, dicts where they stand -/
structure Lst (K : PySem.W.Frag) (B : Hp) (l : List Ob) (p : Addr) (xs : List V) : Prop where
  run : ∀ H, Cfg B l H → SqL K H p xs
instance {K : PySem.W.Frag} {B : Hp} {l : List Ob} {p : Addr} {xs : List V} : CoeFun (Lst K B l p xs) (fun _ => ∀ H, Cfg B l H → SqL K H p xs) := ⟨Lst.run⟩
structure Tup (K : PySem.W.Frag) (B : Hp) (l : List Ob) (p : Addr) (xs : List V) : Prop where
  run : ∀ H, Cfg B l H → SqT K H p xs
instance {K : PySem.W.Frag} {B : Hp} {l : List Ob} {p : Addr} {xs : List V} : CoeFun (Tup K B l p xs) (fun _ => ∀ H, Cfg B l H → SqT K H p xs) := ⟨Tup.run⟩
structure Std (B : Hp) (l : List Ob) (p : Addr) (o : HO) : Prop where
  run : ∀ H, Cfg B l H → H p = some o
instance {B : Hp} {l : List Ob} {p : Addr} {o : HO} : CoeFun (Std B l p o) (fun _ => ∀ H, Cfg B l H → H p = some o) := ⟨Std.run⟩
section
variable {K : PySem.W.Frag} {B : Hp} {l : List Ob} {p : Addr} {xs : List V} {o : HO}
theorem std_l (h : (p, o) ∈ l) : Std B l p o := ⟨fun H c => c.own p o h⟩
theorem std_b (h : B p = some o) : Std B l p o := ⟨fun H c => c.ex p o h⟩
theorem lst_l (h : (p, HO.lst xs) ∈ l) : Lst K B l p xs := ⟨fun H c => SqL.of (c.own p _ h)⟩
theorem lst_b (h : SqL K B p xs) : Lst K B l p xs := ⟨fun H c => ex_l c.ex h⟩
theorem lst_h (h : B p = some (.lst xs)) : Lst K B l p xs := lst_b (SqL.of h)
theorem tup_l (h : (p, HO.tup xs) ∈ l) : Tup K B l p xs := ⟨fun H c => SqT.of (c.own p _ h)⟩
theorem tup_b (h : SqT K B p xs) : Tup K B l p xs := ⟨fun H c => ex_t c.ex h⟩
theorem tup_h (h : B p = some (.tup xs)) : Tup K B l p xs := tup_b (SqT.of h)
end

/-! ### what evaluates to what -/
structure EV (X : Cx) (e : Expr) (σ : L2.St) (B : Hp) (l : List Ob) (v : V) : Prop where
  run : ∀ H, Cfg B l H → Ev (wE X e) σ H v
instance {X : Cx} {e : Expr} {σ : L2.St} {B : Hp} {l : List Ob} {v : V} : CoeFun (EV X e σ B l v) (fun _ => ∀ H, Cfg B l H → Ev (wE X e) σ H v) := ⟨EV.run⟩
structure ET (X : Cx) (e : Expr) (σ : L2.St) (B : Hp) (l : List Ob) (b : Bool) : Prop where
  run : ∀ H, Cfg B l H → EvT (wT X e) σ H b
instance {X : Cx} {e : Expr} {σ : L2.St} {B : Hp} {l : List Ob} {b : Bool} : CoeFun (ET X e σ B l b) (fun _ => ∀ H, Cfg B l H → EvT (wT X e) σ H b) := ⟨ET.run⟩
structure EW (X : Cx) (e : Expr) (σ : L2.St) (B : Hp) (l : List Ob) (b : Bool) : Prop where
  run : ∀ H, Cfg B l H → EvT (wW X e) σ H b
instance {X : Cx} {e : Expr} {σ : L2.St} {B : Hp} {l : List Ob} {b : Bool} : CoeFun (EW X e σ B l b) (fun _ => ∀ H, Cfg B l H → EvT (wW X e) σ H b) := ⟨EW.run⟩
structure EA (X : Cx) (es : List Expr) (σ : L2.St) (B : Hp) (l : List Ob) (vs : List V) : Prop where
  run : ∀ H, Cfg B l H → EvA (wA X es) σ H vs
instance {X : Cx} {es : List Expr} {σ : L2.St} {B : Hp} {l : List Ob} {vs : List V} : CoeFun (EA X es σ B l vs) (fun _ => ∀ H, Cfg B l H → EvA (wA X es) σ H vs) := ⟨EA.run⟩
section
variable {X : Cx} {e e1 e2 c : Expr} {es : List Expr} {σ : L2.St} {B : Hp} {l : List Ob} {v v1 v2 : V} {b b1 b2 : Bool} {pos : Pos} {i j : Int} {x : Str} {p : Addr} {xs vs : List V}
theorem ev_of {t : TE} (h : PE X e t) (k : ∀ H, Cfg B l H → Ev t σ H v) : EV X e σ B l v := ⟨fun H c H1 e1 Q q pins s I => h.run pins s σ H1 Q I (k H c H1 e1 Q q)⟩
theorem et_of {t : TT} (h : PT X e t) (k : ∀ H, Cfg B l H → EvT t σ H b) : ET X e σ B l b := ⟨fun H c H1 e1 Q q pins s I => h.run pins s σ H1 Q I (k H c H1 e1 Q q)⟩
theorem ew_of {t : TT} (h : PW X e t) (k : ∀ H, Cfg B l H → EvT t σ H b) : EW X e σ B l b := ⟨fun H c H1 e1 Q q wh pins s I => h.run wh pins s σ H1 Q I (k H c H1 e1 Q q)⟩
theorem ea_of {t : TA} (h : PA X es t) (k : ∀ H, Cfg B l H → EvA t σ H vs) : EA X es σ B l vs := ⟨fun H c H1 e1 Q q pos pins s I => h.run pos pins s σ H1 Q I (k H c H1 e1 Q q)⟩
/-- a value, then on -/
theorem go (h : EV X e σ B l v) {H : Hp} (c : Cfg B l H) {Q : VK} (k : ∀ H1, Ex H H1 → Cfg B l H1 → Q v H1) : wE X e σ H Q := h H c H (Ex.refl H) Q fun H1 e => k H1 e (c.mono e)
theorem goT (h : ET X e σ B l b) {H : Hp} (c : Cfg B l H) {Q : Bool → Hp → Prop} (k : ∀ H1, Ex H H1 → Cfg B l H1 → Q b H1) : wT X e σ H Q := h H c H (Ex.refl H) Q fun H1 e => k H1 e (c.mono e)
theorem goA (h : EA X es σ B l vs) {H : Hp} (c : Cfg B l H) {Q : List V → Hp → Prop} (k : ∀ H1, Ex H H1 → Cfg B l H1 → Q vs H1) : wA X es σ H Q := h H c H (Ex.refl H) Q fun H1 e => k H1 e (c.mono e)
theorem EV.is (h : EV X e σ B l v) (q : v = v1) : EV X e σ B l v1 := q ▸ h
theorem ET.is (h : ET X e σ B l b) (q : b = b1) : ET X e σ B l b1 := q ▸ h

/-- a name of the def: its place, that it is seen -/
structure Slot (X : Cx) (i : Nat) (x : Str) : Prop where
  n : X.N[i]? = some x
  v : Vis X.env.scope x
  d : (x == ("__debug__" : Str)) = false
  d2 : (x == ("__classdict__" : Str)) = false
theorem e_slot {i : Nat} (n : Slot X i x) (h : σ[i]? = some (some v)) : EV X (.Name x pos) σ B l v := ev_of (pe_var n.n n.v n.d n.d2) fun H c => ev_var h
theorem e_int {j pos} : EV X (.Constant (.int i) j pos) σ B l (.int i) := ev_of pe_int fun H c => ev_c
theorem e_bl {j pos} : EV X (.Constant (.bool b) j pos) σ B l (.bl b) := ev_of pe_bl fun H c => ev_c
theorem e_non {j pos} : EV X (.Constant .none j pos) σ B l .non := ev_of pe_non fun H c => ev_c
theorem e_str {z j pos} : EV X (.Constant (.str z) j pos) σ B l (.str z) := ev_of pe_str fun H c => ev_c
theorem e_add (h1 : EV X e1 σ B l (.int i)) (h2 : EV X e2 σ B l (.int j)) : EV X (.BinOp e1 .Add e2 pos) σ B l (.int (i + j)) := ev_of (pe_op op_add pE pE) fun H c => ev_op (h1 H c) (h2 H c) rv_I0
theorem e_sub (h1 : EV X e1 σ B l (.int i)) (h2 : EV X e2 σ B l (.int j)) : EV X (.BinOp e1 .Sub e2 pos) σ B l (.int (i - j)) := ev_of (pe_op op_sub pE pE) fun H c => ev_op (h1 H c) (h2 H c) rv_I0
/-- a factor below 2 ^ 64, or both of together less than a million bits -/
theorem e_mul (h1 : EV X e1 σ B l (.int i)) (h2 : EV X e2 σ B l (.int j)) (hc : CMul i j ∨ CMulW i j) : EV X (.BinOp e1 .Mult e2 pos) σ B l (.int (i * j)) := by
  rcases hc with hc | hc
  · exact ev_of (pe_op op_mul pE pE) fun H c => ev_op (h1 H c) (h2 H c) (rv_I hc)
  · exact ev_of (pe_op op_mulW pE pE) fun H c => ev_op (h1 H c) (h2 H c) (rv_I hc)
theorem e_mod (h1 : EV X e1 σ B l (.int i)) (h2 : EV X e2 σ B l (.int j)) (hc : 0 < j) : EV X (.BinOp e1 .Mod e2 pos) σ B l (.int (i % j)) := ev_of (pe_op op_mod pE pE) fun H c => ev_op (h1 H c) (h2 H c) (rv_I hc)
theorem e_fdiv (h1 : EV X e1 σ B l (.int i)) (h2 : EV X e2 σ B l (.int j)) (hc : CDivW i j) : EV X (.BinOp e1 .FloorDiv e2 pos) σ B l (.int (i / j)) := ev_of (pe_op op_fdivW pE pE) fun H c => ev_op (h1 H c) (h2 H c) (rv_I hc)
theorem e_pow (h1 : EV X e1 σ B l (.int i)) (h2 : EV X e2 σ B l (.int j)) (hc : 0 ≤ j ∧ (Builtin.Int.intBits i : Int) * j ≤ 2 ^ 27) : EV X (.BinOp e1 .Pow e2 pos) σ B l (.int (i ^ j.toNat)) :=
  ev_of (pe_op (r := rI (fun i j => 0 ≤ j ∧ (Builtin.Int.intBits i : Int) * j ≤ 2 ^ 27) fun i j => .int (i ^ j.toNat)) (opI fun _ _ _ _ _ _ _ hc q => PyProof.Rows.pow_int hc.1 hc.2 q) pE pE) fun H c => ev_op (h1 H c) (h2 H c) (rv_I hc)
theorem e_neg (h1 : EV X e1 σ B l (.int i)) : EV X (.UnaryOp .USub e1 pos) σ B l (.int (-i)) := ev_of (pe_un un_neg pE) fun H c => ev_un (h1 H c) ru_neg
theorem e_adds {y z : Str} (h1 : EV X e1 σ B l (.str y)) (h2 : EV X e2 σ B l (.str z)) (hl : y.length + z.length ≤ sizeLine) : EV X (.BinOp e1 .Add e2 pos) σ B l (.str (y ++ z)) :=
  ev_of (pe_op op_add_str pE pE) fun H c => ev_op (h1 H c) (h2 H c) fun H1 _ Q q => ⟨y, z, rfl, rfl, hl, q H1 (Ex.refl H1)⟩
/-! comparisons -/
def wC (X : Cx) (op : CmpOp) (a b : Expr) : TE := fun σ H Q => ∀ pins s, Inv X pins σ H s →
  wpAny (model X.prog X.w) X.A (eval a X.env) (fun v s₁ => wpAny (model X.prog X.w) X.A (eval b X.env) (fun u s₂ => wpAny (model X.prog X.w) X.A (compareOp op v u) (EP X pins σ Q) X.xe s₂) X.xe s₁) X.xe s
theorem pC {op : CmpOp} {a b : Expr} : PC X op a b (wC X op a b) := ⟨fun pins s σ H Q I h => h pins s I⟩
theorem pc_R {op : CmpOp} {a b : Expr} {r : R2} {ta tb : TE} (ho : OpR X (compareOp op) r) (ha : PE X a ta) (hb : PE X b tb) : PC X op a b (tOp r ta tb) := ⟨fun pins s σ H Q I h => by
  refine bin ha hb I h fun v u s2 x y H2 I2 rx ry q => ?_
  exact ho pins s2 σ H2 x y v u Q I2 rx ry q⟩
/-- a comparison, as a value or as a test -/
structure EC (X : Cx) (op : CmpOp) (e1 e2 : Expr) (σ : L2.St) (B : Hp) (l : List Ob) (b : Bool) : Prop where
  run : ∀ H, Cfg B l H → Ev (wC X op e1 e2) σ H (.bl b)
instance {X : Cx} {op : CmpOp} {e1 e2 : Expr} {σ : L2.St} {B : Hp} {l : List Ob} {b : Bool} : CoeFun (EC X op e1 e2 σ B l b) (fun _ => ∀ H, Cfg B l H → Ev (wC X op e1 e2) σ H (.bl b)) := ⟨EC.run⟩
theorem ec_of {op : CmpOp} {t : TE} (h : PC X op e1 e2 t) (k : ∀ H, Cfg B l H → Ev t σ H (.bl b)) : EC X op e1 e2 σ B l b := ⟨fun H c H1 x1 Q q pins s I => h.run pins s σ H1 Q I (k H c H1 x1 Q q)⟩
theorem e_cmp {op : CmpOp} (h : EC X op e1 e2 σ B l b) (h1 : behindInMarks op e2 = false := by first | exact nobehind _ (by decide) (by decide) | rfl) : EV X (.Compare e1 [op] [e2] pos) σ B l (.bl b) := ev_of (pe_cmp pC h1) fun H c => h H c
theorem t_cmp {op : CmpOp} (h : EC X op e1 e2 σ B l b) (h1 : behindInMarks op e2 = false := by first | exact nobehind _ (by decide) (by decide) | rfl) : ET X (.Compare e1 [op] [e2] pos) σ B l b := et_of (pt_cmp pC h1) fun H c => et_B (h H c)
theorem ec_R {op : CmpOp} {r : R2} (ho : OpR X (compareOp op) r) (h1 : EV X e1 σ B l v1) (h2 : EV X e2 σ B l v2) (hr : ∀ H, Cfg B l H → RV r v1 v2 H (.bl b)) : EC X op e1 e2 σ B l b := ec_of (pc_R ho pE pE) fun H c => ev_op (h1 H c) (h2 H c) (hr H c)
theorem EC.is {op : CmpOp} (h : EC X op e1 e2 σ B l b) (q : b = b1) : EC X op e1 e2 σ B l b1 := q ▸ h
theorem dcI {i j : Int} : decide (V.int i = V.int j) = decide (i = j) := decide_eq_decide.mpr ⟨fun h => V.int.inj h, fun h => by rw [h]⟩
theorem dcS {i j : Str} : decide (V.str i = V.str j) = decide (i = j) := decide_eq_decide.mpr ⟨fun h => V.str.inj h, fun h => by rw [h]⟩
theorem c_eqI (h1 : EV X e1 σ B l (.int i)) (h2 : EV X e2 σ B l (.int j)) : EC X .Eq e1 e2 σ B l (decide (i = j)) := (ec_R op_eq h1 h2 fun H c => rv_eq rfl).is dcI
theorem c_neI (h1 : EV X e1 σ B l (.int i)) (h2 : EV X e2 σ B l (.int j)) : EC X .NotEq e1 e2 σ B l (!decide (i = j)) := (ec_R op_ne h1 h2 fun H c => rv_ne rfl).is (by rw [dcI])
theorem c_eqS {y z : Str} (h1 : EV X e1 σ B l (.str y)) (h2 : EV X e2 σ B l (.str z)) : EC X .Eq e1 e2 σ B l (decide (y = z)) := (ec_R op_eq h1 h2 fun H c => rv_eq rfl).is dcS
theorem c_neS {y z : Str} (h1 : EV X e1 σ B l (.str y)) (h2 : EV X e2 σ B l (.str z)) : EC X .NotEq e1 e2 σ B l (!decide (y = z)) := (ec_R op_ne h1 h2 fun H c => rv_ne rfl).is (by rw [dcS])
theorem c_eqV (h1 : EV X e1 σ B l v1) (h2 : EV X e2 σ B l v2) (hs : scal v1 v2 = true) : EC X .Eq e1 e2 σ B l (decide (v1 = v2)) := ec_R op_eq h1 h2 fun H c => rv_eq hs
theorem c_neV (h1 : EV X e1 σ B l v1) (h2 : EV X e2 σ B l v2) (hs : scal v1 v2 = true) : EC X .NotEq e1 e2 σ B l (!decide (v1 = v2)) := ec_R op_ne h1 h2 fun H c => rv_ne hs
theorem c_lt (h1 : EV X e1 σ B l (.int i)) (h2 : EV X e2 σ B l (.int j)) : EC X .Lt e1 e2 σ B l (decide (i < j)) := ec_R op_lt h1 h2 fun H c => rv_I0
theorem c_le (h1 : EV X e1 σ B l (.int i)) (h2 : EV X e2 σ B l (.int j)) : EC X .LtE e1 e2 σ B l (decide (i ≤ j)) := ec_R op_le h1 h2 fun H c => rv_I0
theorem c_gt (h1 : EV X e1 σ B l (.int i)) (h2 : EV X e2 σ B l (.int j)) : EC X .Gt e1 e2 σ B l (decide (j < i)) := ec_R op_gt h1 h2 fun H c => rv_I0
theorem c_ge (h1 : EV X e1 σ B l (.int i)) (h2 : EV X e2 σ B l (.int j)) : EC X .GtE e1 e2 σ B l (decide (j ≤ i)) := ec_R op_ge h1 h2 fun H c => rv_I0
theorem c_isN {j' p'} (h1 : EV X e1 σ B l v) : EC X .Is e1 (.Constant .none j' p') σ B l (decide (v = .non)) := ec_of (pc_R op_isN pE pe_non) fun H c => ev_op (h1 H c) ev_c fun H1 _ Q q => ⟨rfl, q H1 (Ex.refl H1)⟩
theorem c_notN {j' p'} (h1 : EV X e1 σ B l v) : EC X .IsNot e1 (.Constant .none j' p') σ B l (!decide (v = .non)) := ec_of (pc_R op_notN pE pe_non) fun H c => ev_op (h1 H c) ev_c fun H1 _ Q q => ⟨rfl, q H1 (Ex.refl H1)⟩
/-- x in d -/
theorem c_inD {k : Key} {kvs : List (Key × V)} (hu : X.A.units + 1 < cLine) (h1 : EV X e1 σ B l (kV k)) (h2 : EV X e2 σ B l (.ref p)) (hd : Std B l p (.dK kvs)) : EC X .In e1 e2 σ B l (valV kvs k).isSome :=
  ec_of (pc_din hu pE pE) fun H c H1 x1 Q q => h1 H c H1 x1 _ fun H2 x2 => h2 H c H2 (x1.trans x2) _ fun H3 x3 => ⟨p, _, rfl, DGet.k (((x1.trans x2).trans x3) _ _ (hd H c)), q H3 (x2.trans x3)⟩
theorem c_ninD {k : Key} {kvs : List (Key × V)} (hu : X.A.units + 1 < cLine) (h1 : EV X e1 σ B l (kV k)) (h2 : EV X e2 σ B l (.ref p)) (hd : Std B l p (.dK kvs)) : EC X .NotIn e1 e2 σ B l (!(valV kvs k).isSome) :=
  ec_of (pc_dnotin hu pE pE) fun H c H1 x1 Q q => h1 H c H1 x1 _ fun H2 x2 => h2 H c H2 (x1.trans x2) _ fun H3 x3 => ⟨p, _, rfl, DGet.k (((x1.trans x2).trans x3) _ _ (hd H c)), q H3 (x2.trans x3)⟩
/-- x in xs -/
theorem c_inL (h1 : EV X e1 σ B l v) (h2 : EV X e2 σ B l (.ref p)) (hd : Lst X.K B l p xs) (hx : flatV v = true) (hf : xs.all flatV = true) : EC X .In e1 e2 σ B l (inV v xs) := ec_R op_in_seq h1 h2 fun H c => rv_isL (hd H c) hx hf
theorem c_ninL (h1 : EV X e1 σ B l v) (h2 : EV X e2 σ B l (.ref p)) (hd : Lst X.K B l p xs) (hx : flatV v = true) (hf : xs.all flatV = true) : EC X .NotIn e1 e2 σ B l (!inV v xs) := ec_R op_notIn_seq h1 h2 fun H c => rv_niL (hd H c) hx hf
theorem c_inT (h1 : EV X e1 σ B l v) (h2 : EV X e2 σ B l (.ref p)) (hd : Tup X.K B l p xs) (hx : flatV v = true) (hf : xs.all flatV = true) : EC X .In e1 e2 σ B l (inV v xs) := ec_R op_in_seq h1 h2 fun H c => rv_isT (hd H c) hx hf
theorem c_ninT (h1 : EV X e1 σ B l v) (h2 : EV X e2 σ B l (.ref p)) (hd : Tup X.K B l p xs) (hx : flatV v = true) (hf : xs.all flatV = true) : EC X .NotIn e1 e2 σ B l (!inV v xs) := ec_R op_notIn_seq h1 h2 fun H c => rv_niT (hd H c) hx hf
/-- one sign in a text -/
theorem c_inS {k : Nat} {z : Str} (h1 : EV X e1 σ B l (.str ⟨#[k]⟩)) (h2 : EV X e2 σ B l (.str z)) : EC X .In e1 e2 σ B l (decide (k ∈ z.cps.toList)) := ec_R op_in_sign h1 h2 fun H c H1 _ Q q => ⟨k, z, rfl, rfl, q H1 (Ex.refl H1)⟩
theorem c_ninS {k : Nat} {z : Str} (h1 : EV X e1 σ B l (.str ⟨#[k]⟩)) (h2 : EV X e2 σ B l (.str z)) : EC X .NotIn e1 e2 σ B l (!decide (k ∈ z.cps.toList)) := ec_R op_notIn_sign h1 h2 fun H c H1 _ Q q => ⟨k, z, rfl, rfl, q H1 (Ex.refl H1)⟩
/-! truth -/
theorem e_not (h1 : EV X e1 σ B l (.bl b)) : EV X (.UnaryOp .Not e1 pos) σ B l (.bl (!b)) := ev_of (pe_not pE) fun H c => ev_notV (h1 H c)
theorem e_and (h1 : EV X e1 σ B l (.bl b1)) (h2 : b1 = true → EV X e2 σ B l (.bl b2)) : EV X (.BoolOp .And [e1, e2] pos) σ B l (.bl (b1 && b2)) := ev_of (pe_and pE (pe_one pE)) fun H c => ev_andV (h1 H c) fun t => h2 t H c
theorem e_or (h1 : EV X e1 σ B l (.bl b1)) (h2 : b1 = false → EV X e2 σ B l (.bl b2)) : EV X (.BoolOp .Or [e1, e2] pos) σ B l (.bl (b1 || b2)) := ev_of (pe_or pE (pe_one pE)) fun H c => ev_orV (h1 H c) fun t => h2 t H c
theorem e_and3 {e3 : Expr} {b3 : Bool} (h1 : EV X e1 σ B l (.bl b1)) (h2 : b1 = true → EV X e2 σ B l (.bl b2)) (h3 : b1 = true → b2 = true → EV X e3 σ B l (.bl b3)) : EV X (.BoolOp .And [e1, e2, e3] pos) σ B l (.bl (b1 && (b2 && b3))) :=
  ev_of (pe_and pE (pe_and pE (pe_one pE))) fun H c => ev_andV (h1 H c) fun t => ev_andV (h2 t H c) fun u => h3 t u H c
theorem e_or3 {e3 : Expr} {b3 : Bool} (h1 : EV X e1 σ B l (.bl b1)) (h2 : b1 = false → EV X e2 σ B l (.bl b2)) (h3 : b1 = false → b2 = false → EV X e3 σ B l (.bl b3)) : EV X (.BoolOp .Or [e1, e2, e3] pos) σ B l (.bl (b1 || (b2 || b3))) :=
  ev_of (pe_or pE (pe_or pE (pe_one pE))) fun H c => ev_orV (h1 H c) fun t => ev_orV (h2 t H c) fun u => h3 t u H c
theorem t_val (h : EV X e σ B l (.bl b)) (he : ∀ whole, isTrue e X.env whole = (do let v ← whole; standAt e.pos; holding [v] (truthy v)) := by intro _; rfl) : ET X e σ B l b := et_of (pt_val pE he) fun H c => et_B (h H c)
theorem t_not (h : ET X e σ B l b) : ET X (.UnaryOp .Not e pos) σ B l (!b) := et_of (pt_not pT) fun H c => et_not (h H c)
theorem t_and (h1 : ET X e1 σ B l b1) (h2 : b1 = true → ET X e2 σ B l b2) : ET X (.BoolOp .And [e1, e2] pos) σ B l (b1 && b2) := et_of (PW.pt (pw_and pT (pw_and1 pT))) fun H c => et_and (h1 H c) fun t => h2 t H c
theorem t_or (h1 : ET X e1 σ B l b1) (h2 : b1 = false → ET X e2 σ B l b2) : ET X (.BoolOp .Or [e1, e2] pos) σ B l (b1 || b2) := et_of (PW.pt (pw_or pT (pw_or1 pT))) fun H c => et_or (h1 H c) fun t => h2 t H c
theorem t_and3 {e3 : Expr} {b3 : Bool} (h1 : ET X e1 σ B l b1) (h2 : b1 = true → ET X e2 σ B l b2) (h3 : b1 = true → b2 = true → ET X e3 σ B l b3) : ET X (.BoolOp .And [e1, e2, e3] pos) σ B l (b1 && (b2 && b3)) :=
  et_of (PW.pt (pw_and pT (pw_and pT (pw_and1 pT)))) fun H c => et_and (h1 H c) fun t => et_and (h2 t H c) fun u => h3 t u H c
theorem t_or3 {e3 : Expr} {b3 : Bool} (h1 : ET X e1 σ B l b1) (h2 : b1 = false → ET X e2 σ B l b2) (h3 : b1 = false → b2 = false → ET X e3 σ B l b3) : ET X (.BoolOp .Or [e1, e2, e3] pos) σ B l (b1 || (b2 || b3)) :=
  et_of (PW.pt (pw_or pT (pw_or pT (pw_or1 pT)))) fun H c => et_or (h1 H c) fun t => et_or (h2 t H c) fun u => h3 t u H c
/-- a if t else b -/
theorem e_ifT {a1 a2 : Expr} (h : ET X c σ B l true) (h1 : EV X a1 σ B l v) : EV X (.IfExp c a1 a2 pos) σ B l v := ev_of (pe_ifExp pT pE pE) fun H k => ev_if (h H k) (fun _ => h1 H k) fun z => nomatch z
theorem e_ifF {a1 a2 : Expr} (h : ET X c σ B l false) (h2 : EV X a2 σ B l v) : EV X (.IfExp c a1 a2 pos) σ B l v := ev_of (pe_ifExp pT pE pE) fun H k => ev_if (h H k) (fun z => nomatch z) fun _ => h2 H k
theorem e_if {a1 a2 : Expr} (h : ET X c σ B l b) (h1 : b = true → EV X a1 σ B l v1) (h2 : b = false → EV X a2 σ B l v2) : EV X (.IfExp c a1 a2 pos) σ B l (if b = true then v1 else v2) := by
  cases b with
  | true => exact e_ifT h (h1 rfl)
  | false => exact e_ifF h (h2 rfl)
/-! items -/
theorem e_ixL (h1 : EV X e1 σ B l (.ref p)) (h2 : EV X e2 σ B l (.int i)) (hl : Lst X.K B l p xs) (ha : atI xs i = some v) (hs : PlainIx e2 := by exact fun _ _ => rfl) : EV X (.Subscript e1 e2 pos) σ B l v := ev_of (pe_ix ix_list pE pE hs) fun H c => ev_op (h1 H c) (h2 H c) (rv_ixL (hl H c) ha)
theorem e_ixT (h1 : EV X e1 σ B l (.ref p)) (h2 : EV X e2 σ B l (.int i)) (hl : Tup X.K B l p xs) (ha : atI xs i = some v) (hs : PlainIx e2 := by exact fun _ _ => rfl) : EV X (.Subscript e1 e2 pos) σ B l v := ev_of (pe_ix ix_tup pE pE hs) fun H c => ev_op (h1 H c) (h2 H c) (rv_ixT (hl H c) ha)
theorem e_ixS {z : Str} {k : Nat} (h1 : EV X e1 σ B l (.str z)) (h2 : EV X e2 σ B l (.int i)) (hl : z.length ≤ sizeLine) (ha : atI z.cps.toList i = some k) (hs : PlainIx e2 := by exact fun _ _ => rfl) : EV X (.Subscript e1 e2 pos) σ B l (.str ⟨#[k]⟩) :=
  ev_of (pe_ix ix_str pE pE hs) fun H c => ev_op (h1 H c) (h2 H c) fun H1 _ Q q => ⟨z, i, k, rfl, rfl, hl, ha, q H1 (Ex.refl H1)⟩
theorem e_ixD {k : Key} {kvs : List (Key × V)} (hu : X.A.units + 1 < cLine) (h1 : EV X e1 σ B l (.ref p)) (h2 : EV X e2 σ B l (kV k)) (hd : Std B l p (.dK kvs)) (hv : valV kvs k = some v) (hs : NoSl e2 := by exact fun _ _ => rfl) : EV X (.Subscript e1 e2 pos) σ B l v :=
  ev_of (pe_dget hu pE pE hs) fun H c H1 x1 Q q => h1 H c H1 x1 _ fun H2 x2 => h2 H c H2 (x1.trans x2) _ fun H3 x3 => ⟨p, v, rfl, by rw [← hv]; exact DGet.k (((x1.trans x2).trans x3) _ _ (hd H c)), q H3 (x2.trans x3)⟩
/-! arguments -/
theorem a_nil : EA X [] σ B l [] := ea_of pa_nil fun H c => ea_nil
theorem a_cons (h : EV X e σ B l v) (hr : EA X es σ B l vs) (hs : starEach (e :: es) X.env = (false, eval e X.env) :: starEach es X.env := by rfl) : EA X (e :: es) σ B l (v :: vs) := ea_of (pa_cons pE pA hs) fun H c => ea_cons (h H c) (hr H c)
theorem e_callB {id : String} {r : List V → Hp → VK → Prop} (hc : CallR X (.builtin id) r) (hg : Gl X x) (hm : X.mg x = none) (hv : bootBuiltins x = some (.builtin id)) (ha : EA X (e :: es) σ B l vs) (hr : ∀ H, Cfg B l H → RC r vs H v) (hn : x ≠ "__name__") (hdb : (x == ("__debug__" : Str)) = false)
    (he : starEach (e :: es) X.env = (false, eval e X.env) :: starEach es X.env) (hpl : (backTo pos (starEach es X.env)).any (·.1) = false) {p' : Pos} : EV X (.Call (.Name x p') (e :: es) [] pos) σ B l v :=
  ev_of (pe_callB hc hg hm hv pA hn hdb he hpl) fun H c => ev_cb (ha H c) (hr H c)
theorem e_callTy {T : String} {r : List V → Hp → VK → Prop} (hc : CallR X (.type T) r) (hg : Gl X x) (hm : X.mg x = none) (hv : bootBuiltins x = some (.type T)) (ha : EA X (e :: es) σ B l vs) (hr : ∀ H, Cfg B l H → RC r vs H v) (hn : x ≠ "__name__") (hdb : (x == ("__debug__" : Str)) = false)
    (he : starEach (e :: es) X.env = (false, eval e X.env) :: starEach es X.env) (hpl : (backTo pos (starEach es X.env)).any (·.1) = false) {p' : Pos} : EV X (.Call (.Name x p') (e :: es) [] pos) σ B l v :=
  ev_of (pe_callTy hc hg hm hv pA hn hdb he hpl) fun H c => ev_cb (ha H c) (hr H c)
end
end QW
/-! QW2: statements, loops, comprehensions, defs and their calls. -/
namespace QW
open PySem L2 Evl

/-- a def's own name: where it may be stored too -/
structure Own (X : Cx) (i : Nat) (x : Str) : Prop where
  s : Slot X i x
  l : Loc X.env.scope x
  f : X.fn x = true
  nd : X.N.Nodup
section
variable {X : Cx} {e e1 e2 c o : Expr} {es : List Expr} {rest body els : List Stmt} {σ : L2.St} {H : Hp} {B : Hp} {l : List Ob} {v v1 v2 : V} {b b1 b2 : Bool} {pos pos' tpos : Pos} {i j : Nat} {x y : Str} {p : Addr} {xs vs : List V} {D : Ends}
theorem e_own (n : Own X i x) (h : σ[i]? = some (some v)) : EV X (.Name x pos) σ B l v := e_slot n.s h

theorem s_nil (h : D.nx σ H) : wSs X [] D σ H := wSs_of pss_nil h
theorem s_of {st : Stmt} {t : TS} (h : PS X st t) (q : t { D with nx := wSs X rest D } σ H) : wSs X (st :: rest) D σ H := wSs_of (pss_cons h pSs) q
theorem s_set (n : Own X i x) (h : wE X e σ H fun v H1 => wSs X rest D (σ.set i (some v)) H1) (hs : swapsWith e (some (.Name x pos')) pos.line X.env = pure false := by rfl) : wSs X (.Assign [.Name x pos'] e pos :: rest) D σ H :=
  s_of (ps_set n.nd n.s.n n.l pE hs (.inl n.f)) h
/-- x = e, e a value -/
theorem s_setV (n : Own X i x) (c : Cfg B l H) (h : EV X e σ B l v) (k : ∀ H1, Ex H H1 → Cfg B l H1 → wSs X rest D (σ.set i (some v)) H1) (hs : swapsWith e (some (.Name x pos')) pos.line X.env = pure false := by rfl) : wSs X (.Assign [.Name x pos'] e pos :: rest) D σ H :=
  s_set n (go h c k) hs
theorem s_ret (h : wE X e σ H D.rt) : wSs X (.Return (some e) pos :: rest) D σ H := s_of (ps_ret pE) h
theorem s_retV (c : Cfg B l H) (h : EV X e σ B l v) (k : ∀ H1, Ex H H1 → Cfg B l H1 → D.rt v H1) : wSs X (.Return (some e) pos :: rest) D σ H := s_ret (go h c k)
theorem s_retN (h : D.rt .non H) : wSs X (.Return none pos :: rest) D σ H := s_of ps_retN h
theorem s_expr (h : wE X e σ H fun _ H1 => wSs X rest D σ H1) (hs : swapsWith e none pos.line X.env = pure false := by rfl) : wSs X (.Expr e pos :: rest) D σ H := s_of (ps_expr pE hs) h
theorem s_if (h : wT X c σ H fun b H1 => if b = true then wSs X body { D with nx := wSs X rest D } σ H1 else wSs X els { D with nx := wSs X rest D } σ H1) : wSs X (.If c body els pos :: rest) D σ H := s_of (ps_if pT pSs pSs) h
/-- if, its test's answer told -/
theorem s_ifV {cc : Expr} (c : Cfg B l H) (h : ET X cc σ B l b) (h1 : b = true → ∀ H1, Ex H H1 → Cfg B l H1 → wSs X body { D with nx := wSs X rest D } σ H1) (h2 : b = false → ∀ H1, Ex H H1 → Cfg B l H1 → wSs X els { D with nx := wSs X rest D } σ H1) : wSs X (.If cc body els pos :: rest) D σ H :=
  s_if (goT h c fun H1 e k => by
    cases b with
    | true => exact h1 rfl H1 e k
    | false => exact h2 rfl H1 e k)
theorem s_ifT {cc : Expr} (c : Cfg B l H) (h : ET X cc σ B l true) (h1 : ∀ H1, Ex H H1 → Cfg B l H1 → wSs X body { D with nx := wSs X rest D } σ H1) : wSs X (.If cc body els pos :: rest) D σ H := s_ifV c h (fun _ => h1) fun z => nomatch z
theorem s_ifF {cc : Expr} (c : Cfg B l H) (h : ET X cc σ B l false) (h1 : ∀ H1, Ex H H1 → Cfg B l H1 → wSs X els { D with nx := wSs X rest D } σ H1) : wSs X (.If cc body els pos :: rest) D σ H := s_ifV c h (fun z => nomatch z) fun _ => h1
theorem s_pass (h : wSs X rest D σ H) : wSs X (.Pass pos :: rest) D σ H := s_of ps_pass h
theorem s_break (h : D.bk σ H) : wSs X (.Break pos :: rest) D σ H := s_of ps_break h
/-- x op= e -/
theorem s_aug {op : Operator} {ti : TIp} (n : Own X i x) (ho : PIp X op ti) (hx : σ[i]? = some (some v)) (h : wE X e σ H fun y H1 => ti v y H1 fun z H2 => wSs X rest D (σ.set i (some z)) H2) : wSs X (.AugAssign (.Name x pos') op e pos :: rest) D σ H :=
  s_of (ps_aug n.nd n.s.n n.l pE ho (.inl n.f)) ⟨v, hx, h⟩
theorem s_augI {f : Int → Int → Int} {op : Operator} {a k : Int} (n : Own X i x) (c : Cfg B l H) (ho : PIp X op (ipI f)) (hx : σ[i]? = some (some (.int a))) (h : EV X e σ B l (.int k)) (q : ∀ H1, Ex H H1 → Cfg B l H1 → wSs X rest D (σ.set i (some (.int (f a k)))) H1) :
    wSs X (.AugAssign (.Name x pos') op e pos :: rest) D σ H := s_aug n ho hx (go h c fun H1 e1 c1 => ⟨a, k, rfl, rfl, q H1 e1 c1⟩)
theorem ip_mul : PIp X .Mult (fun x y H Q => ∃ i j, x = .int i ∧ y = .int j ∧ (CMul i j ∨ CMulW i j) ∧ Q (.int (i * j)) H) := by
  intro pins s σ H x y v u Q I r1 r2 h
  obtain ⟨i, j, rfl, rfl, hc, q⟩ := h
  obtain ⟨t, rfl⟩ := r1
  obtain ⟨t', rfl⟩ := r2
  have ok : IntMulOk i j := hc.elim (fun h => h.ok) fun h => h.ok
  exact PyProof.Rows.imul_int ⟨.int _, H, I.tok _, ⟨_, rfl⟩, q⟩ ok
theorem s_mulI {a k : Int} (n : Own X i x) (c : Cfg B l H) (hx : σ[i]? = some (some (.int a))) (h : EV X e σ B l (.int k)) (hc : CMul a k ∨ CMulW a k) (q : ∀ H1, Ex H H1 → Cfg B l H1 → wSs X rest D (σ.set i (some (.int (a * k)))) H1) :
    wSs X (.AugAssign (.Name x pos') .Mult e pos :: rest) D σ H := s_aug n ip_mul hx (go h c fun H1 e1 c1 => ⟨a, k, rfl, rfl, hc, q H1 e1 c1⟩)
theorem ip_adds : PIp X .Add (fun x y H Q => ∃ i j, x = .str i ∧ y = .str j ∧ i.length + j.length ≤ sizeLine ∧ Q (.str (i ++ j)) H) := by
  intro pins s σ H x y v u Q I r1 r2 h
  exact iop_add_str pins s σ H x y v u Q I r1 r2 h
theorem s_addS {a k : Str} (n : Own X i x) (c : Cfg B l H) (hx : σ[i]? = some (some (.str a))) (h : EV X e σ B l (.str k)) (hc : a.length + k.length ≤ sizeLine) (q : ∀ H1, Ex H H1 → Cfg B l H1 → wSs X rest D (σ.set i (some (.str (a ++ k)))) H1) :
    wSs X (.AugAssign (.Name x pos') .Add e pos :: rest) D σ H := s_aug n ip_adds hx (go h c fun H1 e1 c1 => ⟨a, k, rfl, rfl, hc, q H1 e1 c1⟩)

/-! ### new objects -/
theorem n_lst {Q : VK} (c : Cfg B l H) (h : EA X es σ B l vs) (hz : vs.length ≤ 100000) (k : ∀ p H1, Ex H H1 → Cfg B ((p, .lst vs) :: l) H1 → Q (.ref p) H1) : wE X (.List es pos) σ H Q :=
  wE_of (pe_lst pA) (goA h c fun H1 e1 c1 => ⟨sz_of hz, fun p hp => k p _ (e1.trans (Ex.new hp)) (c1.add hp)⟩)
theorem n_tup {Q : VK} {k' : Nat} (c : Cfg B l H) (h : EA X es σ B l vs) (hz : vs.length ≤ 100000) (k : ∀ p H1, Ex H H1 → Cfg B ((p, .tup vs) :: l) H1 → Q (.ref p) H1) : wE X (.Tuple es k' pos) σ H Q :=
  wE_of (pe_tup pA) (goA h c fun H1 e1 c1 => ⟨sz_of hz, fun p hp => k p _ (e1.trans (Ex.new hp)) (c1.add hp)⟩)
theorem n_dict {Q : VK} (c : Cfg B l H) (k : ∀ p H1, Ex H H1 → Cfg B ((p, .dK []) :: l) H1 → Q (.ref p) H1) : wE X (.Dict [] [] pos) σ H Q :=
  wE_of pe_dnewK fun p hp => k p _ (Ex.new hp) (c.add hp)
/-- expressions in general: the parts first -/
theorem w_op {op : Operator} {r : R2} {Q : VK} (ho : OpR X (binaryOp op) r) (h : wE X e1 σ H fun a H1 => wE X e2 σ H1 fun b H2 => r a b H2 Q) : wE X (.BinOp e1 op e2 pos) σ H Q := wE_of (pe_op ho pE pE) h
theorem w_ix {r : R2} {Q : VK} (ho : IxR X r) (h : wE X e1 σ H fun a H1 => wE X e2 σ H1 fun b H2 => r a b H2 Q) (hs : PlainIx e2 := by exact fun _ _ => rfl) : wE X (.Subscript e1 e2 pos) σ H Q := wE_of (pe_ix ho pE pE hs) h
theorem w_acons {Q : List V → Hp → Prop} (h : wE X e σ H fun a H1 => wA X es σ H1 fun r H2 => Q (a :: r) H2) (hs : starEach (e :: es) X.env = (false, eval e X.env) :: starEach es X.env := by rfl) : wA X (e :: es) σ H Q := wA_of (pa_cons pE pA hs) h
theorem w_anil {Q : List V → Hp → Prop} (h : Q [] H) : wA X [] σ H Q := wA_of pa_nil h
theorem w_lst' {Q : VK} (h : wA X es σ H fun vs H1 => vs.length ≤ sizeLine ∧ ∀ p, H1 p = none → Q (.ref p) (upd H1 p (.lst vs))) : wE X (.List es pos) σ H Q := wE_of (pe_lst pA) h
theorem w_tup' {Q : VK} {k' : Nat} (h : wA X es σ H fun vs H1 => vs.length ≤ sizeLine ∧ ∀ p, H1 p = none → Q (.ref p) (upd H1 p (.tup vs))) : wE X (.Tuple es k' pos) σ H Q := wE_of (pe_tup pA) h
theorem w_callB {Q : VK} {id : String} {r : List V → Hp → VK → Prop} (hc : CallR X (.builtin id) r) (hg : Gl X x) (hm : X.mg x = none) (hv : bootBuiltins x = some (.builtin id)) (h : wA X (e :: es) σ H fun vs H1 => r vs H1 Q) {p' : Pos} (hn : x ≠ "__name__" := by decide) (hdb : (x == ("__debug__" : Str)) = false := by decide)
    (he : starEach (e :: es) X.env = (false, eval e X.env) :: starEach es X.env := by rfl) (hpl : (backTo pos (starEach es X.env)).any (·.1) = false := by rfl) : wE X (.Call (.Name x p') (e :: es) [] pos) σ H Q := wE_of (pe_callB hc hg hm hv pA hn hdb he hpl) h
theorem w_callTy {Q : VK} {T : String} {r : List V → Hp → VK → Prop} (hc : CallR X (.type T) r) (hg : Gl X x) (hm : X.mg x = none) (hv : bootBuiltins x = some (.type T)) (h : wA X (e :: es) σ H fun vs H1 => r vs H1 Q) {p' : Pos} (hn : x ≠ "__name__" := by decide) (hdb : (x == ("__debug__" : Str)) = false := by decide)
    (he : starEach (e :: es) X.env = (false, eval e X.env) :: starEach es X.env := by rfl) (hpl : (backTo pos (starEach es X.env)).any (·.1) = false := by rfl) : wE X (.Call (.Name x p') (e :: es) [] pos) σ H Q := wE_of (pe_callTy hc hg hm hv pA hn hdb he hpl) h

/-! ### stores -/
theorem s_setL {k : Expr} {q : Nat} (c : Cfg B l H) (hl : (p, HO.lst xs) ∈ l) (h : EV X e σ B l v) (ho : EV X o σ B l (.ref p)) (hi : EV X k σ B l (.int (q : Int))) (hq : q < xs.length) (hk : ∀ H1, Cfg B (put p (.lst (xs.set q v)) l) H1 → wSs X rest D σ H1)
    (hs : swapsWithSole [.Subscript o k pos'] e pos.line X.env = pure false := by rfl) (hw : swappedStores [.Subscript o k pos'] e X.env = pure none := by rfl) (h1 : (assignEach [.Subscript o k pos'] X.env).map (·.2) = [assign (.Subscript o k pos') X.env] := by rfl)
    (ha : ∀ v, assign (.Subscript o k pos') X.env v = (do
      let ov ← holding [v] (eval o X.env)
      let iv ← holding [v, ov] (eval k X.env)
      standAt pos'
      holding [v, ov, iv] (setItem ov iv v)
      release [v, ov, iv] []) := by intro _; rfl) : wSs X (.Assign [.Subscript o k pos'] e pos :: rest) D σ H :=
  s_of (ps_asg pE (pg_sub pE pE set_list ha) hs hw h1) (go h c fun H1 e1 c1 => go ho c1 fun H2 e2 c2 => go hi c2 fun H3 e3 c3 => ⟨p, xs, (q : Int), q, rfl, rfl, c3.own _ _ hl, ixN_nat hq, hk _ (c3.put hl)⟩)
theorem s_setD {k : Expr} {ky : Key} {kvs : List (Key × V)} (hu : X.A.units + 1 < cLine) (c : Cfg B l H) (hl : (p, HO.dK kvs) ∈ l) (h : EV X e σ B l v) (ho : EV X o σ B l (.ref p)) (hi : EV X k σ B l (kV ky)) (hz : kvs.length < 100000) (hk : ∀ H1, Cfg B (put p (.dK (putK kvs ky v)) l) H1 → wSs X rest D σ H1)
    (hs : swapsWith e (some (.Subscript o k pos')) pos.line X.env = pure false := by rfl) : wSs X (.Assign [.Subscript o k pos'] e pos :: rest) D σ H :=
  s_of (ps_dput hu pE pE pE hs) (go h c fun H1 e1 c1 => go ho c1 fun H2 e2 c2 => go hi c2 fun H3 e3 c3 => ⟨p, _, rfl, DPut.k (c3.own _ _ hl) (sz_lt hz), hk _ (c3.put hl)⟩)
/-! ### methods of built-in types -/
theorem w_bm {Q : VK} {S : String} {nm : Str} {id : String} {r : V → List V → Hp → VK → Prop} {ap : Pos} (pa : PlainAttrs S) (slot : PySem.Slot S nm id) (hty : typeOf (.builtin id) = pure (.type "method_descriptor")) (hm : MtR X id r)
    (h : wE X o σ H fun x H1 => tyV X.K S x H1 ∧ wA X (e :: es) σ H1 fun vs H2 => r x vs H2 Q) (hbase : attributeBase o nm X.env (eval o X.env) = eval o X.env := by rfl)
    (hfew : ((backTo pos (starEach (e :: es) X.env)).all (fun x => !x.1) && (backToKw pos (keywordEach [] X.env)).all (fun x => x.1.isSome)
      && decide ((e :: es).length + ([] : List Keyword).length + (if ([] : List Keyword).isEmpty then 0 else 1) < 30)) = true := by rfl)
    (hline : (ap.endLine == pos.line) = true := by rfl) (hs : starEach (e :: es) X.env = (false, eval e X.env) :: starEach es X.env := by rfl) (hplain : (backTo pos (starEach es X.env)).any (·.1) = false := by rfl) :
    wE X (.Call (.Attribute o nm ap) (e :: es) [] pos) σ H Q := wE_of (pe_bm pa slot hty hm pE pA hbase hfew hline hs hplain) h
theorem w_bm0 {Q : VK} {S : String} {nm : Str} {id : String} {r : V → List V → Hp → VK → Prop} {ap : Pos} (pa : PlainAttrs S) (slot : PySem.Slot S nm id) (hty : typeOf (.builtin id) = pure (.type "method_descriptor")) (hm : MtR X id r)
    (h : wE X o σ H fun x H1 => tyV X.K S x H1 ∧ r x [] H1 Q) (hbase : attributeBase o nm X.env (eval o X.env) = eval o X.env := by rfl) (hline : (ap.endLine == pos.line) = true := by rfl) :
    wE X (.Call (.Attribute o nm ap) [] [] pos) σ H Q := wE_of (pe_bm0 pa slot hty hm pE hbase hline) h
theorem tyV_l {H : Hp} (h : SqL X.K H p xs) : tyV X.K "list" (.ref p) H := Or.inl ⟨rfl, _, h⟩
/-- xs.append(e): e a value -/
theorem w_app {Q : VK} {ap : Pos} (c : Cfg B l H) (hl : (p, HO.lst xs) ∈ l) (ho : EV X o σ B l (.ref p)) (h : EV X e σ B l v) (hz : xs.length < 100000) (k : ∀ H1, Cfg B (put p (.lst (xs ++ [v])) l) H1 → Q .non H1)
    (hbase : attributeBase o ("append" : Str) X.env (eval o X.env) = eval o X.env := by rfl)
    (hfew : ((backTo pos (starEach [e] X.env)).all (fun x => !x.1) && (backToKw pos (keywordEach [] X.env)).all (fun x => x.1.isSome)
      && decide (([e] : List Expr).length + ([] : List Keyword).length + (if ([] : List Keyword).isEmpty then 0 else 1) < 30)) = true := by rfl)
    (hline : (ap.endLine == pos.line) = true := by rfl) (hs : starEach [e] X.env = (false, eval e X.env) :: starEach [] X.env := by rfl) (hplain : (backTo pos (starEach [] X.env)).any (·.1) = false := by rfl) :
    wE X (.Call (.Attribute o "append" ap) [e] [] pos) σ H Q :=
  w_bm PySem.F.plainAttrs_list PySem.F.slot_list_append PySem.F.type_list_append mt_append (go ho c fun H1 e1 c1 => ⟨tyV_l (SqL.of (c1.own _ _ hl)), w_acons (go h c1 fun H2 e2 c2 => w_anil ⟨p, xs, v, rfl, rfl, c2.own _ _ hl, sz_lt hz, k _ (c2.put hl)⟩) hs⟩) hbase hfew hline hs hplain
/-- xs.append(e), e anything: what e leaves is told by a row of owned ones that still has xs -/
theorem w_appW {Q : VK} {ap : Pos} (c : Cfg B l H) (hl : (p, HO.lst xs) ∈ l) (ho : EV X o σ B l (.ref p)) (h : ∀ H1, Ex H H1 → Cfg B l H1 → wE X e σ H1 fun y H2 => ∃ ys, H2 p = some (.lst ys) ∧ ys.length < 100000 ∧ Q .non (upd H2 p (.lst (ys ++ [y]))))
    (hbase : attributeBase o ("append" : Str) X.env (eval o X.env) = eval o X.env := by rfl)
    (hfew : ((backTo pos (starEach [e] X.env)).all (fun x => !x.1) && (backToKw pos (keywordEach [] X.env)).all (fun x => x.1.isSome)
      && decide (([e] : List Expr).length + ([] : List Keyword).length + (if ([] : List Keyword).isEmpty then 0 else 1) < 30)) = true := by rfl)
    (hline : (ap.endLine == pos.line) = true := by rfl) (hs : starEach [e] X.env = (false, eval e X.env) :: starEach [] X.env := by rfl) (hplain : (backTo pos (starEach [] X.env)).any (·.1) = false := by rfl) :
    wE X (.Call (.Attribute o "append" ap) [e] [] pos) σ H Q :=
  w_bm PySem.F.plainAttrs_list PySem.F.slot_list_append PySem.F.type_list_append mt_append (go ho c fun H1 e1 c1 => ⟨tyV_l (SqL.of (c1.own _ _ hl)), w_acons (wE_mono (h H1 e1 c1) fun y H2 ⟨ys, h1, h2, q⟩ => w_anil ⟨p, ys, y, rfl, rfl, h1, sz_lt h2, q⟩) hs⟩) hbase hfew hline hs hplain
where
  wE_mono {e : Expr} {σ : L2.St} {H : Hp} {Q Q' : VK} (h : wE X e σ H Q) (k : ∀ v H1, Q v H1 → Q' v H1) : wE X e σ H Q' := fun pins s I => thn (h pins s I) fun _ _ ⟨v, H1, I1, r, q⟩ => ⟨v, H1, I1, r, k v H1 q⟩
end
theorem wE_mono {X : Cx} {e : Expr} {σ : L2.St} {H : Hp} {Q Q' : VK} (h : wE X e σ H Q) (k : ∀ v H1, Q v H1 → Q' v H1) : wE X e σ H Q' := fun pins s I => thn (h pins s I) fun _ _ ⟨v, H1, I1, r, q⟩ => ⟨v, H1, I1, r, k v H1 q⟩

/-! ### loops -/
def wI (X : Cx) (tg it : Expr) : TI := fun σ H R => ∀ pins s, Inv X pins σ H s → wpAny (model X.prog X.w) X.A (eval it X.env) (fun v s1 => wpAny (model X.prog X.w) X.A (pyIter v) (PIE X pins σ tg R) X.xe s1) X.xe s
def wG (X : Cx) (tg : Expr) : TG := fun v σ H Q => ∀ pins s u, Inv X pins σ H s → RelV v u → wpAny (model X.prog X.w) X.A (assign tg X.env u) (fun _ s' => ∃ σ' H', Inv X pins σ' H' s' ∧ Q σ' H') X.xe s
section
variable {X : Cx} {tg it e c : Expr} {body rest : List Stmt} {D : Ends} {σ : L2.St} {H B : Hp} {l : List Ob} {pos : Pos} {i n : Nat} {x : Str} {p a : Addr} {xs ys : List V} {t : Str}
theorem pI : PI X tg it (wI X tg it) := ⟨fun pins s σ H R I h => h pins s I⟩
theorem pG : PG X tg (wG X tg) := ⟨fun pins s σ H v u Q I r h => h pins s u I r⟩
theorem wI_of {t : TI} (h : PI X tg it t) {σ H R} (q : t σ H R) : wI X tg it σ H R := fun pins s I => h.run pins s σ H R I q
theorem wG_of {t : TG} (h : PG X tg t) {v σ H Q} (q : t v σ H Q) : wG X tg v σ H Q := fun pins s u I r => h.run pins s σ H v u Q I r q
/-- any for: what is walked, by a Walk -/
theorem s_for {G : Hp → Prop} {Y : Nat → Hp → V → Hp → Prop} (hp : PassesOwn (model X.prog X.w) X.A X.env X.xe) (hc : X.calm = true) (hi : wI X tg it σ H fun J H1 => Walk J n G Y ∧ ∃ Pv : Nat → L2.St → Hp → Prop, Pv 0 σ H1 ∧ (∀ i σ' H', i ≤ n → Pv i σ' H' → G H') ∧
      (∀ i x σ' H' H2, i < n → Pv i σ' H' → Y i H' x H2 → wG X tg x σ' H2 fun σ3 H3 => wSs X body { D with nx := Pv (i + 1), ct := Pv (i + 1), bk := wSs X rest D } σ3 H3) ∧ ∀ σ' H', Pv n σ' H' → wSs X rest D σ' H')
    (hs : ∀ x, foldedSetIterable it X.env x = pure x := by intro _; rfl) : wSs X (.For tg it body [] pos :: rest) D σ H := by
  refine s_of (ps_for hp hc pI pG pSs hs) ?_
  refine fun pins s I => wpAny_mono (hi pins s I) (fun v s1 h1 => wpAny_mono h1 (fun u s2 h2 => ?_) fun _ _ z => z) fun _ _ z => z
  obtain ⟨it', fp, tn, J, H', e1, I2, T, st, f2, w, Pv, q0, q1, q2, q3⟩ := h2
  exact ⟨it', fp, tn, J, H', e1, I2, T, st, f2, for_it w Pv q0 q1 q2 q3⟩
theorem s_while (hp : PassesOwn (model X.prog X.w) X.A X.env X.xe) (W : Nat → L2.St → Hp → Prop) (m0 : Nat) (h0 : W m0 σ H)
    (hs : ∀ m σ' H', W m σ' H' → wT X c σ' H' fun b H1 => if b = true then wSs X body { D with nx := fun σ2 H2 => ∃ m', m' < m ∧ W m' σ2 H2, ct := fun σ2 H2 => ∃ m', m' < m ∧ W m' σ2 H2, bk := wSs X rest D } σ' H1 else wSs X rest D σ' H1) : wSs X (.While c body [] pos :: rest) D σ H := by
  refine s_of (ps_while hp pT pSs) ⟨W, ⟨m0, h0⟩, fun m σ' H' w => ?_⟩
  refine fun pins s I => wpAny_mono (hs m σ' H' w pins s I) (fun b s1 ⟨H1, I1, q⟩ => ⟨H1, I1, ?_⟩) fun _ _ z => z
  cases b with
  | true => exact ⟨_, fun _ _ z => z, q⟩
  | false => exact q
/-- targets -/
theorem g_name (n : Own X i x) {v : V} {Q : L2.St → Hp → Prop} (h : Q (σ.set i (some v)) H) : wG X (.Name x pos) v σ H Q := wG_of (pg_name n.nd n.s.n n.l (.inl n.f)) h
theorem g_tup2 {e1 e2 : Expr} {k : Nat} {v1 v2 : V} {Q : L2.St → Hp → Prop} (hc : X.calm = true) (ht : SqT X.K H a [v1, v2]) (h : wG X e1 v1 σ H fun σ1 H1 => wG X e2 v2 σ1 H1 Q)
    (hn : (assignEach [e1, e2] X.env).length = 2 := by rfl) (hst : (assignEach [e1, e2] X.env).findIdx? (·.1) = none := by rfl)
    (hs : (assignEach (e1 :: [e2]) X.env).map (·.2) = assign e1 X.env :: (assignEach [e2] X.env).map (·.2) := by rfl) (hs2 : (assignEach (e2 :: []) X.env).map (·.2) = assign e2 X.env :: (assignEach [] X.env).map (·.2) := by rfl) : wG X (.Tuple [e1, e2] k pos) (.ref a) σ H Q :=
  wG_of (pg_tup hc (pgs_cons pG (pgs_cons pG pgs_nil hs2) hs) hn hst) ⟨a, _, rfl, ht, rfl, v1, [v2], rfl, fun pins s u I r => wpAny_mono (h pins s u I r) (fun _ s1 ⟨σ1, H1, I1, q⟩ => ⟨σ1, H1, I1, v2, [], rfl, fun pins s u I r => wpAny_mono (q pins s u I r) (fun _ s1 ⟨σ1, H1, I1, q⟩ => ⟨σ1, H1, I1, rfl, q⟩) fun _ _ z => z⟩) fun _ _ z => z⟩
end
end QW
/-! QW3: enumerate and zip over lists, tuples and texts in any mix. -/
namespace QW
open PySem L2 Evl
open PyProof.Rows (Call_)

/-! ### enumerate(v) begins, v anything that begins -/
theorem enum1_new {v : Value} {o : Obj} {G : Heap → Prop} (bg : Begins v o G) :
    Meets (Builtin.«enumerate.__new__» ⟨[.type "enumerate", v], []⟩) (fun _ R s => G s.heap ∧
      R (.ok (.ret (.ref (s.heap.push o).objs.size))) { s with heap := (s.heap.push o).push { cls := .type "enumerate", data := .fields #[.none, .bool false, .ref s.heap.objs.size, rawInt 0, .none, .none] } }) :=
  .of_wp fun P w A R s z => by
    obtain ⟨hp, g, d, tk, os⟩ := s
    obtain ⟨z1, z⟩ := z
    have isub := sub_enumerate
    have itr : ∀ {A' : Around} {E : Value → Shared → Prop} {Q : Value → Shared → Prop}, Q (.ref hp.objs.size) ⟨hp.push o, g, d, tk, os⟩ → wpAny (model P w) A' (pyIter v) Q E ⟨hp, g, d, tk, os⟩ :=
      fun q => bg.iter P w _ _ ⟨hp, g, d, tk, os⟩ _ (bg.keeps _ _ z1 fun _ _ y => y) q
    wp_walk
    refine wpAny_stack_any fun st => wpAny_pure ?_
    split
    · rename_i c _ _ _ _ _
      cases (c == Value.type "enumerate") <;> (wp_walk using itr; exact ⟨_, rfl, z⟩)
    · wp_walk using itr
      exact ⟨_, rfl, z⟩
section
variable {P : Program} {w : World} {A : Around} {E : Value → Shared → Prop} {s : Shared}
theorem enum1_begins {v : Value} {o : Obj} {G : Heap → Prop} {Q : Value → Shared → Prop} (bg : Begins v o G) (g0 : G s.heap)
    (k : ∀ h', IsEnum h' (s.heap.objs.size + 1) s.heap.objs.size 0 .none → h'.get? s.heap.objs.size = some o → (∀ b u, s.heap.get? b = some u → h'.get? b = some u) → Q (.ref (s.heap.objs.size + 1)) { s with heap := h' }) :
    wpAny (model P w) A (call (.type "enumerate") [v]) Q E s := by
  refine callType_new F.called_enumerate (by decide) (F.typeCall_enumerate_1 _) (F.newCall_enumerate_1 _) (fun obj => F.args_object_init_2 obj _) F.entry_enumerate_new (enum1_new bg) ⟨g0, ?_⟩
  have sz : (s.heap.push o).objs.size = s.heap.objs.size + 1 := Heap.size_push ..
  show _ ∧ _
  rw [sz]
  have en := Heap.get?_push_size (s.heap.push o) (o := { cls := .type "enumerate", data := .fields #[.none, .bool false, .ref s.heap.objs.size, rawInt 0, .none, .none] }) rfl
  rw [sz] at en
  exact ⟨⟨_, en, rfl⟩, k _ en (Heap.get?_push_of_some _ (Heap.get?_push_size _ bg.free)) fun b u x => Heap.get?_push_of_some _ (Heap.get?_push_of_some _ x)⟩
end

/-! ### sources: a list, a tuple, a text -/
inductive Src where
  | l (a : Addr) (xs : List V) | t (a : Addr) (xs : List V) | s (z : Str)
def Src.items : Src → List V
  | .l _ xs => xs
  | .t _ xs => xs
  | .s z => z.cps.toList.map fun c => .str ⟨#[c]⟩
def Src.v : Src → V
  | .l a _ => .ref a
  | .t a _ => .ref a
  | .s z => .str z
def Src.Ok (K : PySem.W.Frag) (H : Hp) : Src → Prop
  | .l a xs => SqL K H a xs
  | .t a xs => SqT K H a xs
  | .s _ => True
/-- the iterator over it stands at i -/
def Src.At : Src → Addr → Nat → Heap → Prop
  | .l a _, it, i, h => h.IsListIter it a i
  | .t a _, it, i, h => h.IsTupleIter it a i
  | .s z, it, i, h => ∃ t, h.IsStrIter it (strIterType z) z t i
theorem Src.Ok.mono {K : PySem.W.Frag} {H H' : Hp} (e : Ex H H') : ∀ {S : Src}, S.Ok K H → S.Ok K H'
  | .l _ _, h => ex_l e h
  | .t _ _, h => ex_t e h
  | .s _, _ => trivial
theorem Src.At.keep {it : Addr} {i : Nat} {h h' : Heap} (k : ∀ o, h.get? it = some o → h'.get? it = some o) : ∀ {S : Src}, S.At it i h → S.At it i h'
  | .l _ _, x => x.at k
  | .t _ _, x => x.at k
  | .s _, ⟨tk, o, ho, r⟩ => ⟨tk, o, k o ho, r⟩
theorem Src.At.obj {it : Addr} {i : Nat} {h : Heap} : ∀ {S : Src}, S.At it i h → ∃ o, h.get? it = some o ∧ ∀ v, o.data ≠ .cell v
  | .l _ _, ⟨o, ho, _, d⟩ => ⟨o, ho, fun v z => by rw [d] at z; cases z⟩
  | .t _ _, ⟨o, ho, _, d⟩ => ⟨o, ho, fun v z => by rw [d] at z; cases z⟩
  | .s _, ⟨_, o, ho, _, d⟩ => ⟨o, ho, fun v z => by rw [d] at z; cases z⟩
/-- an iterator's own cells lie apart from what is read -/
theorem fp_ne {X : Cx} {pins : List (Addr × PySem.Obj)} {σ : L2.St} {H : Hp} {s : Shared} {b c : Addr} (I : Inv X pins σ H s) (hb : (∃ o, H b = some o) ∨ ∃ o, X.K.lookup b = some o) (hf : FpOk X pins H c) : c ≠ b := fun z => by
  subst z
  rcases hb with ⟨o, h⟩ | ⟨o, h⟩
  · rw [hf.1] at h; cases h
  · have q := I.ok.mod.kin _ _ h
    rcases hf.2.2.2.1 with m | m
    · exact I.ok.noex _ _ q m
    · exact absurd (Nat.lt_of_lt_of_le (Heap.lt_size (I.ok.bs _ _ q).1) m) (Nat.lt_irrefl _)
theorem sqL_at {K : PySem.W.Frag} {H : Hp} {a : Addr} {xs : List V} (h : SqL K H a xs) : (∃ o, H a = some o) ∨ ∃ o, K.lookup a = some o := by
  rcases h with (h | ⟨o, h⟩) | ⟨o, _, _, h, _⟩
  · exact Or.inl ⟨_, h⟩
  · exact Or.inl ⟨_, h⟩
  · exact Or.inr ⟨o, h⟩
theorem sqT_at {K : PySem.W.Frag} {H : Hp} {a : Addr} {xs : List V} (h : SqT K H a xs) : (∃ o, H a = some o) ∨ ∃ o, K.lookup a = some o := by
  rcases h with (h | ⟨o, h⟩) | ⟨o, _, _, h, _⟩
  · exact Or.inl ⟨_, h⟩
  · exact Or.inl ⟨_, h⟩
  · exact Or.inr ⟨o, h⟩
/-- what a source draws, at this state -/
structure Drs (X : Cx) (pins : List (Addr × PySem.Obj)) (H : Hp) (S : Src) (it : Addr) (s : Shared) (i : Nat) (fp : List Addr) (G : Nat → Value → Prop) (St : Nat → Heap → Prop) : Prop where
  d : ∀ A' : Around, A'.handled = none → Draws X.prog X.w A' it fp S.items.length G St
  st : St i s.heap
  of : ∀ j h, St j h → S.At it j h
  g : ∀ j u, G j u → ∃ v, S.items[j]? = some v ∧ RelV v u
  m : it ∈ fp
  fp : ∀ b ∈ fp, b = it ∨ ∀ c, FpOk X pins H c → c ≠ b
theorem src_draws {X : Cx} {pins : List (Addr × Obj)} {σ : L2.St} {H : Hp} {s : Shared} {it : Addr} {i : Nat} (I : Inv X pins σ H s) (hn : H it = none) : ∀ {S : Src}, S.Ok X.K H → S.At it i s.heap → ∃ fp G St, Drs X pins H S it s i fp G St
  | .l a xs, ok, at_ => by
    obtain ⟨its, rv, p, hz⟩ := I.list ok
    have ne : a ≠ it := fun e => by
      obtain ⟨o, ho, hc, hd⟩ := at_
      obtain ⟨o', n, ho', hc', _⟩ := p
      rw [e, ho] at ho'
      cases ho'
      exact absurd (Value.type.inj (hc.symm.trans hc')) (by decide)
    refine ⟨[it, a], (fun j u => its.toArray[j]? = some u), (fun j h => h.IsListIter it a j ∧ h.IsList a its.toArray), ⟨fun A' hh => ?_, ⟨at_, p.isList⟩, fun j h st => st.1, fun j u hu => ?_, by simp, fun b hb => ?_⟩⟩
    · have hl : (Src.l a xs).items.length = its.toArray.size := by show xs.length = _; rw [rv.length]; simp
      rw [hl]
      exact Draws.list hh it a ne its.toArray
    · obtain ⟨v, hv, r⟩ := vals_back rv (by simpa using hu)
      exact ⟨v, hv, r⟩
    · rcases List.mem_cons.mp hb with e | hb
      · exact Or.inl e
      · have e : b = a := by simpa using hb
        subst e
        exact Or.inr fun c hc => fp_ne I (sqL_at ok) hc
  | .t a xs, ok, at_ => by
    obtain ⟨its, rv, p, hz⟩ := I.tuple ok
    have ne : a ≠ it := fun e => by
      obtain ⟨o, ho, hc, hd⟩ := at_
      obtain ⟨o', ho', hc', _⟩ := p
      rw [e, ho] at ho'
      cases ho'
      exact absurd (Value.type.inj (hc.symm.trans hc')) (by decide)
    refine ⟨[it, a], (fun j u => its.toArray[j]? = some u), (fun j h => h.IsTupleIter it a j ∧ h.IsTuple a its.toArray), ⟨fun A' hh => ?_, ⟨at_, (show s.heap.IsTuple a its.toArray from p)⟩, fun j h st => st.1, fun j u hu => ?_, by simp, fun b hb => ?_⟩⟩
    · have hl : (Src.t a xs).items.length = its.toArray.size := by show xs.length = _; rw [rv.length]; simp
      rw [hl]
      exact Draws.tuple hh it a ne its.toArray
    · obtain ⟨v, hv, r⟩ := vals_back rv (by simpa using hu)
      exact ⟨v, hv, r⟩
    · rcases List.mem_cons.mp hb with e | hb
      · exact Or.inl e
      · have e : b = a := by simpa using hb
        subst e
        exact Or.inr fun c hc => fp_ne I (sqT_at ok) hc
  | .s z, ok, ⟨tk0, at_⟩ => by
    refine ⟨[it], (fun j u => ∃ c tk, z.cps[j]? = some c ∧ u = .str ⟨#[c]⟩ tk), (fun j h => h.IsStrIter it (strIterType z) z tk0 j), ⟨fun A' hh => ?_, at_, fun j h st => ⟨tk0, st⟩, fun j u hu => ?_, by simp, fun b hb => Or.inl (by simpa using hb)⟩⟩
    · have hl : (Src.s z).items.length = z.cps.size := by show (z.cps.toList.map _).length = _; simp
      rw [hl]
      exact Draws.text hh it z tk0
    · obtain ⟨c, tk, hc, e⟩ := hu
      subst e
      refine ⟨.str ⟨#[c]⟩, ?_, ⟨tk, rfl⟩⟩
      show (z.cps.toList.map _)[j]? = _
      rw [List.getElem?_map, Array.getElem?_toList, hc]
      rfl
where
  vals_back : ∀ {xs : List V} {us : List Value} {j : Nat} {u : Value}, Vals xs us → us[j]? = some u → ∃ v, xs[j]? = some v ∧ RelV v u
    | _, _, _, _, .nil, e => by simp at e
    | _, _, 0, _, .cons r _, e => by simp at e; subst e; exact ⟨_, rfl, r⟩
    | _, _, j + 1, _, .cons _ t, e => by
      obtain ⟨v, h1, h2⟩ := vals_back (j := j) t (by simpa using e)
      exact ⟨v, by simpa using h1, h2⟩

/-! ### a walk of new tuples, by GoesN -/
/-- at turn i a new tuple of row i -/
def ItN (G : Hp → Prop) (n : Nat) (row : Nat → List V → Prop) : It :=
  ⟨fun i H => G H ∧ i < n, fun i H v H' => ∃ T xs, v = .ref T ∧ H T = none ∧ H' = upd H T (.tup xs) ∧ row i xs, fun i H => G H ∧ i = n⟩
theorem walk_N {G : Hp → Prop} {n : Nat} {row : Nat → List V → Prop} : Walk (ItN G n row) n G (fun i H v H' => ∃ T xs, v = .ref T ∧ H T = none ∧ H' = upd H T (.tup xs) ∧ row i xs) :=
  ⟨fun _ _ hi g => ⟨g, hi⟩, fun _ g => ⟨g, rfl⟩, fun _ _ _ _ _ _ y => y⟩
theorem turn_N {P : Program} {w : World} {K : PySem.W.Frag} {tg : Expr} {I : Addr} {fp wr : List Addr} {n : Nat} {G : Hp → Prop} {row : Nat → List V → Prop} {tn : Nat → Heap → Prop} (mem : I ∈ fp) (hwr : ∀ b ∈ wr, b ∈ fp)
    (obj : ∀ i h, tn i h → ∀ b ∈ fp, ∃ o, h.get? b = some o ∧ ∀ v, o.data ≠ .cell v) (keep : ∀ i h h', tn i h → (∀ b ∈ fp, ∀ o, h.get? b = some o → h'.get? b = some o) → tn i h')
    (go : ∀ (X : Cx), X.prog = P → X.w = w → X.K = K → X.calm = true → ∀ i pins s σ H, Inv X pins σ H s → (∀ b ∈ fp, FpOk X pins H b) → tn i s.heap → G H →
      ∃ fp' Y St, GoesN P w X.A tg I fp' wr n Y St ∧ St i s.heap ∧ (∀ j h, St j h → tn j h) ∧ ∀ h₀ v h, h₀ = s.heap → Y i h₀ v h → ∃ T us xs, v = .ref T ∧ h₀.objs.size ≤ T ∧ h.IsTuple T us ∧ Vals xs us.toList ∧ row i xs ∧ xs.length ≤ sizeLine)
    (self : ∀ (A : Around) i (s : Shared) (Q : Value → Shared → Prop) (E : Value → Shared → Prop), tn i s.heap → Q (.ref I) s → wpAny (model P w) A (pyIter (.ref I)) Q E s) : Turn P w K tg (ItN G n row) fp I tn where
  mem := mem
  obj := obj
  keep := keep
  item := by
    intro X hP hw hK hc i pins s σ H E J hf st hg
    obtain ⟨fp', Y, St, W, s0, of, hy⟩ := go X hP hw hK hc i pins s σ H J hf st hg.1
    refine wpAny_mono (W.goes i s (fun v s2 => ∃ x H', Inv X pins σ H' s2 ∧ RelV x v ∧ (ItN G n row).yld i H x H' ∧ tn (i + 1) s2.heap ∧ ∀ b ∈ fp, H' b = none) E hg.2 s0 fun v h' tk y st' k _ => ?_) (fun r s1 ⟨u, hr, hu⟩ => ⟨u, hr, hu⟩) fun _ _ z => z
    obtain ⟨T, us, xs, rfl, hT, tT, rv, rw_, hz⟩ := hy _ _ _ rfl y
    have new : ObjOk X.prog X.w (upd H T (.tup xs)) h' T (.tup xs) := ⟨hz, us.toList, rv, by rw [Array.toArray_toList]; exact tT⟩
    have J' : Inv X pins σ (upd H T (.tup xs)) { s with heap := h', toks := tk } := J.turnedNew (t' := tk) (ch := fp) (fun b o hb q => k b o (fun m => hb (hwr b m)) q) hf hT new
    refine ⟨.ref T, _, J', rfl, ⟨T, xs, rfl, J.hok.fresh hT, rfl, rw_⟩, of _ _ st', fun b hb => ?_⟩
    obtain ⟨o, ho, _⟩ := obj i _ st b hb
    rw [upd_ne (Nat.ne_of_lt (Nat.lt_of_lt_of_le (Heap.lt_size ho) hT))]
    exact (hf b hb).1
  done := by
    intro X hP hw hK hc i pins s σ H E J hf st hg
    obtain ⟨hG, rfl⟩ := hg
    obtain ⟨fp', Y, St, W, s0, of, hy⟩ := go X hP hw hK hc _ pins s σ H J hf st hG
    exact W.stops s _ E s0 fun h' tk k _ => J.turnedL (t' := tk) (ch := fp) (fun b o hb q => k b o (fun m => hb (hwr b m)) q) hf
  self := self

abbrev rowE (S : Src) (i : Nat) (xs : List V) : Prop := ∃ x, S.items[i]? = some x ∧ xs = [.int (i : Int), x]
theorem turn_enumS {P : Program} {w : World} {K : PySem.W.Frag} {elts : List Expr} {kk : Nat} {tpos : Pos} {S : Src} {e it : Addr} (ne : e ≠ it) :
    Turn P w K (.Tuple elts kk tpos) (ItN (S.Ok K) S.items.length (rowE S)) [e, it] e (fun i h => (∃ old, IsEnum h e it (0 + (i : Int)) old) ∧ S.At it i h) := by
  refine turn_N (wr := [e, it]) (by simp) (fun b hb => hb) (fun i h st b hb => ?_) (fun i h h' st k => ?_) (fun X hP hw hK hc i pins s σ H J hf st g => ?_) (fun A i s Q E st h => let ⟨⟨_, x⟩, _⟩ := st; wpAny_pyIter_enum x h)
  · obtain ⟨⟨old, x⟩, y⟩ := st
    rcases List.mem_cons.mp hb with z | hb
    · rw [z]; exact ⟨_, x, fun v q => nomatch q⟩
    · have z : b = it := by simpa using hb
      rw [z]; exact y.obj
  · obtain ⟨⟨old, x⟩, y⟩ := st
    exact ⟨⟨old, k e (by simp) _ x⟩, y.keep fun o q => k it (by simp) o q⟩
  · subst hP hw hK
    obtain ⟨fp, G, St, D⟩ := src_draws J (hf it (by simp)).1 g st.2
    have hh : X.A.in1.handled = none := J.ok.hd hc
    obtain ⟨⟨old, x⟩, y⟩ := id st
    refine ⟨_, _, _, GoesN.enumFrom 0 (D.d X.A.in1 hh) e ne (fun m => ?_) D.m, ⟨st.1, D.st⟩, fun j h q => ⟨q.1, D.of j h q.2⟩, fun h₀ v h _ q => ?_⟩
    · rcases D.fp e m with z | z
      · exact ne z
      · exact z e (hf e (by simp)) rfl
    · obtain ⟨T, t, u, ev, hT, hu, tT⟩ := q
      obtain ⟨v', hv, r⟩ := D.g i u hu
      refine ⟨T, _, [.int (i : Int), v'], ev, hT, tT, .cons ⟨t, by rw [Int.zero_add]⟩ (.cons r .nil), ⟨v', hv, rfl⟩, by show 2 ≤ sizeLine; decide⟩
section
variable {X : Cx} {e e1 e2 e3 : Expr} {elts : List Expr} {kk : Nat} {p' pos tpos : Pos} {ta : TA} {σ : L2.St} {H B : Hp} {l : List Ob} {S S1 S2 S3 : Src}
/-- how it begins, for each kind -/
theorem src_begins {pins : List (Addr × PySem.Obj)} {s : Shared} {u : Value} (I : Inv X pins σ H s) : ∀ {S : Src}, S.Ok X.K H → RelV S.v u → ∃ o G, Begins u o G ∧ G s.heap ∧ (∀ h' it, h'.get? it = some o → S.At it 0 h')
  | .l a xs, ok, r => by
    obtain ⟨its, rv, p, hz⟩ := I.list ok
    cases (show u = .ref a from r)
    exact ⟨_, _, begins_list a its.toArray, p.isList, fun h' it q => ⟨_, q, rfl, rfl⟩⟩
  | .t a xs, ok, r => by
    obtain ⟨its, rv, p, hz⟩ := I.tuple ok
    cases (show u = .ref a from r)
    exact ⟨_, _, begins_tuple a its.toArray, (show s.heap.IsTuple a its.toArray from p), fun h' it q => ⟨_, q, rfl, rfl⟩⟩
  | .s z, ok, r => by
    obtain ⟨t, rfl⟩ := (show ∃ t, u = .str z t from r)
    exact ⟨_, _, begins_text z t, trivial, fun h' it q => ⟨t, _, q, rfl, rfl⟩⟩
theorem pi_enumS (hg : Gl X "enumerate") (hm : X.mg "enumerate" = none) (ha : PA X [e] ta) (hs : starEach [e] X.env = [(false, eval e X.env)] := by rfl) :
    PI X (.Tuple elts kk tpos) (.Call (.Name "enumerate" p') [e] [] pos) (fun σ H R => ta σ H fun vs H1 => ∃ S : Src, vs = [S.v] ∧ S.Ok X.K H1 ∧ R (ItN (S.Ok X.K) S.items.length (rowE S)) H1) := by
  refine ⟨fun pins s σ H R I h => Call_ (ld_blt I hg hm PyProof.Rows.boot_enumerate (PyProof.Rows.callWith_type1 (thn (ha.run pos pins s σ H _ I h) fun us s1 ⟨vs, H1, I1, r1, q1⟩ => ?_) hs rfl))⟩
  obtain ⟨S, rfl, ok, q⟩ := q1
  cases r1 with
  | cons r rr =>
    cases rr
    obtain ⟨o, G, bg, g0, at0⟩ := src_begins I1 ok r
    refine enum1_begins bg g0 fun h' he hit k => wpAny_pyIter_enum he ?_
    have I2 : Inv X pins σ H1 { s1 with heap := h' } := I1.kept (t' := s1.toks) k
    refine ⟨s1.heap.objs.size + 1, [s1.heap.objs.size + 1, s1.heap.objs.size], _, _, H1, rfl, I2, turn_enumS (S := S) (Nat.succ_ne_self _), ⟨⟨.none, ?_⟩, at0 _ _ hit⟩, fun b hb => ?_, q⟩
    · show IsEnum h' (s1.heap.objs.size + 1) s1.heap.objs.size (0 + ((0 : Nat) : Int)) .none
      exact he
    · have hle : s1.heap.objs.size ≤ b := by
        rcases List.mem_cons.mp hb with z | hb
        · rw [z]; exact Nat.le_succ _
        · have z : b = s1.heap.objs.size := by simpa using hb
          rw [z]; exact Nat.le_refl _
      exact I1.fpOk hle (I1.hok.fresh hle)
end
/-! ### zip -/
abbrev rowZ (S1 S2 : Src) (i : Nat) (xs : List V) : Prop := ∃ x y, S1.items[i]? = some x ∧ S2.items[i]? = some y ∧ xs = [x, y]
abbrev rowZ3 (S1 S2 S3 : Src) (i : Nat) (xs : List V) : Prop := ∃ x y z, S1.items[i]? = some x ∧ S2.items[i]? = some y ∧ S3.items[i]? = some z ∧ xs = [x, y, z]
theorem drs_no {X : Cx} {pins : List (Addr × PySem.Obj)} {H : Hp} {S : Src} {it : Addr} {s : Shared} {i : Nat} {fp : List Addr} {G : Nat → Value → Prop} {St : Nat → Heap → Prop} (D : Drs X pins H S it s i fp G St) {c : Addr} (hc : FpOk X pins H c) (ne : c ≠ it) : c ∉ fp := fun m =>
  (D.fp c m).elim ne fun z => z c hc rfl
theorem turn_zip2S {P : Program} {w : World} {K : PySem.W.Frag} {elts : List Expr} {kk : Nat} {tpos : Pos} {S1 S2 : Src} {z TI TO i1 i2 : Addr} (n1 : TI ≠ z) (n2 : TO ≠ z) (n3 : TI ≠ TO) (n4 : TI ≠ i1) (n5 : TI ≠ i2) (n6 : z ≠ i1) (n7 : z ≠ i2) (n8 : TO ≠ i1) (n9 : TO ≠ i2) (n10 : i1 ≠ i2) :
    Turn P w K (.Tuple elts kk tpos) (ItN (fun H => S1.Ok K H ∧ S2.Ok K H) (min S1.items.length S2.items.length) (rowZ S1 S2)) [z, TI, TO, i1, i2] z
      (fun i h => IsZip h z TI TO .none ∧ IsTupOf2 h TI (.ref i1) (.ref i2) ∧ (∃ a1 a2, IsTupOf2 h TO a1 a2) ∧ S1.At i1 i h ∧ S2.At i2 i h) := by
  refine turn_N (wr := [z, TO, i1, i2]) (by simp) (fun b hb => by simp at hb ⊢; rcases hb with h | h | h | h <;> simp [h]) (fun i h st b hb => ?_) (fun i h h' st k => ?_) (fun X hP hw hK hc i pins s σ H J hf st g => ?_) (fun A i s Q E st h => wpAny_pyIter_zip st.1 h)
  · obtain ⟨a, b', ⟨_, _, c⟩, d, e⟩ := st
    have e' : b = z ∨ b = TI ∨ b = TO ∨ b = i1 ∨ b = i2 := by simpa using hb
    rcases e' with q | q | q | q | q
    · rw [q]; exact ⟨_, a, fun v q => nomatch q⟩
    · rw [q]; exact ⟨_, b', fun v q => nomatch q⟩
    · rw [q]; exact ⟨_, c, fun v q => nomatch q⟩
    · rw [q]; exact d.obj
    · rw [q]; exact e.obj
  · obtain ⟨a, b', ⟨_, _, c⟩, d, e⟩ := st
    exact ⟨k z (by simp) _ a, k TI (by simp) _ b', ⟨_, _, k TO (by simp) _ c⟩, d.keep fun o q => k i1 (by simp) o q, e.keep fun o q => k i2 (by simp) o q⟩
  · subst hP hw hK
    have hh : X.A.in1.handled = none := J.ok.hd hc
    obtain ⟨a, b', c, d, e⟩ := id st
    obtain ⟨fp1, G1, St1, D1⟩ := src_draws J (hf i1 (by simp)).1 g.1 d
    obtain ⟨fp2, G2, St2, D2⟩ := src_draws J (hf i2 (by simp)).1 g.2 e
    have sep : ZipSep2 z TI TO i1 i2 fp1 fp2 :=
      { TIz := n1, TOz := n2, TITO := n3, TIi1 := n4, mem1 := D1.m, zf1 := drs_no D1 (hf z (by simp)) n6, Tf1 := drs_no D1 (hf TO (by simp)) n8, TIi2 := n5, mem2 := D2.m, zf2 := drs_no D2 (hf z (by simp)) n7, Tf2 := drs_no D2 (hf TO (by simp)) n9,
        sep1_2 := drs_no D2 (hf i1 (by simp)) n10, sep2_1 := drs_no D1 (hf i2 (by simp)) (Ne.symm n10) }
    refine ⟨_, _, _, GoesN.zip2 sep (D1.d X.A.in1 hh) (D2.d X.A.in1 hh), ⟨a, b', c, D1.st, D2.st⟩, fun j h q => ⟨q.1, q.2.1, q.2.2.1, D1.of j h q.2.2.2.1, D2.of j h q.2.2.2.2⟩, fun h₀ v h _ q => ?_⟩
    obtain ⟨T, x, y, ev, hT, hx, hy, tT⟩ := q
    obtain ⟨x', hx', rx⟩ := D1.g i x hx
    obtain ⟨y', hy', ry⟩ := D2.g i y hy
    exact ⟨T, _, [x', y'], ev, hT, tT, .cons rx (.cons ry .nil), ⟨x', y', hx', hy', rfl⟩, by show 2 ≤ sizeLine; decide⟩
theorem turn_zip3S {P : Program} {w : World} {K : PySem.W.Frag} {elts : List Expr} {kk : Nat} {tpos : Pos} {S1 S2 S3 : Src} {z TI TO i1 i2 i3 : Addr} (n1 : TI ≠ z) (n2 : TO ≠ z) (n3 : TI ≠ TO) (n4 : TI ≠ i1) (n5 : TI ≠ i2) (m4 : TI ≠ i3) (n6 : z ≠ i1) (n7 : z ≠ i2) (m7 : z ≠ i3) (n8 : TO ≠ i1) (n9 : TO ≠ i2) (m9 : TO ≠ i3)
    (n10 : i1 ≠ i2) (m1 : i1 ≠ i3) (m2 : i2 ≠ i3) :
    Turn P w K (.Tuple elts kk tpos) (ItN (fun H => S1.Ok K H ∧ S2.Ok K H ∧ S3.Ok K H) (min (min S1.items.length S2.items.length) S3.items.length) (rowZ3 S1 S2 S3)) [z, TI, TO, i1, i2, i3] z
      (fun i h => IsZip h z TI TO .none ∧ IsTupOf3 h TI (.ref i1) (.ref i2) (.ref i3) ∧ (∃ a1 a2 a3, IsTupOf3 h TO a1 a2 a3) ∧ S1.At i1 i h ∧ S2.At i2 i h ∧ S3.At i3 i h) := by
  refine turn_N (wr := [z, TO, i1, i2, i3]) (by simp) (fun b hb => by simp at hb ⊢; rcases hb with h | h | h | h | h <;> simp [h]) (fun i h st b hb => ?_) (fun i h h' st k => ?_) (fun X hP hw hK hc i pins s σ H J hf st g => ?_) (fun A i s Q E st h => wpAny_pyIter_zip st.1 h)
  · obtain ⟨a, b', ⟨_, _, _, c⟩, d, e, f⟩ := st
    have e' : b = z ∨ b = TI ∨ b = TO ∨ b = i1 ∨ b = i2 ∨ b = i3 := by simpa using hb
    rcases e' with q | q | q | q | q | q
    · rw [q]; exact ⟨_, a, fun v q => nomatch q⟩
    · rw [q]; exact ⟨_, b', fun v q => nomatch q⟩
    · rw [q]; exact ⟨_, c, fun v q => nomatch q⟩
    · rw [q]; exact d.obj
    · rw [q]; exact e.obj
    · rw [q]; exact f.obj
  · obtain ⟨a, b', ⟨_, _, _, c⟩, d, e, f⟩ := st
    exact ⟨k z (by simp) _ a, k TI (by simp) _ b', ⟨_, _, _, k TO (by simp) _ c⟩, d.keep fun o q => k i1 (by simp) o q, e.keep fun o q => k i2 (by simp) o q, f.keep fun o q => k i3 (by simp) o q⟩
  · subst hP hw hK
    have hh : X.A.in1.handled = none := J.ok.hd hc
    obtain ⟨a, b', c, d, e, f⟩ := id st
    obtain ⟨fp1, G1, St1, D1⟩ := src_draws J (hf i1 (by simp)).1 g.1 d
    obtain ⟨fp2, G2, St2, D2⟩ := src_draws J (hf i2 (by simp)).1 g.2.1 e
    obtain ⟨fp3, G3, St3, D3⟩ := src_draws J (hf i3 (by simp)).1 g.2.2 f
    have sep : ZipSep3 z TI TO i1 i2 i3 fp1 fp2 fp3 :=
      { TIz := n1, TOz := n2, TITO := n3, TIi1 := n4, mem1 := D1.m, zf1 := drs_no D1 (hf z (by simp)) n6, Tf1 := drs_no D1 (hf TO (by simp)) n8, TIi2 := n5, mem2 := D2.m, zf2 := drs_no D2 (hf z (by simp)) n7, Tf2 := drs_no D2 (hf TO (by simp)) n9,
        TIi3 := m4, mem3 := D3.m, zf3 := drs_no D3 (hf z (by simp)) m7, Tf3 := drs_no D3 (hf TO (by simp)) m9,
        sep1_2 := drs_no D2 (hf i1 (by simp)) n10, sep2_1 := drs_no D1 (hf i2 (by simp)) (Ne.symm n10), sep1_3 := drs_no D3 (hf i1 (by simp)) m1, sep3_1 := drs_no D1 (hf i3 (by simp)) (Ne.symm m1), sep2_3 := drs_no D3 (hf i2 (by simp)) m2, sep3_2 := drs_no D2 (hf i3 (by simp)) (Ne.symm m2) }
    refine ⟨_, _, _, GoesN.zip3 sep (D1.d X.A.in1 hh) (D2.d X.A.in1 hh) (D3.d X.A.in1 hh), ⟨a, b', c, D1.st, D2.st, D3.st⟩, fun j h q => ⟨q.1, q.2.1, q.2.2.1, D1.of j h q.2.2.2.1, D2.of j h q.2.2.2.2.1, D3.of j h q.2.2.2.2.2⟩, fun h₀ v h _ q => ?_⟩
    obtain ⟨T, x, y, u, ev, hT, hx, hy, hu, tT⟩ := q
    obtain ⟨x', hx', rx⟩ := D1.g i x hx
    obtain ⟨y', hy', ry⟩ := D2.g i y hy
    obtain ⟨u', hu', ru⟩ := D3.g i u hu
    exact ⟨T, _, [x', y', u'], ev, hT, tT, .cons rx (.cons ry (.cons ru .nil)), ⟨x', y', u', hx', hy', hu', rfl⟩, by show 3 ≤ sizeLine; decide⟩
section
variable {X : Cx} {e e1 e2 e3 : Expr} {elts : List Expr} {kk : Nat} {p' pos tpos : Pos} {ta : TA} {σ : L2.St} {H B : Hp} {l : List Ob} {S S1 S2 S3 : Src}
theorem pi_zip2S (hg : Gl X "zip") (hm : X.mg "zip" = none) (ha : PA X [e1, e2] ta) (hs : starEach [e1, e2] X.env = (false, eval e1 X.env) :: starEach [e2] X.env := by rfl) (hpl : (backTo pos (starEach [e2] X.env)).any (·.1) = false := by rfl) :
    PI X (.Tuple elts kk tpos) (.Call (.Name "zip" p') [e1, e2] [] pos) (fun σ H R => ta σ H fun vs H1 => ∃ S1 S2 : Src, vs = [S1.v, S2.v] ∧ S1.Ok X.K H1 ∧ S2.Ok X.K H1 ∧ R (ItN (fun H => S1.Ok X.K H ∧ S2.Ok X.K H) (min S1.items.length S2.items.length) (rowZ S1 S2)) H1) := by
  refine ⟨fun pins s σ H R I h => Call_ (ld_blt I hg hm PyProof.Rows.boot_zip (PyProof.Rows.callWith_type1 (thn (ha.run pos pins s σ H _ I h) fun us s1 ⟨vs, H1, I1, r1, q1⟩ => ?_) hs hpl))⟩
  obtain ⟨S1, S2, rfl, ok1, ok2, q⟩ := q1
  obtain ⟨u1, u2, rfl, r1, r2⟩ := vals2 r1
  obtain ⟨o1, G1, bg1, g1, at1⟩ := src_begins I1 ok1 r1
  obtain ⟨o2, G2, bg2, g2, at2⟩ := src_begins I1 ok2 r2
  refine zip_begins2 bg1 bg2 g1 g2 fun h' hz hTI hTO h1 h2 _ k => wpAny_pyIter_zip hz ?_
  have I2 : Inv X pins σ H1 { s1 with heap := h' } := I1.kept (t' := s1.toks) k
  generalize hN : s1.heap.objs.size = N at *
  refine ⟨N + 4, [N + 4, N + 2, N + 3, N, N + 1], _, _, H1, rfl, I2, turn_zip2S (S1 := S1) (S2 := S2) (z := N + 4) (TI := N + 2) (TO := N + 3) (i1 := N) (i2 := N + 1) ?_ ?_ ?_ ?_ ?_ ?_ ?_ ?_ ?_ ?_, ⟨hz, hTI, ⟨_, _, hTO⟩, at1 _ _ h1, at2 _ _ h2⟩, fun b hb => ?_, q⟩
  all_goals first
    | (show (_ : Nat) ≠ _; omega)
    | skip
  have hle : s1.heap.objs.size ≤ b := by
    rw [hN]
    have e' : b = N + 4 ∨ b = N + 2 ∨ b = N + 3 ∨ b = N ∨ b = N + 1 := by simpa using hb
    show (N : Nat) ≤ b
    rcases e' with z | z | z | z | z <;> (rw [z]; first | exact Nat.le_refl _ | exact Nat.le_add_right _ _)
  exact I1.fpOk hle (I1.hok.fresh hle)
theorem pi_zip3S (hg : Gl X "zip") (hm : X.mg "zip" = none) (ha : PA X [e1, e2, e3] ta) (hs : starEach [e1, e2, e3] X.env = (false, eval e1 X.env) :: starEach [e2, e3] X.env := by rfl) (hpl : (backTo pos (starEach [e2, e3] X.env)).any (·.1) = false := by rfl) :
    PI X (.Tuple elts kk tpos) (.Call (.Name "zip" p') [e1, e2, e3] [] pos) (fun σ H R => ta σ H fun vs H1 => ∃ S1 S2 S3 : Src, vs = [S1.v, S2.v, S3.v] ∧ S1.Ok X.K H1 ∧ S2.Ok X.K H1 ∧ S3.Ok X.K H1 ∧
      R (ItN (fun H => S1.Ok X.K H ∧ S2.Ok X.K H ∧ S3.Ok X.K H) (min (min S1.items.length S2.items.length) S3.items.length) (rowZ3 S1 S2 S3)) H1) := by
  refine ⟨fun pins s σ H R I h => Call_ (ld_blt I hg hm PyProof.Rows.boot_zip (PyProof.Rows.callWith_type1 (thn (ha.run pos pins s σ H _ I h) fun us s1 ⟨vs, H1, I1, r1, q1⟩ => ?_) hs hpl))⟩
  obtain ⟨S1, S2, S3, rfl, ok1, ok2, ok3, q⟩ := q1
  cases r1 with
  | cons r1 rr =>
  cases rr with
  | cons r2 rr =>
  cases rr with
  | cons r3 rr =>
  cases rr
  obtain ⟨o1, G1, bg1, g1, at1⟩ := src_begins I1 ok1 r1
  obtain ⟨o2, G2, bg2, g2, at2⟩ := src_begins I1 ok2 r2
  obtain ⟨o3, G3, bg3, g3, at3⟩ := src_begins I1 ok3 r3
  refine zip_begins3 bg1 bg2 bg3 g1 g2 g3 fun h' hz hTI hTO h1 h2 h3 _ k => wpAny_pyIter_zip hz ?_
  have I2 : Inv X pins σ H1 { s1 with heap := h' } := I1.kept (t' := s1.toks) k
  generalize hN : s1.heap.objs.size = N at *
  refine ⟨N + 5, [N + 5, N + 3, N + 4, N, N + 1, N + 2], _, _, H1, rfl, I2, turn_zip3S (S1 := S1) (S2 := S2) (S3 := S3) (z := N + 5) (TI := N + 3) (TO := N + 4) (i1 := N) (i2 := N + 1) (i3 := N + 2) ?_ ?_ ?_ ?_ ?_ ?_ ?_ ?_ ?_ ?_ ?_ ?_ ?_ ?_ ?_, ⟨hz, hTI, ⟨_, _, _, hTO⟩, at1 _ _ h1, at2 _ _ h2, at3 _ _ h3⟩, fun b hb => ?_, q⟩
  all_goals first
    | (show (_ : Nat) ≠ _; omega)
    | skip
  have hle : s1.heap.objs.size ≤ b := by
    rw [hN]
    have e' : b = N + 5 ∨ b = N + 3 ∨ b = N + 4 ∨ b = N ∨ b = N + 1 ∨ b = N + 2 := by simpa using hb
    show (N : Nat) ≤ b
    rcases e' with z | z | z | z | z | z <;> (rw [z]; first | exact Nat.le_refl _ | exact Nat.le_add_right _ _)
  exact I1.fpOk hle (I1.hok.fresh hle)
end
end QW
/-! QW4: what is walked, comprehensions, defs, calls, built-ins. -/
namespace QW
open PySem L2 Evl

/-! ### what a for or a comprehension walks -/
section
variable {X : Cx} {tg e e1 e2 e3 : Expr} {σ : L2.St} {H B : Hp} {l : List Ob} {R : It → Hp → Prop} {p pos p' tpos : Pos} {a : Addr} {xs : List V} {i j : Int} {z : Str} {elts : List Expr} {kk : Nat}
theorem i_list (c : Cfg B l H) (h : EV X e σ B l (.ref a)) (hl : Lst X.K B l a xs) (k : ∀ H1, Ex H H1 → Cfg B l H1 → R (Itl X.K a) H1) : wI X tg e σ H R :=
  wI_of (pi_list pE) (go h c fun H1 e1 c1 => ⟨a, rfl, ⟨xs, hl H1 c1⟩, k H1 e1 c1⟩)
theorem i_tup (c : Cfg B l H) (h : EV X e σ B l (.ref a)) (hl : Tup X.K B l a xs) (k : ∀ H1, Ex H H1 → Cfg B l H1 → R (Itt X.K a) H1) : wI X tg e σ H R :=
  wI_of (pi_tup pE) (go h c fun H1 e1 c1 => ⟨a, rfl, ⟨xs, hl H1 c1⟩, k H1 e1 c1⟩)
theorem i_str (c : Cfg B l H) (h : EV X e σ B l (.str z)) (k : ∀ H1, Ex H H1 → Cfg B l H1 → R (Its z) H1) : wI X tg e σ H R :=
  wI_of (pi_str pE) (go h c fun H1 e1 c1 => ⟨z, rfl, k H1 e1 c1⟩)
/-- a list just made -/
theorem i_newL (h : wE X e σ H fun v H1 => ∃ a xs, v = .ref a ∧ SqL X.K H1 a xs ∧ R (Itl X.K a) H1) : wI X tg e σ H R :=
  wI_of (pi_list pE) (wE_mono h fun v H1 ⟨a, xs, ev, hs, r⟩ => ⟨a, ev, ⟨xs, hs⟩, r⟩)
theorem i_newT (h : wE X e σ H fun v H1 => ∃ a xs, v = .ref a ∧ SqT X.K H1 a xs ∧ R (Itt X.K a) H1) : wI X tg e σ H R :=
  wI_of (pi_tup pE) (wE_mono h fun v H1 ⟨a, xs, ev, hs, r⟩ => ⟨a, ev, ⟨xs, hs⟩, r⟩)
theorem i_range1 (hg : Gl X "range") (hm : X.mg "range" = none) (c : Cfg B l H) (h : EV X e σ B l (.int j)) (hj : -(2 ^ 62) ≤ j ∧ j < 2 ^ 62) (k : ∀ H1, Ex H H1 → Cfg B l H1 → R (Itr 0 j.toNat) H1)
    (hs : starEach [e] X.env = [(false, eval e X.env)] := by rfl) : wI X tg (.Call (.Name "range" p') [e] [] pos) σ H R :=
  wI_of (pi_range1 hg hm pA hs) (goA (a_cons h a_nil hs) c fun H1 e1 c1 => ⟨j, rfl, hj.1, hj.2, k H1 e1 c1⟩)
theorem i_range2 (hg : Gl X "range") (hm : X.mg "range" = none) (c : Cfg B l H) (h1 : EV X e1 σ B l (.int i)) (h2 : EV X e2 σ B l (.int j)) (hj : -(2 ^ 62) ≤ i ∧ i < 2 ^ 62 ∧ -(2 ^ 62) ≤ j ∧ j < 2 ^ 62) (k : ∀ H1, Ex H H1 → Cfg B l H1 → R (Itr i (j - i).toNat) H1)
    (hs : starEach [e1, e2] X.env = [(false, eval e1 X.env), (false, eval e2 X.env)] := by rfl) (hs2 : starEach [e2] X.env = [(false, eval e2 X.env)] := by rfl) : wI X tg (.Call (.Name "range" p') [e1, e2] [] pos) σ H R :=
  wI_of (pi_range2 hg hm pA hs hs2) (goA (a_cons h1 (a_cons h2 a_nil hs2) (by rw [hs, hs2])) c fun H1 e1 c1 => ⟨i, j, rfl, hj, k H1 e1 c1⟩)
theorem i_range3 {ci : Int} {n : Nat} (hg : Gl X "range") (hm : X.mg "range" = none) (c : Cfg B l H) (h : EA X [e1, e2, e3] σ B l [.int i, .int j, .int ci]) (hr : RgC i j ci n) (k : ∀ H1, Ex H H1 → Cfg B l H1 → R (Itc i ci n) H1)
    (hs : starEach (e1 :: [e2, e3]) X.env = (false, eval e1 X.env) :: starEach [e2, e3] X.env := by rfl) (hpl : (backTo pos (starEach [e2, e3] X.env)).any (·.1) = false := by rfl) : wI X tg (.Call (.Name "range" p') [e1, e2, e3] [] pos) σ H R :=
  wI_of (pi_range3 hg hm pA hs hpl) (goA h c fun H1 e1 c1 => ⟨i, j, ci, n, rfl, hr, k H1 e1 c1⟩)
theorem i_enum {S : Src} (hg : Gl X "enumerate") (hm : X.mg "enumerate" = none) (c : Cfg B l H) (h : EV X e σ B l S.v) (ok : ∀ H, Cfg B l H → S.Ok X.K H) (k : ∀ H1, Ex H H1 → Cfg B l H1 → R (ItN (S.Ok X.K) S.items.length (rowE S)) H1)
    (hs : starEach [e] X.env = [(false, eval e X.env)] := by rfl) : wI X (.Tuple elts kk tpos) (.Call (.Name "enumerate" p') [e] [] pos) σ H R :=
  wI_of (pi_enumS hg hm pA hs) (goA (a_cons h a_nil hs) c fun H1 e1 c1 => ⟨S, rfl, ok H1 c1, k H1 e1 c1⟩)
/-- in general: the arguments first -/
theorem i_enumW (hg : Gl X "enumerate") (hm : X.mg "enumerate" = none) (h : wA X [e] σ H fun vs H1 => ∃ S : Src, vs = [S.v] ∧ S.Ok X.K H1 ∧ R (ItN (S.Ok X.K) S.items.length (rowE S)) H1) (hs : starEach [e] X.env = [(false, eval e X.env)] := by rfl) : wI X (.Tuple elts kk tpos) (.Call (.Name "enumerate" p') [e] [] pos) σ H R :=
  wI_of (pi_enumS hg hm pA hs) h
theorem i_zipW (hg : Gl X "zip") (hm : X.mg "zip" = none) (h : wA X [e1, e2] σ H fun vs H1 => ∃ S1 S2 : Src, vs = [S1.v, S2.v] ∧ S1.Ok X.K H1 ∧ S2.Ok X.K H1 ∧ R (ItN (fun H => S1.Ok X.K H ∧ S2.Ok X.K H) (min S1.items.length S2.items.length) (rowZ S1 S2)) H1)
    (hs : starEach [e1, e2] X.env = (false, eval e1 X.env) :: starEach [e2] X.env := by rfl) (hpl : (backTo pos (starEach [e2] X.env)).any (·.1) = false := by rfl) : wI X (.Tuple elts kk tpos) (.Call (.Name "zip" p') [e1, e2] [] pos) σ H R := wI_of (pi_zip2S hg hm pA hs hpl) h
theorem i_zip3W (hg : Gl X "zip") (hm : X.mg "zip" = none) (h : wA X [e1, e2, e3] σ H fun vs H1 => ∃ S1 S2 S3 : Src, vs = [S1.v, S2.v, S3.v] ∧ S1.Ok X.K H1 ∧ S2.Ok X.K H1 ∧ S3.Ok X.K H1 ∧ R (ItN (fun H => S1.Ok X.K H ∧ S2.Ok X.K H ∧ S3.Ok X.K H) (min (min S1.items.length S2.items.length) S3.items.length) (rowZ3 S1 S2 S3)) H1)
    (hs : starEach [e1, e2, e3] X.env = (false, eval e1 X.env) :: starEach [e2, e3] X.env := by rfl) (hpl : (backTo pos (starEach [e2, e3] X.env)).any (·.1) = false := by rfl) : wI X (.Tuple elts kk tpos) (.Call (.Name "zip" p') [e1, e2, e3] [] pos) σ H R := wI_of (pi_zip3S hg hm pA hs hpl) h
end

/-! ### comprehensions -/
/-- a comprehension's block within X -/
def Blk (X : Cx) (scope : Scope) (X' : Cx) : Prop := ∃ (s : Shared) (H : Hp) (C : Addr) (cl : List (Str × Addr)) (fp : List Addr), X' = X.blk s H scope (compEnvC scope cl C X.env) fp
def yE (X : Cx) (sc : Scope) (e : Expr) : TE := fun σ H Q => ∀ X', Blk X sc X' → wE X' e σ H Q
def yT (X : Cx) (sc : Scope) (c : Expr) : TT := fun σ H Q => ∀ X', Blk X sc X' → wT X' c σ H Q
def yG (X : Cx) (sc : Scope) (tg : Expr) : TG := fun v σ H Q => ∀ X', Blk X sc X' → wG X' tg v σ H Q
section
variable {X X' : Cx} {sc scope : Scope} {elt tg it : Expr} {ifs : List Expr} {pos : Pos} {own : List (Str × Nat)} {σ : L2.St} {H B : Hp} {l : List Ob} {Q : VK} {G : Hp → Prop} {Y : Nat → Hp → V → Hp → Prop} {n : Nat}
theorem Blk.K (b : Blk X sc X') : X'.K = X.K ∧ X'.mg = X.mg ∧ X'.N = X.N ∧ X'.A = X.A ∧ X'.env.scope = relS sc X.env.scope ∧ X'.prog = X.prog ∧ X'.w = X.w ∧ X'.base = X.base ∧ X'.calm = X.calm := by
  obtain ⟨s, H, C, cl, fp, rfl⟩ := b
  exact ⟨rfl, rfl, rfl, rfl, rfl, rfl, rfl, rfl, rfl⟩
theorem yE_pe (s : Shared) (H : Hp) (C : Addr) (cl : List (Str × Addr)) (fp : List Addr) : PE (X.blk s H sc (compEnvC sc cl C X.env) fp) elt (yE X sc elt) := ⟨fun pins s' σ H' Q I h => h _ ⟨s, H, C, cl, fp, rfl⟩ pins s' I⟩
theorem yT_pt {c : Expr} (s : Shared) (H : Hp) (C : Addr) (cl : List (Str × Addr)) (fp : List Addr) : PT (X.blk s H sc (compEnvC sc cl C X.env) fp) c (yT X sc c) := ⟨fun pins s' σ H' Q I h => h _ ⟨s, H, C, cl, fp, rfl⟩ pins s' I⟩
theorem yG_pg (s : Shared) (H : Hp) (C : Addr) (cl : List (Str × Addr)) (fp : List Addr) : PG (X.blk s H sc (compEnvC sc cl C X.env) fp) tg (yG X sc tg) := ⟨fun pins s' σ H' v u Q I r h => h _ ⟨s, H, C, cl, fp, rfl⟩ pins s' u I r⟩
/-- what a turn of a comprehension with the new list at D has to show -/
abbrev LcTurn (X : Cx) (sc : Scope) (tg elt : Expr) (vs : List Nat) (σ : L2.St) (Y : Nat → Hp → V → Hp → Prop) (n : Nat) (D : Addr) (Pv : Nat → Hp → Prop) : Prop :=
  ∀ i x H' H2, i < n → Pv i H' → Y i H' x H2 → yG X sc tg x (wipe σ vs) H2 fun σ3 H3 => wipe σ3 vs = wipe σ vs ∧ yE X sc elt σ3 H3 fun y H4 => ∃ acc, H4 D = some (.lst acc) ∧ acc.length < sizeLine ∧ Pv (i + 1) (upd H4 D (.lst (acc ++ [y])))
abbrev LcTurnC (X : Cx) (sc : Scope) (tg c elt : Expr) (vs : List Nat) (σ : L2.St) (Y : Nat → Hp → V → Hp → Prop) (n : Nat) (D : Addr) (Pv : Nat → Hp → Prop) : Prop :=
  ∀ i x H' H2, i < n → Pv i H' → Y i H' x H2 → yG X sc tg x (wipe σ vs) H2 fun σ3 H3 => wipe σ3 vs = wipe σ vs ∧ yT X sc c σ3 H3 fun b H4 =>
    if b = true then yE X sc elt σ3 H4 fun y H5 => ∃ acc, H5 D = some (.lst acc) ∧ acc.length < sizeLine ∧ Pv (i + 1) (upd H5 D (.lst (acc ++ [y]))) else Pv (i + 1) H4
abbrev LcAll (G : Hp → Prop) (Y : Nat → Hp → V → Hp → Prop) (n : Nat) (turn : Addr → (Nat → Hp → Prop) → Prop) (Q : VK) (J : It) (H1 : Hp) : Prop :=
  Walk J n G Y ∧ ∀ D, H1 D = none → ∃ Pv : Nat → Hp → Prop, Pv 0 (upd H1 D (.lst [])) ∧ (∀ i H, i ≤ n → Pv i H → G H) ∧ turn D Pv ∧ ∀ H', Pv n H' → Q (.ref D) H'
theorem wI_mono {tg it : Expr} {R R' : It → Hp → Prop} (h : wI X tg it σ H R) (k : ∀ J H1, R J H1 → R' J H1) : wI X tg it σ H R' := fun pins s I =>
  thn (h pins s I) fun v s1 h1 => thn h1 fun u s2 ⟨it', fp, tn, J, H', e1, I2, T, st, f2, r⟩ => ⟨it', fp, tn, J, H', e1, I2, T, st, f2, k J H' r⟩
theorem tLc_of (h : wI X tg it σ H (LcAll G Y n (LcTurn X sc tg elt (own.map (·.2)) σ Y n) Q)) : tLc (wI X tg it) (yG X sc tg) tYes (yE X sc elt) (own.map (·.2)) σ H Q :=
  wI_mono h fun J H1 ⟨w, h1⟩ D hD => by
    obtain ⟨Pv, q0, q1, q2, q3⟩ := h1 D hD
    refine lc_it w Pv q0 q1 (fun i x H' H2 hi p y => ?_) q3
    intro X' b pins s u I r
    refine thn (q2 i x H' H2 hi p y X' b pins s u I r) fun _ s1 ⟨σ3, H3, I3, e3, q⟩ => ⟨σ3, H3, I3, e3, ?_⟩
    show tYes σ3 H3 _
    unfold tYes
    dsimp only
    rw [if_pos rfl]
    exact q
theorem tLc_ofC {c : Expr} (h : wI X tg it σ H (LcAll G Y n (LcTurnC X sc tg c elt (own.map (·.2)) σ Y n) Q)) : tLc (wI X tg it) (yG X sc tg) (yT X sc c) (yE X sc elt) (own.map (·.2)) σ H Q :=
  wI_mono h fun J H1 ⟨w, h1⟩ D hD => by
    obtain ⟨Pv, q0, q1, q2, q3⟩ := h1 D hD
    exact lc_it w Pv q0 q1 (fun i x H' H2 hi p y => q2 i x H' H2 hi p y) q3
theorem w_lc (hc : X.calm = true) (hN : X.N.Nodup) (ok : BlkOk X.N X.env.scope sc own) (h : wI X tg it σ H (LcAll G Y n (LcTurn X sc tg elt (own.map (·.2)) σ Y n) Q)) (hs : ∀ x, foldedSetIterable it X.env x = pure x := by intro _; rfl) :
    wE X (.ListComp elt [⟨tg, it, [], 0⟩] sc pos) σ H Q := wE_of (pe_lc hc hN pI ok yG_pg (fun _ _ _ _ _ => pts_nil) yE_pe hs) (tLc_of h)
theorem w_lcC {c : Expr} (hc : X.calm = true) (hN : X.N.Nodup) (ok : BlkOk X.N X.env.scope sc own) (h : wI X tg it σ H (LcAll G Y n (LcTurnC X sc tg c elt (own.map (·.2)) σ Y n) Q)) (hs : ∀ x, foldedSetIterable it X.env x = pure x := by intro _; rfl) :
    wE X (.ListComp elt [⟨tg, it, [c], 0⟩] sc pos) σ H Q := wE_of (pe_lc hc hN pI ok yG_pg (fun s H C cl fp => pts_one (yT_pt s H C cl fp)) yE_pe hs) (tLc_ofC h)
/-- y = [..] -/
theorem s_lc {i : Nat} {y : Str} {py spos : Pos} {rest : List Stmt} {D : Ends} (hc : X.calm = true) (o : Own X i y) (hyl : X.env.scope.names.lookup y = some .local) (hsw : swapsWith (.ListComp elt [⟨tg, it, [], 0⟩] sc pos) (some (.Name y py)) spos.line X.env = pure true) (ok : BlkOk X.N X.env.scope sc own)
    (h : wI X tg it σ H (LcAll G Y n (LcTurn X sc tg elt (own.map (·.2)) σ Y n) fun v H1 => wSs X rest D (σ.set i (some v)) H1)) (hs : ∀ x, foldedSetIterable it X.env x = pure x := by intro _; rfl) :
    wSs X (.Assign [.Name y py] (.ListComp elt [⟨tg, it, [], 0⟩] sc pos) spos :: rest) D σ H := s_of (ps_setLc hc o.nd o.s.n hyl hsw pI ok yG_pg (fun _ _ _ _ _ => pts_nil) yE_pe hs) (tLc_of h)
theorem s_lcC {c : Expr} {i : Nat} {y : Str} {py spos : Pos} {rest : List Stmt} {D : Ends} (hc : X.calm = true) (o : Own X i y) (hyl : X.env.scope.names.lookup y = some .local) (hsw : swapsWith (.ListComp elt [⟨tg, it, [c], 0⟩] sc pos) (some (.Name y py)) spos.line X.env = pure true) (ok : BlkOk X.N X.env.scope sc own)
    (h : wI X tg it σ H (LcAll G Y n (LcTurnC X sc tg c elt (own.map (·.2)) σ Y n) fun v H1 => wSs X rest D (σ.set i (some v)) H1)) (hs : ∀ x, foldedSetIterable it X.env x = pure x := by intro _; rfl) :
    wSs X (.Assign [.Name y py] (.ListComp elt [⟨tg, it, [c], 0⟩] sc pos) spos :: rest) D σ H := s_of (ps_setLc hc o.nd o.s.n hyl hsw pI ok yG_pg (fun s H C cl fp => pts_one (yT_pt s H C cl fp)) yE_pe hs) (tLc_ofC h)
/-- a name of the block -/
theorem yg_name {x : Str} {j : Nat} {p2 : Pos} {v : V} {σ : L2.St} {H : Hp} {Qs : L2.St → Hp → Prop} (hN : X.N.Nodup) (hj : X.N[j]? = some x) (hl : (relS sc X.env.scope).names.lookup x = some .local) (h : Qs (σ.set j (some v)) H) : yG X sc (.Name x p2) v σ H Qs := by
  rintro X' ⟨s, H0, C, cl, fp, rfl⟩
  exact wG_of (pg_name (X := X.blk s H0 sc (compEnvC sc cl C X.env) fp) hN hj (.inl hl) (.inr hl)) h
theorem yg_tup2 {x1 x2 : Str} {j1 j2 k : Nat} {p1 p2 p3 : Pos} {a : Addr} {v1 v2 : V} {σ : L2.St} {H : Hp} {Qs : L2.St → Hp → Prop} (hc : X.calm = true) (hN : X.N.Nodup) (h1 : X.N[j1]? = some x1) (h2 : X.N[j2]? = some x2) (hl1 : (relS sc X.env.scope).names.lookup x1 = some .local) (hl2 : (relS sc X.env.scope).names.lookup x2 = some .local)
    (ht : SqT X.K H a [v1, v2]) (h : Qs ((σ.set j1 (some v1)).set j2 (some v2)) H) : yG X sc (.Tuple [.Name x1 p1, .Name x2 p2] k p3) (.ref a) σ H Qs := by
  rintro X' ⟨s, H0, C, cl, fp, rfl⟩
  exact g_tup2 (X := X.blk s H0 sc (compEnvC sc cl C X.env) fp) hc ht (wG_of (pg_name (X := X.blk s H0 sc (compEnvC sc cl C X.env) fp) hN h1 (.inl hl1) (.inr hl1)) (wG_of (pg_name (X := X.blk s H0 sc (compEnvC sc cl C X.env) fp) hN h2 (.inl hl2) (.inr hl2)) h))
theorem yg_tup3 {x1 x2 x3 : Str} {j1 j2 j3 k : Nat} {p1 p2 p3 p4 : Pos} {a : Addr} {v1 v2 v3 : V} {σ : L2.St} {H : Hp} {Qs : L2.St → Hp → Prop} (hc : X.calm = true) (hN : X.N.Nodup) (h1 : X.N[j1]? = some x1) (h2 : X.N[j2]? = some x2) (h3 : X.N[j3]? = some x3) (hl1 : (relS sc X.env.scope).names.lookup x1 = some .local)
    (hl2 : (relS sc X.env.scope).names.lookup x2 = some .local) (hl3 : (relS sc X.env.scope).names.lookup x3 = some .local) (ht : SqT X.K H a [v1, v2, v3]) (h : Qs (((σ.set j1 (some v1)).set j2 (some v2)).set j3 (some v3)) H) : yG X sc (.Tuple [.Name x1 p1, .Name x2 p2, .Name x3 p3] k p4) (.ref a) σ H Qs := by
  rintro X' ⟨s, H0, C, cl, fp, rfl⟩
  have g1 := pg_name (X := X.blk s H0 sc (compEnvC sc cl C X.env) fp) (pos := p1) hN h1 (.inl hl1) (.inr hl1)
  have g2 := pg_name (X := X.blk s H0 sc (compEnvC sc cl C X.env) fp) (pos := p2) hN h2 (.inl hl2) (.inr hl2)
  have g3 := pg_name (X := X.blk s H0 sc (compEnvC sc cl C X.env) fp) (pos := p3) hN h3 (.inl hl3) (.inr hl3)
  have g := pg_tup (X := X.blk s H0 sc (compEnvC sc cl C X.env) fp) (k := k) (pos := p4) hc (pgs_cons g1 (pgs_cons g2 (pgs_cons g3 pgs_nil)))
  exact wG_of g ⟨a, _, rfl, ht, rfl, v1, _, rfl, v2, _, rfl, v3, _, rfl, rfl, h⟩
end

/-! ### a comprehension whose element is a value -/
section
variable {X X' : Cx} {sc : Scope} {elt tg it : Expr} {pos : Pos} {own : List (Str × Nat)} {σ : L2.St} {H B : Hp} {l : List Ob} {Q : VK} {G : Hp → Prop} {Y : Nat → Hp → V → Hp → Prop} {n : Nat}
/-- the turns' invariant: the list so far -/
abbrev LcP (B : Hp) (l : List Ob) (D : Addr) (f : Nat → Bool) (y : Nat → V) (i : Nat) (H : Hp) : Prop := Cfg B ((D, .lst (given i f y)) :: l) H
theorem lc_vals {J : It} {H1 : Hp} (w : Walk J n G Y) (c : Cfg B l H1) (hn : n ≤ 100000) (hG : ∀ H, Cfg B l H → G H) (y : Nat → V)
    (ht : ∀ i x H' H2, i < n → Cfg B l H' → Y i H' x H2 → Ex H' H2 ∧ ∀ Qs : L2.St → Hp → Prop, (∀ σ3 H3, Cfg B l H3 → Ex H2 H3 → (∀ X', Blk X sc X' → EV X' elt σ3 B l (y i)) → wipe σ3 (own.map (·.2)) = wipe σ (own.map (·.2)) → Qs σ3 H3) → yG X sc tg x (wipe σ (own.map (·.2))) H2 Qs)
    (k : ∀ D H2, H1 D = none → Cfg B ((D, .lst ((List.range n).map y)) :: l) H2 → Q (.ref D) H2) : LcAll G Y n (LcTurn X sc tg elt (own.map (·.2)) σ Y n) Q J H1 := by
  refine ⟨w, fun D hD => ⟨fun i H => Cfg B ((D, .lst ((List.range i).map y)) :: l) H, c.add hD, fun i H _ p => hG H p.drop, fun i x H' H2 hi p hy => ?_, fun H' p => k D H' hD p⟩⟩
  obtain ⟨e1, t⟩ := ht i x H' H2 hi p.drop hy
  refine t _ fun σ3 H3 c3 e3 he hw => ⟨hw, fun X' b => ?_⟩
  have p3 : Cfg B ((D, .lst ((List.range i).map y)) :: l) H3 := p.mono (e1.trans e3)
  refine he X' b H3 c3 H3 (Ex.refl H3) _ fun H4 e4 => ?_
  have p4 := p3.mono e4
  refine ⟨_, p4.own _ _ List.mem_cons_self, ?_, ?_⟩
  · rw [List.length_map, List.length_range]
    exact sz_lt (by omega)
  · have q := p4.put (o' := .lst ((List.range i).map y ++ [y i])) List.mem_cons_self
    unfold put at q
    rw [if_pos rfl] at q
    show Cfg B ((D, .lst ((List.range (i + 1)).map y)) :: l) _
    rw [List.range_succ, List.map_append]
    exact q
end
end QW
/-! QW5: defs and their calls, built-ins. -/
namespace QW
open PySem L2 Evl

/-! ### what is told of the context of a def's body -/
structure Bd (X : Cx) (N : List Str) (sc : Scope) (k : Nat) : Prop where
  n : X.N = N
  sc : X.env.scope = sc
  calm : X.calm = true
  fn : ∀ x, X.fn x = true
  stk : X.stack = X.env :: X.outer
  frm : X.env.frame = some X.env.locals
  ex : X.ex = []
  room : Room k X.A
  po : PassesOwn (model X.prog X.w) X.A X.env X.xe
  nd : X.N.Nodup
theorem FnOk.up {P : Program} {w : World} {K : PySem.W.Frag} {mg : Str → Option Value} {base : Heap} {k : Nat} {f : Addr} {fd : FuncData} {ps : List Str} {sp : Sp} {CXx : CXT} (h : FnOk P w K mg base CX0 k f fd ps sp) : FnOk P w K mg base CXx k f fd ps sp :=
  ⟨h.len, fun A outer s H args us vs Q E hr e0 hb r hs => codeAny_mono (h.run A outer s H args us vs Q E hr e0 hb r hs) fun r s' z => by
    cases r with
    | error e => exact (show False from z).elim
    | ok fl => cases fl <;> exact z⟩
/-- a def of the module: it keeps the promise, it stands by its name; ds: what fills up behind the written arguments -/
structure Callee (P : Program) (w : World) (K : PySem.W.Frag) (mg : Str → Option Value) (base : Heap) (k : Nat) (x : Str) (dvs : List V) (sp : Sp) : Prop where
  ex : ∃ (f : Addr) (fd : FuncData) (ps : List Str) (ds : List Value), FnOk P w K mg base (L2.CX P w) k f fd ps sp ∧ mg x = some (.ref f) ∧ PySem.W.keepIn K (.ref f) = true ∧ Binds K fd ps ds ∧ Vals dvs ds
/-- where a def stands -/
def At (K : PySem.W.Frag) (mg : Str → Option Value) (x : Str) (st : Stmt) (dvs : List V) : Prop := ∃ f fd, FunD K x x (defArgs st) (defBody st) (defScope st) dvs [] f fd ∧ mg x = some (.ref f)
section
variable {P : Program} {w : World} {K : PySem.W.Frag} {mg : Str → Option Value} {base : Heap} {x : Str} {st : Stmt} {N ps : List Str} {k : Nat} {sp : Sp}
theorem fnOk_mk {qual : Str} {dvs : List V} {f : Addr} {fd : FuncData} {pa : Arguments} {bd : List Stmt} {sc : Scope} (F : FunD K x qual pa bd sc dvs [] f fd) (S : FnScope N ps sc) (len : ∀ vs H Q E, sp vs H Q E → vs.length = ps.length)
    (h : ∀ X : Cx, X.prog = P → X.w = w → X.K = K → X.mg = mg → X.base = base → Bd X N sc k → ∀ E : XK, Takes X (fun c d _ H => E c d H) → ∀ vs H Q, sp vs H Q E → wSs X bd { nx := fun _ H' => Q .non H', rt := Q } (start N vs) H) : FnOk P w K mg base (L2.CX P w) (k + 1) f fd ps sp :=
  F.ok S len fun cdv A outer s H vs Q E hr hsp => ⟨_, pSs, h _ rfl rfl rfl rfl rfl ⟨rfl, rfl, rfl, fun _ => rfl, rfl, rfl, rfl, hr, passes_of rfl, S.nd⟩ E (takes_of rfl rfl rfl rfl) vs H Q hsp⟩
/-- a def without defaults -/
theorem callee_mk (F : At K mg x st []) (S : FnScope N ps (defScope st)) (hb : ∀ (kV doc pm : Value) (an : Option Addr) (cdv ct : Value) (us : List Value), us.length = ps.length → bindArgs (PySem.W.fnOf x x (defArgs st) (defBody st) (defScope st) .none kV doc pm an cdv ct) ⟨us, []⟩ = pure (ps.zip us))
    (len : ∀ vs H Q E, sp vs H Q E → vs.length = ps.length)
    (h : ∀ X : Cx, X.prog = P → X.w = w → X.K = K → X.mg = mg → X.base = base → Bd X N (defScope st) k → ∀ E : XK, Takes X (fun c d _ H => E c d H) → ∀ vs H Q, sp vs H Q E → wSs X (defBody st) { nx := fun _ H' => Q .non H', rt := Q } (start N vs) H) : Callee P w K mg base (k + 1) x [] sp := by
  obtain ⟨f, fd, F, hm⟩ := F
  exact ⟨f, fd, ps, [], fnOk_mk F S len h, hm, F.kp, F.bindsN hb, .nil⟩
theorem Callee.mono {j : Nat} {dvs : List V} (c : Callee P w K mg base j x dvs sp) (h : j ≤ k) : Callee P w K mg base k x dvs sp := by
  obtain ⟨f, fd, ps, ds, F, r⟩ := c.ex
  exact ⟨f, fd, ps, ds, F.mono h, r⟩
end
section
variable {X : Cx} {N : List Str} {sc : Scope} {k j i : Nat} {x : Str} {sp : Sp} {dvs vs : List V} {e : Expr} {es : List Expr} {p pos : Pos} {σ : L2.St} {H B : Hp} {l : List Ob} {Q : VK} {v : V}
theorem Bd.own (b : Bd X N sc k) (h : N[i]? = some x) (hl : Loc sc x) (d : (x == ("__debug__" : Str)) = false := by decide +kernel) (d2 : (x == ("__classdict__" : Str)) = false := by decide +kernel) : Own X i x := by
  have hl' : Loc X.env.scope x := by rw [b.sc]; exact hl
  exact ⟨⟨by rw [b.n]; exact h, hl'.elim Or.inl fun z => Or.inr (Or.inl z), d, d2⟩, hl', b.fn x, b.nd⟩
theorem Bd.gl (b : Bd X N sc k) (h : sc.names.lookup x = some .globalImplicit) : Gl X x := by
  show X.env.scope.names.lookup x = some .globalImplicit
  rw [b.sc]
  exact h
theorem Blk.slot {X' : Cx} {s : Scope} (y : Blk X s X') (b : Bd X N sc k) (h : N[i]? = some x) (hl : Vis (relS s sc) x) (d : (x == ("__debug__" : Str)) = false := by decide +kernel) (d2 : (x == ("__classdict__" : Str)) = false := by decide +kernel) : Slot X' i x := by
  obtain ⟨_, _, h3, _, h5, _⟩ := y.K
  exact ⟨by rw [h3, b.n]; exact h, by rw [h5, b.sc]; exact hl, d, d2⟩
theorem Blk.gl {X' : Cx} {s : Scope} (y : Blk X s X') (b : Bd X N sc k) (h : (relS s sc).names.lookup x = some .globalImplicit) : Gl X' x := by
  obtain ⟨_, _, _, _, h5, _⟩ := y.K
  show X'.env.scope.names.lookup x = some .globalImplicit
  rw [h5, b.sc]
  exact h
/-- f(e, ..): the call of a def, nothing raised -/
theorem w_call (C : Callee X.prog X.w X.K X.mg X.base j x dvs sp) (hr : Room k X.A) (hj : j ≤ k) (hg : Gl X x) (h : wA X (e :: es) σ H fun us H1 => sp (us ++ dvs) H1 Q E0) (hdb : (x == ("__debug__" : Str)) = false := by decide +kernel)
    (he : starEach (e :: es) X.env = (false, eval e X.env) :: starEach es X.env := by rfl) (hpl : (backTo pos (starEach es X.env)).any (·.1) = false := by rfl) : wE X (.Call (.Name x p) (e :: es) [] pos) σ H Q := by
  obtain ⟨f, fd, ps, ds, F, hm, hk, hb, hd⟩ := C.ex
  exact wE_of (pe_call F (hr.mono hj) hg hm hk hb hd passL pA hdb he hpl) h
theorem w_call0 (C : Callee X.prog X.w X.K X.mg X.base j x dvs sp) (hr : Room k X.A) (hj : j ≤ k) (hg : Gl X x) (h : sp dvs H Q E0) (hdb : (x == ("__debug__" : Str)) = false := by decide +kernel) : wE X (.Call (.Name x p) [] [] pos) σ H Q := by
  obtain ⟨f, fd, ps, ds, F, hm, hk, hb, hd⟩ := C.ex
  exact wE_of (pe_call0 F (hr.mono hj) hg hm hk hb hd passL hdb) h
/-- the promise of a def that hands back a value and changes nothing -/
def SpVal (sp : Sp) (vs : List V) (B : Hp) (l : List Ob) (v : V) : Prop := ∀ H, Cfg B l H → ∀ (Q : VK) (E : XK), (∀ H2, Ex H H2 → Q v H2) → sp vs H Q E
theorem e_call (C : Callee X.prog X.w X.K X.mg X.base j x [] sp) (hr : Room k X.A) (hj : j ≤ k) (hg : Gl X x) (h : EA X (e :: es) σ B l vs) (hs : SpVal sp vs B l v) (hdb : (x == ("__debug__" : Str)) = false := by decide +kernel)
    (he : starEach (e :: es) X.env = (false, eval e X.env) :: starEach es X.env := by rfl) (hpl : (backTo pos (starEach es X.env)).any (·.1) = false := by rfl) : EV X (.Call (.Name x p) (e :: es) [] pos) σ B l v := ⟨fun H c H1 e1 Q q =>
  w_call C hr hj hg (goA h (c.mono e1) fun H2 e2 c2 => by
    rw [List.append_nil]
    exact hs H2 c2 _ _ fun H3 e3 => q H3 (e2.trans e3)) hdb he hpl⟩
end

/-! ### built-ins -/
section
variable {X : Cx} {e e1 e2 : Expr} {es : List Expr} {p' pos : Pos} {σ : L2.St} {H B : Hp} {l : List Ob} {Q : VK} {v : V} {p : Addr} {xs : List V} {i j : Int} {z : Str} {S : String}
theorem e_lenL (hg : Gl X "len") (hm : X.mg "len" = none) (h : EV X e σ B l (.ref p)) (hl : Lst X.K B l p xs) (hs : starEach [e] X.env = (false, eval e X.env) :: starEach [] X.env := by rfl) (hpl : (backTo pos (starEach [] X.env)).any (·.1) = false := by rfl) : EV X (.Call (.Name "len" p') [e] [] pos) σ B l (.int xs.length) :=
  e_callB call_len_seq hg hm boot_len (a_cons h a_nil hs) (fun H c H1 e1 Q q => ⟨p, xs, rfl, Or.inl (ex_l e1 (hl H c)), q H1 (Ex.refl H1)⟩) (by decide) (by decide) hs hpl
theorem e_lenT (hg : Gl X "len") (hm : X.mg "len" = none) (h : EV X e σ B l (.ref p)) (hl : Tup X.K B l p xs) (hs : starEach [e] X.env = (false, eval e X.env) :: starEach [] X.env := by rfl) (hpl : (backTo pos (starEach [] X.env)).any (·.1) = false := by rfl) : EV X (.Call (.Name "len" p') [e] [] pos) σ B l (.int xs.length) :=
  e_callB call_len_seq hg hm boot_len (a_cons h a_nil hs) (fun H c H1 e1 Q q => ⟨p, xs, rfl, Or.inr (ex_t e1 (hl H c)), q H1 (Ex.refl H1)⟩) (by decide) (by decide) hs hpl
theorem e_lenS (hg : Gl X "len") (hm : X.mg "len" = none) (h : EV X e σ B l (.str z)) (hz : z.length ≤ sizeLine) (hs : starEach [e] X.env = (false, eval e X.env) :: starEach [] X.env := by rfl) (hpl : (backTo pos (starEach [] X.env)).any (·.1) = false := by rfl) : EV X (.Call (.Name "len" p') [e] [] pos) σ B l (.int z.length) :=
  e_callB call_len_str hg hm boot_len (a_cons h a_nil hs) (fun H c H1 e1 Q q => ⟨z, rfl, hz, q H1 (Ex.refl H1)⟩) (by decide) (by decide) hs hpl
theorem e_lenD {kvs : List (Key × V)} (hg : Gl X "len") (hm : X.mg "len" = none) (h : EV X e σ B l (.ref p)) (hl : Std B l p (.dK kvs)) (hs : starEach [e] X.env = (false, eval e X.env) :: starEach [] X.env := by rfl) (hpl : (backTo pos (starEach [] X.env)).any (·.1) = false := by rfl) : EV X (.Call (.Name "len" p') [e] [] pos) σ B l (.int kvs.length) :=
  e_callB call_lenD hg hm boot_len (a_cons h a_nil hs) (fun H c H1 e1 Q q => ⟨p, kvs, rfl, e1 _ _ (hl H c), q H1 (Ex.refl H1)⟩) (by decide) (by decide) hs hpl
theorem e_intB {b : Bool} (hg : Gl X "int") (hm : X.mg "int" = none) (h : EV X e σ B l (.bl b)) (hs : starEach [e] X.env = (false, eval e X.env) :: starEach [] X.env := by rfl) (hpl : (backTo pos (starEach [] X.env)).any (·.1) = false := by rfl) : EV X (.Call (.Name "int" p') [e] [] pos) σ B l (.int (if b = true then 1 else 0)) :=
  e_callTy call_int1 hg hm (by decide +kernel) (a_cons h a_nil hs) (fun H c H1 e1 Q q => Or.inr ⟨b, rfl, by cases b <;> exact q H1 (Ex.refl H1)⟩) (by decide) (by decide) hs hpl
theorem e_max2 (hc : X.calm = true) (hg : Gl X "max") (hm : X.mg "max" = none) (h1 : EV X e1 σ B l (.int i)) (h2 : EV X e2 σ B l (.int j)) (hs : starEach (e1 :: [e2]) X.env = (false, eval e1 X.env) :: starEach [e2] X.env := by rfl) (hs2 : starEach [e2] X.env = (false, eval e2 X.env) :: starEach [] X.env := by rfl)
    (hpl : (backTo pos (starEach [e2] X.env)).any (·.1) = false := by rfl) : EV X (.Call (.Name "max" p') [e1, e2] [] pos) σ B l (.int (if j > i then j else i)) :=
  e_callB (call_max2 hc) hg hm (by decide +kernel) (a_cons h1 (a_cons h2 a_nil hs2) hs) (fun H c H1 e1 Q q => ⟨i, j, rfl, q H1 (Ex.refl H1)⟩) (by decide) (by decide) hs hpl
theorem e_min2 (hc : X.calm = true) (hg : Gl X "min") (hm : X.mg "min" = none) (h1 : EV X e1 σ B l (.int i)) (h2 : EV X e2 σ B l (.int j)) (hs : starEach (e1 :: [e2]) X.env = (false, eval e1 X.env) :: starEach [e2] X.env := by rfl) (hs2 : starEach [e2] X.env = (false, eval e2 X.env) :: starEach [] X.env := by rfl)
    (hpl : (backTo pos (starEach [e2] X.env)).any (·.1) = false := by rfl) : EV X (.Call (.Name "min" p') [e1, e2] [] pos) σ B l (.int (if j < i then j else i)) :=
  e_callB (call_min2 hc) hg hm (by decide +kernel) (a_cons h1 (a_cons h2 a_nil hs2) hs) (fun H c H1 e1 Q q => ⟨i, j, rfl, q H1 (Ex.refl H1)⟩) (by decide) (by decide) hs hpl
theorem e_ty {n : String} (hg : Gl X x) (hm : X.mg x = none) (hv : bootBuiltins x = some (.type n)) (hn : x ≠ "__name__") (hd : (x == ("__debug__" : Str)) = false) : EV X (.Name x pos) σ B l (.ty n) := ev_of (pe_bltn (v := .ty n) hg hm hv rfl hn hd) fun H c => ev_c
/-- isinstance(x, T), T built-in -/
theorem e_isi {u : Value} {n : String} {b : Bool} {c : Expr} (hg : Gl X "isinstance") (hm : X.mg "isinstance" = none) (h : EV X e σ B l v) (hc : EV X c σ B l (.ty n)) (ht : ∀ H, Cfg B l H → TyX X.K H v u) (hk : PySem.W.kitOne X.K u (.type n) = some b) (hs : starEach (e :: [c]) X.env = (false, eval e X.env) :: starEach [c] X.env := by rfl)
    (hs2 : starEach [c] X.env = (false, eval c X.env) :: starEach [] X.env := by rfl) (hpl : (backTo pos (starEach [c] X.env)).any (·.1) = false := by rfl) : EV X (.Call (.Name "isinstance" p') [e, c] [] pos) σ B l (.bl b) :=
  e_callB call_isi hg hm (by decide +kernel) (a_cons h (a_cons hc a_nil hs2) hs) (fun H c H1 e1 Q q => ⟨v, .ty n, u, _, b, rfl, .ty n, ht H1 (c.mono e1), hk, q H1 (Ex.refl H1)⟩) (by decide) (by decide) hs hpl
end
end QW
namespace QW
open PySem L2 Evl
/-- all but p stands -/
def ExBut (p : Addr) (H H2 : Hp) : Prop := ∀ a u, a ≠ p → H a = some u → H2 a = some u
theorem ExBut.of {p : Addr} {H H2 : Hp} (e : Ex H H2) : ExBut p H H2 := fun a u _ h => e a u h
theorem ExBut.upd {p : Addr} {H H2 : Hp} {o : HO} (e : ExBut p H H2) : ExBut p H (upd H2 p o) := fun a u n h => by rw [upd_ne n]; exact e a u n h
theorem ExBut.trans {p : Addr} {H H1 H2 : Hp} (a : ExBut p H H1) (b : ExBut p H1 H2) : ExBut p H H2 := fun x u n h => b x u n (a x u n h)
theorem Cfg.but {B H H2 : Hp} {l : List Ob} {p : Addr} {o o' : HO} (c : Cfg B l H) (m : (p, o) ∈ l) (e : ExBut p H H2) (h : H2 p = some o') : Cfg B (QW.put p o' l) H2 := by
  have hB := c.fr p o m
  refine ⟨fun a u ha => e a u (fun z => by rw [z, hB] at ha; cases ha) (c.ex a u ha), fun q u mq => ?_, fun q u mq => ?_, by rw [put_map]; exact c.nd⟩
  · rcases put_mem c.nd mq with ⟨rfl, rfl⟩ | ⟨z1, z2⟩
    · exact h
    · exact e q u z1 (c.own q u z2)
  · rcases put_mem c.nd mq with ⟨rfl, rfl⟩ | ⟨z1, z2⟩
    · exact hB
    · exact c.fr q u z2
theorem Cfg.look {B H : Hp} {l : List Ob} {p : Addr} {o : HO} (c : Cfg B l H) (m : (p, o) ∈ l) : H p = some o := c.own p o m
end QW
namespace QW
open PySem L2 Evl
/-- what stands but for p -/
def off (H : Hp) (p : Addr) : Hp := fun a => if a = p then none else H a
theorem off_ne {H : Hp} {p a : Addr} (h : a ≠ p) : off H p a = H a := if_neg h
theorem off_same {H : Hp} {p : Addr} : off H p p = none := if_pos rfl
theorem Cfg.own1 {H : Hp} {p : Addr} {o : HO} (h : H p = some o) : Cfg (off H p) [(p, o)] H := by
  refine ⟨fun a u e => ?_, fun q u m => ?_, fun q u m => ?_, by simp⟩
  · by_cases ha : a = p
    · subst ha; rw [off_same] at e; cases e
    · rw [off_ne ha] at e; exact e
  · cases List.mem_singleton.mp m; exact h
  · cases List.mem_singleton.mp m; exact off_same
theorem Cfg.back {H H2 : Hp} {p : Addr} {l : List Ob} (c : Cfg (off H p) l H2) : ExBut p H H2 := fun a u n e => c.ex a u (by rw [off_ne n]; exact e)
theorem ex_off {H : Hp} {p : Addr} : ∀ {a : Addr} {u : HO}, off H p a = some u → H a = some u := fun {a u} e => by
  by_cases ha : a = p
  · subst ha; rw [off_same] at e; cases e
  · rw [off_ne ha] at e; exact e
end QW
/-! QW6: the head's facts: names, defs, tables, and one more check of one's own. -/
namespace QW
open PySem L2 Evl He
abbrev AlC : Type := AlT × Bool
def obsC (fa : List Fa) (fn : List DefD) (ts : List Tab) (ck : PySem.W.Frag → Bool) (K : PySem.W.Frag) : AlC := (obsT fa fn ts K, ck K)
def valC (fn : List DefD) (ts : List Tab) (w : World) : AlC := (valT fn ts w, true)
def obsCG (n : Nat) (fa : List Fa) (fn : List DefD) (ts : List Tab) (ck : PySem.W.Frag → Bool) (g : Addr → Option PySem.Obj) : AlC := obsC fa fn ts ck (frG g (asD g n))
def SaysC (fa : List Fa) (fn : List DefD) (ts : List Tab) (ck : PySem.W.Frag → Bool) (w : World) (K : PySem.W.Frag) : Prop := obsC fa fn ts ck K = valC fn ts w
def hookC (n : Nat) (fa : List Fa) (fn : List DefD) (ts : List Tab) (ck : PySem.W.Frag → Bool) : PySem.W.Hook where
  α := AlC
  obs := fun s => obsCG n fa fn ts ck s.heap.get?
  val := fun w => valC fn ts w
  says := fun w h => ∃ K : PySem.W.Frag, K.In h ∧ SaysC fa fn ts ck w K
  of := fun _ _ e => ⟨_, frG_in, e⟩
  keeps := fun _ _ _ ⟨K, hK, c⟩ k => ⟨K, PySem.W.Frag.In.keeps hK k, c⟩
theorem obsCG_eq {n : Nat} {fa : List Fa} {fn : List DefD} {ts : List Tab} {ck : PySem.W.Frag → Bool} {g : Addr → Option PySem.Obj} {s : Shared} (h : ∀ a, g a = s.heap.get? a) : obsCG n fa fn ts ck g = (hookC n fa fn ts ck).obs s := by
  rw [show g = s.heap.get? from funext h]
  rfl
section
variable {fa : List Fa} {fn : List DefD} {ts : List Tab} {ck : PySem.W.Frag → Bool} {w : World} {K : PySem.W.Frag} {h : Heap} {mg : Str → Option Value}
theorem SaysC.t (c : SaysC fa fn ts ck w K) : SaysT fa fn ts w K := congrArg (fun z : AlC => z.1) c
theorem SaysC.own (c : SaysC fa fn ts ck w K) : ck K = true := congrArg (fun z : AlC => z.2) c
theorem SaysC.free (c : SaysC fa fn ts ck w K) (X : K.In h) (G : h.Ns mainGlobals mg) (i : Nat) {x : Str} (e : fa[i]? = some (.free x) := by rfl) : mg x = none := free_ok X G (c.t.d.fact i e)
theorem SaysC.glo (c : SaysC fa fn ts ck w K) (X : K.In h) (G : h.Ns mainGlobals mg) (i : Nat) {x : Str} (e : fa[i]? = some (.glo x) := by rfl) : mg x = some (.ref (ga K x)) := glo_ok X G (c.t.d.fact i e)
theorem SaysC.int (c : SaysC fa fn ts ck w K) (X : K.In h) (G : h.Ns mainGlobals mg) (i : Nat) {x : Str} {n : Int} (e : fa[i]? = some (.int x n) := by rfl) : ∃ t, mg x = some (.int n t) := int_ok X G (c.t.d.fact i e)
theorem SaysC.str (c : SaysC fa fn ts ck w K) (X : K.In h) (G : h.Ns mainGlobals mg) (i : Nat) {x z : Str} (e : fa[i]? = some (.str x z) := by rfl) : ∃ t, mg x = some (.str z t) := str_ok X G (c.t.d.fact i e)
/-- a def of the module -/
theorem SaysC.df (c : SaysC fa fn ts ck w K) (X : K.In h) (G : h.Ns mainGlobals mg) (i j : Nat) {x : Str} {st : Stmt} {dfl : List Dv} (e : fn[i]? = some ⟨(x, none), x, x, defArgs st, defBody st, defScope st, dfl, []⟩ := by rfl) (e2 : fa[j]? = some (.glo x) := by rfl) : At K mg x st (dfl.map (Dv.v K)) := by
  obtain ⟨fd, F⟩ := c.t.d.def_ i e
  exact ⟨_, fd, F, glo_ok X G (c.t.d.fact j e2)⟩
end
end QW
/-! QW7: more calls, tuples' least, lists joined, texts searched, tables. -/
namespace QW
open PySem L2 Evl He PySem.Spec PyProof.Rows

/-! ### f(a = .., b = ..): keywords alone, in the parameters' order -/
structure CalleeK (P : Program) (w : World) (K : PySem.W.Frag) (mg : Str → Option Value) (base : Heap) (k : Nat) (x : Str) (ks : List Str) (sp : Sp) : Prop where
  ex : ∃ (f : Addr) (fd : FuncData) (ps : List Str), FnOk P w K mg base (L2.CX P w) k f fd ps sp ∧ mg x = some (.ref f) ∧ PySem.W.keepIn K (.ref f) = true ∧ KBn K fd ps 0 ks (fun _ ws => ws) (fun _ zs => zs)
section
variable {P : Program} {w : World} {K : PySem.W.Frag} {mg : Str → Option Value} {base : Heap} {x : Str} {st : Stmt} {N ps : List Str} {k : Nat} {sp : Sp}
/-- one promise, both ways to call it -/
theorem callee_mkK (F : At K mg x st []) (S : FnScope N ps (defScope st)) (hb : ∀ (kV doc pm : Value) (an : Option Addr) (cdv ct : Value) (us : List Value), us.length = ps.length → bindArgs (PySem.W.fnOf x x (defArgs st) (defBody st) (defScope st) .none kV doc pm an cdv ct) ⟨us, []⟩ = pure (ps.zip us))
    (hbk : ∀ (kV doc pm : Value) (an : Option Addr) (cdv ct : Value) (us : List Value), us.length = ps.length → bindArgs (PySem.W.fnOf x x (defArgs st) (defBody st) (defScope st) .none kV doc pm an cdv ct) ⟨[], ps.zip us⟩ = pure (ps.zip us))
    (len : ∀ vs H Q E, sp vs H Q E → vs.length = ps.length)
    (h : ∀ X : Cx, X.prog = P → X.w = w → X.K = K → X.mg = mg → X.base = base → Bd X N (defScope st) k → ∀ E : XK, Takes X (fun c d _ H => E c d H) → ∀ vs H Q, sp vs H Q E → wSs X (defBody st) { nx := fun _ H' => Q .non H', rt := Q } (start N vs) H) :
    Callee P w K mg base (k + 1) x [] sp ∧ CalleeK P w K mg base (k + 1) x ps sp := by
  obtain ⟨f, fd, F, hm⟩ := F
  have ok := fnOk_mk F S len h
  refine ⟨⟨f, fd, ps, [], ok, hm, F.kp, F.bindsN hb, .nil⟩, ⟨f, fd, ps, ok, hm, F.kp, ?_⟩⟩
  obtain ⟨oc, od, dV, kV, doc, pm, an, cdv, ct, osl, rfl, lk, hcd, hD, hK⟩ := F.ex
  rcases hD with ⟨_, rfl⟩ | ⟨e, _⟩
  · refine ⟨fun s us ws X l1 l2 => ?_, fun _ r => r⟩
    cases us with
    | nil => exact .of_eq (hbk kV doc pm an cdv ct ws l2)
    | cons _ _ => cases l1
  · exact absurd rfl e
theorem CalleeK.mono {j : Nat} {ks : List Str} (c : CalleeK P w K mg base j x ks sp) (h : j ≤ k) : CalleeK P w K mg base k x ks sp := by
  obtain ⟨f, fd, ps, F, r⟩ := c.ex
  exact ⟨f, fd, ps, F.mono h, r⟩
end
def wK (X : Cx) (kws : List Keyword) : TA := fun σ H Q => ∀ pos pins s, Inv X pins σ H s → wpAny (model X.prog X.w) X.A (evalAll ((backToKw pos (keywordEach kws X.env)).map (·.2))) (AP X pins σ Q) X.xe s
section
variable {X : Cx} {k j : Nat} {x : Str} {ks : List Str} {sp : Sp} {e : Expr} {kws : List Keyword} {p pos kpos : Pos} {σ : L2.St} {H : Hp} {Q : VK} {nm : Option Str}
theorem pK : PK X kws (wK X kws) := ⟨fun pos pins s σ H Q I h => h pos pins s I⟩
theorem w_knil {Q : List V → Hp → Prop} (h : Q [] H) : wK X [] σ H Q := fun pos pins s I => pk_nil.run pos pins s σ H Q I h
theorem w_kcons {Q : List V → Hp → Prop} (h : wE X e σ H fun a H1 => wK X kws σ H1 fun r H2 => Q (a :: r) H2) : wK X (⟨nm, e, kpos⟩ :: kws) σ H Q := fun pos pins s I => (pk_cons pE pK).run pos pins s σ H Q I h
theorem w_callK0 (C : CalleeK X.prog X.w X.K X.mg X.base j x ks sp) (hr : Room k X.A) (hj : j ≤ k) (hg : Gl X x) (h : wK X kws σ H fun us H1 => us.length = ks.length ∧ sp us H1 Q E0) (hdb : (x == ("__debug__" : Str)) = false := by decide +kernel)
    (hall : (backToKw pos (keywordEach kws X.env)).all (·.1.isSome) = true := by rfl) (hks : (backToKw pos (keywordEach kws X.env)).filterMap (·.1) = ks := by rfl)
    (hpl : ((backTo pos (starEach [] X.env)).any (·.1) || (backToKw pos (keywordEach kws X.env)).any (·.1.isNone)) = false := by rfl) : wE X (.Call (.Name x p) [] kws pos) σ H Q := by
  obtain ⟨f, fd, ps, F, hm, hk, hb⟩ := C.ex
  intro pins s I
  refine PySem.wpAny_Call_Name_kw (ld_glob I hg hm ?_ hdb)
  refine PySem.W.callWith_KW0 (h₀ := X.base) I.ok.mod.kin hk hall (thn (h pos pins s I) fun ws s2 ⟨zs, H2, I2, rz, l2, q2⟩ => ⟨I2.kIn, ?_⟩) hpl
  rw [hks]
  exact run_fnN F (hr.mono hj) hb passL I2 .nil rz rfl l2 q2
end

/-! ### the least of a tuple -/
section
variable {prog : Program} {w : World} {A : Around} {E : Value → Shared → Prop} {s : Shared} {l : Addr}
theorem iter_tup {xs : Array (Int × Tok)} {Q : Value → Shared → Prop} (hl : s.heap.IsTuple l (intItems xs))
    (h : ∀ s₂ : Shared, s₂ = { s with heap := s.heap.push { cls := .type "tuple_iterator", data := .fields #[.ref l, .int 0 0] } } →
      (s₂.heap.IsTupleIter s.heap.objs.size l 0 ∧ s₂.heap.IsTuple l (intItems xs)) → (∀ b ∈ [s.heap.objs.size, l], b < s₂.heap.objs.size) → l ≠ s.heap.objs.size → Q (.ref s.heap.objs.size) s₂) :
    wpAny (model prog w) A (pyIter (.ref l)) Q E s := by
  have hlt : l < s.heap.objs.size := by obtain ⟨_, e, _⟩ := hl; exact Heap.lt_size e
  refine wpAny_pyIter_tuple hl (h _ rfl ⟨⟨_, Heap.get?_push_size _ rfl, rfl, rfl⟩, hl.push _⟩ (fun b hb => ?_) (Nat.ne_of_lt hlt))
  show b < (s.heap.push _).objs.size
  rw [Heap.size_push]
  rcases List.mem_cons.mp hb with rfl | hb
  · exact Nat.lt_succ_self _
  · rcases List.mem_cons.mp hb with rfl | hb
    · exact Nat.lt_succ_of_lt hlt
    · cases hb
theorem old_tup {h' : Heap} (hk : ∀ b o, b ∉ [s.heap.objs.size] → (s.heap.push { cls := .type "tuple_iterator", data := .fields #[.ref l, .int 0 0] }).get? b = some o → h'.get? b = some o) :
    ∀ b o, s.heap.get? b = some o → h'.get? b = some o := fun b o e => by
  refine hk b o (fun hm => ?_) (Heap.get?_push_of_some _ e)
  rcases List.mem_cons.mp hm with e1 | hm
  · exact absurd (e1 ▸ Heap.lt_size e) (Nat.lt_irrefl _)
  · cases hm
theorem minT_raw {its : List Value} {ns : List Int} {Q : Value → Shared → Prop} (hh : A.handled = none) (hl : s.heap.IsTuple l its.toArray) (hi : IntsAre its ns) (hne : 0 < ns.length)
    (h : ∀ h' tk M t', (∀ b o, s.heap.get? b = some o → h'.get? b = some o) → M ∈ ns → (∀ a, a ∈ ns → M ≤ a) → Q (.int M t') { s with heap := h', toks := tk }) : wpAny (model prog w) A (call (.builtin "min") [.ref l]) Q E s := by
  obtain ⟨xs, e⟩ := hi.allInts.items
  have hn : numsOf (intItems xs).toList = ns := by rw [← e]; exact hi.numsOf
  rw [nums_intItems] at hn
  subst hn
  rw [e] at hl
  have hsz : 0 < xs.size := by simpa using hne
  refine call_min_walk (iter_tup hl fun s₂ e st hfp hlI => ?_)
  subst e
  refine ⟨_, _, _, _, _, _, _, rfl, Walks.tuple (A := A.in1) hh _ l hlI (intItems xs), st, hfp, by simpa [intItems] using hsz, CmpOf.ints_lt (numAt xs) (fun _ _ => intItems_at), fun v h' tk hP hk => ?_⟩
  have hv : (intItems xs)[argBest (fun i j => decide (numAt xs i < numAt xs j)) (xs.size - 1)]? = some v := by simpa [intItems] using hP
  obtain ⟨t, rfl⟩ := intItems_at hv
  obtain ⟨h1, h2⟩ := argBest_lt (numAt xs) (xs.size - 1)
  refine h h' tk _ t (old_tup hk) ?_ fun a ha => ?_
  · rw [numAt_eq]; exact PySem.getD_mem (by rw [List.length_map, Array.length_toList]; omega)
  · obtain ⟨j, hj, rfl⟩ := mem_getD ha
    rw [List.length_map, Array.length_toList] at hj
    rw [← numAt_eq]; exact h2 j (by omega)
end
section
variable {X : Cx}
def rMinT (K : PySem.W.Frag) : List V → Hp → VK → Prop := fun vs H Q => ∃ (a : Addr) (ns : List Int), vs = [V.ref a] ∧ SqT K H a (ns.map V.int) ∧ 0 < ns.length ∧ ∀ m, m ∈ ns → (∀ y, y ∈ ns → m ≤ y) → Q (.int m) H
theorem cr_minT (hc : X.calm = true) : CallR X (.builtin "min") (rMinT X.K) := by
  intro pins s σ H vs us Q I r h
  obtain ⟨a, ns, rfl, hs, hne, q⟩ := h
  obtain ⟨its, rv, hl, _⟩ := I.tuple hs
  rw [Vals.ref1 r]
  exact minT_raw (I.ok.hd hc) hl rv.ints hne fun h' tk m t' hk h1 h2 => ⟨.int _, H, I.kept hk, ⟨_, rfl⟩, q m h1 h2⟩
end

/-! ### joined lists, lists times a number -/
section
variable {X : Cx} {e e1 e2 : Expr} {es : List Expr} {σ : L2.St} {H B : Hp} {l : List Ob} {Q : VK} {p a b : Addr} {xs ys : List V} {v : V} {pos p' : Pos} {k : Int} {z z1 z2 : Str}
theorem w_cat (h : wE X e1 σ H fun x H1 => wE X e2 σ H1 fun y H2 => ∃ a b xs zs, x = .ref a ∧ y = .ref b ∧ H2 a = some (.lst xs) ∧ H2 b = some (.lst zs) ∧ xs.length + zs.length ≤ 100000 ∧ ∀ p, H2 p = none → Q (.ref p) (upd H2 p (.lst (xs ++ zs)))) : wE X (.BinOp e1 .Add e2 pos) σ H Q :=
  w_op op_cat (wE_mono h fun x H1 h => wE_mono h fun y H2 ⟨a, b, xs, zs, e1, e2, h1, h2, h3, q⟩ => ⟨a, b, xs, zs, e1, e2, h1, h2, by rw [sizeLine_eq]; omega, q⟩)
theorem w_rep {p1 p2 : Pos} (c : Cfg B l H) (h : EA X es σ B l xs) (hx : xs.length ≤ 100000) (h2 : EV X e2 σ B l (.int k)) (hk : -(2 ^ 63) ≤ k ∧ k < 2 ^ 63) (hn : xs.length * k.toNat ≤ 100000) (q : ∀ a H3, Ex H H3 → Cfg B ((a, .lst (List.replicate k.toNat xs).flatten) :: l) H3 → Q (.ref a) H3) : wE X (.BinOp (.List es p1) .Mult e2 p2) σ H Q :=
  w_op op_rep (n_lst c h hx fun p H1 e1 c1 => go h2 c1.drop fun H2 e2 c2 => ⟨p, k, xs, rfl, rfl, e2 _ _ (c1.look List.mem_cons_self), hk.1, hk.2, by rw [sizeLine_eq]; omega, fun a ha => q a _ ((e1.trans e2).trans (Ex.new ha)) (c2.add ha)⟩)
/-- [e, ..][i] -/
theorem e_pick {p1 p2 : Pos} {i : Int} (h : EA X es σ B l xs) (hx : xs.length ≤ 100000) (h2 : EV X e2 σ B l (.int i)) (ha : atI xs i = some v) (hs : PlainIx e2 := by exact fun _ _ => rfl) : EV X (.Subscript (.List es p1) e2 p2) σ B l v := ⟨fun H c H1 x1 Q q =>
  w_ix ix_list (n_lst (c.mono x1) h hx fun p H2 x2 c2 => go h2 c2.drop fun H3 x3 c3 => ⟨p, xs, i, v, rfl, rfl, SqL.of (x3 _ _ (c2.look List.mem_cons_self)), ha, q H3 (x2.trans x3)⟩) hs⟩
theorem w_pick {p1 p2 : Pos} (c : Cfg B l H) (h : EA X es σ B l xs) (hx : xs.length ≤ 100000) (h2 : ∀ p H1, Ex H H1 → Cfg B ((p, .lst xs) :: l) H1 → wE X e2 σ H1 fun y H2 => ∃ (i : Int) (v : V), y = .int i ∧ H2 p = some (.lst xs) ∧ atI xs i = some v ∧ Q v H2) (hs : PlainIx e2 := by exact fun _ _ => rfl) : wE X (.Subscript (.List es p1) e2 p2) σ H Q :=
  w_ix ix_list (n_lst c h hx fun p H1 e1 c1 => wE_mono (h2 p H1 e1 c1) fun y H2 ⟨i, v, e1, e2, e3, q⟩ => ⟨p, xs, i, v, rfl, e1, SqL.of e2, e3, q⟩) hs
theorem atI_last {ys : List V} {w : V} : atI (ys ++ [w]) (-1) = some w := by
  have e : ixN (ys ++ [w]).length (-1) = some ys.length := by
    unfold ixN
    rw [List.length_append]
    simp
    omega
  unfold atI
  rw [e]
  simp
/-! ### texts -/
theorem e_m1 {S : String} {nm : Str} {id : String} {r : V → List V → Hp → VK → Prop} {ap : Pos} {u w : V} (pa : PlainAttrs S) (slot : PySem.Slot S nm id) (hty : typeOf (.builtin id) = pure (.type "method_descriptor")) (hm : MtR X id r)
    (h1 : EV X e1 σ B l u) (h2 : EV X e2 σ B l w) (ht : ∀ H, Cfg B l H → tyV X.K S u H) (hr : ∀ H, Cfg B l H → ∀ Q : VK, (∀ H1, Ex H H1 → Q v H1) → r u [w] H Q) (hbase : attributeBase e1 nm X.env (eval e1 X.env) = eval e1 X.env := by rfl)
    (hfew : ((backTo pos (starEach (e2 :: []) X.env)).all (fun x => !x.1) && (backToKw pos (keywordEach [] X.env)).all (fun x => x.1.isSome)
      && decide ((e2 :: []).length + ([] : List Keyword).length + (if ([] : List Keyword).isEmpty then 0 else 1) < 30)) = true := by rfl)
    (hline : (ap.endLine == pos.line) = true := by rfl) (hs : starEach (e2 :: []) X.env = (false, eval e2 X.env) :: starEach [] X.env := by rfl) (hplain : (backTo pos (starEach [] X.env)).any (·.1) = false := by rfl) :
    EV X (.Call (.Attribute e1 nm ap) [e2] [] pos) σ B l v := ⟨fun H c H1 x1 Q q =>
  w_bm pa slot hty hm (go h1 (c.mono x1) fun H2 x2 c2 => ⟨ht H2 c2, w_acons (go h2 c2 fun H3 x3 c3 => w_anil (hr H3 c3 _ fun H4 x4 => q H4 ((x2.trans x3).trans x4))) hs⟩) hbase hfew hline hs hplain⟩
theorem e_find {ap : Pos} (h1 : EV X e1 σ B l (.str z1)) (h2 : EV X e2 σ B l (.str z2)) (hi : Txt.find z1 z2 = k) (hbase : attributeBase e1 ("find" : Str) X.env (eval e1 X.env) = eval e1 X.env := by rfl)
    (hfew : ((backTo pos (starEach (e2 :: []) X.env)).all (fun x => !x.1) && (backToKw pos (keywordEach [] X.env)).all (fun x => x.1.isSome)
      && decide ((e2 :: []).length + ([] : List Keyword).length + (if ([] : List Keyword).isEmpty then 0 else 1) < 30)) = true := by rfl)
    (hline : (ap.endLine == pos.line) = true := by rfl) (hs : starEach (e2 :: []) X.env = (false, eval e2 X.env) :: starEach [] X.env := by rfl) (hplain : (backTo pos (starEach [] X.env)).any (·.1) = false := by rfl) :
    EV X (.Call (.Attribute e1 "find" ap) [e2] [] pos) σ B l (.int k) :=
  e_m1 PySem.F.plainAttrs_str PySem.F.slot_str_find PySem.F.type_str_find mt_find h1 h2 (fun H c => rfl) (fun H c Q q => ⟨z1, z2, rfl, rfl, by rw [hi]; exact q H (Ex.refl H)⟩) hbase hfew hline hs hplain
theorem e_sindex {ap : Pos} {i : Nat} {rest : List Nat} (h1 : EV X e1 σ B l (.str z1)) (h2 : EV X e2 σ B l (.str z2)) (hi : Builtin.Str.occurrences z1 z2 0 z1.length 1 = i :: rest) (hbase : attributeBase e1 ("index" : Str) X.env (eval e1 X.env) = eval e1 X.env := by rfl)
    (hfew : ((backTo pos (starEach (e2 :: []) X.env)).all (fun x => !x.1) && (backToKw pos (keywordEach [] X.env)).all (fun x => x.1.isSome)
      && decide ((e2 :: []).length + ([] : List Keyword).length + (if ([] : List Keyword).isEmpty then 0 else 1) < 30)) = true := by rfl)
    (hline : (ap.endLine == pos.line) = true := by rfl) (hs : starEach (e2 :: []) X.env = (false, eval e2 X.env) :: starEach [] X.env := by rfl) (hplain : (backTo pos (starEach [] X.env)).any (·.1) = false := by rfl) :
    EV X (.Call (.Attribute e1 "index" ap) [e2] [] pos) σ B l (.int (i : Nat)) :=
  e_m1 PySem.F.plainAttrs_str PySem.F.slot_str_index PySem.F.type_str_index mt_sindex h1 h2 (fun H c => rfl) (fun H c Q q => ⟨z1, z2, i, rest, rfl, rfl, hi, q H (Ex.refl H)⟩) hbase hfew hline hs hplain
/-- z[:hi] -/
theorem e_cutTo {p2 : Pos} {i : Int} (h1 : EV X e1 σ B l (.str z)) (hz : z.length ≤ 100000) (h2 : EV X e2 σ B l (.int i)) : EV X (.Subscript e1 (.Slice none (some e2) none p2) pos) σ B l (.str (cutS z none (some i))) :=
  ev_of (pe_slice sl_str pE po_none (po_some pE)) fun H c H1 x1 Q q => h1 H c H1 x1 _ fun H2 x2 => h2 H c H2 (x1.trans x2) _ fun H3 x3 => ⟨i, rfl, z, rfl, sz_of hz, q H3 (x2.trans x3)⟩
/-- z[lo:] -/
theorem e_cutFrom {p2 : Pos} {i : Int} (h1 : EV X e1 σ B l (.str z)) (hz : z.length ≤ 100000) (h2 : EV X e2 σ B l (.int i)) : EV X (.Subscript e1 (.Slice (some e2) none none p2) pos) σ B l (.str (cutS z (some i) none)) :=
  ev_of (pe_slice sl_str pE (po_some pE) po_none) fun H c H1 x1 Q q => h1 H c H1 x1 _ fun H2 x2 => h2 H c H2 (x1.trans x2) _ fun H3 x3 => ⟨i, rfl, z, rfl, sz_of hz, q H3 (x2.trans x3)⟩
theorem c_ltS (h1 : EV X e1 σ B l (.str z1)) (h2 : EV X e2 σ B l (.str z2)) : EC X .Lt e1 e2 σ B l (decide (z1.cps.toList < z2.cps.toList)) := ec_R op_lt_str h1 h2 fun H c H1 x1 Q q => ⟨z1, z2, rfl, rfl, q H1 (Ex.refl H1)⟩
/-! ### tables of the module -/
theorem e_tabS (h1 : EV X e1 σ B l (.ref p)) (h2 : EV X e2 σ B l (.str z)) (hk : KDct X.K X.w p z v) (hs : PlainIx e2 := by exact fun _ _ => rfl) : EV X (.Subscript e1 e2 pos) σ B l v :=
  ev_of (pe_ix ix_kdict pE pE hs) fun H c => ev_op (h1 H c) (h2 H c) fun H1 x1 Q q => ⟨p, z, v, rfl, rfl, hk, q H1 (Ex.refl H1)⟩
/-! ### tuple(xs), min, max -/
theorem w_tupleL (c : Cfg B l H) (hg : Gl X "tuple") (hm : X.mg "tuple" = none) (h : wE X e σ H fun v H1 => ∃ a ys, v = .ref a ∧ SqL X.K H1 a ys ∧ ∀ p, H1 p = none → Q (.ref p) (upd H1 p (.tup ys))) (hs : starEach [e] X.env = (false, eval e X.env) :: starEach [] X.env := by rfl) (hpl : (backTo pos (starEach [] X.env)).any (·.1) = false := by rfl) :
    wE X (.Call (.Name "tuple" p') [e] [] pos) σ H Q :=
  w_callTy call_tuple_of hg hm (by decide +kernel) (w_acons (wE_mono h fun v H1 ⟨a, ys, e1, hq, q⟩ => w_anil ⟨a, ys, by rw [e1], Or.inl ⟨hq, q⟩⟩) hs) (by decide) (by decide) hs hpl
theorem e_minT {ns : List Int} {m : Int} (hc : X.calm = true) (hg : Gl X "min") (hm : X.mg "min" = none) (h : EV X e σ B l (.ref p)) (hl : Tup X.K B l p (ns.map V.int)) (h1 : m ∈ ns) (h2 : ∀ y ∈ ns, m ≤ y) (hs : starEach [e] X.env = (false, eval e X.env) :: starEach [] X.env := by rfl) (hpl : (backTo pos (starEach [] X.env)).any (·.1) = false := by rfl) :
    EV X (.Call (.Name "min" p') [e] [] pos) σ B l (.int m) :=
  e_callB (cr_minT hc) hg hm (by decide +kernel) (a_cons h a_nil hs) (fun H c H1 e1 Q q => ⟨p, ns, rfl, ex_t e1 (hl H c), List.length_pos_of_mem h1, fun m' a b => by
    rw [show m' = m from Int.le_antisymm (b m h1) (h2 m' a)]
    exact q H1 (Ex.refl H1)⟩) (by decide) (by decide) hs hpl
theorem e_maxL {ns : List Int} {m : Int} (hc : X.calm = true) (hg : Gl X "max") (hm : X.mg "max" = none) (h : EV X e σ B l (.ref p)) (hl : Lst X.K B l p (ns.map V.int)) (h1 : m ∈ ns) (h2 : ∀ y ∈ ns, y ≤ m) (hs : starEach [e] X.env = (false, eval e X.env) :: starEach [] X.env := by rfl) (hpl : (backTo pos (starEach [] X.env)).any (·.1) = false := by rfl) :
    EV X (.Call (.Name "max" p') [e] [] pos) σ B l (.int m) :=
  e_callB (cr_max hc) hg hm (by decide +kernel) (a_cons h a_nil hs) (fun H c H1 e1 Q q => ⟨p, ns, rfl, ex_l e1 (hl H c), List.length_pos_of_mem h1, fun m' a b => by
    rw [show m' = m from Int.le_antisymm (h2 m' a) (b m h1)]
    exact q H1 (Ex.refl H1)⟩) (by decide) (by decide) hs hpl
/-! ### xs[i] += e -/
theorem get_list : PGet X (rIxL X.K) := by
  intro pins s σ H x y v u Q I rx ry h
  obtain ⟨p, xs, i, z, rfl, rfl, hq, he, q⟩ := h
  cases rx
  obtain ⟨t, rfl⟩ := ry
  obtain ⟨its, r, pl, hz⟩ := I.list hq
  obtain ⟨j, h1, h2, h3, h4, h5⟩ := atI_get he
  obtain ⟨w, ew, rw'⟩ := r.get h2
  have hl := r.length
  have hn := line63
  have fin : EP X pins σ Q w s := ⟨z, H, I, rw', q⟩
  by_cases h0 : 0 ≤ i
  · have hj : i.toNat = j := by
      rw [seqIndex_of h0 h5] at h1
      exact Option.some.inj h1
    exact wpAny_getItem_list pl.isList h0 (by omega) (by rw [hj]; simpa using ew) fin
  · have hj : (i + (its.toArray.size : Int)).toNat = j := by
      rw [seqIndex_neg (by omega) h4] at h1
      rw [List.size_toArray, ← hl]
      exact Option.some.inj h1
    exact wpAny_getItem_list_neg pl.isList (by omega) (by rw [List.size_toArray] <;> omega) (by omega) (by rw [hj]; simpa using ew) fin
/-- xs[i] += e, ints -/
theorem s_augL {f : Int → Int → Int} {op : Operator} {o i e : Expr} {rest : List Stmt} {D : Ends} {a c : Int} {q : Nat} {tpos : Pos} (hc : Cfg B l H) (hl : (p, HO.lst xs) ∈ l) (hp : PIp X op (ipI f)) (ho : EV X o σ B l (.ref p)) (hi : EV X i σ B l (.int (q : Int))) (hq : xs[q]? = some (.int a)) (he : EV X e σ B l (.int c))
    (hk : ∀ H1, Cfg B (put p (.lst (xs.set q (.int (f a c)))) l) H1 → wSs X rest D σ H1)
    (ha : ∀ ov iv new, augStore i ov iv new = (do holding [new, ov, iv] (setItem ov iv new); release [new, ov, iv] []; pure .next) := by intros; rfl) : wSs X (.AugAssign (.Subscript o i tpos) op e pos :: rest) D σ H := by
  have hlt : q < xs.length := by
    obtain ⟨h, _⟩ := List.getElem?_eq_some_iff.mp hq
    exact h
  have hat : atI xs (q : Int) = some (.int a) := by
    unfold atI
    rw [ixN_nat hlt]
    exact hq
  exact s_of (ps_augS pE pE get_list pE hp set_list ha) (go ho hc fun H1 e1 c1 => go hi c1 fun H2 e2 c2 => ⟨p, xs, _, _, rfl, rfl, SqL.of (c2.own _ _ hl), hat, go he c2 fun H3 e3 c3 => ⟨a, c, rfl, rfl, p, xs, (q : Int), q, rfl, rfl, c3.own _ _ hl, ixN_nat hlt, hk _ (c3.put hl)⟩⟩)
end
end QW
/-! QW8: names of the module, tables of tuples. -/
namespace QW
open PySem L2 Evl He
section
variable {X : Cx} {σ : L2.St} {B : Hp} {l : List Ob} {v : V} {u : Value} {x z : Str} {n : Int} {pos : Pos}
theorem e_gl (hg : Gl X x) (hm : X.mg x = some u) (r : RelV v u) (hd : (x == ("__debug__" : Str)) = false := by decide) : EV X (.Name x pos) σ B l v := ev_of (pe_glob hg hm r hd) fun H c => ev_c
theorem e_glI (hg : Gl X x) (hm : ∃ t, X.mg x = some (.int n t)) (hd : (x == ("__debug__" : Str)) = false := by decide) : EV X (.Name x pos) σ B l (.int n) := by
  obtain ⟨t, e⟩ := hm
  exact e_gl hg e ⟨t, rfl⟩ hd
theorem e_glS (hg : Gl X x) (hm : ∃ t, X.mg x = some (.str z t)) (hd : (x == ("__debug__" : Str)) = false := by decide) : EV X (.Name x pos) σ B l (.str z) := by
  obtain ⟨t, e⟩ := hm
  exact e_gl hg e ⟨t, rfl⟩ hd
end
/-- the tuple of ints at a place of the module -/
def intsB : List Value → List Int → Bool
  | [], [] => true
  | .int i _ :: us, j :: js => decide (i = j) && intsB us js
  | _, _ => false
theorem intsB_ok : ∀ {us : List Value} {js : List Int}, intsB us js = true → Vals (js.map V.int) us
  | [], [], _ => .nil
  | [], _ :: _, h => nomatch h
  | .int i t :: us, [], h => nomatch h
  | .int i t :: us, j :: js, h => by
    have h' : (decide (i = j) && intsB us js) = true := h
    rw [Bool.and_eq_true] at h'
    obtain rfl := of_decide_eq_true h'.1
    exact .cons ⟨t, rfl⟩ (intsB_ok h'.2)
def tupB (K : PySem.W.Frag) (a : Addr) (js : List Int) : Bool := match K.lookup a with
  | some ⟨.type T, _, .seq its _, _⟩ => decide (T = "tuple") && decide (its.size ≤ 1000) && intsB its.toList js
  | _ => false
theorem tupB_ok {K : PySem.W.Frag} {a : Addr} {js : List Int} (h : tupB K a js = true) (H : Hp) : SqT K H a (js.map V.int) := by
  unfold tupB at h
  split at h
  · rename_i T d its n sl e
    rw [Bool.and_eq_true, Bool.and_eq_true] at h
    obtain rfl := of_decide_eq_true h.1.1
    exact .inr ⟨_, its, n, e, rfl, rfl, by have := of_decide_eq_true h.1.2; rw [sizeLine_eq]; omega, intsB_ok h.2⟩
  · cases h
def tabTB (K : PySem.W.Frag) (d : Addr) (rows : List (Str × List Int)) : Bool := rows.all fun r => match PySem.W.nsIn K d r.1 with
  | some (some (.ref a)) => tupB K a r.2
  | _ => false
theorem tabTB_ok {K : PySem.W.Frag} {w : World} {d : Addr} {rows : List (Str × List Int)} {es : Array DictEntry} {n : Nat} (h : tabTB K d rows = true) (k : KDict K w d es n) {x : Str} {js : List Int} (m : (x, js) ∈ rows) : ∃ a, KDct K w d x (.ref a) ∧ ∀ H, SqT K H a (js.map V.int) := by
  have h1 := List.all_eq_true.mp h _ m
  dsimp only at h1
  split at h1
  · rename_i a e
    exact ⟨a, ⟨es, n, .ref a, k.at_, k.lit, e, rfl⟩, fun H => tupB_ok h1 H⟩
  · cases h1
end QW
/-! QW9: for, by what is walked. -/
namespace QW
open PySem L2 Evl
section
variable {X : Cx} {N : List Str} {sc : Scope} {kb : Nat} {e e1 e2 e3 : Expr} {body rest : List Stmt} {D : Ends} {σ : L2.St} {H B : Hp} {l : List Ob} {pos p' xp p1 p2 p3 : Pos} {j j1 j2 n : Nat} {x y : Str} {m lo hi : Int} {a : Addr} {xs : List V} {z : Str} {kk : Nat} {Pv : Nat → L2.St → Hp → Prop}
abbrev Turns (X : Cx) (body rest : List Stmt) (D : Ends) (Pv : Nat → L2.St → Hp → Prop) (i : Nat) (σ : L2.St) (H : Hp) : Prop := wSs X body { D with nx := Pv (i + 1), ct := Pv (i + 1), bk := wSs X rest D } σ H
theorem s_forR1 (b : Bd X N sc kb) (hg : Gl X "range") (hm : X.mg "range" = none) (o : Own X j x) (c : Cfg B l H) (h : EV X e σ B l (.int (n : Int))) (hn : n < 2 ^ 62) (Pv : Nat → L2.St → Hp → Prop) (h0 : ∀ H1, Ex H H1 → Cfg B l H1 → Pv 0 σ H1)
    (st : ∀ i σ' H', i < n → Pv i σ' H' → Turns X body rest D Pv i (σ'.set j (some (.int (i : Nat)))) H') (fin : ∀ σ' H', Pv n σ' H' → wSs X rest D σ' H')
    (hs : starEach [e] X.env = [(false, eval e X.env)] := by rfl) : wSs X (.For (.Name x xp) (.Call (.Name "range" p') [e] [] p1) body [] pos :: rest) D σ H :=
  s_for b.po b.calm (i_range1 hg hm c h ⟨by omega, by omega⟩ (fun H1 e1 c1 => ⟨walk_range, Pv, h0 H1 e1 c1, fun _ _ _ _ _ => trivial, fun i x' σ' H' H2 hi p y => by
    obtain ⟨rfl, rfl⟩ := y
    refine g_name o ?_
    have := st i σ' _ (by omega) p
    simpa using this, fun σ' H' p => fin σ' H' p⟩) hs)
theorem s_forR2 (b : Bd X N sc kb) (hg : Gl X "range") (hm : X.mg "range" = none) (o : Own X j x) (c : Cfg B l H) (h1 : EV X e1 σ B l (.int lo)) (h2 : EV X e2 σ B l (.int hi)) (hn : -(2 ^ 62) ≤ lo ∧ lo < 2 ^ 62 ∧ -(2 ^ 62) ≤ hi ∧ hi < 2 ^ 62) (Pv : Nat → L2.St → Hp → Prop) (h0 : ∀ H1, Ex H H1 → Cfg B l H1 → Pv 0 σ H1)
    (st : ∀ i σ' H', i < (hi - lo).toNat → Pv i σ' H' → Turns X body rest D Pv i (σ'.set j (some (.int (lo + (i : Nat))))) H') (fin : ∀ σ' H', Pv (hi - lo).toNat σ' H' → wSs X rest D σ' H')
    (hs : starEach [e1, e2] X.env = [(false, eval e1 X.env), (false, eval e2 X.env)] := by rfl) (hs2 : starEach [e2] X.env = [(false, eval e2 X.env)] := by rfl) : wSs X (.For (.Name x xp) (.Call (.Name "range" p') [e1, e2] [] p1) body [] pos :: rest) D σ H :=
  s_for b.po b.calm (i_range2 hg hm c h1 h2 hn (fun H1 e1 c1 => ⟨walk_range, Pv, h0 H1 e1 c1, fun _ _ _ _ _ => trivial, fun i x' σ' H' H2 hi p y => by
    obtain ⟨rfl, rfl⟩ := y
    exact g_name o (st i σ' _ hi p), fun σ' H' p => fin σ' H' p⟩) hs hs2)
theorem s_forR3 {ci : Int} (b : Bd X N sc kb) (hg : Gl X "range") (hm : X.mg "range" = none) (o : Own X j x) (c : Cfg B l H) (h : EA X [e1, e2, e3] σ B l [.int lo, .int hi, .int ci]) (hr : RgC lo hi ci n) (Pv : Nat → L2.St → Hp → Prop) (h0 : ∀ H1, Ex H H1 → Cfg B l H1 → Pv 0 σ H1)
    (st : ∀ i σ' H', i < n → Pv i σ' H' → Turns X body rest D Pv i (σ'.set j (some (.int (lo + (i : Nat) * ci)))) H') (fin : ∀ σ' H', Pv n σ' H' → wSs X rest D σ' H')
    (hs : starEach (e1 :: [e2, e3]) X.env = (false, eval e1 X.env) :: starEach [e2, e3] X.env := by rfl) (hpl : (backTo p1 (starEach [e2, e3] X.env)).any (·.1) = false := by rfl) : wSs X (.For (.Name x xp) (.Call (.Name "range" p') [e1, e2, e3] [] p1) body [] pos :: rest) D σ H :=
  s_for b.po b.calm (i_range3 hg hm c h hr (fun H1 e1 c1 => ⟨walk_rangeC, Pv, h0 H1 e1 c1, fun _ _ _ _ _ => trivial, fun i x' σ' H' H2 hi p y => by
    obtain ⟨rfl, rfl⟩ := y
    exact g_name o (st i σ' _ hi p), fun σ' H' p => fin σ' H' p⟩) hs hpl)
/-- for x in text -/
theorem s_forS (b : Bd X N sc kb) (o : Own X j x) (c : Cfg B l H) (h : EV X e σ B l (.str z)) (Pv : Nat → L2.St → Hp → Prop) (h0 : ∀ H1, Ex H H1 → Cfg B l H1 → Pv 0 σ H1)
    (st : ∀ i q σ' H', z.cps[i]? = some q → Pv i σ' H' → Turns X body rest D Pv i (σ'.set j (some (.str ⟨#[q]⟩))) H') (fin : ∀ σ' H', Pv z.cps.size σ' H' → wSs X rest D σ' H')
    (hs : ∀ x, foldedSetIterable e X.env x = pure x := by intro _; rfl) : wSs X (.For (.Name x xp) e body [] pos :: rest) D σ H :=
  s_for b.po b.calm (i_str c h (fun H1 e1 c1 => ⟨walk_str, Pv, h0 H1 e1 c1, fun _ _ _ _ _ => trivial, fun i x' σ' H' H2 hi p y => by
    obtain ⟨rfl, q, hq, rfl⟩ := y
    exact g_name o (st i q σ' _ hq p), fun σ' H' p => fin σ' H' p⟩)) hs
/-- for x in list -/
theorem s_forL (b : Bd X N sc kb) (o : Own X j x) (c : Cfg B l H) (h : EV X e σ B l (.ref a)) (hl : Lst X.K B l a xs) (Pv : Nat → L2.St → Hp → Prop) (h0 : ∀ H1, Ex H H1 → Cfg B l H1 → Pv 0 σ H1) (hG : ∀ i σ' H', Pv i σ' H' → SqL X.K H' a xs)
    (st : ∀ i q σ' H', xs[i]? = some q → Pv i σ' H' → Turns X body rest D Pv i (σ'.set j (some q)) H') (fin : ∀ σ' H', Pv xs.length σ' H' → wSs X rest D σ' H')
    (hs : ∀ x, foldedSetIterable e X.env x = pure x := by intro _; rfl) : wSs X (.For (.Name x xp) e body [] pos :: rest) D σ H :=
  s_for b.po b.calm (i_list c h hl (fun H1 e1 c1 => ⟨walk_list, Pv, h0 H1 e1 c1, fun i σ' H' _ p => hG i σ' H' p, fun i x' σ' H' H2 hi p y => by
    obtain ⟨rfl, hq⟩ := y
    exact g_name o (st i x' σ' _ hq p), fun σ' H' p => fin σ' H' p⟩)) hs
theorem s_forT (b : Bd X N sc kb) (o : Own X j x) (c : Cfg B l H) (h : EV X e σ B l (.ref a)) (hl : Tup X.K B l a xs) (Pv : Nat → L2.St → Hp → Prop) (h0 : ∀ H1, Ex H H1 → Cfg B l H1 → Pv 0 σ H1) (hG : ∀ i σ' H', Pv i σ' H' → SqT X.K H' a xs)
    (st : ∀ i q σ' H', xs[i]? = some q → Pv i σ' H' → Turns X body rest D Pv i (σ'.set j (some q)) H') (fin : ∀ σ' H', Pv xs.length σ' H' → wSs X rest D σ' H')
    (hs : ∀ x, foldedSetIterable e X.env x = pure x := by intro _; rfl) : wSs X (.For (.Name x xp) e body [] pos :: rest) D σ H :=
  s_for b.po b.calm (i_tup c h hl (fun H1 e1 c1 => ⟨walk_tup, Pv, h0 H1 e1 c1, fun i σ' H' _ p => hG i σ' H' p, fun i x' σ' H' H2 hi p y => by
    obtain ⟨rfl, hq⟩ := y
    exact g_name o (st i x' σ' _ hq p), fun σ' H' p => fin σ' H' p⟩)) hs
/-- for i, x in enumerate(text | list | tuple) -/
theorem s_forE {S : Src} (b : Bd X N sc kb) (hg : Gl X "enumerate") (hm : X.mg "enumerate" = none) (o1 : Own X j1 x) (o2 : Own X j2 y) (c : Cfg B l H) (h : EV X e σ B l S.v) (ok : ∀ H, Cfg B l H → S.Ok X.K H) (Pv : Nat → L2.St → Hp → Prop) (h0 : ∀ H1, Ex H H1 → Cfg B l H1 → Pv 0 σ H1) (hG : ∀ i σ' H', Pv i σ' H' → S.Ok X.K H')
    (st : ∀ i q σ' H' H2, S.items[i]? = some q → Pv i σ' H' → Ex H' H2 → Turns X body rest D Pv i ((σ'.set j1 (some (.int (i : Nat)))).set j2 (some q)) H2) (fin : ∀ σ' H', Pv S.items.length σ' H' → wSs X rest D σ' H')
    (hs1 : starEach [e] X.env = [(false, eval e X.env)] := by rfl)
    (hn : (assignEach [(.Name x p1 : Expr), .Name y p2] X.env).length = 2 := by rfl) (hst : (assignEach [(.Name x p1 : Expr), .Name y p2] X.env).findIdx? (·.1) = none := by rfl)
    (hs3 : (assignEach ((.Name x p1 : Expr) :: [.Name y p2]) X.env).map (·.2) = assign (.Name x p1) X.env :: (assignEach [(.Name y p2 : Expr)] X.env).map (·.2) := by rfl) (hs2 : (assignEach ((.Name y p2 : Expr) :: []) X.env).map (·.2) = assign (.Name y p2) X.env :: (assignEach [] X.env).map (·.2) := by rfl)
    (hs : ∀ x, foldedSetIterable (.Call (.Name "enumerate" p') [e] [] p3) X.env x = pure x := by intro _; rfl) : wSs X (.For (.Tuple [.Name x p1, .Name y p2] kk xp) (.Call (.Name "enumerate" p') [e] [] p3) body [] pos :: rest) D σ H :=
  s_for b.po b.calm (i_enum hg hm c h ok (fun H1 e1 c1 => ⟨walk_N, Pv, h0 H1 e1 c1, fun i σ' H' _ p => hG i σ' H' p, fun i x' σ' H' H2 hi p yy => by
    obtain ⟨T, ys, rfl, hT, rfl, q, hq, rfl⟩ := yy
    exact g_tup2 b.calm (SqT.of upd_same) (g_name o1 (g_name o2 (st i q σ' H' _ hq p (Ex.new hT)))) hn hst hs3 hs2, fun σ' H' p => fin σ' H' p⟩) hs1) hs
end
end QW
/-! QW10: comprehensions, by what is walked. -/
namespace QW
open PySem L2 Evl
theorem blkOk {X : Cx} {N : List Str} {sc s : Scope} {k : Nat} {own : List (Str × Nat)} (b : Bd X N sc k) (h : BlkOk N sc s own) : BlkOk X.N X.env.scope s own := by
  rw [b.n, b.sc]; exact h
section
variable {X : Cx} {N : List Str} {sc s : Scope} {kb : Nat} {tg it elt c : Expr} {own : List (Str × Nat)} {σ : L2.St} {H B : Hp} {l : List Ob} {Q : VK} {pos spos py : Pos} {rest : List Stmt} {D : Ends} {i : Nat} {y : Str}
/-- what a comprehension needs of what it walks -/
def LcW (X : Cx) (sc : Scope) (tg elt : Expr) (vs : List Nat) (σ : L2.St) (Q : VK) : It → Hp → Prop := fun J H1 => ∃ (G : Hp → Prop) (Y : Nat → Hp → V → Hp → Prop) (n : Nat), LcAll G Y n (LcTurn X sc tg elt vs σ Y n) Q J H1
def LcWC (X : Cx) (sc : Scope) (tg c elt : Expr) (vs : List Nat) (σ : L2.St) (Q : VK) : It → Hp → Prop := fun J H1 => ∃ (G : Hp → Prop) (Y : Nat → Hp → V → Hp → Prop) (n : Nat), LcAll G Y n (LcTurnC X sc tg c elt vs σ Y n) Q J H1
theorem tLc_ofE (h : wI X tg it σ H (LcW X s tg elt (own.map (·.2)) σ Q)) : tLc (wI X tg it) (yG X s tg) tYes (yE X s elt) (own.map (·.2)) σ H Q :=
  wI_mono h fun J H1 ⟨G, Y, n, w, h1⟩ D hD => by
    obtain ⟨Pv, q0, q1, q2, q3⟩ := h1 D hD
    refine lc_it w Pv q0 q1 (fun i x H' H2 hi p y => ?_) q3
    intro X' b pins s u I r
    refine thn (q2 i x H' H2 hi p y X' b pins s u I r) fun _ s1 ⟨σ3, H3, I3, e3, q⟩ => ⟨σ3, H3, I3, e3, ?_⟩
    show tYes σ3 H3 _
    unfold tYes
    dsimp only
    rw [if_pos rfl]
    exact q
theorem tLc_ofEC (h : wI X tg it σ H (LcWC X s tg c elt (own.map (·.2)) σ Q)) : tLc (wI X tg it) (yG X s tg) (yT X s c) (yE X s elt) (own.map (·.2)) σ H Q :=
  wI_mono h fun J H1 ⟨G, Y, n, w, h1⟩ D hD => by
    obtain ⟨Pv, q0, q1, q2, q3⟩ := h1 D hD
    exact lc_it w Pv q0 q1 (fun i x H' H2 hi p y => q2 i x H' H2 hi p y) q3
theorem w_lcE (b : Bd X N sc kb) (own : List (Str × Nat)) (ok : BlkOk N sc s own) (h : wI X tg it σ H (LcW X s tg elt (own.map (·.2)) σ Q)) (hs : ∀ x, foldedSetIterable it X.env x = pure x := by intro _; rfl) :
    wE X (.ListComp elt [⟨tg, it, [], 0⟩] s pos) σ H Q := wE_of (pe_lc b.calm b.nd pI (blkOk b ok) yG_pg (fun _ _ _ _ _ => pts_nil) yE_pe hs) (tLc_ofE h)
theorem w_lcEC (b : Bd X N sc kb) (own : List (Str × Nat)) (ok : BlkOk N sc s own) (h : wI X tg it σ H (LcWC X s tg c elt (own.map (·.2)) σ Q)) (hs : ∀ x, foldedSetIterable it X.env x = pure x := by intro _; rfl) :
    wE X (.ListComp elt [⟨tg, it, [c], 0⟩] s pos) σ H Q := wE_of (pe_lc b.calm b.nd pI (blkOk b ok) yG_pg (fun s H C cl fp => pts_one (yT_pt s H C cl fp)) yE_pe hs) (tLc_ofEC h)
theorem s_lcE (b : Bd X N sc kb) (own : List (Str × Nat)) (o : Own X i y) (hyl : sc.names.lookup y = some .local) (hsw : swapsWith (.ListComp elt [⟨tg, it, [], 0⟩] s pos) (some (.Name y py)) spos.line X.env = pure true) (ok : BlkOk N sc s own)
    (h : wI X tg it σ H (LcW X s tg elt (own.map (·.2)) σ fun v H1 => wSs X rest D (σ.set i (some v)) H1)) (hs : ∀ x, foldedSetIterable it X.env x = pure x := by intro _; rfl) :
    wSs X (.Assign [.Name y py] (.ListComp elt [⟨tg, it, [], 0⟩] s pos) spos :: rest) D σ H := s_of (ps_setLc b.calm o.nd o.s.n (by rw [b.sc]; exact hyl) hsw pI (blkOk b ok) yG_pg (fun _ _ _ _ _ => pts_nil) yE_pe hs) (tLc_ofE h)
/-- a comprehension of values: over one walked thing, its target a name -/
theorem lcw_1 {x : Str} {j n : Nat} {p2 : Pos} {G : Hp → Prop} {J : It} {H1 : Hp} {f : Nat → V} (b : Bd X N sc kb) (w : Walk J n G (YFn f)) (cc : Cfg B l H1) (hn : n ≤ 100000) (hG : ∀ H, Cfg B l H → G H) (hj : N[j]? = some x) (hl : (relS s sc).names.lookup x = some .local) (y : Nat → V)
    (he : ∀ i, i < n → ∀ X', Blk X s X' → EV X' elt ((wipe σ [j]).set j (some (f i))) B l (y i)) (hw : ∀ v, wipe ((wipe σ [j]).set j (some v)) [j] = wipe σ [j])
    (k : ∀ D H2, H1 D = none → Cfg B ((D, .lst ((List.range n).map y)) :: l) H2 → Q (.ref D) H2) : LcW X s (.Name x p2) elt [j] σ Q J H1 :=
  ⟨G, YFn f, n, lc_vals (own := [(x, j)]) w cc hn hG y (fun i x' H' H2 hi c' yy => by
    obtain ⟨rfl, rfl⟩ := yy
    exact ⟨Ex.refl _, fun Qs q => yg_name b.nd (by rw [b.n]; exact hj) (by rw [b.sc]; exact hl) (q _ _ c' (Ex.refl _) (he i hi) (hw _))⟩) k⟩
theorem lcw_L {x : Str} {j : Nat} {p2 : Pos} {J : It} {H1 : Hp} {a : Addr} {xs : List V} (b : Bd X N sc kb) (w : Walk J xs.length (fun H => SqL X.K H a xs) (YAt xs)) (cc : Cfg B l H1) (hn : xs.length ≤ 100000) (hG : Lst X.K B l a xs) (hj : N[j]? = some x) (hl : (relS s sc).names.lookup x = some .local) (y : Nat → V)
    (he : ∀ i u, xs[i]? = some u → ∀ X', Blk X s X' → EV X' elt ((wipe σ [j]).set j (some u)) B l (y i)) (hw : ∀ v, wipe ((wipe σ [j]).set j (some v)) [j] = wipe σ [j])
    (k : ∀ D H2, H1 D = none → Cfg B ((D, .lst ((List.range xs.length).map y)) :: l) H2 → Q (.ref D) H2) : LcW X s (.Name x p2) elt [j] σ Q J H1 :=
  ⟨_, YAt xs, xs.length, lc_vals (own := [(x, j)]) w cc hn (fun H c => hG H c) y (fun i x' H' H2 hi c' yy => by
    obtain ⟨rfl, hu⟩ := yy
    exact ⟨Ex.refl _, fun Qs q => yg_name b.nd (by rw [b.n]; exact hj) (by rw [b.sc]; exact hl) (q _ _ c' (Ex.refl _) (he i _ hu) (hw _))⟩) k⟩
/-- over zip(a, b) -/
theorem lcw_Z {x1 x2 : Str} {j1 j2 kk : Nat} {p1 p2 p3 : Pos} {H1 : Hp} {S1 S2 : Src} (b : Bd X N sc kb) (cc : Cfg B l H1) (hn : min S1.items.length S2.items.length ≤ 100000) (hG : ∀ H, Cfg B l H → S1.Ok X.K H ∧ S2.Ok X.K H)
    (hj1 : N[j1]? = some x1) (hj2 : N[j2]? = some x2) (hl1 : (relS s sc).names.lookup x1 = some .local) (hl2 : (relS s sc).names.lookup x2 = some .local) (y : Nat → V)
    (he : ∀ i u v, S1.items[i]? = some u → S2.items[i]? = some v → ∀ X', Blk X s X' → EV X' elt (((wipe σ [j1, j2]).set j1 (some u)).set j2 (some v)) B l (y i)) (hw : ∀ u v, wipe (((wipe σ [j1, j2]).set j1 (some u)).set j2 (some v)) [j1, j2] = wipe σ [j1, j2])
    (k : ∀ D H2, H1 D = none → Cfg B ((D, .lst ((List.range (min S1.items.length S2.items.length)).map y)) :: l) H2 → Q (.ref D) H2) :
    LcW X s (.Tuple [.Name x1 p1, .Name x2 p2] kk p3) elt [j1, j2] σ Q (ItN (fun H => S1.Ok X.K H ∧ S2.Ok X.K H) (min S1.items.length S2.items.length) (rowZ S1 S2)) H1 :=
  ⟨_, _, _, lc_vals (own := [(x1, j1), (x2, j2)]) walk_N cc hn hG y (fun i x' H' H2 hi c' yy => by
    obtain ⟨T, ys, rfl, hT, rfl, u, v, hu, hv, rfl⟩ := yy
    exact ⟨Ex.new hT, fun Qs q => yg_tup2 b.calm b.nd (by rw [b.n]; exact hj1) (by rw [b.n]; exact hj2) (by rw [b.sc]; exact hl1) (by rw [b.sc]; exact hl2) (SqT.of upd_same) (q _ _ (c'.mono (Ex.new hT)) (Ex.refl _) (he i u v hu hv) (hw u v))⟩) k⟩
end
end QW
/-! QW11: joins: what holds behind a break, behind an if. -/
namespace QW
open PySem L2 Evl
section
variable {X : Cx} {N : List Str} {sc : Scope} {kb : Nat} {e e1 e2 e3 : Expr} {body els rest sts : List Stmt} {D D' : Ends} {σ : L2.St} {H B : Hp} {l : List Ob} {pos p' xp p1 p2 p3 : Pos} {j j1 j2 n i : Nat} {x y : Str} {m lo hi : Int} {a : Addr} {xs : List V} {z : Str} {kk : Nat} {Pv : Nat → L2.St → Hp → Prop} {b1 : Bool}
theorem wSs_mono (h : wSs X sts D σ H) (nx : ∀ σ' H', D.nx σ' H' → D'.nx σ' H') (rt : ∀ v H', D.rt v H' → D'.rt v H') (bk : ∀ σ' H', D.bk σ' H' → D'.bk σ' H') (ct : ∀ σ' H', D.ct σ' H' → D'.ct σ' H') : wSs X sts D' σ H := fun pins s I =>
  thn (h pins s I) fun f s' q => by
    cases f with
    | next => obtain ⟨a, b, c, d⟩ := q; exact ⟨a, b, c, nx _ _ d⟩
    | brk => obtain ⟨a, b, c, d⟩ := q; exact ⟨a, b, c, bk _ _ d⟩
    | cont => obtain ⟨a, b, c, d⟩ := q; exact ⟨a, b, c, ct _ _ d⟩
    | ret u => obtain ⟨v, a, b, c, r, d⟩ := q; exact ⟨v, a, b, c, r, rt _ _ d⟩
abbrev TurnsB (X : Cx) (body : List Stmt) (rt : VK) (Pv : Nat → L2.St → Hp → Prop) (Bk : L2.St → Hp → Prop) (i : Nat) (σ : L2.St) (H : Hp) : Prop := wSs X body { nx := Pv (i + 1), ct := Pv (i + 1), bk := Bk, rt := rt } σ H
theorem turnsB {Bk : L2.St → Hp → Prop} (hb : ∀ σ' H', Bk σ' H' → wSs X rest D σ' H') (h : TurnsB X body D.rt Pv Bk i σ H) : Turns X body rest D Pv i σ H :=
  wSs_mono h (fun _ _ z => z) (fun _ _ z => z) hb fun _ _ z => z
/-- if, one assertion behind it -/
theorem s_ifJ {cc : Expr} (R : L2.St → Hp → Prop) (c : Cfg B l H) (h : ET X cc σ B l b1) (h1 : b1 = true → ∀ H1, Ex H H1 → Cfg B l H1 → wSs X body { D with nx := R } σ H1) (h2 : b1 = false → ∀ H1, Ex H H1 → Cfg B l H1 → wSs X els { D with nx := R } σ H1)
    (hR : ∀ σ' H', R σ' H' → wSs X rest D σ' H') : wSs X (.If cc body els pos :: rest) D σ H :=
  s_ifV c h (fun q H1 e c1 => wSs_mono (h1 q H1 e c1) hR (fun _ _ z => z) (fun _ _ z => z) fun _ _ z => z) fun q H1 e c1 => wSs_mono (h2 q H1 e c1) hR (fun _ _ z => z) (fun _ _ z => z) fun _ _ z => z
theorem s_forSB (b : Bd X N sc kb) (o : Own X j x) (c : Cfg B l H) (h : EV X e σ B l (.str z)) (Pv : Nat → L2.St → Hp → Prop) (Bk : L2.St → Hp → Prop) (h0 : ∀ H1, Ex H H1 → Cfg B l H1 → Pv 0 σ H1)
    (st : ∀ i q σ' H', z.cps[i]? = some q → Pv i σ' H' → TurnsB X body D.rt Pv Bk i (σ'.set j (some (.str ⟨#[q]⟩))) H') (fin : ∀ σ' H', Pv z.cps.size σ' H' → wSs X rest D σ' H') (hb : ∀ σ' H', Bk σ' H' → wSs X rest D σ' H')
    (hs : ∀ x, foldedSetIterable e X.env x = pure x := by intro _; rfl) : wSs X (.For (.Name x xp) e body [] pos :: rest) D σ H :=
  s_forS b o c h Pv h0 (fun i q σ' H' a p => turnsB hb (st i q σ' H' a p)) fin hs
theorem s_forLB (b : Bd X N sc kb) (o : Own X j x) (c : Cfg B l H) (h : EV X e σ B l (.ref a)) (hl : Lst X.K B l a xs) (Pv : Nat → L2.St → Hp → Prop) (Bk : L2.St → Hp → Prop) (h0 : ∀ H1, Ex H H1 → Cfg B l H1 → Pv 0 σ H1) (hG : ∀ i σ' H', Pv i σ' H' → SqL X.K H' a xs)
    (st : ∀ i q σ' H', xs[i]? = some q → Pv i σ' H' → TurnsB X body D.rt Pv Bk i (σ'.set j (some q)) H') (fin : ∀ σ' H', Pv xs.length σ' H' → wSs X rest D σ' H') (hb : ∀ σ' H', Bk σ' H' → wSs X rest D σ' H')
    (hs : ∀ x, foldedSetIterable e X.env x = pure x := by intro _; rfl) : wSs X (.For (.Name x xp) e body [] pos :: rest) D σ H :=
  s_forL b o c h hl Pv h0 hG (fun i q σ' H' a p => turnsB hb (st i q σ' H' a p)) fin hs
theorem s_forR1B (b : Bd X N sc kb) (hg : Gl X "range") (hm : X.mg "range" = none) (o : Own X j x) (c : Cfg B l H) (h : EV X e σ B l (.int (n : Int))) (hn : n < 2 ^ 62) (Pv : Nat → L2.St → Hp → Prop) (Bk : L2.St → Hp → Prop) (h0 : ∀ H1, Ex H H1 → Cfg B l H1 → Pv 0 σ H1)
    (st : ∀ i σ' H', i < n → Pv i σ' H' → TurnsB X body D.rt Pv Bk i (σ'.set j (some (.int (i : Nat)))) H') (fin : ∀ σ' H', Pv n σ' H' → wSs X rest D σ' H') (hb : ∀ σ' H', Bk σ' H' → wSs X rest D σ' H')
    (hs : starEach [e] X.env = [(false, eval e X.env)] := by rfl) : wSs X (.For (.Name x xp) (.Call (.Name "range" p') [e] [] p1) body [] pos :: rest) D σ H :=
  s_forR1 b hg hm o c h hn Pv h0 (fun i σ' H' a p => turnsB hb (st i σ' H' a p)) fin hs
end
end QW
/-! QW12: and, or, comparisons whose parts do something. -/
namespace QW
open PySem L2 Evl
section
variable {X : Cx} {e1 e2 : Expr} {σ : L2.St} {H B : Hp} {l : List Ob} {Q : VK} {pos : Pos} {b1 : Bool}
theorem w_or (h : wE X e1 σ H fun x H1 => ∃ c, x = .bl c ∧ if c = true then Q (.bl true) H1 else wE X e2 σ H1 Q) : wE X (.BoolOp .Or [e1, e2] pos) σ H Q := wE_of (pe_or pE (pe_one pE)) h
theorem w_and (h : wE X e1 σ H fun x H1 => ∃ c, x = .bl c ∧ if c = true then wE X e2 σ H1 Q else Q (.bl false) H1) : wE X (.BoolOp .And [e1, e2] pos) σ H Q := wE_of (pe_and pE (pe_one pE)) h
/-- the first part a value -/
theorem w_orV (c : Cfg B l H) (h : EV X e1 σ B l (.bl b1)) (h1 : b1 = true → ∀ H1, Ex H H1 → Cfg B l H1 → Q (.bl true) H1) (h2 : b1 = false → ∀ H1, Ex H H1 → Cfg B l H1 → wE X e2 σ H1 Q) : wE X (.BoolOp .Or [e1, e2] pos) σ H Q :=
  w_or (go h c fun H1 x1 c1 => ⟨b1, rfl, by
    cases b1 with
    | true => rw [if_pos rfl]; exact h1 rfl H1 x1 c1
    | false => rw [if_neg (by decide)]; exact h2 rfl H1 x1 c1⟩)
theorem w_andV (c : Cfg B l H) (h : EV X e1 σ B l (.bl b1)) (h1 : b1 = true → ∀ H1, Ex H H1 → Cfg B l H1 → wE X e2 σ H1 Q) (h2 : b1 = false → ∀ H1, Ex H H1 → Cfg B l H1 → Q (.bl false) H1) : wE X (.BoolOp .And [e1, e2] pos) σ H Q :=
  w_and (go h c fun H1 x1 c1 => ⟨b1, rfl, by
    cases b1 with
    | true => rw [if_pos rfl]; exact h1 rfl H1 x1 c1
    | false => rw [if_neg (by decide)]; exact h2 rfl H1 x1 c1⟩)
theorem w_lt (h : wE X e1 σ H fun x H1 => wE X e2 σ H1 fun y H2 => ∃ i j, x = .int i ∧ y = .int j ∧ Q (.bl (decide (i < j))) H2) (h1 : behindInMarks .Lt e2 = false := by first | exact nobehind _ (by decide) (by decide) | rfl) : wE X (.Compare e1 [.Lt] [e2] pos) σ H Q :=
  wE_of (pe_cmp (pc_R op_lt pE pE) h1) h
theorem w_add (h : wE X e1 σ H fun x H1 => wE X e2 σ H1 fun y H2 => ∃ i j : Int, x = .int i ∧ y = .int j ∧ Q (.int (i + j)) H2) : wE X (.BinOp e1 .Add e2 pos) σ H Q := w_op op_add h
end
end QW
/-! k41, the plain law -/
namespace Law_k41
def pnext (p : List Int) : List Int := List.zipWith (· + ·) (0 :: p) (p ++ [0])
def pas : Nat → List Int
  | 0 => [1]
  | k + 1 => pnext (pas k)
theorem pas_len : ∀ k, (pas k).length = k + 1
  | 0 => rfl
  | k + 1 => by simp [pas, pnext, pas_len k]
def endZ (h l : Int) : Int := if h < 0 ∨ h > l ∨ (l - h) % 2 = 1 then 0 else if (l - h) / 2 = 0 then 1 else (pas l.toNat).getD ((l - h) / 2).toNat 0 - (pas l.toNat).getD ((l - h) / 2 - 1).toNat 0
def wnext (xs : List Int) : List Int := [xs.getD 1 0] ++ List.zipWith (· + ·) xs (xs.drop 2) ++ [0]
theorem wnext_map {xs : List Int} (h : xs.length = 122) : wnext xs = [xs.getD 1 0] ++ (List.range 120).map (fun i => xs.getD i 0 + xs.getD (i + 2) 0) ++ [0] := by
  unfold wnext
  congr 2
  apply List.ext_getElem?
  intro i
  rw [List.getElem?_zipWith, List.getElem?_map]
  by_cases c : i < 120
  · rw [List.getElem?_range c, List.getElem?_drop, Nat.add_comm 2 i, List.getElem?_eq_getElem (by omega : i < xs.length), List.getElem?_eq_getElem (by omega : i + 2 < xs.length)]
    show some (xs[i] + xs[i + 2]) = some (xs.getD i 0 + xs.getD (i + 2) 0)
    rw [List.getD_eq_getElem?_getD, List.getD_eq_getElem?_getD]
    rw [List.getElem?_eq_getElem (by omega : i < xs.length), List.getElem?_eq_getElem (by omega : i + 2 < xs.length)]
    rfl
  · rw [List.getElem?_drop, List.getElem?_eq_none (by omega : xs.length ≤ 2 + i), List.getElem?_eq_none (by rw [List.length_range]; omega : (List.range 120).length ≤ i)]
    cases xs[i]? <;> rfl
def wrow : Nat → List Int
  | 0 => [1] ++ List.replicate 121 0
  | k + 1 => wnext (wrow k)
theorem wrow_len : ∀ k, (wrow k).length = 122
  | 0 => by simp [wrow]
  | k + 1 => by
    show (wnext (wrow k)).length = 122
    simp [wnext, wrow_len k]
def w (l h : Nat) : Int := (wrow l).getD h 0
theorem w_00 : w 0 0 = 1 := rfl
theorem w_0 (h : Nat) : w 0 (h + 1) = 0 := by
  unfold w
  rw [List.getD_eq_getElem?_getD]
  show ((1 : Int) :: List.replicate 121 0)[h + 1]?.getD 0 = 0
  rw [List.getElem?_cons_succ, List.getElem?_replicate]
  split <;> rfl
theorem w_s0 (l : Nat) : w (l + 1) 0 = w l 1 := by
  unfold w
  show (wnext (wrow l)).getD 0 0 = _
  simp [wnext]
theorem w_s (l h : Nat) (hh : h < 120) : w (l + 1) (h + 1) = w l h + w l (h + 2) := by
  unfold w
  show (wnext (wrow l)).getD (h + 1) 0 = _
  rw [wnext_map (wrow_len l)]
  simp [wnext, List.getD_eq_getElem?_getD, List.getElem?_append, hh]
theorem w_hi (l h : Nat) (hh : 121 ≤ h) : w l h = 0 := by
  unfold w
  rw [List.getD_eq_getElem?_getD]
  cases l with
  | zero => 
    show ((1 : Int) :: List.replicate 121 0)[h]?.getD 0 = 0
    obtain ⟨m, rfl⟩ : ∃ m, h = m + 1 := ⟨h - 1, by omega⟩
    rw [List.getElem?_cons_succ, List.getElem?_replicate]
    split <;> rfl
  | succ l =>
    by_cases e : h = 121
    · subst e
      show (wnext (wrow l))[121]?.getD 0 = 0
      rw [wnext_map (wrow_len l)]
      simp
    · rw [List.getElem?_eq_none (by rw [wrow_len]; omega)]
      rfl
theorem w_nn : ∀ (l h : Nat), 0 ≤ w l h
  | 0, 0 => by rw [w_00]; decide
  | 0, h + 1 => by rw [w_0]; decide
  | l + 1, 0 => by rw [w_s0]; exact w_nn l 1
  | l + 1, h + 1 => by
    by_cases hh : h < 120
    · rw [w_s l h hh]
      have := w_nn l h
      have := w_nn l (h + 2)
      omega
    · rw [w_hi _ _ (by omega)]; decide
/-- a word by its number: up is true -/
def un : Nat → Nat → Int → List Bool
  | 0, _, _ => []
  | r + 1, h, k => if k < w r (h + 1) then true :: un r (h + 1) k else false :: un r (h - 1) (k - w r (h + 1))
def rk : List Bool → Nat → Int
  | [], _ => 0
  | true :: t, h => rk t (h + 1)
  | false :: t, h => w t.length (h + 1) + rk t (h - 1)
def Wd : List Bool → Nat → Prop
  | [], h => h = 0
  | true :: t, h => Wd t (h + 1)
  | false :: t, h => 0 < h ∧ Wd t (h - 1)
theorem un_len : ∀ (r h : Nat) (k : Int), (un r h k).length = r
  | 0, _, _ => rfl
  | r + 1, h, k => by
    unfold un
    split
    · simp [un_len r]
    · simp [un_len r]
theorem step_down {r h : Nat} {k : Int} (hr : h + (r + 1) ≤ 120) (k0 : 0 ≤ k) (k1 : k < w (r + 1) h) (c : ¬ k < w r (h + 1)) : 0 < h ∧ 0 ≤ k - w r (h + 1) ∧ k - w r (h + 1) < w r (h - 1) := by
  cases h with
  | zero =>
    rw [w_s0] at k1
    exact absurd k1 c
  | succ h =>
    rw [w_s r h (by omega)] at k1
    refine ⟨by omega, by omega, ?_⟩
    show _ < w r h
    have e : h + 1 + 1 = h + 2 := rfl
    rw [e] at c ⊢
    omega
theorem un_ok : ∀ (r h : Nat) (k : Int), h + r ≤ 120 → 0 ≤ k → k < w r h → Wd (un r h k) h ∧ rk (un r h k) h = k
  | 0, h, k, hr, k0, k1 => by
    cases h with
    | zero =>
      rw [w_00] at k1
      exact ⟨rfl, by show (0 : Int) = k; omega⟩
    | succ h =>
      rw [w_0] at k1
      omega
  | r + 1, h, k, hr, k0, k1 => by
    unfold un
    split
    · rename_i c
      obtain ⟨a, b⟩ := un_ok r (h + 1) k (by omega) k0 c
      exact ⟨a, b⟩
    · rename_i c
      obtain ⟨c0, c1, c2⟩ := step_down hr k0 k1 c
      obtain ⟨a, b⟩ := un_ok r (h - 1) (k - w r (h + 1)) (by omega) c1 c2
      refine ⟨⟨c0, a⟩, ?_⟩
      show w (un r (h - 1) (k - w r (h + 1))).length (h + 1) + rk (un r (h - 1) (k - w r (h + 1))) (h - 1) = k
      rw [un_len, b]
      omega
theorem rk_ok : ∀ (t : List Bool) (h : Nat), h + t.length ≤ 120 → Wd t h → 0 ≤ rk t h ∧ rk t h < w t.length h ∧ un t.length h (rk t h) = t
  | [], h, hr, ok => by
    have : h = 0 := ok
    subst this
    exact ⟨by decide, by decide, rfl⟩
  | true :: t, h, hr, ok => by
    have hl : h + (t.length + 1) ≤ 120 := hr
    obtain ⟨a, b, c⟩ := rk_ok t (h + 1) (by omega) ok
    refine ⟨a, ?_, ?_⟩
    · show rk t (h + 1) < w (t.length + 1) h
      cases h with
      | zero => rw [w_s0]; exact b
      | succ h =>
        rw [w_s _ _ (by omega)]
        have := w_nn t.length h
        have e : h + 1 + 1 = h + 2 := rfl
        rw [← e]
        omega
    · show un (t.length + 1) h (rk t (h + 1)) = _
      unfold un
      rw [if_pos b, c]
  | false :: t, h, hr, ok => by
    have hl : h + (t.length + 1) ≤ 120 := hr
    obtain ⟨h0, ok⟩ := ok
    obtain ⟨a, b, c⟩ := rk_ok t (h - 1) (by omega) ok
    have n1 := w_nn t.length (h + 1)
    refine ⟨?_, ?_, ?_⟩
    · show 0 ≤ w t.length (h + 1) + rk t (h - 1)
      omega
    · show w t.length (h + 1) + rk t (h - 1) < w (t.length + 1) h
      cases h with
      | zero => omega
      | succ h =>
        rw [w_s _ _ (by omega)]
        have e : h + 1 + 1 = h + 2 := rfl
        rw [e]
        have e2 : h + 1 - 1 = h := rfl
        rw [e2] at b ⊢
        omega
    · show un (t.length + 1) h (w t.length (h + 1) + rk t (h - 1)) = _
      unfold un
      rw [if_neg (by omega)]
      rw [show w t.length (h + 1) + rk t (h - 1) - w t.length (h + 1) = rk t (h - 1) by omega, c]
/-- the text of a word -/
def cp (b : Bool) : Nat := if b = true then 40 else 41
theorem un_lt : ∀ (r h : Nat) (k k' : Int), h + r ≤ 120 → 0 ≤ k → k < k' → k' < w r h → (un r h k).map cp < (un r h k').map cp
  | 0, h, k, k', hr, k0, kk, k1 => by
    cases h with
    | zero => rw [w_00] at k1; omega
    | succ h => rw [w_0] at k1; omega
  | r + 1, h, k, k', hr, k0, kk, k1 => by
    have hn := w_nn r (h + 1)
    unfold un
    by_cases c : k < w r (h + 1)
    · rw [if_pos c]
      by_cases c' : k' < w r (h + 1)
      · rw [if_pos c']
        exact List.Lex.cons (un_lt r (h + 1) k k' (by omega) k0 kk c')
      · rw [if_neg c']
        exact List.Lex.rel (by decide)
    · have c' : ¬ k' < w r (h + 1) := by omega
      rw [if_neg c, if_neg c']
      obtain ⟨c0, c1, c2⟩ := step_down hr (by omega) k1 c'
      exact List.Lex.cons (un_lt r (h - 1) _ _ (by omega) (by omega) (by omega) c2)
/-! the two tables agree -/
theorem w_zero : ∀ (l h : Nat), (h > l ∨ (l + h) % 2 = 1) → w l h = 0
  | 0, 0, e => by omega
  | 0, h + 1, _ => w_0 h
  | l + 1, 0, e => by rw [w_s0]; exact w_zero l 1 (by omega)
  | l + 1, h + 1, e => by
    by_cases hh : h < 120
    · rw [w_s l h hh, w_zero l h (by omega), w_zero l (h + 2) (by omega)]; rfl
    · exact w_hi _ _ (by omega)
def rowOk (p xs : List Int) (l : Nat) : Bool := (List.range (l / 2 + 1)).all fun m => decide ((if m = 0 then (1 : Int) else p.getD m 0 - p.getD (m - 1) 0) = xs.getD (l - 2 * m) 0)
def allOk : Nat → Nat → List Int → List Int → Bool
  | 0, _, _, _ => true
  | n + 1, l, p, xs => rowOk p xs l && allOk n (l + 1) (pnext p) (wnext xs)
theorem allOk_at : ∀ (n l : Nat), allOk n l (pas l) (wrow l) = true → ∀ m, l ≤ m → m < l + n → rowOk (pas m) (wrow m) m = true
  | 0, l, _, m, h1, h2 => by omega
  | n + 1, l, h, m, h1, h2 => by
    have h' : (rowOk (pas l) (wrow l) l && allOk n (l + 1) (pas (l + 1)) (wrow (l + 1))) = true := h
    rw [Bool.and_eq_true] at h'
    by_cases e : m = l
    · subst e; exact h'.1
    · exact allOk_at n (l + 1) h'.2 m (by omega) (by omega)
theorem allOk_ok : allOk 121 0 (pas 0) (wrow 0) = true := by decide +kernel
theorem end_w (h l : Nat) (hl : l ≤ 120) : endZ h l = w l h := by
  unfold endZ
  by_cases c : ((h : Int) < 0 ∨ (h : Int) > l ∨ ((l : Int) - h) % 2 = 1)
  · rw [if_pos c, w_zero l h (by omega)]
  · rw [if_neg c]
    have := allOk_at 121 0 allOk_ok l (by omega) (by omega)
    have := of_decide_eq_true (List.all_eq_true.mp this ((l - h) / 2) (List.mem_range.mpr (by omega)))
    rw [show l - 2 * ((l - h) / 2) = h by omega] at this
    show _ = (wrow l).getD h 0
    rw [← this, Int.toNat_natCast, show (((l : Int) - h) / 2).toNat = (l - h) / 2 by omega, show (((l : Int) - h) / 2 - 1).toNat = (l - h) / 2 - 1 by omega]
    by_cases z : (l - h) / 2 = 0
    · rw [if_pos z, if_pos (by omega)]
    · rw [if_neg z, if_neg (by omega)]
def wordsOf : Nat → Int
  | 0 => 1
  | k + 1 => wordsOf k * 2 * (2 * (k : Int) + 1) / (k + 2)
def wAll : Nat → Nat → Int → List Int → Bool
  | 0, _, _, _ => true
  | n + 1, k, f, xs => decide (f = xs.getD 0 0) && decide (0 < f) && decide (f < 2 ^ 130) && wAll n (k + 1) (f * 2 * (2 * (k : Int) + 1) / (k + 2)) (wnext (wnext xs))
theorem wAll_at : ∀ (n k : Nat), wAll n k (wordsOf k) (wrow (2 * k)) = true → ∀ m, k ≤ m → m < k + n → wordsOf m = w (2 * m) 0 ∧ 0 < wordsOf m ∧ wordsOf m < 2 ^ 130
  | 0, l, _, m, h1, h2 => by omega
  | n + 1, k, h, m, h1, h2 => by
    have h' : ((decide (wordsOf k = w (2 * k) 0) && decide (0 < wordsOf k) && decide (wordsOf k < 2 ^ 130)) && wAll n (k + 1) (wordsOf (k + 1)) (wrow (2 * (k + 1)))) = true := h
    rw [Bool.and_eq_true, Bool.and_eq_true, Bool.and_eq_true] at h'
    by_cases e : m = k
    · subst e; exact ⟨of_decide_eq_true h'.1.1.1, of_decide_eq_true h'.1.1.2, of_decide_eq_true h'.1.2⟩
    · exact wAll_at n (k + 1) h'.2 m (by omega) (by omega)
theorem wAll_ok : wAll 61 0 (wordsOf 0) (wrow 0) = true := by decide +kernel
theorem words_w {n : Nat} (h : n ≤ 60) : wordsOf n = w (2 * n) 0 ∧ 0 < wordsOf n ∧ wordsOf n < 2 ^ 130 := wAll_at 61 0 wAll_ok n (by omega) (by omega)
end Law_k41
namespace Law_k41
open PySem L2 Evl QW
def top (i : Nat) : Stmt := PySem.Challenge.pw_quadwoods_k41_words_by_number.main.body.getD i (.Pass ⟨0, 0, 0, 0⟩)
abbrev s_is_whole : Stmt := top 6
abbrev s_look_word : Stmt := top 8
abbrev s_look_count : Stmt := top 13
abbrev s_look_number : Stmt := top 14
abbrev s_words_of : Stmt := top 15
abbrev s_choices : Stmt := top 16
abbrev s_endings : Stmt := top 17
abbrev s_mixed_endings : Stmt := top 18
abbrev s_stepped : Stmt := top 19
abbrev s_ways_on : Stmt := top 20
abbrev s_text_at : Stmt := top 21
abbrev s_text_place : Stmt := top 22
abbrev s_count_words : Stmt := top 23
abbrev s_word_at : Stmt := top 24
abbrev s_word_place : Stmt := top 25
abbrev s__law_mixed : Stmt := top 27
abbrev s__law_purse : Stmt := top 28
abbrev s__law_take : Stmt := top 29
abbrev s__law_at : Stmt := top 30
abbrev s__law_far : Stmt := top 31
abbrev s__law_whole : Stmt := top 32
abbrev s__law_ways : Stmt := top 33
abbrev s__law_rank : Stmt := top 34
abbrev s__law_is_word : Stmt := top 35
abbrev s__law_word : Stmt := top 36
abbrev s__law_right : Stmt := top 37
abbrev s_law : Stmt := top 38
abbrev s_NoWord___init__ : Stmt := inClass (top 4) 0
abbrev N_is_whole : List Str := ["thing"]
theorem sc_is_whole : FnScope N_is_whole ["thing"] (defScope s_is_whole) := ⟨rfl, rfl, rfl, by decide +kernel, rfl, by decide +kernel, by decide +kernel⟩
theorem sl_is_whole {X : Cx} {k : Nat} (b : Bd X N_is_whole (defScope s_is_whole) k) : Own X 0 "thing" ∧ Gl X "isinstance" ∧ Gl X "int" ∧ Gl X "bool" ∧ True :=
  ⟨b.own rfl (by unfold L2.Loc; decide +kernel), b.gl (by decide +kernel), b.gl (by decide +kernel), b.gl (by decide +kernel), trivial⟩
local macro_rules | `(tactic| walk_at "in is_whole") => `(tactic| (obtain ⟨n0, g0, g1, g2, _⟩ := sl_is_whole (by with_reducible assumption)))
abbrev N_look_word : List Str := ["word", "pairs", "still", "place", "sign", "kind"]
theorem sc_look_word : FnScope N_look_word ["word", "pairs"] (defScope s_look_word) := ⟨rfl, rfl, rfl, by decide +kernel, rfl, by decide +kernel, by decide +kernel⟩
theorem sl_look_word {X : Cx} {k : Nat} (b : Bd X N_look_word (defScope s_look_word) k) : Own X 0 "word" ∧ Own X 1 "pairs" ∧ Own X 2 "still" ∧ Own X 3 "place" ∧ Own X 4 "sign" ∧ Own X 5 "kind" ∧ Gl X "enumerate" ∧ Gl X "isinstance" ∧ Gl X "str" ∧ Gl X "NoWord" ∧ Gl X "max" ∧ Gl X "len" ∧ True :=
  ⟨b.own rfl (by unfold L2.Loc; decide +kernel), b.own rfl (by unfold L2.Loc; decide +kernel), b.own rfl (by unfold L2.Loc; decide +kernel), b.own rfl (by unfold L2.Loc; decide +kernel), b.own rfl (by unfold L2.Loc; decide +kernel), b.own rfl (by unfold L2.Loc; decide +kernel), b.gl (by decide +kernel), b.gl (by decide +kernel), b.gl (by decide +kernel), b.gl (by decide +kernel), b.gl (by decide +kernel), b.gl (by decide +kernel), trivial⟩
local macro_rules | `(tactic| walk_at "in look_word") => `(tactic| (obtain ⟨n0, n1, n2, n3, n4, n5, g0, g1, g2, g3, g4, g5, _⟩ := sl_look_word (by with_reducible assumption)))
abbrev N_look_count : List Str := ["n", "least", "most"]
theorem sc_look_count : FnScope N_look_count ["n", "least", "most"] (defScope s_look_count) := ⟨rfl, rfl, rfl, by decide +kernel, rfl, by decide +kernel, by decide +kernel⟩
theorem sl_look_count {X : Cx} {k : Nat} (b : Bd X N_look_count (defScope s_look_count) k) : Own X 0 "n" ∧ Own X 1 "least" ∧ Own X 2 "most" ∧ Gl X "NoCount" ∧ Gl X "is_whole" ∧ True :=
  ⟨b.own rfl (by unfold L2.Loc; decide +kernel), b.own rfl (by unfold L2.Loc; decide +kernel), b.own rfl (by unfold L2.Loc; decide +kernel), b.gl (by decide +kernel), b.gl (by decide +kernel), trivial⟩
local macro_rules | `(tactic| walk_at "in look_count") => `(tactic| (obtain ⟨n0, n1, n2, g0, g1, _⟩ := sl_look_count (by with_reducible assumption)))
abbrev N_look_number : List Str := ["k", "count"]
theorem sc_look_number : FnScope N_look_number ["k", "count"] (defScope s_look_number) := ⟨rfl, rfl, rfl, by decide +kernel, rfl, by decide +kernel, by decide +kernel⟩
theorem sl_look_number {X : Cx} {k : Nat} (b : Bd X N_look_number (defScope s_look_number) k) : Own X 0 "k" ∧ Own X 1 "count" ∧ Gl X "NoNumber" ∧ Gl X "is_whole" ∧ True :=
  ⟨b.own rfl (by unfold L2.Loc; decide +kernel), b.own rfl (by unfold L2.Loc; decide +kernel), b.gl (by decide +kernel), b.gl (by decide +kernel), trivial⟩
local macro_rules | `(tactic| walk_at "in look_number") => `(tactic| (obtain ⟨n0, n1, g0, g1, _⟩ := sl_look_number (by with_reducible assumption)))
abbrev N_words_of : List Str := ["n", "found", "k"]
theorem sc_words_of : FnScope N_words_of ["n"] (defScope s_words_of) := ⟨rfl, rfl, rfl, by decide +kernel, rfl, by decide +kernel, by decide +kernel⟩
theorem sl_words_of {X : Cx} {k : Nat} (b : Bd X N_words_of (defScope s_words_of) k) : Own X 0 "n" ∧ Own X 1 "found" ∧ Own X 2 "k" ∧ Gl X "range" ∧ True :=
  ⟨b.own rfl (by unfold L2.Loc; decide +kernel), b.own rfl (by unfold L2.Loc; decide +kernel), b.own rfl (by unfold L2.Loc; decide +kernel), b.gl (by decide +kernel), trivial⟩
local macro_rules | `(tactic| walk_at "in words_of") => `(tactic| (obtain ⟨n0, n1, n2, g0, _⟩ := sl_words_of (by with_reducible assumption)))
abbrev N_choices : List Str := ["many", "rows", "k", "one", "other"]
theorem sc_choices : FnScope N_choices ["many"] (defScope s_choices) := ⟨rfl, rfl, rfl, by decide +kernel, rfl, by decide +kernel, by decide +kernel⟩
theorem sl_choices {X : Cx} {k : Nat} (b : Bd X N_choices (defScope s_choices) k) : Own X 0 "many" ∧ Own X 1 "rows" ∧ Own X 2 "k" ∧ Gl X "range" ∧ Gl X "zip" ∧ True :=
  ⟨b.own rfl (by unfold L2.Loc; decide +kernel), b.own rfl (by unfold L2.Loc; decide +kernel), b.own rfl (by unfold L2.Loc; decide +kernel), b.gl (by decide +kernel), b.gl (by decide +kernel), trivial⟩
local macro_rules | `(tactic| walk_at "in choices") => `(tactic| (obtain ⟨n0, n1, n2, g0, g1, _⟩ := sl_choices (by with_reducible assumption)))
local macro_rules | `(tactic| walk_at "in choices 0") => `(tactic| (have m0 : Slot _ 3 "one" := Blk.slot ‹Blk _ _ _› ‹Bd _ _ _ _› rfl (by unfold L2.Vis; decide +kernel); have m1 : Slot _ 4 "other" := Blk.slot ‹Blk _ _ _› ‹Bd _ _ _ _› rfl (by unfold L2.Vis; decide +kernel)))
abbrev N_endings : List Str := ["rows", "high", "left", "more"]
theorem sc_endings : FnScope N_endings ["rows", "high", "left"] (defScope s_endings) := ⟨rfl, rfl, rfl, by decide +kernel, rfl, by decide +kernel, by decide +kernel⟩
theorem sl_endings {X : Cx} {k : Nat} (b : Bd X N_endings (defScope s_endings) k) : Own X 0 "rows" ∧ Own X 1 "high" ∧ Own X 2 "left" ∧ Own X 3 "more" ∧ True :=
  ⟨b.own rfl (by unfold L2.Loc; decide +kernel), b.own rfl (by unfold L2.Loc; decide +kernel), b.own rfl (by unfold L2.Loc; decide +kernel), b.own rfl (by unfold L2.Loc; decide +kernel), trivial⟩
local macro_rules | `(tactic| walk_at "in endings") => `(tactic| (obtain ⟨n0, n1, n2, n3, _⟩ := sl_endings (by with_reducible assumption)))
abbrev N_mixed_endings : List Str := ["rows", "one", "two", "left", "found", "some"]
theorem sc_mixed_endings : FnScope N_mixed_endings ["rows", "one", "two", "left"] (defScope s_mixed_endings) := ⟨rfl, rfl, rfl, by decide +kernel, rfl, by decide +kernel, by decide +kernel⟩
theorem sl_mixed_endings {X : Cx} {k : Nat} (b : Bd X N_mixed_endings (defScope s_mixed_endings) k) : Own X 0 "rows" ∧ Own X 1 "one" ∧ Own X 2 "two" ∧ Own X 3 "left" ∧ Own X 4 "found" ∧ Own X 5 "some" ∧ Gl X "range" ∧ Gl X "endings" ∧ True :=
  ⟨b.own rfl (by unfold L2.Loc; decide +kernel), b.own rfl (by unfold L2.Loc; decide +kernel), b.own rfl (by unfold L2.Loc; decide +kernel), b.own rfl (by unfold L2.Loc; decide +kernel), b.own rfl (by unfold L2.Loc; decide +kernel), b.own rfl (by unfold L2.Loc; decide +kernel), b.gl (by decide +kernel), b.gl (by decide +kernel), trivial⟩
local macro_rules | `(tactic| walk_at "in mixed_endings") => `(tactic| (obtain ⟨n0, n1, n2, n3, n4, n5, g0, g1, _⟩ := sl_mixed_endings (by with_reducible assumption)))
abbrev N_stepped : List Str := ["state", "sign", "many", "step"]
theorem sc_stepped : FnScope N_stepped ["state", "sign"] (defScope s_stepped) := ⟨rfl, rfl, rfl, by decide +kernel, rfl, by decide +kernel, by decide +kernel⟩
theorem sl_stepped {X : Cx} {k : Nat} (b : Bd X N_stepped (defScope s_stepped) k) : Own X 0 "state" ∧ Own X 1 "sign" ∧ Gl X "tuple" ∧ Gl X "zip" ∧ Gl X "STEPS" ∧ True :=
  ⟨b.own rfl (by unfold L2.Loc; decide +kernel), b.own rfl (by unfold L2.Loc; decide +kernel), b.gl (by decide +kernel), b.gl (by decide +kernel), b.gl (by decide +kernel), trivial⟩
local macro_rules | `(tactic| walk_at "in stepped") => `(tactic| (obtain ⟨n0, n1, g0, g1, g2, _⟩ := sl_stepped (by with_reducible assumption)))
local macro_rules | `(tactic| walk_at "in stepped 0") => `(tactic| (have m0 : Slot _ 2 "many" := Blk.slot ‹Blk _ _ _› ‹Bd _ _ _ _› rfl (by unfold L2.Vis; decide +kernel); have m1 : Slot _ 3 "step" := Blk.slot ‹Blk _ _ _› ‹Bd _ _ _ _› rfl (by unfold L2.Vis; decide +kernel)))
abbrev N_ways_on : List Str := ["rows", "signs", "state", "left"]
theorem sc_ways_on : FnScope N_ways_on ["rows", "signs", "state", "left"] (defScope s_ways_on) := ⟨rfl, rfl, rfl, by decide +kernel, rfl, by decide +kernel, by decide +kernel⟩
theorem sl_ways_on {X : Cx} {k : Nat} (b : Bd X N_ways_on (defScope s_ways_on) k) : Own X 0 "rows" ∧ Own X 1 "signs" ∧ Own X 2 "state" ∧ Own X 3 "left" ∧ Gl X "PLAIN_SIGNS" ∧ Gl X "mixed_endings" ∧ Gl X "min" ∧ Gl X "endings" ∧ True :=
  ⟨b.own rfl (by unfold L2.Loc; decide +kernel), b.own rfl (by unfold L2.Loc; decide +kernel), b.own rfl (by unfold L2.Loc; decide +kernel), b.own rfl (by unfold L2.Loc; decide +kernel), b.gl (by decide +kernel), b.gl (by decide +kernel), b.gl (by decide +kernel), b.gl (by decide +kernel), trivial⟩
local macro_rules | `(tactic| walk_at "in ways_on") => `(tactic| (obtain ⟨n0, n1, n2, n3, g0, g1, g2, g3, _⟩ := sl_ways_on (by with_reducible assumption)))
abbrev N_text_at : List Str := ["signs", "many", "k", "rows", "state", "text", "sign", "ways"]
theorem sc_text_at : FnScope N_text_at ["signs", "many", "k"] (defScope s_text_at) := ⟨rfl, rfl, rfl, by decide +kernel, rfl, by decide +kernel, by decide +kernel⟩
theorem sl_text_at {X : Cx} {k : Nat} (b : Bd X N_text_at (defScope s_text_at) k) : Own X 0 "signs" ∧ Own X 1 "many" ∧ Own X 2 "k" ∧ Own X 3 "rows" ∧ Own X 4 "state" ∧ Own X 5 "text" ∧ Own X 6 "sign" ∧ Own X 7 "ways" ∧ Gl X "choices" ∧ Gl X "len" ∧ Gl X "stepped" ∧ Gl X "ways_on" ∧ True :=
  ⟨b.own rfl (by unfold L2.Loc; decide +kernel), b.own rfl (by unfold L2.Loc; decide +kernel), b.own rfl (by unfold L2.Loc; decide +kernel), b.own rfl (by unfold L2.Loc; decide +kernel), b.own rfl (by unfold L2.Loc; decide +kernel), b.own rfl (by unfold L2.Loc; decide +kernel), b.own rfl (by unfold L2.Loc; decide +kernel), b.own rfl (by unfold L2.Loc; decide +kernel), b.gl (by decide +kernel), b.gl (by decide +kernel), b.gl (by decide +kernel), b.gl (by decide +kernel), trivial⟩
local macro_rules | `(tactic| walk_at "in text_at") => `(tactic| (obtain ⟨n0, n1, n2, n3, n4, n5, n6, n7, g0, g1, g2, g3, _⟩ := sl_text_at (by with_reducible assumption)))
abbrev N_text_place : List Str := ["signs", "text", "rows", "state", "found", "at", "own", "sign"]
theorem sc_text_place : FnScope N_text_place ["signs", "text"] (defScope s_text_place) := ⟨rfl, rfl, rfl, by decide +kernel, rfl, by decide +kernel, by decide +kernel⟩
theorem sl_text_place {X : Cx} {k : Nat} (b : Bd X N_text_place (defScope s_text_place) k) : Own X 0 "signs" ∧ Own X 1 "text" ∧ Own X 2 "rows" ∧ Own X 3 "state" ∧ Own X 4 "found" ∧ Own X 5 "at" ∧ Own X 6 "own" ∧ Own X 7 "sign" ∧ Gl X "choices" ∧ Gl X "enumerate" ∧ Gl X "len" ∧ Gl X "stepped" ∧ Gl X "ways_on" ∧ True :=
  ⟨b.own rfl (by unfold L2.Loc; decide +kernel), b.own rfl (by unfold L2.Loc; decide +kernel), b.own rfl (by unfold L2.Loc; decide +kernel), b.own rfl (by unfold L2.Loc; decide +kernel), b.own rfl (by unfold L2.Loc; decide +kernel), b.own rfl (by unfold L2.Loc; decide +kernel), b.own rfl (by unfold L2.Loc; decide +kernel), b.own rfl (by unfold L2.Loc; decide +kernel), b.gl (by decide +kernel), b.gl (by decide +kernel), b.gl (by decide +kernel), b.gl (by decide +kernel), b.gl (by decide +kernel), trivial⟩
local macro_rules | `(tactic| walk_at "in text_place") => `(tactic| (obtain ⟨n0, n1, n2, n3, n4, n5, n6, n7, g0, g1, g2, g3, g4, _⟩ := sl_text_place (by with_reducible assumption)))
abbrev N_count_words : List Str := ["n"]
theorem sc_count_words : FnScope N_count_words ["n"] (defScope s_count_words) := ⟨rfl, rfl, rfl, by decide +kernel, rfl, by decide +kernel, by decide +kernel⟩
theorem sl_count_words {X : Cx} {k : Nat} (b : Bd X N_count_words (defScope s_count_words) k) : Own X 0 "n" ∧ Gl X "look_count" ∧ Gl X "MOST_TIES" ∧ Gl X "words_of" ∧ True :=
  ⟨b.own rfl (by unfold L2.Loc; decide +kernel), b.gl (by decide +kernel), b.gl (by decide +kernel), b.gl (by decide +kernel), trivial⟩
local macro_rules | `(tactic| walk_at "in count_words") => `(tactic| (obtain ⟨n0, g0, g1, g2, _⟩ := sl_count_words (by with_reducible assumption)))
abbrev N_word_at : List Str := ["n", "k"]
theorem sc_word_at : FnScope N_word_at ["n", "k"] (defScope s_word_at) := ⟨rfl, rfl, rfl, by decide +kernel, rfl, by decide +kernel, by decide +kernel⟩
theorem sl_word_at {X : Cx} {k : Nat} (b : Bd X N_word_at (defScope s_word_at) k) : Own X 0 "n" ∧ Own X 1 "k" ∧ Gl X "look_number" ∧ Gl X "text_at" ∧ Gl X "PLAIN_SIGNS" ∧ Gl X "count_words" ∧ True :=
  ⟨b.own rfl (by unfold L2.Loc; decide +kernel), b.own rfl (by unfold L2.Loc; decide +kernel), b.gl (by decide +kernel), b.gl (by decide +kernel), b.gl (by decide +kernel), b.gl (by decide +kernel), trivial⟩
local macro_rules | `(tactic| walk_at "in word_at") => `(tactic| (obtain ⟨n0, n1, g0, g1, g2, g3, _⟩ := sl_word_at (by with_reducible assumption)))
abbrev N_word_place : List Str := ["word"]
theorem sc_word_place : FnScope N_word_place ["word"] (defScope s_word_place) := ⟨rfl, rfl, rfl, by decide +kernel, rfl, by decide +kernel, by decide +kernel⟩
theorem sl_word_place {X : Cx} {k : Nat} (b : Bd X N_word_place (defScope s_word_place) k) : Own X 0 "word" ∧ Gl X "look_word" ∧ Gl X "PLAIN_SIGNS" ∧ Gl X "text_place" ∧ True :=
  ⟨b.own rfl (by unfold L2.Loc; decide +kernel), b.gl (by decide +kernel), b.gl (by decide +kernel), b.gl (by decide +kernel), trivial⟩
local macro_rules | `(tactic| walk_at "in word_place") => `(tactic| (obtain ⟨n0, g0, g1, g2, _⟩ := sl_word_place (by with_reducible assumption)))
abbrev N__law_mixed : List Str := ["_law_cell", "_law_place", "_law_number"]
theorem sc__law_mixed : FnScope N__law_mixed ["_law_cell", "_law_place"] (defScope s__law_mixed) := ⟨rfl, rfl, rfl, by decide +kernel, rfl, by decide +kernel, by decide +kernel⟩
theorem sl__law_mixed {X : Cx} {k : Nat} (b : Bd X N__law_mixed (defScope s__law_mixed) k) : Own X 0 "_law_cell" ∧ Own X 1 "_law_place" ∧ Own X 2 "_law_number" ∧ True :=
  ⟨b.own rfl (by unfold L2.Loc; decide +kernel), b.own rfl (by unfold L2.Loc; decide +kernel), b.own rfl (by unfold L2.Loc; decide +kernel), trivial⟩
local macro_rules | `(tactic| walk_at "in _law_mixed") => `(tactic| (obtain ⟨n0, n1, n2, _⟩ := sl__law_mixed (by with_reducible assumption)))
abbrev N__law_purse : List Str := ["_law_cell", "_law_place"]
theorem sc__law_purse : FnScope N__law_purse ["_law_cell", "_law_place"] (defScope s__law_purse) := ⟨rfl, rfl, rfl, by decide +kernel, rfl, by decide +kernel, by decide +kernel⟩
theorem sl__law_purse {X : Cx} {k : Nat} (b : Bd X N__law_purse (defScope s__law_purse) k) : Own X 0 "_law_cell" ∧ Own X 1 "_law_place" ∧ Gl X "_law_mixed" ∧ True :=
  ⟨b.own rfl (by unfold L2.Loc; decide +kernel), b.own rfl (by unfold L2.Loc; decide +kernel), b.gl (by decide +kernel), trivial⟩
local macro_rules | `(tactic| walk_at "in _law_purse") => `(tactic| (obtain ⟨n0, n1, g0, _⟩ := sl__law_purse (by with_reducible assumption)))
abbrev N__law_take : List Str := ["_law_purse_here", "_law_many", "_law_got"]
theorem sc__law_take : FnScope N__law_take ["_law_purse_here", "_law_many"] (defScope s__law_take) := ⟨rfl, rfl, rfl, by decide +kernel, rfl, by decide +kernel, by decide +kernel⟩
theorem sl__law_take {X : Cx} {k : Nat} (b : Bd X N__law_take (defScope s__law_take) k) : Own X 0 "_law_purse_here" ∧ Own X 1 "_law_many" ∧ Own X 2 "_law_got" ∧ Gl X "_law_mixed" ∧ True :=
  ⟨b.own rfl (by unfold L2.Loc; decide +kernel), b.own rfl (by unfold L2.Loc; decide +kernel), b.own rfl (by unfold L2.Loc; decide +kernel), b.gl (by decide +kernel), trivial⟩
local macro_rules | `(tactic| walk_at "in _law_take") => `(tactic| (obtain ⟨n0, n1, n2, g0, _⟩ := sl__law_take (by with_reducible assumption)))
abbrev N__law_at : List Str := ["_law_script", "_law_place"]
theorem sc__law_at : FnScope N__law_at ["_law_script", "_law_place"] (defScope s__law_at) := ⟨rfl, rfl, rfl, by decide +kernel, rfl, by decide +kernel, by decide +kernel⟩
theorem sl__law_at {X : Cx} {k : Nat} (b : Bd X N__law_at (defScope s__law_at) k) : Own X 0 "_law_script" ∧ Own X 1 "_law_place" ∧ Gl X "len" ∧ True :=
  ⟨b.own rfl (by unfold L2.Loc; decide +kernel), b.own rfl (by unfold L2.Loc; decide +kernel), b.gl (by decide +kernel), trivial⟩
local macro_rules | `(tactic| walk_at "in _law_at") => `(tactic| (obtain ⟨n0, n1, g0, _⟩ := sl__law_at (by with_reducible assumption)))
abbrev N__law_far : List Str := ["_law_purse_here", "_law_many", "_law_number", "_law_turn"]
theorem sc__law_far : FnScope N__law_far ["_law_purse_here", "_law_many"] (defScope s__law_far) := ⟨rfl, rfl, rfl, by decide +kernel, rfl, by decide +kernel, by decide +kernel⟩
theorem sl__law_far {X : Cx} {k : Nat} (b : Bd X N__law_far (defScope s__law_far) k) : Own X 0 "_law_purse_here" ∧ Own X 1 "_law_many" ∧ Own X 2 "_law_number" ∧ Own X 3 "_law_turn" ∧ Gl X "range" ∧ Gl X "_law_take" ∧ True :=
  ⟨b.own rfl (by unfold L2.Loc; decide +kernel), b.own rfl (by unfold L2.Loc; decide +kernel), b.own rfl (by unfold L2.Loc; decide +kernel), b.own rfl (by unfold L2.Loc; decide +kernel), b.gl (by decide +kernel), b.gl (by decide +kernel), trivial⟩
local macro_rules | `(tactic| walk_at "in _law_far") => `(tactic| (obtain ⟨n0, n1, n2, n3, g0, g1, _⟩ := sl__law_far (by with_reducible assumption)))
abbrev N__law_whole : List Str := ["_law_found"]
theorem sc__law_whole : FnScope N__law_whole ["_law_found"] (defScope s__law_whole) := ⟨rfl, rfl, rfl, by decide +kernel, rfl, by decide +kernel, by decide +kernel⟩
theorem sl__law_whole {X : Cx} {k : Nat} (b : Bd X N__law_whole (defScope s__law_whole) k) : Own X 0 "_law_found" ∧ Gl X "isinstance" ∧ Gl X "int" ∧ Gl X "bool" ∧ True :=
  ⟨b.own rfl (by unfold L2.Loc; decide +kernel), b.gl (by decide +kernel), b.gl (by decide +kernel), b.gl (by decide +kernel), trivial⟩
local macro_rules | `(tactic| walk_at "in _law_whole") => `(tactic| (obtain ⟨n0, g0, g1, g2, _⟩ := sl__law_whole (by with_reducible assumption)))
abbrev N__law_ways : List Str := ["_law_most", "_law_rows", "_law_left", "_law_last", "_law_at_here"]
theorem sc__law_ways : FnScope N__law_ways ["_law_most"] (defScope s__law_ways) := ⟨rfl, rfl, rfl, by decide +kernel, rfl, by decide +kernel, by decide +kernel⟩
theorem sl__law_ways {X : Cx} {k : Nat} (b : Bd X N__law_ways (defScope s__law_ways) k) : Own X 0 "_law_most" ∧ Own X 1 "_law_rows" ∧ Own X 2 "_law_left" ∧ Own X 3 "_law_last" ∧ Gl X "range" ∧ True :=
  ⟨b.own rfl (by unfold L2.Loc; decide +kernel), b.own rfl (by unfold L2.Loc; decide +kernel), b.own rfl (by unfold L2.Loc; decide +kernel), b.own rfl (by unfold L2.Loc; decide +kernel), b.gl (by decide +kernel), trivial⟩
local macro_rules | `(tactic| walk_at "in _law_ways") => `(tactic| (obtain ⟨n0, n1, n2, n3, g0, _⟩ := sl__law_ways (by with_reducible assumption)))
local macro_rules | `(tactic| walk_at "in _law_ways 0") => `(tactic| (have m0 : Slot _ 3 "_law_last" := Blk.slot ‹Blk _ _ _› ‹Bd _ _ _ _› rfl (by unfold L2.Vis; decide +kernel); have m1 : Slot _ 4 "_law_at_here" := Blk.slot ‹Blk _ _ _› ‹Bd _ _ _ _› rfl (by unfold L2.Vis; decide +kernel)))
abbrev N__law_rank : List Str := ["_law_text", "_law_ways_here", "_law_found", "_law_high", "_law_at_here", "_law_sign"]
theorem sc__law_rank : FnScope N__law_rank ["_law_text", "_law_ways_here"] (defScope s__law_rank) := ⟨rfl, rfl, rfl, by decide +kernel, rfl, by decide +kernel, by decide +kernel⟩
theorem sl__law_rank {X : Cx} {k : Nat} (b : Bd X N__law_rank (defScope s__law_rank) k) : Own X 0 "_law_text" ∧ Own X 1 "_law_ways_here" ∧ Own X 2 "_law_found" ∧ Own X 3 "_law_high" ∧ Own X 4 "_law_at_here" ∧ Own X 5 "_law_sign" ∧ Gl X "enumerate" ∧ Gl X "len" ∧ True :=
  ⟨b.own rfl (by unfold L2.Loc; decide +kernel), b.own rfl (by unfold L2.Loc; decide +kernel), b.own rfl (by unfold L2.Loc; decide +kernel), b.own rfl (by unfold L2.Loc; decide +kernel), b.own rfl (by unfold L2.Loc; decide +kernel), b.own rfl (by unfold L2.Loc; decide +kernel), b.gl (by decide +kernel), b.gl (by decide +kernel), trivial⟩
local macro_rules | `(tactic| walk_at "in _law_rank") => `(tactic| (obtain ⟨n0, n1, n2, n3, n4, n5, g0, g1, _⟩ := sl__law_rank (by with_reducible assumption)))
abbrev N__law_is_word : List Str := ["_law_text", "_law_size", "_law_high", "_law_sign"]
theorem sc__law_is_word : FnScope N__law_is_word ["_law_text", "_law_size"] (defScope s__law_is_word) := ⟨rfl, rfl, rfl, by decide +kernel, rfl, by decide +kernel, by decide +kernel⟩
theorem sl__law_is_word {X : Cx} {k : Nat} (b : Bd X N__law_is_word (defScope s__law_is_word) k) : Own X 0 "_law_text" ∧ Own X 1 "_law_size" ∧ Own X 2 "_law_high" ∧ Own X 3 "_law_sign" ∧ Gl X "isinstance" ∧ Gl X "str" ∧ Gl X "len" ∧ Gl X "int" ∧ True :=
  ⟨b.own rfl (by unfold L2.Loc; decide +kernel), b.own rfl (by unfold L2.Loc; decide +kernel), b.own rfl (by unfold L2.Loc; decide +kernel), b.own rfl (by unfold L2.Loc; decide +kernel), b.gl (by decide +kernel), b.gl (by decide +kernel), b.gl (by decide +kernel), b.gl (by decide +kernel), trivial⟩
local macro_rules | `(tactic| walk_at "in _law_is_word") => `(tactic| (obtain ⟨n0, n1, n2, n3, g0, g1, g2, g3, _⟩ := sl__law_is_word (by with_reducible assumption)))
abbrev N__law_word : List Str := ["_law_purse_here", "_law_size", "_law_text", "_law_high", "_law_kind", "_law_left", "_law_up"]
theorem sc__law_word : FnScope N__law_word ["_law_purse_here", "_law_size"] (defScope s__law_word) := ⟨rfl, rfl, rfl, by decide +kernel, rfl, by decide +kernel, by decide +kernel⟩
theorem sl__law_word {X : Cx} {k : Nat} (b : Bd X N__law_word (defScope s__law_word) k) : Own X 0 "_law_purse_here" ∧ Own X 1 "_law_size" ∧ Own X 2 "_law_text" ∧ Own X 3 "_law_high" ∧ Own X 4 "_law_kind" ∧ Own X 5 "_law_left" ∧ Own X 6 "_law_up" ∧ Gl X "_law_take" ∧ Gl X "range" ∧ Gl X "int" ∧ True :=
  ⟨b.own rfl (by unfold L2.Loc; decide +kernel), b.own rfl (by unfold L2.Loc; decide +kernel), b.own rfl (by unfold L2.Loc; decide +kernel), b.own rfl (by unfold L2.Loc; decide +kernel), b.own rfl (by unfold L2.Loc; decide +kernel), b.own rfl (by unfold L2.Loc; decide +kernel), b.own rfl (by unfold L2.Loc; decide +kernel), b.gl (by decide +kernel), b.gl (by decide +kernel), b.gl (by decide +kernel), trivial⟩
local macro_rules | `(tactic| walk_at "in _law_word") => `(tactic| (obtain ⟨n0, n1, n2, n3, n4, n5, n6, g0, g1, g2, _⟩ := sl__law_word (by with_reducible assumption)))
abbrev N__law_right : List Str := ["_law_purse_here", "_law_ways_here", "_law_size", "_law_most", "_law_number", "_law_told", "_law_found"]
theorem sc__law_right : FnScope N__law_right ["_law_purse_here", "_law_ways_here"] (defScope s__law_right) := ⟨rfl, rfl, rfl, by decide +kernel, rfl, by decide +kernel, by decide +kernel⟩
theorem sl__law_right {X : Cx} {k : Nat} (b : Bd X N__law_right (defScope s__law_right) k) : Own X 0 "_law_purse_here" ∧ Own X 1 "_law_ways_here" ∧ Own X 2 "_law_size" ∧ Own X 3 "_law_most" ∧ Own X 4 "_law_number" ∧ Own X 5 "_law_told" ∧ Own X 6 "_law_found" ∧ Gl X "_law_take" ∧ Gl X "word_at" ∧ Gl X "word_place" ∧ Gl X "_law_far" ∧ Gl X "_law_is_word" ∧ Gl X "_law_rank" ∧ Gl X "_law_whole" ∧ True :=
  ⟨b.own rfl (by unfold L2.Loc; decide +kernel), b.own rfl (by unfold L2.Loc; decide +kernel), b.own rfl (by unfold L2.Loc; decide +kernel), b.own rfl (by unfold L2.Loc; decide +kernel), b.own rfl (by unfold L2.Loc; decide +kernel), b.own rfl (by unfold L2.Loc; decide +kernel), b.own rfl (by unfold L2.Loc; decide +kernel), b.gl (by decide +kernel), b.gl (by decide +kernel), b.gl (by decide +kernel), b.gl (by decide +kernel), b.gl (by decide +kernel), b.gl (by decide +kernel), b.gl (by decide +kernel), trivial⟩
local macro_rules | `(tactic| walk_at "in _law_right") => `(tactic| (obtain ⟨n0, n1, n2, n3, n4, n5, n6, g0, g1, g2, g3, g4, g5, g6, _⟩ := sl__law_right (by with_reducible assumption)))
abbrev N_law : List Str := ["_law_script", "_law_ways_here", "_law_at_here", "_law_purse_here", "_law_size", "_law_own", "_law_found"]
theorem sc_law : FnScope N_law ["_law_script"] (defScope s_law) := ⟨rfl, rfl, rfl, by decide +kernel, rfl, by decide +kernel, by decide +kernel⟩
theorem sl_law {X : Cx} {k : Nat} (b : Bd X N_law (defScope s_law) k) : Own X 0 "_law_script" ∧ Own X 1 "_law_ways_here" ∧ Own X 2 "_law_at_here" ∧ Own X 3 "_law_purse_here" ∧ Own X 4 "_law_size" ∧ Own X 5 "_law_own" ∧ Own X 6 "_law_found" ∧ Gl X "_law_ways" ∧ Gl X "range" ∧ Gl X "_law_purse" ∧ Gl X "_law_take" ∧ Gl X "_law_word" ∧ Gl X "word_place" ∧ Gl X "min" ∧ Gl X "_law_at" ∧ Gl X "_law_right" ∧ Gl X "len" ∧ Gl X "_law_whole" ∧ Gl X "_law_rank" ∧ Gl X "word_at" ∧ True :=
  ⟨b.own rfl (by unfold L2.Loc; decide +kernel), b.own rfl (by unfold L2.Loc; decide +kernel), b.own rfl (by unfold L2.Loc; decide +kernel), b.own rfl (by unfold L2.Loc; decide +kernel), b.own rfl (by unfold L2.Loc; decide +kernel), b.own rfl (by unfold L2.Loc; decide +kernel), b.own rfl (by unfold L2.Loc; decide +kernel), b.gl (by decide +kernel), b.gl (by decide +kernel), b.gl (by decide +kernel), b.gl (by decide +kernel), b.gl (by decide +kernel), b.gl (by decide +kernel), b.gl (by decide +kernel), b.gl (by decide +kernel), b.gl (by decide +kernel), b.gl (by decide +kernel), b.gl (by decide +kernel), b.gl (by decide +kernel), b.gl (by decide +kernel), trivial⟩
local macro_rules | `(tactic| walk_at "in law") => `(tactic| (obtain ⟨n0, n1, n2, n3, n4, n5, n6, g0, g1, g2, g3, g4, g5, g6, g7, g8, g9, g10, g11, g12, _⟩ := sl_law (by with_reducible assumption)))
abbrev N_NoWord___init__ : List Str := ["self", "place"]
theorem sc_NoWord___init__ : FnScope N_NoWord___init__ ["self", "place"] (defScope s_NoWord___init__) := ⟨rfl, rfl, rfl, by decide +kernel, rfl, by decide +kernel, by decide +kernel⟩
theorem sl_NoWord___init__ {X : Cx} {k : Nat} (b : Bd X N_NoWord___init__ (defScope s_NoWord___init__) k) : Own X 0 "self" ∧ Own X 1 "place" ∧ True :=
  ⟨b.own rfl (by unfold L2.Loc; decide +kernel), b.own rfl (by unfold L2.Loc; decide +kernel), trivial⟩
local macro_rules | `(tactic| walk_at "in NoWord___init__") => `(tactic| (obtain ⟨n0, n1, _⟩ := sl_NoWord___init__ (by with_reducible assumption)))
/-- what the top leaves -/
structure Prog (K : PySem.W.Frag) (mg : Str → Option Value) : Prop where
  b_bool : mg "bool" = none
  b_enumerate : mg "enumerate" = none
  b_int : mg "int" = none
  b_isinstance : mg "isinstance" = none
  b_len : mg "len" = none
  b_max : mg "max" = none
  b_min : mg "min" = none
  b_range : mg "range" = none
  b_str : mg "str" = none
  b_tuple : mg "tuple" = none
  b_zip : mg "zip" = none
  c_MOST_TIES : ∃ t, mg "MOST_TIES" = some (.int 60 t)
  c_PLAIN_SIGNS : ∃ t, mg "PLAIN_SIGNS" = some (.str "()" t)
  -- table STEPS
  f_is_whole : At K mg "is_whole" s_is_whole []
  f_look_word : At K mg "look_word" s_look_word [.str "()"]
  f_look_count : At K mg "look_count" s_look_count []
  f_look_number : At K mg "look_number" s_look_number []
  f_words_of : At K mg "words_of" s_words_of []
  f_choices : At K mg "choices" s_choices []
  f_endings : At K mg "endings" s_endings []
  f_mixed_endings : At K mg "mixed_endings" s_mixed_endings []
  f_stepped : At K mg "stepped" s_stepped []
  f_ways_on : At K mg "ways_on" s_ways_on []
  f_text_at : At K mg "text_at" s_text_at []
  f_text_place : At K mg "text_place" s_text_place []
  f_count_words : At K mg "count_words" s_count_words []
  f_word_at : At K mg "word_at" s_word_at []
  f_word_place : At K mg "word_place" s_word_place []
  f__law_mixed : At K mg "_law_mixed" s__law_mixed []
  f__law_purse : At K mg "_law_purse" s__law_purse []
  f__law_take : At K mg "_law_take" s__law_take []
  f__law_at : At K mg "_law_at" s__law_at []
  f__law_far : At K mg "_law_far" s__law_far []
  f__law_whole : At K mg "_law_whole" s__law_whole []
  f__law_ways : At K mg "_law_ways" s__law_ways []
  f__law_rank : At K mg "_law_rank" s__law_rank []
  f__law_is_word : At K mg "_law_is_word" s__law_is_word []
  f__law_word : At K mg "_law_word" s__law_word []
  f__law_right : At K mg "_law_right" s__law_right []
  f_law : At K mg "law" s_law []
/-! ### what evaluates by itself -/
local macro_rules | `(tactic| walk_at "o") => `(tactic| (with_reducible assumption))
local macro_rules | `(tactic| walk_at "mem") => `(tactic| first | exact List.mem_cons_self | exact List.mem_cons_of_mem _ List.mem_cons_self | exact List.mem_cons_of_mem _ (List.mem_cons_of_mem _ List.mem_cons_self) | exact List.mem_cons_of_mem _ (List.mem_cons_of_mem _ (List.mem_cons_of_mem _ List.mem_cons_self)) | exact List.mem_cons_of_mem _ (List.mem_cons_of_mem _ (List.mem_cons_of_mem _ (List.mem_cons_of_mem _ List.mem_cons_self))))
local macro_rules | `(tactic| walk_at "lst") => `(tactic| first | (apply lst_l; walk_at "mem") | exact lst_b (by assumption) | exact lst_h (by assumption) | assumption)
local macro_rules | `(tactic| walk_at "tup") => `(tactic| first | (apply tup_l; walk_at "mem") | exact tup_b (by assumption) | exact tup_h (by assumption) | assumption)
local macro_rules | `(tactic| walk_at "std") => `(tactic| first | (apply std_l; walk_at "mem") | exact std_b (by assumption) | assumption)
local macro_rules | `(tactic| walk_at "at") => `(tactic| first | rfl | exact atI_nat (by assumption))
local macro_rules | `(tactic| walk_at "side") => `(tactic| first
  | with_reducible assumption
  | decide +kernel
  | exact Or.inl (Or.inl ⟨by decide +kernel, by decide +kernel⟩)
  | exact Or.inl (Or.inr ⟨by decide +kernel, by decide +kernel⟩)
  | exact ⟨by decide +kernel, by decide +kernel⟩
  | rfl
  | exact fun _ _ => rfl
  | exact nobehind _ (by decide) (by decide)
  | (intro _; rfl))
local macro_rules | `(tactic| walk_at "go") => `(tactic| first
  | ((with_reducible show EV _ _ _ _ _ _); walk_at "ev")
  | ((with_reducible show EC _ _ _ _ _ _ _ _); walk_at "ec")
  | ((with_reducible show ET _ _ _ _ _ _); walk_at "et")
  | ((with_reducible show EA _ _ _ _ _ _); walk_at "ea")
  | ((with_reducible show Lst _ _ _ _ _); walk_at "lst")
  | ((with_reducible show Tup _ _ _ _ _); walk_at "tup")
  | ((with_reducible show Std _ _ _ _); walk_at "std")
  | ((with_reducible show Own _ _ _); walk_at "o")
  | ((with_reducible show Slot _ _ _); walk_at "o")
  | ((with_reducible show Gl _ _); walk_at "o")
  | ((with_reducible show atI _ _ = some _); first | walk_at "at" | skip)
  | ((fail_if_success (with_reducible show EV _ _ _ _ _ _)); (fail_if_success (with_reducible show EC _ _ _ _ _ _ _ _)); (fail_if_success (with_reducible show ET _ _ _ _ _ _)); (fail_if_success (with_reducible show EA _ _ _ _ _ _)); (fail_if_success (with_reducible show Lst _ _ _ _ _)); (fail_if_success (with_reducible show Tup _ _ _ _ _)); (fail_if_success (with_reducible show Std _ _ _ _)); (fail_if_success (with_reducible show Own _ _ _)); (fail_if_success (with_reducible show Slot _ _ _)); first | walk_at "side" | skip))
local macro_rules | `(tactic| walk_at "ec") => `(tactic| first
  | (apply c_eqI <;> walk_at "go")
  | (apply c_neI <;> walk_at "go")
  | (apply c_lt <;> walk_at "go")
  | (apply c_le <;> walk_at "go")
  | (apply c_gt <;> walk_at "go")
  | (apply c_ge <;> walk_at "go")
  | (apply c_eqS <;> walk_at "go")
  | (apply c_neS <;> walk_at "go")
  | (apply c_isN <;> walk_at "go")
  | (apply c_notN <;> walk_at "go"))
local macro_rules | `(tactic| walk_at "ev") => `(tactic| first
  | exact e_int | exact e_str | exact e_bl | exact e_non
  | (apply e_own (by with_reducible assumption); rfl)
  | (apply e_slot (by with_reducible assumption); rfl)
  | (apply e_add <;> walk_at "go")
  | (apply e_sub <;> walk_at "go")
  | (apply e_neg <;> walk_at "go")
  | (apply e_mul <;> walk_at "go")
  | (apply e_mod <;> walk_at "go")
  | (apply e_fdiv <;> walk_at "go")
  | (apply e_pow <;> walk_at "go")
  | (apply e_cmp <;> walk_at "go")
  | (apply e_not <;> walk_at "go")
  | (apply e_and <;> (try intro _) <;> walk_at "go")
  | (apply e_or <;> (try intro _) <;> walk_at "go")
  | (apply e_ixL <;> walk_at "go")
  | (apply e_ixT <;> walk_at "go")
  | (apply e_lenL (by walk_at "o") (by walk_at "o") <;> walk_at "go")
  | (apply e_lenT (by walk_at "o") (by walk_at "o") <;> walk_at "go")
  | (apply e_lenD (by walk_at "o") (by walk_at "o") <;> walk_at "go")
  | (apply e_intB (by walk_at "o") (by walk_at "o") <;> walk_at "go"))
local macro_rules | `(tactic| walk_at "ea") => `(tactic| first | exact a_nil | (apply a_cons <;> walk_at "go"))
local macro_rules | `(tactic| walk_at "et") => `(tactic| first
  | (apply t_cmp <;> walk_at "go")
  | (apply t_and <;> (try intro _) <;> walk_at "go")
  | (apply t_or <;> (try intro _) <;> walk_at "go")
  | (apply t_not <;> walk_at "go")
  | (apply t_val <;> walk_at "go"))
local macro_rules | `(tactic| walk_at "in is_whole") => `(tactic| (obtain ⟨n0, g0, g1, g2, _⟩ := sl_is_whole (by with_reducible assumption)))
local macro_rules | `(tactic| walk_at "in look_word") => `(tactic| (obtain ⟨n0, n1, n2, n3, n4, n5, g0, g1, g2, g3, g4, g5, _⟩ := sl_look_word (by with_reducible assumption)))
local macro_rules | `(tactic| walk_at "in look_count") => `(tactic| (obtain ⟨n0, n1, n2, g0, g1, _⟩ := sl_look_count (by with_reducible assumption)))
local macro_rules | `(tactic| walk_at "in look_number") => `(tactic| (obtain ⟨n0, n1, g0, g1, _⟩ := sl_look_number (by with_reducible assumption)))
local macro_rules | `(tactic| walk_at "in words_of") => `(tactic| (obtain ⟨n0, n1, n2, g0, _⟩ := sl_words_of (by with_reducible assumption)))
local macro_rules | `(tactic| walk_at "in choices") => `(tactic| (obtain ⟨n0, n1, n2, g0, g1, _⟩ := sl_choices (by with_reducible assumption)))
local macro_rules | `(tactic| walk_at "in choices 0") => `(tactic| (have m0 : Slot _ 3 "one" := Blk.slot ‹Blk _ _ _› ‹Bd _ _ _ _› rfl (by unfold L2.Vis; decide +kernel); have m1 : Slot _ 4 "other" := Blk.slot ‹Blk _ _ _› ‹Bd _ _ _ _› rfl (by unfold L2.Vis; decide +kernel)))
local macro_rules | `(tactic| walk_at "in endings") => `(tactic| (obtain ⟨n0, n1, n2, n3, _⟩ := sl_endings (by with_reducible assumption)))
local macro_rules | `(tactic| walk_at "in mixed_endings") => `(tactic| (obtain ⟨n0, n1, n2, n3, n4, n5, g0, g1, _⟩ := sl_mixed_endings (by with_reducible assumption)))
local macro_rules | `(tactic| walk_at "in stepped") => `(tactic| (obtain ⟨n0, n1, g0, g1, g2, _⟩ := sl_stepped (by with_reducible assumption)))
local macro_rules | `(tactic| walk_at "in stepped 0") => `(tactic| (have m0 : Slot _ 2 "many" := Blk.slot ‹Blk _ _ _› ‹Bd _ _ _ _› rfl (by unfold L2.Vis; decide +kernel); have m1 : Slot _ 3 "step" := Blk.slot ‹Blk _ _ _› ‹Bd _ _ _ _› rfl (by unfold L2.Vis; decide +kernel)))
local macro_rules | `(tactic| walk_at "in ways_on") => `(tactic| (obtain ⟨n0, n1, n2, n3, g0, g1, g2, g3, _⟩ := sl_ways_on (by with_reducible assumption)))
local macro_rules | `(tactic| walk_at "in text_at") => `(tactic| (obtain ⟨n0, n1, n2, n3, n4, n5, n6, n7, g0, g1, g2, g3, _⟩ := sl_text_at (by with_reducible assumption)))
local macro_rules | `(tactic| walk_at "in text_place") => `(tactic| (obtain ⟨n0, n1, n2, n3, n4, n5, n6, n7, g0, g1, g2, g3, g4, _⟩ := sl_text_place (by with_reducible assumption)))
local macro_rules | `(tactic| walk_at "in count_words") => `(tactic| (obtain ⟨n0, g0, g1, g2, _⟩ := sl_count_words (by with_reducible assumption)))
local macro_rules | `(tactic| walk_at "in word_at") => `(tactic| (obtain ⟨n0, n1, g0, g1, g2, g3, _⟩ := sl_word_at (by with_reducible assumption)))
local macro_rules | `(tactic| walk_at "in word_place") => `(tactic| (obtain ⟨n0, g0, g1, g2, _⟩ := sl_word_place (by with_reducible assumption)))
local macro_rules | `(tactic| walk_at "in _law_mixed") => `(tactic| (obtain ⟨n0, n1, n2, _⟩ := sl__law_mixed (by with_reducible assumption)))
local macro_rules | `(tactic| walk_at "in _law_purse") => `(tactic| (obtain ⟨n0, n1, g0, _⟩ := sl__law_purse (by with_reducible assumption)))
local macro_rules | `(tactic| walk_at "in _law_take") => `(tactic| (obtain ⟨n0, n1, n2, g0, _⟩ := sl__law_take (by with_reducible assumption)))
local macro_rules | `(tactic| walk_at "in _law_at") => `(tactic| (obtain ⟨n0, n1, g0, _⟩ := sl__law_at (by with_reducible assumption)))
local macro_rules | `(tactic| walk_at "in _law_far") => `(tactic| (obtain ⟨n0, n1, n2, n3, g0, g1, _⟩ := sl__law_far (by with_reducible assumption)))
local macro_rules | `(tactic| walk_at "in _law_whole") => `(tactic| (obtain ⟨n0, g0, g1, g2, _⟩ := sl__law_whole (by with_reducible assumption)))
local macro_rules | `(tactic| walk_at "in _law_ways") => `(tactic| (obtain ⟨n0, n1, n2, n3, g0, _⟩ := sl__law_ways (by with_reducible assumption)))
local macro_rules | `(tactic| walk_at "in _law_ways 0") => `(tactic| (have m0 : Slot _ 3 "_law_last" := Blk.slot ‹Blk _ _ _› ‹Bd _ _ _ _› rfl (by unfold L2.Vis; decide +kernel); have m1 : Slot _ 4 "_law_at_here" := Blk.slot ‹Blk _ _ _› ‹Bd _ _ _ _› rfl (by unfold L2.Vis; decide +kernel)))
local macro_rules | `(tactic| walk_at "in _law_rank") => `(tactic| (obtain ⟨n0, n1, n2, n3, n4, n5, g0, g1, _⟩ := sl__law_rank (by with_reducible assumption)))
local macro_rules | `(tactic| walk_at "in _law_is_word") => `(tactic| (obtain ⟨n0, n1, n2, n3, g0, g1, g2, g3, _⟩ := sl__law_is_word (by with_reducible assumption)))
local macro_rules | `(tactic| walk_at "in _law_word") => `(tactic| (obtain ⟨n0, n1, n2, n3, n4, n5, n6, g0, g1, g2, _⟩ := sl__law_word (by with_reducible assumption)))
local macro_rules | `(tactic| walk_at "in _law_right") => `(tactic| (obtain ⟨n0, n1, n2, n3, n4, n5, n6, g0, g1, g2, g3, g4, g5, g6, _⟩ := sl__law_right (by with_reducible assumption)))
local macro_rules | `(tactic| walk_at "in law") => `(tactic| (obtain ⟨n0, n1, n2, n3, n4, n5, n6, g0, g1, g2, g3, g4, g5, g6, g7, g8, g9, g10, g11, g12, _⟩ := sl_law (by with_reducible assumption)))
local macro_rules | `(tactic| walk_at "in NoWord___init__") => `(tactic| (obtain ⟨n0, n1, _⟩ := sl_NoWord___init__ (by with_reducible assumption)))
/-! ### the purse: draws -/
def bigM : Int := 10 ^ 60 + 7
def mixed (c k : Int) : Int :=
  let n := (c % (10 ^ 18 + 9) + 7 * k) * 739108512309184756019283746561 + 7919 * k + 1
  let m := n * n % bigM
  (m + 40503) * (m + 57) % bigM
theorem mixed_lo (c k : Int) : 0 ≤ mixed c k := Int.emod_nonneg _ (by decide)
theorem mixed_hi (c k : Int) : mixed c k < bigM := Int.emod_lt_of_pos _ (by decide)
theorem mulW {i j : Int} (hi : -(2 ^ 200) < i ∧ i < 2 ^ 200) (hj : -(2 ^ 202) < j ∧ j < 2 ^ 202) : CMulW i j :=
  wide_mul (a := 200) (b := 202) (by omega) (by omega) (by decide) (by decide) (by decide)
def sp_mixed : Sp := fun vs H Q _ => ∃ c k : Int, vs = [.int c, .int k] ∧ 0 ≤ k ∧ k < 2 ^ 62 ∧ ∀ H2, Ex H H2 → Q (.int (mixed c k)) H2
theorem mix_a (c k : Int) (k0 : 0 ≤ k) (k1 : k < 2 ^ 62) : CMulW (c % (10 ^ Int.toNat 18 + 9) + 7 * k) 739108512309184756019283746561 := by
  have h0 : 0 ≤ c % (10 ^ Int.toNat 18 + 9) := Int.emod_nonneg _ (by decide)
  have h1 : c % (10 ^ Int.toNat 18 + 9) < 10 ^ Int.toNat 18 + 9 := Int.emod_lt_of_pos _ (by decide)
  have e : (10 : Int) ^ Int.toNat 18 = 1000000000000000000 := by decide
  rw [e] at h0 h1 ⊢
  exact mulW (by omega) (by omega)
theorem mix_b (c k : Int) (k0 : 0 ≤ k) (k1 : k < 2 ^ 62) : CMulW ((c % (10 ^ Int.toNat 18 + 9) + 7 * k) * 739108512309184756019283746561 + 7919 * k + 1) ((c % (10 ^ Int.toNat 18 + 9) + 7 * k) * 739108512309184756019283746561 + 7919 * k + 1) := by
  have h0 : 0 ≤ c % (10 ^ Int.toNat 18 + 9) := Int.emod_nonneg _ (by decide)
  have h1 : c % (10 ^ Int.toNat 18 + 9) < 10 ^ Int.toNat 18 + 9 := Int.emod_lt_of_pos _ (by decide)
  have e : (10 : Int) ^ Int.toNat 18 = 1000000000000000000 := by decide
  rw [e] at h0 h1 ⊢
  exact mulW (by omega) (by omega)
theorem mix_c (n : Int) : CMulW (n % (10 ^ Int.toNat 60 + 7) + 40503) (n % (10 ^ Int.toNat 60 + 7) + 57) := by
  have h0 : 0 ≤ n % (10 ^ Int.toNat 60 + 7) := Int.emod_nonneg _ (by decide)
  have h1 : n % (10 ^ Int.toNat 60 + 7) < 10 ^ Int.toNat 60 + 7 := Int.emod_lt_of_pos _ (by decide)
  have e : (10 : Int) ^ Int.toNat 60 = 1000000000000000000000000000000000000000000000000000000000000 := by decide
  rw [e] at h0 h1 ⊢
  exact mulW (by omega) (by omega)
/-- what a purse holds: the draws left, how often it was filled, its seed -/
structure Pu where
  n : Int
  j : Int
  s : Int
def Pu.v (u : Pu) : List V := [.int u.n, .int u.j, .int u.s]
/-- it may be filled so many times -/
def Pu.Ok (u : Pu) (b : Nat) : Prop := 0 ≤ u.j ∧ u.j + b ≤ 2 ^ 40
theorem Pu.Ok.mono {u : Pu} {a b : Nat} (h : u.Ok a) (e : b ≤ a) : u.Ok b := ⟨h.1, by have := h.2; omega⟩
def Pu.fill (u : Pu) (m : Int) : Pu := if u.n < m then ⟨u.n + m * mixed u.s (11 * (u.j + 1) + 5), u.j + 1, u.s⟩ else u
def Pu.got (u : Pu) (m : Int) : Int := (u.fill m).n % m
def Pu.nxt (u : Pu) (m : Int) : Pu := ⟨(u.fill m).n / m, (u.fill m).j, u.s⟩
theorem Pu.Ok.nxt {u : Pu} {b : Nat} {m : Int} (h : u.Ok (b + 1)) : (u.nxt m).Ok b := by
  have h1 := h.1
  have h2 := h.2
  unfold Pu.nxt Pu.fill Pu.Ok
  split <;> (dsimp only; exact ⟨by omega, by omega⟩)
theorem Pu.got_lo (u : Pu) {m : Int} (h : 1 ≤ m) : 0 ≤ u.got m := Int.emod_nonneg _ (by omega)
theorem Pu.got_hi (u : Pu) {m : Int} (h : 1 ≤ m) : u.got m < m := Int.emod_lt_of_pos _ (by omega)
/-- a purse stands at p -/
def sp_take : Sp := fun vs H Q _ => ∃ (p : Addr) (u : Pu) (m : Int), vs = [.ref p, .int m] ∧ H p = some (.lst u.v) ∧ 1 ≤ m ∧ m < 2 ^ 200 ∧ u.Ok 1 ∧ ∀ H2, ExBut p H H2 → H2 p = some (.lst (u.nxt m).v) → Q (.int (u.got m)) H2
section
variable {P : Program} {w : World} {K : PySem.W.Frag} {mg : Str → Option Value} {base : Heap}
theorem ok_mixed (T : Prog K mg) : Callee P w K mg base 1 "_law_mixed" [] sp_mixed := by
  refine callee_mk T.f__law_mixed sc__law_mixed (fun _ _ _ _ _ _ us hl => match us, hl with | [_, _], _ => rfl) (fun vs H Q E h => ?_) ?_
  · obtain ⟨_, _, rfl, _⟩ := h
    rfl
  · rintro X rfl rfl rfl rfl rfl b E tk vs H Q ⟨c, k, rfl, k0, k1, q⟩
    walk_at "in _law_mixed"
    have C := Cfg.start (H := H)
    have a1 := Or.inr (a := CMul (c % (10 ^ Int.toNat 18 + 9) + 7 * k) 739108512309184756019283746561) (mix_a c k k0 k1)
    have a2 := Or.inr (a := CMul ((c % (10 ^ Int.toNat 18 + 9) + 7 * k) * 739108512309184756019283746561 + 7919 * k + 1) ((c % (10 ^ Int.toNat 18 + 9) + 7 * k) * 739108512309184756019283746561 + 7919 * k + 1)) (mix_b c k k0 k1)
    have a3 := fun n : Int => Or.inr (a := CMul (n % (10 ^ Int.toNat 60 + 7) + 40503) (n % (10 ^ Int.toNat 60 + 7) + 57)) (mix_c n)
    first
    | refine s_setV (by walk_at "o") C (by walk_at "ev") (fun H1 e1 C1 => ?_)
      refine s_setV (by walk_at "o") C1 (by walk_at "ev") (fun H2 e2 C2 => ?_)
      refine s_setV (by walk_at "o") C2 (by walk_at "ev") (fun H3 e3 C3 => ?_)
      exact s_retV C3 (by walk_at "ev"; exact a3 _) fun H4 e4 C4 => by exact q H4 C4.ex
    | refine s_setV (by walk_at "o") C (by walk_at "ev") (fun H1 e1 C1 => ?_)
      refine s_setV (by walk_at "o") C1 (by walk_at "ev") (fun H2 e2 C2 => ?_)
      exact s_retV C2 (by walk_at "ev"; exact a3 _) fun H4 e4 C4 => by exact q H4 C4.ex
theorem e_mixed {X : Cx} {k : Nat} {e1 e2 : Expr} {p' pos : Pos} {σ : L2.St} {B : Hp} {l : List Ob} {c d : Int} (T : Prog X.K X.mg) (hr : Room k X.A) (hj : 1 ≤ k) (hg : Gl X "_law_mixed") (h1 : EV X e1 σ B l (.int c)) (h2 : EV X e2 σ B l (.int d)) (hd : 0 ≤ d ∧ d < 2 ^ 62)
    (he : starEach (e1 :: [e2]) X.env = (false, eval e1 X.env) :: starEach [e2] X.env := by rfl) (he2 : starEach (e2 :: []) X.env = (false, eval e2 X.env) :: starEach [] X.env := by rfl) (hpl : (backTo pos (starEach [e2] X.env)).any (·.1) = false := by rfl) :
    EV X (.Call (.Name "_law_mixed" p') [e1, e2] [] pos) σ B l (.int (mixed c d)) :=
  e_call (ok_mixed T) hr hj hg (a_cons h1 (a_cons h2 a_nil he2) he) (fun H _ Q E q => ⟨c, d, rfl, hd.1, hd.2, q⟩) (by decide +kernel) he hpl
theorem ok_take (T : Prog K mg) : Callee P w K mg base 2 "_law_take" [] sp_take := by
  refine callee_mk T.f__law_take sc__law_take (fun _ _ _ _ _ _ us hl => match us, hl with | [_, _], _ => rfl) (fun vs H Q E h => ?_) ?_
  · obtain ⟨_, _, _, rfl, _⟩ := h
    rfl
  · rintro X rfl rfl rfl rfl rfl b E tk vs H Q ⟨p, u, m, rfl, hp, m0, m1, ok, q⟩
    walk_at "in _law_take"
    have T' := T
    have C := Cfg.own1 hp
    unfold Pu.v at C
    have hj : 0 ≤ u.j ∧ u.j + 1 ≤ 2 ^ 40 := ⟨ok.1, ok.2⟩
    have mx := mixed_lo u.s (11 * (u.j + 1) + 5)
    have mh := mixed_hi u.s (11 * (u.j + 1) + 5)
    have mb : bigM < 2 ^ 200 := by decide
    have cm : CMul m (mixed u.s (11 * (u.j + 1) + 5)) ∨ CMulW m (mixed u.s (11 * (u.j + 1) + 5)) := .inr (mulW (by omega) (by omega))
    have dv : ∀ z : Int, CDivW z m := fun z => wide_div (b := 200) (by omega) (by omega) (by decide) (by decide)
    have m00 : 0 < m := by omega
    have fin : ∀ (n j : Int) (H1 : Hp), Cfg (off H p) [(p, .lst [.int n, .int j, .int u.s])] H1 → n = (u.fill m).n → j = (u.fill m).j → ∀ σ', σ' = L2.start N__law_take [.ref p, .int m] → wSs X (List.drop 1 (defBody s__law_take)) { nx := fun _ H' => Q .non H', rt := Q } σ' H1 := by
      intro n j H1 C1 en ej σ' es
      subst es
      refine s_setV (by walk_at "o") C1 (by walk_at "ev") (fun H2 e2 C2 => ?_)
      have dn := dv n
      refine s_setL (q := 0) C2 (by walk_at "mem") (v := .int (n / m)) (by walk_at "ev") (by walk_at "ev") (by walk_at "ev") (by simp) (fun H3 C3 => ?_)
      have C3' : Cfg (off H p) [(p, .lst [.int (n / m), .int j, .int u.s])] H3 := by simpa [QW.put] using C3
      refine s_retV C3' (by walk_at "ev") fun H4 e4 C4 => ?_
      have g : Q (.int (u.got m)) H4 := q H4 C4.back (by
        have := C4.look List.mem_cons_self
        rw [this]
        subst en ej
        rfl)
      subst en
      exact g
    refine s_ifV C (by walk_at "et") (fun c H1 e1 C1 => ?_) (fun c H1 e1 C1 => ?_)
    · have c' := of_decide_eq_true c
      refine s_setL (q := 1) C1 (by walk_at "mem") (v := .int (u.j + 1)) (by walk_at "ev") (by walk_at "ev") (by walk_at "ev") (by simp) (fun H2 C2 => ?_)
      have C2' : Cfg (off H p) [(p, .lst [.int u.n, .int (u.j + 1), .int u.s])] H2 := by simpa [QW.put] using C2
      refine s_setL (q := 0) C2' (by walk_at "mem") (v := .int (u.n + m * mixed u.s (11 * (u.j + 1) + 5))) (by
        refine e_add (by walk_at "ev") (e_mul (by walk_at "ev") (e_mixed T b.room (by decide) (by walk_at "o") (by walk_at "ev") (by walk_at "ev") ⟨by omega, by omega⟩) cm)) (by walk_at "ev") (by walk_at "ev") (by simp) (fun H3 C3 => ?_)
      have C3' : Cfg (off H p) [(p, .lst [.int (u.n + m * mixed u.s (11 * (u.j + 1) + 5)), .int (u.j + 1), .int u.s])] H3 := by simpa [QW.put] using C3
      refine s_nil (fin _ _ _ C3' ?_ ?_ _ rfl)
      · unfold Pu.fill; rw [if_pos c']
      · unfold Pu.fill; rw [if_pos c']
    · have c' := of_decide_eq_false c
      refine s_nil (fin _ _ _ C1 ?_ ?_ _ rfl)
      · unfold Pu.fill; rw [if_neg c']
      · unfold Pu.fill; rw [if_neg c']
end
section
variable {P : Program} {w : World} {K : PySem.W.Frag} {mg : Str → Option Value} {base : Heap}
/-- a new purse -/
def Pu.of (c k : Int) : Pu := if c ≥ 10 ^ 18 then ⟨(c - 10 ^ 18) % (10 ^ 60) ^ 8, 0, k⟩ else ⟨mixed c k, 0, c % (10 ^ 18 + 9) + k⟩
theorem Pu.of_ok (c k : Int) {b : Nat} (h : b ≤ 2 ^ 40) : (Pu.of c k).Ok b := by
  unfold Pu.of Pu.Ok
  split <;> (dsimp only; exact ⟨by omega, by omega⟩)
def sp_purse : Sp := fun vs H Q _ => ∃ c k : Int, vs = [.int c, .int k] ∧ 0 ≤ k ∧ k < 2 ^ 62 ∧ ∀ p H2, H p = none → Ex H H2 → H2 p = some (.lst (Pu.of c k).v) → Q (.ref p) H2
theorem ok_purse (T : Prog K mg) : Callee P w K mg base 2 "_law_purse" [] sp_purse := by
  refine callee_mk T.f__law_purse sc__law_purse (fun _ _ _ _ _ _ us hl => match us, hl with | [_, _], _ => rfl) (fun vs H Q E h => ?_) ?_
  · obtain ⟨_, _, rfl, _⟩ := h
    rfl
  · rintro X rfl rfl rfl rfl rfl b E tk vs H Q ⟨c, k, rfl, k0, k1, q⟩
    walk_at "in _law_purse"
    have C := Cfg.start (H := H)
    have dd : (0 : Int) < 10 ^ Int.toNat 18 + 9 := by decide
    have de : (0 : Int) < (10 ^ Int.toNat 60) ^ Int.toNat 8 := Int.pow_pos (Int.pow_pos (by decide))
    have e1 : (10 : Int) ^ Int.toNat 18 = 10 ^ 18 := rfl
    have e2 : (10 : Int) ^ Int.toNat 18 + 9 = 10 ^ 18 + 9 := rfl
    have cp : (0:Int) ≤ 8 ∧ (Builtin.Int.intBits (10 ^ Int.toNat 60) : Int) * 8 ≤ 2 ^ 27 := by decide +kernel
    refine s_ifV C (by walk_at "et") (fun c' H1 x1 C1 => ?_) (fun c' H1 x1 C1 => ?_)
    · have d : c ≥ 10 ^ 18 := of_decide_eq_true c'
      refine s_ret (n_lst C1 (by walk_at "ea") (by simp) fun p H2 x2 C2 => ?_)
      refine q p H2 ?_ (x1.trans x2) ?_
      · exact C2.fr _ _ List.mem_cons_self
      · rw [C2.look List.mem_cons_self]
        unfold Pu.of
        rw [if_pos d]
        rfl
    · have d : ¬ c ≥ 10 ^ 18 := of_decide_eq_false c'
      refine s_nil (s_ret (n_lst C1 (a_cons (e_mixed T b.room (by decide) (by walk_at "o") (by walk_at "ev") (by walk_at "ev") ⟨k0, k1⟩) (by walk_at "ea")) (by simp) fun p H2 x2 C2 => ?_))
      refine q p H2 ?_ (x1.trans x2) ?_
      · exact C2.fr _ _ List.mem_cons_self
      · rw [C2.look List.mem_cons_self]
        unfold Pu.of
        rw [if_neg d]
        rfl
theorem w_purse {X : Cx} {k : Nat} {e1 e2 : Expr} {p' pos : Pos} {σ : L2.St} {H B : Hp} {l : List Ob} {Q : VK} {c d : Int} (T : Prog X.K X.mg) (hr : Room k X.A) (hj : 2 ≤ k) (hg : Gl X "_law_purse") (C : Cfg B l H) (h : EA X (e1 :: [e2]) σ B l [.int c, .int d]) (hd : 0 ≤ d ∧ d < 2 ^ 62)
    (q : ∀ p H2, Ex H H2 → Cfg B ((p, .lst (Pu.of c d).v) :: l) H2 → Q (.ref p) H2)
    (he : starEach (e1 :: [e2]) X.env = (false, eval e1 X.env) :: starEach [e2] X.env := by rfl) (hpl : (backTo pos (starEach [e2] X.env)).any (·.1) = false := by rfl) : wE X (.Call (.Name "_law_purse" p') [e1, e2] [] pos) σ H Q :=
  w_call (ok_purse T) hr hj hg (goA h C fun H1 x1 C1 => ⟨c, d, rfl, hd.1, hd.2, fun p H2 hp x2 hq => q p H2 (x1.trans x2) (C1.new hp x2 hq)⟩) (by decide +kernel) he hpl
/-- a draw -/
theorem w_takeW {X : Cx} {k : Nat} {e1 e2 : Expr} {p' pos : Pos} {σ : L2.St} {H B : Hp} {l : List Ob} {Q : VK} {p : Addr} (T : Prog X.K X.mg) (hr : Room k X.A) (hj : 2 ≤ k) (hg : Gl X "_law_take") (C : Cfg B l H) (h1 : EV X e1 σ B l (.ref p))
    (h2 : ∀ H1, Ex H H1 → Cfg B l H1 → wE X e2 σ H1 fun y H2 => ∃ (u : Pu) (m : Int) (l' : List Ob), y = .int m ∧ Cfg B l' H2 ∧ (p, .lst u.v) ∈ l' ∧ 1 ≤ m ∧ m < 2 ^ 200 ∧ u.Ok 1 ∧ ∀ H3, Cfg B (QW.put p (.lst (u.nxt m).v) l') H3 → Q (.int (u.got m)) H3)
    (he : starEach (e1 :: [e2]) X.env = (false, eval e1 X.env) :: starEach [e2] X.env := by rfl) (he2 : starEach (e2 :: []) X.env = (false, eval e2 X.env) :: starEach [] X.env := by rfl) (hpl : (backTo pos (starEach [e2] X.env)).any (·.1) = false := by rfl) : wE X (.Call (.Name "_law_take" p') [e1, e2] [] pos) σ H Q :=
  w_call (ok_take T) hr hj hg (w_acons (go h1 C fun H1 x1 C1 => w_acons (wE_mono (h2 H1 x1 C1) fun y H2 ⟨u, m, l', e, C2, mm, m0, m1, ok, q⟩ => w_anil (by
    subst e
    exact ⟨p, u, m, rfl, C2.look mm, m0, m1, ok, fun H3 x3 hp => q H3 (C2.but mm x3 hp)⟩)) he2) he) (by decide +kernel) he hpl
theorem w_take {X : Cx} {k : Nat} {e1 e2 : Expr} {p' pos : Pos} {σ : L2.St} {H B : Hp} {l : List Ob} {Q : VK} {p : Addr} {u : Pu} {m : Int} (T : Prog X.K X.mg) (hr : Room k X.A) (hj : 2 ≤ k) (hg : Gl X "_law_take") (C : Cfg B l H) (mm : (p, .lst u.v) ∈ l) (h1 : EV X e1 σ B l (.ref p)) (h2 : EV X e2 σ B l (.int m)) (hm : 1 ≤ m ∧ m < 2 ^ 200) (ok : u.Ok 1)
    (q : ∀ H3, Cfg B (QW.put p (.lst (u.nxt m).v) l) H3 → Q (.int (u.got m)) H3)
    (he : starEach (e1 :: [e2]) X.env = (false, eval e1 X.env) :: starEach [e2] X.env := by rfl) (he2 : starEach (e2 :: []) X.env = (false, eval e2 X.env) :: starEach [] X.env := by rfl) (hpl : (backTo pos (starEach [e2] X.env)).any (·.1) = false := by rfl) : wE X (.Call (.Name "_law_take" p') [e1, e2] [] pos) σ H Q :=
  w_takeW T hr hj hg C h1 (fun H1 x1 C1 => go h2 C1 fun H2 x2 C2 => ⟨u, m, l, rfl, C2, mm, hm.1, hm.2, ok, q⟩) he he2 hpl
/-- the script's number at a place -/
def atS (ns : List Int) (k : Nat) : Int := ns.getD k (3 * k + 1)
def sp_at : Sp := fun vs H Q _ => ∃ (p : Addr) (ns : List Int) (k : Nat), vs = [.ref p, .int (k : Int)] ∧ SqL K H p (ns.map .int) ∧ ∀ H2, Ex H H2 → Q (.int (atS ns k)) H2
theorem ok_at (T : Prog K mg) : Callee P w K mg base 1 "_law_at" [] (sp_at (K := K)) := by
  refine callee_mk T.f__law_at sc__law_at (fun _ _ _ _ _ _ us hl => match us, hl with | [_, _], _ => rfl) (fun vs H Q E h => ?_) ?_
  · obtain ⟨_, _, _, rfl, _⟩ := h
    rfl
  · rintro X rfl rfl rfl rfl rfl b E tk vs H Q ⟨p, ns, k, rfl, hp, q⟩
    walk_at "in _law_at"
    have bl := T.b_len
    have C := Cfg.start (H := H)
    refine s_ifV C (by walk_at "et") (fun c' H1 x1 C1 => ?_) (fun c' H1 x1 C1 => ?_)
    · have d := of_decide_eq_true c'
      rw [List.length_map] at d
      have hk : k < ns.length := by omega
      have a1 : atI (ns.map V.int) (k : Int) = some (.int (atS ns k)) := by
        refine atI_nat ?_
        rw [List.getElem?_map, List.getElem?_eq_getElem hk]
        unfold atS
        rw [List.getD_eq_getElem?_getD, List.getElem?_eq_getElem hk]
        rfl
      refine s_retV C1 (e_ixL (by walk_at "ev") (by walk_at "ev") (by walk_at "lst") a1) fun H2 x2 C2 => by exact q H2 (x1.trans x2)
    · have d := of_decide_eq_false c'
      rw [List.length_map] at d
      have hk : ns.length ≤ k := by omega
      have a1 : atS ns k = 3 * (k : Int) + 1 := by
        unfold atS
        rw [List.getD_eq_getElem?_getD, List.getElem?_eq_none hk]
        rfl
      rw [a1] at q
      exact s_nil (s_retV C1 (by walk_at "ev") fun H2 x2 C2 => by exact q H2 (x1.trans x2))
end
section
variable {P : Program} {w' : World} {K : PySem.W.Frag} {mg : Str → Option Value} {base : Heap}
/-! whole numbers -/
theorem e_isInt {X : Cx} {e : Expr} {p1 p2 pos : Pos} {σ : L2.St} {B : Hp} {l : List Ob} {i : Int} (T : Prog X.K X.mg) (hg : Gl X "isinstance") (hi : Gl X "int") (h : EV X e σ B l (.int i))
    (hs : starEach (e :: [.Name "int" p2]) X.env = (false, eval e X.env) :: starEach [.Name "int" p2] X.env := by rfl) (hs2 : starEach [.Name "int" p2] X.env = (false, eval (.Name "int" p2) X.env) :: starEach [] X.env := by rfl) (hpl : (backTo pos (starEach [.Name "int" p2] X.env)).any (·.1) = false := by rfl) : EV X (.Call (.Name "isinstance" p1) [e, .Name "int" p2] [] pos) σ B l (.bl true) :=
  e_isi hg T.b_isinstance h (e_ty (n := "int") hi T.b_int (by decide +kernel) (by decide) (by decide)) (fun H c => .base (.int _)) (kit_ty (by decide +kernel)) hs hs2 hpl
theorem e_isBool {X : Cx} {e : Expr} {p1 p2 pos : Pos} {σ : L2.St} {B : Hp} {l : List Ob} {i : Int} (T : Prog X.K X.mg) (hg : Gl X "isinstance") (hi : Gl X "bool") (h : EV X e σ B l (.int i))
    (hs : starEach (e :: [.Name "bool" p2]) X.env = (false, eval e X.env) :: starEach [.Name "bool" p2] X.env := by rfl) (hs2 : starEach [.Name "bool" p2] X.env = (false, eval (.Name "bool" p2) X.env) :: starEach [] X.env := by rfl) (hpl : (backTo pos (starEach [.Name "bool" p2] X.env)).any (·.1) = false := by rfl) : EV X (.Call (.Name "isinstance" p1) [e, .Name "bool" p2] [] pos) σ B l (.bl false) :=
  e_isi hg T.b_isinstance h (e_ty (n := "bool") hi T.b_bool (by decide +kernel) (by decide) (by decide)) (fun H c => .base (.int _)) (kit_ty (by decide +kernel)) hs hs2 hpl
theorem e_isStr {X : Cx} {e : Expr} {p1 p2 pos : Pos} {σ : L2.St} {B : Hp} {l : List Ob} {z : Str} (T : Prog X.K X.mg) (hg : Gl X "isinstance") (hi : Gl X "str") (h : EV X e σ B l (.str z))
    (hs : starEach (e :: [.Name "str" p2]) X.env = (false, eval e X.env) :: starEach [.Name "str" p2] X.env := by rfl) (hs2 : starEach [.Name "str" p2] X.env = (false, eval (.Name "str" p2) X.env) :: starEach [] X.env := by rfl) (hpl : (backTo pos (starEach [.Name "str" p2] X.env)).any (·.1) = false := by rfl) : EV X (.Call (.Name "isinstance" p1) [e, .Name "str" p2] [] pos) σ B l (.bl true) :=
  e_isi hg T.b_isinstance h (e_ty (n := "str") hi T.b_str (by decide +kernel) (by decide) (by decide)) (fun H c => .base (.str _)) (kit_ty (by decide +kernel)) hs hs2 hpl
def sp_whole : Sp := fun vs H Q _ => ∃ i : Int, vs = [.int i] ∧ ∀ H2, Ex H H2 → Q (.bl true) H2
theorem ok_whole (T : Prog K mg) : Callee P w' K mg base 1 "is_whole" [] sp_whole := by
  refine callee_mk T.f_is_whole sc_is_whole (fun _ _ _ _ _ _ us hl => match us, hl with | [_], _ => rfl) (fun vs H Q E h => ?_) ?_
  · obtain ⟨_, rfl, _⟩ := h
    rfl
  · rintro X rfl rfl rfl rfl rfl b E tk vs H Q ⟨i, rfl, q⟩
    walk_at "in is_whole"
    have C := Cfg.start (H := H)
    refine s_retV C (e_and (e_isInt T (by walk_at "o") (by walk_at "o") (by walk_at "ev")) (fun _ => e_not (e_isBool T (by walk_at "o") (by walk_at "o") (by walk_at "ev")))) fun H2 x2 C2 => by exact q H2 x2
theorem ok_lwhole (T : Prog K mg) : Callee P w' K mg base 1 "_law_whole" [] sp_whole := by
  refine callee_mk T.f__law_whole sc__law_whole (fun _ _ _ _ _ _ us hl => match us, hl with | [_], _ => rfl) (fun vs H Q E h => ?_) ?_
  · obtain ⟨_, rfl, _⟩ := h
    rfl
  · rintro X rfl rfl rfl rfl rfl b E tk vs H Q ⟨i, rfl, q⟩
    walk_at "in _law_whole"
    have C := Cfg.start (H := H)
    refine s_retV C (e_and (e_isInt T (by walk_at "o") (by walk_at "o") (by walk_at "ev")) (fun _ => e_not (e_isBool T (by walk_at "o") (by walk_at "o") (by walk_at "ev")))) fun H2 x2 C2 => by exact q H2 x2
end
section
variable {P : Program} {w' : World} {K : PySem.W.Frag} {mg : Str → Option Value} {base : Heap}
theorem e_whole {X : Cx} {k : Nat} {e : Expr} {p' pos : Pos} {σ : L2.St} {B : Hp} {l : List Ob} {i : Int} (T : Prog X.K X.mg) (hr : Room k X.A) (hj : 1 ≤ k) (hg : Gl X "is_whole") (h : EV X e σ B l (.int i))
    (he : starEach (e :: []) X.env = (false, eval e X.env) :: starEach [] X.env := by rfl) (hpl : (backTo pos (starEach [] X.env)).any (·.1) = false := by rfl) : EV X (.Call (.Name "is_whole" p') [e] [] pos) σ B l (.bl true) :=
  e_call (ok_whole T) hr hj hg (a_cons h a_nil he) (fun H _ Q E q => ⟨i, rfl, q⟩) (by decide +kernel) he hpl
theorem e_lwhole {X : Cx} {k : Nat} {e : Expr} {p' pos : Pos} {σ : L2.St} {B : Hp} {l : List Ob} {i : Int} (T : Prog X.K X.mg) (hr : Room k X.A) (hj : 1 ≤ k) (hg : Gl X "_law_whole") (h : EV X e σ B l (.int i))
    (he : starEach (e :: []) X.env = (false, eval e X.env) :: starEach [] X.env := by rfl) (hpl : (backTo pos (starEach [] X.env)).any (·.1) = false := by rfl) : EV X (.Call (.Name "_law_whole" p') [e] [] pos) σ B l (.bl true) :=
  e_call (ok_lwhole T) hr hj hg (a_cons h a_nil he) (fun H _ Q E q => ⟨i, rfl, q⟩) (by decide +kernel) he hpl
def sp_lookc : Sp := fun vs H Q _ => ∃ n a b : Int, vs = [.int n, .int a, .int b] ∧ a ≤ n ∧ n ≤ b ∧ ∀ H2, Ex H H2 → Q .non H2
theorem ok_lookc (T : Prog K mg) : Callee P w' K mg base 2 "look_count" [] sp_lookc := by
  refine callee_mk T.f_look_count sc_look_count (fun _ _ _ _ _ _ us hl => match us, hl with | [_, _, _], _ => rfl) (fun vs H Q E h => ?_) ?_
  · obtain ⟨_, _, _, rfl, _⟩ := h
    rfl
  · rintro X rfl rfl rfl rfl rfl b E tk vs H Q ⟨n, a, c, rfl, h1, h2, q⟩
    walk_at "in look_count"
    have C := Cfg.start (H := H)
    refine s_ifF C (ET.is (t_or3 (t_not (t_val (e_whole T b.room (by decide) (by walk_at "o") (by walk_at "ev")))) (fun _ => by walk_at "et") (fun _ _ => by walk_at "et")) (by
      rw [decide_eq_false (by omega), decide_eq_false (by omega)]; rfl)) fun H2 x2 C2 => ?_
    exact s_nil (s_nil (q H2 x2))
def sp_lookn : Sp := fun vs H Q _ => ∃ n b : Int, vs = [.int n, .int b] ∧ 0 ≤ n ∧ n < b ∧ ∀ H2, Ex H H2 → Q .non H2
theorem ok_lookn (T : Prog K mg) : Callee P w' K mg base 2 "look_number" [] sp_lookn := by
  refine callee_mk T.f_look_number sc_look_number (fun _ _ _ _ _ _ us hl => match us, hl with | [_, _], _ => rfl) (fun vs H Q E h => ?_) ?_
  · obtain ⟨_, _, rfl, _⟩ := h
    rfl
  · rintro X rfl rfl rfl rfl rfl b E tk vs H Q ⟨n, c, rfl, h1, h2, q⟩
    walk_at "in look_number"
    have C := Cfg.start (H := H)
    refine s_ifF C (ET.is (t_or3 (t_not (t_val (e_whole T b.room (by decide) (by walk_at "o") (by walk_at "ev")))) (fun _ => by walk_at "et") (fun _ _ => by walk_at "et")) (by
      rw [decide_eq_false (by omega), decide_eq_false (by omega)]; rfl)) fun H2 x2 C2 => ?_
    exact s_nil (s_nil (q H2 x2))
def sp_words : Sp := fun vs H Q _ => ∃ n : Nat, vs = [.int (n : Int)] ∧ n ≤ 60 ∧ ∀ H2, Ex H H2 → Q (.int (wordsOf n)) H2
theorem ok_words (T : Prog K mg) : Callee P w' K mg base 1 "words_of" [] sp_words := by
  refine callee_mk T.f_words_of sc_words_of (fun _ _ _ _ _ _ us hl => match us, hl with | [_], _ => rfl) (fun vs H Q E h => ?_) ?_
  · obtain ⟨_, rfl, _⟩ := h
    rfl
  · rintro X rfl rfl rfl rfl rfl b E tk vs H Q ⟨n, rfl, hn, q⟩
    walk_at "in words_of"
    have C := Cfg.start (H := H)
    refine s_setV (by walk_at "o") C (by walk_at "ev") fun H1 x1 C1 => ?_
    refine s_forR1 b (by walk_at "o") T.b_range (by walk_at "o") C1 (by walk_at "ev") (by omega) (fun i σ' H' => Ex H H' ∧ ∃ v, σ' = [some (.int (n : Int)), some (.int (wordsOf i)), v]) (fun H2 x2 C2 => ⟨x1.trans x2, _, rfl⟩) (fun i σ' H' hi p => ?_) (fun σ' H' p => ?_)
    · obtain ⟨e, v, rfl⟩ := p
      have C3 := Cfg.start (H := H')
      obtain ⟨_, hb0, hb1⟩ := words_w (n := i) (by omega)
      have cm : CMul (wordsOf i * 2) (2 * (i : Int) + 1) ∨ CMulW (wordsOf i * 2) (2 * (i : Int) + 1) := .inl (.inr ⟨by omega, by omega⟩)
      have cm1 : CMul (wordsOf i) 2 ∨ CMulW (wordsOf i) 2 := .inl (.inr ⟨by decide, by decide⟩)
      have cd : CDivW (wordsOf i * 2 * (2 * (i : Int) + 1)) ((i : Int) + 2) := wide_div (b := 64) (by omega) (by omega) (by decide) (by decide)
      exact s_setV (by walk_at "o") C3 (by walk_at "ev") fun H2 x2 C4 => s_nil ⟨e.trans x2, _, rfl⟩
    · obtain ⟨e, v, rfl⟩ := p
      exact s_retV (Cfg.start (H := H')) (by walk_at "ev") fun H2 x2 C4 => by exact q H2 (e.trans x2)
end
section
variable {P : Program} {w' : World} {K : PySem.W.Frag} {mg : Str → Option Value} {base : Heap}
/-- Pascal's rows stand at p -/
def Rows (H : Hp) (p : Addr) (n : Nat) : Prop := ∃ as : List Addr, H p = some (.lst (as.map V.ref)) ∧ as.length = n + 1 ∧ ∀ j, j ≤ n → ∃ a, as[j]? = some a ∧ H a = some (.lst ((pas j).map V.int))
theorem Rows.ex {H H2 : Hp} {p : Addr} {n : Nat} (h : Rows H p n) (e : Ex H H2) : Rows H2 p n := by
  obtain ⟨as, h1, h2, h3⟩ := h
  exact ⟨as, e _ _ h1, h2, fun j hj => by obtain ⟨a, x, y⟩ := h3 j hj; exact ⟨a, x, e _ _ y⟩⟩
def sp_choices : Sp := fun vs H Q _ => ∃ n : Nat, vs = [.int (n : Int)] ∧ n ≤ 1000 ∧ ∀ p H2, Ex H H2 → Rows H2 p n → Q (.ref p) H2
theorem pnext_at (p : List Int) (m : Nat) (hm : p.length = m) : (List.range (m + 1)).map (fun i => V.int ((0 :: p).getD i 0 + (p ++ [0]).getD i 0)) = (pnext p).map V.int := by
  apply List.ext_getElem?
  intro i
  unfold pnext
  rw [List.getElem?_map, List.getElem?_map, List.getElem?_zipWith]
  by_cases c : i < m + 1
  · rw [List.getElem?_range c, List.getElem?_eq_getElem (by simp; omega : i < (0 :: p).length), List.getElem?_eq_getElem (by simp; omega : i < (p ++ [0]).length)]
    show some (V.int ((0 :: p).getD i 0 + (p ++ [0]).getD i 0)) = some (V.int ((0 :: p)[i]'(by simp; omega) + (p ++ [0])[i]'(by simp; omega)))
    rw [List.getD_eq_getElem?_getD, List.getD_eq_getElem?_getD, List.getElem?_eq_getElem (by simp; omega : i < (0 :: p).length), List.getElem?_eq_getElem (by simp; omega : i < (p ++ [0]).length)]
    rfl
  · rw [List.getElem?_eq_none (by rw [List.length_range]; omega : (List.range (m + 1)).length ≤ i), List.getElem?_eq_none (by simp; omega : (0 :: p).length ≤ i)]
    rfl
theorem ok_choices (T : Prog K mg) : Callee P w' K mg base 1 "choices" [] sp_choices := by
  refine callee_mk T.f_choices sc_choices (fun _ _ _ _ _ _ us hl => match us, hl with | [_], _ => rfl) (fun vs H Q E h => ?_) ?_
  · obtain ⟨_, rfl, _⟩ := h
    rfl
  · rintro X rfl rfl rfl rfl rfl b E tk vs H Q ⟨n, rfl, hn, q⟩
    walk_at "in choices"
    have C := Cfg.start (H := H)
    refine s_set (by walk_at "o") (w_lst' (w_acons (n_lst C (by walk_at "ea") (by simp) fun a0 H1 x1 C1 => w_anil ⟨by rw [sizeLine_eq]; simp, fun p hp => ?_⟩)))
    have C2 := C1.add (o := .lst [.ref a0]) hp
    have x2 := x1.trans (Ex.new (o := HO.lst [V.ref a0]) hp)
    refine s_forR1 b (by walk_at "o") T.b_range (by walk_at "o") C2 (by walk_at "ev") (by omega) (fun i σ' H' => (∃ (as : List Addr) (B' : Hp), Ex H B' ∧ Cfg B' [(p, .lst (as.map V.ref))] H' ∧ as.length = i + 1 ∧ ∀ j, j ≤ i → ∃ a, as[j]? = some a ∧ B' a = some (.lst ((pas j).map V.int))) ∧ ∃ v v2 v3, σ' = [some (.int (n : Int)), some (.ref p), v, v2, v3]) (fun H3 x3 C3 => ⟨⟨[a0], ?_⟩, _, _, _, rfl⟩) (fun i σ' H' hi p' => ?_) (fun σ' H' p' => ?_)
    · have C4 := (C3.swap).keep
      refine ⟨_, C4.2.1, C4.1, rfl, fun j hj => ⟨a0, ?_, ?_⟩⟩
      · obtain rfl : j = 0 := by omega
        rfl
      · obtain rfl : j = 0 := by omega
        exact C4.2.2
    · obtain ⟨⟨as, B', e, C3, hl, ha⟩, v, v2, v3, rfl⟩ := p'
      obtain ⟨a, h1, h2⟩ := ha i (Nat.le_refl _)
      have hat : atI (as.map V.ref) (-1) = some (.ref a) := by
        have hne : as ≠ [] := by intro z; rw [z] at hl; cases hl
        rw [← List.dropLast_concat_getLast hne, List.map_append]
        refine atI_last.trans ?_
        have : as[i]? = some (as.getLast hne) := by rw [List.getLast_eq_getElem, List.getElem?_eq_getElem (by omega)]; congr 1; congr 1; omega
        rw [this] at h1
        rw [Option.some.inj h1]
      have pl := pas_len i
      refine s_expr (w_appW C3 List.mem_cons_self (by walk_at "ev") (fun H4 x4 C4 => w_lcE b [("one", 3), ("other", 4)] ⟨rfl, by decide +kernel, by decide +kernel, by decide +kernel, by decide +kernel⟩ (i_zipW (by walk_at "o") T.b_zip (w_acons (w_cat (n_lst C4 (by walk_at "ea") (by simp) fun q1 H5 x5 C5 => go (e_ixL (by walk_at "ev") (by walk_at "ev") (by walk_at "lst") hat) C5 fun H6 x6 C6 => ⟨q1, a, _, _, rfl, rfl, C6.look List.mem_cons_self, C6.ex _ _ h2, ?_, fun q2 hq2 => ?_⟩))))))
      · simp; omega
      · have C7 := (C6.add (o := .lst ([V.int 0] ++ (pas i).map V.int)) hq2)
        refine w_acons (w_cat (go (e_ixL (by walk_at "ev") (by walk_at "ev") (by walk_at "lst") hat) C7 fun H8 x8 C8 => n_lst C8 (by walk_at "ea") (by simp) fun q3 H9 x9 C9 => ⟨a, q3, _, _, rfl, rfl, C9.ex _ _ h2, C9.look List.mem_cons_self, ?_, fun q4 hq4 => w_anil ?_⟩))
        · simp; omega
        · have C10 := (C9.add (o := .lst ((pas i).map V.int ++ [V.int 0])) hq4)
          have l1 : Lst X.K B' ((q4, .lst ((pas i).map V.int ++ [V.int 0])) :: (q3, .lst [V.int 0]) :: (q2, .lst ([V.int 0] ++ (pas i).map V.int)) :: (q1, .lst [V.int 0]) :: [(p, .lst (as.map V.ref))]) q2 ([V.int 0] ++ (pas i).map V.int) := by walk_at "lst"
          have l2 : Lst X.K B' ((q4, .lst ((pas i).map V.int ++ [V.int 0])) :: (q3, .lst [V.int 0]) :: (q2, .lst ([V.int 0] ++ (pas i).map V.int)) :: (q1, .lst [V.int 0]) :: [(p, .lst (as.map V.ref))]) q4 ((pas i).map V.int ++ [V.int 0]) := by walk_at "lst"
          have hm : min (Src.l q2 ([V.int 0] ++ (pas i).map V.int)).items.length (Src.l q4 ((pas i).map V.int ++ [V.int 0])).items.length = i + 1 + 1 := by
            show min ([V.int 0] ++ (pas i).map V.int).length ((pas i).map V.int ++ [V.int 0]).length = _
            simp; omega
          refine ⟨.l q2 ([V.int 0] ++ (pas i).map V.int), .l q4 ((pas i).map V.int ++ [V.int 0]), rfl, l1 _ C10, l2 _ C10, lcw_Z b C10 (by rw [hm]; omega) (fun H c => ⟨l1 H c, l2 H c⟩) rfl rfl (by decide +kernel) (by decide +kernel) (fun i' => V.int ((0 :: pas i).getD i' 0 + (pas i ++ [0]).getD i' 0)) (fun i' u v hu hv X' bl => ?_) (fun u v => rfl) fun D H11 hD C11 => ?_⟩
          · walk_at "in choices 0"
            have hu' : ((0 :: pas i).map V.int)[i']? = some u := hu
            have hv' : ((pas i ++ [0]).map V.int)[i']? = some v := by rw [List.map_append]; exact hv
            rw [List.getElem?_map] at hu' hv'
            cases e1 : (0 :: pas i)[i']? with
            | none => rw [e1] at hu'; cases hu'
            | some u0 =>
              cases e2 : (pas i ++ [0])[i']? with
              | none => rw [e2] at hv'; cases hv'
              | some v0 =>
                rw [e1] at hu'; rw [e2] at hv'
                obtain rfl := Option.some.inj hu'
                obtain rfl := Option.some.inj hv'
                rw [List.getD_eq_getElem?_getD, List.getD_eq_getElem?_getD, e1, e2]
                walk_at "ev"
          · rw [hm, pnext_at (pas i) (i + 1) pl] at C11
            obtain ⟨k1, k2, k3⟩ := C11.keep
            have k4 := k1.drop.drop.drop.drop
            have k5 := k4.put (o' := .lst (as.map V.ref ++ [V.ref D])) List.mem_cons_self
            unfold QW.put at k5
            rw [if_pos rfl] at k5
            refine ⟨as.map V.ref, k4.look List.mem_cons_self, by rw [List.length_map]; omega, s_nil ⟨⟨as ++ [D], _, e.trans k2, by rw [List.map_append]; exact k5, by rw [List.length_append, hl]; rfl, fun j hj => ?_⟩, _, _, _, rfl⟩⟩
            by_cases c : j ≤ i
            · obtain ⟨a', z1, z2⟩ := ha j c
              exact ⟨a', by rw [List.getElem?_append_left (by omega)]; exact z1, k2 _ _ z2⟩
            · obtain rfl : j = i + 1 := by omega
              exact ⟨D, by rw [List.getElem?_append_right (by omega), hl]; simp, k3⟩
    · obtain ⟨⟨as, B', e, C3, hl, ha⟩, v, v2, v3, rfl⟩ := p'
      refine s_retV C3 (by walk_at "ev") fun H2 x2 C4 => ?_
      exact q p H2 (e.trans C4.ex) ⟨as, C4.look List.mem_cons_self, hl, fun j hj => by obtain ⟨a, z1, z2⟩ := ha j hj; exact ⟨a, z1, C4.ex _ _ z2⟩⟩
end
/-- the signs -/
def sg (up : Bool) : Str := ⟨#[cp up]⟩
def dz (up : Bool) : Int := if up = true then 1 else -1
/-- the table of steps -/
structure Tabs (w : World) (K : PySem.W.Frag) (mg : Str → Option Value) : Prop where
  st : ∃ d, mg "STEPS" = some (.ref d) ∧ ∀ up, ∃ a, KDct K w d (sg up) (.ref a) ∧ ∀ H, SqT K H a [.int (dz up), .int 0]
section
variable {P : Program} {w' : World} {K : PySem.W.Frag} {mg : Str → Option Value} {base : Heap}
def sp_end : Sp := fun vs H Q _ => ∃ (p : Addr) (n l : Nat) (h : Int), vs = [.ref p, .int h, .int (l : Int)] ∧ l ≤ n ∧ Rows H p n ∧ ∀ H2, Ex H H2 → Q (.int (endZ h l)) H2
theorem ok_end (T : Prog K mg) : Callee P w' K mg base 1 "endings" [] sp_end := by
  refine callee_mk T.f_endings sc_endings (fun _ _ _ _ _ _ us hl => match us, hl with | [_, _, _], _ => rfl) (fun vs H Q E h => ?_) ?_
  · obtain ⟨_, _, _, _, rfl, _⟩ := h
    rfl
  · rintro X rfl rfl rfl rfl rfl b E tk vs H Q ⟨p, n, l, h, rfl, hl, hr, q⟩
    walk_at "in endings"
    have C := Cfg.start (H := H)
    have z2 : (0 : Int) < 2 := by decide
    have cd : CDivW ((l : Int) - h) 2 := wide_div (b := 64) (by omega) (by omega) (by decide) (by decide)
    refine s_ifV C (t_or3 (by walk_at "et") (fun _ => by walk_at "et") (fun _ _ => by walk_at "et")) (fun c H1 x1 C1 => ?_) (fun c H1 x1 C1 => ?_)
    · refine s_retV C1 (by walk_at "ev") fun H2 x2 C2 => ?_
      have e : endZ h l = 0 := by
        unfold endZ
        rw [if_pos]
        rw [Bool.or_eq_true, Bool.or_eq_true] at c
        rcases c with c | c | c
        · exact .inl (of_decide_eq_true c)
        · exact .inr (.inl (of_decide_eq_true c))
        · exact .inr (.inr (of_decide_eq_true c))
      exact e ▸ q H2 (x1.trans x2)
    · rw [Bool.or_eq_false_iff, Bool.or_eq_false_iff] at c
      have c1 := of_decide_eq_false c.1
      have c2 := of_decide_eq_false c.2.1
      have c3 := of_decide_eq_false c.2.2
      have e0 : endZ h l = if ((l : Int) - h) / 2 = 0 then 1 else (pas l).getD (((l : Int) - h) / 2).toNat 0 - (pas l).getD (((l : Int) - h) / 2 - 1).toNat 0 := by
        unfold endZ
        rw [if_neg (by omega), Int.toNat_natCast]
      refine s_nil (s_setV (by walk_at "o") C1 (by walk_at "ev") fun H2 x2 C2 => ?_)
      refine s_ifV C2 (by walk_at "et") (fun d H3 x3 C3 => ?_) (fun d H3 x3 C3 => ?_)
      · have d := of_decide_eq_true d
        refine s_retV C3 (by walk_at "ev") fun H4 x4 C4 => ?_
        have e : endZ h l = 1 := by rw [e0, if_pos d]
        exact e ▸ q H4 (((x1.trans x2).trans x3).trans x4)
      · have d := of_decide_eq_false d
        obtain ⟨as, hp, hal, ha⟩ := hr
        obtain ⟨a, h1, h2⟩ := ha l hl
        have pl := pas_len l
        have a1 : atI (as.map V.ref) (l : Int) = some (.ref a) := atI_nat (by rw [List.getElem?_map, h1]; rfl)
        have gt : ∀ i : Int, 0 ≤ i → i ≤ l → atI ((pas l).map V.int) i = some (.int ((pas l).getD i.toNat 0)) := fun i h1 h2 => by
          obtain ⟨j, rfl⟩ := Int.eq_ofNat_of_zero_le h1
          refine atI_nat ?_
          rw [List.getElem?_map, Int.toNat_natCast, List.getD_eq_getElem?_getD, List.getElem?_eq_getElem (by omega : j < (pas l).length)]
          rfl
        have a2 := gt (((l : Int) - h) / 2) (by omega) (by omega)
        have a3 := gt (((l : Int) - h) / 2 - 1) (by omega) (by omega)
        refine s_nil (s_retV C3 (e_sub (e_ixL (e_ixL (by walk_at "ev") (by walk_at "ev") (lst_h hp) a1) (by walk_at "ev") (lst_h h2) a2) (e_ixL (e_ixL (by walk_at "ev") (by walk_at "ev") (lst_h hp) a1) (by walk_at "ev") (lst_h h2) a3)) fun H4 x4 C4 => ?_)
        have e : endZ h l = (pas l).getD (((l : Int) - h) / 2).toNat 0 - (pas l).getD (((l : Int) - h) / 2 - 1).toNat 0 := by rw [e0, if_neg d]
        exact e ▸ q H4 (((x1.trans x2).trans x3).trans x4)
theorem e_end {X : Cx} {k : Nat} {e1 e2 e3 : Expr} {p' pos : Pos} {σ : L2.St} {B : Hp} {l : List Ob} {p : Addr} {n m : Nat} {h : Int} (T : Prog X.K X.mg) (hr : Room k X.A) (hj : 1 ≤ k) (hg : Gl X "endings") (hl : m ≤ n) (rw' : Rows B p n) (ha : EA X (e1 :: [e2, e3]) σ B l [.ref p, .int h, .int (m : Int)])
    (he : starEach (e1 :: [e2, e3]) X.env = (false, eval e1 X.env) :: starEach [e2, e3] X.env := by rfl) (hpl : (backTo pos (starEach [e2, e3] X.env)).any (·.1) = false := by rfl) : EV X (.Call (.Name "endings" p') (e1 :: [e2, e3]) [] pos) σ B l (.int (endZ h m)) :=
  e_call (ok_end T) hr hj hg ha (fun H c Q E q => ⟨p, n, m, h, rfl, hl, rw'.ex c.ex, q⟩) (by decide +kernel) he hpl
def sp_step : Sp := fun vs H Q _ => ∃ (p : Addr) (x : Int) (up : Bool), vs = [.ref p, .str (sg up)] ∧ H p = some (.tup [.int x, .int 0]) ∧ ∀ q H2, Ex H H2 → H2 q = some (.tup [.int (x + dz up), .int 0]) → Q (.ref q) H2
theorem ok_step (T : Prog K mg) (Tb : Tabs w' K mg) : Callee P w' K mg base 1 "stepped" [] sp_step := by
  refine callee_mk T.f_stepped sc_stepped (fun _ _ _ _ _ _ us hl => match us, hl with | [_, _], _ => rfl) (fun vs H Q E h => ?_) ?_
  · obtain ⟨_, _, _, rfl, _⟩ := h
    rfl
  · rintro X rfl rfl rfl rfl rfl b E tk vs H Q ⟨p, x, up, rfl, hp, q⟩
    walk_at "in stepped"
    obtain ⟨d, hd, hT⟩ := Tb.st
    obtain ⟨a, hk, ha⟩ := hT up
    have C := Cfg.start (H := H)
    refine s_ret (w_tupleL C (by walk_at "o") T.b_tuple (w_lcE b [("many", 2), ("step", 3)] ⟨rfl, by decide +kernel, by decide +kernel, by decide +kernel, by decide +kernel⟩ (i_zipW (by walk_at "o") T.b_zip (w_acons (go (v := .ref p) (by walk_at "ev") C fun H1 x1 C1 => w_acons (go (e_tabS (e_gl (by walk_at "o") hd rfl) (by walk_at "ev") hk) C1 fun H2 x2 C2 => w_anil ?_))))))
    have t1 : Tup X.K H [] p [.int x, .int 0] := tup_h hp
    have t2 : ∀ H', Cfg H [] H' → SqT X.K H' a [.int (dz up), .int 0] := fun H' _ => ha H'
    refine ⟨.t p [.int x, .int 0], .t a [.int (dz up), .int 0], rfl, t1 _ C2, t2 _ C2, lcw_Z b C2 (by show 2 ≤ _; omega) (fun H' c => ⟨t1 H' c, t2 H' c⟩) rfl rfl (by decide +kernel) (by decide +kernel) (fun i => if i = 0 then .int (x + dz up) else .int 0) (fun i u v hu hv X' bl => ?_) (fun u v => rfl) fun D H3 hD C3 => ?_⟩
    · walk_at "in stepped 0"
      match i, hu, hv with
      | 0, hu, hv =>
        obtain rfl := Option.some.inj hu
        obtain rfl := Option.some.inj hv
        rw [if_pos rfl]
        walk_at "ev"
      | 1, hu, hv =>
        obtain rfl := Option.some.inj hu
        obtain rfl := Option.some.inj hv
        rw [if_neg (by decide)]
        show EV _ _ _ _ _ (.int (0 + 0))
        walk_at "ev"
      | i + 2, hu, hv => cases hu
    · refine ⟨D, _, rfl, SqL.of (C3.look List.mem_cons_self), fun t ht => ?_⟩
      refine q t _ (C3.ex.trans (Ex.new ht)) ?_
      rw [upd_same]
      rfl
end
section
variable {P : Program} {w' : World} {K : PySem.W.Frag} {mg : Str → Option Value} {base : Heap}
def sp_ways : Sp := fun vs H Q _ => ∃ (p s : Addr) (n l : Nat) (h : Int), vs = [.ref p, .str "()", .ref s, .int (l : Int)] ∧ l ≤ n ∧ Rows H p n ∧ H s = some (.tup [.int h, .int 0]) ∧ ∀ H2, Ex H H2 → Q (.int (endZ h l)) H2
theorem ok_ways (T : Prog K mg) : Callee P w' K mg base 2 "ways_on" [] sp_ways := by
  refine callee_mk T.f_ways_on sc_ways_on (fun _ _ _ _ _ _ us hl => match us, hl with | [_, _, _, _], _ => rfl) (fun vs H Q E h => ?_) ?_
  · obtain ⟨_, _, _, _, _, rfl, _⟩ := h
    rfl
  · rintro X rfl rfl rfl rfl rfl b E tk vs H Q ⟨p, s, n, l, h, rfl, hl, hr, hs, q⟩
    walk_at "in ways_on"
    have C := Cfg.start (H := H)
    have ts : Tup X.K H [] s ([h, 0].map V.int) := tup_h hs
    have ts' : Tup X.K H [] s [.int h, .int 0] := tup_h hs
    refine s_ifV C (t_cmp (c_lt (e_minT (m := if h < 0 then h else 0) b.calm (by walk_at "o") T.b_min (by walk_at "ev") ts (by split <;> simp) (by intro y hy; simp at hy; split <;> omega)) (by walk_at "ev"))) (fun c H1 x1 C1 => ?_) (fun c H1 x1 C1 => ?_)
    · have d : h < 0 := by have := of_decide_eq_true c; split at this <;> omega
      refine s_retV C1 (by walk_at "ev") fun H2 x2 C2 => ?_
      have e : endZ h l = 0 := by unfold endZ; rw [if_pos (.inl d)]
      exact e ▸ q H2 (x1.trans x2)
    · refine s_nil (s_ifT C1 (ET.is (t_cmp (c_eqS (by walk_at "ev") (e_glS (by walk_at "o") T.c_PLAIN_SIGNS))) (by decide +kernel)) fun H2 x2 C2 => ?_)
      refine s_retV C2 (e_end T b.room (by decide) (by walk_at "o") hl hr (a_cons (by walk_at "ev") (a_cons (e_ixT (by walk_at "ev") (by walk_at "ev") ts' (v := .int h) rfl) (by walk_at "ea")))) fun H3 x3 C3 => ?_
      exact q H3 ((x1.trans x2).trans x3)
theorem w_ways {X : Cx} {k : Nat} {e1 e2 e3 e4 : Expr} {p' pos : Pos} {σ : L2.St} {H : Hp} {Q : VK} (T : Prog X.K X.mg) (hr : Room k X.A) (hj : 2 ≤ k) (hg : Gl X "ways_on") (h : wA X (e1 :: [e2, e3, e4]) σ H fun vs H1 => ∃ (p s : Addr) (n l : Nat) (h : Int), vs = [.ref p, .str "()", .ref s, .int (l : Int)] ∧ l ≤ n ∧ Rows H1 p n ∧ H1 s = some (.tup [.int h, .int 0]) ∧ ∀ H2, Ex H1 H2 → Q (.int (endZ h l)) H2)
    (he : starEach (e1 :: [e2, e3, e4]) X.env = (false, eval e1 X.env) :: starEach [e2, e3, e4] X.env := by rfl) (hpl : (backTo pos (starEach [e2, e3, e4] X.env)).any (·.1) = false := by rfl) : wE X (.Call (.Name "ways_on" p') (e1 :: [e2, e3, e4]) [] pos) σ H Q :=
  w_call (ok_ways T) hr hj hg (goA_mono h fun vs H1 z => by rw [List.append_nil]; exact z) (by decide +kernel) he hpl
where
  goA_mono {X : Cx} {es : List Expr} {σ : L2.St} {H : Hp} {Q Q' : List V → Hp → Prop} (h : wA X es σ H Q) (k : ∀ v H1, Q v H1 → Q' v H1) : wA X es σ H Q' := fun pos pins s I => thn (h pos pins s I) fun _ _ ⟨v, H1, I1, r, q⟩ => ⟨v, H1, I1, r, k v H1 q⟩
theorem w_step {X : Cx} {k : Nat} {e1 e2 : Expr} {p' pos : Pos} {σ : L2.St} {H B : Hp} {l : List Ob} {Q : VK} {p : Addr} {x : Int} {up : Bool} (T : Prog X.K X.mg) (Tb : Tabs X.w X.K X.mg) (hr : Room k X.A) (hj : 1 ≤ k) (hg : Gl X "stepped") (C : Cfg B l H) (hp : Std B l p (.tup [.int x, .int 0])) (ha : EA X (e1 :: [e2]) σ B l [.ref p, .str (sg up)])
    (q : ∀ t H2, Ex H H2 → Cfg B l H2 → H2 t = some (.tup [.int (x + dz up), .int 0]) → Q (.ref t) H2)
    (he : starEach (e1 :: [e2]) X.env = (false, eval e1 X.env) :: starEach [e2] X.env := by rfl) (hpl : (backTo pos (starEach [e2] X.env)).any (·.1) = false := by rfl) : wE X (.Call (.Name "stepped" p') (e1 :: [e2]) [] pos) σ H Q :=
  w_call (ok_step T Tb) hr hj hg (goA ha C fun H1 x1 C1 => by
    rw [List.append_nil]
    exact ⟨p, x, up, rfl, hp H1 C1, fun t H2 x2 h2 => q t H2 (x1.trans x2) (C1.mono x2) h2⟩) (by decide +kernel) he hpl
/-- a word's text -/
def txt (t : List Bool) : Str := ⟨(t.map cp).toArray⟩
theorem txt_len (t : List Bool) : (txt t).length = t.length := by
  show (t.map cp).toArray.size = _
  simp
theorem txt_snoc (t : List Bool) (u : Bool) : txt t ++ sg u = txt (t ++ [u]) := by
  show (⟨(t.map cp).toArray ++ #[cp u]⟩ : Str) = ⟨((t ++ [u]).map cp).toArray⟩
  simp
theorem txt_at (t : List Bool) (i q : Nat) (h : (txt t).cps[i]? = some q) : ∃ u, t[i]? = some u ∧ q = cp u := by
  have h' : (t.map cp).toArray[i]? = some q := h
  rw [List.getElem?_toArray, List.getElem?_map] at h'
  cases e : t[i]? with
  | none => rw [e] at h'; cases h'
  | some u => rw [e] at h'; exact ⟨u, rfl, (Option.some.inj h').symm⟩
def sp_tat : Sp := fun vs H Q _ => ∃ (n : Nat) (k : Int), vs = [.str "()", .int (n : Int), .int k] ∧ n ≤ 120 ∧ 0 ≤ k ∧ k < w n 0 ∧ ∀ H2, Ex H H2 → Q (.str (txt (un n 0 k))) H2
end
section
variable {P : Program} {w' : World} {K : PySem.W.Frag} {mg : Str → Option Value} {base : Heap}
theorem w_choices {X : Cx} {k : Nat} {e : Expr} {p' pos : Pos} {σ : L2.St} {H B : Hp} {l : List Ob} {Q : VK} {n : Nat} (T : Prog X.K X.mg) (hr : Room k X.A) (hj : 1 ≤ k) (hg : Gl X "choices") (C : Cfg B l H) (h : EV X e σ B l (.int (n : Int))) (hn : n ≤ 1000)
    (q : ∀ p H2, Ex H H2 → Cfg B l H2 → Rows H2 p n → Q (.ref p) H2)
    (he : starEach (e :: []) X.env = (false, eval e X.env) :: starEach [] X.env := by rfl) (hpl : (backTo pos (starEach [] X.env)).any (·.1) = false := by rfl) : wE X (.Call (.Name "choices" p') [e] [] pos) σ H Q :=
  w_call (ok_choices T) hr hj hg (goA (a_cons h a_nil he) C fun H1 x1 C1 => by
    rw [List.append_nil]
    exact ⟨n, rfl, hn, fun p H2 x2 h2 => q p H2 (x1.trans x2) (C1.mono x2) h2⟩) (by decide +kernel) he hpl
/-- the next height -/
theorem un_step {r h : Nat} {k : Int} (hr : h + (r + 1) ≤ 120) (k0 : 0 ≤ k) (k1 : k < w (r + 1) h) :
    (k < w r (h + 1) → un (r + 1) h k = true :: un r (h + 1) k) ∧ (¬ k < w r (h + 1) → 0 < h ∧ un (r + 1) h k = false :: un r (h - 1) (k - w r (h + 1)) ∧ 0 ≤ k - w r (h + 1) ∧ k - w r (h + 1) < w r (h - 1)) := by
  refine ⟨fun c => ?_, fun c => ?_⟩
  · show (if _ then _ else _) = _
    rw [if_pos c]
  · obtain ⟨a, b, d⟩ := step_down hr k0 k1 c
    refine ⟨a, ?_, b, d⟩
    show (if _ then _ else _) = _
    rw [if_neg c]
theorem ok_tat (T : Prog K mg) (Tb : Tabs w' K mg) : Callee P w' K mg base 3 "text_at" [] sp_tat := by
  refine callee_mk T.f_text_at sc_text_at (fun _ _ _ _ _ _ us hl => match us, hl with | [_, _, _], _ => rfl) (fun vs H Q E h => ?_) ?_
  · obtain ⟨_, _, rfl, _⟩ := h
    rfl
  · rintro X rfl rfl rfl rfl rfl b E tk vs H Q ⟨n, k, rfl, hn, k0, k1, q⟩
    walk_at "in text_at"
    have C := Cfg.start (H := H)
    refine s_set (by walk_at "o") (w_choices T b.room (by decide) (by walk_at "o") C (by walk_at "ev") (by omega) fun pr H1 x1 C1 rws => ?_)
    refine s_set (by walk_at "o") (n_tup C1 (by walk_at "ea") (by simp) fun ps H2 x2 C2 => ?_)
    refine s_setV (by walk_at "o") C2 (by walk_at "ev") fun H3 x3 C3 => ?_
    refine s_while b.po (fun m σ' H' => ∃ (t : List Bool) (h : Nat) (kk : Int) (ps : Addr) (v6 v7 : Option V), n = t.length + m ∧ σ' = [some (.str "()"), some (.int (n : Int)), some (.int kk), some (.ref pr), some (.ref ps), some (.str (txt t)), v6, v7] ∧ Ex H H' ∧ Rows H' pr n ∧ H' ps = some (.tup [.int (h : Int), .int 0]) ∧ h + m ≤ 120 ∧ 0 ≤ kk ∧ kk < w m h ∧ un n 0 k = t ++ un m h kk) n ?_ ?_
    · exact ⟨[], 0, k, ps, none, none, by simp, rfl, (x1.trans x2).trans x3, rws.ex (x2.trans x3), C3.look List.mem_cons_self, by omega, k0, k1, rfl⟩
    · rintro m σ' H' ⟨t, h, kk, ps, v6, v7, hm, rfl, xx, rws, hps, hhm, kk0, kk1, hu⟩
      have C4 := Cfg.start (H := H')
      have tl : (txt t).length ≤ 100000 := by rw [txt_len]; omega
      have tl' := txt_len t
      refine goT (t_cmp (c_lt (e_lenS (by walk_at "o") T.b_len (by walk_at "ev") (sz_of tl)) (by walk_at "ev"))) C4 fun H5 x5 C5 => ?_
      rw [tl']
      by_cases hm0 : m = 0
      · rw [decide_eq_false (by omega)]
        rw [if_neg (by decide)]
        refine s_retV C5 (by walk_at "ev") fun H6 x6 C6 => ?_
        have e : un n 0 k = t := by rw [hu, hm0]; show t ++ [] = t; simp
        exact e ▸ q H6 ((xx.trans x5).trans x6)
      · obtain ⟨r, rfl⟩ : ∃ r, m = r + 1 := ⟨m - 1, by omega⟩
        rw [decide_eq_true (by omega), if_pos rfl]
        obtain ⟨u1, u2⟩ := un_step hhm kk0 kk1
        have pl : ("()" : Str) = txt [true, false] := by decide +kernel
        have len1 : ((n : Int) - ((txt t).length : Nat) - 1) = (r : Int) := by rw [tl']; omega
        refine s_forSB (z := "()") b (by walk_at "o") C5 (by walk_at "ev")
          (fun i σ6 H6 => Ex H' H6 ∧ ((i = 0 ∧ ∃ v6 v7, σ6 = [some (.str "()"), some (.int (n : Int)), some (.int kk), some (.ref pr), some (.ref ps), some (.str (txt t)), v6, v7]) ∨ (i = 1 ∧ ¬ kk < w r (h + 1) ∧ ∃ v6 v7, σ6 = [some (.str "()"), some (.int (n : Int)), some (.int (kk - w r (h + 1))), some (.ref pr), some (.ref ps), some (.str (txt t)), v6, v7])))
          (fun σ6 H6 => ∃ (up : Bool) (kk' : Int) (h' : Nat) (v7 : Option V), σ6 = [some (.str "()"), some (.int (n : Int)), some (.int kk'), some (.ref pr), some (.ref ps), some (.str (txt t)), some (.str (sg up)), v7] ∧ (h' : Int) = h + dz up ∧ Ex H' H6 ∧ un (r + 1) h kk = up :: un r h' kk' ∧ 0 ≤ kk' ∧ kk' < w r h' ∧ h' + r ≤ 120)
          (fun H6 x6 C6 => ⟨x5.trans x6, .inl ⟨rfl, _, _, rfl⟩⟩) (fun i q' σ6 H6 hq p => ?_) (fun σ6 H6 p => ?_) (fun σ6 H6 p => ?_)
        · rw [pl] at hq
          obtain ⟨u, hu1, rfl⟩ := txt_at _ _ _ hq
          obtain ⟨x6, p⟩ := p
          have C6 := Cfg.start (H := H6)
          have hps6 : Std H6 [] ps (.tup [.int (h : Int), .int 0]) := std_b (x6 _ _ hps)
          have rws6 := rws.ex x6
          rcases p with ⟨rfl, v6, v7, rfl⟩ | ⟨rfl, hk, v6, v7, rfl⟩
          · obtain rfl := Option.some.inj hu1
            have e1 : endZ ((h : Int) + dz true) r = w r (h + 1) := end_w (h + 1) r (by omega)
            refine s_set (by walk_at "o") (w_ways T b.room (by decide) (by walk_at "o") (w_acons (go (v := .ref pr) (by walk_at "ev") C6 fun H7 x7 C7 => w_acons (go (v := .str "()") (by walk_at "ev") C7 fun H8 x8 C8 => w_acons (w_step (up := true) T Tb b.room (by decide) (by walk_at "o") C8 hps6 (by walk_at "ea") fun ps2 H9 x9 C9 h9 => w_acons (go (EV.is (by
              refine e_sub (e_sub (by walk_at "ev") (e_lenS (by walk_at "o") T.b_len (by walk_at "ev") (sz_of tl))) (by walk_at "ev")) (congrArg V.int len1)) C9 fun H10 x10 C10 => w_anil ⟨pr, ps2, n, r, _, rfl, by omega, rws6.ex (((x7.trans x8).trans x9).trans x10), x10 _ _ h9, fun H11 x11 => ?_⟩))))))
            rw [e1]
            have xz := (((x7.trans x8).trans x9).trans x10).trans x11
            refine s_ifV (Cfg.start (H := H11)) (by walk_at "et") (fun c H12 x12 C12 => ?_) (fun c H12 x12 C12 => ?_)
            · have c := of_decide_eq_true c
              exact s_break ⟨true, kk, h + 1, _, rfl, rfl, (x6.trans xz).trans x12, u1 c, kk0, c, by omega⟩
            · have c := of_decide_eq_false c
              exact s_nil (s_augI (by walk_at "o") C12 ip_sub rfl (by walk_at "ev") fun H13 x13 C13 => s_nil ⟨((x6.trans xz).trans x12).trans x13, .inr ⟨rfl, c, _, _, rfl⟩⟩)
          · obtain rfl := Option.some.inj hu1
            obtain ⟨c0, c1, c2, c3⟩ := u2 hk
            have e0 : ((h - 1 : Nat) : Int) = (h : Int) + dz false := by show _ = (h : Int) + -1; omega
            have e1 : endZ ((h : Int) + dz false) r = w r (h - 1) := by rw [← e0]; exact end_w (h - 1) r (by omega)
            refine s_set (by walk_at "o") (w_ways T b.room (by decide) (by walk_at "o") (w_acons (go (v := .ref pr) (by walk_at "ev") C6 fun H7 x7 C7 => w_acons (go (v := .str "()") (by walk_at "ev") C7 fun H8 x8 C8 => w_acons (w_step (up := false) T Tb b.room (by decide) (by walk_at "o") C8 hps6 (by walk_at "ea") fun ps2 H9 x9 C9 h9 => w_acons (go (EV.is (by
              refine e_sub (e_sub (by walk_at "ev") (e_lenS (by walk_at "o") T.b_len (by walk_at "ev") (sz_of tl))) (by walk_at "ev")) (congrArg V.int len1)) C9 fun H10 x10 C10 => w_anil ⟨pr, ps2, n, r, _, rfl, by omega, rws6.ex (((x7.trans x8).trans x9).trans x10), x10 _ _ h9, fun H11 x11 => ?_⟩))))))
            rw [e1]
            have xz := (((x7.trans x8).trans x9).trans x10).trans x11
            refine s_ifT (Cfg.start (H := H11)) (ET.is (by walk_at "et") (decide_eq_true c3)) (fun H12 x12 C12 => ?_)
            exact s_break ⟨false, _, h - 1, _, rfl, e0, (x6.trans xz).trans x12, c1, c2, c3, by omega⟩
        · obtain ⟨_, ⟨z, _⟩ | ⟨z, _⟩⟩ := p
          · rw [pl] at z; cases z
          · rw [pl] at z; cases z
        · obtain ⟨up, kk', h', v7, rfl, e1, x6, e2, k0', k1', hh⟩ := p
          have C6 := Cfg.start (H := H6)
          refine s_set (by walk_at "o") (w_step T Tb b.room (by decide) (by walk_at "o") C6 (std_b (x6 _ _ hps)) (by walk_at "ea") fun ps2 H7 x7 C7 hp7 => ?_)
          refine s_addS (by walk_at "o") C7 rfl (by walk_at "ev") (by rw [txt_len]; rw [sizeLine_eq]; show t.length + 1 ≤ _; omega) fun H8 x8 C8 => ?_
          refine s_nil ⟨r, by omega, t ++ [up], h', kk', ps2, some (.str (sg up)), v7, by rw [List.length_append]; show n = t.length + 1 + r; omega, by rw [← txt_snoc]; rfl, ((xx.trans x6).trans x7).trans x8, rws.ex ((x6.trans x7).trans x8), by rw [e1]; exact x8 _ _ hp7, hh, k0', k1', by rw [hu, e2]; simp⟩
end
/-- a def with defaults: n values are written, the defaults behind the first j fill up -/
theorem callee_mkD {P : Program} {w : World} {K : PySem.W.Frag} {mg : Str → Option Value} {base : Heap} {x : Str} {st : Stmt} {N ps : List Str} {k : Nat} {sp : Sp} {dvs : List V} (F : At K mg x st dvs) (S : FnScope N ps (defScope st)) (n j : Nat) (hd : dvs ≠ []) (hn : n + (dvs.length - j) = ps.length)
    (hb : ∀ (T : Addr) (kV doc pm : Value) (an : Option Addr) (cdv ct : Value) (us its : List Value), us.length = n → its.length = dvs.length →
      ∃ k, bindArgs (PySem.W.fnOf x x (defArgs st) (defBody st) (defScope st) (.ref T) kV doc pm an cdv ct) ⟨us, []⟩ = PySem.seqItems? (.ref T) >>= k ∧ k (some its.toArray) = pure (ps.zip (us ++ its.drop j)))
    (len : ∀ vs H Q E, sp vs H Q E → vs.length = ps.length)
    (h : ∀ X : Cx, X.prog = P → X.w = w → X.K = K → X.mg = mg → X.base = base → Bd X N (defScope st) k → ∀ E : XK, Takes X (fun c d _ H => E c d H) → ∀ vs H Q, sp vs H Q E → wSs X (defBody st) { nx := fun _ H' => Q .non H', rt := Q } (start N vs) H) : Callee P w K mg base (k + 1) x (dvs.drop j) sp := by
  obtain ⟨f, fd, F, hm⟩ := F
  obtain ⟨ds, h1, h2⟩ := F.binds1 n j hd hn hb
  exact ⟨f, fd, ps, ds, fnOk_mk F S len h, hm, F.kp, h2, h1⟩
section
variable {P : Program} {w' : World} {K : PySem.W.Frag} {mg : Str → Option Value} {base : Heap}
theorem Wd.down {t : List Bool} {h i : Nat} {u : Bool} (e : t[i]? = some u) (a : Wd (t.drop i) h) : t.drop i = u :: t.drop (i + 1) ∧ (u = true → Wd (t.drop (i + 1)) (h + 1)) ∧ (u = false → 0 < h ∧ Wd (t.drop (i + 1)) (h - 1)) := by
  have e1 : t.drop i = u :: t.drop (i + 1) := by
    obtain ⟨hi, rfl⟩ := List.getElem?_eq_some_iff.mp e
    exact List.drop_eq_getElem_cons hi
  rw [e1] at a
  refine ⟨e1, fun z => ?_, fun z => ?_⟩
  · subst z; exact a
  · subst z; exact a
def sp_look : Sp := fun vs H Q _ => ∃ t : List Bool, vs = [.str (txt t), .str "()"] ∧ Wd t 0 ∧ t.length ≤ 120 ∧ ∀ H2, Ex H H2 → Q .non H2
theorem ok_look (T : Prog K mg) : Callee P w' K mg base 1 "look_word" [] sp_look := by
  refine callee_mkD (dvs := [.str "()"]) T.f_look_word sc_look_word 2 1 (by simp) rfl (fun _ _ _ _ _ _ _ us its h1 h2 => match us, its, h1, h2 with | [_, _], [_], _, _ => ⟨_, rfl, rfl⟩) (fun vs H Q E h => ?_) ?_
  · obtain ⟨_, rfl, _⟩ := h
    rfl
  · rintro X rfl rfl rfl rfl rfl b E tk vs H Q ⟨t, rfl, wd, hl, q⟩
    walk_at "in look_word"
    have C := Cfg.start (H := H)
    have tl := txt_len t
    refine s_ifF C (t_not (t_val (e_isStr T (by walk_at "o") (by walk_at "o") (by walk_at "ev")))) fun H1 x1 C1 => s_nil ?_
    have z2 : CDivW ((("()" : Str).length : Nat) : Int) 2 := wide_div (b := 64) (by decide) (by decide) (by decide) (by decide)
    refine s_set (by walk_at "o") (w_rep C1 (by walk_at "ea") (by simp) (e_fdiv (e_lenS (by walk_at "o") T.b_len (by walk_at "ev") (by rw [sizeLine_eq]; decide +kernel)) (by walk_at "ev") z2) (by decide +kernel) (by decide +kernel) fun p H2 x2 C2 => ?_)
    have e1 : (List.replicate (((("()" : Str).length : Nat) : Int) / 2).toNat [V.int 0]).flatten = [V.int 0] := by
      have : (((("()" : Str).length : Nat) : Int) / 2).toNat = 1 := by decide +kernel
      rw [this]; rfl
    rw [e1] at C2
    refine s_forE (S := .s (txt t)) b (by walk_at "o") T.b_enumerate (by walk_at "o") (by walk_at "o") C2 (by walk_at "ev") (fun _ _ => trivial) (fun i σ' H' => ∃ (h : Nat) (v3 v4 v5 : Option V), Cfg H [(p, .lst [.int (h : Int)])] H' ∧ Wd (t.drop i) h ∧ σ' = [some (.str (txt t)), some (.str "()"), some (.ref p), v3, v4, v5]) (fun H3 x3 C3 => ⟨0, _, _, _, C3, wd, rfl⟩) (fun _ _ _ _ => trivial) (fun i v σ' H' H4 hv p' x4 => ?_) (fun σ' H' p' => ?_)
    · obtain ⟨h, v3, v4, v5, C3, wd3, rfl⟩ := p'
      have C4 := C3.mono x4
      have hv' : ((txt t).cps.toList.map fun c => V.str ⟨#[c]⟩)[i]? = some v := hv
      rw [List.getElem?_map] at hv'
      cases hq : (txt t).cps.toList[i]? with
      | none => rw [hq] at hv'; cases hv'
      | some c =>
        rw [hq] at hv'
        obtain rfl := Option.some.inj hv'
        obtain ⟨u, hu, rfl⟩ := txt_at t i c (by rw [← Array.getElem?_toList]; exact hq)
        obtain ⟨d1, d2, d3⟩ := wd3.down hu
        cases u with
        | true =>
          refine s_setV (by walk_at "o") C4 (e_find (z1 := "()") (z2 := sg true) (k := 0) (by walk_at "ev") (by walk_at "ev") (by decide +kernel)) fun H5 x5 C5 => ?_
          refine s_ifF C5 (ET.is (t_or (by walk_at "et") (fun _ => t_and (by walk_at "et") (b2 := true) (fun z => absurd z (by decide +kernel)))) (by decide +kernel)) fun H6 x6 C6 => s_nil ?_
          refine s_augL (q := 0) C6 List.mem_cons_self ip_add (by walk_at "ev") (EV.is (e_fdiv (by walk_at "ev") (by walk_at "ev") (wide_div (b := 64) (by decide) (by decide) (by decide) (by decide))) (by decide +kernel)) rfl (by walk_at "ev") fun H7 C7 => ?_
          unfold QW.put at C7
          rw [if_pos rfl] at C7
          exact s_nil ⟨h + 1, _, _, _, C7, d2 rfl, rfl⟩
        | false =>
          obtain ⟨h0, d3⟩ := d3 rfl
          refine s_setV (by walk_at "o") C4 (e_find (z1 := "()") (z2 := sg false) (k := 1) (by walk_at "ev") (by walk_at "ev") (by decide +kernel)) fun H5 x5 C5 => ?_
          have cd : CDivW (1 : Int) 2 := wide_div (b := 64) (by decide) (by decide) (by decide) (by decide)
          refine s_ifF C5 (ET.is (t_or (by walk_at "et") (fun _ => t_and (by walk_at "et") (b2 := decide ((h : Int) = 0)) (fun _ => t_cmp (c_eqI (e_ixL (by walk_at "ev") (e_fdiv (by walk_at "ev") (by walk_at "ev") cd) (lst_l List.mem_cons_self) (v := .int (h : Int)) rfl) (by walk_at "ev"))))) (by
            rw [decide_eq_false (by omega : ¬ (h : Int) = 0), Bool.and_false]; decide +kernel)) fun H6 x6 C6 => s_nil ?_
          refine s_augL (q := 0) (a := (h : Int)) C6 List.mem_cons_self ip_add (by walk_at "ev") (EV.is (e_fdiv (by walk_at "ev") (by walk_at "ev") cd) (by decide +kernel)) rfl (by walk_at "ev") fun H7 C7 => ?_
          unfold QW.put at C7
          rw [if_pos rfl] at C7
          have e2 : (h : Int) + (1 - 2 * (1 % 2)) = ((h - 1 : Nat) : Int) := by omega
          have C8 : Cfg H [(p, .lst [.int ((h - 1 : Nat) : Int)])] H7 := e2 ▸ C7
          exact s_nil ⟨h - 1, _, _, _, C8, d3, rfl⟩
    · obtain ⟨h, v3, v4, v5, C3, wd3, rfl⟩ := p'
      have il : (Src.s (txt t)).items.length = t.length := by
        show ((txt t).cps.toList.map _).length = _
        rw [List.length_map, Array.length_toList]; exact tl
      rw [il, List.drop_length] at wd3
      obtain rfl : h = 0 := wd3
      refine s_ifF C3 (ET.is (t_cmp (c_gt (e_maxL (ns := [0]) (m := 0) b.calm (by walk_at "o") T.b_max (by walk_at "ev") (lst_l List.mem_cons_self) (by simp) (by intro y hy; simp at hy; omega)) (by walk_at "ev"))) (by decide)) fun H6 x6 C6 => s_nil ?_
      exact s_nil (q H6 C6.ex)
def sp_tpl : Sp := fun vs H Q _ => ∃ t : List Bool, vs = [.str "()", .str (txt t)] ∧ Wd t 0 ∧ t.length ≤ 120 ∧ ∀ H2, Ex H H2 → Q (.int (rk t 0)) H2
theorem ok_tpl (T : Prog K mg) (Tb : Tabs w' K mg) : Callee P w' K mg base 3 "text_place" [] sp_tpl := by
  refine callee_mk T.f_text_place sc_text_place (fun _ _ _ _ _ _ us hl => match us, hl with | [_, _], _ => rfl) (fun vs H Q E h => ?_) ?_
  · obtain ⟨_, rfl, _⟩ := h
    rfl
  · rintro X rfl rfl rfl rfl rfl b E tk vs H Q ⟨t, rfl, wd, hl, q⟩
    walk_at "in text_place"
    have C := Cfg.start (H := H)
    have tl := txt_len t
    have ts : (txt t).length ≤ sizeLine := sz_of (by rw [tl]; omega)
    refine s_set (by walk_at "o") (w_choices (n := t.length) T b.room (by decide) (by walk_at "o") C (EV.is (e_lenS (by walk_at "o") T.b_len (by walk_at "ev") ts) (by rw [tl])) (by omega) fun pr H1 x1 C1 rws => ?_)
    refine s_set (by walk_at "o") (n_tup C1 (by walk_at "ea") (by simp) fun ps H2 x2 C2 => ?_)
    refine s_setV (by walk_at "o") C2 (by walk_at "ev") fun H3 x3 C3 => ?_
    refine s_forE (S := .s (txt t)) b (by walk_at "o") T.b_enumerate (by walk_at "o") (by walk_at "o") C3 (by walk_at "ev") (fun _ _ => trivial) (fun i σ' H' => ∃ (h : Nat) (f : Int) (ps : Addr) (v5 v6 v7 : Option V), Ex H1 H' ∧ H' ps = some (.tup [.int (h : Int), .int 0]) ∧ Wd (t.drop i) h ∧ h + (t.length - i) ≤ 120 ∧ f + rk (t.drop i) h = rk t 0 ∧ σ' = [some (.str "()"), some (.str (txt t)), some (.ref pr), some (.ref ps), some (.int f), v5, v6, v7]) (fun H4 x4 C4 => ⟨0, 0, ps, _, _, _, (x2.trans x3).trans x4, C4.look List.mem_cons_self, wd, by omega, by simp, rfl⟩) (fun _ _ _ _ => trivial) (fun i v σ' H' H4 hv p' x4 => ?_) (fun σ' H' p' => ?_)
    · obtain ⟨h, f, ps, v5, v6, v7, xx, hps, wd3, hh, hf, rfl⟩ := p'
      have hv' : ((txt t).cps.toList.map fun c => V.str ⟨#[c]⟩)[i]? = some v := hv
      rw [List.getElem?_map] at hv'
      cases hq : (txt t).cps.toList[i]? with
      | none => rw [hq] at hv'; cases hv'
      | some c =>
        rw [hq] at hv'
        obtain rfl := Option.some.inj hv'
        obtain ⟨u, hu, rfl⟩ := txt_at t i c (by rw [← Array.getElem?_toList]; exact hq)
        obtain ⟨d1, d2, d3⟩ := wd3.down hu
        have hi : i < t.length := (List.getElem?_eq_some_iff.mp hu).1
        have pz : ("()" : Str).length ≤ 100000 := by decide +kernel
        have C4 := Cfg.start (H := H4)
        have rws4 := rws.ex (xx.trans x4)
        have hps4 : Std H4 [] ps (.tup [.int (h : Int), .int 0]) := std_b (x4 _ _ hps)
        rw [d1] at hf
        cases u with
        | true =>
          refine s_forS (z := "") b (by walk_at "o") C4 (EV.is (e_cutTo (by walk_at "ev") pz (e_sindex (z1 := "()") (z2 := sg true) (i := 0) (rest := []) (by walk_at "ev") (by walk_at "ev") (by decide +kernel))) (by decide +kernel)) (fun i' σ6 H6 => Ex H4 H6 ∧ ∃ v7, σ6 = [some (.str "()"), some (.str (txt t)), some (.ref pr), some (.ref ps), some (.int f), some (.int (i : Nat)), some (.str (sg true)), v7]) (fun H6 x6 C6 => ⟨x6, _, rfl⟩) (fun i' q' σ6 H6 hq p => by cases hq) (fun σ6 H6 p => ?_)
          obtain ⟨x6, v7, rfl⟩ := p
          refine s_set (by walk_at "o") (w_step (up := true) T Tb b.room (by decide) (by walk_at "o") (Cfg.start (H := H6)) (std_b (x6 _ _ (x4 _ _ hps))) (by walk_at "ea") fun ps2 H7 x7 C7 hp7 => ?_)
          exact s_nil ⟨h + 1, f, ps2, _, _, _, (xx.trans x4).trans (x6.trans x7), hp7, d2 rfl, by omega, hf, rfl⟩
        | false =>
          obtain ⟨h0, d3⟩ := d3 rfl
          have dl : (t.drop (i + 1)).length = t.length - (i + 1) := List.length_drop
          have e1 : endZ ((h : Int) + dz true) ((t.length - (i + 1) : Nat) : Int) = w (t.length - (i + 1)) (h + 1) := end_w (h + 1) _ (by omega)
          have len1 : ((((txt t).length : Nat) : Int) - (i : Nat) - 1) = ((t.length - (i + 1) : Nat) : Int) := by rw [tl]; omega
          refine s_forS (z := sg true) b (by walk_at "o") C4 (EV.is (e_cutTo (by walk_at "ev") pz (e_sindex (z1 := "()") (z2 := sg false) (i := 1) (rest := []) (by walk_at "ev") (by walk_at "ev") (by decide +kernel))) (by decide +kernel)) (fun i' σ6 H6 => Ex H4 H6 ∧ ∃ v7, σ6 = [some (.str "()"), some (.str (txt t)), some (.ref pr), some (.ref ps), some (.int (if i' = 0 then f else f + w (t.length - (i + 1)) (h + 1))), some (.int (i : Nat)), some (.str (sg false)), v7]) (fun H6 x6 C6 => ⟨x6, _, rfl⟩) (fun i' q' σ6 H6 hq p => ?_) (fun σ6 H6 p => ?_)
          · obtain ⟨x6, v7, rfl⟩ := p
            have hq' : (#[cp true] : Array Nat)[i']? = some q' := hq
            match i', hq' with
            | 0, hq' =>
              obtain rfl := Option.some.inj hq'
              refine s_aug (by walk_at "o") ip_add rfl (w_ways T b.room (by decide) (by walk_at "o") (w_acons (go (v := .ref pr) (by walk_at "ev") (Cfg.start (H := H6)) fun H7 x7 C7 => w_acons (go (v := .str "()") (by walk_at "ev") C7 fun H8 x8 C8 => w_acons (w_step (up := true) T Tb b.room (by decide) (by walk_at "o") C8 (std_b (x6 _ _ (x4 _ _ hps))) (by walk_at "ea") fun ps2 H9 x9 C9 h9 => w_acons (go (EV.is (by
                refine e_sub (e_sub (e_lenS (by walk_at "o") T.b_len (by walk_at "ev") ts) (by walk_at "ev")) (by walk_at "ev")) (congrArg V.int len1)) C9 fun H10 x10 C10 => w_anil ⟨pr, ps2, t.length, _, _, rfl, by omega, (rws4.ex x6).ex (((x7.trans x8).trans x9).trans x10), x10 _ _ h9, fun H11 x11 => ?_⟩))))))
              rw [e1]
              exact ⟨f, _, rfl, rfl, s_nil ⟨x6.trans ((((x7.trans x8).trans x9).trans x10).trans x11), _, rfl⟩⟩
          · obtain ⟨x6, v7, rfl⟩ := p
            refine s_set (by walk_at "o") (w_step (up := false) T Tb b.room (by decide) (by walk_at "o") (Cfg.start (H := H6)) (std_b (x6 _ _ (x4 _ _ hps))) (by walk_at "ea") fun ps2 H7 x7 C7 hp7 => ?_)
            have e0 : ((h - 1 : Nat) : Int) = (h : Int) + dz false := by show _ = (h : Int) + -1; omega
            have hf' : f + (w (t.drop (i + 1)).length (h + 1) + rk (t.drop (i + 1)) (h - 1)) = rk t 0 := hf
            rw [dl] at hf'
            exact s_nil ⟨h - 1, f + w (t.length - (i + 1)) (h + 1), ps2, _, _, _, (xx.trans x4).trans (x6.trans x7), by rw [e0]; exact hp7, d3, by omega, by omega, rfl⟩
    · obtain ⟨h, f, ps, v5, v6, v7, xx, hps, wd3, hh, hf, rfl⟩ := p'
      have il : (Src.s (txt t)).items.length = t.length := by
        show ((txt t).cps.toList.map _).length = _
        rw [List.length_map, Array.length_toList]; exact tl
      rw [il, List.drop_length] at hf
      have hf' : f + 0 = rk t 0 := hf
      obtain rfl : f = rk t 0 := by omega
      exact s_retV (Cfg.start (H := H')) (by walk_at "ev") fun H2 x2 C2 => by exact q H2 ((x1.trans xx).trans x2)
end
section
variable {P : Program} {w' : World} {K : PySem.W.Frag} {mg : Str → Option Value} {base : Heap}
def sp_cw : Sp := fun vs H Q _ => ∃ n : Nat, vs = [.int (n : Int)] ∧ n ≤ 60 ∧ ∀ H2, Ex H H2 → Q (.int (wordsOf n)) H2
theorem ok_cw (T : Prog K mg) : Callee P w' K mg base 3 "count_words" [] sp_cw := by
  refine callee_mk T.f_count_words sc_count_words (fun _ _ _ _ _ _ us hl => match us, hl with | [_], _ => rfl) (fun vs H Q E h => ?_) ?_
  · obtain ⟨_, rfl, _⟩ := h
    rfl
  · rintro X rfl rfl rfl rfl rfl b E tk vs H Q ⟨n, rfl, hn, q⟩
    walk_at "in count_words"
    have C := Cfg.start (H := H)
    refine s_expr (w_call (ok_lookc T) b.room (by decide) (by walk_at "o") (goA (a_cons (v := .int (n : Int)) (by walk_at "ev") (a_cons (v := .int 0) (by walk_at "ev") (a_cons (v := .int 60) (e_glI (by walk_at "o") T.c_MOST_TIES) a_nil))) C fun H1 x1 C1 => ⟨n, 0, 60, rfl, by omega, by omega, fun H2 x2 => ?_⟩))
    refine s_ret (w_call (ok_words T) b.room (by decide) (by walk_at "o") (goA (a_cons (v := .int (n : Int)) (by walk_at "ev") a_nil) (C1.mono x2) fun H3 x3 C3 => ⟨n, rfl, hn, fun H4 x4 => ?_⟩))
    exact q H4 (((x1.trans x2).trans x3).trans x4)
def sp_wat : Sp := fun vs H Q _ => ∃ (n : Nat) (k : Int), vs = [.int (n : Int), .int k] ∧ n ≤ 60 ∧ 0 ≤ k ∧ k < w (2 * n) 0 ∧ ∀ H2, Ex H H2 → Q (.str (txt (un (2 * n) 0 k))) H2
theorem ok_wat (T : Prog K mg) (Tb : Tabs w' K mg) : Callee P w' K mg base 4 "word_at" [] sp_wat ∧ CalleeK P w' K mg base 4 "word_at" ["n", "k"] sp_wat := by
  refine callee_mkK T.f_word_at sc_word_at (fun _ _ _ _ _ _ us hl => match us, hl with | [_, _], _ => rfl) (fun _ _ _ _ _ _ us hl => match us, hl with | [_, _], _ => rfl) (fun vs H Q E h => ?_) ?_
  · obtain ⟨_, _, rfl, _⟩ := h
    rfl
  · rintro X rfl rfl rfl rfl rfl b E tk vs H Q ⟨n, k, rfl, hn, k0, k1, q⟩
    walk_at "in word_at"
    have C := Cfg.start (H := H)
    have ww := (words_w hn).1
    refine s_expr (w_call (ok_lookn T) b.room (by decide) (by walk_at "o") (w_acons (go (v := .int k) (by walk_at "ev") C fun H1 x1 C1 => w_acons (w_call (ok_cw T) b.room (by decide) (by walk_at "o") (goA (a_cons (v := .int (n : Int)) (by walk_at "ev") a_nil) C1 fun H2 x2 C2 => ⟨n, rfl, hn, fun H3 x3 => w_anil ⟨k, wordsOf n, rfl, k0, by omega, fun H4 x4 => ?_⟩⟩)))))
    have xx := ((x1.trans x2).trans x3).trans x4
    have cm : CMul 2 (n : Int) ∨ CMulW 2 (n : Int) := .inl (.inl ⟨by decide, by decide⟩)
    refine s_ret (w_call (ok_tat T Tb) b.room (by decide) (by walk_at "o") (goA (a_cons (v := .str "()") (e_glS (by walk_at "o") T.c_PLAIN_SIGNS) (a_cons (v := .int ((2 * n : Nat) : Int)) (EV.is (e_mul (by walk_at "ev") (by walk_at "ev") cm) (by rw [Int.natCast_mul]; rfl)) (a_cons (v := .int k) (by walk_at "ev") a_nil))) (C.mono xx) fun H5 x5 C5 => ⟨2 * n, k, rfl, by omega, k0, k1, fun H6 x6 => ?_⟩))
    exact q H6 ((xx.trans x5).trans x6)
def sp_wpl : Sp := fun vs H Q _ => ∃ t : List Bool, vs = [.str (txt t)] ∧ Wd t 0 ∧ t.length ≤ 120 ∧ ∀ H2, Ex H H2 → Q (.int (rk t 0)) H2
theorem ok_wpl (T : Prog K mg) (Tb : Tabs w' K mg) : Callee P w' K mg base 4 "word_place" [] sp_wpl ∧ CalleeK P w' K mg base 4 "word_place" ["word"] sp_wpl := by
  refine callee_mkK T.f_word_place sc_word_place (fun _ _ _ _ _ _ us hl => match us, hl with | [_], _ => rfl) (fun _ _ _ _ _ _ us hl => match us, hl with | [_], _ => rfl) (fun vs H Q E h => ?_) ?_
  · obtain ⟨_, rfl, _⟩ := h
    rfl
  · rintro X rfl rfl rfl rfl rfl b E tk vs H Q ⟨t, rfl, wd, hl, q⟩
    walk_at "in word_place"
    have C := Cfg.start (H := H)
    refine s_expr (w_call (ok_look T) b.room (by decide) (by walk_at "o") (goA (a_cons (v := .str (txt t)) (by walk_at "ev") (a_cons (v := .str "()") (e_glS (by walk_at "o") T.c_PLAIN_SIGNS) a_nil)) C fun H1 x1 C1 => ⟨t, rfl, wd, hl, fun H2 x2 => ?_⟩))
    refine s_ret (w_call (ok_tpl T Tb) b.room (by decide) (by walk_at "o") (goA (a_cons (v := .str "()") (e_glS (by walk_at "o") T.c_PLAIN_SIGNS) (a_cons (v := .str (txt t)) (by walk_at "ev") a_nil)) (C1.mono x2) fun H3 x3 C3 => ⟨t, rfl, wd, hl, fun H4 x4 => ?_⟩))
    exact q H4 (((x1.trans x2).trans x3).trans x4)
end
section
variable {P : Program} {w' : World} {K : PySem.W.Frag} {mg : Str → Option Value} {base : Heap}
theorem put1 {p : Addr} {o o' : HO} : QW.put p o' [(p, o)] = [(p, o')] := by unfold QW.put; rw [if_pos rfl]
def sp_far : Sp := fun vs H Q _ => ∃ (p : Addr) (u : Pu) (m : Int), vs = [.ref p, .int m] ∧ H p = some (.lst u.v) ∧ 1 ≤ m ∧ u.Ok 7 ∧ ∀ (H2 : Hp) (v : Int) (u' : Pu), ExBut p H H2 → H2 p = some (.lst u'.v) → (∀ b, u.Ok (b + 7) → u'.Ok b) → 0 ≤ v → v < m → Q (.int v) H2
theorem far_step {num g T N : Int} (h0 : 0 ≤ num) (h1 : num < N) (g0 : 0 ≤ g) (g1 : g < T) (hT : T ≤ 2 ^ 100) (hN : 0 ≤ N) : 0 ≤ num * T + g ∧ num * T + g < N * 2 ^ 100 := by
  have a : 0 ≤ num * T := Int.mul_nonneg h0 (by omega)
  have b : (num + 1) * T ≤ N * T := Int.mul_le_mul_of_nonneg_right (by omega) (by omega)
  have c : N * T ≤ N * 2 ^ 100 := Int.mul_le_mul_of_nonneg_left hT hN
  rw [Int.add_mul] at b
  omega
theorem ok_far (T : Prog K mg) : Callee P w' K mg base 3 "_law_far" [] sp_far := by
  refine callee_mk T.f__law_far sc__law_far (fun _ _ _ _ _ _ us hl => match us, hl with | [_, _], _ => rfl) (fun vs H Q E h => ?_) ?_
  · obtain ⟨_, _, _, rfl, _⟩ := h
    rfl
  · rintro X rfl rfl rfl rfl rfl b E tk vs H Q ⟨p, u, m, rfl, hp, m0, ok, q⟩
    walk_at "in _law_far"
    have C := Cfg.own1 hp
    refine s_setV (by walk_at "o") C (by walk_at "ev") fun H1 x1 C1 => ?_
    refine s_forR1 (n := 7) b (by walk_at "o") T.b_range (by walk_at "o") C1 (by walk_at "ev") (by decide) (fun i σ' H' => ∃ (u' : Pu) (num : Int) (v3 : Option V), Cfg (off H p) [(p, .lst u'.v)] H' ∧ (∀ b, u.Ok (b + 7) → u'.Ok (b + (7 - i))) ∧ 0 ≤ num ∧ num < 2 ^ (100 * i) ∧ σ' = [some (.ref p), some (.int m), some (.int num), v3]) (fun H2 x2 C2 => ⟨u, 0, _, C2, fun b h => h, by decide, by decide, rfl⟩) (fun i σ' H' hi p' => ?_) (fun σ' H' p' => ?_)
    · obtain ⟨u', num, v3, C2, hu, n0, n1, rfl⟩ := p'
      have T30 : (10 : Int) ^ Int.toNat 30 = 10 ^ 30 := rfl
      have nn : num < 2 ^ 600 := Int.lt_of_lt_of_le n1 (by
        have : (2 : Nat) ^ (100 * i) ≤ 2 ^ 600 := Nat.pow_le_pow_right (by decide) (by omega)
        exact_mod_cast this)
      have cm : CMul num (10 ^ Int.toNat 30) ∨ CMulW num (10 ^ Int.toNat 30) := .inr (wide_mul (a := 600) (b := 100) (by
        have : ((2 : Nat) ^ 600 : Nat) = ((2 : Int) ^ 600).toNat := by decide +kernel
        omega) (by decide +kernel) (by decide) (by decide) (by decide))
      refine s_set (by walk_at "o") (w_add (go (v := .int (num * 10 ^ Int.toNat 30)) (e_mul (by walk_at "ev") (by walk_at "ev") cm) C2 fun H3 x3 C3 => w_take T b.room (by decide) (by walk_at "o") C3 List.mem_cons_self (by walk_at "ev") (by walk_at "ev") (m := 10 ^ Int.toNat 30) ⟨by decide +kernel, by decide +kernel⟩ ((hu 0 ok).mono (by omega)) fun H4 C4 => ⟨_, _, rfl, rfl, s_nil ?_⟩))
      rw [put1] at C4
      have g0 := Pu.got_lo u' (m := 10 ^ Int.toNat 30) (by decide +kernel)
      have g1 := Pu.got_hi u' (m := 10 ^ Int.toNat 30) (by decide +kernel)
      obtain ⟨r0, r1⟩ := far_step n0 n1 g0 g1 (by decide +kernel) (by omega)
      refine ⟨_, _, _, C4, fun b h => Pu.Ok.nxt ((hu b h).mono (by omega)), r0, ?_, rfl⟩
      rw [show 100 * (i + 1) = 100 * i + 100 by omega, Int.pow_add]
      exact r1
    · obtain ⟨u', num, v3, C2, hu, n0, n1, rfl⟩ := p'
      have m00 : 0 < m := by omega
      refine s_retV C2 (e_mod (by walk_at "ev") (by walk_at "ev") m00) fun H3 x3 C3 => ?_
      exact q H3 _ u' C3.back (C3.look List.mem_cons_self) hu (Int.emod_nonneg _ (by omega)) (Int.emod_lt_of_pos _ (by omega))
end
theorem i_rangeN {X : Cx} {tg e1 e2 : Expr} {σ : L2.St} {H B : Hp} {l : List Ob} {R : It → Hp → Prop} {pos p' : Pos} {i j : Int} {n : Nat} (hg : Gl X "range") (hm : X.mg "range" = none) (c : Cfg B l H) (h1 : EV X e1 σ B l (.int i)) (h2 : EV X e2 σ B l (.int j)) (hj : -(2 ^ 62) ≤ i ∧ i < 2 ^ 62 ∧ -(2 ^ 62) ≤ j ∧ j < 2 ^ 62) (hn : (j - i).toNat = n) (k : ∀ H1, Ex H H1 → Cfg B l H1 → R (Itr i n) H1)
    (hs : starEach [e1, e2] X.env = [(false, eval e1 X.env), (false, eval e2 X.env)] := by rfl) (hs2 : starEach [e2] X.env = [(false, eval e2 X.env)] := by rfl) : wI X tg (.Call (.Name "range" p') [e1, e2] [] pos) σ H R := by
  subst hn
  exact i_range2 hg hm c h1 h2 hj k hs hs2
section
variable {P : Program} {w' : World} {K : PySem.W.Frag} {mg : Str → Option Value} {base : Heap}
/-- the law's own table stands at p -/
def WR (H : Hp) (p : Addr) : Prop := ∃ as : List Addr, H p = some (.lst (as.map V.ref)) ∧ as.length = 121 ∧ ∀ j, j ≤ 120 → ∃ a, as[j]? = some a ∧ H a = some (.lst ((wrow j).map V.int))
theorem WR.ex {H H2 : Hp} {p : Addr} (h : WR H p) (e : Ex H H2) : WR H2 p := by
  obtain ⟨as, h1, h2, h3⟩ := h
  exact ⟨as, e _ _ h1, h2, fun j hj => by obtain ⟨a, x, y⟩ := h3 j hj; exact ⟨a, x, e _ _ y⟩⟩
def sp_lways : Sp := fun vs H Q _ => vs = [.int 120] ∧ ∀ p H2, Ex H H2 → WR H2 p → Q (.ref p) H2
theorem ok_lways (T : Prog K mg) : Callee P w' K mg base 1 "_law_ways" [] sp_lways := by
  refine callee_mk T.f__law_ways sc__law_ways (fun _ _ _ _ _ _ us hl => match us, hl with | [_], _ => rfl) (fun vs H Q E h => ?_) ?_
  · obtain ⟨rfl, _⟩ := h
    rfl
  · rintro X rfl rfl rfl rfl rfl b E tk vs H Q ⟨rfl, q⟩
    walk_at "in _law_ways"
    have C := Cfg.start (H := H)
    refine s_set (by walk_at "o") (w_lst' (w_acons (w_cat (n_lst C (by walk_at "ea") (by simp) fun a0 H1 x1 C1 => w_rep C1 (by walk_at "ea") (by simp) (by walk_at "ev") (by decide) (by decide) fun a1 H2 x2 C2 => ⟨a0, a1, _, _, rfl, rfl, x2 _ _ (C1.look List.mem_cons_self), C2.look List.mem_cons_self, by simp, fun a2 ha2 => w_anil ⟨by rw [sizeLine_eq]; simp, fun p hp => ?_⟩⟩))))
    have er : [V.int 1] ++ (List.replicate (Int.toNat (120 + 1)) [V.int 0]).flatten = (wrow 0).map V.int := by decide +kernel
    have C3 := (C2.add (o := .lst ([V.int 1] ++ (List.replicate (Int.toNat (120 + 1)) [V.int 0]).flatten)) ha2)
    rw [er] at C3 hp ⊢
    have C4 := C3.add (o := .lst [.ref a2]) hp
    have C5 := C4.swap.keep
    refine s_forR1 (n := 120) b (by walk_at "o") T.b_range (by walk_at "o") C5.1 (by walk_at "ev") (by omega) (fun i σ' H' => (∃ (as : List Addr) (B' : Hp), Ex H B' ∧ Cfg B' [(p, .lst (as.map V.ref))] H' ∧ as.length = i + 1 ∧ ∀ j, j ≤ i → ∃ a, as[j]? = some a ∧ B' a = some (.lst ((wrow j).map V.int))) ∧ ∃ v v2 v3, σ' = [some (.int 120), some (.ref p), v, v2, v3]) (fun H3 x3 C6 => ⟨⟨[a2], _, C5.2.1, ?_, rfl, fun j hj => ⟨a2, ?_, ?_⟩⟩, _, _, _, rfl⟩) (fun i σ' H' hi p' => ?_) (fun σ' H' p' => ?_)
    · exact ((C6.swap.drop).swap.drop)
    · obtain rfl : j = 0 := by omega
      rfl
    · obtain rfl : j = 0 := by omega
      exact C5.2.2
    · obtain ⟨⟨as, B', e, C3, hl, ha⟩, v, v2, v3, rfl⟩ := p'
      obtain ⟨a, h1, h2⟩ := ha i (Nat.le_refl _)
      have hat : atI (as.map V.ref) (-1) = some (.ref a) := by
        have hne : as ≠ [] := by intro z; rw [z] at hl; cases hl
        rw [← List.dropLast_concat_getLast hne, List.map_append]
        refine atI_last.trans ?_
        have : as[i]? = some (as.getLast hne) := by rw [List.getLast_eq_getElem, List.getElem?_eq_getElem (by omega)]; congr 1; congr 1; omega
        rw [this] at h1
        rw [Option.some.inj h1]
      have wl := wrow_len i
      have gt : ∀ (z : Int) (j : Nat), z = j → j < 122 → atI ((wrow i).map V.int) z = some (.int ((wrow i).getD j 0)) := fun z j h1 h2 => by
        subst h1
        refine atI_nat ?_
        rw [List.getElem?_map, List.getD_eq_getElem?_getD, List.getElem?_eq_getElem (by omega : j < (wrow i).length)]
        rfl
      refine s_setV (by walk_at "o") C3 (e_ixL (by walk_at "ev") (by walk_at "ev") (by walk_at "lst") hat) fun H4 x4 C4 => ?_
      have la : ∀ l, Lst X.K B' l a ((wrow i).map V.int) := fun l => lst_h h2
      refine s_expr (w_appW C4 List.mem_cons_self (by walk_at "ev") (fun H5 x5 C5 => w_cat (w_cat (n_lst C5 (a_cons (e_ixL (v := .int ((wrow i).getD 1 0)) (by walk_at "ev") (by walk_at "ev") (la _) (gt 1 1 rfl (by decide))) a_nil) (by simp) fun q1 H6 x6 C6 => w_lcE b [("_law_at_here", 4)] ⟨rfl, by decide +kernel, by decide +kernel, by decide +kernel, by decide +kernel⟩ (i_rangeN (n := 120) (by walk_at "o") T.b_range C6 (i := 1) (j := 120 + 1) (by walk_at "ev") (by walk_at "ev") (by decide) (by decide) fun H7 x7 C7 => lcw_1 (σ := [some (.int 120), some (.ref p), some (.int (i : Nat)), some (.ref a), v3]) b (walk_range (lo := 1) (n := 120)) C7 (by decide) (fun _ _ => trivial) rfl (by decide +kernel) (fun i' => V.int ((wrow i).getD i' 0 + (wrow i).getD (i' + 2) 0)) (fun i' hi' X' bl => ?_) (fun v => rfl) fun D H8 hD C8 => ⟨q1, D, _, _, rfl, rfl, C8.look (List.mem_cons_of_mem _ List.mem_cons_self), C8.look List.mem_cons_self, by simp, fun q2 hq2 => ?_⟩)))))
      · walk_at "in _law_ways 0"
        exact e_add (e_ixL (by walk_at "ev") (by walk_at "ev") (lst_h h2) (gt _ i' (by omega) (by omega))) (e_ixL (by walk_at "ev") (by walk_at "ev") (lst_h h2) (gt _ (i' + 2) (by omega) (by omega)))
      · have C9 := C8.add (o := .lst ([V.int ((wrow i).getD 1 0)] ++ (List.range 120).map fun i' => V.int ((wrow i).getD i' 0 + (wrow i).getD (i' + 2) 0))) hq2
        refine n_lst C9 (by walk_at "ea") (by simp) fun q3 H10 x10 C10 => ⟨q2, q3, _, _, rfl, rfl, C10.look (List.mem_cons_of_mem _ List.mem_cons_self), C10.look List.mem_cons_self, by simp, fun q4 hq4 => ?_⟩
        have en : ([V.int ((wrow i).getD 1 0)] ++ (List.range 120).map (fun i' => V.int ((wrow i).getD i' 0 + (wrow i).getD (i' + 2) 0))) ++ [V.int 0] = (wrow (i + 1)).map V.int := by
          show _ = (wnext (wrow i)).map V.int
          rw [wnext_map wl, List.map_append, List.map_append, List.map_map]
          rfl
        have C11 := C10.add (o := .lst (([V.int ((wrow i).getD 1 0)] ++ (List.range 120).map (fun i' => V.int ((wrow i).getD i' 0 + (wrow i).getD (i' + 2) 0))) ++ [V.int 0])) hq4
        rw [en] at C11
        obtain ⟨k1, k2, k3⟩ := C11.keep
        have k4 := k1.drop.drop.drop.drop
        have k5 := k4.put (o' := .lst (as.map V.ref ++ [V.ref q4])) List.mem_cons_self
        unfold QW.put at k5
        rw [if_pos rfl] at k5
        refine ⟨as.map V.ref, ?_, by rw [List.length_map]; omega, s_nil ⟨⟨as ++ [q4], _, e.trans k2, ?_, by rw [List.length_append, hl]; rfl, fun j hj => ?_⟩, _, _, _, rfl⟩⟩
        · rw [en]; exact k4.look List.mem_cons_self
        · rw [List.map_append, en]; exact k5
        by_cases c : j ≤ i
        · obtain ⟨a', z1, z2⟩ := ha j c
          exact ⟨a', by rw [List.getElem?_append_left (by omega)]; exact z1, k2 _ _ z2⟩
        · obtain rfl : j = i + 1 := by omega
          exact ⟨q4, by rw [List.getElem?_append_right (by omega), hl]; simp, k3⟩
    · obtain ⟨⟨as, B', e, C3, hl, ha⟩, v, v2, v3, rfl⟩ := p'
      refine s_retV C3 (by walk_at "ev") fun H2 x2 C4 => ?_
      exact q p H2 (e.trans C4.ex) ⟨as, C4.look List.mem_cons_self, hl, fun j hj => by obtain ⟨a, z1, z2⟩ := ha j hj; exact ⟨a, z1, C4.ex _ _ z2⟩⟩
end
section
variable {P : Program} {w' : World} {K : PySem.W.Frag} {mg : Str → Option Value} {base : Heap}
theorem src_at {t : List Bool} {i : Nat} {v : V} (hv : (Src.s (txt t)).items[i]? = some v) : ∃ u, t[i]? = some u ∧ v = .str (sg u) := by
  have hv' : ((txt t).cps.toList.map fun c => V.str ⟨#[c]⟩)[i]? = some v := hv
  rw [List.getElem?_map] at hv'
  cases hq : (txt t).cps.toList[i]? with
  | none => rw [hq] at hv'; cases hv'
  | some c =>
    rw [hq] at hv'
    obtain rfl := Option.some.inj hv'
    obtain ⟨u, hu, rfl⟩ := txt_at t i c (by rw [← Array.getElem?_toList]; exact hq)
    exact ⟨u, hu, rfl⟩
theorem src_len (t : List Bool) : (Src.s (txt t)).items.length = t.length := by
  show ((txt t).cps.toList.map _).length = _
  rw [List.length_map, Array.length_toList]; exact txt_len t
theorem sg_cl (u : Bool) : decide (sg u = (")" : Str)) = !u := by cases u <;> decide +kernel
def sp_rank : Sp := fun vs H Q _ => ∃ (t : List Bool) (p : Addr), vs = [.str (txt t), .ref p] ∧ Wd t 0 ∧ t.length ≤ 120 ∧ WR H p ∧ ∀ H2, Ex H H2 → Q (.int (rk t 0)) H2
theorem ok_rank (T : Prog K mg) : Callee P w' K mg base 1 "_law_rank" [] sp_rank := by
  refine callee_mk T.f__law_rank sc__law_rank (fun _ _ _ _ _ _ us hl => match us, hl with | [_, _], _ => rfl) (fun vs H Q E h => ?_) ?_
  · obtain ⟨_, _, rfl, _⟩ := h
    rfl
  · rintro X rfl rfl rfl rfl rfl b E tk vs H Q ⟨t, p, rfl, wd, hl, ⟨as, hp, hal, ha⟩, q⟩
    walk_at "in _law_rank"
    have C := Cfg.start (H := H)
    have tl := txt_len t
    have ts : (txt t).length ≤ sizeLine := sz_of (by rw [tl]; omega)
    refine s_setV (by walk_at "o") C (by walk_at "ev") fun H1 x1 C1 => ?_
    refine s_setV (by walk_at "o") C1 (by walk_at "ev") fun H2 x2 C2 => ?_
    refine s_forE (S := .s (txt t)) b (by walk_at "o") T.b_enumerate (by walk_at "o") (by walk_at "o") C2 (by walk_at "ev") (fun _ _ => trivial) (fun i σ' H' => ∃ (h : Nat) (f : Int) (v4 v5 : Option V), Cfg H [] H' ∧ Wd (t.drop i) h ∧ h + (t.length - i) ≤ 120 ∧ f + rk (t.drop i) h = rk t 0 ∧ σ' = [some (.str (txt t)), some (.ref p), some (.int f), some (.int (h : Int)), v4, v5]) (fun H4 x4 C4 => ⟨0, 0, _, _, C4, wd, by omega, by simp, rfl⟩) (fun _ _ _ _ => trivial) (fun i v σ' H' H4 hv p' x4 => ?_) (fun σ' H' p' => ?_)
    · obtain ⟨h, f, v4, v5, C3, wd3, hh, hf, rfl⟩ := p'
      obtain ⟨u, hu, rfl⟩ := src_at hv
      obtain ⟨d1, d2, d3⟩ := wd3.down hu
      have hi : i < t.length := (List.getElem?_eq_some_iff.mp hu).1
      have C4 := C3.mono x4
      rw [d1] at hf
      refine s_ifV C4 (ET.is (by walk_at "et") (sg_cl u)) (fun c H5 x5 C5 => ?_) (fun c H5 x5 C5 => ?_)
      · obtain rfl : u = false := by cases u <;> simp at c <;> rfl
        obtain ⟨h0, d3⟩ := d3 rfl
        have dl : (t.drop (i + 1)).length = t.length - (i + 1) := List.length_drop
        obtain ⟨a, z1, z2⟩ := ha (t.length - (i + 1)) (by omega)
        have len1 : ((((txt t).length : Nat) : Int) - (i : Nat) - 1) = ((t.length - (i + 1) : Nat) : Int) := by rw [tl]; omega
        have a1 : atI (as.map V.ref) ((((txt t).length : Nat) : Int) - (i : Nat) - 1) = some (.ref a) := by rw [len1]; exact atI_nat (by rw [List.getElem?_map, z1]; rfl)
        have wl := wrow_len (t.length - (i + 1))
        have a2 : atI ((wrow (t.length - (i + 1))).map V.int) ((h : Int) + 1) = some (.int (w (t.length - (i + 1)) (h + 1))) := by
          have : (h : Int) + 1 = ((h + 1 : Nat) : Int) := by omega
          rw [this]
          refine atI_nat ?_
          unfold w
          rw [List.getElem?_map, List.getD_eq_getElem?_getD, List.getElem?_eq_getElem (by omega : h + 1 < (wrow (t.length - (i + 1))).length)]
          rfl
        refine s_setV (by walk_at "o") C5 (e_add (by walk_at "ev") (e_ixL (e_ixL (by walk_at "ev") (e_sub (e_sub (e_lenS (by walk_at "o") T.b_len (by walk_at "ev") ts) (by walk_at "ev")) (by walk_at "ev")) (lst_h hp) a1) (by walk_at "ev") (lst_h z2) a2)) fun H6 x6 C6 => ?_
        refine s_setV (by walk_at "o") C6 (by walk_at "ev") fun H7 x7 C7 => ?_
        have hf' : f + (w (t.drop (i + 1)).length (h + 1) + rk (t.drop (i + 1)) (h - 1)) = rk t 0 := hf
        rw [dl] at hf'
        have e2 : (h : Int) - 1 = ((h - 1 : Nat) : Int) := by omega
        rw [e2]
        exact s_nil (s_nil ⟨h - 1, f + w (t.length - (i + 1)) (h + 1), _, _, C7, d3, by omega, by omega, rfl⟩)
      · obtain rfl : u = true := by cases u <;> simp at c <;> rfl
        refine s_setV (by walk_at "o") C5 (by walk_at "ev") fun H6 x6 C6 => ?_
        exact s_nil (s_nil ⟨h + 1, f, _, _, C6, d2 rfl, by omega, hf, rfl⟩)
    · obtain ⟨h, f, v4, v5, C3, wd3, hh, hf, rfl⟩ := p'
      rw [src_len, List.drop_length] at hf
      have hf' : f + 0 = rk t 0 := hf
      obtain rfl : f = rk t 0 := by omega
      exact s_retV C3 (by walk_at "ev") fun H2 x2 C2 => by exact q H2 C2.ex
def sp_isw : Sp := fun vs H Q _ => ∃ (t : List Bool) (n : Nat), vs = [.str (txt t), .int (n : Int)] ∧ Wd t 0 ∧ t.length = 2 * n ∧ t.length ≤ 120 ∧ ∀ H2, Ex H H2 → Q (.bl true) H2
theorem ok_isw (T : Prog K mg) : Callee P w' K mg base 1 "_law_is_word" [] sp_isw := by
  refine callee_mk T.f__law_is_word sc__law_is_word (fun _ _ _ _ _ _ us hl => match us, hl with | [_, _], _ => rfl) (fun vs H Q E h => ?_) ?_
  · obtain ⟨_, _, rfl, _⟩ := h
    rfl
  · rintro X rfl rfl rfl rfl rfl b E tk vs H Q ⟨t, n, rfl, wd, hn, hl, q⟩
    walk_at "in _law_is_word"
    have C := Cfg.start (H := H)
    have tl := txt_len t
    have ts : (txt t).length ≤ sizeLine := sz_of (by rw [tl]; omega)
    refine s_ifF C (ET.is (t_or (t_not (t_val (e_isStr T (by walk_at "o") (by walk_at "o") (by walk_at "ev")))) (fun _ => t_cmp (c_neI (e_lenS (by walk_at "o") T.b_len (by walk_at "ev") ts) (by walk_at "ev")))) (by
      rw [decide_eq_true (by rw [tl]; omega)]; rfl)) fun H1 x1 C1 => s_nil ?_
    refine s_setV (by walk_at "o") C1 (by walk_at "ev") fun H2 x2 C2 => ?_
    refine s_forS (z := txt t) b (by walk_at "o") C2 (by walk_at "ev") (fun i σ' H' => ∃ (h : Nat) (v3 : Option V), Cfg H [] H' ∧ Wd (t.drop i) h ∧ σ' = [some (.str (txt t)), some (.int (n : Int)), some (.int (h : Int)), v3]) (fun H4 x4 C4 => ⟨0, _, C4, wd, rfl⟩) (fun i c σ' H' hv p' => ?_) (fun σ' H' p' => ?_)
    · obtain ⟨h, v3, C3, wd3, rfl⟩ := p'
      obtain ⟨u, hu, rfl⟩ := txt_at t i c hv
      obtain ⟨d1, d2, d3⟩ := wd3.down hu
      refine s_ifF C3 (ET.is (t_or (t_cmp (c_ninS (k := cp u) (z := "()") (by walk_at "ev") (by walk_at "ev"))) (fun _ => t_and (t_cmp (EC.is (c_eqS (y := sg u) (z := ")") (by walk_at "ev") (by walk_at "ev")) (sg_cl u))) (fun _ => by walk_at "et"))) ?_) fun H5 x5 C5 => s_nil ?_
      · cases u with
        | true =>
          show (!decide (cp true ∈ _) || (false && _)) = false
          rw [Bool.false_and]
          decide +kernel
        | false =>
          have := (d3 rfl).1
          rw [decide_eq_false (by omega : ¬ (h : Int) = 0)]
          decide +kernel
      · refine s_setV (v := .int ((h : Int) + dz u)) (by walk_at "o") C5 (e_add (by walk_at "ev") (e_pick (by walk_at "ea") (by simp) (e_intB (by walk_at "o") T.b_int (e_cmp (EC.is (c_eqS (y := sg u) (z := ")") (by walk_at "ev") (by walk_at "ev")) (sg_cl u)))) (by cases u <;> rfl))) fun H6 x6 C6 => ?_
        cases u with
        | true => exact s_nil ⟨h + 1, _, C6, d2 rfl, rfl⟩
        | false =>
          obtain ⟨h0, d3⟩ := d3 rfl
          have e2 : (h : Int) + dz false = ((h - 1 : Nat) : Int) := by show (h : Int) + -1 = _; omega
          rw [e2]
          exact s_nil ⟨h - 1, _, C6, d3, rfl⟩
    · obtain ⟨h, v3, C3, wd3, rfl⟩ := p'
      have il : (txt t).cps.size = t.length := tl
      rw [il, List.drop_length] at wd3
      obtain rfl : h = 0 := wd3
      exact s_retV C3 (by walk_at "ev") fun H2 x2 C2 => by exact q H2 C2.ex
end
section
variable {P : Program} {w' : World} {K : PySem.W.Frag} {mg : Str → Option Value} {base : Heap}
theorem sg_pick (up : Bool) : atI [V.str ")", V.str "("] (if up = true then 1 else 0) = some (.str (sg up)) := by cases up <;> decide +kernel
def sp_lword : Sp := fun vs H Q _ => ∃ (p : Addr) (u : Pu) (n : Nat), vs = [.ref p, .int (n : Int)] ∧ H p = some (.lst u.v) ∧ n ≤ 60 ∧ u.Ok (2 * n + 1) ∧ ∀ (H2 : Hp) (t : List Bool) (u' : Pu), ExBut p H H2 → H2 p = some (.lst u'.v) → Wd t 0 → t.length = 2 * n → Q (.str (txt t)) H2
theorem ok_lword (T : Prog K mg) : Callee P w' K mg base 3 "_law_word" [] sp_lword := by
  refine callee_mk T.f__law_word sc__law_word (fun _ _ _ _ _ _ us hl => match us, hl with | [_, _], _ => rfl) (fun vs H Q E h => ?_) ?_
  · obtain ⟨_, _, _, rfl, _⟩ := h
    rfl
  · rintro X rfl rfl rfl rfl rfl b E tk vs H Q ⟨p, u, n, rfl, hp, hn, ok, q⟩
    walk_at "in _law_word"
    have C := Cfg.own1 hp
    refine s_setV (by walk_at "o") C (by walk_at "ev") fun H1 x1 C1 => ?_
    refine s_setV (by walk_at "o") C1 (by walk_at "ev") fun H2 x2 C2 => ?_
    refine s_set (by walk_at "o") (w_take T b.room (by decide) (by walk_at "o") C2 List.mem_cons_self (by walk_at "ev") (by walk_at "ev") (m := 3) ⟨by decide, by decide⟩ (ok.mono (by omega)) fun H3 C3 => ?_)
    rw [put1] at C3
    have k0 := Pu.got_lo u (m := 3) (by decide)
    have k1 := Pu.got_hi u (m := 3) (by decide)
    generalize u.got 3 = kd at k0 k1 ⊢
    have cm : CMul 2 (n : Int) ∨ CMulW 2 (n : Int) := .inl (.inl ⟨by decide, by decide⟩)
    have rg : RgC (2 * (n : Int)) 0 (-1) (2 * n) := by
      have := RgC.neg (i := 2 * (n : Int)) (j := 0) (by omega) (by omega) (by omega) (by omega)
      rwa [show (2 * (n : Int) - 0).toNat = 2 * n by omega] at this
    refine s_forR3 (n := 2 * n) b (by walk_at "o") T.b_range (by walk_at "o") C3 (a_cons (v := .int (2 * (n : Int))) (by walk_at "ev") (a_cons (v := .int 0) (by walk_at "ev") (a_cons (v := .int (-1)) (EV.is (by walk_at "ev") (by decide)) a_nil))) rg (fun i σ' H' => ∃ (u' : Pu) (pre : List Bool) (h : Nat) (v5 v6 : Option V), Cfg (off H p) [(p, .lst u'.v)] H' ∧ u'.Ok (2 * n - i) ∧ (∀ post, Wd post h → Wd (pre ++ post) 0) ∧ pre.length = i ∧ h + i ≤ 2 * n ∧ (h + i) % 2 = 0 ∧ σ' = [some (.ref p), some (.int (n : Int)), some (.str (txt pre)), some (.int (h : Int)), some (.int kd), v5, v6]) (fun H4 x4 C4 => ⟨_, [], 0, _, _, C4, Pu.Ok.nxt ok, fun post z => z, rfl, by omega, by omega, rfl⟩) (fun i σ' H' hi p' => ?_) (fun σ' H' p' => ?_)
    · obtain ⟨u', pre, h, v5, v6, C4, ok', hpre, hlen, hh, hpar, rfl⟩ := p'
      refine s_set (by walk_at "o") (wE_mono (Q := fun v H1 => ∃ (up : Bool) (u2 : Pu), v = .bl up ∧ Cfg (off H p) [(p, .lst u2.v)] H1 ∧ u2.Ok (2 * n - (i + 1)) ∧ (up = false → 0 < h) ∧ (up = true → h + 1 + (i + 1) ≤ 2 * n)) (w_orV C4 (by walk_at "ev") (fun c H5 x5 C5 => ?_) (fun c H5 x5 C5 => w_andV C5 (by walk_at "ev") (fun d H6 x6 C6 => w_lt (w_take T b.room (by decide) (by walk_at "o") C6 List.mem_cons_self (by walk_at "ev") (by walk_at "ev") (m := 4) ⟨by decide, by decide⟩ (ok'.mono (by omega)) fun H7 C7 => go (e_pick (v := .int ([2, 3, 1].getD kd.toNat 0)) (by walk_at "ea") (by simp) (by walk_at "ev") ?_) C7 fun H8 x8 C8 => ⟨_, _, rfl, rfl, ?_⟩)) (fun d H6 x6 C6 => ?_))) (fun v H5 ⟨up, u2, e, C5, ok2, f1, f2⟩ => ?_))
      · have c := of_decide_eq_true c
        exact ⟨true, u', rfl, C5, ok'.mono (by omega), (fun z => by cases z), fun _ => by omega⟩
      · obtain ⟨j, rfl⟩ := Int.eq_ofNat_of_zero_le k0
        have : j = 0 ∨ j = 1 ∨ j = 2 := by omega
        rcases this with rfl | rfl | rfl <;> decide +kernel
      · rw [put1] at C8
        have c := of_decide_eq_false c
        have d := of_decide_eq_true d
        refine ⟨_, _, rfl, C8, Pu.Ok.nxt (ok'.mono (by omega)), fun _ => by omega, fun _ => ?_⟩
        have d' : (h : Int) < 2 * (n : Int) + (i : Nat) * -1 := d
        omega
      · have c := of_decide_eq_false c
        exact ⟨false, u', rfl, C6, ok'.mono (by omega), fun _ => by omega, (fun z => by cases z)⟩
      · subst e
        refine s_setV (v := .str (txt (pre ++ [up]))) (by walk_at "o") C5 (EV.is (e_adds (by walk_at "ev") (e_pick (by walk_at "ea") (by simp) (e_intB (by walk_at "o") T.b_int (by walk_at "ev")) (sg_pick up)) (by rw [txt_len]; show pre.length + 1 ≤ _; rw [sizeLine_eq]; omega)) (by rw [txt_snoc])) fun H6 x6 C6 => ?_
        refine s_setV (v := .int ((h : Int) + dz up)) (by walk_at "o") C6 (e_add (by walk_at "ev") (e_pick (by walk_at "ea") (by simp) (e_intB (by walk_at "o") T.b_int (by walk_at "ev")) (by cases up <;> decide +kernel))) fun H7 x7 C7 => ?_
        cases up with
        | true => exact s_nil ⟨u2, pre ++ [true], h + 1, _, _, C7, ok2, fun post z => by rw [List.append_assoc]; exact hpre _ z, by rw [List.length_append, hlen]; rfl, f2 rfl, by omega, rfl⟩
        | false =>
          have h0 := f1 rfl
          have e2 : (h : Int) + dz false = ((h - 1 : Nat) : Int) := by show (h : Int) + -1 = _; omega
          rw [e2]
          exact s_nil ⟨u2, pre ++ [false], h - 1, _, _, C7, ok2, fun post z => by rw [List.append_assoc]; exact hpre _ ⟨h0, z⟩, by rw [List.length_append, hlen]; rfl, by omega, by omega, rfl⟩
    · obtain ⟨u', pre, h, v5, v6, C4, ok', hpre, hlen, hh, hpar, rfl⟩ := p'
      obtain rfl : h = 0 := by omega
      refine s_retV C4 (by walk_at "ev") fun H5 x5 C5 => ?_
      have wd := hpre [] rfl
      rw [List.append_nil] at wd
      exact q H5 pre u' C5.back (C5.look List.mem_cons_self) wd hlen
end
section
variable {P : Program} {w' : World} {K : PySem.W.Frag} {mg : Str → Option Value} {base : Heap}
theorem WR.off {H : Hp} {wp p : Addr} {u : Pu} (h : WR H wp) (hp : H p = some (.lst u.v)) : WR (off H p) wp := by
  obtain ⟨as, h1, h2, h3⟩ := h
  refine ⟨as, ?_, h2, fun j hj => ?_⟩
  · rw [off_ne]
    · exact h1
    · rintro rfl
      rw [hp] at h1
      have := congrArg List.length (HO.lst.inj (Option.some.inj h1))
      rw [List.length_map, h2] at this
      cases this
  · obtain ⟨a, z1, z2⟩ := h3 j hj
    refine ⟨a, z1, ?_⟩
    rw [off_ne]
    · exact z2
    · rintro rfl
      rw [hp] at z2
      have := congrArg List.length (HO.lst.inj (Option.some.inj z2))
      rw [List.length_map, wrow_len] at this
      cases this
section
variable {X : Cx} {k : Nat} {σ : L2.St} {H B : Hp} {Q : VK} {p : Addr} {u : Pu}
/-- take(purse, [9, 61][take(purse, 2)]) -/
theorem w_size {ep ep2 c9 c61 c2 : Expr} {p1 p2 p3 p4 p5 p6 : Pos} (T : Prog X.K X.mg) (hr : Room k X.A) (hj : 2 ≤ k) (hg : Gl X "_law_take") (C : Cfg B [(p, .lst u.v)] H) (ok : u.Ok 2) (h1 : ∀ l, EV X ep σ B l (.ref p)) (h2 : ∀ l, EV X ep2 σ B l (.ref p)) (h9 : EA X [c9, c61] σ B [(p, .lst u.v)] [.int 9, .int 61]) (h22 : ∀ l, EV X c2 σ B l (.int 2))
    (q : ∀ (H2 : Hp) (n : Nat) (u' : Pu), n ≤ 60 → Cfg B [(p, .lst u'.v)] H2 → (∀ b, u.Ok (b + 2) → u'.Ok b) → Q (.int (n : Int)) H2)
    (hs : PlainIx (.Call (.Name "_law_take" p1) [ep2, c2] [] p2) := by exact fun _ _ => rfl)
    (he : starEach (ep2 :: [c2]) X.env = (false, eval ep2 X.env) :: starEach [c2] X.env := by rfl) (he2 : starEach (c2 :: []) X.env = (false, eval c2 X.env) :: starEach [] X.env := by rfl) (hpl : (backTo p2 (starEach [c2] X.env)).any (·.1) = false := by rfl)
    (hf : starEach (ep :: [.Subscript (.List [c9, c61] p3) (.Call (.Name "_law_take" p1) [ep2, c2] [] p2) p4]) X.env = (false, eval ep X.env) :: starEach [.Subscript (.List [c9, c61] p3) (.Call (.Name "_law_take" p1) [ep2, c2] [] p2) p4] X.env := by rfl)
    (hf2 : starEach ((.Subscript (.List [c9, c61] p3) (.Call (.Name "_law_take" p1) [ep2, c2] [] p2) p4 : Expr) :: []) X.env = (false, eval (.Subscript (.List [c9, c61] p3) (.Call (.Name "_law_take" p1) [ep2, c2] [] p2) p4) X.env) :: starEach [] X.env := by rfl) (hfl : (backTo p6 (starEach [.Subscript (.List [c9, c61] p3) (.Call (.Name "_law_take" p1) [ep2, c2] [] p2) p4] X.env)).any (·.1) = false := by rfl) :
    wE X (.Call (.Name "_law_take" p5) [ep, .Subscript (.List [c9, c61] p3) (.Call (.Name "_law_take" p1) [ep2, c2] [] p2) p4] [] p6) σ H Q := by
  refine w_takeW T hr hj hg C (h1 _) (fun H1 x1 C1 => w_pick C1 h9 (by simp) (fun a H2 x2 C2 => w_take T hr hj hg C2.swap List.mem_cons_self (h2 _) (h22 _) ⟨by decide, by decide⟩ (ok.mono (by omega)) (fun H3 C3 => ?_) he he2 hpl) hs) hf hf2 hfl
  unfold QW.put at C3
  rw [if_pos rfl] at C3
  have g0 := Pu.got_lo u (m := 2) (by decide)
  have g1 := Pu.got_hi u (m := 2) (by decide)
  generalize u.got 2 = g at g0 g1 ⊢
  have C4 := C3.swap.drop
  have fin : ∀ m : Int, 1 ≤ m → m ≤ 61 → ∃ (u_1 : Pu) (m_1 : Int) (l' : List Ob), V.int m = .int m_1 ∧ Cfg B l' H3 ∧ (p, HO.lst u_1.v) ∈ l' ∧ 1 ≤ m_1 ∧ m_1 < 2 ^ 200 ∧ u_1.Ok 1 ∧ ∀ H4, Cfg B (QW.put p (.lst (u_1.nxt m_1).v) l') H4 → Q (.int (u_1.got m_1)) H4 := fun m m0 m1 => by
    refine ⟨_, m, _, rfl, C4, List.mem_cons_self, m0, by omega, Pu.Ok.nxt ok, fun H4 C5 => ?_⟩
    rw [put1] at C5
    have r0 := Pu.got_lo (u.nxt 2) (m := m) m0
    have r1 := Pu.got_hi (u.nxt 2) (m := m) m0
    obtain ⟨n, hn⟩ := Int.eq_ofNat_of_zero_le r0
    rw [hn]
    exact q H4 n _ (by omega) C5 (fun b h => Pu.Ok.nxt (Pu.Ok.nxt h))
  have : g = 0 ∨ g = 1 := by omega
  rcases this with rfl | rfl
  · exact ⟨0, .int 9, rfl, C3.look (List.mem_cons_of_mem _ List.mem_cons_self), rfl, fin 9 (by decide) (by decide)⟩
  · exact ⟨1, .int 61, rfl, C3.look (List.mem_cons_of_mem _ List.mem_cons_self), rfl, fin 61 (by decide) (by decide)⟩
theorem w_far {e1 e2 : Expr} {p' pos : Pos} {l : List Ob} {m : Int} (T : Prog X.K X.mg) (hr : Room k X.A) (hj : 3 ≤ k) (hg : Gl X "_law_far") (C : Cfg B l H) (hl : l = [(p, .lst u.v)]) (ha : EA X (e1 :: [e2]) σ B l [.ref p, .int m]) (m0 : 1 ≤ m) (ok : u.Ok 7)
    (q : ∀ (H2 : Hp) (v : Int) (u' : Pu), Cfg B [(p, .lst u'.v)] H2 → (∀ b, u.Ok (b + 7) → u'.Ok b) → 0 ≤ v → v < m → Q (.int v) H2)
    (he : starEach (e1 :: [e2]) X.env = (false, eval e1 X.env) :: starEach [e2] X.env := by rfl) (hpl : (backTo pos (starEach [e2] X.env)).any (·.1) = false := by rfl) : wE X (.Call (.Name "_law_far" p') [e1, e2] [] pos) σ H Q := by
  subst hl
  refine w_call (ok_far T) hr hj hg (goA ha C fun H1 x1 C1 => ⟨p, u, m, rfl, C1.look List.mem_cons_self, m0, ok, fun H2 v u' x2 h2 hu v0 v1 => ?_⟩) (by decide +kernel) he hpl
  have := C1.but List.mem_cons_self x2 h2
  rw [put1] at this
  exact q H2 v u' this hu v0 v1
end
theorem e_wat {X : Cx} {k : Nat} {e1 e2 : Expr} {p' pos : Pos} {σ : L2.St} {B : Hp} {l : List Ob} {n : Nat} {v : Int} (T : Prog X.K X.mg) (Tb : Tabs X.w X.K X.mg) (hr : Room k X.A) (hj : 4 ≤ k) (hg : Gl X "word_at") (ha : EA X (e1 :: [e2]) σ B l [.int (n : Int), .int v]) (hn : n ≤ 60) (v0 : 0 ≤ v) (v1 : v < w (2 * n) 0)
    (he : starEach (e1 :: [e2]) X.env = (false, eval e1 X.env) :: starEach [e2] X.env := by rfl) (hpl : (backTo pos (starEach [e2] X.env)).any (·.1) = false := by rfl) : EV X (.Call (.Name "word_at" p') [e1, e2] [] pos) σ B l (.str (txt (un (2 * n) 0 v))) :=
  e_call (ok_wat T Tb).1 hr hj hg ha (fun H _ Q E q => ⟨n, v, rfl, hn, v0, v1, q⟩) (by decide +kernel) he hpl
theorem e_wpl {X : Cx} {k : Nat} {e1 : Expr} {p' pos : Pos} {σ : L2.St} {B : Hp} {l : List Ob} {t : List Bool} (T : Prog X.K X.mg) (Tb : Tabs X.w X.K X.mg) (hr : Room k X.A) (hj : 4 ≤ k) (hg : Gl X "word_place") (ha : EA X (e1 :: []) σ B l [.str (txt t)]) (wd : Wd t 0) (hl : t.length ≤ 120)
    (he : starEach (e1 :: []) X.env = (false, eval e1 X.env) :: starEach [] X.env := by rfl) (hpl : (backTo pos (starEach [] X.env)).any (·.1) = false := by rfl) : EV X (.Call (.Name "word_place" p') [e1] [] pos) σ B l (.int (rk t 0)) :=
  e_call (ok_wpl T Tb).1 hr hj hg ha (fun H _ Q E q => ⟨t, rfl, wd, hl, q⟩) (by decide +kernel) he hpl
theorem e_rank {X : Cx} {k : Nat} {e1 e2 : Expr} {p' pos : Pos} {σ : L2.St} {B : Hp} {l : List Ob} {t : List Bool} {wp : Addr} (T : Prog X.K X.mg) (hr : Room k X.A) (hj : 1 ≤ k) (hg : Gl X "_law_rank") (ha : EA X (e1 :: [e2]) σ B l [.str (txt t), .ref wp]) (wd : Wd t 0) (hl : t.length ≤ 120) (hw : WR B wp)
    (he : starEach (e1 :: [e2]) X.env = (false, eval e1 X.env) :: starEach [e2] X.env := by rfl) (hpl : (backTo pos (starEach [e2] X.env)).any (·.1) = false := by rfl) : EV X (.Call (.Name "_law_rank" p') [e1, e2] [] pos) σ B l (.int (rk t 0)) :=
  e_call (ok_rank T) hr hj hg ha (fun H c Q E q => ⟨t, wp, rfl, wd, hl, hw.ex c.ex, q⟩) (by decide +kernel) he hpl
theorem e_isw {X : Cx} {k : Nat} {e1 e2 : Expr} {p' pos : Pos} {σ : L2.St} {B : Hp} {l : List Ob} {t : List Bool} {n : Nat} (T : Prog X.K X.mg) (hr : Room k X.A) (hj : 1 ≤ k) (hg : Gl X "_law_is_word") (ha : EA X (e1 :: [e2]) σ B l [.str (txt t), .int (n : Int)]) (wd : Wd t 0) (hn : t.length = 2 * n) (hl : t.length ≤ 120)
    (he : starEach (e1 :: [e2]) X.env = (false, eval e1 X.env) :: starEach [e2] X.env := by rfl) (hpl : (backTo pos (starEach [e2] X.env)).any (·.1) = false := by rfl) : EV X (.Call (.Name "_law_is_word" p') [e1, e2] [] pos) σ B l (.bl true) :=
  e_call (ok_isw T) hr hj hg ha (fun H c Q E q => ⟨t, n, rfl, wd, hn, hl, q⟩) (by decide +kernel) he hpl
end
section
variable {P : Program} {w' : World} {K : PySem.W.Frag} {mg : Str → Option Value} {base : Heap}
theorem e_watK {X : Cx} {k : Nat} {e1 e2 : Expr} {p' pos kp1 kp2 : Pos} {σ : L2.St} {B : Hp} {l : List Ob} {n : Nat} {v : Int} (T : Prog X.K X.mg) (Tb : Tabs X.w X.K X.mg) (hr : Room k X.A) (hj : 4 ≤ k) (hg : Gl X "word_at") (h1 : EV X e1 σ B l (.int (n : Int))) (h2 : EV X e2 σ B l (.int v)) (hn : n ≤ 60) (v0 : 0 ≤ v) (v1 : v < w (2 * n) 0)
    (hall : (backToKw pos (keywordEach [⟨some "n", e1, kp1⟩, ⟨some "k", e2, kp2⟩] X.env)).all (·.1.isSome) = true := by rfl) (hks : (backToKw pos (keywordEach [⟨some "n", e1, kp1⟩, ⟨some "k", e2, kp2⟩] X.env)).filterMap (·.1) = [("n" : PySem.Str), ("k" : PySem.Str)] := by rfl)
    (hpl : ((backTo pos (starEach [] X.env)).any (·.1) || (backToKw pos (keywordEach [⟨some "n", e1, kp1⟩, ⟨some "k", e2, kp2⟩] X.env)).any (·.1.isNone)) = false := by rfl) : EV X (.Call (.Name "word_at" p') [] [⟨some "n", e1, kp1⟩, ⟨some "k", e2, kp2⟩] pos) σ B l (.str (txt (un (2 * n) 0 v))) :=
  ⟨fun H c H1 x1 Q q => w_callK0 (ok_wat T Tb).2 hr hj hg (w_kcons (go h1 (c.mono x1) fun H2 x2 C2 => w_kcons (go h2 C2 fun H3 x3 C3 => w_knil ⟨rfl, n, v, rfl, hn, v0, v1, fun H4 x4 => q H4 ((x2.trans x3).trans x4)⟩))) (by decide +kernel) hall hks hpl⟩
theorem e_wplK {X : Cx} {k : Nat} {e1 : Expr} {p' pos kp1 : Pos} {σ : L2.St} {B : Hp} {l : List Ob} {t : List Bool} (T : Prog X.K X.mg) (Tb : Tabs X.w X.K X.mg) (hr : Room k X.A) (hj : 4 ≤ k) (hg : Gl X "word_place") (h1 : EV X e1 σ B l (.str (txt t))) (wd : Wd t 0) (hl : t.length ≤ 120)
    (hall : (backToKw pos (keywordEach [⟨some "word", e1, kp1⟩] X.env)).all (·.1.isSome) = true := by rfl) (hks : (backToKw pos (keywordEach [⟨some "word", e1, kp1⟩] X.env)).filterMap (·.1) = [("word" : PySem.Str)] := by rfl)
    (hpl : ((backTo pos (starEach [] X.env)).any (·.1) || (backToKw pos (keywordEach [⟨some "word", e1, kp1⟩] X.env)).any (·.1.isNone)) = false := by rfl) : EV X (.Call (.Name "word_place" p') [] [⟨some "word", e1, kp1⟩] pos) σ B l (.int (rk t 0)) :=
  ⟨fun H c H1 x1 Q q => w_callK0 (ok_wpl T Tb).2 hr hj hg (w_kcons (go h1 (c.mono x1) fun H2 x2 C2 => w_knil ⟨rfl, t, rfl, wd, hl, fun H4 x4 => q H4 (x2.trans x4)⟩)) (by decide +kernel) hall hks hpl⟩
theorem w_pos {n : Nat} (h : n ≤ 60) : 1 ≤ w (2 * n) 0 ∧ w (2 * n) 0 < 2 ^ 130 := by
  obtain ⟨a, b, c⟩ := words_w h
  omega
def sp_right : Sp := fun vs H Q _ => ∃ (p wp : Addr) (u : Pu), vs = [.ref p, .ref wp] ∧ H p = some (.lst u.v) ∧ WR H wp ∧ u.Ok 20 ∧ ∀ (H2 : Hp) (u' : Pu), ExBut p H H2 → H2 p = some (.lst u'.v) → (∀ b, u.Ok (b + 20) → u'.Ok b) → Q (.bl true) H2
theorem ok_right (T : Prog K mg) (Tb : Tabs w' K mg) : Callee P w' K mg base 5 "_law_right" [] sp_right := by
  refine callee_mk T.f__law_right sc__law_right (fun _ _ _ _ _ _ us hl => match us, hl with | [_, _], _ => rfl) (fun vs H Q E h => ?_) ?_
  · obtain ⟨_, _, _, rfl, _⟩ := h
    rfl
  · rintro X rfl rfl rfl rfl rfl b E tk vs H Q ⟨p, wp, u, rfl, hp, hw, ok, q⟩
    walk_at "in _law_right"
    have C := Cfg.own1 hp
    have hw0 := hw.off hp
    refine s_set (by walk_at "o") (w_size T b.room (by decide) (by walk_at "o") C (ok.mono (by omega)) (fun l => by walk_at "ev") (fun l => by walk_at "ev") (by walk_at "ea") (fun l => by walk_at "ev") fun H1 n u1 hn C1 hu1 => ?_)
    obtain ⟨wp1, wp2⟩ := w_pos hn
    obtain ⟨as, z1, z2, z3⟩ := id hw0
    obtain ⟨a, y1, y2⟩ := z3 (2 * n) (by omega)
    have cm : CMul 2 (n : Int) ∨ CMulW 2 (n : Int) := .inl (.inl ⟨by decide, by decide⟩)
    have a1 : atI (as.map V.ref) (2 * (n : Int)) = some (.ref a) := by
      have : 2 * (n : Int) = ((2 * n : Nat) : Int) := by omega
      rw [this]
      exact atI_nat (by rw [List.getElem?_map, y1]; rfl)
    have a2 : atI ((wrow (2 * n)).map V.int) 0 = some (.int (w (2 * n) 0)) := by
      have wl := wrow_len (2 * n)
      refine atI_nat (j := 0) ?_
      unfold w
      rw [List.getElem?_map, List.getD_eq_getElem?_getD, List.getElem?_eq_getElem (by omega : 0 < (wrow (2 * n)).length)]
      rfl
    refine s_setV (v := .int (w (2 * n) 0)) (by walk_at "o") C1 (e_ixL (e_ixL (by walk_at "ev") (by walk_at "ev") (lst_h z1) a1) (by walk_at "ev") (lst_h y2) a2) fun H2 x2 C2 => ?_
    have ok1 : u1.Ok 18 := hu1 18 ok
    refine s_set (by walk_at "o") (wE_mono (Q := fun v H1 => ∃ (num : Int) (u' : Pu), v = .int num ∧ 0 ≤ num ∧ num < w (2 * n) 0 ∧ Cfg (off H p) [(p, .lst u'.v)] H1 ∧ ∀ b, u.Ok (b + 20) → u'.Ok b) (w_ix ix_list (w_lst' (w_acons (w_far T b.room (by decide) (by walk_at "o") C2 rfl (by walk_at "ea") wp1 (ok1.mono (by omega)) fun H3 v1 u2 C3 hu2 v10 v11 => w_acons (go (v := .int 0) (by walk_at "ev") C3 fun H4 x4 C4 => w_acons (go (v := .int (w (2 * n) 0 - 1)) (by walk_at "ev") C4 fun H5 x5 C5 => w_acons (w_far T b.room (by decide) (by walk_at "o") C5 rfl (by walk_at "ea") wp1 ((hu2 11 ok1).mono (by omega)) fun H6 v2 u3 C6 hu3 v20 v21 => w_anil ⟨by rw [sizeLine_eq]; simp, fun aa haa => ?_⟩)))))) ) (fun v H1 ⟨num, u5, e, n0, n1, C7, hu⟩ => ?_))
    · have C7 := C6.add (o := .lst [.int v1, .int 0, .int (w (2 * n) 0 - 1), .int v2]) haa
      refine w_take T b.room (by decide) (by walk_at "o") C7.swap List.mem_cons_self (by walk_at "ev") (by walk_at "ev") (m := 4) ⟨by decide, by decide⟩ ((hu3 4 (hu2 11 ok1)).mono (by omega)) fun H8 C8 => ?_
      unfold QW.put at C8
      rw [if_pos rfl] at C8
      have g0 := Pu.got_lo u3 (m := 4) (by decide)
      have g1 := Pu.got_hi u3 (m := 4) (by decide)
      generalize u3.got 4 = g at g0 g1 ⊢
      have hl := C8.look (List.mem_cons_of_mem _ List.mem_cons_self)
      have fin : ∀ num : Int, 0 ≤ num → num < w (2 * n) 0 → ∃ (num_1 : Int) (u' : Pu), V.int num = .int num_1 ∧ 0 ≤ num_1 ∧ num_1 < w (2 * n) 0 ∧ Cfg (off H p) [(p, .lst u'.v)] H8 ∧ ∀ b, u.Ok (b + 20) → u'.Ok b := fun num n0 n1 =>
        ⟨num, _, rfl, n0, n1, C8.swap.drop, fun b h => Pu.Ok.nxt ((hu3 (b + 4) (hu2 (b + 11) (hu1 (b + 18) h))).mono (by omega))⟩
      have : g = 0 ∨ g = 1 ∨ g = 2 ∨ g = 3 := by omega
      rcases this with rfl | rfl | rfl | rfl
      · exact ⟨aa, _, 0, .int v1, rfl, rfl, SqL.of hl, rfl, fin _ v10 v11⟩
      · exact ⟨aa, _, 1, .int 0, rfl, rfl, SqL.of hl, rfl, fin _ (by omega) (by omega)⟩
      · exact ⟨aa, _, 2, .int (w (2 * n) 0 - 1), rfl, rfl, SqL.of hl, rfl, fin _ (by omega) (by omega)⟩
      · exact ⟨aa, _, 3, .int v2, rfl, rfl, SqL.of hl, rfl, fin _ v20 v21⟩
    · subst e
      have ul := un_len (2 * n) 0 num
      obtain ⟨wd, hrk⟩ := un_ok (2 * n) 0 num (by omega) n0 n1
      have hl : (un (2 * n) 0 num).length ≤ 120 := by omega
      refine s_setV (by walk_at "o") C7 (e_wat T Tb b.room (by decide) (by walk_at "o") (by walk_at "ea") hn n0 n1) fun H9 x9 C9 => ?_
      refine s_ifF C9 (ET.is (t_or (t_not (t_val (e_isw T b.room (by decide) (by walk_at "o") (by walk_at "ea") wd ul hl))) (fun _ => t_cmp (c_neI (e_rank T b.room (by decide) (by walk_at "o") (by walk_at "ea") wd hl hw0) (by walk_at "ev")))) (by rw [hrk, decide_eq_true rfl]; rfl)) fun H10 x10 C10 => s_nil ?_
      refine s_setV (v := .int num) (by walk_at "o") C10 (EV.is (e_wpl T Tb b.room (by decide) (by walk_at "o") (by walk_at "ea") wd hl) (by rw [hrk])) fun H11 x11 C11 => ?_
      refine s_ifF C11 (ET.is (b := !true || (!decide (num = num) || (decide (num + 1 < w (2 * n) 0) && false))) (t_or3 (t_not (t_val (e_lwhole T b.room (by decide) (by walk_at "o") (by walk_at "ev")))) (fun _ => by walk_at "et") (fun _ _ => t_and (by walk_at "et") (fun c => ?_))) (by rw [decide_eq_true rfl, Bool.and_false]; rfl)) fun H12 x12 C12 => s_nil ?_
      · have c := of_decide_eq_true c
        refine t_not (b := true) (ET.is (t_cmp (c_ltS (by walk_at "ev") (e_wat T Tb b.room (by decide) (by walk_at "o") (by walk_at "ea") hn (v := num + 1) (by omega) c))) (decide_eq_true ?_))
        exact un_lt (2 * n) 0 num (num + 1) (by omega) n0 (by omega) c
      · refine s_retV C12 (EV.is (v := .bl (decide (txt (un (2 * n) 0 num) = txt (un (2 * n) 0 num)) && decide (rk (un (2 * n) 0 num) 0 = num))) (e_and (e_cmp (c_eqS (e_watK T Tb b.room (by decide) (by walk_at "o") (by walk_at "ev") (by walk_at "ev") hn n0 n1) (by walk_at "ev"))) (fun _ => e_cmp (c_eqI (e_wplK T Tb b.room (by decide) (by walk_at "o") (by walk_at "ev") wd hl) (by walk_at "ev")))) (v1 := .bl true) (by rw [hrk, decide_eq_true rfl, decide_eq_true rfl]; rfl)) fun H13 x13 C13 => ?_
        exact q H13 u5 C13.back (C13.look List.mem_cons_self) hu
end
section
variable {P : Program} {w' : World} {K : PySem.W.Frag} {mg : Str → Option Value} {base : Heap}
theorem w_notT {X : Cx} {e : Expr} {σ : L2.St} {H : Hp} {Q : Bool → Hp → Prop} {pos : Pos} (h : wE X e σ H fun x H1 => ∃ c, x = .bl c ∧ Q (!c) H1) (he : ∀ whole, isTrue e X.env whole = (do let v ← whole; standAt e.pos; holding [v] (truthy v)) := by intro _; rfl) : wT X (.UnaryOp .Not e pos) σ H Q :=
  wT_of (pt_not (pt_val pE he)) (wE_mono h fun x H1 ⟨c, e, q⟩ => by subst e; exact ⟨c, rfl, q⟩)
def sp_law (K : PySem.W.Frag) : Sp := fun vs H Q _ => ∃ (a : Addr) (ns : List Int), vs = [.ref a] ∧ ns.length ≤ 63 ∧ SqL K H a (ns.map V.int) ∧ ∀ H2, Q (.bl true) H2
abbrev lev : Nat := 6
theorem law_body (T : Prog K mg) (Tb : Tabs w' K mg) : ∀ X : Cx, X.prog = P → X.w = w' → X.K = K → X.mg = mg → X.base = base → Bd X N_law (defScope s_law) 5 → ∀ E : XK, Takes X (fun c d _ H => E c d H) → ∀ vs H Q, sp_law K vs H Q E → wSs X (defBody s_law) { nx := fun _ H' => Q .non H', rt := Q } (L2.start N_law vs) H := by
  rintro X rfl rfl rfl rfl rfl b E tk vs H Q ⟨a, ns, rfl, hl, hs, q⟩
  walk_at "in law"
  have C := Cfg.start (H := H)
  refine s_set (by walk_at "o") (w_call (ok_lways T) b.room (by decide) (by walk_at "o") (goA (a_cons (v := .int 120) (by walk_at "ev") a_nil) C fun H1 x1 C1 => ⟨rfl, fun wp H2 x2 hw => ?_⟩))
  have C2 := C1.mono x2
  have ln : (if (6 : Int) < ((ns.map V.int).length : Nat) then (6 : Int) else ((ns.map V.int).length : Nat)) + 1 = ((min ns.length 6 + 1 : Nat) : Int) := by
    rw [List.length_map]
    split <;> omega
  refine s_forR1 (n := min ns.length 6 + 1) b (by walk_at "o") T.b_range (by walk_at "o") C2 (EV.is (e_add (e_min2 b.calm (by walk_at "o") T.b_min (e_lenL (by walk_at "o") T.b_len (by walk_at "ev") (lst_b hs)) (by walk_at "ev")) (by walk_at "ev")) (congrArg V.int ln)) (by omega) (fun i σ' H' => Ex H H' ∧ WR H' wp ∧ ∃ v2 v3 v4 v5 v6, σ' = [some (.ref a), some (.ref wp), v2, v3, v4, v5, v6]) (fun H3 x3 C3 => ⟨C3.ex, hw.ex x3, _, _, _, _, _, rfl⟩) (fun i σ' H' hi p' => ?_) (fun σ' H' p' => ?_)
  · obtain ⟨xx, hw, v2, v3, v4, v5, v6, rfl⟩ := p'
    have C3 := Cfg.start (H := H')
    have hs' : SqL X.K H' a (ns.map V.int) := ex_l xx hs
    refine s_set (by walk_at "o") (w_purse T b.room (by decide) (by walk_at "o") C3 (a_cons (v := .int (atS ns i)) (e_call (ok_at T) b.room (by decide) (by walk_at "o") (vs := [.ref a, .int (i : Nat)]) (by walk_at "ea") (fun H4 c Q E z => ⟨a, ns, i, rfl, ex_l c.ex hs', z⟩)) (a_cons (v := .int (i : Nat)) (by walk_at "ev") a_nil)) ⟨by omega, by omega⟩ fun p H4 x4 C4 => ?_)
    have ok0 : (Pu.of (atS ns i) i).Ok 1000 := Pu.of_ok _ _ (by decide)
    refine s_if (w_notT (w_call (ok_right T Tb) b.room (by decide) (by walk_at "o") (goA (a_cons (v := .ref p) (by walk_at "ev") (a_cons (v := .ref wp) (by walk_at "ev") a_nil)) C4 fun H5 x5 C5 => ⟨p, wp, _, rfl, C5.look List.mem_cons_self, hw.ex C5.ex, ok0.mono (by omega), fun H6 u1 x6 h6 hu1 => ⟨true, rfl, ?_⟩⟩)))
    have C6 := C5.but List.mem_cons_self x6 h6
    rw [put1] at C6
    have ok1 : u1.Ok 900 := hu1 900 (ok0.mono (by omega))
    refine s_nil (s_set (by walk_at "o") (w_size T b.room (by decide) (by walk_at "o") C6 (ok1.mono (by omega)) (fun l => by walk_at "ev") (fun l => by walk_at "ev") (by walk_at "ea") (fun l => by walk_at "ev") fun H7 n u2 hn C7 hu2 => ?_))
    have ok2 : u2.Ok 800 := hu2 800 (ok1.mono (by omega))
    refine s_set (by walk_at "o") (w_call (ok_lword T) b.room (by decide) (by walk_at "o") (goA (a_cons (v := .ref p) (by walk_at "ev") (a_cons (v := .int (n : Int)) (by walk_at "ev") a_nil)) C7 fun H8 x8 C8 => ⟨p, u2, n, rfl, C8.look List.mem_cons_self, hn, ok2.mono (by omega), fun H9 t u3 x9 h9 wd tl => ?_⟩))
    have C9 := C8.but List.mem_cons_self x9 h9
    rw [put1] at C9
    have tl' : t.length ≤ 120 := by omega
    obtain ⟨r0, r1, r2⟩ := rk_ok t 0 (by omega) wd
    rw [tl] at r1 r2
    refine s_setV (by walk_at "o") C9 (e_wpl T Tb b.room (by decide) (by walk_at "o") (by walk_at "ea") wd tl') fun H10 x10 C10 => ?_
    refine s_ifF C10 (ET.is (t_or3 (t_not (t_val (e_lwhole T b.room (by decide) (by walk_at "o") (by walk_at "ev")))) (fun _ => t_cmp (c_neI (by walk_at "ev") (e_rank T b.room (by decide) (by walk_at "o") (by walk_at "ea") wd tl' hw))) (fun _ _ => t_cmp (c_neS (e_wat T Tb b.room (by decide) (by walk_at "o") (by walk_at "ea") hn r0 r1) (by walk_at "ev")))) (by rw [r2, decide_eq_true rfl, decide_eq_true rfl]; rfl)) fun H11 x11 C11 => ?_
    exact s_nil (s_nil ⟨xx.trans C11.ex, hw.ex C11.ex, _, _, _, _, _, rfl⟩)
  · obtain ⟨xx, hw, v2, v3, v4, v5, v6, rfl⟩ := p'
    exact s_retV (Cfg.start (H := H')) (by walk_at "ev") fun H2 x2 C2 => by exact q H2
theorem FnOk.weak {P : Program} {w : World} {K : PySem.W.Frag} {mg : Str → Option Value} {base : Heap} {k : Nat} {f : Addr} {fd : FuncData} {ps : List Str} {sp : Sp} {C1 C2 : CXT} (h : FnOk P w K mg base C1 k f fd ps sp) (hx : ∀ o H s E e s', C1 o H s E e s' → C2 o H s E e s') : FnOk P w K mg base C2 k f fd ps sp :=
  ⟨h.len, fun A outer s H args us vs Q E hr e0 hb r hs => codeAny_mono (h.run A outer s H args us vs Q E hr e0 hb r hs) fun r s' z => by
    cases r with
    | error e => exact hx _ _ _ _ _ _ z
    | ok fl => cases fl <;> exact z⟩
theorem law_fn {fa : Addr} (T : Prog K mg) (Tb : Tabs w' K mg) (hm : mg "law" = some (.ref fa)) : ∃ fd, (∀ (s : Shared) (u : Value), BindsTo s fd ⟨[u], []⟩ [("_law_script", u)]) ∧ ∀ base, FnOk P w' K mg base (fun o H s E e s' => ∃ w, L2.CX P w o H s E e s') lev fa fd ["_law_script"] (sp_law K) := by
  obtain ⟨f, fd, F, hm'⟩ := T.f_law
  rw [hm] at hm'
  obtain rfl : fa = f := by injection (Option.some.inj hm')
  refine ⟨fd, fun s u => F.bindsA (ps := ["_law_script"]) (fun _ _ _ _ _ _ us hl => match us, hl with | [_], _ => rfl) s [u] rfl, fun base => ?_⟩
  exact FnOk.weak (fnOk_mk (k := 5) F sc_law (fun vs H Q E h => by obtain ⟨_, _, rfl, _⟩ := h; rfl) (law_body T Tb)) fun o H s E e s' z => ⟨w', z⟩
theorem law_sp {H : Hp} (a : Addr) (ns : List Int) (hl : ns.length ≤ 63) (hS : SqL K H a (ns.map V.int)) : sp_law K [.ref a] H (fun v _ => v = .bl true) fun _ _ _ => False := ⟨a, ns, rfl, hl, hS, fun _ => rfl⟩
end
/-! ### the head -/
def fn : List He.DefD := [⟨("is_whole", none), "is_whole", "is_whole", defArgs s_is_whole, defBody s_is_whole, defScope s_is_whole, [], []⟩,
  ⟨("look_word", none), "look_word", "look_word", defArgs s_look_word, defBody s_look_word, defScope s_look_word, [.str "()"], []⟩,
  ⟨("look_count", none), "look_count", "look_count", defArgs s_look_count, defBody s_look_count, defScope s_look_count, [], []⟩,
  ⟨("look_number", none), "look_number", "look_number", defArgs s_look_number, defBody s_look_number, defScope s_look_number, [], []⟩,
  ⟨("words_of", none), "words_of", "words_of", defArgs s_words_of, defBody s_words_of, defScope s_words_of, [], []⟩,
  ⟨("choices", none), "choices", "choices", defArgs s_choices, defBody s_choices, defScope s_choices, [], []⟩,
  ⟨("endings", none), "endings", "endings", defArgs s_endings, defBody s_endings, defScope s_endings, [], []⟩,
  ⟨("mixed_endings", none), "mixed_endings", "mixed_endings", defArgs s_mixed_endings, defBody s_mixed_endings, defScope s_mixed_endings, [], []⟩,
  ⟨("stepped", none), "stepped", "stepped", defArgs s_stepped, defBody s_stepped, defScope s_stepped, [], []⟩,
  ⟨("ways_on", none), "ways_on", "ways_on", defArgs s_ways_on, defBody s_ways_on, defScope s_ways_on, [], []⟩,
  ⟨("text_at", none), "text_at", "text_at", defArgs s_text_at, defBody s_text_at, defScope s_text_at, [], []⟩,
  ⟨("text_place", none), "text_place", "text_place", defArgs s_text_place, defBody s_text_place, defScope s_text_place, [], []⟩,
  ⟨("count_words", none), "count_words", "count_words", defArgs s_count_words, defBody s_count_words, defScope s_count_words, [], []⟩,
  ⟨("word_at", none), "word_at", "word_at", defArgs s_word_at, defBody s_word_at, defScope s_word_at, [], []⟩,
  ⟨("word_place", none), "word_place", "word_place", defArgs s_word_place, defBody s_word_place, defScope s_word_place, [], []⟩,
  ⟨("_law_mixed", none), "_law_mixed", "_law_mixed", defArgs s__law_mixed, defBody s__law_mixed, defScope s__law_mixed, [], []⟩,
  ⟨("_law_purse", none), "_law_purse", "_law_purse", defArgs s__law_purse, defBody s__law_purse, defScope s__law_purse, [], []⟩,
  ⟨("_law_take", none), "_law_take", "_law_take", defArgs s__law_take, defBody s__law_take, defScope s__law_take, [], []⟩,
  ⟨("_law_at", none), "_law_at", "_law_at", defArgs s__law_at, defBody s__law_at, defScope s__law_at, [], []⟩,
  ⟨("_law_far", none), "_law_far", "_law_far", defArgs s__law_far, defBody s__law_far, defScope s__law_far, [], []⟩,
  ⟨("_law_whole", none), "_law_whole", "_law_whole", defArgs s__law_whole, defBody s__law_whole, defScope s__law_whole, [], []⟩,
  ⟨("_law_ways", none), "_law_ways", "_law_ways", defArgs s__law_ways, defBody s__law_ways, defScope s__law_ways, [], []⟩,
  ⟨("_law_rank", none), "_law_rank", "_law_rank", defArgs s__law_rank, defBody s__law_rank, defScope s__law_rank, [], []⟩,
  ⟨("_law_is_word", none), "_law_is_word", "_law_is_word", defArgs s__law_is_word, defBody s__law_is_word, defScope s__law_is_word, [], []⟩,
  ⟨("_law_word", none), "_law_word", "_law_word", defArgs s__law_word, defBody s__law_word, defScope s__law_word, [], []⟩,
  ⟨("_law_right", none), "_law_right", "_law_right", defArgs s__law_right, defBody s__law_right, defScope s__law_right, [], []⟩,
  ⟨("law", none), "law", "law", defArgs s_law, defBody s_law, defScope s_law, [], []⟩]
def fa0 : List He.Fa := [.free "bool", .free "enumerate", .free "int", .free "isinstance", .free "len", .free "max", .free "min", .free "range", .free "str", .free "tuple", .free "zip", .int "MOST_TIES" 60, .str "PLAIN_SIGNS" "()", .glo "is_whole", .glo "look_word", .glo "look_count", .glo "look_number", .glo "words_of", .glo "choices", .glo "endings", .glo "mixed_endings", .glo "stepped", .glo "ways_on", .glo "text_at", .glo "text_place", .glo "count_words", .glo "word_at", .glo "word_place", .glo "_law_mixed", .glo "_law_purse", .glo "_law_take", .glo "_law_at", .glo "_law_far", .glo "_law_whole", .glo "_law_ways", .glo "_law_rank", .glo "_law_is_word", .glo "_law_word", .glo "_law_right", .glo "law"]
def fa : List He.Fa := fa0 ++ [.glo "STEPS"]
def ts : List He.Tab := [(fun K => He.ga K "STEPS", ["(", ")", "[", "]"])]
def ck (K : PySem.W.Frag) : Bool := tabTB K (He.ga K "STEPS") [(sg true, [1, 0]), (sg false, [-1, 0])]
abbrev R : PySem.W.OpenRow := PySem.W.OpenLaw.row PySem.Challenge.rw_quadwoods_k41_words_by_number
abbrev hk : PySem.W.Hook := hookC 5 fa fn ts ck
def ob (s : PySem.W.SharedT) : AlC := obsCG 5 fa fn ts ck (HandSHeadRun.getT s)
theorem ob_eq (s : PySem.W.SharedT) : ob s = hk.obs s.abs := obsCG_eq (HandSHeadRun.getT_eq s)
def lo0 : List PySem.Str := ["QuadError", "NoCount", "NoNumber", "NoWord", "is_whole", "look_word", "MOST_TIES", "PLAIN_SIGNS", "STEPS", "look_count", "look_number", "words_of", "choices", "endings", "mixed_endings", "stepped", "ways_on", "text_at", "text_place", "count_words", "word_at", "word_place", "_law_mixed", "_law_purse", "_law_take", "_law_at", "_law_far", "_law_whole", "_law_ways", "_law_rank"]
def lo1 : List PySem.Str := ["_law_is_word", "_law_word", "_law_right"]
def loose : List PySem.Str := lo0 ++ lo1
theorem run (w : World) : HandSHeadRun.RunEq R (PySem.W.view R.prog [38]) hk ob 6000 loose w := PySem.W.byRow2 "special-get-raises" (P := fun w => HandSHeadRun.RunEq R (PySem.W.view R.prog [38]) hk ob 6000 loose w) (fun w os => by kernel_rfl) (fun w os => by kernel_rfl) w
theorem facts {w : World} {K : PySem.W.Frag} {h : Heap} {mg : Str → Option Value} (X : K.In h) (G : h.Ns mainGlobals mg) (c : SaysC fa fn ts ck w K) : Prog K mg :=
  ⟨c.free X G 0,
   c.free X G 1,
   c.free X G 2,
   c.free X G 3,
   c.free X G 4,
   c.free X G 5,
   c.free X G 6,
   c.free X G 7,
   c.free X G 8,
   c.free X G 9,
   c.free X G 10,
   c.int X G 11,
   c.str X G 12,
   c.df X G 0 13,
   c.df X G 1 14,
   c.df X G 2 15,
   c.df X G 3 16,
   c.df X G 4 17,
   c.df X G 5 18,
   c.df X G 6 19,
   c.df X G 7 20,
   c.df X G 8 21,
   c.df X G 9 22,
   c.df X G 10 23,
   c.df X G 11 24,
   c.df X G 12 25,
   c.df X G 13 26,
   c.df X G 14 27,
   c.df X G 15 28,
   c.df X G 16 29,
   c.df X G 17 30,
   c.df X G 18 31,
   c.df X G 19 32,
   c.df X G 20 33,
   c.df X G 21 34,
   c.df X G 22 35,
   c.df X G 23 36,
   c.df X G 24 37,
   c.df X G 25 38,
   c.df X G 26 39⟩
theorem tabs {w : World} {K : PySem.W.Frag} {h : Heap} {mg : Str → Option Value} (X : K.In h) (G : h.Ns mainGlobals mg) (c : SaysC fa fn ts ck w K) : Tabs w K mg := by
  obtain ⟨es, n, kd⟩ := c.t.tab 0
  refine ⟨He.ga K "STEPS", c.glo X G 40, fun up => ?_⟩
  cases up with
  | true => exact tabTB_ok c.own kd (x := sg true) (js := [1, 0]) List.mem_cons_self
  | false => exact tabTB_ok c.own kd (x := sg false) (js := [-1, 0]) (List.mem_cons_of_mem _ List.mem_cons_self)
end Law_k41
open PySem PySem.W PySem.Calls PyProof.Rows
theorem PySem.Challenge.cw_quadwoods_k41_words_by_number_holds : PySem.Challenge.rw_quadwoods_k41_words_by_number.Holds := by
  w_on; o_law
  refine HandSHeadRun.head_any (r := OpenLaw.row PySem.Challenge.rw_quadwoods_k41_words_by_number) (q := view (OpenLaw.row PySem.Challenge.rw_quadwoods_k41_words_by_number).prog [38]) (H := Law_k41.hk) (ob := Law_k41.ob) (M := 6000) (loose := Law_k41.loose) (d := HandSHeadRun.topDef (OpenLaw.row PySem.Challenge.rw_quadwoods_k41_words_by_number).prog 38) (kwd := []) Law_k41.ob_eq
    (by kernel_rfl) (fun s => by kernel_rfl) Law_k41.run (by kernel_rfl) (by kernel_rfl) (by kernel_rfl) (by rfl) (by first | assumption | decide +kernel) (by decide +kernel) ⟨rfl, rfl, rfl, rfl, rfl, by decide +kernel⟩ ?hw ?hc
  case hw => w_witness2
  case hc =>
    refine L2.walk_ofE (l := PySem.Challenge.rw_quadwoods_k41_words_by_number) (n := 63) (k := Law_k41.lev) (x := "_law_script") (CX := fun o H s E e s' => ∃ w, L2.CX (PySem.Challenge.rw_quadwoods_k41_words_by_number).prog w o H s E e s') rfl (by decide) (by kernel_rfl) ⟨rfl, by decide, by decide⟩ ?F ?Z
    case F =>
      intro w mg fa h Y G hmg0
      obtain ⟨K, KX, c⟩ := Y
      have hmg : mg ("law" : PySem.Str) = some (.ref fa) := by
        have e : (HandSHeadRun.topDef (OpenLaw.row PySem.Challenge.rw_quadwoods_k41_words_by_number).prog 38).name = ("law" : PySem.Str) := by kernel_rfl
        rw [← e]
        exact hmg0
      obtain ⟨fd, hb, hF⟩ := Law_k41.law_fn (P := (PySem.Challenge.rw_quadwoods_k41_words_by_number).prog) (Law_k41.facts KX G c) (Law_k41.tabs KX G c) hmg
      exact ⟨K, fd, Law_k41.sp_law K, KX, hb, fun H a ns hl _ hS => Law_k41.law_sp a ns hl hS, fun base _ _ => hF base⟩
    case Z =>
      rintro H s e s' ⟨w, z⟩
      obtain ⟨_, _, _, _, _, _, _, _, _, _, _, _, z⟩ := z
      exact z

