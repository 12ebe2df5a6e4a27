import PyProof.Rows.All
import Wide.All
import OpenK.AllK
import Wide.FinOn
import HandS.ForMost
import HandS.Exc
import HandS.TryOnly
import HandS.ExcOwn
import HandS.WordsExc
import HandS.Evl
import HandS.Wide
import HandS.IsInst
import HandS.Defaults
import HandS.Head0
import HandS.Head1
import HandS.Head2
import HandS.HeadEnd
import HandS.HeadHook1
import HandS.HeadHook2
import HandS.Walk
import HandS.Zip
import KE.GoesNew
import KE.KStateDown
import HandS.HeadHook3
import HandS.Replace
import HandS.FltList
import HandS.ExcIs
import HandS.ExcField
import HandS.ExcInit
import HandS.TupAny
import HandS.SortInts
import HandS.Style
import HandS.Deep
import HandS.CallSlots
import HandS.More
import HandS.SetFor
import HandS.SetKeys
import HandS.Conv
import PyProof.Rows.SortShellAny
import HandS.MakeKw
import HandS.ExcValue
import HandS.OwnEq
import HandS.NoneIn
import HandS.Small
import PyProof.Rows.StrStep
import HandS.IntHex
import HandS.HotCalls
import PySem.Challenge.RW_quadwoods_k40_counts_told
set_option Elab.async false
set_option linter.all false
set_option maxRecDepth 100000
set_option maxHeartbeats 4000000
/-! QW1: semantic readings, values over a known part B and owned objects l. -/
namespace QW
open PySem L2 Evl

/-! ### the weakest readings -/
def wE (X : Cx) (e : Expr) : TE := fun σ H Q => ∀ pins s, Inv X pins σ H s → wpAny (model X.prog X.w) X.A (eval e X.env) (EP X pins σ Q) X.xe s
def wT (X : Cx) (e : Expr) : TT := fun σ H Q => ∀ pins s, Inv X pins σ H s → wpAny (model X.prog X.w) X.A (isTrue e X.env (eval e X.env)) (TP X pins σ Q) X.xe s
def wW (X : Cx) (e : Expr) : TT := fun σ H Q => ∀ (whole : Sem Value) pins s, Inv X pins σ H s → wpAny (model X.prog X.w) X.A (isTrue e X.env whole) (TP X pins σ Q) X.xe s
def wA (X : Cx) (es : List Expr) : TA := fun σ H Q => ∀ pos pins s, Inv X pins σ H s → wpAny (model X.prog X.w) X.A (spliced (backTo pos (starEach es X.env))) (AP X pins σ Q) X.xe s
def wS (X : Cx) (st : Stmt) : TS := fun D σ H => ∀ pins s, Inv X pins σ H s → wpAny (model X.prog X.w) X.A (exec st X.env) (SP X pins D) X.xe s
def wSs (X : Cx) (st : List Stmt) : TS := fun D σ H => ∀ pins s, Inv X pins σ H s → wpAny (model X.prog X.w) X.A (execs st X.env) (SP X pins D) X.xe s
section
variable {X : Cx} {e : Expr} {es : List Expr} {st : Stmt} {sts : List Stmt}
theorem pE : PE X e (wE X e) := ⟨fun pins s σ H Q I h => h pins s I⟩
theorem pT : PT X e (wT X e) := ⟨fun pins s σ H Q I h => h pins s I⟩
theorem pW : PW X e (wW X e) := ⟨fun wh pins s σ H Q I h => h wh pins s I⟩
theorem pA : PA X es (wA X es) := ⟨fun pos pins s σ H Q I h => h pos pins s I⟩
theorem pS : PS X st (wS X st) := ⟨fun pins s σ H D I h => h pins s I⟩
theorem pSs : PSs X sts (wSs X sts) := ⟨fun pins s σ H D I h => h pins s I⟩
theorem wE_of {t : TE} (h : PE X e t) {σ H Q} (q : t σ H Q) : wE X e σ H Q := fun pins s I => h.run pins s σ H Q I q
theorem wT_of {t : TT} (h : PT X e t) {σ H Q} (q : t σ H Q) : wT X e σ H Q := fun pins s I => h.run pins s σ H Q I q
theorem wW_of {t : TT} (h : PW X e t) {σ H Q} (q : t σ H Q) : wW X e σ H Q := fun wh pins s I => h.run wh pins s σ H Q I q
theorem wA_of {t : TA} (h : PA X es t) {σ H Q} (q : t σ H Q) : wA X es σ H Q := fun pos pins s I => h.run pos pins s σ H Q I q
theorem wS_of {t : TS} (h : PS X st t) {σ H D} (q : t D σ H) : wS X st D σ H := fun pins s I => h.run pins s σ H D I q
theorem wSs_of {t : TS} (h : PSs X sts t) {σ H D} (q : t D σ H) : wSs X sts D σ H := fun pins s I => h.run pins s σ H D I q
end

/-! ### the known part and the owned objects -/
abbrev Ob := Addr × HO
structure Cfg (B : Hp) (l : List Ob) (H : Hp) : Prop where
  ex : Ex B H
  own : ∀ p o, (p, o) ∈ l → H p = some o
  fr : ∀ p o, (p, o) ∈ l → B p = none
  nd : (l.map (·.1)).Nodup
section
variable {B B' H H' : Hp} {l : List Ob} {p : Addr} {o o' : HO}
theorem Cfg.mono (c : Cfg B l H) (e : Ex H H') : Cfg B l H' := ⟨c.ex.trans e, fun p o h => e p o (c.own p o h), c.fr, c.nd⟩
theorem Cfg.start : Cfg H [] H := ⟨Ex.refl H, fun _ _ h => (nomatch h), fun _ _ h => (nomatch h), List.nodup_nil⟩
theorem Cfg.notin (c : Cfg B l H) (h : H p = none) : p ∉ l.map (·.1) := fun m => by
  obtain ⟨q, hq, e⟩ := List.mem_map.mp m
  obtain ⟨a, u⟩ := q
  have e' : a = p := e
  subst e'
  rw [c.own _ _ hq] at h
  cases h
/-- a new object, told by what stands behind -/
theorem Cfg.new (c : Cfg B l H) (h : H p = none) (e : Ex H H') (hp : H' p = some o) : Cfg B ((p, o) :: l) H' := by
  refine ⟨c.ex.trans e, fun q u m => ?_, fun q u m => ?_, ?_⟩
  · rcases List.mem_cons.mp m with m | m
    · cases m; exact hp
    · exact e q u (c.own q u m)
  · rcases List.mem_cons.mp m with m | m
    · cases m
      cases hB : B p with
      | none => rfl
      | some u => rw [c.ex _ _ hB] at h; cases h
    · exact c.fr q u m
  · rw [List.map_cons]
    exact List.nodup_cons.mpr ⟨c.notin h, c.nd⟩
theorem Cfg.add (c : Cfg B l H) (h : H p = none) : Cfg B ((p, o) :: l) (upd H p o) := c.new h (Ex.new h) upd_same
/-- the object's content in the row of owned ones is exchanged -/
def put (p : Addr) (o : HO) : List Ob → List Ob
  | [] => []
  | x :: r => if x.1 = p then (p, o) :: r else x :: put p o r
theorem put_map (p : Addr) (o : HO) : ∀ l : List Ob, (put p o l).map (·.1) = l.map (·.1)
  | [] => rfl
  | x :: r => by
    unfold put
    by_cases h : x.1 = p
    · rw [if_pos h, List.map_cons, List.map_cons, h]
    · rw [if_neg h, List.map_cons, List.map_cons, put_map p o r]
theorem put_mem {p : Addr} {o : HO} : ∀ {l : List Ob} {q : Addr} {u : HO}, (l.map (·.1)).Nodup → (q, u) ∈ put p o l → (q = p ∧ u = o) ∨ (q ≠ p ∧ (q, u) ∈ l)
  | [], _, _, _, h => nomatch h
  | x :: r, q, u, nd, h => by
    unfold put at h
    rw [List.map_cons] at nd
    obtain ⟨n1, n2⟩ := List.nodup_cons.mp nd
    by_cases hx : x.1 = p
    · rw [if_pos hx] at h
      rcases List.mem_cons.mp h with h | h
      · cases h; exact Or.inl ⟨rfl, rfl⟩
      · refine Or.inr ⟨fun z => n1 ?_, List.mem_cons_of_mem _ h⟩
        rw [hx, ← z]
        exact List.mem_map.mpr ⟨(q, u), h, rfl⟩
    · rw [if_neg hx] at h
      rcases List.mem_cons.mp h with h | h
      · refine Or.inr ⟨fun z => hx ?_, by rw [h]; exact List.mem_cons_self⟩
        rw [← h, z]
      · rcases put_mem n2 h with z | ⟨z1, z2⟩
        · exact Or.inl z
        · exact Or.inr ⟨z1, List.mem_cons_of_mem _ z2⟩
theorem Cfg.put (c : Cfg B l H) (h : (p, o) ∈ l) : Cfg B (put p o' l) (upd H p o') := by
  have hB := c.fr p o h
  refine ⟨c.ex.mut hB, fun q u m => ?_, fun q u m => ?_, by rw [put_map]; exact c.nd⟩
  · rcases put_mem c.nd m with ⟨rfl, rfl⟩ | ⟨z1, z2⟩
    · exact upd_same
    · rw [upd_ne z1]; exact c.own q u z2
  · rcases put_mem c.nd m with ⟨rfl, rfl⟩ | ⟨z1, z2⟩
    · exact hB
    · exact c.fr q u z2
/-- the first owned object becomes known for good -/
theorem Cfg.keep (c : Cfg B ((p, o) :: l) H) : Cfg (upd B p o) l H ∧ Ex B (upd B p o) ∧ (upd B p o) p = some o := by
  have hp : B p = none := c.fr p o List.mem_cons_self
  have nd := c.nd
  rw [List.map_cons] at nd
  obtain ⟨n1, n2⟩ := List.nodup_cons.mp nd
  refine ⟨⟨fun a u h => ?_, fun q u m => c.own q u (List.mem_cons_of_mem _ m), fun q u m => ?_, n2⟩, Ex.new hp, upd_same⟩
  · by_cases ha : a = p
    · subst ha; rw [upd_same] at h; cases h; exact c.own _ _ List.mem_cons_self
    · rw [upd_ne ha] at h; exact c.ex a u h
  · rw [upd_ne (fun z => n1 (List.mem_map.mpr ⟨(q, u), m, z⟩))]
    exact c.fr q u (List.mem_cons_of_mem _ m)
theorem Cfg.drop (c : Cfg B ((p, o) :: l) H) : Cfg B l H := by
  have nd := c.nd
  rw [List.map_cons] at nd
  exact ⟨c.ex, fun q u m => c.own q u (List.mem_cons_of_mem _ m), fun q u m => c.fr q u (List.mem_cons_of_mem _ m), (List.nodup_cons.mp nd).2⟩
theorem Cfg.swap {p1 p2 : Addr} {o1 o2 : HO} (c : Cfg B ((p1, o1) :: (p2, o2) :: l) H) : Cfg B ((p2, o2) :: (p1, o1) :: l) H := by
  refine ⟨c.ex, fun q u m => c.own q u ?_, fun q u m => c.fr q u ?_, ?_⟩
  · rcases List.mem_cons.mp m with m | m
    · rw [m]; exact List.mem_cons_of_mem _ List.mem_cons_self
    · rcases List.mem_cons.mp m with m | m
      · rw [m]; exact List.mem_cons_self
      · exact List.mem_cons_of_mem _ (List.mem_cons_of_mem _ m)
  · rcases List.mem_cons.mp m with m | m
    · rw [m]; exact List.mem_cons_of_mem _ List.mem_cons_self
    · rcases List.mem_cons.mp m with m | m
      · rw [m]; exact List.mem_cons_self
      · exact List.mem_cons_of_mem _ (List.mem_cons_of_mem _ m)
  · exact (List.Perm.swap p2 p1 (l.map fun x : Ob => x.1)).nodup_iff.mp c.nd
/-- all owned objects become known: what is handed to a callee -/
theorem Cfg.all (c : Cfg B l H) : Cfg H [] H := Cfg.start
end

/-! ### lists, tuples, dicts where they stand -/
structure Lst (K : PySem.W.Frag) (B : Hp) (l : List Ob) (p : Addr) (xs : List V) : Prop where
  run : ∀ H, Cfg B l H → SqL K H p xs
instance {K : PySem.W.Frag} {B : Hp} {l : List Ob} {p : Addr} {xs : List V} : CoeFun (Lst K B l p xs) (fun _ => ∀ H, Cfg B l H → SqL K H p xs) := ⟨Lst.run⟩
structure Tup (K : PySem.W.Frag) (B : Hp) (l : List Ob) (p : Addr) (xs : List V) : Prop where
  run : ∀ H, Cfg B l H → SqT K H p xs
instance {K : PySem.W.Frag} {B : Hp} {l : List Ob} {p : Addr} {xs : List V} : CoeFun (Tup K B l p xs) (fun _ => ∀ H, Cfg B l H → SqT K H p xs) := ⟨Tup.run⟩
structure Std (B : Hp) (l : List Ob) (p : Addr) (o : HO) : Prop where
  run : ∀ H, Cfg B l H → H p = some o
instance {B : Hp} {l : List Ob} {p : Addr} {o : HO} : CoeFun (Std B l p o) (fun _ => ∀ H, Cfg B l H → H p = some o) := ⟨Std.run⟩
section
variable {K : PySem.W.Frag} {B : Hp} {l : List Ob} {p : Addr} {xs : List V} {o : HO}
theorem std_l (h : (p, o) ∈ l) : Std B l p o := ⟨fun H c => c.own p o h⟩
theorem std_b (h : B p = some o) : Std B l p o := ⟨fun H c => c.ex p o h⟩
theorem lst_l (h : (p, HO.lst xs) ∈ l) : Lst K B l p xs := ⟨fun H c => SqL.of (c.own p _ h)⟩
theorem lst_b (h : SqL K B p xs) : Lst K B l p xs := ⟨fun H c => ex_l c.ex h⟩
theorem lst_h (h : B p = some (.lst xs)) : Lst K B l p xs := lst_b (SqL.of h)
theorem tup_l (h : (p, HO.tup xs) ∈ l) : Tup K B l p xs := ⟨fun H c => SqT.of (c.own p _ h)⟩
theorem tup_b (h : SqT K B p xs) : Tup K B l p xs := ⟨fun H c => ex_t c.ex h⟩
theorem tup_h (h : B p = some (.tup xs)) : Tup K B l p xs := tup_b (SqT.of h)
end

/-! ### what evaluates to what -/
structure EV (X : Cx) (e : Expr) (σ : L2.St) (B : Hp) (l : List Ob) (v : V) : Prop where
  run : ∀ H, Cfg B l H → Ev (wE X e) σ H v
instance {X : Cx} {e : Expr} {σ : L2.St} {B : Hp} {l : List Ob} {v : V} : CoeFun (EV X e σ B l v) (fun _ => ∀ H, Cfg B l H → Ev (wE X e) σ H v) := ⟨EV.run⟩
structure ET (X : Cx) (e : Expr) (σ : L2.St) (B : Hp) (l : List Ob) (b : Bool) : Prop where
  run : ∀ H, Cfg B l H → EvT (wT X e) σ H b
instance {X : Cx} {e : Expr} {σ : L2.St} {B : Hp} {l : List Ob} {b : Bool} : CoeFun (ET X e σ B l b) (fun _ => ∀ H, Cfg B l H → EvT (wT X e) σ H b) := ⟨ET.run⟩
structure EW (X : Cx) (e : Expr) (σ : L2.St) (B : Hp) (l : List Ob) (b : Bool) : Prop where
  run : ∀ H, Cfg B l H → EvT (wW X e) σ H b
instance {X : Cx} {e : Expr} {σ : L2.St} {B : Hp} {l : List Ob} {b : Bool} : CoeFun (EW X e σ B l b) (fun _ => ∀ H, Cfg B l H → EvT (wW X e) σ H b) := ⟨EW.run⟩
structure EA (X : Cx) (es : List Expr) (σ : L2.St) (B : Hp) (l : List Ob) (vs : List V) : Prop where
  run : ∀ H, Cfg B l H → EvA (wA X es) σ H vs
instance {X : Cx} {es : List Expr} {σ : L2.St} {B : Hp} {l : List Ob} {vs : List V} : CoeFun (EA X es σ B l vs) (fun _ => ∀ H, Cfg B l H → EvA (wA X es) σ H vs) := ⟨EA.run⟩
section
variable {X : Cx} {e e1 e2 c : Expr} {es : List Expr} {σ : L2.St} {B : Hp} {l : List Ob} {v v1 v2 : V} {b b1 b2 : Bool} {pos : Pos} {i j : Int} {x : Str} {p : Addr} {xs vs : List V}
theorem ev_of {t : TE} (h : PE X e t) (k : ∀ H, Cfg B l H → Ev t σ H v) : EV X e σ B l v := ⟨fun H c H1 e1 Q q pins s I => h.run pins s σ H1 Q I (k H c H1 e1 Q q)⟩
theorem et_of {t : TT} (h : PT X e t) (k : ∀ H, Cfg B l H → EvT t σ H b) : ET X e σ B l b := ⟨fun H c H1 e1 Q q pins s I => h.run pins s σ H1 Q I (k H c H1 e1 Q q)⟩
theorem ew_of {t : TT} (h : PW X e t) (k : ∀ H, Cfg B l H → EvT t σ H b) : EW X e σ B l b := ⟨fun H c H1 e1 Q q wh pins s I => h.run wh pins s σ H1 Q I (k H c H1 e1 Q q)⟩
theorem ea_of {t : TA} (h : PA X es t) (k : ∀ H, Cfg B l H → EvA t σ H vs) : EA X es σ B l vs := ⟨fun H c H1 e1 Q q pos pins s I => h.run pos pins s σ H1 Q I (k H c H1 e1 Q q)⟩
/-- a value, then on -/
theorem go (h : EV X e σ B l v) {H : Hp} (c : Cfg B l H) {Q : VK} (k : ∀ H1, Ex H H1 → Cfg B l H1 → Q v H1) : wE X e σ H Q := h H c H (Ex.refl H) Q fun H1 e => k H1 e (c.mono e)
theorem goT (h : ET X e σ B l b) {H : Hp} (c : Cfg B l H) {Q : Bool → Hp → Prop} (k : ∀ H1, Ex H H1 → Cfg B l H1 → Q b H1) : wT X e σ H Q := h H c H (Ex.refl H) Q fun H1 e => k H1 e (c.mono e)
theorem goA (h : EA X es σ B l vs) {H : Hp} (c : Cfg B l H) {Q : List V → Hp → Prop} (k : ∀ H1, Ex H H1 → Cfg B l H1 → Q vs H1) : wA X es σ H Q := h H c H (Ex.refl H) Q fun H1 e => k H1 e (c.mono e)
theorem EV.is (h : EV X e σ B l v) (q : v = v1) : EV X e σ B l v1 := q ▸ h
theorem ET.is (h : ET X e σ B l b) (q : b = b1) : ET X e σ B l b1 := q ▸ h

/-- a name of the def: its place, that it is seen -/
structure Slot (X : Cx) (i : Nat) (x : Str) : Prop where
  n : X.N[i]? = some x
  v : Vis X.env.scope x
  d : (x == ("__debug__" : Str)) = false
  d2 : (x == ("__classdict__" : Str)) = false
theorem e_slot {i : Nat} (n : Slot X i x) (h : σ[i]? = some (some v)) : EV X (.Name x pos) σ B l v := ev_of (pe_var n.n n.v n.d n.d2) fun H c => ev_var h
theorem e_int {j pos} : EV X (.Constant (.int i) j pos) σ B l (.int i) := ev_of pe_int fun H c => ev_c
theorem e_bl {j pos} : EV X (.Constant (.bool b) j pos) σ B l (.bl b) := ev_of pe_bl fun H c => ev_c
theorem e_non {j pos} : EV X (.Constant .none j pos) σ B l .non := ev_of pe_non fun H c => ev_c
theorem e_str {z j pos} : EV X (.Constant (.str z) j pos) σ B l (.str z) := ev_of pe_str fun H c => ev_c
theorem e_add (h1 : EV X e1 σ B l (.int i)) (h2 : EV X e2 σ B l (.int j)) : EV X (.BinOp e1 .Add e2 pos) σ B l (.int (i + j)) := ev_of (pe_op op_add pE pE) fun H c => ev_op (h1 H c) (h2 H c) rv_I0
theorem e_sub (h1 : EV X e1 σ B l (.int i)) (h2 : EV X e2 σ B l (.int j)) : EV X (.BinOp e1 .Sub e2 pos) σ B l (.int (i - j)) := ev_of (pe_op op_sub pE pE) fun H c => ev_op (h1 H c) (h2 H c) rv_I0
/-- a factor below 2 ^ 64, or both of together less than a million bits -/
theorem e_mul (h1 : EV X e1 σ B l (.int i)) (h2 : EV X e2 σ B l (.int j)) (hc : CMul i j ∨ CMulW i j) : EV X (.BinOp e1 .Mult e2 pos) σ B l (.int (i * j)) := by
  rcases hc with hc | hc
  · exact ev_of (pe_op op_mul pE pE) fun H c => ev_op (h1 H c) (h2 H c) (rv_I hc)
  · exact ev_of (pe_op op_mulW pE pE) fun H c => ev_op (h1 H c) (h2 H c) (rv_I hc)
theorem e_mod (h1 : EV X e1 σ B l (.int i)) (h2 : EV X e2 σ B l (.int j)) (hc : 0 < j) : EV X (.BinOp e1 .Mod e2 pos) σ B l (.int (i % j)) := ev_of (pe_op op_mod pE pE) fun H c => ev_op (h1 H c) (h2 H c) (rv_I hc)
theorem e_fdiv (h1 : EV X e1 σ B l (.int i)) (h2 : EV X e2 σ B l (.int j)) (hc : CDivW i j) : EV X (.BinOp e1 .FloorDiv e2 pos) σ B l (.int (i / j)) := ev_of (pe_op op_fdivW pE pE) fun H c => ev_op (h1 H c) (h2 H c) (rv_I hc)
theorem e_pow (h1 : EV X e1 σ B l (.int i)) (h2 : EV X e2 σ B l (.int j)) (hc : 0 ≤ j ∧ (Builtin.Int.intBits i : Int) * j ≤ 2 ^ 27) : EV X (.BinOp e1 .Pow e2 pos) σ B l (.int (i ^ j.toNat)) :=
  ev_of (pe_op (r := rI (fun i j => 0 ≤ j ∧ (Builtin.Int.intBits i : Int) * j ≤ 2 ^ 27) fun i j => .int (i ^ j.toNat)) (opI fun _ _ _ _ _ _ _ hc q => PyProof.Rows.pow_int hc.1 hc.2 q) pE pE) fun H c => ev_op (h1 H c) (h2 H c) (rv_I hc)
theorem e_neg (h1 : EV X e1 σ B l (.int i)) : EV X (.UnaryOp .USub e1 pos) σ B l (.int (-i)) := ev_of (pe_un un_neg pE) fun H c => ev_un (h1 H c) ru_neg
theorem e_adds {y z : Str} (h1 : EV X e1 σ B l (.str y)) (h2 : EV X e2 σ B l (.str z)) (hl : y.length + z.length ≤ sizeLine) : EV X (.BinOp e1 .Add e2 pos) σ B l (.str (y ++ z)) :=
  ev_of (pe_op op_add_str pE pE) fun H c => ev_op (h1 H c) (h2 H c) fun H1 _ Q q => ⟨y, z, rfl, rfl, hl, q H1 (Ex.refl H1)⟩
/-! comparisons -/
def wC (X : Cx) (op : CmpOp) (a b : Expr) : TE := fun σ H Q => ∀ pins s, Inv X pins σ H s →
  wpAny (model X.prog X.w) X.A (eval a X.env) (fun v s₁ => wpAny (model X.prog X.w) X.A (eval b X.env) (fun u s₂ => wpAny (model X.prog X.w) X.A (compareOp op v u) (EP X pins σ Q) X.xe s₂) X.xe s₁) X.xe s
theorem pC {op : CmpOp} {a b : Expr} : PC X op a b (wC X op a b) := ⟨fun pins s σ H Q I h => h pins s I⟩
theorem pc_R {op : CmpOp} {a b : Expr} {r : R2} {ta tb : TE} (ho : OpR X (compareOp op) r) (ha : PE X a ta) (hb : PE X b tb) : PC X op a b (tOp r ta tb) := ⟨fun pins s σ H Q I h => by
  refine bin ha hb I h fun v u s2 x y H2 I2 rx ry q => ?_
  exact ho pins s2 σ H2 x y v u Q I2 rx ry q⟩
/-- a comparison, as a value or as a test -/
structure EC (X : Cx) (op : CmpOp) (e1 e2 : Expr) (σ : L2.St) (B : Hp) (l : List Ob) (b : Bool) : Prop where
  run : ∀ H, Cfg B l H → Ev (wC X op e1 e2) σ H (.bl b)
instance {X : Cx} {op : CmpOp} {e1 e2 : Expr} {σ : L2.St} {B : Hp} {l : List Ob} {b : Bool} : CoeFun (EC X op e1 e2 σ B l b) (fun _ => ∀ H, Cfg B l H → Ev (wC X op e1 e2) σ H (.bl b)) := ⟨EC.run⟩
theorem ec_of {op : CmpOp} {t : TE} (h : PC X op e1 e2 t) (k : ∀ H, Cfg B l H → Ev t σ H (.bl b)) : EC X op e1 e2 σ B l b := ⟨fun H c H1 x1 Q q pins s I => h.run pins s σ H1 Q I (k H c H1 x1 Q q)⟩
theorem e_cmp {op : CmpOp} (h : EC X op e1 e2 σ B l b) (h1 : behindInMarks op e2 = false := by first | exact nobehind _ (by decide) (by decide) | rfl) : EV X (.Compare e1 [op] [e2] pos) σ B l (.bl b) := ev_of (pe_cmp pC h1) fun H c => h H c
theorem t_cmp {op : CmpOp} (h : EC X op e1 e2 σ B l b) (h1 : behindInMarks op e2 = false := by first | exact nobehind _ (by decide) (by decide) | rfl) : ET X (.Compare e1 [op] [e2] pos) σ B l b := et_of (pt_cmp pC h1) fun H c => et_B (h H c)
theorem ec_R {op : CmpOp} {r : R2} (ho : OpR X (compareOp op) r) (h1 : EV X e1 σ B l v1) (h2 : EV X e2 σ B l v2) (hr : ∀ H, Cfg B l H → RV r v1 v2 H (.bl b)) : EC X op e1 e2 σ B l b := ec_of (pc_R ho pE pE) fun H c => ev_op (h1 H c) (h2 H c) (hr H c)
theorem EC.is {op : CmpOp} (h : EC X op e1 e2 σ B l b) (q : b = b1) : EC X op e1 e2 σ B l b1 := q ▸ h
theorem dcI {i j : Int} : decide (V.int i = V.int j) = decide (i = j) := decide_eq_decide.mpr ⟨fun h => V.int.inj h, fun h => by rw [h]⟩
theorem dcS {i j : Str} : decide (V.str i = V.str j) = decide (i = j) := decide_eq_decide.mpr ⟨fun h => V.str.inj h, fun h => by rw [h]⟩
theorem c_eqI (h1 : EV X e1 σ B l (.int i)) (h2 : EV X e2 σ B l (.int j)) : EC X .Eq e1 e2 σ B l (decide (i = j)) := (ec_R op_eq h1 h2 fun H c => rv_eq rfl).is dcI
theorem c_neI (h1 : EV X e1 σ B l (.int i)) (h2 : EV X e2 σ B l (.int j)) : EC X .NotEq e1 e2 σ B l (!decide (i = j)) := (ec_R op_ne h1 h2 fun H c => rv_ne rfl).is (by rw [dcI])
theorem c_eqS {y z : Str} (h1 : EV X e1 σ B l (.str y)) (h2 : EV X e2 σ B l (.str z)) : EC X .Eq e1 e2 σ B l (decide (y = z)) := (ec_R op_eq h1 h2 fun H c => rv_eq rfl).is dcS
theorem c_neS {y z : Str} (h1 : EV X e1 σ B l (.str y)) (h2 : EV X e2 σ B l (.str z)) : EC X .NotEq e1 e2 σ B l (!decide (y = z)) := (ec_R op_ne h1 h2 fun H c => rv_ne rfl).is (by rw [dcS])
theorem c_eqV (h1 : EV X e1 σ B l v1) (h2 : EV X e2 σ B l v2) (hs : scal v1 v2 = true) : EC X .Eq e1 e2 σ B l (decide (v1 = v2)) := ec_R op_eq h1 h2 fun H c => rv_eq hs
theorem c_neV (h1 : EV X e1 σ B l v1) (h2 : EV X e2 σ B l v2) (hs : scal v1 v2 = true) : EC X .NotEq e1 e2 σ B l (!decide (v1 = v2)) := ec_R op_ne h1 h2 fun H c => rv_ne hs
theorem c_lt (h1 : EV X e1 σ B l (.int i)) (h2 : EV X e2 σ B l (.int j)) : EC X .Lt e1 e2 σ B l (decide (i < j)) := ec_R op_lt h1 h2 fun H c => rv_I0
theorem c_le (h1 : EV X e1 σ B l (.int i)) (h2 : EV X e2 σ B l (.int j)) : EC X .LtE e1 e2 σ B l (decide (i ≤ j)) := ec_R op_le h1 h2 fun H c => rv_I0
theorem c_gt (h1 : EV X e1 σ B l (.int i)) (h2 : EV X e2 σ B l (.int j)) : EC X .Gt e1 e2 σ B l (decide (j < i)) := ec_R op_gt h1 h2 fun H c => rv_I0
theorem c_ge (h1 : EV X e1 σ B l (.int i)) (h2 : EV X e2 σ B l (.int j)) : EC X .GtE e1 e2 σ B l (decide (j ≤ i)) := ec_R op_ge h1 h2 fun H c => rv_I0
theorem c_isN {j' p'} (h1 : EV X e1 σ B l v) : EC X .Is e1 (.Constant .none j' p') σ B l (decide (v = .non)) := ec_of (pc_R op_isN pE pe_non) fun H c => ev_op (h1 H c) ev_c fun H1 _ Q q => ⟨rfl, q H1 (Ex.refl H1)⟩
theorem c_notN {j' p'} (h1 : EV X e1 σ B l v) : EC X .IsNot e1 (.Constant .none j' p') σ B l (!decide (v = .non)) := ec_of (pc_R op_notN pE pe_non) fun H c => ev_op (h1 H c) ev_c fun H1 _ Q q => ⟨rfl, q H1 (Ex.refl H1)⟩
/-- x in d -/
theorem c_inD {k : Key} {kvs : List (Key × V)} (hu : X.A.units + 1 < cLine) (h1 : EV X e1 σ B l (kV k)) (h2 : EV X e2 σ B l (.ref p)) (hd : Std B l p (.dK kvs)) : EC X .In e1 e2 σ B l (valV kvs k).isSome :=
  ec_of (pc_din hu pE pE) fun H c H1 x1 Q q => h1 H c H1 x1 _ fun H2 x2 => h2 H c H2 (x1.trans x2) _ fun H3 x3 => ⟨p, _, rfl, DGet.k (((x1.trans x2).trans x3) _ _ (hd H c)), q H3 (x2.trans x3)⟩
theorem c_ninD {k : Key} {kvs : List (Key × V)} (hu : X.A.units + 1 < cLine) (h1 : EV X e1 σ B l (kV k)) (h2 : EV X e2 σ B l (.ref p)) (hd : Std B l p (.dK kvs)) : EC X .NotIn e1 e2 σ B l (!(valV kvs k).isSome) :=
  ec_of (pc_dnotin hu pE pE) fun H c H1 x1 Q q => h1 H c H1 x1 _ fun H2 x2 => h2 H c H2 (x1.trans x2) _ fun H3 x3 => ⟨p, _, rfl, DGet.k (((x1.trans x2).trans x3) _ _ (hd H c)), q H3 (x2.trans x3)⟩
/-- x in xs -/
theorem c_inL (h1 : EV X e1 σ B l v) (h2 : EV X e2 σ B l (.ref p)) (hd : Lst X.K B l p xs) (hx : flatV v = true) (hf : xs.all flatV = true) : EC X .In e1 e2 σ B l (inV v xs) := ec_R op_in_seq h1 h2 fun H c => rv_isL (hd H c) hx hf
theorem c_ninL (h1 : EV X e1 σ B l v) (h2 : EV X e2 σ B l (.ref p)) (hd : Lst X.K B l p xs) (hx : flatV v = true) (hf : xs.all flatV = true) : EC X .NotIn e1 e2 σ B l (!inV v xs) := ec_R op_notIn_seq h1 h2 fun H c => rv_niL (hd H c) hx hf
theorem c_inT (h1 : EV X e1 σ B l v) (h2 : EV X e2 σ B l (.ref p)) (hd : Tup X.K B l p xs) (hx : flatV v = true) (hf : xs.all flatV = true) : EC X .In e1 e2 σ B l (inV v xs) := ec_R op_in_seq h1 h2 fun H c => rv_isT (hd H c) hx hf
theorem c_ninT (h1 : EV X e1 σ B l v) (h2 : EV X e2 σ B l (.ref p)) (hd : Tup X.K B l p xs) (hx : flatV v = true) (hf : xs.all flatV = true) : EC X .NotIn e1 e2 σ B l (!inV v xs) := ec_R op_notIn_seq h1 h2 fun H c => rv_niT (hd H c) hx hf
/-- one sign in a text -/
theorem c_inS {k : Nat} {z : Str} (h1 : EV X e1 σ B l (.str ⟨#[k]⟩)) (h2 : EV X e2 σ B l (.str z)) : EC X .In e1 e2 σ B l (decide (k ∈ z.cps.toList)) := ec_R op_in_sign h1 h2 fun H c H1 _ Q q => ⟨k, z, rfl, rfl, q H1 (Ex.refl H1)⟩
theorem c_ninS {k : Nat} {z : Str} (h1 : EV X e1 σ B l (.str ⟨#[k]⟩)) (h2 : EV X e2 σ B l (.str z)) : EC X .NotIn e1 e2 σ B l (!decide (k ∈ z.cps.toList)) := ec_R op_notIn_sign h1 h2 fun H c H1 _ Q q => ⟨k, z, rfl, rfl, q H1 (Ex.refl H1)⟩
/-! truth -/
theorem e_not (h1 : EV X e1 σ B l (.bl b)) : EV X (.UnaryOp .Not e1 pos) σ B l (.bl (!b)) := ev_of (pe_not pE) fun H c => ev_notV (h1 H c)
theorem e_and (h1 : EV X e1 σ B l (.bl b1)) (h2 : b1 = true → EV X e2 σ B l (.bl b2)) : EV X (.BoolOp .And [e1, e2] pos) σ B l (.bl (b1 && b2)) := ev_of (pe_and pE (pe_one pE)) fun H c => ev_andV (h1 H c) fun t => h2 t H c
theorem e_or (h1 : EV X e1 σ B l (.bl b1)) (h2 : b1 = false → EV X e2 σ B l (.bl b2)) : EV X (.BoolOp .Or [e1, e2] pos) σ B l (.bl (b1 || b2)) := ev_of (pe_or pE (pe_one pE)) fun H c => ev_orV (h1 H c) fun t => h2 t H c
theorem e_and3 {e3 : Expr} {b3 : Bool} (h1 : EV X e1 σ B l (.bl b1)) (h2 : b1 = true → EV X e2 σ B l (.bl b2)) (h3 : b1 = true → b2 = true → EV X e3 σ B l (.bl b3)) : EV X (.BoolOp .And [e1, e2, e3] pos) σ B l (.bl (b1 && (b2 && b3))) :=
  ev_of (pe_and pE (pe_and pE (pe_one pE))) fun H c => ev_andV (h1 H c) fun t => ev_andV (h2 t H c) fun u => h3 t u H c
theorem e_or3 {e3 : Expr} {b3 : Bool} (h1 : EV X e1 σ B l (.bl b1)) (h2 : b1 = false → EV X e2 σ B l (.bl b2)) (h3 : b1 = false → b2 = false → EV X e3 σ B l (.bl b3)) : EV X (.BoolOp .Or [e1, e2, e3] pos) σ B l (.bl (b1 || (b2 || b3))) :=
  ev_of (pe_or pE (pe_or pE (pe_one pE))) fun H c => ev_orV (h1 H c) fun t => ev_orV (h2 t H c) fun u => h3 t u H c
theorem t_val (h : EV X e σ B l (.bl b)) (he : ∀ whole, isTrue e X.env whole = (do let v ← whole; standAt e.pos; holding [v] (truthy v)) := by intro _; rfl) : ET X e σ B l b := et_of (pt_val pE he) fun H c => et_B (h H c)
theorem t_not (h : ET X e σ B l b) : ET X (.UnaryOp .Not e pos) σ B l (!b) := et_of (pt_not pT) fun H c => et_not (h H c)
theorem t_and (h1 : ET X e1 σ B l b1) (h2 : b1 = true → ET X e2 σ B l b2) : ET X (.BoolOp .And [e1, e2] pos) σ B l (b1 && b2) := et_of (PW.pt (pw_and pT (pw_and1 pT))) fun H c => et_and (h1 H c) fun t => h2 t H c
theorem t_or (h1 : ET X e1 σ B l b1) (h2 : b1 = false → ET X e2 σ B l b2) : ET X (.BoolOp .Or [e1, e2] pos) σ B l (b1 || b2) := et_of (PW.pt (pw_or pT (pw_or1 pT))) fun H c => et_or (h1 H c) fun t => h2 t H c
theorem t_and3 {e3 : Expr} {b3 : Bool} (h1 : ET X e1 σ B l b1) (h2 : b1 = true → ET X e2 σ B l b2) (h3 : b1 = true → b2 = true → ET X e3 σ B l b3) : ET X (.BoolOp .And [e1, e2, e3] pos) σ B l (b1 && (b2 && b3)) :=
  et_of (PW.pt (pw_and pT (pw_and pT (pw_and1 pT)))) fun H c => et_and (h1 H c) fun t => et_and (h2 t H c) fun u => h3 t u H c
theorem t_or3 {e3 : Expr} {b3 : Bool} (h1 : ET X e1 σ B l b1) (h2 : b1 = false → ET X e2 σ B l b2) (h3 : b1 = false → b2 = false → ET X e3 σ B l b3) : ET X (.BoolOp .Or [e1, e2, e3] pos) σ B l (b1 || (b2 || b3)) :=
  et_of (PW.pt (pw_or pT (pw_or pT (pw_or1 pT)))) fun H c => et_or (h1 H c) fun t => et_or (h2 t H c) fun u => h3 t u H c
/-- a if t else b -/
theorem e_ifT {a1 a2 : Expr} (h : ET X c σ B l true) (h1 : EV X a1 σ B l v) : EV X (.IfExp c a1 a2 pos) σ B l v := ev_of (pe_ifExp pT pE pE) fun H k => ev_if (h H k) (fun _ => h1 H k) fun z => nomatch z
theorem e_ifF {a1 a2 : Expr} (h : ET X c σ B l false) (h2 : EV X a2 σ B l v) : EV X (.IfExp c a1 a2 pos) σ B l v := ev_of (pe_ifExp pT pE pE) fun H k => ev_if (h H k) (fun z => nomatch z) fun _ => h2 H k
theorem e_if {a1 a2 : Expr} (h : ET X c σ B l b) (h1 : b = true → EV X a1 σ B l v1) (h2 : b = false → EV X a2 σ B l v2) : EV X (.IfExp c a1 a2 pos) σ B l (if b = true then v1 else v2) := by
  cases b with
  | true => exact e_ifT h (h1 rfl)
  | false => exact e_ifF h (h2 rfl)
/-! items -/
theorem e_ixL (h1 : EV X e1 σ B l (.ref p)) (h2 : EV X e2 σ B l (.int i)) (hl : Lst X.K B l p xs) (ha : atI xs i = some v) (hs : PlainIx e2 := by exact fun _ _ => rfl) : EV X (.Subscript e1 e2 pos) σ B l v := ev_of (pe_ix ix_list pE pE hs) fun H c => ev_op (h1 H c) (h2 H c) (rv_ixL (hl H c) ha)
theorem e_ixT (h1 : EV X e1 σ B l (.ref p)) (h2 : EV X e2 σ B l (.int i)) (hl : Tup X.K B l p xs) (ha : atI xs i = some v) (hs : PlainIx e2 := by exact fun _ _ => rfl) : EV X (.Subscript e1 e2 pos) σ B l v := ev_of (pe_ix ix_tup pE pE hs) fun H c => ev_op (h1 H c) (h2 H c) (rv_ixT (hl H c) ha)
theorem e_ixS {z : Str} {k : Nat} (h1 : EV X e1 σ B l (.str z)) (h2 : EV X e2 σ B l (.int i)) (hl : z.length ≤ sizeLine) (ha : atI z.cps.toList i = some k) (hs : PlainIx e2 := by exact fun _ _ => rfl) : EV X (.Subscript e1 e2 pos) σ B l (.str ⟨#[k]⟩) :=
  ev_of (pe_ix ix_str pE pE hs) fun H c => ev_op (h1 H c) (h2 H c) fun H1 _ Q q => ⟨z, i, k, rfl, rfl, hl, ha, q H1 (Ex.refl H1)⟩
theorem e_ixD {k : Key} {kvs : List (Key × V)} (hu : X.A.units + 1 < cLine) (h1 : EV X e1 σ B l (.ref p)) (h2 : EV X e2 σ B l (kV k)) (hd : Std B l p (.dK kvs)) (hv : valV kvs k = some v) (hs : NoSl e2 := by exact fun _ _ => rfl) : EV X (.Subscript e1 e2 pos) σ B l v :=
  ev_of (pe_dget hu pE pE hs) fun H c H1 x1 Q q => h1 H c H1 x1 _ fun H2 x2 => h2 H c H2 (x1.trans x2) _ fun H3 x3 => ⟨p, v, rfl, by rw [← hv]; exact DGet.k (((x1.trans x2).trans x3) _ _ (hd H c)), q H3 (x2.trans x3)⟩
/-! arguments -/
theorem a_nil : EA X [] σ B l [] := ea_of pa_nil fun H c => ea_nil
theorem a_cons (h : EV X e σ B l v) (hr : EA X es σ B l vs) (hs : starEach (e :: es) X.env = (false, eval e X.env) :: starEach es X.env := by rfl) : EA X (e :: es) σ B l (v :: vs) := ea_of (pa_cons pE pA hs) fun H c => ea_cons (h H c) (hr H c)
theorem e_callB {id : String} {r : List V → Hp → VK → Prop} (hc : CallR X (.builtin id) r) (hg : Gl X x) (hm : X.mg x = none) (hv : bootBuiltins x = some (.builtin id)) (ha : EA X (e :: es) σ B l vs) (hr : ∀ H, Cfg B l H → RC r vs H v) (hn : x ≠ "__name__") (hdb : (x == ("__debug__" : Str)) = false)
    (he : starEach (e :: es) X.env = (false, eval e X.env) :: starEach es X.env) (hpl : (backTo pos (starEach es X.env)).any (·.1) = false) {p' : Pos} : EV X (.Call (.Name x p') (e :: es) [] pos) σ B l v :=
  ev_of (pe_callB hc hg hm hv pA hn hdb he hpl) fun H c => ev_cb (ha H c) (hr H c)
theorem e_callTy {T : String} {r : List V → Hp → VK → Prop} (hc : CallR X (.type T) r) (hg : Gl X x) (hm : X.mg x = none) (hv : bootBuiltins x = some (.type T)) (ha : EA X (e :: es) σ B l vs) (hr : ∀ H, Cfg B l H → RC r vs H v) (hn : x ≠ "__name__") (hdb : (x == ("__debug__" : Str)) = false)
    (he : starEach (e :: es) X.env = (false, eval e X.env) :: starEach es X.env) (hpl : (backTo pos (starEach es X.env)).any (·.1) = false) {p' : Pos} : EV X (.Call (.Name x p') (e :: es) [] pos) σ B l v :=
  ev_of (pe_callTy hc hg hm hv pA hn hdb he hpl) fun H c => ev_cb (ha H c) (hr H c)
end
end QW
/-! QW2: statements, loops, comprehensions, defs and their calls. -/
namespace QW
open PySem L2 Evl

/-- a def's own name: where it may be stored too -/
structure Own (X : Cx) (i : Nat) (x : Str) : Prop where
  s : Slot X i x
  l : Loc X.env.scope x
  f : X.fn x = true
  nd : X.N.Nodup
section
variable {X : Cx} {e e1 e2 c o : Expr} {es : List Expr} {rest body els : List Stmt} {σ : L2.St} {H : Hp} {B : Hp} {l : List Ob} {v v1 v2 : V} {b b1 b2 : Bool} {pos pos' tpos : Pos} {i j : Nat} {x y : Str} {p : Addr} {xs vs : List V} {D : Ends}
theorem e_own (n : Own X i x) (h : σ[i]? = some (some v)) : EV X (.Name x pos) σ B l v := e_slot n.s h

theorem s_nil (h : D.nx σ H) : wSs X [] D σ H := wSs_of pss_nil h
theorem s_of {st : Stmt} {t : TS} (h : PS X st t) (q : t { D with nx := wSs X rest D } σ H) : wSs X (st :: rest) D σ H := wSs_of (pss_cons h pSs) q
theorem s_set (n : Own X i x) (h : wE X e σ H fun v H1 => wSs X rest D (σ.set i (some v)) H1) (hs : swapsWith e (some (.Name x pos')) pos.line X.env = pure false := by rfl) : wSs X (.Assign [.Name x pos'] e pos :: rest) D σ H :=
  s_of (ps_set n.nd n.s.n n.l pE hs (.inl n.f)) h
/-- x = e, e a value -/
theorem s_setV (n : Own X i x) (c : Cfg B l H) (h : EV X e σ B l v) (k : ∀ H1, Ex H H1 → Cfg B l H1 → wSs X rest D (σ.set i (some v)) H1) (hs : swapsWith e (some (.Name x pos')) pos.line X.env = pure false := by rfl) : wSs X (.Assign [.Name x pos'] e pos :: rest) D σ H :=
  s_set n (go h c k) hs
theorem s_ret (h : wE X e σ H D.rt) : wSs X (.Return (some e) pos :: rest) D σ H := s_of (ps_ret pE) h
theorem s_retV (c : Cfg B l H) (h : EV X e σ B l v) (k : ∀ H1, Ex H H1 → Cfg B l H1 → D.rt v H1) : wSs X (.Return (some e) pos :: rest) D σ H := s_ret (go h c k)
theorem s_retN (h : D.rt .non H) : wSs X (.Return none pos :: rest) D σ H := s_of ps_retN h
theorem s_expr (h : wE X e σ H fun _ H1 => wSs X rest D σ H1) (hs : swapsWith e none pos.line X.env = pure false := by rfl) : wSs X (.Expr e pos :: rest) D σ H := s_of (ps_expr pE hs) h
theorem s_if (h : wT X c σ H fun b H1 => if b = true then wSs X body { D with nx := wSs X rest D } σ H1 else wSs X els { D with nx := wSs X rest D } σ H1) : wSs X (.If c body els pos :: rest) D σ H := s_of (ps_if pT pSs pSs) h
/-- if, its test's answer told -/
theorem s_ifV {cc : Expr} (c : Cfg B l H) (h : ET X cc σ B l b) (h1 : b = true → ∀ H1, Ex H H1 → Cfg B l H1 → wSs X body { D with nx := wSs X rest D } σ H1) (h2 : b = false → ∀ H1, Ex H H1 → Cfg B l H1 → wSs X els { D with nx := wSs X rest D } σ H1) : wSs X (.If cc body els pos :: rest) D σ H :=
  s_if (goT h c fun H1 e k => by
    cases b with
    | true => exact h1 rfl H1 e k
    | false => exact h2 rfl H1 e k)
theorem s_ifT {cc : Expr} (c : Cfg B l H) (h : ET X cc σ B l true) (h1 : ∀ H1, Ex H H1 → Cfg B l H1 → wSs X body { D with nx := wSs X rest D } σ H1) : wSs X (.If cc body els pos :: rest) D σ H := s_ifV c h (fun _ => h1) fun z => nomatch z
theorem s_ifF {cc : Expr} (c : Cfg B l H) (h : ET X cc σ B l false) (h1 : ∀ H1, Ex H H1 → Cfg B l H1 → wSs X els { D with nx := wSs X rest D } σ H1) : wSs X (.If cc body els pos :: rest) D σ H := s_ifV c h (fun z => nomatch z) fun _ => h1
theorem s_pass (h : wSs X rest D σ H) : wSs X (.Pass pos :: rest) D σ H := s_of ps_pass h
theorem s_break (h : D.bk σ H) : wSs X (.Break pos :: rest) D σ H := s_of ps_break h
/-- x op= e -/
theorem s_aug {op : Operator} {ti : TIp} (n : Own X i x) (ho : PIp X op ti) (hx : σ[i]? = some (some v)) (h : wE X e σ H fun y H1 => ti v y H1 fun z H2 => wSs X rest D (σ.set i (some z)) H2) : wSs X (.AugAssign (.Name x pos') op e pos :: rest) D σ H :=
  s_of (ps_aug n.nd n.s.n n.l pE ho (.inl n.f)) ⟨v, hx, h⟩
theorem s_augI {f : Int → Int → Int} {op : Operator} {a k : Int} (n : Own X i x) (c : Cfg B l H) (ho : PIp X op (ipI f)) (hx : σ[i]? = some (some (.int a))) (h : EV X e σ B l (.int k)) (q : ∀ H1, Ex H H1 → Cfg B l H1 → wSs X rest D (σ.set i (some (.int (f a k)))) H1) :
    wSs X (.AugAssign (.Name x pos') op e pos :: rest) D σ H := s_aug n ho hx (go h c fun H1 e1 c1 => ⟨a, k, rfl, rfl, q H1 e1 c1⟩)
theorem ip_mul : PIp X .Mult (fun x y H Q => ∃ i j, x = .int i ∧ y = .int j ∧ (CMul i j ∨ CMulW i j) ∧ Q (.int (i * j)) H) := by
  intro pins s σ H x y v u Q I r1 r2 h
  obtain ⟨i, j, rfl, rfl, hc, q⟩ := h
  obtain ⟨t, rfl⟩ := r1
  obtain ⟨t', rfl⟩ := r2
  have ok : IntMulOk i j := hc.elim (fun h => h.ok) fun h => h.ok
  exact PyProof.Rows.imul_int ⟨.int _, H, I.tok _, ⟨_, rfl⟩, q⟩ ok
theorem s_mulI {a k : Int} (n : Own X i x) (c : Cfg B l H) (hx : σ[i]? = some (some (.int a))) (h : EV X e σ B l (.int k)) (hc : CMul a k ∨ CMulW a k) (q : ∀ H1, Ex H H1 → Cfg B l H1 → wSs X rest D (σ.set i (some (.int (a * k)))) H1) :
    wSs X (.AugAssign (.Name x pos') .Mult e pos :: rest) D σ H := s_aug n ip_mul hx (go h c fun H1 e1 c1 => ⟨a, k, rfl, rfl, hc, q H1 e1 c1⟩)
theorem ip_adds : PIp X .Add (fun x y H Q => ∃ i j, x = .str i ∧ y = .str j ∧ i.length + j.length ≤ sizeLine ∧ Q (.str (i ++ j)) H) := by
  intro pins s σ H x y v u Q I r1 r2 h
  exact iop_add_str pins s σ H x y v u Q I r1 r2 h
theorem s_addS {a k : Str} (n : Own X i x) (c : Cfg B l H) (hx : σ[i]? = some (some (.str a))) (h : EV X e σ B l (.str k)) (hc : a.length + k.length ≤ sizeLine) (q : ∀ H1, Ex H H1 → Cfg B l H1 → wSs X rest D (σ.set i (some (.str (a ++ k)))) H1) :
    wSs X (.AugAssign (.Name x pos') .Add e pos :: rest) D σ H := s_aug n ip_adds hx (go h c fun H1 e1 c1 => ⟨a, k, rfl, rfl, hc, q H1 e1 c1⟩)

/-! ### new objects -/
theorem n_lst {Q : VK} (c : Cfg B l H) (h : EA X es σ B l vs) (hz : vs.length ≤ 100000) (k : ∀ p H1, Ex H H1 → Cfg B ((p, .lst vs) :: l) H1 → Q (.ref p) H1) : wE X (.List es pos) σ H Q :=
  wE_of (pe_lst pA) (goA h c fun H1 e1 c1 => ⟨sz_of hz, fun p hp => k p _ (e1.trans (Ex.new hp)) (c1.add hp)⟩)
theorem n_tup {Q : VK} {k' : Nat} (c : Cfg B l H) (h : EA X es σ B l vs) (hz : vs.length ≤ 100000) (k : ∀ p H1, Ex H H1 → Cfg B ((p, .tup vs) :: l) H1 → Q (.ref p) H1) : wE X (.Tuple es k' pos) σ H Q :=
  wE_of (pe_tup pA) (goA h c fun H1 e1 c1 => ⟨sz_of hz, fun p hp => k p _ (e1.trans (Ex.new hp)) (c1.add hp)⟩)
theorem n_dict {Q : VK} (c : Cfg B l H) (k : ∀ p H1, Ex H H1 → Cfg B ((p, .dK []) :: l) H1 → Q (.ref p) H1) : wE X (.Dict [] [] pos) σ H Q :=
  wE_of pe_dnewK fun p hp => k p _ (Ex.new hp) (c.add hp)
/-- expressions in general: the parts first -/
theorem w_op {op : Operator} {r : R2} {Q : VK} (ho : OpR X (binaryOp op) r) (h : wE X e1 σ H fun a H1 => wE X e2 σ H1 fun b H2 => r a b H2 Q) : wE X (.BinOp e1 op e2 pos) σ H Q := wE_of (pe_op ho pE pE) h
theorem w_ix {r : R2} {Q : VK} (ho : IxR X r) (h : wE X e1 σ H fun a H1 => wE X e2 σ H1 fun b H2 => r a b H2 Q) (hs : PlainIx e2 := by exact fun _ _ => rfl) : wE X (.Subscript e1 e2 pos) σ H Q := wE_of (pe_ix ho pE pE hs) h
theorem w_acons {Q : List V → Hp → Prop} (h : wE X e σ H fun a H1 => wA X es σ H1 fun r H2 => Q (a :: r) H2) (hs : starEach (e :: es) X.env = (false, eval e X.env) :: starEach es X.env := by rfl) : wA X (e :: es) σ H Q := wA_of (pa_cons pE pA hs) h
theorem w_anil {Q : List V → Hp → Prop} (h : Q [] H) : wA X [] σ H Q := wA_of pa_nil h
theorem w_lst' {Q : VK} (h : wA X es σ H fun vs H1 => vs.length ≤ sizeLine ∧ ∀ p, H1 p = none → Q (.ref p) (upd H1 p (.lst vs))) : wE X (.List es pos) σ H Q := wE_of (pe_lst pA) h
theorem w_tup' {Q : VK} {k' : Nat} (h : wA X es σ H fun vs H1 => vs.length ≤ sizeLine ∧ ∀ p, H1 p = none → Q (.ref p) (upd H1 p (.tup vs))) : wE X (.Tuple es k' pos) σ H Q := wE_of (pe_tup pA) h
theorem w_callB {Q : VK} {id : String} {r : List V → Hp → VK → Prop} (hc : CallR X (.builtin id) r) (hg : Gl X x) (hm : X.mg x = none) (hv : bootBuiltins x = some (.builtin id)) (h : wA X (e :: es) σ H fun vs H1 => r vs H1 Q) {p' : Pos} (hn : x ≠ "__name__" := by decide) (hdb : (x == ("__debug__" : Str)) = false := by decide)
    (he : starEach (e :: es) X.env = (false, eval e X.env) :: starEach es X.env := by rfl) (hpl : (backTo pos (starEach es X.env)).any (·.1) = false := by rfl) : wE X (.Call (.Name x p') (e :: es) [] pos) σ H Q := wE_of (pe_callB hc hg hm hv pA hn hdb he hpl) h
theorem w_callTy {Q : VK} {T : String} {r : List V → Hp → VK → Prop} (hc : CallR X (.type T) r) (hg : Gl X x) (hm : X.mg x = none) (hv : bootBuiltins x = some (.type T)) (h : wA X (e :: es) σ H fun vs H1 => r vs H1 Q) {p' : Pos} (hn : x ≠ "__name__" := by decide) (hdb : (x == ("__debug__" : Str)) = false := by decide)
    (he : starEach (e :: es) X.env = (false, eval e X.env) :: starEach es X.env := by rfl) (hpl : (backTo pos (starEach es X.env)).any (·.1) = false := by rfl) : wE X (.Call (.Name x p') (e :: es) [] pos) σ H Q := wE_of (pe_callTy hc hg hm hv pA hn hdb he hpl) h

/-! ### stores -/
theorem s_setL {k : Expr} {q : Nat} (c : Cfg B l H) (hl : (p, HO.lst xs) ∈ l) (h : EV X e σ B l v) (ho : EV X o σ B l (.ref p)) (hi : EV X k σ B l (.int (q : Int))) (hq : q < xs.length) (hk : ∀ H1, Cfg B (put p (.lst (xs.set q v)) l) H1 → wSs X rest D σ H1)
    (hs : swapsWithSole [.Subscript o k pos'] e pos.line X.env = pure false := by rfl) (hw : swappedStores [.Subscript o k pos'] e X.env = pure none := by rfl) (h1 : (assignEach [.Subscript o k pos'] X.env).map (·.2) = [assign (.Subscript o k pos') X.env] := by rfl)
    (ha : ∀ v, assign (.Subscript o k pos') X.env v = (do
      let ov ← holding [v] (eval o X.env)
      let iv ← holding [v, ov] (eval k X.env)
      standAt pos'
      holding [v, ov, iv] (setItem ov iv v)
      release [v, ov, iv] []) := by intro _; rfl) : wSs X (.Assign [.Subscript o k pos'] e pos :: rest) D σ H :=
  s_of (ps_asg pE (pg_sub pE pE set_list ha) hs hw h1) (go h c fun H1 e1 c1 => go ho c1 fun H2 e2 c2 => go hi c2 fun H3 e3 c3 => ⟨p, xs, (q : Int), q, rfl, rfl, c3.own _ _ hl, ixN_nat hq, hk _ (c3.put hl)⟩)
theorem s_setD {k : Expr} {ky : Key} {kvs : List (Key × V)} (hu : X.A.units + 1 < cLine) (c : Cfg B l H) (hl : (p, HO.dK kvs) ∈ l) (h : EV X e σ B l v) (ho : EV X o σ B l (.ref p)) (hi : EV X k σ B l (kV ky)) (hz : kvs.length < 100000) (hk : ∀ H1, Cfg B (put p (.dK (putK kvs ky v)) l) H1 → wSs X rest D σ H1)
    (hs : swapsWith e (some (.Subscript o k pos')) pos.line X.env = pure false := by rfl) : wSs X (.Assign [.Subscript o k pos'] e pos :: rest) D σ H :=
  s_of (ps_dput hu pE pE pE hs) (go h c fun H1 e1 c1 => go ho c1 fun H2 e2 c2 => go hi c2 fun H3 e3 c3 => ⟨p, _, rfl, DPut.k (c3.own _ _ hl) (sz_lt hz), hk _ (c3.put hl)⟩)
/-! ### methods of built-in types -/
theorem w_bm {Q : VK} {S : String} {nm : Str} {id : String} {r : V → List V → Hp → VK → Prop} {ap : Pos} (pa : PlainAttrs S) (slot : PySem.Slot S nm id) (hty : typeOf (.builtin id) = pure (.type "method_descriptor")) (hm : MtR X id r)
    (h : wE X o σ H fun x H1 => tyV X.K S x H1 ∧ wA X (e :: es) σ H1 fun vs H2 => r x vs H2 Q) (hbase : attributeBase o nm X.env (eval o X.env) = eval o X.env := by rfl)
    (hfew : ((backTo pos (starEach (e :: es) X.env)).all (fun x => !x.1) && (backToKw pos (keywordEach [] X.env)).all (fun x => x.1.isSome)
      && decide ((e :: es).length + ([] : List Keyword).length + (if ([] : List Keyword).isEmpty then 0 else 1) < 30)) = true := by rfl)
    (hline : (ap.endLine == pos.line) = true := by rfl) (hs : starEach (e :: es) X.env = (false, eval e X.env) :: starEach es X.env := by rfl) (hplain : (backTo pos (starEach es X.env)).any (·.1) = false := by rfl) :
    wE X (.Call (.Attribute o nm ap) (e :: es) [] pos) σ H Q := wE_of (pe_bm pa slot hty hm pE pA hbase hfew hline hs hplain) h
theorem w_bm0 {Q : VK} {S : String} {nm : Str} {id : String} {r : V → List V → Hp → VK → Prop} {ap : Pos} (pa : PlainAttrs S) (slot : PySem.Slot S nm id) (hty : typeOf (.builtin id) = pure (.type "method_descriptor")) (hm : MtR X id r)
    (h : wE X o σ H fun x H1 => tyV X.K S x H1 ∧ r x [] H1 Q) (hbase : attributeBase o nm X.env (eval o X.env) = eval o X.env := by rfl) (hline : (ap.endLine == pos.line) = true := by rfl) :
    wE X (.Call (.Attribute o nm ap) [] [] pos) σ H Q := wE_of (pe_bm0 pa slot hty hm pE hbase hline) h
theorem tyV_l {H : Hp} (h : SqL X.K H p xs) : tyV X.K "list" (.ref p) H := Or.inl ⟨rfl, _, h⟩
/-- xs.append(e): e a value -/
theorem w_app {Q : VK} {ap : Pos} (c : Cfg B l H) (hl : (p, HO.lst xs) ∈ l) (ho : EV X o σ B l (.ref p)) (h : EV X e σ B l v) (hz : xs.length < 100000) (k : ∀ H1, Cfg B (put p (.lst (xs ++ [v])) l) H1 → Q .non H1)
    (hbase : attributeBase o ("append" : Str) X.env (eval o X.env) = eval o X.env := by rfl)
    (hfew : ((backTo pos (starEach [e] X.env)).all (fun x => !x.1) && (backToKw pos (keywordEach [] X.env)).all (fun x => x.1.isSome)
      && decide (([e] : List Expr).length + ([] : List Keyword).length + (if ([] : List Keyword).isEmpty then 0 else 1) < 30)) = true := by rfl)
    (hline : (ap.endLine == pos.line) = true := by rfl) (hs : starEach [e] X.env = (false, eval e X.env) :: starEach [] X.env := by rfl) (hplain : (backTo pos (starEach [] X.env)).any (·.1) = false := by rfl) :
    wE X (.Call (.Attribute o "append" ap) [e] [] pos) σ H Q :=
  w_bm PySem.F.plainAttrs_list PySem.F.slot_list_append PySem.F.type_list_append mt_append (go ho c fun H1 e1 c1 => ⟨tyV_l (SqL.of (c1.own _ _ hl)), w_acons (go h c1 fun H2 e2 c2 => w_anil ⟨p, xs, v, rfl, rfl, c2.own _ _ hl, sz_lt hz, k _ (c2.put hl)⟩) hs⟩) hbase hfew hline hs hplain
/-- xs.append(e), e anything: what e leaves is told by a row of owned ones that still has xs -/
theorem w_appW {Q : VK} {ap : Pos} (c : Cfg B l H) (hl : (p, HO.lst xs) ∈ l) (ho : EV X o σ B l (.ref p)) (h : ∀ H1, Ex H H1 → Cfg B l H1 → wE X e σ H1 fun y H2 => ∃ ys, H2 p = some (.lst ys) ∧ ys.length < 100000 ∧ Q .non (upd H2 p (.lst (ys ++ [y]))))
    (hbase : attributeBase o ("append" : Str) X.env (eval o X.env) = eval o X.env := by rfl)
    (hfew : ((backTo pos (starEach [e] X.env)).all (fun x => !x.1) && (backToKw pos (keywordEach [] X.env)).all (fun x => x.1.isSome)
      && decide (([e] : List Expr).length + ([] : List Keyword).length + (if ([] : List Keyword).isEmpty then 0 else 1) < 30)) = true := by rfl)
    (hline : (ap.endLine == pos.line) = true := by rfl) (hs : starEach [e] X.env = (false, eval e X.env) :: starEach [] X.env := by rfl) (hplain : (backTo pos (starEach [] X.env)).any (·.1) = false := by rfl) :
    wE X (.Call (.Attribute o "append" ap) [e] [] pos) σ H Q :=
  w_bm PySem.F.plainAttrs_list PySem.F.slot_list_append PySem.F.type_list_append mt_append (go ho c fun H1 e1 c1 => ⟨tyV_l (SqL.of (c1.own _ _ hl)), w_acons (wE_mono (h H1 e1 c1) fun y H2 ⟨ys, h1, h2, q⟩ => w_anil ⟨p, ys, y, rfl, rfl, h1, sz_lt h2, q⟩) hs⟩) hbase hfew hline hs hplain
where
  wE_mono {e : Expr} {σ : L2.St} {H : Hp} {Q Q' : VK} (h : wE X e σ H Q) (k : ∀ v H1, Q v H1 → Q' v H1) : wE X e σ H Q' := fun pins s I => thn (h pins s I) fun _ _ ⟨v, H1, I1, r, q⟩ => ⟨v, H1, I1, r, k v H1 q⟩
end
theorem wE_mono {X : Cx} {e : Expr} {σ : L2.St} {H : Hp} {Q Q' : VK} (h : wE X e σ H Q) (k : ∀ v H1, Q v H1 → Q' v H1) : wE X e σ H Q' := fun pins s I => thn (h pins s I) fun _ _ ⟨v, H1, I1, r, q⟩ => ⟨v, H1, I1, r, k v H1 q⟩

/-! ### loops -/
def wI (X : Cx) (tg it : Expr) : TI := fun σ H R => ∀ pins s, Inv X pins σ H s → wpAny (model X.prog X.w) X.A (eval it X.env) (fun v s1 => wpAny (model X.prog X.w) X.A (pyIter v) (PIE X pins σ tg R) X.xe s1) X.xe s
def wG (X : Cx) (tg : Expr) : TG := fun v σ H Q => ∀ pins s u, Inv X pins σ H s → RelV v u → wpAny (model X.prog X.w) X.A (assign tg X.env u) (fun _ s' => ∃ σ' H', Inv X pins σ' H' s' ∧ Q σ' H') X.xe s
section
variable {X : Cx} {tg it e c : Expr} {body rest : List Stmt} {D : Ends} {σ : L2.St} {H B : Hp} {l : List Ob} {pos : Pos} {i n : Nat} {x : Str} {p a : Addr} {xs ys : List V} {t : Str}
theorem pI : PI X tg it (wI X tg it) := ⟨fun pins s σ H R I h => h pins s I⟩
theorem pG : PG X tg (wG X tg) := ⟨fun pins s σ H v u Q I r h => h pins s u I r⟩
theorem wI_of {t : TI} (h : PI X tg it t) {σ H R} (q : t σ H R) : wI X tg it σ H R := fun pins s I => h.run pins s σ H R I q
theorem wG_of {t : TG} (h : PG X tg t) {v σ H Q} (q : t v σ H Q) : wG X tg v σ H Q := fun pins s u I r => h.run pins s σ H v u Q I r q
/-- any for: what is walked, by a Walk -/
theorem s_for {G : Hp → Prop} {Y : Nat → Hp → V → Hp → Prop} (hp : PassesOwn (model X.prog X.w) X.A X.env X.xe) (hc : X.calm = true) (hi : wI X tg it σ H fun J H1 => Walk J n G Y ∧ ∃ Pv : Nat → L2.St → Hp → Prop, Pv 0 σ H1 ∧ (∀ i σ' H', i ≤ n → Pv i σ' H' → G H') ∧
      (∀ i x σ' H' H2, i < n → Pv i σ' H' → Y i H' x H2 → wG X tg x σ' H2 fun σ3 H3 => wSs X body { D with nx := Pv (i + 1), ct := Pv (i + 1), bk := wSs X rest D } σ3 H3) ∧ ∀ σ' H', Pv n σ' H' → wSs X rest D σ' H')
    (hs : ∀ x, foldedSetIterable it X.env x = pure x := by intro _; rfl) : wSs X (.For tg it body [] pos :: rest) D σ H := by
  refine s_of (ps_for hp hc pI pG pSs hs) ?_
  refine fun pins s I => wpAny_mono (hi pins s I) (fun v s1 h1 => wpAny_mono h1 (fun u s2 h2 => ?_) fun _ _ z => z) fun _ _ z => z
  obtain ⟨it', fp, tn, J, H', e1, I2, T, st, f2, w, Pv, q0, q1, q2, q3⟩ := h2
  exact ⟨it', fp, tn, J, H', e1, I2, T, st, f2, for_it w Pv q0 q1 q2 q3⟩
theorem s_while (hp : PassesOwn (model X.prog X.w) X.A X.env X.xe) (W : Nat → L2.St → Hp → Prop) (m0 : Nat) (h0 : W m0 σ H)
    (hs : ∀ m σ' H', W m σ' H' → wT X c σ' H' fun b H1 => if b = true then wSs X body { D with nx := fun σ2 H2 => ∃ m', m' < m ∧ W m' σ2 H2, ct := fun σ2 H2 => ∃ m', m' < m ∧ W m' σ2 H2, bk := wSs X rest D } σ' H1 else wSs X rest D σ' H1) : wSs X (.While c body [] pos :: rest) D σ H := by
  refine s_of (ps_while hp pT pSs) ⟨W, ⟨m0, h0⟩, fun m σ' H' w => ?_⟩
  refine fun pins s I => wpAny_mono (hs m σ' H' w pins s I) (fun b s1 ⟨H1, I1, q⟩ => ⟨H1, I1, ?_⟩) fun _ _ z => z
  cases b with
  | true => exact ⟨_, fun _ _ z => z, q⟩
  | false => exact q
/-- targets -/
theorem g_name (n : Own X i x) {v : V} {Q : L2.St → Hp → Prop} (h : Q (σ.set i (some v)) H) : wG X (.Name x pos) v σ H Q := wG_of (pg_name n.nd n.s.n n.l (.inl n.f)) h
theorem g_tup2 {e1 e2 : Expr} {k : Nat} {v1 v2 : V} {Q : L2.St → Hp → Prop} (hc : X.calm = true) (ht : SqT X.K H a [v1, v2]) (h : wG X e1 v1 σ H fun σ1 H1 => wG X e2 v2 σ1 H1 Q)
    (hn : (assignEach [e1, e2] X.env).length = 2 := by rfl) (hst : (assignEach [e1, e2] X.env).findIdx? (·.1) = none := by rfl)
    (hs : (assignEach (e1 :: [e2]) X.env).map (·.2) = assign e1 X.env :: (assignEach [e2] X.env).map (·.2) := by rfl) (hs2 : (assignEach (e2 :: []) X.env).map (·.2) = assign e2 X.env :: (assignEach [] X.env).map (·.2) := by rfl) : wG X (.Tuple [e1, e2] k pos) (.ref a) σ H Q :=
  wG_of (pg_tup hc (pgs_cons pG (pgs_cons pG pgs_nil hs2) hs) hn hst) ⟨a, _, rfl, ht, rfl, v1, [v2], rfl, fun pins s u I r => wpAny_mono (h pins s u I r) (fun _ s1 ⟨σ1, H1, I1, q⟩ => ⟨σ1, H1, I1, v2, [], rfl, fun pins s u I r => wpAny_mono (q pins s u I r) (fun _ s1 ⟨σ1, H1, I1, q⟩ => ⟨σ1, H1, I1, rfl, q⟩) fun _ _ z => z⟩) fun _ _ z => z⟩
end
end QW
/-! QW3: enumerate and zip over lists, tuples and texts in any mix. -/
namespace QW
open PySem L2 Evl
open PyProof.Rows (Call_)

/-! ### enumerate(v) begins, v anything that begins -/
theorem enum1_new {v : Value} {o : Obj} {G : Heap → Prop} (bg : Begins v o G) :
    Meets (Builtin.«enumerate.__new__» ⟨[.type "enumerate", v], []⟩) (fun _ R s => G s.heap ∧
      R (.ok (.ret (.ref (s.heap.push o).objs.size))) { s with heap := (s.heap.push o).push { cls := .type "enumerate", data := .fields #[.none, .bool false, .ref s.heap.objs.size, rawInt 0, .none, .none] } }) :=
  .of_wp fun P w A R s z => by
    obtain ⟨hp, g, d, tk, os⟩ := s
    obtain ⟨z1, z⟩ := z
    have isub := sub_enumerate
    have itr : ∀ {A' : Around} {E : Value → Shared → Prop} {Q : Value → Shared → Prop}, Q (.ref hp.objs.size) ⟨hp.push o, g, d, tk, os⟩ → wpAny (model P w) A' (pyIter v) Q E ⟨hp, g, d, tk, os⟩ :=
      fun q => bg.iter P w _ _ ⟨hp, g, d, tk, os⟩ _ (bg.keeps _ _ z1 fun _ _ y => y) q
    wp_walk
    refine wpAny_stack_any fun st => wpAny_pure ?_
    split
    · rename_i c _ _ _ _ _
      cases (c == Value.type "enumerate") <;> (wp_walk using itr; exact ⟨_, rfl, z⟩)
    · wp_walk using itr
      exact ⟨_, rfl, z⟩
section
variable {P : Program} {w : World} {A : Around} {E : Value → Shared → Prop} {s : Shared}
theorem enum1_begins {v : Value} {o : Obj} {G : Heap → Prop} {Q : Value → Shared → Prop} (bg : Begins v o G) (g0 : G s.heap)
    (k : ∀ h', IsEnum h' (s.heap.objs.size + 1) s.heap.objs.size 0 .none → h'.get? s.heap.objs.size = some o → (∀ b u, s.heap.get? b = some u → h'.get? b = some u) → Q (.ref (s.heap.objs.size + 1)) { s with heap := h' }) :
    wpAny (model P w) A (call (.type "enumerate") [v]) Q E s := by
  refine callType_new F.called_enumerate (by decide) (F.typeCall_enumerate_1 _) (F.newCall_enumerate_1 _) (fun obj => F.args_object_init_2 obj _) F.entry_enumerate_new (enum1_new bg) ⟨g0, ?_⟩
  have sz : (s.heap.push o).objs.size = s.heap.objs.size + 1 := Heap.size_push ..
  show _ ∧ _
  rw [sz]
  have en := Heap.get?_push_size (s.heap.push o) (o := { cls := .type "enumerate", data := .fields #[.none, .bool false, .ref s.heap.objs.size, rawInt 0, .none, .none] }) rfl
  rw [sz] at en
  exact ⟨⟨_, en, rfl⟩, k _ en (Heap.get?_push_of_some _ (Heap.get?_push_size _ bg.free)) fun b u x => Heap.get?_push_of_some _ (Heap.get?_push_of_some _ x)⟩
end

/-! ### sources: a list, a tuple, a text -/
inductive Src where
  | l (a : Addr) (xs : List V) | t (a : Addr) (xs : List V) | s (z : Str)
def Src.items : Src → List V
  | .l _ xs => xs
  | .t _ xs => xs
  | .s z => z.cps.toList.map fun c => .str ⟨#[c]⟩
def Src.v : Src → V
  | .l a _ => .ref a
  | .t a _ => .ref a
  | .s z => .str z
def Src.Ok (K : PySem.W.Frag) (H : Hp) : Src → Prop
  | .l a xs => SqL K H a xs
  | .t a xs => SqT K H a xs
  | .s _ => True
/-- the iterator over it stands at i -/
def Src.At : Src → Addr → Nat → Heap → Prop
  | .l a _, it, i, h => h.IsListIter it a i
  | .t a _, it, i, h => h.IsTupleIter it a i
  | .s z, it, i, h => ∃ t, h.IsStrIter it (strIterType z) z t i
theorem Src.Ok.mono {K : PySem.W.Frag} {H H' : Hp} (e : Ex H H') : ∀ {S : Src}, S.Ok K H → S.Ok K H'
  | .l _ _, h => ex_l e h
  | .t _ _, h => ex_t e h
  | .s _, _ => trivial
theorem Src.At.keep {it : Addr} {i : Nat} {h h' : Heap} (k : ∀ o, h.get? it = some o → h'.get? it = some o) : ∀ {S : Src}, S.At it i h → S.At it i h'
  | .l _ _, x => x.at k
  | .t _ _, x => x.at k
  | .s _, ⟨tk, o, ho, r⟩ => ⟨tk, o, k o ho, r⟩
theorem Src.At.obj {it : Addr} {i : Nat} {h : Heap} : ∀ {S : Src}, S.At it i h → ∃ o, h.get? it = some o ∧ ∀ v, o.data ≠ .cell v
  | .l _ _, ⟨o, ho, _, d⟩ => ⟨o, ho, fun v z => by rw [d] at z; cases z⟩
  | .t _ _, ⟨o, ho, _, d⟩ => ⟨o, ho, fun v z => by rw [d] at z; cases z⟩
  | .s _, ⟨_, o, ho, _, d⟩ => ⟨o, ho, fun v z => by rw [d] at z; cases z⟩
/-- an iterator's own cells lie apart from what is read -/
theorem fp_ne {X : Cx} {pins : List (Addr × PySem.Obj)} {σ : L2.St} {H : Hp} {s : Shared} {b c : Addr} (I : Inv X pins σ H s) (hb : (∃ o, H b = some o) ∨ ∃ o, X.K.lookup b = some o) (hf : FpOk X pins H c) : c ≠ b := fun z => by
  subst z
  rcases hb with ⟨o, h⟩ | ⟨o, h⟩
  · rw [hf.1] at h; cases h
  · have q := I.ok.mod.kin _ _ h
    rcases hf.2.2.2.1 with m | m
    · exact I.ok.noex _ _ q m
    · exact absurd (Nat.lt_of_lt_of_le (Heap.lt_size (I.ok.bs _ _ q).1) m) (Nat.lt_irrefl _)
theorem sqL_at {K : PySem.W.Frag} {H : Hp} {a : Addr} {xs : List V} (h : SqL K H a xs) : (∃ o, H a = some o) ∨ ∃ o, K.lookup a = some o := by
  rcases h with (h | ⟨o, h⟩) | ⟨o, _, _, h, _⟩
  · exact Or.inl ⟨_, h⟩
  · exact Or.inl ⟨_, h⟩
  · exact Or.inr ⟨o, h⟩
theorem sqT_at {K : PySem.W.Frag} {H : Hp} {a : Addr} {xs : List V} (h : SqT K H a xs) : (∃ o, H a = some o) ∨ ∃ o, K.lookup a = some o := by
  rcases h with (h | ⟨o, h⟩) | ⟨o, _, _, h, _⟩
  · exact Or.inl ⟨_, h⟩
  · exact Or.inl ⟨_, h⟩
  · exact Or.inr ⟨o, h⟩
/-- what a source draws, at this state -/
structure Drs (X : Cx) (pins : List (Addr × PySem.Obj)) (H : Hp) (S : Src) (it : Addr) (s : Shared) (i : Nat) (fp : List Addr) (G : Nat → Value → Prop) (St : Nat → Heap → Prop) : Prop where
  d : ∀ A' : Around, A'.handled = none → Draws X.prog X.w A' it fp S.items.length G St
  st : St i s.heap
  of : ∀ j h, St j h → S.At it j h
  g : ∀ j u, G j u → ∃ v, S.items[j]? = some v ∧ RelV v u
  m : it ∈ fp
  fp : ∀ b ∈ fp, b = it ∨ ∀ c, FpOk X pins H c → c ≠ b
theorem src_draws {X : Cx} {pins : List (Addr × Obj)} {σ : L2.St} {H : Hp} {s : Shared} {it : Addr} {i : Nat} (I : Inv X pins σ H s) (hn : H it = none) : ∀ {S : Src}, S.Ok X.K H → S.At it i s.heap → ∃ fp G St, Drs X pins H S it s i fp G St
  | .l a xs, ok, at_ => by
    obtain ⟨its, rv, p, hz⟩ := I.list ok
    have ne : a ≠ it := fun e => by
      obtain ⟨o, ho, hc, hd⟩ := at_
      obtain ⟨o', n, ho', hc', _⟩ := p
      rw [e, ho] at ho'
      cases ho'
      exact absurd (Value.type.inj (hc.symm.trans hc')) (by decide)
    refine ⟨[it, a], (fun j u => its.toArray[j]? = some u), (fun j h => h.IsListIter it a j ∧ h.IsList a its.toArray), ⟨fun A' hh => ?_, ⟨at_, p.isList⟩, fun j h st => st.1, fun j u hu => ?_, by simp, fun b hb => ?_⟩⟩
    · have hl : (Src.l a xs).items.length = its.toArray.size := by show xs.length = _; rw [rv.length]; simp
      rw [hl]
      exact Draws.list hh it a ne its.toArray
    · obtain ⟨v, hv, r⟩ := vals_back rv (by simpa using hu)
      exact ⟨v, hv, r⟩
    · rcases List.mem_cons.mp hb with e | hb
      · exact Or.inl e
      · have e : b = a := by simpa using hb
        subst e
        exact Or.inr fun c hc => fp_ne I (sqL_at ok) hc
  | .t a xs, ok, at_ => by
    obtain ⟨its, rv, p, hz⟩ := I.tuple ok
    have ne : a ≠ it := fun e => by
      obtain ⟨o, ho, hc, hd⟩ := at_
      obtain ⟨o', ho', hc', _⟩ := p
      rw [e, ho] at ho'
      cases ho'
      exact absurd (Value.type.inj (hc.symm.trans hc')) (by decide)
    refine ⟨[it, a], (fun j u => its.toArray[j]? = some u), (fun j h => h.IsTupleIter it a j ∧ h.IsTuple a its.toArray), ⟨fun A' hh => ?_, ⟨at_, (show s.heap.IsTuple a its.toArray from p)⟩, fun j h st => st.1, fun j u hu => ?_, by simp, fun b hb => ?_⟩⟩
    · have hl : (Src.t a xs).items.length = its.toArray.size := by show xs.length = _; rw [rv.length]; simp
      rw [hl]
      exact Draws.tuple hh it a ne its.toArray
    · obtain ⟨v, hv, r⟩ := vals_back rv (by simpa using hu)
      exact ⟨v, hv, r⟩
    · rcases List.mem_cons.mp hb with e | hb
      · exact Or.inl e
      · have e : b = a := by simpa using hb
        subst e
        exact Or.inr fun c hc => fp_ne I (sqT_at ok) hc
  | .s z, ok, ⟨tk0, at_⟩ => by
    refine ⟨[it], (fun j u => ∃ c tk, z.cps[j]? = some c ∧ u = .str ⟨#[c]⟩ tk), (fun j h => h.IsStrIter it (strIterType z) z tk0 j), ⟨fun A' hh => ?_, at_, fun j h st => ⟨tk0, st⟩, fun j u hu => ?_, by simp, fun b hb => Or.inl (by simpa using hb)⟩⟩
    · have hl : (Src.s z).items.length = z.cps.size := by show (z.cps.toList.map _).length = _; simp
      rw [hl]
      exact Draws.text hh it z tk0
    · obtain ⟨c, tk, hc, e⟩ := hu
      subst e
      refine ⟨.str ⟨#[c]⟩, ?_, ⟨tk, rfl⟩⟩
      show (z.cps.toList.map _)[j]? = _
      rw [List.getElem?_map, Array.getElem?_toList, hc]
      rfl
where
  vals_back : ∀ {xs : List V} {us : List Value} {j : Nat} {u : Value}, Vals xs us → us[j]? = some u → ∃ v, xs[j]? = some v ∧ RelV v u
    | _, _, _, _, .nil, e => by simp at e
    | _, _, 0, _, .cons r _, e => by simp at e; subst e; exact ⟨_, rfl, r⟩
    | _, _, j + 1, _, .cons _ t, e => by
      obtain ⟨v, h1, h2⟩ := vals_back (j := j) t (by simpa using e)
      exact ⟨v, by simpa using h1, h2⟩

/-! ### a walk of new tuples, by GoesN -/
/-- at turn i a new tuple of row i -/
def ItN (G : Hp → Prop) (n : Nat) (row : Nat → List V → Prop) : It :=
  ⟨fun i H => G H ∧ i < n, fun i H v H' => ∃ T xs, v = .ref T ∧ H T = none ∧ H' = upd H T (.tup xs) ∧ row i xs, fun i H => G H ∧ i = n⟩
theorem walk_N {G : Hp → Prop} {n : Nat} {row : Nat → List V → Prop} : Walk (ItN G n row) n G (fun i H v H' => ∃ T xs, v = .ref T ∧ H T = none ∧ H' = upd H T (.tup xs) ∧ row i xs) :=
  ⟨fun _ _ hi g => ⟨g, hi⟩, fun _ g => ⟨g, rfl⟩, fun _ _ _ _ _ _ y => y⟩
theorem turn_N {P : Program} {w : World} {K : PySem.W.Frag} {tg : Expr} {I : Addr} {fp wr : List Addr} {n : Nat} {G : Hp → Prop} {row : Nat → List V → Prop} {tn : Nat → Heap → Prop} (mem : I ∈ fp) (hwr : ∀ b ∈ wr, b ∈ fp)
    (obj : ∀ i h, tn i h → ∀ b ∈ fp, ∃ o, h.get? b = some o ∧ ∀ v, o.data ≠ .cell v) (keep : ∀ i h h', tn i h → (∀ b ∈ fp, ∀ o, h.get? b = some o → h'.get? b = some o) → tn i h')
    (go : ∀ (X : Cx), X.prog = P → X.w = w → X.K = K → X.calm = true → ∀ i pins s σ H, Inv X pins σ H s → (∀ b ∈ fp, FpOk X pins H b) → tn i s.heap → G H →
      ∃ fp' Y St, GoesN P w X.A tg I fp' wr n Y St ∧ St i s.heap ∧ (∀ j h, St j h → tn j h) ∧ ∀ h₀ v h, h₀ = s.heap → Y i h₀ v h → ∃ T us xs, v = .ref T ∧ h₀.objs.size ≤ T ∧ h.IsTuple T us ∧ Vals xs us.toList ∧ row i xs ∧ xs.length ≤ sizeLine)
    (self : ∀ (A : Around) i (s : Shared) (Q : Value → Shared → Prop) (E : Value → Shared → Prop), tn i s.heap → Q (.ref I) s → wpAny (model P w) A (pyIter (.ref I)) Q E s) : Turn P w K tg (ItN G n row) fp I tn where
  mem := mem
  obj := obj
  keep := keep
  item := by
    intro X hP hw hK hc i pins s σ H E J hf st hg
    obtain ⟨fp', Y, St, W, s0, of, hy⟩ := go X hP hw hK hc i pins s σ H J hf st hg.1
    refine wpAny_mono (W.goes i s (fun v s2 => ∃ x H', Inv X pins σ H' s2 ∧ RelV x v ∧ (ItN G n row).yld i H x H' ∧ tn (i + 1) s2.heap ∧ ∀ b ∈ fp, H' b = none) E hg.2 s0 fun v h' tk y st' k _ => ?_) (fun r s1 ⟨u, hr, hu⟩ => ⟨u, hr, hu⟩) fun _ _ z => z
    obtain ⟨T, us, xs, rfl, hT, tT, rv, rw_, hz⟩ := hy _ _ _ rfl y
    have new : ObjOk X.prog X.w (upd H T (.tup xs)) h' T (.tup xs) := ⟨hz, us.toList, rv, by rw [Array.toArray_toList]; exact tT⟩
    have J' : Inv X pins σ (upd H T (.tup xs)) { s with heap := h', toks := tk } := J.turnedNew (t' := tk) (ch := fp) (fun b o hb q => k b o (fun m => hb (hwr b m)) q) hf hT new
    refine ⟨.ref T, _, J', rfl, ⟨T, xs, rfl, J.hok.fresh hT, rfl, rw_⟩, of _ _ st', fun b hb => ?_⟩
    obtain ⟨o, ho, _⟩ := obj i _ st b hb
    rw [upd_ne (Nat.ne_of_lt (Nat.lt_of_lt_of_le (Heap.lt_size ho) hT))]
    exact (hf b hb).1
  done := by
    intro X hP hw hK hc i pins s σ H E J hf st hg
    obtain ⟨hG, rfl⟩ := hg
    obtain ⟨fp', Y, St, W, s0, of, hy⟩ := go X hP hw hK hc _ pins s σ H J hf st hG
    exact W.stops s _ E s0 fun h' tk k _ => J.turnedL (t' := tk) (ch := fp) (fun b o hb q => k b o (fun m => hb (hwr b m)) q) hf
  self := self

abbrev rowE (S : Src) (i : Nat) (xs : List V) : Prop := ∃ x, S.items[i]? = some x ∧ xs = [.int (i : Int), x]
theorem turn_enumS {P : Program} {w : World} {K : PySem.W.Frag} {elts : List Expr} {kk : Nat} {tpos : Pos} {S : Src} {e it : Addr} (ne : e ≠ it) :
    Turn P w K (.Tuple elts kk tpos) (ItN (S.Ok K) S.items.length (rowE S)) [e, it] e (fun i h => (∃ old, IsEnum h e it (0 + (i : Int)) old) ∧ S.At it i h) := by
  refine turn_N (wr := [e, it]) (by simp) (fun b hb => hb) (fun i h st b hb => ?_) (fun i h h' st k => ?_) (fun X hP hw hK hc i pins s σ H J hf st g => ?_) (fun A i s Q E st h => let ⟨⟨_, x⟩, _⟩ := st; wpAny_pyIter_enum x h)
  · obtain ⟨⟨old, x⟩, y⟩ := st
    rcases List.mem_cons.mp hb with z | hb
    · rw [z]; exact ⟨_, x, fun v q => nomatch q⟩
    · have z : b = it := by simpa using hb
      rw [z]; exact y.obj
  · obtain ⟨⟨old, x⟩, y⟩ := st
    exact ⟨⟨old, k e (by simp) _ x⟩, y.keep fun o q => k it (by simp) o q⟩
  · subst hP hw hK
    obtain ⟨fp, G, St, D⟩ := src_draws J (hf it (by simp)).1 g st.2
    have hh : X.A.in1.handled = none := J.ok.hd hc
    obtain ⟨⟨old, x⟩, y⟩ := id st
    refine ⟨_, _, _, GoesN.enumFrom 0 (D.d X.A.in1 hh) e ne (fun m => ?_) D.m, ⟨st.1, D.st⟩, fun j h q => ⟨q.1, D.of j h q.2⟩, fun h₀ v h _ q => ?_⟩
    · rcases D.fp e m with z | z
      · exact ne z
      · exact z e (hf e (by simp)) rfl
    · obtain ⟨T, t, u, ev, hT, hu, tT⟩ := q
      obtain ⟨v', hv, r⟩ := D.g i u hu
      refine ⟨T, _, [.int (i : Int), v'], ev, hT, tT, .cons ⟨t, by rw [Int.zero_add]⟩ (.cons r .nil), ⟨v', hv, rfl⟩, by show 2 ≤ sizeLine; decide⟩
section
variable {X : Cx} {e e1 e2 e3 : Expr} {elts : List Expr} {kk : Nat} {p' pos tpos : Pos} {ta : TA} {σ : L2.St} {H B : Hp} {l : List Ob} {S S1 S2 S3 : Src}
/-- how it begins, for each kind -/
theorem src_begins {pins : List (Addr × PySem.Obj)} {s : Shared} {u : Value} (I : Inv X pins σ H s) : ∀ {S : Src}, S.Ok X.K H → RelV S.v u → ∃ o G, Begins u o G ∧ G s.heap ∧ (∀ h' it, h'.get? it = some o → S.At it 0 h')
  | .l a xs, ok, r => by
    obtain ⟨its, rv, p, hz⟩ := I.list ok
    cases (show u = .ref a from r)
    exact ⟨_, _, begins_list a its.toArray, p.isList, fun h' it q => ⟨_, q, rfl, rfl⟩⟩
  | .t a xs, ok, r => by
    obtain ⟨its, rv, p, hz⟩ := I.tuple ok
    cases (show u = .ref a from r)
    exact ⟨_, _, begins_tuple a its.toArray, (show s.heap.IsTuple a its.toArray from p), fun h' it q => ⟨_, q, rfl, rfl⟩⟩
  | .s z, ok, r => by
    obtain ⟨t, rfl⟩ := (show ∃ t, u = .str z t from r)
    exact ⟨_, _, begins_text z t, trivial, fun h' it q => ⟨t, _, q, rfl, rfl⟩⟩
theorem pi_enumS (hg : Gl X "enumerate") (hm : X.mg "enumerate" = none) (ha : PA X [e] ta) (hs : starEach [e] X.env = [(false, eval e X.env)] := by rfl) :
    PI X (.Tuple elts kk tpos) (.Call (.Name "enumerate" p') [e] [] pos) (fun σ H R => ta σ H fun vs H1 => ∃ S : Src, vs = [S.v] ∧ S.Ok X.K H1 ∧ R (ItN (S.Ok X.K) S.items.length (rowE S)) H1) := by
  refine ⟨fun pins s σ H R I h => Call_ (ld_blt I hg hm PyProof.Rows.boot_enumerate (PyProof.Rows.callWith_type1 (thn (ha.run pos pins s σ H _ I h) fun us s1 ⟨vs, H1, I1, r1, q1⟩ => ?_) hs rfl))⟩
  obtain ⟨S, rfl, ok, q⟩ := q1
  cases r1 with
  | cons r rr =>
    cases rr
    obtain ⟨o, G, bg, g0, at0⟩ := src_begins I1 ok r
    refine enum1_begins bg g0 fun h' he hit k => wpAny_pyIter_enum he ?_
    have I2 : Inv X pins σ H1 { s1 with heap := h' } := I1.kept (t' := s1.toks) k
    refine ⟨s1.heap.objs.size + 1, [s1.heap.objs.size + 1, s1.heap.objs.size], _, _, H1, rfl, I2, turn_enumS (S := S) (Nat.succ_ne_self _), ⟨⟨.none, ?_⟩, at0 _ _ hit⟩, fun b hb => ?_, q⟩
    · show IsEnum h' (s1.heap.objs.size + 1) s1.heap.objs.size (0 + ((0 : Nat) : Int)) .none
      exact he
    · have hle : s1.heap.objs.size ≤ b := by
        rcases List.mem_cons.mp hb with z | hb
        · rw [z]; exact Nat.le_succ _
        · have z : b = s1.heap.objs.size := by simpa using hb
          rw [z]; exact Nat.le_refl _
      exact I1.fpOk hle (I1.hok.fresh hle)
end
/-! ### zip -/
abbrev rowZ (S1 S2 : Src) (i : Nat) (xs : List V) : Prop := ∃ x y, S1.items[i]? = some x ∧ S2.items[i]? = some y ∧ xs = [x, y]
abbrev rowZ3 (S1 S2 S3 : Src) (i : Nat) (xs : List V) : Prop := ∃ x y z, S1.items[i]? = some x ∧ S2.items[i]? = some y ∧ S3.items[i]? = some z ∧ xs = [x, y, z]
theorem drs_no {X : Cx} {pins : List (Addr × PySem.Obj)} {H : Hp} {S : Src} {it : Addr} {s : Shared} {i : Nat} {fp : List Addr} {G : Nat → Value → Prop} {St : Nat → Heap → Prop} (D : Drs X pins H S it s i fp G St) {c : Addr} (hc : FpOk X pins H c) (ne : c ≠ it) : c ∉ fp := fun m =>
  (D.fp c m).elim ne fun z => z c hc rfl
theorem turn_zip2S {P : Program} {w : World} {K : PySem.W.Frag} {elts : List Expr} {kk : Nat} {tpos : Pos} {S1 S2 : Src} {z TI TO i1 i2 : Addr} (n1 : TI ≠ z) (n2 : TO ≠ z) (n3 : TI ≠ TO) (n4 : TI ≠ i1) (n5 : TI ≠ i2) (n6 : z ≠ i1) (n7 : z ≠ i2) (n8 : TO ≠ i1) (n9 : TO ≠ i2) (n10 : i1 ≠ i2) :
    Turn P w K (.Tuple elts kk tpos) (ItN (fun H => S1.Ok K H ∧ S2.Ok K H) (min S1.items.length S2.items.length) (rowZ S1 S2)) [z, TI, TO, i1, i2] z
      (fun i h => IsZip h z TI TO .none ∧ IsTupOf2 h TI (.ref i1) (.ref i2) ∧ (∃ a1 a2, IsTupOf2 h TO a1 a2) ∧ S1.At i1 i h ∧ S2.At i2 i h) := by
  refine turn_N (wr := [z, TO, i1, i2]) (by simp) (fun b hb => by simp at hb ⊢; rcases hb with h | h | h | h <;> simp [h]) (fun i h st b hb => ?_) (fun i h h' st k => ?_) (fun X hP hw hK hc i pins s σ H J hf st g => ?_) (fun A i s Q E st h => wpAny_pyIter_zip st.1 h)
  · obtain ⟨a, b', ⟨_, _, c⟩, d, e⟩ := st
    have e' : b = z ∨ b = TI ∨ b = TO ∨ b = i1 ∨ b = i2 := by simpa using hb
    rcases e' with q | q | q | q | q
    · rw [q]; exact ⟨_, a, fun v q => nomatch q⟩
    · rw [q]; exact ⟨_, b', fun v q => nomatch q⟩
    · rw [q]; exact ⟨_, c, fun v q => nomatch q⟩
    · rw [q]; exact d.obj
    · rw [q]; exact e.obj
  · obtain ⟨a, b', ⟨_, _, c⟩, d, e⟩ := st
    exact ⟨k z (by simp) _ a, k TI (by simp) _ b', ⟨_, _, k TO (by simp) _ c⟩, d.keep fun o q => k i1 (by simp) o q, e.keep fun o q => k i2 (by simp) o q⟩
  · subst hP hw hK
    have hh : X.A.in1.handled = none := J.ok.hd hc
    obtain ⟨a, b', c, d, e⟩ := id st
    obtain ⟨fp1, G1, St1, D1⟩ := src_draws J (hf i1 (by simp)).1 g.1 d
    obtain ⟨fp2, G2, St2, D2⟩ := src_draws J (hf i2 (by simp)).1 g.2 e
    have sep : ZipSep2 z TI TO i1 i2 fp1 fp2 :=
      { TIz := n1, TOz := n2, TITO := n3, TIi1 := n4, mem1 := D1.m, zf1 := drs_no D1 (hf z (by simp)) n6, Tf1 := drs_no D1 (hf TO (by simp)) n8, TIi2 := n5, mem2 := D2.m, zf2 := drs_no D2 (hf z (by simp)) n7, Tf2 := drs_no D2 (hf TO (by simp)) n9,
        sep1_2 := drs_no D2 (hf i1 (by simp)) n10, sep2_1 := drs_no D1 (hf i2 (by simp)) (Ne.symm n10) }
    refine ⟨_, _, _, GoesN.zip2 sep (D1.d X.A.in1 hh) (D2.d X.A.in1 hh), ⟨a, b', c, D1.st, D2.st⟩, fun j h q => ⟨q.1, q.2.1, q.2.2.1, D1.of j h q.2.2.2.1, D2.of j h q.2.2.2.2⟩, fun h₀ v h _ q => ?_⟩
    obtain ⟨T, x, y, ev, hT, hx, hy, tT⟩ := q
    obtain ⟨x', hx', rx⟩ := D1.g i x hx
    obtain ⟨y', hy', ry⟩ := D2.g i y hy
    exact ⟨T, _, [x', y'], ev, hT, tT, .cons rx (.cons ry .nil), ⟨x', y', hx', hy', rfl⟩, by show 2 ≤ sizeLine; decide⟩
theorem turn_zip3S {P : Program} {w : World} {K : PySem.W.Frag} {elts : List Expr} {kk : Nat} {tpos : Pos} {S1 S2 S3 : Src} {z TI TO i1 i2 i3 : Addr} (n1 : TI ≠ z) (n2 : TO ≠ z) (n3 : TI ≠ TO) (n4 : TI ≠ i1) (n5 : TI ≠ i2) (m4 : TI ≠ i3) (n6 : z ≠ i1) (n7 : z ≠ i2) (m7 : z ≠ i3) (n8 : TO ≠ i1) (n9 : TO ≠ i2) (m9 : TO ≠ i3)
    (n10 : i1 ≠ i2) (m1 : i1 ≠ i3) (m2 : i2 ≠ i3) :
    Turn P w K (.Tuple elts kk tpos) (ItN (fun H => S1.Ok K H ∧ S2.Ok K H ∧ S3.Ok K H) (min (min S1.items.length S2.items.length) S3.items.length) (rowZ3 S1 S2 S3)) [z, TI, TO, i1, i2, i3] z
      (fun i h => IsZip h z TI TO .none ∧ IsTupOf3 h TI (.ref i1) (.ref i2) (.ref i3) ∧ (∃ a1 a2 a3, IsTupOf3 h TO a1 a2 a3) ∧ S1.At i1 i h ∧ S2.At i2 i h ∧ S3.At i3 i h) := by
  refine turn_N (wr := [z, TO, i1, i2, i3]) (by simp) (fun b hb => by simp at hb ⊢; rcases hb with h | h | h | h | h <;> simp [h]) (fun i h st b hb => ?_) (fun i h h' st k => ?_) (fun X hP hw hK hc i pins s σ H J hf st g => ?_) (fun A i s Q E st h => wpAny_pyIter_zip st.1 h)
  · obtain ⟨a, b', ⟨_, _, _, c⟩, d, e, f⟩ := st
    have e' : b = z ∨ b = TI ∨ b = TO ∨ b = i1 ∨ b = i2 ∨ b = i3 := by simpa using hb
    rcases e' with q | q | q | q | q | q
    · rw [q]; exact ⟨_, a, fun v q => nomatch q⟩
    · rw [q]; exact ⟨_, b', fun v q => nomatch q⟩
    · rw [q]; exact ⟨_, c, fun v q => nomatch q⟩
    · rw [q]; exact d.obj
    · rw [q]; exact e.obj
    · rw [q]; exact f.obj
  · obtain ⟨a, b', ⟨_, _, _, c⟩, d, e, f⟩ := st
    exact ⟨k z (by simp) _ a, k TI (by simp) _ b', ⟨_, _, _, k TO (by simp) _ c⟩, d.keep fun o q => k i1 (by simp) o q, e.keep fun o q => k i2 (by simp) o q, f.keep fun o q => k i3 (by simp) o q⟩
  · subst hP hw hK
    have hh : X.A.in1.handled = none := J.ok.hd hc
    obtain ⟨a, b', c, d, e, f⟩ := id st
    obtain ⟨fp1, G1, St1, D1⟩ := src_draws J (hf i1 (by simp)).1 g.1 d
    obtain ⟨fp2, G2, St2, D2⟩ := src_draws J (hf i2 (by simp)).1 g.2.1 e
    obtain ⟨fp3, G3, St3, D3⟩ := src_draws J (hf i3 (by simp)).1 g.2.2 f
    have sep : ZipSep3 z TI TO i1 i2 i3 fp1 fp2 fp3 :=
      { TIz := n1, TOz := n2, TITO := n3, TIi1 := n4, mem1 := D1.m, zf1 := drs_no D1 (hf z (by simp)) n6, Tf1 := drs_no D1 (hf TO (by simp)) n8, TIi2 := n5, mem2 := D2.m, zf2 := drs_no D2 (hf z (by simp)) n7, Tf2 := drs_no D2 (hf TO (by simp)) n9,
        TIi3 := m4, mem3 := D3.m, zf3 := drs_no D3 (hf z (by simp)) m7, Tf3 := drs_no D3 (hf TO (by simp)) m9,
        sep1_2 := drs_no D2 (hf i1 (by simp)) n10, sep2_1 := drs_no D1 (hf i2 (by simp)) (Ne.symm n10), sep1_3 := drs_no D3 (hf i1 (by simp)) m1, sep3_1 := drs_no D1 (hf i3 (by simp)) (Ne.symm m1), sep2_3 := drs_no D3 (hf i2 (by simp)) m2, sep3_2 := drs_no D2 (hf i3 (by simp)) (Ne.symm m2) }
    refine ⟨_, _, _, GoesN.zip3 sep (D1.d X.A.in1 hh) (D2.d X.A.in1 hh) (D3.d X.A.in1 hh), ⟨a, b', c, D1.st, D2.st, D3.st⟩, fun j h q => ⟨q.1, q.2.1, q.2.2.1, D1.of j h q.2.2.2.1, D2.of j h q.2.2.2.2.1, D3.of j h q.2.2.2.2.2⟩, fun h₀ v h _ q => ?_⟩
    obtain ⟨T, x, y, u, ev, hT, hx, hy, hu, tT⟩ := q
    obtain ⟨x', hx', rx⟩ := D1.g i x hx
    obtain ⟨y', hy', ry⟩ := D2.g i y hy
    obtain ⟨u', hu', ru⟩ := D3.g i u hu
    exact ⟨T, _, [x', y', u'], ev, hT, tT, .cons rx (.cons ry (.cons ru .nil)), ⟨x', y', u', hx', hy', hu', rfl⟩, by show 3 ≤ sizeLine; decide⟩
section
variable {X : Cx} {e e1 e2 e3 : Expr} {elts : List Expr} {kk : Nat} {p' pos tpos : Pos} {ta : TA} {σ : L2.St} {H B : Hp} {l : List Ob} {S S1 S2 S3 : Src}
theorem pi_zip2S (hg : Gl X "zip") (hm : X.mg "zip" = none) (ha : PA X [e1, e2] ta) (hs : starEach [e1, e2] X.env = (false, eval e1 X.env) :: starEach [e2] X.env := by rfl) (hpl : (backTo pos (starEach [e2] X.env)).any (·.1) = false := by rfl) :
    PI X (.Tuple elts kk tpos) (.Call (.Name "zip" p') [e1, e2] [] pos) (fun σ H R => ta σ H fun vs H1 => ∃ S1 S2 : Src, vs = [S1.v, S2.v] ∧ S1.Ok X.K H1 ∧ S2.Ok X.K H1 ∧ R (ItN (fun H => S1.Ok X.K H ∧ S2.Ok X.K H) (min S1.items.length S2.items.length) (rowZ S1 S2)) H1) := by
  refine ⟨fun pins s σ H R I h => Call_ (ld_blt I hg hm PyProof.Rows.boot_zip (PyProof.Rows.callWith_type1 (thn (ha.run pos pins s σ H _ I h) fun us s1 ⟨vs, H1, I1, r1, q1⟩ => ?_) hs hpl))⟩
  obtain ⟨S1, S2, rfl, ok1, ok2, q⟩ := q1
  obtain ⟨u1, u2, rfl, r1, r2⟩ := vals2 r1
  obtain ⟨o1, G1, bg1, g1, at1⟩ := src_begins I1 ok1 r1
  obtain ⟨o2, G2, bg2, g2, at2⟩ := src_begins I1 ok2 r2
  refine zip_begins2 bg1 bg2 g1 g2 fun h' hz hTI hTO h1 h2 _ k => wpAny_pyIter_zip hz ?_
  have I2 : Inv X pins σ H1 { s1 with heap := h' } := I1.kept (t' := s1.toks) k
  generalize hN : s1.heap.objs.size = N at *
  refine ⟨N + 4, [N + 4, N + 2, N + 3, N, N + 1], _, _, H1, rfl, I2, turn_zip2S (S1 := S1) (S2 := S2) (z := N + 4) (TI := N + 2) (TO := N + 3) (i1 := N) (i2 := N + 1) ?_ ?_ ?_ ?_ ?_ ?_ ?_ ?_ ?_ ?_, ⟨hz, hTI, ⟨_, _, hTO⟩, at1 _ _ h1, at2 _ _ h2⟩, fun b hb => ?_, q⟩
  all_goals first
    | (show (_ : Nat) ≠ _; omega)
    | skip
  have hle : s1.heap.objs.size ≤ b := by
    rw [hN]
    have e' : b = N + 4 ∨ b = N + 2 ∨ b = N + 3 ∨ b = N ∨ b = N + 1 := by simpa using hb
    show (N : Nat) ≤ b
    rcases e' with z | z | z | z | z <;> (rw [z]; first | exact Nat.le_refl _ | exact Nat.le_add_right _ _)
  exact I1.fpOk hle (I1.hok.fresh hle)
theorem pi_zip3S (hg : Gl X "zip") (hm : X.mg "zip" = none) (ha : PA X [e1, e2, e3] ta) (hs : starEach [e1, e2, e3] X.env = (false, eval e1 X.env) :: starEach [e2, e3] X.env := by rfl) (hpl : (backTo pos (starEach [e2, e3] X.env)).any (·.1) = false := by rfl) :
    PI X (.Tuple elts kk tpos) (.Call (.Name "zip" p') [e1, e2, e3] [] pos) (fun σ H R => ta σ H fun vs H1 => ∃ S1 S2 S3 : Src, vs = [S1.v, S2.v, S3.v] ∧ S1.Ok X.K H1 ∧ S2.Ok X.K H1 ∧ S3.Ok X.K H1 ∧
      R (ItN (fun H => S1.Ok X.K H ∧ S2.Ok X.K H ∧ S3.Ok X.K H) (min (min S1.items.length S2.items.length) S3.items.length) (rowZ3 S1 S2 S3)) H1) := by
  refine ⟨fun pins s σ H R I h => Call_ (ld_blt I hg hm PyProof.Rows.boot_zip (PyProof.Rows.callWith_type1 (thn (ha.run pos pins s σ H _ I h) fun us s1 ⟨vs, H1, I1, r1, q1⟩ => ?_) hs hpl))⟩
  obtain ⟨S1, S2, S3, rfl, ok1, ok2, ok3, q⟩ := q1
  cases r1 with
  | cons r1 rr =>
  cases rr with
  | cons r2 rr =>
  cases rr with
  | cons r3 rr =>
  cases rr
  obtain ⟨o1, G1, bg1, g1, at1⟩ := src_begins I1 ok1 r1
  obtain ⟨o2, G2, bg2, g2, at2⟩ := src_begins I1 ok2 r2
  obtain ⟨o3, G3, bg3, g3, at3⟩ := src_begins I1 ok3 r3
  refine zip_begins3 bg1 bg2 bg3 g1 g2 g3 fun h' hz hTI hTO h1 h2 h3 _ k => wpAny_pyIter_zip hz ?_
  have I2 : Inv X pins σ H1 { s1 with heap := h' } := I1.kept (t' := s1.toks) k
  generalize hN : s1.heap.objs.size = N at *
  refine ⟨N + 5, [N + 5, N + 3, N + 4, N, N + 1, N + 2], _, _, H1, rfl, I2, turn_zip3S (S1 := S1) (S2 := S2) (S3 := S3) (z := N + 5) (TI := N + 3) (TO := N + 4) (i1 := N) (i2 := N + 1) (i3 := N + 2) ?_ ?_ ?_ ?_ ?_ ?_ ?_ ?_ ?_ ?_ ?_ ?_ ?_ ?_ ?_, ⟨hz, hTI, ⟨_, _, _, hTO⟩, at1 _ _ h1, at2 _ _ h2, at3 _ _ h3⟩, fun b hb => ?_, q⟩
  all_goals first
    | (show (_ : Nat) ≠ _; omega)
    | skip
  have hle : s1.heap.objs.size ≤ b := by
    rw [hN]
    have e' : b = N + 5 ∨ b = N + 3 ∨ b = N + 4 ∨ b = N ∨ b = N + 1 ∨ b = N + 2 := by simpa using hb
    show (N : Nat) ≤ b
    rcases e' with z | z | z | z | z | z <;> (rw [z]; first | exact Nat.le_refl _ | exact Nat.le_add_right _ _)
  exact I1.fpOk hle (I1.hok.fresh hle)
end
end QW
/-! QW4: what is walked, comprehensions, defs, calls, built-ins. -/
namespace QW
open PySem L2 Evl

/-! ### what a for or a comprehension walks -/
section
variable {X : Cx} {tg e e1 e2 e3 : Expr} {σ : L2.St} {H B : Hp} {l : List Ob} {R : It → Hp → Prop} {p pos p' tpos : Pos} {a : Addr} {xs : List V} {i j : Int} {z : Str} {elts : List Expr} {kk : Nat}
theorem i_list (c : Cfg B l H) (h : EV X e σ B l (.ref a)) (hl : Lst X.K B l a xs) (k : ∀ H1, Ex H H1 → Cfg B l H1 → R (Itl X.K a) H1) : wI X tg e σ H R :=
  wI_of (pi_list pE) (go h c fun H1 e1 c1 => ⟨a, rfl, ⟨xs, hl H1 c1⟩, k H1 e1 c1⟩)
theorem i_tup (c : Cfg B l H) (h : EV X e σ B l (.ref a)) (hl : Tup X.K B l a xs) (k : ∀ H1, Ex H H1 → Cfg B l H1 → R (Itt X.K a) H1) : wI X tg e σ H R :=
  wI_of (pi_tup pE) (go h c fun H1 e1 c1 => ⟨a, rfl, ⟨xs, hl H1 c1⟩, k H1 e1 c1⟩)
theorem i_str (c : Cfg B l H) (h : EV X e σ B l (.str z)) (k : ∀ H1, Ex H H1 → Cfg B l H1 → R (Its z) H1) : wI X tg e σ H R :=
  wI_of (pi_str pE) (go h c fun H1 e1 c1 => ⟨z, rfl, k H1 e1 c1⟩)
/-- a list just made -/
theorem i_newL (h : wE X e σ H fun v H1 => ∃ a xs, v = .ref a ∧ SqL X.K H1 a xs ∧ R (Itl X.K a) H1) : wI X tg e σ H R :=
  wI_of (pi_list pE) (wE_mono h fun v H1 ⟨a, xs, ev, hs, r⟩ => ⟨a, ev, ⟨xs, hs⟩, r⟩)
theorem i_newT (h : wE X e σ H fun v H1 => ∃ a xs, v = .ref a ∧ SqT X.K H1 a xs ∧ R (Itt X.K a) H1) : wI X tg e σ H R :=
  wI_of (pi_tup pE) (wE_mono h fun v H1 ⟨a, xs, ev, hs, r⟩ => ⟨a, ev, ⟨xs, hs⟩, r⟩)
theorem i_range1 (hg : Gl X "range") (hm : X.mg "range" = none) (c : Cfg B l H) (h : EV X e σ B l (.int j)) (hj : -(2 ^ 62) ≤ j ∧ j < 2 ^ 62) (k : ∀ H1, Ex H H1 → Cfg B l H1 → R (Itr 0 j.toNat) H1)
    (hs : starEach [e] X.env = [(false, eval e X.env)] := by rfl) : wI X tg (.Call (.Name "range" p') [e] [] pos) σ H R :=
  wI_of (pi_range1 hg hm pA hs) (goA (a_cons h a_nil hs) c fun H1 e1 c1 => ⟨j, rfl, hj.1, hj.2, k H1 e1 c1⟩)
theorem i_range2 (hg : Gl X "range") (hm : X.mg "range" = none) (c : Cfg B l H) (h1 : EV X e1 σ B l (.int i)) (h2 : EV X e2 σ B l (.int j)) (hj : -(2 ^ 62) ≤ i ∧ i < 2 ^ 62 ∧ -(2 ^ 62) ≤ j ∧ j < 2 ^ 62) (k : ∀ H1, Ex H H1 → Cfg B l H1 → R (Itr i (j - i).toNat) H1)
    (hs : starEach [e1, e2] X.env = [(false, eval e1 X.env), (false, eval e2 X.env)] := by rfl) (hs2 : starEach [e2] X.env = [(false, eval e2 X.env)] := by rfl) : wI X tg (.Call (.Name "range" p') [e1, e2] [] pos) σ H R :=
  wI_of (pi_range2 hg hm pA hs hs2) (goA (a_cons h1 (a_cons h2 a_nil hs2) (by rw [hs, hs2])) c fun H1 e1 c1 => ⟨i, j, rfl, hj, k H1 e1 c1⟩)
theorem i_range3 {ci : Int} {n : Nat} (hg : Gl X "range") (hm : X.mg "range" = none) (c : Cfg B l H) (h : EA X [e1, e2, e3] σ B l [.int i, .int j, .int ci]) (hr : RgC i j ci n) (k : ∀ H1, Ex H H1 → Cfg B l H1 → R (Itc i ci n) H1)
    (hs : starEach (e1 :: [e2, e3]) X.env = (false, eval e1 X.env) :: starEach [e2, e3] X.env := by rfl) (hpl : (backTo pos (starEach [e2, e3] X.env)).any (·.1) = false := by rfl) : wI X tg (.Call (.Name "range" p') [e1, e2, e3] [] pos) σ H R :=
  wI_of (pi_range3 hg hm pA hs hpl) (goA h c fun H1 e1 c1 => ⟨i, j, ci, n, rfl, hr, k H1 e1 c1⟩)
theorem i_enum {S : Src} (hg : Gl X "enumerate") (hm : X.mg "enumerate" = none) (c : Cfg B l H) (h : EV X e σ B l S.v) (ok : ∀ H, Cfg B l H → S.Ok X.K H) (k : ∀ H1, Ex H H1 → Cfg B l H1 → R (ItN (S.Ok X.K) S.items.length (rowE S)) H1)
    (hs : starEach [e] X.env = [(false, eval e X.env)] := by rfl) : wI X (.Tuple elts kk tpos) (.Call (.Name "enumerate" p') [e] [] pos) σ H R :=
  wI_of (pi_enumS hg hm pA hs) (goA (a_cons h a_nil hs) c fun H1 e1 c1 => ⟨S, rfl, ok H1 c1, k H1 e1 c1⟩)
/-- in general: the arguments first -/
theorem i_enumW (hg : Gl X "enumerate") (hm : X.mg "enumerate" = none) (h : wA X [e] σ H fun vs H1 => ∃ S : Src, vs = [S.v] ∧ S.Ok X.K H1 ∧ R (ItN (S.Ok X.K) S.items.length (rowE S)) H1) (hs : starEach [e] X.env = [(false, eval e X.env)] := by rfl) : wI X (.Tuple elts kk tpos) (.Call (.Name "enumerate" p') [e] [] pos) σ H R :=
  wI_of (pi_enumS hg hm pA hs) h
theorem i_zipW (hg : Gl X "zip") (hm : X.mg "zip" = none) (h : wA X [e1, e2] σ H fun vs H1 => ∃ S1 S2 : Src, vs = [S1.v, S2.v] ∧ S1.Ok X.K H1 ∧ S2.Ok X.K H1 ∧ R (ItN (fun H => S1.Ok X.K H ∧ S2.Ok X.K H) (min S1.items.length S2.items.length) (rowZ S1 S2)) H1)
    (hs : starEach [e1, e2] X.env = (false, eval e1 X.env) :: starEach [e2] X.env := by rfl) (hpl : (backTo pos (starEach [e2] X.env)).any (·.1) = false := by rfl) : wI X (.Tuple elts kk tpos) (.Call (.Name "zip" p') [e1, e2] [] pos) σ H R := wI_of (pi_zip2S hg hm pA hs hpl) h
theorem i_zip3W (hg : Gl X "zip") (hm : X.mg "zip" = none) (h : wA X [e1, e2, e3] σ H fun vs H1 => ∃ S1 S2 S3 : Src, vs = [S1.v, S2.v, S3.v] ∧ S1.Ok X.K H1 ∧ S2.Ok X.K H1 ∧ S3.Ok X.K H1 ∧ R (ItN (fun H => S1.Ok X.K H ∧ S2.Ok X.K H ∧ S3.Ok X.K H) (min (min S1.items.length S2.items.length) S3.items.length) (rowZ3 S1 S2 S3)) H1)
    (hs : starEach [e1, e2, e3] X.env = (false, eval e1 X.env) :: starEach [e2, e3] X.env := by rfl) (hpl : (backTo pos (starEach [e2, e3] X.env)).any (·.1) = false := by rfl) : wI X (.Tuple elts kk tpos) (.Call (.Name "zip" p') [e1, e2, e3] [] pos) σ H R := wI_of (pi_zip3S hg hm pA hs hpl) h
end

/-! ### comprehensions -/
/-- a comprehension's block within X -/
def Blk (X : Cx) (scope : Scope) (X' : Cx) : Prop := ∃ (s : Shared) (H : Hp) (C : Addr) (cl : List (Str × Addr)) (fp : List Addr), X' = X.blk s H scope (compEnvC scope cl C X.env) fp
def yE (X : Cx) (sc : Scope) (e : Expr) : TE := fun σ H Q => ∀ X', Blk X sc X' → wE X' e σ H Q
def yT (X : Cx) (sc : Scope) (c : Expr) : TT := fun σ H Q => ∀ X', Blk X sc X' → wT X' c σ H Q
def yG (X : Cx) (sc : Scope) (tg : Expr) : TG := fun v σ H Q => ∀ X', Blk X sc X' → wG X' tg v σ H Q
section
variable {X X' : Cx} {sc scope : Scope} {elt tg it : Expr} {ifs : List Expr} {pos : Pos} {own : List (Str × Nat)} {σ : L2.St} {H B : Hp} {l : List Ob} {Q : VK} {G : Hp → Prop} {Y : Nat → Hp → V → Hp → Prop} {n : Nat}
theorem Blk.K (b : Blk X sc X') : X'.K = X.K ∧ X'.mg = X.mg ∧ X'.N = X.N ∧ X'.A = X.A ∧ X'.env.scope = relS sc X.env.scope ∧ X'.prog = X.prog ∧ X'.w = X.w ∧ X'.base = X.base ∧ X'.calm = X.calm := by
  obtain ⟨s, H, C, cl, fp, rfl⟩ := b
  exact ⟨rfl, rfl, rfl, rfl, rfl, rfl, rfl, rfl, rfl⟩
theorem yE_pe (s : Shared) (H : Hp) (C : Addr) (cl : List (Str × Addr)) (fp : List Addr) : PE (X.blk s H sc (compEnvC sc cl C X.env) fp) elt (yE X sc elt) := ⟨fun pins s' σ H' Q I h => h _ ⟨s, H, C, cl, fp, rfl⟩ pins s' I⟩
theorem yT_pt {c : Expr} (s : Shared) (H : Hp) (C : Addr) (cl : List (Str × Addr)) (fp : List Addr) : PT (X.blk s H sc (compEnvC sc cl C X.env) fp) c (yT X sc c) := ⟨fun pins s' σ H' Q I h => h _ ⟨s, H, C, cl, fp, rfl⟩ pins s' I⟩
theorem yG_pg (s : Shared) (H : Hp) (C : Addr) (cl : List (Str × Addr)) (fp : List Addr) : PG (X.blk s H sc (compEnvC sc cl C X.env) fp) tg (yG X sc tg) := ⟨fun pins s' σ H' v u Q I r h => h _ ⟨s, H, C, cl, fp, rfl⟩ pins s' u I r⟩
/-- what a turn of a comprehension with the new list at D has to show -/
abbrev LcTurn (X : Cx) (sc : Scope) (tg elt : Expr) (vs : List Nat) (σ : L2.St) (Y : Nat → Hp → V → Hp → Prop) (n : Nat) (D : Addr) (Pv : Nat → Hp → Prop) : Prop :=
  ∀ i x H' H2, i < n → Pv i H' → Y i H' x H2 → yG X sc tg x (wipe σ vs) H2 fun σ3 H3 => wipe σ3 vs = wipe σ vs ∧ yE X sc elt σ3 H3 fun y H4 => ∃ acc, H4 D = some (.lst acc) ∧ acc.length < sizeLine ∧ Pv (i + 1) (upd H4 D (.lst (acc ++ [y])))
abbrev LcTurnC (X : Cx) (sc : Scope) (tg c elt : Expr) (vs : List Nat) (σ : L2.St) (Y : Nat → Hp → V → Hp → Prop) (n : Nat) (D : Addr) (Pv : Nat → Hp → Prop) : Prop :=
  ∀ i x H' H2, i < n → Pv i H' → Y i H' x H2 → yG X sc tg x (wipe σ vs) H2 fun σ3 H3 => wipe σ3 vs = wipe σ vs ∧ yT X sc c σ3 H3 fun b H4 =>
    if b = true then yE X sc elt σ3 H4 fun y H5 => ∃ acc, H5 D = some (.lst acc) ∧ acc.length < sizeLine ∧ Pv (i + 1) (upd H5 D (.lst (acc ++ [y]))) else Pv (i + 1) H4
abbrev LcAll (G : Hp → Prop) (Y : Nat → Hp → V → Hp → Prop) (n : Nat) (turn : Addr → (Nat → Hp → Prop) → Prop) (Q : VK) (J : It) (H1 : Hp) : Prop :=
  Walk J n G Y ∧ ∀ D, H1 D = none → ∃ Pv : Nat → Hp → Prop, Pv 0 (upd H1 D (.lst [])) ∧ (∀ i H, i ≤ n → Pv i H → G H) ∧ turn D Pv ∧ ∀ H', Pv n H' → Q (.ref D) H'
theorem wI_mono {tg it : Expr} {R R' : It → Hp → Prop} (h : wI X tg it σ H R) (k : ∀ J H1, R J H1 → R' J H1) : wI X tg it σ H R' := fun pins s I =>
  thn (h pins s I) fun v s1 h1 => thn h1 fun u s2 ⟨it', fp, tn, J, H', e1, I2, T, st, f2, r⟩ => ⟨it', fp, tn, J, H', e1, I2, T, st, f2, k J H' r⟩
theorem tLc_of (h : wI X tg it σ H (LcAll G Y n (LcTurn X sc tg elt (own.map (·.2)) σ Y n) Q)) : tLc (wI X tg it) (yG X sc tg) tYes (yE X sc elt) (own.map (·.2)) σ H Q :=
  wI_mono h fun J H1 ⟨w, h1⟩ D hD => by
    obtain ⟨Pv, q0, q1, q2, q3⟩ := h1 D hD
    refine lc_it w Pv q0 q1 (fun i x H' H2 hi p y => ?_) q3
    intro X' b pins s u I r
    refine thn (q2 i x H' H2 hi p y X' b pins s u I r) fun _ s1 ⟨σ3, H3, I3, e3, q⟩ => ⟨σ3, H3, I3, e3, ?_⟩
    show tYes σ3 H3 _
    unfold tYes
    dsimp only
    rw [if_pos rfl]
    exact q
theorem tLc_ofC {c : Expr} (h : wI X tg it σ H (LcAll G Y n (LcTurnC X sc tg c elt (own.map (·.2)) σ Y n) Q)) : tLc (wI X tg it) (yG X sc tg) (yT X sc c) (yE X sc elt) (own.map (·.2)) σ H Q :=
  wI_mono h fun J H1 ⟨w, h1⟩ D hD => by
    obtain ⟨Pv, q0, q1, q2, q3⟩ := h1 D hD
    exact lc_it w Pv q0 q1 (fun i x H' H2 hi p y => q2 i x H' H2 hi p y) q3
theorem w_lc (hc : X.calm = true) (hN : X.N.Nodup) (ok : BlkOk X.N X.env.scope sc own) (h : wI X tg it σ H (LcAll G Y n (LcTurn X sc tg elt (own.map (·.2)) σ Y n) Q)) (hs : ∀ x, foldedSetIterable it X.env x = pure x := by intro _; rfl) :
    wE X (.ListComp elt [⟨tg, it, [], 0⟩] sc pos) σ H Q := wE_of (pe_lc hc hN pI ok yG_pg (fun _ _ _ _ _ => pts_nil) yE_pe hs) (tLc_of h)
theorem w_lcC {c : Expr} (hc : X.calm = true) (hN : X.N.Nodup) (ok : BlkOk X.N X.env.scope sc own) (h : wI X tg it σ H (LcAll G Y n (LcTurnC X sc tg c elt (own.map (·.2)) σ Y n) Q)) (hs : ∀ x, foldedSetIterable it X.env x = pure x := by intro _; rfl) :
    wE X (.ListComp elt [⟨tg, it, [c], 0⟩] sc pos) σ H Q := wE_of (pe_lc hc hN pI ok yG_pg (fun s H C cl fp => pts_one (yT_pt s H C cl fp)) yE_pe hs) (tLc_ofC h)
/-- y = [..] -/
theorem s_lc {i : Nat} {y : Str} {py spos : Pos} {rest : List Stmt} {D : Ends} (hc : X.calm = true) (o : Own X i y) (hyl : X.env.scope.names.lookup y = some .local) (hsw : swapsWith (.ListComp elt [⟨tg, it, [], 0⟩] sc pos) (some (.Name y py)) spos.line X.env = pure true) (ok : BlkOk X.N X.env.scope sc own)
    (h : wI X tg it σ H (LcAll G Y n (LcTurn X sc tg elt (own.map (·.2)) σ Y n) fun v H1 => wSs X rest D (σ.set i (some v)) H1)) (hs : ∀ x, foldedSetIterable it X.env x = pure x := by intro _; rfl) :
    wSs X (.Assign [.Name y py] (.ListComp elt [⟨tg, it, [], 0⟩] sc pos) spos :: rest) D σ H := s_of (ps_setLc hc o.nd o.s.n hyl hsw pI ok yG_pg (fun _ _ _ _ _ => pts_nil) yE_pe hs) (tLc_of h)
theorem s_lcC {c : Expr} {i : Nat} {y : Str} {py spos : Pos} {rest : List Stmt} {D : Ends} (hc : X.calm = true) (o : Own X i y) (hyl : X.env.scope.names.lookup y = some .local) (hsw : swapsWith (.ListComp elt [⟨tg, it, [c], 0⟩] sc pos) (some (.Name y py)) spos.line X.env = pure true) (ok : BlkOk X.N X.env.scope sc own)
    (h : wI X tg it σ H (LcAll G Y n (LcTurnC X sc tg c elt (own.map (·.2)) σ Y n) fun v H1 => wSs X rest D (σ.set i (some v)) H1)) (hs : ∀ x, foldedSetIterable it X.env x = pure x := by intro _; rfl) :
    wSs X (.Assign [.Name y py] (.ListComp elt [⟨tg, it, [c], 0⟩] sc pos) spos :: rest) D σ H := s_of (ps_setLc hc o.nd o.s.n hyl hsw pI ok yG_pg (fun s H C cl fp => pts_one (yT_pt s H C cl fp)) yE_pe hs) (tLc_ofC h)
/-- a name of the block -/
theorem yg_name {x : Str} {j : Nat} {p2 : Pos} {v : V} {σ : L2.St} {H : Hp} {Qs : L2.St → Hp → Prop} (hN : X.N.Nodup) (hj : X.N[j]? = some x) (hl : (relS sc X.env.scope).names.lookup x = some .local) (h : Qs (σ.set j (some v)) H) : yG X sc (.Name x p2) v σ H Qs := by
  rintro X' ⟨s, H0, C, cl, fp, rfl⟩
  exact wG_of (pg_name (X := X.blk s H0 sc (compEnvC sc cl C X.env) fp) hN hj (.inl hl) (.inr hl)) h
theorem yg_tup2 {x1 x2 : Str} {j1 j2 k : Nat} {p1 p2 p3 : Pos} {a : Addr} {v1 v2 : V} {σ : L2.St} {H : Hp} {Qs : L2.St → Hp → Prop} (hc : X.calm = true) (hN : X.N.Nodup) (h1 : X.N[j1]? = some x1) (h2 : X.N[j2]? = some x2) (hl1 : (relS sc X.env.scope).names.lookup x1 = some .local) (hl2 : (relS sc X.env.scope).names.lookup x2 = some .local)
    (ht : SqT X.K H a [v1, v2]) (h : Qs ((σ.set j1 (some v1)).set j2 (some v2)) H) : yG X sc (.Tuple [.Name x1 p1, .Name x2 p2] k p3) (.ref a) σ H Qs := by
  rintro X' ⟨s, H0, C, cl, fp, rfl⟩
  exact g_tup2 (X := X.blk s H0 sc (compEnvC sc cl C X.env) fp) hc ht (wG_of (pg_name (X := X.blk s H0 sc (compEnvC sc cl C X.env) fp) hN h1 (.inl hl1) (.inr hl1)) (wG_of (pg_name (X := X.blk s H0 sc (compEnvC sc cl C X.env) fp) hN h2 (.inl hl2) (.inr hl2)) h))
theorem yg_tup3 {x1 x2 x3 : Str} {j1 j2 j3 k : Nat} {p1 p2 p3 p4 : Pos} {a : Addr} {v1 v2 v3 : V} {σ : L2.St} {H : Hp} {Qs : L2.St → Hp → Prop} (hc : X.calm = true) (hN : X.N.Nodup) (h1 : X.N[j1]? = some x1) (h2 : X.N[j2]? = some x2) (h3 : X.N[j3]? = some x3) (hl1 : (relS sc X.env.scope).names.lookup x1 = some .local)
    (hl2 : (relS sc X.env.scope).names.lookup x2 = some .local) (hl3 : (relS sc X.env.scope).names.lookup x3 = some .local) (ht : SqT X.K H a [v1, v2, v3]) (h : Qs (((σ.set j1 (some v1)).set j2 (some v2)).set j3 (some v3)) H) : yG X sc (.Tuple [.Name x1 p1, .Name x2 p2, .Name x3 p3] k p4) (.ref a) σ H Qs := by
  rintro X' ⟨s, H0, C, cl, fp, rfl⟩
  have g1 := pg_name (X := X.blk s H0 sc (compEnvC sc cl C X.env) fp) (pos := p1) hN h1 (.inl hl1) (.inr hl1)
  have g2 := pg_name (X := X.blk s H0 sc (compEnvC sc cl C X.env) fp) (pos := p2) hN h2 (.inl hl2) (.inr hl2)
  have g3 := pg_name (X := X.blk s H0 sc (compEnvC sc cl C X.env) fp) (pos := p3) hN h3 (.inl hl3) (.inr hl3)
  have g := pg_tup (X := X.blk s H0 sc (compEnvC sc cl C X.env) fp) (k := k) (pos := p4) hc (pgs_cons g1 (pgs_cons g2 (pgs_cons g3 pgs_nil)))
  exact wG_of g ⟨a, _, rfl, ht, rfl, v1, _, rfl, v2, _, rfl, v3, _, rfl, rfl, h⟩
end

/-! ### a comprehension whose element is a value -/
section
variable {X X' : Cx} {sc : Scope} {elt tg it : Expr} {pos : Pos} {own : List (Str × Nat)} {σ : L2.St} {H B : Hp} {l : List Ob} {Q : VK} {G : Hp → Prop} {Y : Nat → Hp → V → Hp → Prop} {n : Nat}
/-- the turns' invariant: the list so far -/
abbrev LcP (B : Hp) (l : List Ob) (D : Addr) (f : Nat → Bool) (y : Nat → V) (i : Nat) (H : Hp) : Prop := Cfg B ((D, .lst (given i f y)) :: l) H
theorem lc_vals {J : It} {H1 : Hp} (w : Walk J n G Y) (c : Cfg B l H1) (hn : n ≤ 100000) (hG : ∀ H, Cfg B l H → G H) (y : Nat → V)
    (ht : ∀ i x H' H2, i < n → Cfg B l H' → Y i H' x H2 → Ex H' H2 ∧ ∀ Qs : L2.St → Hp → Prop, (∀ σ3 H3, Cfg B l H3 → Ex H2 H3 → (∀ X', Blk X sc X' → EV X' elt σ3 B l (y i)) → wipe σ3 (own.map (·.2)) = wipe σ (own.map (·.2)) → Qs σ3 H3) → yG X sc tg x (wipe σ (own.map (·.2))) H2 Qs)
    (k : ∀ D H2, H1 D = none → Cfg B ((D, .lst ((List.range n).map y)) :: l) H2 → Q (.ref D) H2) : LcAll G Y n (LcTurn X sc tg elt (own.map (·.2)) σ Y n) Q J H1 := by
  refine ⟨w, fun D hD => ⟨fun i H => Cfg B ((D, .lst ((List.range i).map y)) :: l) H, c.add hD, fun i H _ p => hG H p.drop, fun i x H' H2 hi p hy => ?_, fun H' p => k D H' hD p⟩⟩
  obtain ⟨e1, t⟩ := ht i x H' H2 hi p.drop hy
  refine t _ fun σ3 H3 c3 e3 he hw => ⟨hw, fun X' b => ?_⟩
  have p3 : Cfg B ((D, .lst ((List.range i).map y)) :: l) H3 := p.mono (e1.trans e3)
  refine he X' b H3 c3 H3 (Ex.refl H3) _ fun H4 e4 => ?_
  have p4 := p3.mono e4
  refine ⟨_, p4.own _ _ List.mem_cons_self, ?_, ?_⟩
  · rw [List.length_map, List.length_range]
    exact sz_lt (by omega)
  · have q := p4.put (o' := .lst ((List.range i).map y ++ [y i])) List.mem_cons_self
    unfold put at q
    rw [if_pos rfl] at q
    show Cfg B ((D, .lst ((List.range (i + 1)).map y)) :: l) _
    rw [List.range_succ, List.map_append]
    exact q
end
end QW
/-! QW5: defs and their calls, built-ins. -/
namespace QW
open PySem L2 Evl

/-! ### what is told of the context of a def's body -/
structure Bd (X : Cx) (N : List Str) (sc : Scope) (k : Nat) : Prop where
  n : X.N = N
  sc : X.env.scope = sc
  calm : X.calm = true
  fn : ∀ x, X.fn x = true
  stk : X.stack = X.env :: X.outer
  frm : X.env.frame = some X.env.locals
  ex : X.ex = []
  room : Room k X.A
  po : PassesOwn (model X.prog X.w) X.A X.env X.xe
  nd : X.N.Nodup
theorem FnOk.up {P : Program} {w : World} {K : PySem.W.Frag} {mg : Str → Option Value} {base : Heap} {k : Nat} {f : Addr} {fd : FuncData} {ps : List Str} {sp : Sp} {CXx : CXT} (h : FnOk P w K mg base CX0 k f fd ps sp) : FnOk P w K mg base CXx k f fd ps sp :=
  ⟨h.len, fun A outer s H args us vs Q E hr e0 hb r hs => codeAny_mono (h.run A outer s H args us vs Q E hr e0 hb r hs) fun r s' z => by
    cases r with
    | error e => exact (show False from z).elim
    | ok fl => cases fl <;> exact z⟩
/-- a def of the module: it keeps the promise, it stands by its name; ds: what fills up behind the written arguments -/
structure Callee (P : Program) (w : World) (K : PySem.W.Frag) (mg : Str → Option Value) (base : Heap) (k : Nat) (x : Str) (dvs : List V) (sp : Sp) : Prop where
  ex : ∃ (f : Addr) (fd : FuncData) (ps : List Str) (ds : List Value), FnOk P w K mg base (L2.CX P w) k f fd ps sp ∧ mg x = some (.ref f) ∧ PySem.W.keepIn K (.ref f) = true ∧ Binds K fd ps ds ∧ Vals dvs ds
/-- where a def stands -/
def At (K : PySem.W.Frag) (mg : Str → Option Value) (x : Str) (st : Stmt) (dvs : List V) : Prop := ∃ f fd, FunD K x x (defArgs st) (defBody st) (defScope st) dvs [] f fd ∧ mg x = some (.ref f)
section
variable {P : Program} {w : World} {K : PySem.W.Frag} {mg : Str → Option Value} {base : Heap} {x : Str} {st : Stmt} {N ps : List Str} {k : Nat} {sp : Sp}
theorem fnOk_mk {qual : Str} {dvs : List V} {f : Addr} {fd : FuncData} {pa : Arguments} {bd : List Stmt} {sc : Scope} (F : FunD K x qual pa bd sc dvs [] f fd) (S : FnScope N ps sc) (len : ∀ vs H Q E, sp vs H Q E → vs.length = ps.length)
    (h : ∀ X : Cx, X.prog = P → X.w = w → X.K = K → X.mg = mg → X.base = base → Bd X N sc k → ∀ E : XK, Takes X (fun c d _ H => E c d H) → ∀ vs H Q, sp vs H Q E → wSs X bd { nx := fun _ H' => Q .non H', rt := Q } (start N vs) H) : FnOk P w K mg base (L2.CX P w) (k + 1) f fd ps sp :=
  F.ok S len fun cdv A outer s H vs Q E hr hsp => ⟨_, pSs, h _ rfl rfl rfl rfl rfl ⟨rfl, rfl, rfl, fun _ => rfl, rfl, rfl, rfl, hr, passes_of rfl, S.nd⟩ E (takes_of rfl rfl rfl rfl) vs H Q hsp⟩
/-- a def without defaults -/
theorem callee_mk (F : At K mg x st []) (S : FnScope N ps (defScope st)) (hb : ∀ (kV doc pm : Value) (an : Option Addr) (cdv ct : Value) (us : List Value), us.length = ps.length → bindArgs (PySem.W.fnOf x x (defArgs st) (defBody st) (defScope st) .none kV doc pm an cdv ct) ⟨us, []⟩ = pure (ps.zip us))
    (len : ∀ vs H Q E, sp vs H Q E → vs.length = ps.length)
    (h : ∀ X : Cx, X.prog = P → X.w = w → X.K = K → X.mg = mg → X.base = base → Bd X N (defScope st) k → ∀ E : XK, Takes X (fun c d _ H => E c d H) → ∀ vs H Q, sp vs H Q E → wSs X (defBody st) { nx := fun _ H' => Q .non H', rt := Q } (start N vs) H) : Callee P w K mg base (k + 1) x [] sp := by
  obtain ⟨f, fd, F, hm⟩ := F
  exact ⟨f, fd, ps, [], fnOk_mk F S len h, hm, F.kp, F.bindsN hb, .nil⟩
theorem Callee.mono {j : Nat} {dvs : List V} (c : Callee P w K mg base j x dvs sp) (h : j ≤ k) : Callee P w K mg base k x dvs sp := by
  obtain ⟨f, fd, ps, ds, F, r⟩ := c.ex
  exact ⟨f, fd, ps, ds, F.mono h, r⟩
end
section
variable {X : Cx} {N : List Str} {sc : Scope} {k j i : Nat} {x : Str} {sp : Sp} {dvs vs : List V} {e : Expr} {es : List Expr} {p pos : Pos} {σ : L2.St} {H B : Hp} {l : List Ob} {Q : VK} {v : V}
theorem Bd.own (b : Bd X N sc k) (h : N[i]? = some x) (hl : Loc sc x) (d : (x == ("__debug__" : Str)) = false := by decide +kernel) (d2 : (x == ("__classdict__" : Str)) = false := by decide +kernel) : Own X i x := by
  have hl' : Loc X.env.scope x := by rw [b.sc]; exact hl
  exact ⟨⟨by rw [b.n]; exact h, hl'.elim Or.inl fun z => Or.inr (Or.inl z), d, d2⟩, hl', b.fn x, b.nd⟩
theorem Bd.gl (b : Bd X N sc k) (h : sc.names.lookup x = some .globalImplicit) : Gl X x := by
  show X.env.scope.names.lookup x = some .globalImplicit
  rw [b.sc]
  exact h
theorem Blk.slot {X' : Cx} {s : Scope} (y : Blk X s X') (b : Bd X N sc k) (h : N[i]? = some x) (hl : Vis (relS s sc) x) (d : (x == ("__debug__" : Str)) = false := by decide +kernel) (d2 : (x == ("__classdict__" : Str)) = false := by decide +kernel) : Slot X' i x := by
  obtain ⟨_, _, h3, _, h5, _⟩ := y.K
  exact ⟨by rw [h3, b.n]; exact h, by rw [h5, b.sc]; exact hl, d, d2⟩
theorem Blk.gl {X' : Cx} {s : Scope} (y : Blk X s X') (b : Bd X N sc k) (h : (relS s sc).names.lookup x = some .globalImplicit) : Gl X' x := by
  obtain ⟨_, _, _, _, h5, _⟩ := y.K
  show X'.env.scope.names.lookup x = some .globalImplicit
  rw [h5, b.sc]
  exact h
/-- f(e, ..): the call of a def, nothing raised -/
theorem w_call (C : Callee X.prog X.w X.K X.mg X.base j x dvs sp) (hr : Room k X.A) (hj : j ≤ k) (hg : Gl X x) (h : wA X (e :: es) σ H fun us H1 => sp (us ++ dvs) H1 Q E0) (hdb : (x == ("__debug__" : Str)) = false := by decide +kernel)
    (he : starEach (e :: es) X.env = (false, eval e X.env) :: starEach es X.env := by rfl) (hpl : (backTo pos (starEach es X.env)).any (·.1) = false := by rfl) : wE X (.Call (.Name x p) (e :: es) [] pos) σ H Q := by
  obtain ⟨f, fd, ps, ds, F, hm, hk, hb, hd⟩ := C.ex
  exact wE_of (pe_call F (hr.mono hj) hg hm hk hb hd passL pA hdb he hpl) h
theorem w_call0 (C : Callee X.prog X.w X.K X.mg X.base j x dvs sp) (hr : Room k X.A) (hj : j ≤ k) (hg : Gl X x) (h : sp dvs H Q E0) (hdb : (x == ("__debug__" : Str)) = false := by decide +kernel) : wE X (.Call (.Name x p) [] [] pos) σ H Q := by
  obtain ⟨f, fd, ps, ds, F, hm, hk, hb, hd⟩ := C.ex
  exact wE_of (pe_call0 F (hr.mono hj) hg hm hk hb hd passL hdb) h
/-- the promise of a def that hands back a value and changes nothing -/
def SpVal (sp : Sp) (vs : List V) (B : Hp) (l : List Ob) (v : V) : Prop := ∀ H, Cfg B l H → ∀ (Q : VK) (E : XK), (∀ H2, Ex H H2 → Q v H2) → sp vs H Q E
theorem e_call (C : Callee X.prog X.w X.K X.mg X.base j x [] sp) (hr : Room k X.A) (hj : j ≤ k) (hg : Gl X x) (h : EA X (e :: es) σ B l vs) (hs : SpVal sp vs B l v) (hdb : (x == ("__debug__" : Str)) = false := by decide +kernel)
    (he : starEach (e :: es) X.env = (false, eval e X.env) :: starEach es X.env := by rfl) (hpl : (backTo pos (starEach es X.env)).any (·.1) = false := by rfl) : EV X (.Call (.Name x p) (e :: es) [] pos) σ B l v := ⟨fun H c H1 e1 Q q =>
  w_call C hr hj hg (goA h (c.mono e1) fun H2 e2 c2 => by
    rw [List.append_nil]
    exact hs H2 c2 _ _ fun H3 e3 => q H3 (e2.trans e3)) hdb he hpl⟩
end

/-! ### built-ins -/
section
variable {X : Cx} {e e1 e2 : Expr} {es : List Expr} {p' pos : Pos} {σ : L2.St} {H B : Hp} {l : List Ob} {Q : VK} {v : V} {p : Addr} {xs : List V} {i j : Int} {z : Str} {S : String}
theorem e_lenL (hg : Gl X "len") (hm : X.mg "len" = none) (h : EV X e σ B l (.ref p)) (hl : Lst X.K B l p xs) (hs : starEach [e] X.env = (false, eval e X.env) :: starEach [] X.env := by rfl) (hpl : (backTo pos (starEach [] X.env)).any (·.1) = false := by rfl) : EV X (.Call (.Name "len" p') [e] [] pos) σ B l (.int xs.length) :=
  e_callB call_len_seq hg hm boot_len (a_cons h a_nil hs) (fun H c H1 e1 Q q => ⟨p, xs, rfl, Or.inl (ex_l e1 (hl H c)), q H1 (Ex.refl H1)⟩) (by decide) (by decide) hs hpl
theorem e_lenT (hg : Gl X "len") (hm : X.mg "len" = none) (h : EV X e σ B l (.ref p)) (hl : Tup X.K B l p xs) (hs : starEach [e] X.env = (false, eval e X.env) :: starEach [] X.env := by rfl) (hpl : (backTo pos (starEach [] X.env)).any (·.1) = false := by rfl) : EV X (.Call (.Name "len" p') [e] [] pos) σ B l (.int xs.length) :=
  e_callB call_len_seq hg hm boot_len (a_cons h a_nil hs) (fun H c H1 e1 Q q => ⟨p, xs, rfl, Or.inr (ex_t e1 (hl H c)), q H1 (Ex.refl H1)⟩) (by decide) (by decide) hs hpl
theorem e_lenS (hg : Gl X "len") (hm : X.mg "len" = none) (h : EV X e σ B l (.str z)) (hz : z.length ≤ sizeLine) (hs : starEach [e] X.env = (false, eval e X.env) :: starEach [] X.env := by rfl) (hpl : (backTo pos (starEach [] X.env)).any (·.1) = false := by rfl) : EV X (.Call (.Name "len" p') [e] [] pos) σ B l (.int z.length) :=
  e_callB call_len_str hg hm boot_len (a_cons h a_nil hs) (fun H c H1 e1 Q q => ⟨z, rfl, hz, q H1 (Ex.refl H1)⟩) (by decide) (by decide) hs hpl
theorem e_lenD {kvs : List (Key × V)} (hg : Gl X "len") (hm : X.mg "len" = none) (h : EV X e σ B l (.ref p)) (hl : Std B l p (.dK kvs)) (hs : starEach [e] X.env = (false, eval e X.env) :: starEach [] X.env := by rfl) (hpl : (backTo pos (starEach [] X.env)).any (·.1) = false := by rfl) : EV X (.Call (.Name "len" p') [e] [] pos) σ B l (.int kvs.length) :=
  e_callB call_lenD hg hm boot_len (a_cons h a_nil hs) (fun H c H1 e1 Q q => ⟨p, kvs, rfl, e1 _ _ (hl H c), q H1 (Ex.refl H1)⟩) (by decide) (by decide) hs hpl
theorem e_intB {b : Bool} (hg : Gl X "int") (hm : X.mg "int" = none) (h : EV X e σ B l (.bl b)) (hs : starEach [e] X.env = (false, eval e X.env) :: starEach [] X.env := by rfl) (hpl : (backTo pos (starEach [] X.env)).any (·.1) = false := by rfl) : EV X (.Call (.Name "int" p') [e] [] pos) σ B l (.int (if b = true then 1 else 0)) :=
  e_callTy call_int1 hg hm (by decide +kernel) (a_cons h a_nil hs) (fun H c H1 e1 Q q => Or.inr ⟨b, rfl, by cases b <;> exact q H1 (Ex.refl H1)⟩) (by decide) (by decide) hs hpl
theorem e_max2 (hc : X.calm = true) (hg : Gl X "max") (hm : X.mg "max" = none) (h1 : EV X e1 σ B l (.int i)) (h2 : EV X e2 σ B l (.int j)) (hs : starEach (e1 :: [e2]) X.env = (false, eval e1 X.env) :: starEach [e2] X.env := by rfl) (hs2 : starEach [e2] X.env = (false, eval e2 X.env) :: starEach [] X.env := by rfl)
    (hpl : (backTo pos (starEach [e2] X.env)).any (·.1) = false := by rfl) : EV X (.Call (.Name "max" p') [e1, e2] [] pos) σ B l (.int (if j > i then j else i)) :=
  e_callB (call_max2 hc) hg hm (by decide +kernel) (a_cons h1 (a_cons h2 a_nil hs2) hs) (fun H c H1 e1 Q q => ⟨i, j, rfl, q H1 (Ex.refl H1)⟩) (by decide) (by decide) hs hpl
theorem e_min2 (hc : X.calm = true) (hg : Gl X "min") (hm : X.mg "min" = none) (h1 : EV X e1 σ B l (.int i)) (h2 : EV X e2 σ B l (.int j)) (hs : starEach (e1 :: [e2]) X.env = (false, eval e1 X.env) :: starEach [e2] X.env := by rfl) (hs2 : starEach [e2] X.env = (false, eval e2 X.env) :: starEach [] X.env := by rfl)
    (hpl : (backTo pos (starEach [e2] X.env)).any (·.1) = false := by rfl) : EV X (.Call (.Name "min" p') [e1, e2] [] pos) σ B l (.int (if j < i then j else i)) :=
  e_callB (call_min2 hc) hg hm (by decide +kernel) (a_cons h1 (a_cons h2 a_nil hs2) hs) (fun H c H1 e1 Q q => ⟨i, j, rfl, q H1 (Ex.refl H1)⟩) (by decide) (by decide) hs hpl
theorem e_ty {n : String} (hg : Gl X x) (hm : X.mg x = none) (hv : bootBuiltins x = some (.type n)) (hn : x ≠ "__name__") (hd : (x == ("__debug__" : Str)) = false) : EV X (.Name x pos) σ B l (.ty n) := ev_of (pe_bltn (v := .ty n) hg hm hv rfl hn hd) fun H c => ev_c
/-- isinstance(x, T), T built-in -/
theorem e_isi {u : Value} {n : String} {b : Bool} {c : Expr} (hg : Gl X "isinstance") (hm : X.mg "isinstance" = none) (h : EV X e σ B l v) (hc : EV X c σ B l (.ty n)) (ht : ∀ H, Cfg B l H → TyX X.K H v u) (hk : PySem.W.kitOne X.K u (.type n) = some b) (hs : starEach (e :: [c]) X.env = (false, eval e X.env) :: starEach [c] X.env := by rfl)
    (hs2 : starEach [c] X.env = (false, eval c X.env) :: starEach [] X.env := by rfl) (hpl : (backTo pos (starEach [c] X.env)).any (·.1) = false := by rfl) : EV X (.Call (.Name "isinstance" p') [e, c] [] pos) σ B l (.bl b) :=
  e_callB call_isi hg hm (by decide +kernel) (a_cons h (a_cons hc a_nil hs2) hs) (fun H c H1 e1 Q q => ⟨v, .ty n, u, _, b, rfl, .ty n, ht H1 (c.mono e1), hk, q H1 (Ex.refl H1)⟩) (by decide) (by decide) hs hpl
end
end QW
namespace QW
open PySem L2 Evl
/-- all but p stands -/
def ExBut (p : Addr) (H H2 : Hp) : Prop := ∀ a u, a ≠ p → H a = some u → H2 a = some u
theorem ExBut.of {p : Addr} {H H2 : Hp} (e : Ex H H2) : ExBut p H H2 := fun a u _ h => e a u h
theorem ExBut.upd {p : Addr} {H H2 : Hp} {o : HO} (e : ExBut p H H2) : ExBut p H (upd H2 p o) := fun a u n h => by rw [upd_ne n]; exact e a u n h
theorem ExBut.trans {p : Addr} {H H1 H2 : Hp} (a : ExBut p H H1) (b : ExBut p H1 H2) : ExBut p H H2 := fun x u n h => b x u n (a x u n h)
theorem Cfg.but {B H H2 : Hp} {l : List Ob} {p : Addr} {o o' : HO} (c : Cfg B l H) (m : (p, o) ∈ l) (e : ExBut p H H2) (h : H2 p = some o') : Cfg B (QW.put p o' l) H2 := by
  have hB := c.fr p o m
  refine ⟨fun a u ha => e a u (fun z => by rw [z, hB] at ha; cases ha) (c.ex a u ha), fun q u mq => ?_, fun q u mq => ?_, by rw [put_map]; exact c.nd⟩
  · rcases put_mem c.nd mq with ⟨rfl, rfl⟩ | ⟨z1, z2⟩
    · exact h
    · exact e q u z1 (c.own q u z2)
  · rcases put_mem c.nd mq with ⟨rfl, rfl⟩ | ⟨z1, z2⟩
    · exact hB
    · exact c.fr q u z2
theorem Cfg.look {B H : Hp} {l : List Ob} {p : Addr} {o : HO} (c : Cfg B l H) (m : (p, o) ∈ l) : H p = some o := c.own p o m
end QW
namespace QW
open PySem L2 Evl
/-- what stands but for p -/
def off (H : Hp) (p : Addr) : Hp := fun a => if a = p then none else H a
theorem off_ne {H : Hp} {p a : Addr} (h : a ≠ p) : off H p a = H a := if_neg h
theorem off_same {H : Hp} {p : Addr} : off H p p = none := if_pos rfl
theorem Cfg.own1 {H : Hp} {p : Addr} {o : HO} (h : H p = some o) : Cfg (off H p) [(p, o)] H := by
  refine ⟨fun a u e => ?_, fun q u m => ?_, fun q u m => ?_, by simp⟩
  · by_cases ha : a = p
    · subst ha; rw [off_same] at e; cases e
    · rw [off_ne ha] at e; exact e
  · cases List.mem_singleton.mp m; exact h
  · cases List.mem_singleton.mp m; exact off_same
theorem Cfg.back {H H2 : Hp} {p : Addr} {l : List Ob} (c : Cfg (off H p) l H2) : ExBut p H H2 := fun a u n e => c.ex a u (by rw [off_ne n]; exact e)
theorem ex_off {H : Hp} {p : Addr} : ∀ {a : Addr} {u : HO}, off H p a = some u → H a = some u := fun {a u} e => by
  by_cases ha : a = p
  · subst ha; rw [off_same] at e; cases e
  · rw [off_ne ha] at e; exact e
end QW
/-! QW6: the head's facts: names, defs, tables, and one more check of one's own. -/
namespace QW
open PySem L2 Evl He
abbrev AlC : Type := AlT × Bool
def obsC (fa : List Fa) (fn : List DefD) (ts : List Tab) (ck : PySem.W.Frag → Bool) (K : PySem.W.Frag) : AlC := (obsT fa fn ts K, ck K)
def valC (fn : List DefD) (ts : List Tab) (w : World) : AlC := (valT fn ts w, true)
def obsCG (n : Nat) (fa : List Fa) (fn : List DefD) (ts : List Tab) (ck : PySem.W.Frag → Bool) (g : Addr → Option PySem.Obj) : AlC := obsC fa fn ts ck (frG g (asD g n))
def SaysC (fa : List Fa) (fn : List DefD) (ts : List Tab) (ck : PySem.W.Frag → Bool) (w : World) (K : PySem.W.Frag) : Prop := obsC fa fn ts ck K = valC fn ts w
def hookC (n : Nat) (fa : List Fa) (fn : List DefD) (ts : List Tab) (ck : PySem.W.Frag → Bool) : PySem.W.Hook where
  α := AlC
  obs := fun s => obsCG n fa fn ts ck s.heap.get?
  val := fun w => valC fn ts w
  says := fun w h => ∃ K : PySem.W.Frag, K.In h ∧ SaysC fa fn ts ck w K
  of := fun _ _ e => ⟨_, frG_in, e⟩
  keeps := fun _ _ _ ⟨K, hK, c⟩ k => ⟨K, PySem.W.Frag.In.keeps hK k, c⟩
theorem obsCG_eq {n : Nat} {fa : List Fa} {fn : List DefD} {ts : List Tab} {ck : PySem.W.Frag → Bool} {g : Addr → Option PySem.Obj} {s : Shared} (h : ∀ a, g a = s.heap.get? a) : obsCG n fa fn ts ck g = (hookC n fa fn ts ck).obs s := by
  rw [show g = s.heap.get? from funext h]
  rfl
section
variable {fa : List Fa} {fn : List DefD} {ts : List Tab} {ck : PySem.W.Frag → Bool} {w : World} {K : PySem.W.Frag} {h : Heap} {mg : Str → Option Value}
theorem SaysC.t (c : SaysC fa fn ts ck w K) : SaysT fa fn ts w K := congrArg (fun z : AlC => z.1) c
theorem SaysC.own (c : SaysC fa fn ts ck w K) : ck K = true := congrArg (fun z : AlC => z.2) c
theorem SaysC.free (c : SaysC fa fn ts ck w K) (X : K.In h) (G : h.Ns mainGlobals mg) (i : Nat) {x : Str} (e : fa[i]? = some (.free x) := by rfl) : mg x = none := free_ok X G (c.t.d.fact i e)
theorem SaysC.glo (c : SaysC fa fn ts ck w K) (X : K.In h) (G : h.Ns mainGlobals mg) (i : Nat) {x : Str} (e : fa[i]? = some (.glo x) := by rfl) : mg x = some (.ref (ga K x)) := glo_ok X G (c.t.d.fact i e)
theorem SaysC.int (c : SaysC fa fn ts ck w K) (X : K.In h) (G : h.Ns mainGlobals mg) (i : Nat) {x : Str} {n : Int} (e : fa[i]? = some (.int x n) := by rfl) : ∃ t, mg x = some (.int n t) := int_ok X G (c.t.d.fact i e)
theorem SaysC.str (c : SaysC fa fn ts ck w K) (X : K.In h) (G : h.Ns mainGlobals mg) (i : Nat) {x z : Str} (e : fa[i]? = some (.str x z) := by rfl) : ∃ t, mg x = some (.str z t) := str_ok X G (c.t.d.fact i e)
/-- a def of the module -/
theorem SaysC.df (c : SaysC fa fn ts ck w K) (X : K.In h) (G : h.Ns mainGlobals mg) (i j : Nat) {x : Str} {st : Stmt} {dfl : List Dv} (e : fn[i]? = some ⟨(x, none), x, x, defArgs st, defBody st, defScope st, dfl, []⟩ := by rfl) (e2 : fa[j]? = some (.glo x) := by rfl) : At K mg x st (dfl.map (Dv.v K)) := by
  obtain ⟨fd, F⟩ := c.t.d.def_ i e
  exact ⟨_, fd, F, glo_ok X G (c.t.d.fact j e2)⟩
end
end QW
/-! QW7: more calls, tuples' least, lists joined, texts searched, tables. -/
namespace QW
open PySem L2 Evl He PySem.Spec PyProof.Rows

/-! ### f(a = .., b = ..): keywords alone, in the parameters' order -/
structure CalleeK (P : Program) (w : World) (K : PySem.W.Frag) (mg : Str → Option Value) (base : Heap) (k : Nat) (x : Str) (ks : List Str) (sp : Sp) : Prop where
  ex : ∃ (f : Addr) (fd : FuncData) (ps : List Str), FnOk P w K mg base (L2.CX P w) k f fd ps sp ∧ mg x = some (.ref f) ∧ PySem.W.keepIn K (.ref f) = true ∧ KBn K fd ps 0 ks (fun _ ws => ws) (fun _ zs => zs)
section
variable {P : Program} {w : World} {K : PySem.W.Frag} {mg : Str → Option Value} {base : Heap} {x : Str} {st : Stmt} {N ps : List Str} {k : Nat} {sp : Sp}
/-- one promise, both ways to call it -/
theorem callee_mkK (F : At K mg x st []) (S : FnScope N ps (defScope st)) (hb : ∀ (kV doc pm : Value) (an : Option Addr) (cdv ct : Value) (us : List Value), us.length = ps.length → bindArgs (PySem.W.fnOf x x (defArgs st) (defBody st) (defScope st) .none kV doc pm an cdv ct) ⟨us, []⟩ = pure (ps.zip us))
    (hbk : ∀ (kV doc pm : Value) (an : Option Addr) (cdv ct : Value) (us : List Value), us.length = ps.length → bindArgs (PySem.W.fnOf x x (defArgs st) (defBody st) (defScope st) .none kV doc pm an cdv ct) ⟨[], ps.zip us⟩ = pure (ps.zip us))
    (len : ∀ vs H Q E, sp vs H Q E → vs.length = ps.length)
    (h : ∀ X : Cx, X.prog = P → X.w = w → X.K = K → X.mg = mg → X.base = base → Bd X N (defScope st) k → ∀ E : XK, Takes X (fun c d _ H => E c d H) → ∀ vs H Q, sp vs H Q E → wSs X (defBody st) { nx := fun _ H' => Q .non H', rt := Q } (start N vs) H) :
    Callee P w K mg base (k + 1) x [] sp ∧ CalleeK P w K mg base (k + 1) x ps sp := by
  obtain ⟨f, fd, F, hm⟩ := F
  have ok := fnOk_mk F S len h
  refine ⟨⟨f, fd, ps, [], ok, hm, F.kp, F.bindsN hb, .nil⟩, ⟨f, fd, ps, ok, hm, F.kp, ?_⟩⟩
  obtain ⟨oc, od, dV, kV, doc, pm, an, cdv, ct, osl, rfl, lk, hcd, hD, hK⟩ := F.ex
  rcases hD with ⟨_, rfl⟩ | ⟨e, _⟩
  · refine ⟨fun s us ws X l1 l2 => ?_, fun _ r => r⟩
    cases us with
    | nil => exact .of_eq (hbk kV doc pm an cdv ct ws l2)
    | cons _ _ => cases l1
  · exact absurd rfl e
theorem CalleeK.mono {j : Nat} {ks : List Str} (c : CalleeK P w K mg base j x ks sp) (h : j ≤ k) : CalleeK P w K mg base k x ks sp := by
  obtain ⟨f, fd, ps, F, r⟩ := c.ex
  exact ⟨f, fd, ps, F.mono h, r⟩
end
def wK (X : Cx) (kws : List Keyword) : TA := fun σ H Q => ∀ pos pins s, Inv X pins σ H s → wpAny (model X.prog X.w) X.A (evalAll ((backToKw pos (keywordEach kws X.env)).map (·.2))) (AP X pins σ Q) X.xe s
section
variable {X : Cx} {k j : Nat} {x : Str} {ks : List Str} {sp : Sp} {e : Expr} {kws : List Keyword} {p pos kpos : Pos} {σ : L2.St} {H : Hp} {Q : VK} {nm : Option Str}
theorem pK : PK X kws (wK X kws) := ⟨fun pos pins s σ H Q I h => h pos pins s I⟩
theorem w_knil {Q : List V → Hp → Prop} (h : Q [] H) : wK X [] σ H Q := fun pos pins s I => pk_nil.run pos pins s σ H Q I h
theorem w_kcons {Q : List V → Hp → Prop} (h : wE X e σ H fun a H1 => wK X kws σ H1 fun r H2 => Q (a :: r) H2) : wK X (⟨nm, e, kpos⟩ :: kws) σ H Q := fun pos pins s I => (pk_cons pE pK).run pos pins s σ H Q I h
theorem w_callK0 (C : CalleeK X.prog X.w X.K X.mg X.base j x ks sp) (hr : Room k X.A) (hj : j ≤ k) (hg : Gl X x) (h : wK X kws σ H fun us H1 => us.length = ks.length ∧ sp us H1 Q E0) (hdb : (x == ("__debug__" : Str)) = false := by decide +kernel)
    (hall : (backToKw pos (keywordEach kws X.env)).all (·.1.isSome) = true := by rfl) (hks : (backToKw pos (keywordEach kws X.env)).filterMap (·.1) = ks := by rfl)
    (hpl : ((backTo pos (starEach [] X.env)).any (·.1) || (backToKw pos (keywordEach kws X.env)).any (·.1.isNone)) = false := by rfl) : wE X (.Call (.Name x p) [] kws pos) σ H Q := by
  obtain ⟨f, fd, ps, F, hm, hk, hb⟩ := C.ex
  intro pins s I
  refine PySem.wpAny_Call_Name_kw (ld_glob I hg hm ?_ hdb)
  refine PySem.W.callWith_KW0 (h₀ := X.base) I.ok.mod.kin hk hall (thn (h pos pins s I) fun ws s2 ⟨zs, H2, I2, rz, l2, q2⟩ => ⟨I2.kIn, ?_⟩) hpl
  rw [hks]
  exact run_fnN F (hr.mono hj) hb passL I2 .nil rz rfl l2 q2
end

/-! ### the least of a tuple -/
section
variable {prog : Program} {w : World} {A : Around} {E : Value → Shared → Prop} {s : Shared} {l : Addr}
theorem iter_tup {xs : Array (Int × Tok)} {Q : Value → Shared → Prop} (hl : s.heap.IsTuple l (intItems xs))
    (h : ∀ s₂ : Shared, s₂ = { s with heap := s.heap.push { cls := .type "tuple_iterator", data := .fields #[.ref l, .int 0 0] } } →
      (s₂.heap.IsTupleIter s.heap.objs.size l 0 ∧ s₂.heap.IsTuple l (intItems xs)) → (∀ b ∈ [s.heap.objs.size, l], b < s₂.heap.objs.size) → l ≠ s.heap.objs.size → Q (.ref s.heap.objs.size) s₂) :
    wpAny (model prog w) A (pyIter (.ref l)) Q E s := by
  have hlt : l < s.heap.objs.size := by obtain ⟨_, e, _⟩ := hl; exact Heap.lt_size e
  refine wpAny_pyIter_tuple hl (h _ rfl ⟨⟨_, Heap.get?_push_size _ rfl, rfl, rfl⟩, hl.push _⟩ (fun b hb => ?_) (Nat.ne_of_lt hlt))
  show b < (s.heap.push _).objs.size
  rw [Heap.size_push]
  rcases List.mem_cons.mp hb with rfl | hb
  · exact Nat.lt_succ_self _
  · rcases List.mem_cons.mp hb with rfl | hb
    · exact Nat.lt_succ_of_lt hlt
    · cases hb
theorem old_tup {h' : Heap} (hk : ∀ b o, b ∉ [s.heap.objs.size] → (s.heap.push { cls := .type "tuple_iterator", data := .fields #[.ref l, .int 0 0] }).get? b = some o → h'.get? b = some o) :
    ∀ b o, s.heap.get? b = some o → h'.get? b = some o := fun b o e => by
  refine hk b o (fun hm => ?_) (Heap.get?_push_of_some _ e)
  rcases List.mem_cons.mp hm with e1 | hm
  · exact absurd (e1 ▸ Heap.lt_size e) (Nat.lt_irrefl _)
  · cases hm
theorem minT_raw {its : List Value} {ns : List Int} {Q : Value → Shared → Prop} (hh : A.handled = none) (hl : s.heap.IsTuple l its.toArray) (hi : IntsAre its ns) (hne : 0 < ns.length)
    (h : ∀ h' tk M t', (∀ b o, s.heap.get? b = some o → h'.get? b = some o) → M ∈ ns → (∀ a, a ∈ ns → M ≤ a) → Q (.int M t') { s with heap := h', toks := tk }) : wpAny (model prog w) A (call (.builtin "min") [.ref l]) Q E s := by
  obtain ⟨xs, e⟩ := hi.allInts.items
  have hn : numsOf (intItems xs).toList = ns := by rw [← e]; exact hi.numsOf
  rw [nums_intItems] at hn
  subst hn
  rw [e] at hl
  have hsz : 0 < xs.size := by simpa using hne
  refine call_min_walk (iter_tup hl fun s₂ e st hfp hlI => ?_)
  subst e
  refine ⟨_, _, _, _, _, _, _, rfl, Walks.tuple (A := A.in1) hh _ l hlI (intItems xs), st, hfp, by simpa [intItems] using hsz, CmpOf.ints_lt (numAt xs) (fun _ _ => intItems_at), fun v h' tk hP hk => ?_⟩
  have hv : (intItems xs)[argBest (fun i j => decide (numAt xs i < numAt xs j)) (xs.size - 1)]? = some v := by simpa [intItems] using hP
  obtain ⟨t, rfl⟩ := intItems_at hv
  obtain ⟨h1, h2⟩ := argBest_lt (numAt xs) (xs.size - 1)
  refine h h' tk _ t (old_tup hk) ?_ fun a ha => ?_
  · rw [numAt_eq]; exact PySem.getD_mem (by rw [List.length_map, Array.length_toList]; omega)
  · obtain ⟨j, hj, rfl⟩ := mem_getD ha
    rw [List.length_map, Array.length_toList] at hj
    rw [← numAt_eq]; exact h2 j (by omega)
end
section
variable {X : Cx}
def rMinT (K : PySem.W.Frag) : List V → Hp → VK → Prop := fun vs H Q => ∃ (a : Addr) (ns : List Int), vs = [V.ref a] ∧ SqT K H a (ns.map V.int) ∧ 0 < ns.length ∧ ∀ m, m ∈ ns → (∀ y, y ∈ ns → m ≤ y) → Q (.int m) H
theorem cr_minT (hc : X.calm = true) : CallR X (.builtin "min") (rMinT X.K) := by
  intro pins s σ H vs us Q I r h
  obtain ⟨a, ns, rfl, hs, hne, q⟩ := h
  obtain ⟨its, rv, hl, _⟩ := I.tuple hs
  rw [Vals.ref1 r]
  exact minT_raw (I.ok.hd hc) hl rv.ints hne fun h' tk m t' hk h1 h2 => ⟨.int _, H, I.kept hk, ⟨_, rfl⟩, q m h1 h2⟩
end

/-! ### joined lists, lists times a number -/
section
variable {X : Cx} {e e1 e2 : Expr} {es : List Expr} {σ : L2.St} {H B : Hp} {l : List Ob} {Q : VK} {p a b : Addr} {xs ys : List V} {v : V} {pos p' : Pos} {k : Int} {z z1 z2 : Str}
theorem w_cat (h : wE X e1 σ H fun x H1 => wE X e2 σ H1 fun y H2 => ∃ a b xs zs, x = .ref a ∧ y = .ref b ∧ H2 a = some (.lst xs) ∧ H2 b = some (.lst zs) ∧ xs.length + zs.length ≤ 100000 ∧ ∀ p, H2 p = none → Q (.ref p) (upd H2 p (.lst (xs ++ zs)))) : wE X (.BinOp e1 .Add e2 pos) σ H Q :=
  w_op op_cat (wE_mono h fun x H1 h => wE_mono h fun y H2 ⟨a, b, xs, zs, e1, e2, h1, h2, h3, q⟩ => ⟨a, b, xs, zs, e1, e2, h1, h2, by rw [sizeLine_eq]; omega, q⟩)
theorem w_rep {p1 p2 : Pos} (c : Cfg B l H) (h : EA X es σ B l xs) (hx : xs.length ≤ 100000) (h2 : EV X e2 σ B l (.int k)) (hk : -(2 ^ 63) ≤ k ∧ k < 2 ^ 63) (hn : xs.length * k.toNat ≤ 100000) (q : ∀ a H3, Ex H H3 → Cfg B ((a, .lst (List.replicate k.toNat xs).flatten) :: l) H3 → Q (.ref a) H3) : wE X (.BinOp (.List es p1) .Mult e2 p2) σ H Q :=
  w_op op_rep (n_lst c h hx fun p H1 e1 c1 => go h2 c1.drop fun H2 e2 c2 => ⟨p, k, xs, rfl, rfl, e2 _ _ (c1.look List.mem_cons_self), hk.1, hk.2, by rw [sizeLine_eq]; omega, fun a ha => q a _ ((e1.trans e2).trans (Ex.new ha)) (c2.add ha)⟩)
/-- [e, ..][i] -/
theorem e_pick {p1 p2 : Pos} {i : Int} (h : EA X es σ B l xs) (hx : xs.length ≤ 100000) (h2 : EV X e2 σ B l (.int i)) (ha : atI xs i = some v) (hs : PlainIx e2 := by exact fun _ _ => rfl) : EV X (.Subscript (.List es p1) e2 p2) σ B l v := ⟨fun H c H1 x1 Q q =>
  w_ix ix_list (n_lst (c.mono x1) h hx fun p H2 x2 c2 => go h2 c2.drop fun H3 x3 c3 => ⟨p, xs, i, v, rfl, rfl, SqL.of (x3 _ _ (c2.look List.mem_cons_self)), ha, q H3 (x2.trans x3)⟩) hs⟩
theorem w_pick {p1 p2 : Pos} (c : Cfg B l H) (h : EA X es σ B l xs) (hx : xs.length ≤ 100000) (h2 : ∀ p H1, Ex H H1 → Cfg B ((p, .lst xs) :: l) H1 → wE X e2 σ H1 fun y H2 => ∃ (i : Int) (v : V), y = .int i ∧ H2 p = some (.lst xs) ∧ atI xs i = some v ∧ Q v H2) (hs : PlainIx e2 := by exact fun _ _ => rfl) : wE X (.Subscript (.List es p1) e2 p2) σ H Q :=
  w_ix ix_list (n_lst c h hx fun p H1 e1 c1 => wE_mono (h2 p H1 e1 c1) fun y H2 ⟨i, v, e1, e2, e3, q⟩ => ⟨p, xs, i, v, rfl, e1, SqL.of e2, e3, q⟩) hs
theorem atI_last {ys : List V} {w : V} : atI (ys ++ [w]) (-1) = some w := by
  have e : ixN (ys ++ [w]).length (-1) = some ys.length := by
    unfold ixN
    rw [List.length_append]
    simp
    omega
  unfold atI
  rw [e]
  simp
/-! ### texts -/
theorem e_m1 {S : String} {nm : Str} {id : String} {r : V → List V → Hp → VK → Prop} {ap : Pos} {u w : V} (pa : PlainAttrs S) (slot : PySem.Slot S nm id) (hty : typeOf (.builtin id) = pure (.type "method_descriptor")) (hm : MtR X id r)
    (h1 : EV X e1 σ B l u) (h2 : EV X e2 σ B l w) (ht : ∀ H, Cfg B l H → tyV X.K S u H) (hr : ∀ H, Cfg B l H → ∀ Q : VK, (∀ H1, Ex H H1 → Q v H1) → r u [w] H Q) (hbase : attributeBase e1 nm X.env (eval e1 X.env) = eval e1 X.env := by rfl)
    (hfew : ((backTo pos (starEach (e2 :: []) X.env)).all (fun x => !x.1) && (backToKw pos (keywordEach [] X.env)).all (fun x => x.1.isSome)
      && decide ((e2 :: []).length + ([] : List Keyword).length + (if ([] : List Keyword).isEmpty then 0 else 1) < 30)) = true := by rfl)
    (hline : (ap.endLine == pos.line) = true := by rfl) (hs : starEach (e2 :: []) X.env = (false, eval e2 X.env) :: starEach [] X.env := by rfl) (hplain : (backTo pos (starEach [] X.env)).any (·.1) = false := by rfl) :
    EV X (.Call (.Attribute e1 nm ap) [e2] [] pos) σ B l v := ⟨fun H c H1 x1 Q q =>
  w_bm pa slot hty hm (go h1 (c.mono x1) fun H2 x2 c2 => ⟨ht H2 c2, w_acons (go h2 c2 fun H3 x3 c3 => w_anil (hr H3 c3 _ fun H4 x4 => q H4 ((x2.trans x3).trans x4))) hs⟩) hbase hfew hline hs hplain⟩
theorem e_find {ap : Pos} (h1 : EV X e1 σ B l (.str z1)) (h2 : EV X e2 σ B l (.str z2)) (hi : Txt.find z1 z2 = k) (hbase : attributeBase e1 ("find" : Str) X.env (eval e1 X.env) = eval e1 X.env := by rfl)
    (hfew : ((backTo pos (starEach (e2 :: []) X.env)).all (fun x => !x.1) && (backToKw pos (keywordEach [] X.env)).all (fun x => x.1.isSome)
      && decide ((e2 :: []).length + ([] : List Keyword).length + (if ([] : List Keyword).isEmpty then 0 else 1) < 30)) = true := by rfl)
    (hline : (ap.endLine == pos.line) = true := by rfl) (hs : starEach (e2 :: []) X.env = (false, eval e2 X.env) :: starEach [] X.env := by rfl) (hplain : (backTo pos (starEach [] X.env)).any (·.1) = false := by rfl) :
    EV X (.Call (.Attribute e1 "find" ap) [e2] [] pos) σ B l (.int k) :=
  e_m1 PySem.F.plainAttrs_str PySem.F.slot_str_find PySem.F.type_str_find mt_find h1 h2 (fun H c => rfl) (fun H c Q q => ⟨z1, z2, rfl, rfl, by rw [hi]; exact q H (Ex.refl H)⟩) hbase hfew hline hs hplain
theorem e_sindex {ap : Pos} {i : Nat} {rest : List Nat} (h1 : EV X e1 σ B l (.str z1)) (h2 : EV X e2 σ B l (.str z2)) (hi : Builtin.Str.occurrences z1 z2 0 z1.length 1 = i :: rest) (hbase : attributeBase e1 ("index" : Str) X.env (eval e1 X.env) = eval e1 X.env := by rfl)
    (hfew : ((backTo pos (starEach (e2 :: []) X.env)).all (fun x => !x.1) && (backToKw pos (keywordEach [] X.env)).all (fun x => x.1.isSome)
      && decide ((e2 :: []).length + ([] : List Keyword).length + (if ([] : List Keyword).isEmpty then 0 else 1) < 30)) = true := by rfl)
    (hline : (ap.endLine == pos.line) = true := by rfl) (hs : starEach (e2 :: []) X.env = (false, eval e2 X.env) :: starEach [] X.env := by rfl) (hplain : (backTo pos (starEach [] X.env)).any (·.1) = false := by rfl) :
    EV X (.Call (.Attribute e1 "index" ap) [e2] [] pos) σ B l (.int (i : Nat)) :=
  e_m1 PySem.F.plainAttrs_str PySem.F.slot_str_index PySem.F.type_str_index mt_sindex h1 h2 (fun H c => rfl) (fun H c Q q => ⟨z1, z2, i, rest, rfl, rfl, hi, q H (Ex.refl H)⟩) hbase hfew hline hs hplain
/-- z[:hi] -/
theorem e_cutTo {p2 : Pos} {i : Int} (h1 : EV X e1 σ B l (.str z)) (hz : z.length ≤ 100000) (h2 : EV X e2 σ B l (.int i)) : EV X (.Subscript e1 (.Slice none (some e2) none p2) pos) σ B l (.str (cutS z none (some i))) :=
  ev_of (pe_slice sl_str pE po_none (po_some pE)) fun H c H1 x1 Q q => h1 H c H1 x1 _ fun H2 x2 => h2 H c H2 (x1.trans x2) _ fun H3 x3 => ⟨i, rfl, z, rfl, sz_of hz, q H3 (x2.trans x3)⟩
/-- z[lo:] -/
theorem e_cutFrom {p2 : Pos} {i : Int} (h1 : EV X e1 σ B l (.str z)) (hz : z.length ≤ 100000) (h2 : EV X e2 σ B l (.int i)) : EV X (.Subscript e1 (.Slice (some e2) none none p2) pos) σ B l (.str (cutS z (some i) none)) :=
  ev_of (pe_slice sl_str pE (po_some pE) po_none) fun H c H1 x1 Q q => h1 H c H1 x1 _ fun H2 x2 => h2 H c H2 (x1.trans x2) _ fun H3 x3 => ⟨i, rfl, z, rfl, sz_of hz, q H3 (x2.trans x3)⟩
theorem c_ltS (h1 : EV X e1 σ B l (.str z1)) (h2 : EV X e2 σ B l (.str z2)) : EC X .Lt e1 e2 σ B l (decide (z1.cps.toList < z2.cps.toList)) := ec_R op_lt_str h1 h2 fun H c H1 x1 Q q => ⟨z1, z2, rfl, rfl, q H1 (Ex.refl H1)⟩
/-! ### tables of the module -/
theorem e_tabS (h1 : EV X e1 σ B l (.ref p)) (h2 : EV X e2 σ B l (.str z)) (hk : KDct X.K X.w p z v) (hs : PlainIx e2 := by exact fun _ _ => rfl) : EV X (.Subscript e1 e2 pos) σ B l v :=
  ev_of (pe_ix ix_kdict pE pE hs) fun H c => ev_op (h1 H c) (h2 H c) fun H1 x1 Q q => ⟨p, z, v, rfl, rfl, hk, q H1 (Ex.refl H1)⟩
/-! ### tuple(xs), min, max -/
theorem w_tupleL (c : Cfg B l H) (hg : Gl X "tuple") (hm : X.mg "tuple" = none) (h : wE X e σ H fun v H1 => ∃ a ys, v = .ref a ∧ SqL X.K H1 a ys ∧ ∀ p, H1 p = none → Q (.ref p) (upd H1 p (.tup ys))) (hs : starEach [e] X.env = (false, eval e X.env) :: starEach [] X.env := by rfl) (hpl : (backTo pos (starEach [] X.env)).any (·.1) = false := by rfl) :
    wE X (.Call (.Name "tuple" p') [e] [] pos) σ H Q :=
  w_callTy call_tuple_of hg hm (by decide +kernel) (w_acons (wE_mono h fun v H1 ⟨a, ys, e1, hq, q⟩ => w_anil ⟨a, ys, by rw [e1], Or.inl ⟨hq, q⟩⟩) hs) (by decide) (by decide) hs hpl
theorem e_minT {ns : List Int} {m : Int} (hc : X.calm = true) (hg : Gl X "min") (hm : X.mg "min" = none) (h : EV X e σ B l (.ref p)) (hl : Tup X.K B l p (ns.map V.int)) (h1 : m ∈ ns) (h2 : ∀ y ∈ ns, m ≤ y) (hs : starEach [e] X.env = (false, eval e X.env) :: starEach [] X.env := by rfl) (hpl : (backTo pos (starEach [] X.env)).any (·.1) = false := by rfl) :
    EV X (.Call (.Name "min" p') [e] [] pos) σ B l (.int m) :=
  e_callB (cr_minT hc) hg hm (by decide +kernel) (a_cons h a_nil hs) (fun H c H1 e1 Q q => ⟨p, ns, rfl, ex_t e1 (hl H c), List.length_pos_of_mem h1, fun m' a b => by
    rw [show m' = m from Int.le_antisymm (b m h1) (h2 m' a)]
    exact q H1 (Ex.refl H1)⟩) (by decide) (by decide) hs hpl
theorem e_maxL {ns : List Int} {m : Int} (hc : X.calm = true) (hg : Gl X "max") (hm : X.mg "max" = none) (h : EV X e σ B l (.ref p)) (hl : Lst X.K B l p (ns.map V.int)) (h1 : m ∈ ns) (h2 : ∀ y ∈ ns, y ≤ m) (hs : starEach [e] X.env = (false, eval e X.env) :: starEach [] X.env := by rfl) (hpl : (backTo pos (starEach [] X.env)).any (·.1) = false := by rfl) :
    EV X (.Call (.Name "max" p') [e] [] pos) σ B l (.int m) :=
  e_callB (cr_max hc) hg hm (by decide +kernel) (a_cons h a_nil hs) (fun H c H1 e1 Q q => ⟨p, ns, rfl, ex_l e1 (hl H c), List.length_pos_of_mem h1, fun m' a b => by
    rw [show m' = m from Int.le_antisymm (h2 m' a) (b m h1)]
    exact q H1 (Ex.refl H1)⟩) (by decide) (by decide) hs hpl
/-! ### xs[i] += e -/
theorem get_list : PGet X (rIxL X.K) := by
  intro pins s σ H x y v u Q I rx ry h
  obtain ⟨p, xs, i, z, rfl, rfl, hq, he, q⟩ := h
  cases rx
  obtain ⟨t, rfl⟩ := ry
  obtain ⟨its, r, pl, hz⟩ := I.list hq
  obtain ⟨j, h1, h2, h3, h4, h5⟩ := atI_get he
  obtain ⟨w, ew, rw'⟩ := r.get h2
  have hl := r.length
  have hn := line63
  have fin : EP X pins σ Q w s := ⟨z, H, I, rw', q⟩
  by_cases h0 : 0 ≤ i
  · have hj : i.toNat = j := by
      rw [seqIndex_of h0 h5] at h1
      exact Option.some.inj h1
    exact wpAny_getItem_list pl.isList h0 (by omega) (by rw [hj]; simpa using ew) fin
  · have hj : (i + (its.toArray.size : Int)).toNat = j := by
      rw [seqIndex_neg (by omega) h4] at h1
      rw [List.size_toArray, ← hl]
      exact Option.some.inj h1
    exact wpAny_getItem_list_neg pl.isList (by omega) (by rw [List.size_toArray] <;> omega) (by omega) (by rw [hj]; simpa using ew) fin
/-- xs[i] += e, ints -/
theorem s_augL {f : Int → Int → Int} {op : Operator} {o i e : Expr} {rest : List Stmt} {D : Ends} {a c : Int} {q : Nat} {tpos : Pos} (hc : Cfg B l H) (hl : (p, HO.lst xs) ∈ l) (hp : PIp X op (ipI f)) (ho : EV X o σ B l (.ref p)) (hi : EV X i σ B l (.int (q : Int))) (hq : xs[q]? = some (.int a)) (he : EV X e σ B l (.int c))
    (hk : ∀ H1, Cfg B (put p (.lst (xs.set q (.int (f a c)))) l) H1 → wSs X rest D σ H1)
    (ha : ∀ ov iv new, augStore i ov iv new = (do holding [new, ov, iv] (setItem ov iv new); release [new, ov, iv] []; pure .next) := by intros; rfl) : wSs X (.AugAssign (.Subscript o i tpos) op e pos :: rest) D σ H := by
  have hlt : q < xs.length := by
    obtain ⟨h, _⟩ := List.getElem?_eq_some_iff.mp hq
    exact h
  have hat : atI xs (q : Int) = some (.int a) := by
    unfold atI
    rw [ixN_nat hlt]
    exact hq
  exact s_of (ps_augS pE pE get_list pE hp set_list ha) (go ho hc fun H1 e1 c1 => go hi c1 fun H2 e2 c2 => ⟨p, xs, _, _, rfl, rfl, SqL.of (c2.own _ _ hl), hat, go he c2 fun H3 e3 c3 => ⟨a, c, rfl, rfl, p, xs, (q : Int), q, rfl, rfl, c3.own _ _ hl, ixN_nat hlt, hk _ (c3.put hl)⟩⟩)
end
end QW
/-! QW8: names of the module, tables of tuples. -/
namespace QW
open PySem L2 Evl He
section
variable {X : Cx} {σ : L2.St} {B : Hp} {l : List Ob} {v : V} {u : Value} {x z : Str} {n : Int} {pos : Pos}
theorem e_gl (hg : Gl X x) (hm : X.mg x = some u) (r : RelV v u) (hd : (x == ("__debug__" : Str)) = false := by decide) : EV X (.Name x pos) σ B l v := ev_of (pe_glob hg hm r hd) fun H c => ev_c
theorem e_glI (hg : Gl X x) (hm : ∃ t, X.mg x = some (.int n t)) (hd : (x == ("__debug__" : Str)) = false := by decide) : EV X (.Name x pos) σ B l (.int n) := by
  obtain ⟨t, e⟩ := hm
  exact e_gl hg e ⟨t, rfl⟩ hd
theorem e_glS (hg : Gl X x) (hm : ∃ t, X.mg x = some (.str z t)) (hd : (x == ("__debug__" : Str)) = false := by decide) : EV X (.Name x pos) σ B l (.str z) := by
  obtain ⟨t, e⟩ := hm
  exact e_gl hg e ⟨t, rfl⟩ hd
end
/-- the tuple of ints at a place of the module -/
def intsB : List Value → List Int → Bool
  | [], [] => true
  | .int i _ :: us, j :: js => decide (i = j) && intsB us js
  | _, _ => false
theorem intsB_ok : ∀ {us : List Value} {js : List Int}, intsB us js = true → Vals (js.map V.int) us
  | [], [], _ => .nil
  | [], _ :: _, h => nomatch h
  | .int i t :: us, [], h => nomatch h
  | .int i t :: us, j :: js, h => by
    have h' : (decide (i = j) && intsB us js) = true := h
    rw [Bool.and_eq_true] at h'
    obtain rfl := of_decide_eq_true h'.1
    exact .cons ⟨t, rfl⟩ (intsB_ok h'.2)
def tupB (K : PySem.W.Frag) (a : Addr) (js : List Int) : Bool := match K.lookup a with
  | some ⟨.type T, _, .seq its _, _⟩ => decide (T = "tuple") && decide (its.size ≤ 1000) && intsB its.toList js
  | _ => false
theorem tupB_ok {K : PySem.W.Frag} {a : Addr} {js : List Int} (h : tupB K a js = true) (H : Hp) : SqT K H a (js.map V.int) := by
  unfold tupB at h
  split at h
  · rename_i T d its n sl e
    rw [Bool.and_eq_true, Bool.and_eq_true] at h
    obtain rfl := of_decide_eq_true h.1.1
    exact .inr ⟨_, its, n, e, rfl, rfl, by have := of_decide_eq_true h.1.2; rw [sizeLine_eq]; omega, intsB_ok h.2⟩
  · cases h
def tabTB (K : PySem.W.Frag) (d : Addr) (rows : List (Str × List Int)) : Bool := rows.all fun r => match PySem.W.nsIn K d r.1 with
  | some (some (.ref a)) => tupB K a r.2
  | _ => false
theorem tabTB_ok {K : PySem.W.Frag} {w : World} {d : Addr} {rows : List (Str × List Int)} {es : Array DictEntry} {n : Nat} (h : tabTB K d rows = true) (k : KDict K w d es n) {x : Str} {js : List Int} (m : (x, js) ∈ rows) : ∃ a, KDct K w d x (.ref a) ∧ ∀ H, SqT K H a (js.map V.int) := by
  have h1 := List.all_eq_true.mp h _ m
  dsimp only at h1
  split at h1
  · rename_i a e
    exact ⟨a, ⟨es, n, .ref a, k.at_, k.lit, e, rfl⟩, fun H => tupB_ok h1 H⟩
  · cases h1
end QW
/-! QW9: for, by what is walked. -/
namespace QW
open PySem L2 Evl
section
variable {X : Cx} {N : List Str} {sc : Scope} {kb : Nat} {e e1 e2 e3 : Expr} {body rest : List Stmt} {D : Ends} {σ : L2.St} {H B : Hp} {l : List Ob} {pos p' xp p1 p2 p3 : Pos} {j j1 j2 n : Nat} {x y : Str} {m lo hi : Int} {a : Addr} {xs : List V} {z : Str} {kk : Nat} {Pv : Nat → L2.St → Hp → Prop}
abbrev Turns (X : Cx) (body rest : List Stmt) (D : Ends) (Pv : Nat → L2.St → Hp → Prop) (i : Nat) (σ : L2.St) (H : Hp) : Prop := wSs X body { D with nx := Pv (i + 1), ct := Pv (i + 1), bk := wSs X rest D } σ H
theorem s_forR1 (b : Bd X N sc kb) (hg : Gl X "range") (hm : X.mg "range" = none) (o : Own X j x) (c : Cfg B l H) (h : EV X e σ B l (.int (n : Int))) (hn : n < 2 ^ 62) (Pv : Nat → L2.St → Hp → Prop) (h0 : ∀ H1, Ex H H1 → Cfg B l H1 → Pv 0 σ H1)
    (st : ∀ i σ' H', i < n → Pv i σ' H' → Turns X body rest D Pv i (σ'.set j (some (.int (i : Nat)))) H') (fin : ∀ σ' H', Pv n σ' H' → wSs X rest D σ' H')
    (hs : starEach [e] X.env = [(false, eval e X.env)] := by rfl) : wSs X (.For (.Name x xp) (.Call (.Name "range" p') [e] [] p1) body [] pos :: rest) D σ H :=
  s_for b.po b.calm (i_range1 hg hm c h ⟨by omega, by omega⟩ (fun H1 e1 c1 => ⟨walk_range, Pv, h0 H1 e1 c1, fun _ _ _ _ _ => trivial, fun i x' σ' H' H2 hi p y => by
    obtain ⟨rfl, rfl⟩ := y
    refine g_name o ?_
    have := st i σ' _ (by omega) p
    simpa using this, fun σ' H' p => fin σ' H' p⟩) hs)
theorem s_forR2 (b : Bd X N sc kb) (hg : Gl X "range") (hm : X.mg "range" = none) (o : Own X j x) (c : Cfg B l H) (h1 : EV X e1 σ B l (.int lo)) (h2 : EV X e2 σ B l (.int hi)) (hn : -(2 ^ 62) ≤ lo ∧ lo < 2 ^ 62 ∧ -(2 ^ 62) ≤ hi ∧ hi < 2 ^ 62) (Pv : Nat → L2.St → Hp → Prop) (h0 : ∀ H1, Ex H H1 → Cfg B l H1 → Pv 0 σ H1)
    (st : ∀ i σ' H', i < (hi - lo).toNat → Pv i σ' H' → Turns X body rest D Pv i (σ'.set j (some (.int (lo + (i : Nat))))) H') (fin : ∀ σ' H', Pv (hi - lo).toNat σ' H' → wSs X rest D σ' H')
    (hs : starEach [e1, e2] X.env = [(false, eval e1 X.env), (false, eval e2 X.env)] := by rfl) (hs2 : starEach [e2] X.env = [(false, eval e2 X.env)] := by rfl) : wSs X (.For (.Name x xp) (.Call (.Name "range" p') [e1, e2] [] p1) body [] pos :: rest) D σ H :=
  s_for b.po b.calm (i_range2 hg hm c h1 h2 hn (fun H1 e1 c1 => ⟨walk_range, Pv, h0 H1 e1 c1, fun _ _ _ _ _ => trivial, fun i x' σ' H' H2 hi p y => by
    obtain ⟨rfl, rfl⟩ := y
    exact g_name o (st i σ' _ hi p), fun σ' H' p => fin σ' H' p⟩) hs hs2)
theorem s_forR3 {ci : Int} (b : Bd X N sc kb) (hg : Gl X "range") (hm : X.mg "range" = none) (o : Own X j x) (c : Cfg B l H) (h : EA X [e1, e2, e3] σ B l [.int lo, .int hi, .int ci]) (hr : RgC lo hi ci n) (Pv : Nat → L2.St → Hp → Prop) (h0 : ∀ H1, Ex H H1 → Cfg B l H1 → Pv 0 σ H1)
    (st : ∀ i σ' H', i < n → Pv i σ' H' → Turns X body rest D Pv i (σ'.set j (some (.int (lo + (i : Nat) * ci)))) H') (fin : ∀ σ' H', Pv n σ' H' → wSs X rest D σ' H')
    (hs : starEach (e1 :: [e2, e3]) X.env = (false, eval e1 X.env) :: starEach [e2, e3] X.env := by rfl) (hpl : (backTo p1 (starEach [e2, e3] X.env)).any (·.1) = false := by rfl) : wSs X (.For (.Name x xp) (.Call (.Name "range" p') [e1, e2, e3] [] p1) body [] pos :: rest) D σ H :=
  s_for b.po b.calm (i_range3 hg hm c h hr (fun H1 e1 c1 => ⟨walk_rangeC, Pv, h0 H1 e1 c1, fun _ _ _ _ _ => trivial, fun i x' σ' H' H2 hi p y => by
    obtain ⟨rfl, rfl⟩ := y
    exact g_name o (st i σ' _ hi p), fun σ' H' p => fin σ' H' p⟩) hs hpl)
/-- for x in text -/
theorem s_forS (b : Bd X N sc kb) (o : Own X j x) (c : Cfg B l H) (h : EV X e σ B l (.str z)) (Pv : Nat → L2.St → Hp → Prop) (h0 : ∀ H1, Ex H H1 → Cfg B l H1 → Pv 0 σ H1)
    (st : ∀ i q σ' H', z.cps[i]? = some q → Pv i σ' H' → Turns X body rest D Pv i (σ'.set j (some (.str ⟨#[q]⟩))) H') (fin : ∀ σ' H', Pv z.cps.size σ' H' → wSs X rest D σ' H')
    (hs : ∀ x, foldedSetIterable e X.env x = pure x := by intro _; rfl) : wSs X (.For (.Name x xp) e body [] pos :: rest) D σ H :=
  s_for b.po b.calm (i_str c h (fun H1 e1 c1 => ⟨walk_str, Pv, h0 H1 e1 c1, fun _ _ _ _ _ => trivial, fun i x' σ' H' H2 hi p y => by
    obtain ⟨rfl, q, hq, rfl⟩ := y
    exact g_name o (st i q σ' _ hq p), fun σ' H' p => fin σ' H' p⟩)) hs
/-- for x in list -/
theorem s_forL (b : Bd X N sc kb) (o : Own X j x) (c : Cfg B l H) (h : EV X e σ B l (.ref a)) (hl : Lst X.K B l a xs) (Pv : Nat → L2.St → Hp → Prop) (h0 : ∀ H1, Ex H H1 → Cfg B l H1 → Pv 0 σ H1) (hG : ∀ i σ' H', Pv i σ' H' → SqL X.K H' a xs)
    (st : ∀ i q σ' H', xs[i]? = some q → Pv i σ' H' → Turns X body rest D Pv i (σ'.set j (some q)) H') (fin : ∀ σ' H', Pv xs.length σ' H' → wSs X rest D σ' H')
    (hs : ∀ x, foldedSetIterable e X.env x = pure x := by intro _; rfl) : wSs X (.For (.Name x xp) e body [] pos :: rest) D σ H :=
  s_for b.po b.calm (i_list c h hl (fun H1 e1 c1 => ⟨walk_list, Pv, h0 H1 e1 c1, fun i σ' H' _ p => hG i σ' H' p, fun i x' σ' H' H2 hi p y => by
    obtain ⟨rfl, hq⟩ := y
    exact g_name o (st i x' σ' _ hq p), fun σ' H' p => fin σ' H' p⟩)) hs
theorem s_forT (b : Bd X N sc kb) (o : Own X j x) (c : Cfg B l H) (h : EV X e σ B l (.ref a)) (hl : Tup X.K B l a xs) (Pv : Nat → L2.St → Hp → Prop) (h0 : ∀ H1, Ex H H1 → Cfg B l H1 → Pv 0 σ H1) (hG : ∀ i σ' H', Pv i σ' H' → SqT X.K H' a xs)
    (st : ∀ i q σ' H', xs[i]? = some q → Pv i σ' H' → Turns X body rest D Pv i (σ'.set j (some q)) H') (fin : ∀ σ' H', Pv xs.length σ' H' → wSs X rest D σ' H')
    (hs : ∀ x, foldedSetIterable e X.env x = pure x := by intro _; rfl) : wSs X (.For (.Name x xp) e body [] pos :: rest) D σ H :=
  s_for b.po b.calm (i_tup c h hl (fun H1 e1 c1 => ⟨walk_tup, Pv, h0 H1 e1 c1, fun i σ' H' _ p => hG i σ' H' p, fun i x' σ' H' H2 hi p y => by
    obtain ⟨rfl, hq⟩ := y
    exact g_name o (st i x' σ' _ hq p), fun σ' H' p => fin σ' H' p⟩)) hs
/-- for i, x in enumerate(text | list | tuple) -/
theorem s_forE {S : Src} (b : Bd X N sc kb) (hg : Gl X "enumerate") (hm : X.mg "enumerate" = none) (o1 : Own X j1 x) (o2 : Own X j2 y) (c : Cfg B l H) (h : EV X e σ B l S.v) (ok : ∀ H, Cfg B l H → S.Ok X.K H) (Pv : Nat → L2.St → Hp → Prop) (h0 : ∀ H1, Ex H H1 → Cfg B l H1 → Pv 0 σ H1) (hG : ∀ i σ' H', Pv i σ' H' → S.Ok X.K H')
    (st : ∀ i q σ' H' H2, S.items[i]? = some q → Pv i σ' H' → Ex H' H2 → Turns X body rest D Pv i ((σ'.set j1 (some (.int (i : Nat)))).set j2 (some q)) H2) (fin : ∀ σ' H', Pv S.items.length σ' H' → wSs X rest D σ' H')
    (hs1 : starEach [e] X.env = [(false, eval e X.env)] := by rfl)
    (hn : (assignEach [(.Name x p1 : Expr), .Name y p2] X.env).length = 2 := by rfl) (hst : (assignEach [(.Name x p1 : Expr), .Name y p2] X.env).findIdx? (·.1) = none := by rfl)
    (hs3 : (assignEach ((.Name x p1 : Expr) :: [.Name y p2]) X.env).map (·.2) = assign (.Name x p1) X.env :: (assignEach [(.Name y p2 : Expr)] X.env).map (·.2) := by rfl) (hs2 : (assignEach ((.Name y p2 : Expr) :: []) X.env).map (·.2) = assign (.Name y p2) X.env :: (assignEach [] X.env).map (·.2) := by rfl)
    (hs : ∀ x, foldedSetIterable (.Call (.Name "enumerate" p') [e] [] p3) X.env x = pure x := by intro _; rfl) : wSs X (.For (.Tuple [.Name x p1, .Name y p2] kk xp) (.Call (.Name "enumerate" p') [e] [] p3) body [] pos :: rest) D σ H :=
  s_for b.po b.calm (i_enum hg hm c h ok (fun H1 e1 c1 => ⟨walk_N, Pv, h0 H1 e1 c1, fun i σ' H' _ p => hG i σ' H' p, fun i x' σ' H' H2 hi p yy => by
    obtain ⟨T, ys, rfl, hT, rfl, q, hq, rfl⟩ := yy
    exact g_tup2 b.calm (SqT.of upd_same) (g_name o1 (g_name o2 (st i q σ' H' _ hq p (Ex.new hT)))) hn hst hs3 hs2, fun σ' H' p => fin σ' H' p⟩) hs1) hs
end
end QW
/-! QW10: comprehensions, by what is walked. -/
namespace QW
open PySem L2 Evl
theorem blkOk {X : Cx} {N : List Str} {sc s : Scope} {k : Nat} {own : List (Str × Nat)} (b : Bd X N sc k) (h : BlkOk N sc s own) : BlkOk X.N X.env.scope s own := by
  rw [b.n, b.sc]; exact h
section
variable {X : Cx} {N : List Str} {sc s : Scope} {kb : Nat} {tg it elt c : Expr} {own : List (Str × Nat)} {σ : L2.St} {H B : Hp} {l : List Ob} {Q : VK} {pos spos py : Pos} {rest : List Stmt} {D : Ends} {i : Nat} {y : Str}
/-- what a comprehension needs of what it walks -/
def LcW (X : Cx) (sc : Scope) (tg elt : Expr) (vs : List Nat) (σ : L2.St) (Q : VK) : It → Hp → Prop := fun J H1 => ∃ (G : Hp → Prop) (Y : Nat → Hp → V → Hp → Prop) (n : Nat), LcAll G Y n (LcTurn X sc tg elt vs σ Y n) Q J H1
def LcWC (X : Cx) (sc : Scope) (tg c elt : Expr) (vs : List Nat) (σ : L2.St) (Q : VK) : It → Hp → Prop := fun J H1 => ∃ (G : Hp → Prop) (Y : Nat → Hp → V → Hp → Prop) (n : Nat), LcAll G Y n (LcTurnC X sc tg c elt vs σ Y n) Q J H1
theorem tLc_ofE (h : wI X tg it σ H (LcW X s tg elt (own.map (·.2)) σ Q)) : tLc (wI X tg it) (yG X s tg) tYes (yE X s elt) (own.map (·.2)) σ H Q :=
  wI_mono h fun J H1 ⟨G, Y, n, w, h1⟩ D hD => by
    obtain ⟨Pv, q0, q1, q2, q3⟩ := h1 D hD
    refine lc_it w Pv q0 q1 (fun i x H' H2 hi p y => ?_) q3
    intro X' b pins s u I r
    refine thn (q2 i x H' H2 hi p y X' b pins s u I r) fun _ s1 ⟨σ3, H3, I3, e3, q⟩ => ⟨σ3, H3, I3, e3, ?_⟩
    show tYes σ3 H3 _
    unfold tYes
    dsimp only
    rw [if_pos rfl]
    exact q
theorem tLc_ofEC (h : wI X tg it σ H (LcWC X s tg c elt (own.map (·.2)) σ Q)) : tLc (wI X tg it) (yG X s tg) (yT X s c) (yE X s elt) (own.map (·.2)) σ H Q :=
  wI_mono h fun J H1 ⟨G, Y, n, w, h1⟩ D hD => by
    obtain ⟨Pv, q0, q1, q2, q3⟩ := h1 D hD
    exact lc_it w Pv q0 q1 (fun i x H' H2 hi p y => q2 i x H' H2 hi p y) q3
theorem w_lcE (b : Bd X N sc kb) (own : List (Str × Nat)) (ok : BlkOk N sc s own) (h : wI X tg it σ H (LcW X s tg elt (own.map (·.2)) σ Q)) (hs : ∀ x, foldedSetIterable it X.env x = pure x := by intro _; rfl) :
    wE X (.ListComp elt [⟨tg, it, [], 0⟩] s pos) σ H Q := wE_of (pe_lc b.calm b.nd pI (blkOk b ok) yG_pg (fun _ _ _ _ _ => pts_nil) yE_pe hs) (tLc_ofE h)
theorem w_lcEC (b : Bd X N sc kb) (own : List (Str × Nat)) (ok : BlkOk N sc s own) (h : wI X tg it σ H (LcWC X s tg c elt (own.map (·.2)) σ Q)) (hs : ∀ x, foldedSetIterable it X.env x = pure x := by intro _; rfl) :
    wE X (.ListComp elt [⟨tg, it, [c], 0⟩] s pos) σ H Q := wE_of (pe_lc b.calm b.nd pI (blkOk b ok) yG_pg (fun s H C cl fp => pts_one (yT_pt s H C cl fp)) yE_pe hs) (tLc_ofEC h)
theorem s_lcE (b : Bd X N sc kb) (own : List (Str × Nat)) (o : Own X i y) (hyl : sc.names.lookup y = some .local) (hsw : swapsWith (.ListComp elt [⟨tg, it, [], 0⟩] s pos) (some (.Name y py)) spos.line X.env = pure true) (ok : BlkOk N sc s own)
    (h : wI X tg it σ H (LcW X s tg elt (own.map (·.2)) σ fun v H1 => wSs X rest D (σ.set i (some v)) H1)) (hs : ∀ x, foldedSetIterable it X.env x = pure x := by intro _; rfl) :
    wSs X (.Assign [.Name y py] (.ListComp elt [⟨tg, it, [], 0⟩] s pos) spos :: rest) D σ H := s_of (ps_setLc b.calm o.nd o.s.n (by rw [b.sc]; exact hyl) hsw pI (blkOk b ok) yG_pg (fun _ _ _ _ _ => pts_nil) yE_pe hs) (tLc_ofE h)
/-- a comprehension of values: over one walked thing, its target a name -/
theorem lcw_1 {x : Str} {j n : Nat} {p2 : Pos} {G : Hp → Prop} {J : It} {H1 : Hp} {f : Nat → V} (b : Bd X N sc kb) (w : Walk J n G (YFn f)) (cc : Cfg B l H1) (hn : n ≤ 100000) (hG : ∀ H, Cfg B l H → G H) (hj : N[j]? = some x) (hl : (relS s sc).names.lookup x = some .local) (y : Nat → V)
    (he : ∀ i, i < n → ∀ X', Blk X s X' → EV X' elt ((wipe σ [j]).set j (some (f i))) B l (y i)) (hw : ∀ v, wipe ((wipe σ [j]).set j (some v)) [j] = wipe σ [j])
    (k : ∀ D H2, H1 D = none → Cfg B ((D, .lst ((List.range n).map y)) :: l) H2 → Q (.ref D) H2) : LcW X s (.Name x p2) elt [j] σ Q J H1 :=
  ⟨G, YFn f, n, lc_vals (own := [(x, j)]) w cc hn hG y (fun i x' H' H2 hi c' yy => by
    obtain ⟨rfl, rfl⟩ := yy
    exact ⟨Ex.refl _, fun Qs q => yg_name b.nd (by rw [b.n]; exact hj) (by rw [b.sc]; exact hl) (q _ _ c' (Ex.refl _) (he i hi) (hw _))⟩) k⟩
theorem lcw_L {x : Str} {j : Nat} {p2 : Pos} {J : It} {H1 : Hp} {a : Addr} {xs : List V} (b : Bd X N sc kb) (w : Walk J xs.length (fun H => SqL X.K H a xs) (YAt xs)) (cc : Cfg B l H1) (hn : xs.length ≤ 100000) (hG : Lst X.K B l a xs) (hj : N[j]? = some x) (hl : (relS s sc).names.lookup x = some .local) (y : Nat → V)
    (he : ∀ i u, xs[i]? = some u → ∀ X', Blk X s X' → EV X' elt ((wipe σ [j]).set j (some u)) B l (y i)) (hw : ∀ v, wipe ((wipe σ [j]).set j (some v)) [j] = wipe σ [j])
    (k : ∀ D H2, H1 D = none → Cfg B ((D, .lst ((List.range xs.length).map y)) :: l) H2 → Q (.ref D) H2) : LcW X s (.Name x p2) elt [j] σ Q J H1 :=
  ⟨_, YAt xs, xs.length, lc_vals (own := [(x, j)]) w cc hn (fun H c => hG H c) y (fun i x' H' H2 hi c' yy => by
    obtain ⟨rfl, hu⟩ := yy
    exact ⟨Ex.refl _, fun Qs q => yg_name b.nd (by rw [b.n]; exact hj) (by rw [b.sc]; exact hl) (q _ _ c' (Ex.refl _) (he i _ hu) (hw _))⟩) k⟩
/-- over zip(a, b) -/
theorem lcw_Z {x1 x2 : Str} {j1 j2 kk : Nat} {p1 p2 p3 : Pos} {H1 : Hp} {S1 S2 : Src} (b : Bd X N sc kb) (cc : Cfg B l H1) (hn : min S1.items.length S2.items.length ≤ 100000) (hG : ∀ H, Cfg B l H → S1.Ok X.K H ∧ S2.Ok X.K H)
    (hj1 : N[j1]? = some x1) (hj2 : N[j2]? = some x2) (hl1 : (relS s sc).names.lookup x1 = some .local) (hl2 : (relS s sc).names.lookup x2 = some .local) (y : Nat → V)
    (he : ∀ i u v, S1.items[i]? = some u → S2.items[i]? = some v → ∀ X', Blk X s X' → EV X' elt (((wipe σ [j1, j2]).set j1 (some u)).set j2 (some v)) B l (y i)) (hw : ∀ u v, wipe (((wipe σ [j1, j2]).set j1 (some u)).set j2 (some v)) [j1, j2] = wipe σ [j1, j2])
    (k : ∀ D H2, H1 D = none → Cfg B ((D, .lst ((List.range (min S1.items.length S2.items.length)).map y)) :: l) H2 → Q (.ref D) H2) :
    LcW X s (.Tuple [.Name x1 p1, .Name x2 p2] kk p3) elt [j1, j2] σ Q (ItN (fun H => S1.Ok X.K H ∧ S2.Ok X.K H) (min S1.items.length S2.items.length) (rowZ S1 S2)) H1 :=
  ⟨_, _, _, lc_vals (own := [(x1, j1), (x2, j2)]) walk_N cc hn hG y (fun i x' H' H2 hi c' yy => by
    obtain ⟨T, ys, rfl, hT, rfl, u, v, hu, hv, rfl⟩ := yy
    exact ⟨Ex.new hT, fun Qs q => yg_tup2 b.calm b.nd (by rw [b.n]; exact hj1) (by rw [b.n]; exact hj2) (by rw [b.sc]; exact hl1) (by rw [b.sc]; exact hl2) (SqT.of upd_same) (q _ _ (c'.mono (Ex.new hT)) (Ex.refl _) (he i u v hu hv) (hw u v))⟩) k⟩
end
end QW
/-! QW11: joins: what holds behind a break, behind an if. -/
namespace QW
open PySem L2 Evl
section
variable {X : Cx} {N : List Str} {sc : Scope} {kb : Nat} {e e1 e2 e3 : Expr} {body els rest sts : List Stmt} {D D' : Ends} {σ : L2.St} {H B : Hp} {l : List Ob} {pos p' xp p1 p2 p3 : Pos} {j j1 j2 n i : Nat} {x y : Str} {m lo hi : Int} {a : Addr} {xs : List V} {z : Str} {kk : Nat} {Pv : Nat → L2.St → Hp → Prop} {b1 : Bool}
theorem wSs_mono (h : wSs X sts D σ H) (nx : ∀ σ' H', D.nx σ' H' → D'.nx σ' H') (rt : ∀ v H', D.rt v H' → D'.rt v H') (bk : ∀ σ' H', D.bk σ' H' → D'.bk σ' H') (ct : ∀ σ' H', D.ct σ' H' → D'.ct σ' H') : wSs X sts D' σ H := fun pins s I =>
  thn (h pins s I) fun f s' q => by
    cases f with
    | next => obtain ⟨a, b, c, d⟩ := q; exact ⟨a, b, c, nx _ _ d⟩
    | brk => obtain ⟨a, b, c, d⟩ := q; exact ⟨a, b, c, bk _ _ d⟩
    | cont => obtain ⟨a, b, c, d⟩ := q; exact ⟨a, b, c, ct _ _ d⟩
    | ret u => obtain ⟨v, a, b, c, r, d⟩ := q; exact ⟨v, a, b, c, r, rt _ _ d⟩
abbrev TurnsB (X : Cx) (body : List Stmt) (rt : VK) (Pv : Nat → L2.St → Hp → Prop) (Bk : L2.St → Hp → Prop) (i : Nat) (σ : L2.St) (H : Hp) : Prop := wSs X body { nx := Pv (i + 1), ct := Pv (i + 1), bk := Bk, rt := rt } σ H
theorem turnsB {Bk : L2.St → Hp → Prop} (hb : ∀ σ' H', Bk σ' H' → wSs X rest D σ' H') (h : TurnsB X body D.rt Pv Bk i σ H) : Turns X body rest D Pv i σ H :=
  wSs_mono h (fun _ _ z => z) (fun _ _ z => z) hb fun _ _ z => z
/-- if, one assertion behind it -/
theorem s_ifJ {cc : Expr} (R : L2.St → Hp → Prop) (c : Cfg B l H) (h : ET X cc σ B l b1) (h1 : b1 = true → ∀ H1, Ex H H1 → Cfg B l H1 → wSs X body { D with nx := R } σ H1) (h2 : b1 = false → ∀ H1, Ex H H1 → Cfg B l H1 → wSs X els { D with nx := R } σ H1)
    (hR : ∀ σ' H', R σ' H' → wSs X rest D σ' H') : wSs X (.If cc body els pos :: rest) D σ H :=
  s_ifV c h (fun q H1 e c1 => wSs_mono (h1 q H1 e c1) hR (fun _ _ z => z) (fun _ _ z => z) fun _ _ z => z) fun q H1 e c1 => wSs_mono (h2 q H1 e c1) hR (fun _ _ z => z) (fun _ _ z => z) fun _ _ z => z
theorem s_forSB (b : Bd X N sc kb) (o : Own X j x) (c : Cfg B l H) (h : EV X e σ B l (.str z)) (Pv : Nat → L2.St → Hp → Prop) (Bk : L2.St → Hp → Prop) (h0 : ∀ H1, Ex H H1 → Cfg B l H1 → Pv 0 σ H1)
    (st : ∀ i q σ' H', z.cps[i]? = some q → Pv i σ' H' → TurnsB X body D.rt Pv Bk i (σ'.set j (some (.str ⟨#[q]⟩))) H') (fin : ∀ σ' H', Pv z.cps.size σ' H' → wSs X rest D σ' H') (hb : ∀ σ' H', Bk σ' H' → wSs X rest D σ' H')
    (hs : ∀ x, foldedSetIterable e X.env x = pure x := by intro _; rfl) : wSs X (.For (.Name x xp) e body [] pos :: rest) D σ H :=
  s_forS b o c h Pv h0 (fun i q σ' H' a p => turnsB hb (st i q σ' H' a p)) fin hs
theorem s_forLB (b : Bd X N sc kb) (o : Own X j x) (c : Cfg B l H) (h : EV X e σ B l (.ref a)) (hl : Lst X.K B l a xs) (Pv : Nat → L2.St → Hp → Prop) (Bk : L2.St → Hp → Prop) (h0 : ∀ H1, Ex H H1 → Cfg B l H1 → Pv 0 σ H1) (hG : ∀ i σ' H', Pv i σ' H' → SqL X.K H' a xs)
    (st : ∀ i q σ' H', xs[i]? = some q → Pv i σ' H' → TurnsB X body D.rt Pv Bk i (σ'.set j (some q)) H') (fin : ∀ σ' H', Pv xs.length σ' H' → wSs X rest D σ' H') (hb : ∀ σ' H', Bk σ' H' → wSs X rest D σ' H')
    (hs : ∀ x, foldedSetIterable e X.env x = pure x := by intro _; rfl) : wSs X (.For (.Name x xp) e body [] pos :: rest) D σ H :=
  s_forL b o c h hl Pv h0 hG (fun i q σ' H' a p => turnsB hb (st i q σ' H' a p)) fin hs
theorem s_forR1B (b : Bd X N sc kb) (hg : Gl X "range") (hm : X.mg "range" = none) (o : Own X j x) (c : Cfg B l H) (h : EV X e σ B l (.int (n : Int))) (hn : n < 2 ^ 62) (Pv : Nat → L2.St → Hp → Prop) (Bk : L2.St → Hp → Prop) (h0 : ∀ H1, Ex H H1 → Cfg B l H1 → Pv 0 σ H1)
    (st : ∀ i σ' H', i < n → Pv i σ' H' → TurnsB X body D.rt Pv Bk i (σ'.set j (some (.int (i : Nat)))) H') (fin : ∀ σ' H', Pv n σ' H' → wSs X rest D σ' H') (hb : ∀ σ' H', Bk σ' H' → wSs X rest D σ' H')
    (hs : starEach [e] X.env = [(false, eval e X.env)] := by rfl) : wSs X (.For (.Name x xp) (.Call (.Name "range" p') [e] [] p1) body [] pos :: rest) D σ H :=
  s_forR1 b hg hm o c h hn Pv h0 (fun i σ' H' a p => turnsB hb (st i σ' H' a p)) fin hs
end
end QW
/-! QW12: and, or, comparisons whose parts do something. -/
namespace QW
open PySem L2 Evl
section
variable {X : Cx} {e1 e2 : Expr} {σ : L2.St} {H B : Hp} {l : List Ob} {Q : VK} {pos : Pos} {b1 : Bool}
theorem w_or (h : wE X e1 σ H fun x H1 => ∃ c, x = .bl c ∧ if c = true then Q (.bl true) H1 else wE X e2 σ H1 Q) : wE X (.BoolOp .Or [e1, e2] pos) σ H Q := wE_of (pe_or pE (pe_one pE)) h
theorem w_and (h : wE X e1 σ H fun x H1 => ∃ c, x = .bl c ∧ if c = true then wE X e2 σ H1 Q else Q (.bl false) H1) : wE X (.BoolOp .And [e1, e2] pos) σ H Q := wE_of (pe_and pE (pe_one pE)) h
/-- the first part a value -/
theorem w_orV (c : Cfg B l H) (h : EV X e1 σ B l (.bl b1)) (h1 : b1 = true → ∀ H1, Ex H H1 → Cfg B l H1 → Q (.bl true) H1) (h2 : b1 = false → ∀ H1, Ex H H1 → Cfg B l H1 → wE X e2 σ H1 Q) : wE X (.BoolOp .Or [e1, e2] pos) σ H Q :=
  w_or (go h c fun H1 x1 c1 => ⟨b1, rfl, by
    cases b1 with
    | true => rw [if_pos rfl]; exact h1 rfl H1 x1 c1
    | false => rw [if_neg (by decide)]; exact h2 rfl H1 x1 c1⟩)
theorem w_andV (c : Cfg B l H) (h : EV X e1 σ B l (.bl b1)) (h1 : b1 = true → ∀ H1, Ex H H1 → Cfg B l H1 → wE X e2 σ H1 Q) (h2 : b1 = false → ∀ H1, Ex H H1 → Cfg B l H1 → Q (.bl false) H1) : wE X (.BoolOp .And [e1, e2] pos) σ H Q :=
  w_and (go h c fun H1 x1 c1 => ⟨b1, rfl, by
    cases b1 with
    | true => rw [if_pos rfl]; exact h1 rfl H1 x1 c1
    | false => rw [if_neg (by decide)]; exact h2 rfl H1 x1 c1⟩)
theorem w_lt (h : wE X e1 σ H fun x H1 => wE X e2 σ H1 fun y H2 => ∃ i j, x = .int i ∧ y = .int j ∧ Q (.bl (decide (i < j))) H2) (h1 : behindInMarks .Lt e2 = false := by first | exact nobehind _ (by decide) (by decide) | rfl) : wE X (.Compare e1 [.Lt] [e2] pos) σ H Q :=
  wE_of (pe_cmp (pc_R op_lt pE pE) h1) h
theorem w_add (h : wE X e1 σ H fun x H1 => wE X e2 σ H1 fun y H2 => ∃ i j : Int, x = .int i ∧ y = .int j ∧ Q (.int (i + j)) H2) : wE X (.BinOp e1 .Add e2 pos) σ H Q := w_op op_add h
end
end QW
/-! DW0: what is told of the program's classes. -/
namespace DW
open PySem L2 Evl QW
/-- each class with what stands above it -/
def excUp : List Str := ["QuadError", "ValueError", "Exception", "BaseException", "object"]
def leafX : List Str := ["NoMark", "NoEnd", "NoTie", "NoWay", "Bridge", "Loop", "Bare", "NoCount", "NoNumber", "NotTree", "NoDeed", "NoTurns", "NoWord", "NoJumps", "NoWhole", "NoBall", "NotFour", "NoText", "NoName"]
def ownC : List Str := ["Map", "Wood", "House"]
def allC : List Str := ("QuadError" : Str) :: (leafX ++ ownC)
def supers (c : Str) : List Str := if leafX.contains c = true then c :: excUp else if c = "QuadError" then excUp else [c, "object"]
def subB (c C : Str) : Bool := (supers c).contains C
def isExc (c : Str) : Bool := subB c "BaseException"
def fldT : List (Str × List Str) := [("Map", ["turns", "mark"]), ("Wood", ["word", "jumps"]), ("House", ["kept", "past", "taken"]), ("NoTurns", ["place"]), ("NoWord", ["place"]), ("NoJumps", ["place"]), ("NoWhole", ["end"]), ("NoBall", ["much"]), ("NotFour", ["land"]), ("NoText", ["at"]), ("NoName", ["name"])]
def flds (c : Str) : List Str := (fldT.lookup c).getD []
/-- the built-in types of values, and those that an isinstance asks for -/
def bltT : List String := ["NoneType", "int", "bool", "str", "list", "tuple", "dict"]
def bltQ : List String := ["int", "bool", "str", "list", "tuple", "dict", "ValueError"]
def eqV2 (a b : Option (Option Value)) : Bool := decide (a = b)
theorem eqV2_ok {a b : Option (Option Value)} (h : eqV2 a b = true) : a = b := of_decide_eq_true h
def clsG (K : PySem.W.Frag) (C : Addr) : Bool := eqV2 (PySem.W.findIn K (.ref C) "__class__") (some (some (.builtin "object.__class__"))) && (eqV2 (PySem.W.specialIn K (.builtin "object.__class__") "__get__") (some (some (.builtin "getset_descriptor.__get__"))) &&
  (decide (PySem.W.takesIn K (.builtin "object.__class__") = some true) && decide (PySem.W.mroIn K C (.type "object") = some true)))
structure ClsG (K : PySem.W.Frag) (C : Addr) : Prop where
  ha : PySem.W.findIn K (.ref C) "__class__" = some (some (.builtin "object.__class__"))
  hn : PySem.W.specialIn K (.builtin "object.__class__") "__get__" = some (some (.builtin "getset_descriptor.__get__"))
  ht : PySem.W.takesIn K (.builtin "object.__class__") = some true
  hm : PySem.W.mroIn K C (.type "object") = some true
theorem ba2 {a b : Bool} (h : (a && b) = true) : a = true ∧ b = true := Bool.and_eq_true_iff.mp h
theorem clsG_ok {K : PySem.W.Frag} {C : Addr} (h : clsG K C = true) : ClsG K C := by
  obtain ⟨h1, h⟩ := ba2 h
  obtain ⟨h2, h⟩ := ba2 h
  obtain ⟨h3, h4⟩ := ba2 h
  exact ⟨eqV2_ok h1, eqV2_ok h2, of_decide_eq_true h3, of_decide_eq_true h4⟩
def clsI (K : PySem.W.Frag) (C : Addr) : Bool := PySem.W.plainGet K C Str.empty && (PySem.W.hasDictIn K C && (PySem.W.plainOver K C && eqV2 (PySem.W.findIn K (.ref C) "__setattr__") (some (some (.builtin "object.__setattr__")))))
theorem clsI_ok {K : PySem.W.Frag} {C : Addr} (h : clsI K C = true) : Cls K C := by
  obtain ⟨h1, h⟩ := ba2 h
  obtain ⟨h2, h⟩ := ba2 h
  obtain ⟨h3, h4⟩ := ba2 h
  exact ⟨h1, h2, h3, eqV2_ok h4⟩
def bndB (K : PySem.W.Frag) (C : Str) : Bool := eqV2 (PySem.W.nsIn K mainGlobals C) (some (some (.ref (He.ga K C))))
def presB (K : PySem.W.Frag) (c : Str) : Bool :=
  (if isExc c = true then xfB K (He.ga K c) else clsI K (He.ga K c)) && (clsG K (He.ga K c) &&
  ((flds c).all (fun f => eqV2 (PySem.W.findIn K (.ref (He.ga K c)) f) (some none)) &&
  (allC.all (fun C => !bndB K C || decide (PySem.W.kitOne K (.ref (He.ga K c)) (.ref (He.ga K C)) = some (subB c C))) &&
  (bltQ.all (fun b => decide (PySem.W.kitOne K (.ref (He.ga K c)) (.type b) = some (subB c (Str.ofString b)))) &&
  (!isExc c || allC.all (fun C => !isExc C || (!bndB K C || decide (PySem.W.exmOne K (.ref (He.ga K c)) (.ref (He.ga K C)) = some (subB c C)))))))))
/-- a class of the program stands as it is written -/
structure Pres (K : PySem.W.Frag) (c : Str) : Prop where
  ok : presB K c = true
/-- an isinstance may ask for it -/
def tgtB (K : PySem.W.Frag) (C : Str) : Bool := bndB K C && (allC.contains C && bltT.all fun t => decide (PySem.W.kitOne K (.type t) (.ref (He.ga K C)) = some false))
structure Tgt (K : PySem.W.Frag) (C : Str) : Prop where
  ok : tgtB K C = true
section
variable {K : PySem.W.Frag} {c C f : Str} {b : String}
theorem Pres.g (p : Pres K c) : ClsG K (He.ga K c) := clsG_ok (ba2 (ba2 p.ok).2).1
theorem Pres.cls (p : Pres K c) (h : isExc c = false) : Cls K (He.ga K c) := by
  have := (ba2 p.ok).1
  rw [if_neg (by rw [h]; exact Bool.false_ne_true)] at this
  exact clsI_ok this
theorem Pres.exc (p : Pres K c) (h : isExc c = true) : XfC K (He.ga K c) := by
  have := (ba2 p.ok).1
  rw [if_pos h] at this
  exact xfB_ok this
theorem Pres.fld (p : Pres K c) (h : (flds c).contains f = true) : PySem.W.findIn K (.ref (He.ga K c)) f = some none := eqV2_ok (List.all_eq_true.mp (ba2 (ba2 (ba2 p.ok).2).2).1 f (List.contains_iff_mem.mp h))
theorem Pres.kit (p : Pres K c) (t : Tgt K C) : PySem.W.kitOne K (.ref (He.ga K c)) (.ref (He.ga K C)) = some (subB c C) := by
  obtain ⟨h1, h2⟩ := ba2 t.ok
  have h3 := List.all_eq_true.mp (ba2 (ba2 (ba2 (ba2 p.ok).2).2).2).1 C (List.contains_iff_mem.mp (ba2 h2).1)
  rw [h1] at h3
  exact of_decide_eq_true (by simpa using h3)
theorem Pres.kitB (p : Pres K c) (h : bltQ.contains b = true) : PySem.W.kitOne K (.ref (He.ga K c)) (.type b) = some (subB c (Str.ofString b)) :=
  of_decide_eq_true (List.all_eq_true.mp (ba2 (ba2 (ba2 (ba2 (ba2 p.ok).2).2).2).2).1 b (List.contains_iff_mem.mp h))
theorem Pres.exm (p : Pres K c) (h1 : isExc c = true) (h2 : isExc C = true) (h3 : bndB K C = true) (h4 : allC.contains C = true) : PySem.W.exmOne K (.ref (He.ga K c)) (.ref (He.ga K C)) = some (subB c C) := by
  have q := (ba2 (ba2 (ba2 (ba2 (ba2 p.ok).2).2).2).2).2
  rw [h1, Bool.not_true, Bool.false_or] at q
  have q := List.all_eq_true.mp q C (List.contains_iff_mem.mp h4)
  rw [h2, h3] at q
  exact of_decide_eq_true (by simpa using q)
theorem Tgt.kit (t : Tgt K C) (h : bltT.contains b = true) : PySem.W.kitOne K (.type b) (.ref (He.ga K C)) = some false :=
  of_decide_eq_true (List.all_eq_true.mp (ba2 (ba2 t.ok).2).2 b (List.contains_iff_mem.mp h))
end
end DW
/-! DW1: deep values with owners, what represents them. -/
namespace DW
open PySem L2 Evl QW

/-- a value with all that it holds; the Bool: held by nobody else, may be changed -/
inductive D where
  | non | bl (b : Bool) | int (i : Int) | str (x : Str)
  | lst (o : Bool) (xs : List D)
  | tup (xs : List D)
  | dct (o : Bool) (ks : List Key) (vs : List D)
  | dcT (o : Bool) (ks : List (List Key)) (vs : List D)
  | ins (o : Bool) (c : Str) (ns : List Str) (vs : List D)
  | exn (c : Str) (ns : List Str) (vs : List D)
  /-- the script -/
  | scr (ns : List Int)
  /-- a tuple of the module -/
  | ktp (ns : List Int)
  /-- what stands at a name of the module: a def, a class -/
  | gl (x : Str)

/-! ### lists of owned objects in any order -/
theorem Cfg.perm {B H : Hp} {l l' : List Ob} (c : Cfg B l H) (h : l.Perm l') : Cfg B l' H :=
  ⟨c.ex, fun p o m => c.own p o (h.symm.subset m), fun p o m => c.fr p o (h.symm.subset m), ((h.map _).nodup_iff).mp c.nd⟩
theorem Cfg.dropL {B H : Hp} : ∀ {a l : List Ob}, Cfg B (a ++ l) H → Cfg B l H
  | [], _, c => c
  | _ :: a, _, c => Cfg.dropL (a := a) (Cfg.drop c)
theorem Cfg.dropR {B H : Hp} {a l : List Ob} (c : Cfg B (l ++ a) H) : Cfg B l H := Cfg.dropL (Cfg.perm c List.perm_append_comm)
/-- owned objects become known for good -/
theorem Cfg.keepL {H : Hp} : ∀ {a l : List Ob} {B : Hp}, Cfg B (a ++ l) H → ∃ B', Ex B B' ∧ Cfg B' l H ∧ ∀ p o, (p, o) ∈ a → B' p = some o
  | [], l, B, c => ⟨B, Ex.refl B, c, fun _ _ m => nomatch m⟩
  | (p, o) :: a, l, B, c => by
    obtain ⟨c1, e1, h1⟩ := Cfg.keep (B := B) (p := p) (o := o) (l := a ++ l) c
    obtain ⟨B', e2, c2, h2⟩ := Cfg.keepL c1
    refine ⟨B', e1.trans e2, c2, fun q u m => ?_⟩
    rcases List.mem_cons.mp m with m | m
    · cases m; exact e2 _ _ h1
    · exact h2 q u m

/-- at a: an exception of the class at C, its dict dx -/
def exO (C : Addr) (dx : Option Addr) (a : Addr) : HO := .ext fun h => ∃ (oe : Obj) (ws : Array Value), h.get? a = some oe ∧ Zc (.ref C) dx oe ∧ oe.data = .fields ws
/-! ### what represents a deep value: B known for good, fp the objects that it owns -/
mutual
def Rep (K : PySem.W.Frag) (B : Hp) : D → V → List Ob → Prop
  | .non, v, fp => v = .non ∧ fp = []
  | .bl b, v, fp => v = .bl b ∧ fp = []
  | .int i, v, fp => v = .int i ∧ fp = []
  | .str x, v, fp => v = .str x ∧ fp = []
  | .lst o xs, v, fp => ∃ p vs, v = .ref p ∧ (if o = true then ∃ f, fp = [(p, .lst vs)] ++ f ∧ RepL K B xs vs f else B p = some (.lst vs) ∧ RepL K B xs vs [] ∧ fp = [])
  | .tup xs, v, fp => ∃ p vs, v = .ref p ∧ B p = some (.tup vs) ∧ RepL K B xs vs fp
  | .dct o ks ds, v, fp => ∃ p vs, v = .ref p ∧ ks.length = vs.length ∧ (if o = true then ∃ f, fp = [(p, .dK (ks.zip vs))] ++ f ∧ RepL K B ds vs f else B p = some (.dK (ks.zip vs)) ∧ RepL K B ds vs [] ∧ fp = [])
  | .dcT o ks ds, v, fp => ∃ p vs, v = .ref p ∧ ks.length = vs.length ∧ (if o = true then ∃ f, fp = [(p, .dT (ks.zip vs))] ++ f ∧ RepL K B ds vs f else B p = some (.dT (ks.zip vs)) ∧ RepL K B ds vs [] ∧ fp = [])
  | .ins o c ns ds, v, fp => ∃ p dx vs, v = .ref p ∧ (ns.length = vs.length ∧ Pres K c ∧ isExc c = false) ∧ (if o = true then ∃ f, fp = [(p, .ins (He.ga K c) dx (ns.zip vs))] ++ [(dx, .own p)] ++ f ∧ RepL K B ds vs f else B p = some (.ins (He.ga K c) dx (ns.zip vs)) ∧ RepL K B ds vs [] ∧ fp = [])
  | .exn c ns ds, v, fp => (fp = [] ∧ Pres K c ∧ isExc c = true) ∧ ∃ a dx, v = .ref a ∧ B a = some (exO (He.ga K c) dx a) ∧ ((ns = [] ∧ ds = [] ∧ dx = none) ∨ ∃ p vs, dx = some p ∧ B p = some (.xd (ns.zip vs)) ∧ ns.length = vs.length ∧ RepL K B ds vs [])
  | .scr ns, v, fp => fp = [] ∧ ∃ p, v = .ref p ∧ SqL K B p (ns.map V.int)
  | .ktp ns, v, fp => fp = [] ∧ ∃ p, v = .ref p ∧ SqT K B p (ns.map V.int)
  | .gl x, v, fp => fp = [] ∧ v = .ref (He.ga K x)
def RepL (K : PySem.W.Frag) (B : Hp) : List D → List V → List Ob → Prop
  | [], vs, fp => vs = [] ∧ fp = []
  | d :: ds, vs, fp => ∃ v vs' f1 f2, vs = v :: vs' ∧ fp = f1 ++ f2 ∧ Rep K B d v f1 ∧ RepL K B ds vs' f2
end
mutual
/-- nobody's own -/
def frz : D → D
  | .lst _ xs => .lst false (frzL xs)
  | .tup xs => .tup (frzL xs)
  | .dct _ ks vs => .dct false ks (frzL vs)
  | .dcT _ ks vs => .dcT false ks (frzL vs)
  | .ins _ c ns vs => .ins false c ns (frzL vs)
  | .non => .non
  | .bl b => .bl b
  | .int i => .int i
  | .str x => .str x
  | .exn c ns vs => .exn c ns vs
  | .scr ns => .scr ns
  | .ktp ns => .ktp ns
  | .gl x => .gl x
def frzL : List D → List D
  | [] => []
  | d :: ds => frz d :: frzL ds
end
mutual
/-- it owns nothing -/
def noOwn : D → Bool
  | .lst o xs => !o && noOwnL xs
  | .tup xs => noOwnL xs
  | .dct o _ vs => !o && noOwnL vs
  | .dcT o _ vs => !o && noOwnL vs
  | .ins o _ _ vs => !o && noOwnL vs
  | _ => true
def noOwnL : List D → Bool
  | [] => true
  | d :: ds => noOwn d && noOwnL ds
end
theorem frzL_map (ds : List D) : frzL ds = ds.map frz := by
  induction ds with
  | nil => rfl
  | cons d ds ih => show frz d :: frzL ds = _; rw [ih]; rfl
mutual
theorem frz_frz : ∀ d : D, frz (frz d) = frz d
  | .lst _ xs => by show D.lst false (frzL (frzL xs)) = .lst false (frzL xs); rw [frzL_frzL xs]
  | .tup xs => by show D.tup (frzL (frzL xs)) = .tup (frzL xs); rw [frzL_frzL xs]
  | .dct _ ks vs => by show D.dct false ks (frzL (frzL vs)) = .dct false ks (frzL vs); rw [frzL_frzL vs]
  | .dcT _ ks vs => by show D.dcT false ks (frzL (frzL vs)) = .dcT false ks (frzL vs); rw [frzL_frzL vs]
  | .ins _ c ns vs => by show D.ins false c ns (frzL (frzL vs)) = .ins false c ns (frzL vs); rw [frzL_frzL vs]
  | .non => rfl
  | .bl b => rfl
  | .int i => rfl
  | .str x => rfl
  | .exn c ns vs => rfl
  | .scr ns => rfl
  | .ktp ns => rfl
  | .gl x => rfl
theorem frzL_frzL : ∀ ds : List D, frzL (frzL ds) = frzL ds
  | [] => rfl
  | d :: ds => by show frz (frz d) :: frzL (frzL ds) = frz d :: frzL ds; rw [frz_frz d, frzL_frzL ds]
end
mutual
theorem frz_no : ∀ d : D, noOwn d = true → frz d = d
  | .lst o xs, h => by
    have h' : (!o && noOwnL xs) = true := h
    rw [Bool.and_eq_true] at h'
    cases o with
    | true => cases h'.1
    | false => show D.lst false (frzL xs) = _; rw [frzL_no xs h'.2]
  | .tup xs, h => by show D.tup (frzL xs) = _; rw [frzL_no xs h]
  | .dct o ks xs, h => by
    have h' : (!o && noOwnL xs) = true := h
    rw [Bool.and_eq_true] at h'
    cases o with
    | true => cases h'.1
    | false => show D.dct false ks (frzL xs) = _; rw [frzL_no xs h'.2]
  | .dcT o ks xs, h => by
    have h' : (!o && noOwnL xs) = true := h
    rw [Bool.and_eq_true] at h'
    cases o with
    | true => cases h'.1
    | false => show D.dcT false ks (frzL xs) = _; rw [frzL_no xs h'.2]
  | .ins o c ns xs, h => by
    have h' : (!o && noOwnL xs) = true := h
    rw [Bool.and_eq_true] at h'
    cases o with
    | true => cases h'.1
    | false => show D.ins false c ns (frzL xs) = _; rw [frzL_no xs h'.2]
  | .non, _ => rfl
  | .bl b, _ => rfl
  | .int i, _ => rfl
  | .str x, _ => rfl
  | .exn c ns vs, h => rfl
  | .scr ns, h => rfl
  | .ktp ns, h => rfl
  | .gl x, h => rfl
theorem frzL_no : ∀ ds : List D, noOwnL ds = true → frzL ds = ds
  | [], _ => rfl
  | d :: ds, h => by
    have h' : (noOwn d && noOwnL ds) = true := h
    rw [Bool.and_eq_true] at h'
    show frz d :: frzL ds = _
    rw [frz_no d h'.1, frzL_no ds h'.2]
end
section
variable {K : PySem.W.Frag} {B B' : Hp}
theorem exL {p : Addr} {vs : List V} (e : Ex B B') (h : SqL K B p vs) : SqL K B' p vs := ex_l e h
theorem exT {p : Addr} {vs : List V} (e : Ex B B') (h : SqT K B p vs) : SqT K B' p vs := ex_t e h
mutual
theorem Rep.mono (e : Ex B B') : ∀ {d : D} {v : V} {fp : List Ob}, Rep K B d v fp → Rep K B' d v fp
  | .non, _, _, h => h
  | .bl _, _, _, h => h
  | .int _, _, _, h => h
  | .str _, _, _, h => h
  | .lst o xs, v, fp, h => by
    obtain ⟨p, vs, h1, h2⟩ := h
    refine ⟨p, vs, h1, ?_⟩
    cases o with
    | true => obtain ⟨f, h2, h3⟩ := h2; exact ⟨f, h2, RepL.mono e h3⟩
    | false => obtain ⟨h2, h3, h4⟩ := h2; exact ⟨e _ _ h2, RepL.mono e h3, h4⟩
  | .tup xs, v, fp, h => by
    obtain ⟨p, vs, h1, h2, h3⟩ := h
    exact ⟨p, vs, h1, e _ _ h2, RepL.mono e h3⟩
  | .dct o ks xs, v, fp, h => by
    obtain ⟨p, vs, h1, h0, h2⟩ := h
    refine ⟨p, vs, h1, h0, ?_⟩
    cases o with
    | true => obtain ⟨f, h2, h3⟩ := h2; exact ⟨f, h2, RepL.mono e h3⟩
    | false => obtain ⟨h2, h3, h4⟩ := h2; exact ⟨e _ _ h2, RepL.mono e h3, h4⟩
  | .dcT o ks xs, v, fp, h => by
    obtain ⟨p, vs, h1, h0, h2⟩ := h
    refine ⟨p, vs, h1, h0, ?_⟩
    cases o with
    | true => obtain ⟨f, h2, h3⟩ := h2; exact ⟨f, h2, RepL.mono e h3⟩
    | false => obtain ⟨h2, h3, h4⟩ := h2; exact ⟨e _ _ h2, RepL.mono e h3, h4⟩
  | .ins o c ns xs, v, fp, h => by
    obtain ⟨p, dx, vs, h1, h0, h2⟩ := h
    refine ⟨p, dx, vs, h1, h0, ?_⟩
    cases o with
    | true => obtain ⟨f, h2, h3⟩ := h2; exact ⟨f, h2, RepL.mono e h3⟩
    | false => obtain ⟨h2, h3, h4⟩ := h2; exact ⟨e _ _ h2, RepL.mono e h3, h4⟩
  | .exn c ns ds, v, fp, h => by
    obtain ⟨h0, a, dx, h1, h2, h3⟩ := h
    refine ⟨h0, a, dx, h1, e _ _ h2, ?_⟩
    rcases h3 with h3 | ⟨p, vs, h4, h5, h6, h7⟩
    · exact .inl h3
    · exact .inr ⟨p, vs, h4, e _ _ h5, h6, RepL.mono e h7⟩
  | .scr ns, v, fp, h => by
    obtain ⟨h0, p, h1, h2⟩ := h
    exact ⟨h0, p, h1, exL e h2⟩
  | .ktp ns, v, fp, h => by
    obtain ⟨h0, p, h1, h2⟩ := h
    exact ⟨h0, p, h1, exT e h2⟩
  | .gl x, v, fp, h => h
theorem RepL.mono (e : Ex B B') : ∀ {ds : List D} {vs : List V} {fp : List Ob}, RepL K B ds vs fp → RepL K B' ds vs fp
  | [], _, _, h => h
  | d :: ds, vs, fp, h => by
    obtain ⟨v, vs', f1, f2, h1, h2, h3, h4⟩ := h
    exact ⟨v, vs', f1, f2, h1, h2, Rep.mono e h3, RepL.mono e h4⟩
end
theorem in_l {a b c : List Ob} {p : Addr} {o : HO} (h : ∀ p o, (p, o) ∈ a ++ b → B' p = some o) : (∀ p o, (p, o) ∈ a → B' p = some o) ∧ ∀ p o, (p, o) ∈ b → B' p = some o :=
  ⟨fun p o m => h p o (List.mem_append_left _ m), fun p o m => h p o (List.mem_append_right _ m)⟩
mutual
/-- where all stands that it owns, it may be read -/
theorem Rep.frz (e : Ex B B') : ∀ {d : D} {v : V} {fp : List Ob}, Rep K B d v fp → (∀ p o, (p, o) ∈ fp → B' p = some o) → Rep K B' (frz d) v []
  | .non, _, _, h, _ => ⟨h.1, rfl⟩
  | .bl _, _, _, h, _ => ⟨h.1, rfl⟩
  | .int _, _, _, h, _ => ⟨h.1, rfl⟩
  | .str _, _, _, h, _ => ⟨h.1, rfl⟩
  | .lst o xs, v, fp, h, st => by
    obtain ⟨p, vs, h1, h2⟩ := h
    refine ⟨p, vs, h1, ?_⟩
    cases o with
    | true =>
      obtain ⟨f, rfl, h3⟩ := h2
      exact ⟨st p _ List.mem_cons_self, RepL.frz e h3 fun q u m => st q u (List.mem_append_right _ m), rfl⟩
    | false => obtain ⟨h2, h3, h4⟩ := h2; exact ⟨e _ _ h2, RepL.frz e h3 (fun q u m => nomatch m), rfl⟩
  | .tup xs, v, fp, h, st => by
    obtain ⟨p, vs, h1, h2, h3⟩ := h
    exact ⟨p, vs, h1, e _ _ h2, RepL.frz e h3 st⟩
  | .dct o ks xs, v, fp, h, st => by
    obtain ⟨p, vs, h1, h0, h2⟩ := h
    refine ⟨p, vs, h1, h0, ?_⟩
    cases o with
    | true =>
      obtain ⟨f, rfl, h3⟩ := h2
      exact ⟨st p _ List.mem_cons_self, RepL.frz e h3 fun q u m => st q u (List.mem_append_right _ m), rfl⟩
    | false => obtain ⟨h2, h3, h4⟩ := h2; exact ⟨e _ _ h2, RepL.frz e h3 (fun q u m => nomatch m), rfl⟩
  | .dcT o ks xs, v, fp, h, st => by
    obtain ⟨p, vs, h1, h0, h2⟩ := h
    refine ⟨p, vs, h1, h0, ?_⟩
    cases o with
    | true =>
      obtain ⟨f, rfl, h3⟩ := h2
      exact ⟨st p _ List.mem_cons_self, RepL.frz e h3 fun q u m => st q u (List.mem_append_right _ m), rfl⟩
    | false => obtain ⟨h2, h3, h4⟩ := h2; exact ⟨e _ _ h2, RepL.frz e h3 (fun q u m => nomatch m), rfl⟩
  | .ins o c ns xs, v, fp, h, st => by
    obtain ⟨p, dx, vs, h1, h0, h2⟩ := h
    refine ⟨p, dx, vs, h1, h0, ?_⟩
    cases o with
    | true =>
      obtain ⟨f, rfl, h3⟩ := h2
      exact ⟨st p _ List.mem_cons_self, RepL.frz e h3 fun q u m => st q u (List.mem_append_right _ m), rfl⟩
    | false => obtain ⟨h2, h3, h4⟩ := h2; exact ⟨e _ _ h2, RepL.frz e h3 (fun q u m => nomatch m), rfl⟩
  | .exn c ns ds, v, fp, h, st => by
    obtain ⟨h0, a, dx, h1, h2, h3⟩ := h
    refine ⟨⟨rfl, h0.2⟩, a, dx, h1, e _ _ h2, ?_⟩
    rcases h3 with h3 | ⟨p, vs, h4, h5, h6, h7⟩
    · exact .inl h3
    · exact .inr ⟨p, vs, h4, e _ _ h5, h6, RepL.mono e h7⟩
  | .gl x, v, fp, h, st => ⟨rfl, h.2⟩
  | .scr ns, v, fp, h, st => by
    obtain ⟨h0, p, h1, h2⟩ := h
    exact ⟨rfl, p, h1, exL e h2⟩
  | .ktp ns, v, fp, h, st => by
    obtain ⟨h0, p, h1, h2⟩ := h
    exact ⟨rfl, p, h1, exT e h2⟩
theorem RepL.frz (e : Ex B B') : ∀ {ds : List D} {vs : List V} {fp : List Ob}, RepL K B ds vs fp → (∀ p o, (p, o) ∈ fp → B' p = some o) → RepL K B' (frzL ds) vs []
  | [], _, _, h, _ => ⟨h.1, rfl⟩
  | d :: ds, vs, fp, h, st => by
    obtain ⟨v, vs', f1, f2, h1, rfl, h3, h4⟩ := h
    exact ⟨v, vs', [], [], h1, rfl, Rep.frz e h3 fun q u m => st q u (List.mem_append_left _ m), RepL.frz e h4 fun q u m => st q u (List.mem_append_right _ m)⟩
end
mutual
theorem Rep.none : ∀ {d : D} {v : V} {fp : List Ob}, noOwn d = true → Rep K B d v fp → fp = []
  | .non, _, _, _, h => h.2
  | .bl _, _, _, _, h => h.2
  | .int _, _, _, _, h => h.2
  | .str _, _, _, _, h => h.2
  | .lst o xs, v, fp, n, h => by
    have n' : (!o && noOwnL xs) = true := n
    rw [Bool.and_eq_true] at n'
    obtain ⟨p, vs, h1, h2⟩ := h
    cases o with
    | true => cases n'.1
    | false => exact h2.2.2
  | .tup xs, v, fp, n, h => by
    obtain ⟨p, vs, h1, h2, h3⟩ := h
    exact RepL.none n h3
  | .dct o ks xs, v, fp, n, h => by
    have n' : (!o && noOwnL xs) = true := n
    rw [Bool.and_eq_true] at n'
    obtain ⟨p, vs, h1, h0, h2⟩ := h
    cases o with
    | true => cases n'.1
    | false => exact h2.2.2
  | .dcT o ks xs, v, fp, n, h => by
    have n' : (!o && noOwnL xs) = true := n
    rw [Bool.and_eq_true] at n'
    obtain ⟨p, vs, h1, h0, h2⟩ := h
    cases o with
    | true => cases n'.1
    | false => exact h2.2.2
  | .ins o c ns xs, v, fp, n, h => by
    have n' : (!o && noOwnL xs) = true := n
    rw [Bool.and_eq_true] at n'
    obtain ⟨p, dx, vs, h1, h0, h2⟩ := h
    cases o with
    | true => cases n'.1
    | false => exact h2.2.2
  | .exn c ns ds, _, _, _, h => h.1.1
  | .gl x, _, _, _, h => h.1
  | .scr ns, v, fp, n, h => h.1
  | .ktp ns, v, fp, n, h => h.1
theorem RepL.none : ∀ {ds : List D} {vs : List V} {fp : List Ob}, noOwnL ds = true → RepL K B ds vs fp → fp = []
  | [], _, _, _, h => h.2
  | d :: ds, vs, fp, n, h => by
    have n' : (noOwn d && noOwnL ds) = true := n
    rw [Bool.and_eq_true] at n'
    obtain ⟨v, vs', f1, f2, h1, rfl, h3, h4⟩ := h
    rw [Rep.none n'.1 h3, RepL.none n'.2 h4]
    rfl
end
theorem RepL.len : ∀ {ds : List D} {vs : List V} {fp : List Ob}, RepL K B ds vs fp → ds.length = vs.length
  | [], _, _, h => by rw [h.1]; rfl
  | d :: ds, vs, fp, h => by
    obtain ⟨v, vs', f1, f2, rfl, h2, h3, h4⟩ := h
    show ds.length + 1 = vs'.length + 1
    rw [RepL.len h4]
/-- the i-th of them, and the rest -/
theorem RepL.at : ∀ {ds : List D} {vs : List V} {fp : List Ob} {i : Nat} {d : D}, RepL K B ds vs fp → ds[i]? = some d → ∃ v f1 f f2, vs[i]? = some v ∧ fp = f1 ++ f ++ f2 ∧ Rep K B d v f ∧
    ∀ B' d' v' f', Ex B B' → Rep K B' d' v' f' → RepL K B' (ds.set i d') (vs.set i v') (f1 ++ f' ++ f2)
  | [], _, _, _, _, _, e => by simp at e
  | d0 :: ds, vs, fp, 0, d, h, e => by
    obtain ⟨v, vs', f1, f2, rfl, rfl, h3, h4⟩ := h
    obtain rfl : d0 = d := by simpa using e
    exact ⟨v, [], f1, f2, rfl, rfl, h3, fun B' d' v' f' x r => ⟨v', vs', f', f2, rfl, rfl, r, h4.mono x⟩⟩
  | d0 :: ds, vs, fp, i + 1, d, h, e => by
    obtain ⟨v, vs', f1, f2, rfl, rfl, h3, h4⟩ := h
    obtain ⟨u, g1, g, g2, k1, rfl, k3, k4⟩ := RepL.at (i := i) h4 (by simpa using e)
    refine ⟨u, f1 ++ g1, g, g2, by simpa using k1, by simp, k3, fun B' d' v' f' x r => ⟨v, vs'.set i v', f1, g1 ++ f' ++ g2, rfl, by simp, h3.mono x, k4 B' d' v' f' x r⟩⟩
theorem RepL.app : ∀ {ds es : List D} {vs ws : List V} {f g : List Ob}, RepL K B ds vs f → RepL K B es ws g → RepL K B (ds ++ es) (vs ++ ws) (f ++ g)
  | [], _, _, _, _, _, h, k => by obtain ⟨rfl, rfl⟩ := h; exact k
  | d :: ds, es, vs, ws, f, g, h, k => by
    obtain ⟨v, vs', f1, f2, rfl, rfl, h3, h4⟩ := h
    exact ⟨v, vs' ++ ws, f1, f2 ++ g, rfl, by simp, h3, RepL.app h4 k⟩
theorem RepL.snoc {ds : List D} {vs : List V} {f g : List Ob} {d : D} {v : V} (h : RepL K B ds vs f) (k : Rep K B d v g) : RepL K B (ds ++ [d]) (vs ++ [v]) (f ++ g) :=
  h.app ⟨v, [], g, [], rfl, by simp, k, rfl, rfl⟩
/-- nothing owned: each by itself -/
theorem RepL.nth {ds : List D} {vs : List V} (h : RepL K B ds vs []) {i : Nat} {d : D} (e : ds[i]? = some d) : ∃ v, vs[i]? = some v ∧ Rep K B d v [] := by
  obtain ⟨v, f1, f, f2, h1, h2, h3, _⟩ := h.at e
  have h2 := h2.symm
  rw [List.append_eq_nil_iff, List.append_eq_nil_iff] at h2
  rw [h2.1.2] at h3
  exact ⟨v, h1, h3⟩
theorem RepL.nthV {ds : List D} {vs : List V} (h : RepL K B ds vs []) {i : Nat} {v : V} (e : vs[i]? = some v) : ∃ d, ds[i]? = some d ∧ Rep K B d v [] := by
  have hl := h.len
  have hi : i < vs.length := (List.getElem?_eq_some_iff.mp e).1
  obtain ⟨w, h1, h2⟩ := h.nth (List.getElem?_eq_getElem (by omega : i < ds.length))
  rw [h1] at e
  cases e
  exact ⟨_, List.getElem?_eq_getElem _, h2⟩
end

/-! ### the slots of a def -/
abbrev Env := List (Option D)
def RelEnv (K : PySem.W.Frag) (B : Hp) : Env → L2.St → List Ob → Prop
  | [], σ, l => σ = [] ∧ l = []
  | none :: E, σ, l => ∃ s σ', σ = s :: σ' ∧ RelEnv K B E σ' l
  | some d :: E, σ, l => ∃ v σ' f1 f2, σ = some v :: σ' ∧ l = f1 ++ f2 ∧ Rep K B d v f1 ∧ RelEnv K B E σ' f2
section
variable {K : PySem.W.Frag} {B B' : Hp}
theorem RelEnv.mono (e : Ex B B') : ∀ {E : Env} {σ : L2.St} {l : List Ob}, RelEnv K B E σ l → RelEnv K B' E σ l
  | [], _, _, h => h
  | none :: E, σ, l, h => by
    obtain ⟨s, σ', h1, h2⟩ := h
    exact ⟨s, σ', h1, RelEnv.mono e h2⟩
  | some d :: E, σ, l, h => by
    obtain ⟨v, σ', f1, f2, h1, h2, h3, h4⟩ := h
    exact ⟨v, σ', f1, f2, h1, h2, h3.mono e, RelEnv.mono e h4⟩
theorem RelEnv.len : ∀ {E : Env} {σ : L2.St} {l : List Ob}, RelEnv K B E σ l → E.length = σ.length
  | [], _, _, h => by rw [h.1]; rfl
  | none :: E, σ, l, h => by
    obtain ⟨s, σ', rfl, h2⟩ := h
    show E.length + 1 = σ'.length + 1
    rw [RelEnv.len h2]
  | some d :: E, σ, l, h => by
    obtain ⟨v, σ', f1, f2, rfl, h2, h3, h4⟩ := h
    show E.length + 1 = σ'.length + 1
    rw [RelEnv.len h4]
/-- a slot's value, and the rest -/
theorem RelEnv.at : ∀ {E : Env} {σ : L2.St} {l : List Ob} {i : Nat} {d : D}, RelEnv K B E σ l → E[i]? = some (some d) → ∃ v f1 f f2, σ[i]? = some (some v) ∧ l = f1 ++ f ++ f2 ∧ Rep K B d v f ∧
    (∀ B' d' v' f', Ex B B' → Rep K B' d' v' f' → RelEnv K B' (E.set i (some d')) (σ.set i (some v')) (f1 ++ f' ++ f2)) ∧ (∀ s, RelEnv K B (E.set i none) (σ.set i s) (f1 ++ f2))
  | [], _, _, _, _, _, e => by simp at e
  | none :: E, σ, l, 0, d, h, e => by simp at e
  | some d0 :: E, σ, l, 0, d, h, e => by
    obtain ⟨v, σ', f1, f2, rfl, rfl, h3, h4⟩ := h
    obtain rfl : d0 = d := by simpa using e
    exact ⟨v, [], f1, f2, rfl, rfl, h3, fun B' d' v' f' x r => ⟨v', σ', f', f2, rfl, rfl, r, h4.mono x⟩, fun s => ⟨s, σ', rfl, h4⟩⟩
  | none :: E, σ, l, i + 1, d, h, e => by
    obtain ⟨s, σ', rfl, h2⟩ := h
    obtain ⟨u, g1, g, g2, k1, rfl, k3, k4, k5⟩ := RelEnv.at (i := i) h2 (by simpa using e)
    exact ⟨u, g1, g, g2, by simpa using k1, rfl, k3, fun B' d' v' f' x r => ⟨s, σ'.set i (some v'), rfl, k4 B' d' v' f' x r⟩, fun t => ⟨s, σ'.set i t, rfl, k5 t⟩⟩
  | some d0 :: E, σ, l, i + 1, d, h, e => by
    obtain ⟨v, σ', f1, f2, rfl, rfl, h3, h4⟩ := h
    obtain ⟨u, g1, g, g2, k1, rfl, k3, k4, k5⟩ := RelEnv.at (i := i) h4 (by simpa using e)
    exact ⟨u, f1 ++ g1, g, g2, by simpa using k1, by simp, k3, fun B' d' v' f' x r => ⟨v, σ'.set i (some v'), f1, g1 ++ f' ++ g2, rfl, by simp, h3.mono x, k4 B' d' v' f' x r⟩, fun t => ⟨v, σ'.set i t, f1, g1 ++ g2, rfl, by simp, h3, k5 t⟩⟩
/-- a slot is filled -/
theorem RelEnv.put : ∀ {E : Env} {σ : L2.St} {l : List Ob} {i : Nat}, RelEnv K B E σ l → i < E.length → ∃ f1 f f2, l = f1 ++ f ++ f2 ∧ ∀ B' d' v' f', Ex B B' → Rep K B' d' v' f' → RelEnv K B' (E.set i (some d')) (σ.set i (some v')) (f1 ++ f' ++ f2)
  | [], _, _, _, _, e => by simp at e
  | none :: E, σ, l, 0, h, e => by
    obtain ⟨s, σ', rfl, h2⟩ := h
    exact ⟨[], [], l, rfl, fun B' d' v' f' x r => ⟨v', σ', f', l, rfl, rfl, r, h2.mono x⟩⟩
  | some d0 :: E, σ, l, 0, h, e => by
    obtain ⟨v, σ', f1, f2, rfl, rfl, h3, h4⟩ := h
    exact ⟨[], f1, f2, rfl, fun B' d' v' f' x r => ⟨v', σ', f', f2, rfl, rfl, r, h4.mono x⟩⟩
  | none :: E, σ, l, i + 1, h, e => by
    obtain ⟨s, σ', rfl, h2⟩ := h
    obtain ⟨g1, g, g2, rfl, k4⟩ := RelEnv.put (i := i) h2 (by simpa using e)
    exact ⟨g1, g, g2, rfl, fun B' d' v' f' x r => ⟨s, σ'.set i (some v'), rfl, k4 B' d' v' f' x r⟩⟩
  | some d0 :: E, σ, l, i + 1, h, e => by
    obtain ⟨v, σ', f1, f2, rfl, rfl, h3, h4⟩ := h
    obtain ⟨g1, g, g2, rfl, k4⟩ := RelEnv.put (i := i) h4 (by simpa using e)
    exact ⟨f1 ++ g1, g, g2, by simp, fun B' d' v' f' x r => ⟨v, σ'.set i (some v'), f1, g1 ++ f' ++ g2, rfl, by simp, h3.mono x, k4 B' d' v' f' x r⟩⟩
end
end DW
/-! DW2: results, judgements, how they are put together. -/
namespace DW
open PySem L2 Evl QW
noncomputable instance obDec : DecidableEq Ob := fun a b => Classical.propDecidable (a = b)
local macro_rules | `(tactic| walk_at "perm") => `(tactic| (refine List.perm_iff_count.mpr fun _ => ?_; simp only [List.count_append, List.count_nil]; omega))

inductive R (α : Type) where
  | ok (a : α) (E : Env) | exc (c : Str) (ns : List Str) (vs : List D) (E : Env) | bad
def R.bind {α β : Type} (r : R α) (k : α → Env → R β) : R β := match r with
  | .ok a E => k a E
  | .exc c ns vs E => .exc c ns vs E
  | .bad => .bad
theorem R.bind_ok {α β : Type} {a : α} {E : Env} {k : α → Env → R β} : R.bind (.ok a E) k = k a E := rfl
def R.map {α β : Type} (g : α → β) (r : R α) : R β := r.bind fun a E => .ok (g a) E
def gt (E : Env) (i : Nat) : Option D := match E[i]? with
  | some (some d) => some d
  | _ => none
theorem gt_some {E : Env} {i : Nat} {d : D} (h : gt E i = some d) : E[i]? = some (some d) := by
  unfold gt at h
  split at h
  · rename_i e; rw [e]; cases h; rfl
  · cases h
/-- an operand: a value at hand, or what a slot holds when it is asked -/
inductive Opd where
  | tmp (d : D) | slot (i : Nat)
def Opd.val (E : Env) : Opd → Option D
  | .tmp d => some d
  | .slot i => gt E i
def OpRep (K : PySem.W.Frag) (σ : L2.St) (B : Hp) : Opd → V → List Ob → Prop
  | .tmp d, v, fp => Rep K B d v fp
  | .slot i, v, fp => σ[i]? = some (some v) ∧ fp = []
def OpsRep (K : PySem.W.Frag) (σ : L2.St) (B : Hp) : List Opd → List V → List Ob → Prop
  | [], vs, fp => vs = [] ∧ fp = []
  | o :: os, vs, fp => ∃ v vs' f1 f2, vs = v :: vs' ∧ fp = f1 ++ f2 ∧ OpRep K σ B o v f1 ∧ OpsRep K σ B os vs' f2
def BoRep (_ : Hp) (b c : Bool) (fp : List Ob) : Prop := c = b ∧ fp = []
/-- an exception: its class, its own dict -/
def XRep (K : PySem.W.Frag) (B : Hp) (c : Str) (ns : List Str) (ds : List D) (cls : Value) (dx : Option Addr) : Prop :=
  ((cls = .ref (He.ga K c) ∧ Pres K c) ∧ ((ns = [] ∧ ds = [] ∧ dx = none) ∨ ∃ p vs, dx = some p ∧ B p = some (.xd (ns.zip vs)) ∧ ns.length = vs.length ∧ RepL K B ds vs []))
theorem XRep.mono {K : PySem.W.Frag} {B B' : Hp} {c : Str} {ns : List Str} {ds : List D} {cls : Value} {dx : Option Addr} (h : XRep K B c ns ds cls dx) (e : Ex B B') : XRep K B' c ns ds cls dx := by
  obtain ⟨h1, h2⟩ := h
  refine ⟨h1, ?_⟩
  rcases h2 with h2 | ⟨p, vs, h3, h4, h5, h6⟩
  · exact .inl h2
  · exact .inr ⟨p, vs, h3, e _ _ h4, h5, h6.mono e⟩
/-- what is known behind -/
def After {α β : Type} (K : PySem.W.Frag) (σ : L2.St) (fr : List Ob) (B : Hp) (W : WX) (VR : Hp → α → β → List Ob → Prop) (r : R α) (Q : β → Hp → Prop) : Prop := match r with
  | .ok a E => ∀ v B' l fp H, Ex B B' → RelEnv K B' E σ l → VR B' a v fp → Cfg B' (fp ++ (l ++ fr)) H → Q v H
  | .exc c ns ds E => ∀ cls dx B' l H, Ex B B' → RelEnv K B' E σ l → XRep K B' c ns ds cls dx → Cfg B' (l ++ fr) H → W cls dx σ H
  | .bad => False
section
variable {α β γ δ : Type} {K : PySem.W.Frag} {σ : L2.St} {fr : List Ob} {B B' : Hp} {W : WX} {VR : Hp → α → β → List Ob → Prop} {r : R α} {Q : β → Hp → Prop}
theorem After.up (e : Ex B B') (h : After K σ fr B W VR r Q) : After K σ fr B' W VR r Q := by
  cases r with
  | ok a E => exact fun v B2 l fp H x => h v B2 l fp H (e.trans x)
  | exc c ns ds E => exact fun cls dx B2 l H x => h cls dx B2 l H (e.trans x)
  | bad => exact h
/-- the first part of a chain, its end told -/
theorem After.first {VR1 : Hp → γ → δ → List Ob → Prop} {Q1 : δ → Hp → Prop} {s : R γ} {k : γ → Env → R α} (h : After K σ fr B W VR (s.bind k) Q)
    (c : ∀ a E v B' l fp H, s = .ok a E → Ex B B' → RelEnv K B' E σ l → VR1 B' a v fp → Cfg B' (fp ++ (l ++ fr)) H → After K σ fr B' W VR (k a E) Q → Q1 v H) : After K σ fr B W VR1 s Q1 := by
  cases s with
  | ok a E => exact fun v B2 l fp H x re rv cf => c a E v B2 l fp H rfl x re rv cf (After.up x h)
  | exc c' ns ds E => exact h
  | bad => exact h
/-- a further part, while g is held -/
theorem After.next {g : List Ob} {VR1 : Hp → γ → δ → List Ob → Prop} {Q1 : δ → Hp → Prop} {s : R γ} {k : γ → Env → R α} (h : After K σ fr B W VR (s.bind k) Q)
    (c : ∀ a E v B' l fp H, s = .ok a E → Ex B B' → RelEnv K B' E σ l → VR1 B' a v fp → Cfg B' (fp ++ (l ++ (g ++ fr))) H → After K σ fr B' W VR (k a E) Q → Q1 v H) : After K σ (g ++ fr) B W VR1 s Q1 := by
  cases s with
  | ok a E => exact fun v B2 l fp H x re rv cf => c a E v B2 l fp H rfl x re rv cf (After.up x h)
  | exc c' ns ds E => exact fun cls dx B2 l H x re rx cf => h cls dx B2 l H x re rx (Cfg.dropL (a := g) (Cfg.perm cf (by walk_at "perm")))
  | bad => exact h
end
/-! ### the judgements -/
structure EvR (X : Cx) (W : WX) (e : Expr) (f : Env → R D) : Prop where
  run : ∀ E σ B l fr H Q, RelEnv X.K B E σ l → Cfg B (l ++ fr) H → After X.K σ fr B W (Rep X.K) (f E) Q → wE X e σ H Q
structure EvO (X : Cx) (W : WX) (e : Expr) (f : Env → R Opd) : Prop where
  run : ∀ E σ B l fr H Q, RelEnv X.K B E σ l → Cfg B (l ++ fr) H → After X.K σ fr B W (OpRep X.K σ) (f E) Q → wE X e σ H Q
structure EvT (X : Cx) (W : WX) (e : Expr) (f : Env → R Bool) : Prop where
  run : ∀ E σ B l fr H Q, RelEnv X.K B E σ l → Cfg B (l ++ fr) H → After X.K σ fr B W BoRep (f E) Q → wT X e σ H Q
structure EvA (X : Cx) (W : WX) (es : List Expr) (f : Env → R (List Opd)) : Prop where
  run : ∀ E σ B l fr H Q, RelEnv X.K B E σ l → Cfg B (l ++ fr) H → After X.K σ fr B W (OpsRep X.K σ) (f E) Q → wA X es σ H Q

section
variable {X : Cx} {W : WX} {e e1 e2 e3 c : Expr} {es : List Expr} {f f1 f2 : Env → R D} {g g1 g2 g3 : Env → R Opd} {t t1 t2 : Env → R Bool} {a : Env → R (List Opd)} {pos p' : Pos} {x : Str} {i : Nat} {d : D}
/-- a value as an operand -/
def oR (f : Env → R D) : Env → R Opd := fun E => (f E).bind fun d E1 => .ok (.tmp d) E1
theorem EvR.o (h : EvR X W e f) : EvO X W e (oR f) := ⟨fun E σ B l fr H Q re cf af => h.run E σ B l fr H Q re cf (af.first fun d E1 v B' l' fp H' _ x re' rv cf' af' => af' v B' l' fp H' (Ex.refl _) re' rv cf')⟩
/-- a slot as an operand: read when it is asked -/
def oN (i : Nat) : Env → R Opd := fun E => match gt E i with
  | some _ => .ok (.slot i) E
  | none => .bad
theorem evo_name (n : Slot X i x) : EvO X W (.Name x pos) (oN i) := ⟨fun E σ B l fr H Q re cf af => by
  unfold oN at af
  cases h : gt E i with
  | none => rw [h] at af; exact af.elim
  | some d =>
    rw [h] at af
    obtain ⟨v, f1, f, f2, hv, hl, _⟩ := re.at (gt_some h)
    exact go (e_slot n hv) cf fun H1 e1 c1 => af v B l [] H1 (Ex.refl _) re ⟨hv, rfl⟩ c1⟩
/-- a slot's value, to be kept: what it owns is owned no more -/
def rN (i : Nat) : Env → R D := fun E => match gt E i with
  | some d => if noOwn d = true then .ok d E else .ok (frz d) (E.set i (some (frz d)))
  | none => .bad
theorem set_same {α : Type} {l : List α} {i : Nat} {a : α} (h : l[i]? = some a) : l.set i a = l := by
  apply List.ext_getElem?
  intro j
  rw [List.getElem?_set]
  split
  · rename_i h2; subst h2; split
    · exact h.symm
    · rename_i h3; have := (List.getElem?_eq_some_iff.mp h).1; omega
  · rfl
theorem evr_name (n : Slot X i x) : EvR X W (.Name x pos) (rN i) := ⟨fun E σ B l fr H Q re cf af => by
  unfold rN at af
  cases h : gt E i with
  | none => rw [h] at af; exact af.elim
  | some d =>
    rw [h] at af
    dsimp only at af
    obtain ⟨v, f1, f, f2, hv, hl, hr, hs, _⟩ := re.at (gt_some h)
    refine go (e_slot n hv) cf fun H1 e1 c1 => ?_
    by_cases no : noOwn d = true
    · rw [if_pos no] at af
      obtain rfl := hr.none no
      exact af v B l [] H1 (Ex.refl _) re hr c1
    · rw [if_neg no] at af
      subst hl
      obtain ⟨B', x1, c2, st⟩ := Cfg.keepL (a := f) (l := (f1 ++ f2) ++ fr) (Cfg.perm c1 (by walk_at "perm"))
      have r2 := hr.frz x1 st
      have re2 := hs B' (frz d) v [] x1 r2
      rw [set_same hv] at re2
      exact af v B' _ [] H1 x1 re2 r2 (Cfg.perm c2 (by walk_at "perm"))⟩
/-- a constant -/
def rC (d : D) : Env → R D := fun E => .ok d E
theorem evr_c {v : V} (h : ∀ σ B l, EV X e σ B l v) (hr : ∀ B, Rep X.K B d v []) : EvR X W e (rC d) := ⟨fun E σ B l fr H Q re cf af => go (h σ B (l ++ fr)) cf fun H1 e1 c1 => af v B l [] H1 (Ex.refl _) re (hr B) c1⟩
theorem evr_int {n : Int} {j} : EvR X W (.Constant (.int n) j pos) (rC (.int n)) := evr_c (v := .int n) (fun _ _ _ => e_int) fun _ => ⟨rfl, rfl⟩
theorem evr_str {z : Str} {j} : EvR X W (.Constant (.str z) j pos) (rC (.str z)) := evr_c (v := .str z) (fun _ _ _ => e_str) fun _ => ⟨rfl, rfl⟩
theorem evr_bl {b : Bool} {j} : EvR X W (.Constant (.bool b) j pos) (rC (.bl b)) := evr_c (v := .bl b) (fun _ _ _ => e_bl) fun _ => ⟨rfl, rfl⟩
theorem evr_non {j} : EvR X W (.Constant .none j pos) (rC .non) := evr_c (v := .non) (fun _ _ _ => e_non) fun _ => ⟨rfl, rfl⟩
/-- a constant of the module -/
theorem evr_glI {n : Int} (hg : Gl X x) (hm : ∃ t, X.mg x = some (.int n t)) (hd : (x == ("__debug__" : Str)) = false := by decide +kernel) : EvR X W (.Name x pos) (rC (.int n)) := evr_c (v := .int n) (fun _ _ _ => e_glI hg hm hd) fun _ => ⟨rfl, rfl⟩
theorem evr_glS {z : Str} (hg : Gl X x) (hm : ∃ t, X.mg x = some (.str z t)) (hd : (x == ("__debug__" : Str)) = false := by decide +kernel) : EvR X W (.Name x pos) (rC (.str z)) := evr_c (v := .str z) (fun _ _ _ => e_glS hg hm hd) fun _ => ⟨rfl, rfl⟩

/-! arguments -/
def aN : Env → R (List Opd) := fun E => .ok [] E
def aC (g : Env → R Opd) (a : Env → R (List Opd)) : Env → R (List Opd) := fun E => (g E).bind fun o E1 => (a E1).bind fun os E2 => .ok (o :: os) E2
theorem OpRep.mono {K : PySem.W.Frag} {σ : L2.St} {B B' : Hp} (e : Ex B B') : ∀ {o : Opd} {v : V} {fp : List Ob}, OpRep K σ B o v fp → OpRep K σ B' o v fp
  | .tmp _, _, _, h => Rep.mono e h
  | .slot _, _, _, h => h
theorem OpsRep.mono {K : PySem.W.Frag} {σ : L2.St} {B B' : Hp} (e : Ex B B') : ∀ {os : List Opd} {vs : List V} {fp : List Ob}, OpsRep K σ B os vs fp → OpsRep K σ B' os vs fp
  | [], _, _, h => h
  | o :: os, _, _, h => by
    obtain ⟨v, vs', f1, f2, h1, h2, h3, h4⟩ := h
    exact ⟨v, vs', f1, f2, h1, h2, h3.mono e, h4.mono e⟩
theorem eva_nil : EvA X W [] aN := ⟨fun E σ B l fr H Q re cf af => w_anil (af [] B l [] H (Ex.refl _) re ⟨rfl, rfl⟩ cf)⟩
theorem eva_cons (h1 : EvO X W e g) (h2 : EvA X W es a) (hs : starEach (e :: es) X.env = (false, eval e X.env) :: starEach es X.env := by rfl) : EvA X W (e :: es) (aC g a) := ⟨fun E σ B l fr H Q re cf af =>
  w_acons (h1.run E σ B l fr H _ re cf (af.first fun o E1 v B1 l1 fp1 H1 _ x1 re1 rv1 cf1 af1 =>
    h2.run E1 σ B1 l1 (fp1 ++ fr) H1 _ re1 (Cfg.perm cf1 (by walk_at "perm")) (af1.next fun os E2 vs B2 l2 fp2 H2 _ x2 re2 rv2 cf2 af2 =>
      af2 (v :: vs) B2 l2 (fp1 ++ fp2) H2 (Ex.refl _) re2 ⟨v, vs, fp1, fp2, rfl, rfl, rv1.mono x2, rv2⟩ (Cfg.perm cf2 (by walk_at "perm"))))) hs⟩
end
end DW
/-! DW3: operators. -/
namespace DW
open PySem L2 Evl QW
local macro_rules | `(tactic| walk_at "perm") => `(tactic| (refine List.perm_iff_count.mpr fun _ => ?_; simp only [List.count_append, List.count_nil]; omega))

/-! ### what an operand is, when it is asked -/
theorem OpRep.get {K : PySem.W.Frag} {σ : L2.St} {B : Hp} {E : Env} {l : List Ob} (re : RelEnv K B E σ l) : ∀ {o : Opd} {v : V} {fp : List Ob} {d : D}, OpRep K σ B o v fp → o.val E = some d → ∃ f, Rep K B d v f ∧ ∀ ob, ob ∈ f → ob ∈ fp ++ l
  | .tmp d', v, fp, d, h, e => by
    obtain rfl : d' = d := Option.some.inj e
    exact ⟨fp, h, fun ob m => List.mem_append_left _ m⟩
  | .slot i, v, fp, d, h, e => by
    obtain ⟨hv, rfl⟩ := h
    obtain ⟨u, f1, f, f2, h1, h2, h3, _⟩ := re.at (gt_some e)
    rw [hv] at h1
    cases h1
    refine ⟨f, h3, fun ob m => ?_⟩
    subst h2
    exact List.mem_append_right _ (List.mem_append_left _ (List.mem_append_right _ m))
/-- the values of an operand's kind: what is asked of the heap -/
abbrev Fits (B : Hp) (H : Hp) (L f : List Ob) : Prop := ∀ ob, ob ∈ f → ob ∈ L
section
variable {K : PySem.W.Frag} {B H : Hp} {L f : List Ob} {v : V} {d : D} {xs : List D} {o : Bool}
theorem Rep.view (h : Rep K B d v f) (c : Cfg B L H) (m : ∀ ob, ob ∈ f → ob ∈ L) : Rep K H (DW.frz d) v [] := h.frz c.ex fun p o hm => c.own p o (m _ hm)
/-- a list and its items -/
theorem Rep.isL (h : Rep K B (.lst o xs) v f) (c : Cfg B L H) (m : ∀ ob, ob ∈ f → ob ∈ L) : ∃ p vs g, v = .ref p ∧ H p = some (.lst vs) ∧ RepL K B xs vs g ∧ (∀ ob, ob ∈ g → ob ∈ f) ∧ (o = true → f = [(p, .lst vs)] ++ g) := by
  obtain ⟨p, vs, h1, h2⟩ := h
  cases o with
  | true =>
    obtain ⟨g, rfl, h3⟩ := h2
    exact ⟨p, vs, g, h1, c.own _ _ (m _ List.mem_cons_self), h3, fun ob hm => List.mem_append_right _ hm, fun _ => rfl⟩
  | false => exact ⟨p, vs, [], h1, c.ex _ _ h2.1, h2.2.1, by simp, by simp⟩
theorem Rep.isT (h : Rep K B (.tup xs) v f) (c : Cfg B L H) : ∃ p vs, v = .ref p ∧ SqT K H p vs ∧ B p = some (.tup vs) ∧ RepL K B xs vs f := by
  obtain ⟨p, vs, h1, h2, h3⟩ := h
  exact ⟨p, vs, h1, SqT.of (c.ex _ _ h2), h2, h3⟩
end
/-- an operation of two operands -/
structure Op2 (K : PySem.W.Frag) (rop : R2) (F : D → D → Option D) : Prop where
  run : ∀ B H L v1 v2 f1 f2 d1 d2 r Q, Rep K B d1 v1 f1 → Rep K B d2 v2 f2 → (∀ ob, ob ∈ f1 → ob ∈ L) → (∀ ob, ob ∈ f2 → ob ∈ L) → Cfg B L H → F d1 d2 = some r →
    (∀ v fp B' H', Ex B B' → Rep K B' r v fp → Cfg B' (fp ++ L) H' → Q v H') → rop v1 v2 H Q
structure Op1 (K : PySem.W.Frag) (rop : V → Hp → VK → Prop) (F : D → Option D) : Prop where
  run : ∀ B H L v1 f1 d1 r Q, Rep K B d1 v1 f1 → (∀ ob, ob ∈ f1 → ob ∈ L) → Cfg B L H → F d1 = some r →
    (∀ v fp B' H', Ex B B' → Rep K B' r v fp → Cfg B' (fp ++ L) H' → Q v H') → rop v1 H Q
def op2 (F : D → D → Option D) (g1 g2 : Env → R Opd) : Env → R D := fun E => (g1 E).bind fun o1 E1 => (g2 E1).bind fun o2 E2 => match o1.val E2, o2.val E2 with
  | some d1, some d2 => match F d1 d2 with
    | some r => .ok r E2
    | none => .bad
  | _, _ => .bad
def op1 (F : D → Option D) (g1 : Env → R Opd) : Env → R D := fun E => (g1 E).bind fun o1 E1 => match o1.val E1 with
  | some d1 => match F d1 with
    | some r => .ok r E1
    | none => .bad
  | none => .bad
section
variable {X : Cx} {W : WX} {e e1 e2 e3 c : Expr} {g g1 g2 : Env → R Opd} {pos : Pos} {F : D → D → Option D} {F1 : D → Option D} {rop : R2} {rop1 : V → Hp → VK → Prop}
/-- two operands, then the operation -/
theorem two (h1 : EvO X W e1 g1) (h2 : EvO X W e2 g2) (ho : Op2 X.K rop F) {E : Env} {σ : L2.St} {B : Hp} {l fr : List Ob} {H : Hp} {Q : VK} (re : RelEnv X.K B E σ l) (cf : Cfg B (l ++ fr) H) (af : After X.K σ fr B W (Rep X.K) (op2 F g1 g2 E) Q) :
    wE X e1 σ H fun v1 H1 => wE X e2 σ H1 fun v2 H2 => rop v1 v2 H2 Q :=
  h1.run E σ B l fr H _ re cf (After.first (β := V) af fun o1 E1 v1 B1 l1 fp1 H1 _ x1 re1 rv1 cf1 af1 =>
    h2.run E1 σ B1 l1 (fp1 ++ fr) H1 _ re1 (Cfg.perm cf1 (by walk_at "perm")) (After.next (β := V) af1 fun o2 E2 v2 B2 l2 fp2 H2 _ x2 re2 rv2 cf2 af2 => by
      try dsimp only at af2
      cases hv1 : o1.val E2 with
      | none => rw [hv1] at af2; exact af2.elim
      | some d1 =>
        cases hv2 : o2.val E2 with
        | none => rw [hv1, hv2] at af2; exact af2.elim
        | some d2 =>
          rw [hv1, hv2] at af2
          dsimp only at af2
          cases hF : F d1 d2 with
          | none => rw [hF] at af2; exact af2.elim
          | some r =>
            rw [hF] at af2
            obtain ⟨f1, r1, m1⟩ := (rv1.mono x2).get re2 hv1
            obtain ⟨f2, r2, m2⟩ := rv2.get re2 hv2
            have cf3 : Cfg B2 ((fp1 ++ fp2) ++ (l2 ++ fr)) H2 := Cfg.perm cf2 (by walk_at "perm")
            refine ho.run B2 H2 ((fp1 ++ fp2) ++ (l2 ++ fr)) v1 v2 f1 f2 d1 d2 r Q r1 r2 (fun ob m => ?_) (fun ob m => ?_) cf3 hF fun v fp B3 H3 x3 rr cf4 => ?_
            · have := m1 ob m
              simp only [List.mem_append] at this ⊢
              rcases this with h | h
              · exact .inl (.inl h)
              · exact .inr (.inl h)
            · have := m2 ob m
              simp only [List.mem_append] at this ⊢
              rcases this with h | h
              · exact .inl (.inr h)
              · exact .inr (.inl h)
            · exact af2 v B3 l2 fp H3 x3 (re2.mono x3) rr (Cfg.dropL (a := fp1 ++ fp2) (Cfg.perm cf4 (by walk_at "perm")))))
theorem one (h1 : EvO X W e1 g1) (ho : Op1 X.K rop1 F1) {E : Env} {σ : L2.St} {B : Hp} {l fr : List Ob} {H : Hp} {Q : VK} (re : RelEnv X.K B E σ l) (cf : Cfg B (l ++ fr) H) (af : After X.K σ fr B W (Rep X.K) (op1 F1 g1 E) Q) :
    wE X e1 σ H fun v1 H1 => rop1 v1 H1 Q :=
  h1.run E σ B l fr H _ re cf (After.first (β := V) af fun o1 E1 v1 B1 l1 fp1 H1 _ x1 re1 rv1 cf1 af1 => by
    try dsimp only at af1
    cases hv1 : o1.val E1 with
    | none => rw [hv1] at af1; exact af1.elim
    | some d1 =>
      rw [hv1] at af1
      dsimp only at af1
      cases hF : F1 d1 with
      | none => rw [hF] at af1; exact af1.elim
      | some r =>
        rw [hF] at af1
        obtain ⟨f1, r1, m1⟩ := rv1.get re1 hv1
        refine ho.run B1 H1 (fp1 ++ (l1 ++ fr)) v1 f1 d1 r Q r1 (fun ob m => ?_) cf1 hF fun v fp B3 H3 x3 rr cf4 => ?_
        · have := m1 ob m
          simp only [List.mem_append] at this ⊢
          rcases this with h | h
          · exact .inl h
          · exact .inr (.inl h)
        · exact af1 v B3 l1 fp H3 x3 (re1.mono x3) rr (Cfg.dropL (a := fp1) (Cfg.perm cf4 (by walk_at "perm"))))
theorem evr_bin {op : Operator} (ho : OpR X (binaryOp op) rop) (hs : Op2 X.K rop F) (h1 : EvO X W e1 g1) (h2 : EvO X W e2 g2) : EvR X W (.BinOp e1 op e2 pos) (op2 F g1 g2) :=
  ⟨fun E σ B l fr H Q re cf af => w_op ho (two h1 h2 hs re cf af)⟩
theorem evr_cmp {op : CmpOp} (ho : OpR X (compareOp op) rop) (hs : Op2 X.K rop F) (h1 : EvO X W e1 g1) (h2 : EvO X W e2 g2) (hm : behindInMarks op e2 = false := by first | exact nobehind _ (by decide) (by decide) | rfl) : EvR X W (.Compare e1 [op] [e2] pos) (op2 F g1 g2) :=
  ⟨fun E σ B l fr H Q re cf af => wE_of (pe_cmp (pc_R ho pE pE) hm) (two h1 h2 hs re cf af)⟩
theorem evr_ix (ho : IxR X rop) (hs : Op2 X.K rop F) (h1 : EvO X W e1 g1) (h2 : EvO X W e2 g2) (hp : PlainIx e2 := by exact fun _ _ => rfl) : EvR X W (.Subscript e1 e2 pos) (op2 F g1 g2) :=
  ⟨fun E σ B l fr H Q re cf af => w_ix ho (two h1 h2 hs re cf af) hp⟩
theorem evr_un {op : UnaryOp} {r : V → Hp → VK → Prop} (ho : UnR X (unaryOp op) r) (hs : Op1 X.K r F1) (h1 : EvO X W e1 g1) (he : op ≠ .Not := by decide) : EvR X W (.UnaryOp op e1 pos) (op1 F1 g1) :=
  ⟨fun E σ B l fr H Q re cf af => wE_of (pe_un ho pE) (one h1 hs re cf af)⟩
end
end DW
/-! DW4: the operators one by one. -/
namespace DW
open PySem L2 Evl QW PyProof.Rows
section
variable {X : Cx} {K : PySem.W.Frag}
/-! ### + - * % // ** -/
def addD : D → D → Option D
  | .int i, .int j => some (.int (i + j))
  | .str x, .str y => if x.length + y.length ≤ 100000 then some (.str (x ++ y)) else none
  | .lst _ xs, .lst _ ys => if (noOwnL xs && noOwnL ys) = true then (if xs.length + ys.length ≤ 100000 then some (.lst true (xs ++ ys)) else none) else none
  | .tup xs, .tup ys => if (noOwnL xs && noOwnL ys) = true then (if xs.length + ys.length ≤ 100000 then some (.tup (xs ++ ys)) else none) else none
  | _, _ => none
abbrev rAddS : R2 := fun x y H Q => ∃ i j, x = .str i ∧ y = .str j ∧ i.length + j.length ≤ sizeLine ∧ Q (.str (i ++ j)) H
def rAddD (K : PySem.W.Frag) : R2 := fun x y H Q => rI0 (fun i j => .int (i + j)) x y H Q ∨ (rAddS x y H Q ∨ (rCat x y H Q ∨ rCatA K x y H Q))
theorem opr_add : OpR X (binaryOp .Add) (rAddD X.K) := op_add.or (op_add_str.or (op_cat.or op_catA))
theorem Cfg.new' {B H : Hp} {L : List Ob} {p : Addr} {o : HO} (c : Cfg B L H) (h : H p = none) : Cfg B ([(p, o)] ++ L) (upd H p o) := Cfg.add c h
theorem Cfg.seen {B H : Hp} {L : List Ob} {p : Addr} {o : HO} (c : Cfg B L H) (h : H p = none) : ∃ B', Ex B B' ∧ Cfg B' L (upd H p o) ∧ B' p = some o := by
  obtain ⟨B', x, c', h'⟩ := Cfg.keepL (a := [(p, o)]) (Cfg.new' c h)
  exact ⟨B', x, c', h' _ _ List.mem_cons_self⟩
theorem s2z {n : Nat} (h : n ≤ 100000) : n ≤ sizeLine := by rw [sizeLine_eq]; omega
theorem RepL.nil_of {K : PySem.W.Frag} {B : Hp} {xs : List D} {vs : List V} {g : List Ob} (h : RepL K B xs vs g) (n : noOwnL xs = true) : RepL K B xs vs [] := by
  have := h.none n
  subst this
  exact h
theorem op2_add : Op2 K (rAddD K) addD := ⟨fun B H L v1 v2 f1 f2 d1 d2 r Q r1 r2 m1 m2 c hF k => by
  unfold addD at hF
  split at hF
  · cases hF
    obtain ⟨rfl, _⟩ := r1
    obtain ⟨rfl, _⟩ := r2
    exact .inl ⟨_, _, rfl, rfl, k _ [] B H (Ex.refl _) ⟨rfl, rfl⟩ c⟩
  · split at hF
    · rename_i hz
      cases hF
      obtain ⟨rfl, _⟩ := r1
      obtain ⟨rfl, _⟩ := r2
      exact .inr (.inl ⟨_, _, rfl, rfl, s2z hz, k _ [] B H (Ex.refl _) ⟨rfl, rfl⟩ c⟩)
    · cases hF
  · split at hF
    · rename_i hn
      split at hF
      · rename_i hz
        cases hF
        rw [Bool.and_eq_true] at hn
        obtain ⟨p, vs, g, rfl, h1, h2, _⟩ := r1.isL c m1
        obtain ⟨q, us, g', rfl, h3, h4, _⟩ := r2.isL c m2
        have n1 := h2.nil_of hn.1
        have n2 := h4.nil_of hn.2
        refine .inr (.inr (.inl ⟨p, q, vs, us, rfl, rfl, h1, h3, s2z (by rw [← h2.len, ← h4.len]; exact hz), fun t ht => ?_⟩))
        exact k _ [(t, .lst (vs ++ us))] B _ (Ex.refl _) ⟨t, _, rfl, [], by simp, n1.app n2⟩ (Cfg.new' c ht)
      · cases hF
    · cases hF
  · split at hF
    · rename_i hn
      split at hF
      · rename_i hz
        cases hF
        rw [Bool.and_eq_true] at hn
        obtain ⟨p, vs, rfl, h1, h1', h2⟩ := r1.isT c
        obtain ⟨q, us, rfl, h3, h3', h4⟩ := r2.isT c
        have n1 := h2.nil_of hn.1
        have n2 := h4.nil_of hn.2
        refine .inr (.inr (.inr ⟨p, q, vs, us, rfl, rfl, h1, h3, s2z (by rw [← h2.len, ← h4.len]; exact hz), ?_⟩))
        refine ⟨fun e => ?_, fun _ e => ?_, fun _ _ t ht => ?_⟩
        · subst e; exact k _ [] B H (Ex.refl _) ⟨q, us, rfl, h3', n1.app n2⟩ c
        · subst e; exact k _ [] B H (Ex.refl _) ⟨p, vs, rfl, h1', by simpa using n1.app n2⟩ c
        · obtain ⟨B', x, c', hp⟩ := Cfg.seen (o := .tup (vs ++ us)) c ht
          exact k _ [] B' _ x ⟨t, _, rfl, hp, (n1.app n2).mono x⟩ c'
      · cases hF
    · cases hF
  · cases hF⟩

/-! ints alone -/
def intD (C : Int → Int → Bool) (g : Int → Int → D) : D → D → Option D
  | .int i, .int j => if C i j = true then some (g i j) else none
  | _, _ => none
theorem op2_int {C : Int → Int → Bool} {P : Int → Int → Prop} {g : Int → Int → D} {h : Int → Int → V} (hp : ∀ i j, C i j = true → P i j) (hr : ∀ B i j, Rep K B (g i j) (h i j) []) : Op2 K (rI P h) (intD C g) := ⟨fun B H L v1 v2 f1 f2 d1 d2 r Q r1 r2 m1 m2 c hF k => by
  unfold intD at hF
  split at hF
  · split at hF
    · rename_i hc
      cases hF
      obtain ⟨rfl, _⟩ := r1
      obtain ⟨rfl, _⟩ := r2
      exact ⟨_, _, rfl, rfl, hp _ _ hc, k _ [] B H (Ex.refl _) (hr _ _ _) c⟩
    · cases hF
  · cases hF⟩
theorem op2_int0 {g : Int → Int → D} {h : Int → Int → V} (hr : ∀ B i j, Rep K B (g i j) (h i j) []) : Op2 K (rI0 h) (intD (fun _ _ => true) g) := ⟨fun B H L v1 v2 f1 f2 d1 d2 r Q r1 r2 m1 m2 c hF k => by
  unfold intD at hF
  split at hF
  · cases hF
    obtain ⟨rfl, _⟩ := r1
    obtain ⟨rfl, _⟩ := r2
    exact ⟨_, _, rfl, rfl, k _ [] B H (Ex.refl _) (hr _ _ _) c⟩
  · cases hF⟩
def subD : D → D → Option D := intD (fun _ _ => true) fun i j => .int (i - j)
theorem op2_sub : Op2 K (rI0 fun i j => .int (i - j)) subD := op2_int0 fun _ _ _ => ⟨rfl, rfl⟩
def modD : D → D → Option D := intD (fun _ j => decide (0 < j)) fun i j => .int (i % j)
theorem op2_mod : Op2 K (rI (fun _ j => 0 < j) fun i j => .int (i % j)) modD := op2_int (fun i j h => of_decide_eq_true h) fun _ _ _ => ⟨rfl, rfl⟩
def fdivB (j : Int) : Bool := decide (0 < j) && decide (j.natAbs.log2 < 9000)
def fdivD : D → D → Option D := intD (fun _ j => fdivB j) fun i j => .int (i / j)
theorem op2_fdiv : Op2 K (rI CDivW fun i j => .int (i / j)) fdivD := op2_int (fun i j h => by
  unfold fdivB at h
  rw [Bool.and_eq_true] at h
  exact ⟨of_decide_eq_true h.1, of_decide_eq_true h.2⟩) fun _ _ _ => ⟨rfl, rfl⟩
def powB (i j : Int) : Bool := decide (0 ≤ j) && decide ((Builtin.Int.intBits i : Int) * j ≤ 2 ^ 27)
def powD : D → D → Option D := intD powB fun i j => .int (i ^ j.toNat)
theorem opr_pow : OpR X (binaryOp .Pow) (rI (fun i j => 0 ≤ j ∧ (Builtin.Int.intBits i : Int) * j ≤ 2 ^ 27) fun i j => .int (i ^ j.toNat)) := opI fun _ _ _ _ _ _ _ hc q => PyProof.Rows.pow_int hc.1 hc.2 q
theorem op2_pow : Op2 K (rI (fun i j => 0 ≤ j ∧ (Builtin.Int.intBits i : Int) * j ≤ 2 ^ 27) fun i j => .int (i ^ j.toNat)) powD := op2_int (fun i j h => by
  unfold powB at h
  rw [Bool.and_eq_true] at h
  exact ⟨of_decide_eq_true h.1, of_decide_eq_true h.2⟩) fun _ _ _ => ⟨rfl, rfl⟩
def mulB (i j : Int) : Bool := (decide (-(2 ^ 64) < i) && decide (i < 2 ^ 64)) || ((decide (-(2 ^ 64) < j) && decide (j < 2 ^ 64)) || decide (i.natAbs.log2 + j.natAbs.log2 < 1000000))
theorem mulB_ok {i j : Int} (h : mulB i j = true) : CMul i j ∨ CMulW i j := by
  unfold mulB at h
  simp only [Bool.or_eq_true, Bool.and_eq_true, decide_eq_true_eq] at h
  rcases h with h | h | h
  · exact .inl (.inl h)
  · exact .inl (.inr h)
  · exact .inr h
theorem mulB_w {i j : Int} (h : CMulW i j) : mulB i j = true := by
  unfold mulB
  simp only [Bool.or_eq_true, Bool.and_eq_true, decide_eq_true_eq]
  exact .inr (.inr h)
theorem mulB_l {i j : Int} (h : -(2 ^ 64) < i ∧ i < 2 ^ 64) : mulB i j = true := by
  unfold mulB
  simp only [Bool.or_eq_true, Bool.and_eq_true, decide_eq_true_eq]
  exact .inl h
theorem mulB_r {i j : Int} (h : -(2 ^ 64) < j ∧ j < 2 ^ 64) : mulB i j = true := by
  unfold mulB
  simp only [Bool.or_eq_true, Bool.and_eq_true, decide_eq_true_eq]
  exact .inr (.inl h)
/-- a text so many times -/
def strMul (z : Str) (n : Int) : Str := ⟨((List.replicate n.toNat z.cps.toList).flatten).toArray⟩
def mulD : D → D → Option D
  | .int i, .int j => if mulB i j = true then some (.int (i * j)) else none
  | .lst _ xs, .int k => if noOwnL xs = true then (if decide (-(2 ^ 63) ≤ k ∧ k < 2 ^ 63 ∧ xs.length * k.toNat ≤ 100000) = true then some (.lst true (List.replicate k.toNat xs).flatten) else none) else none
  | .str z, .int k => if decide (2 ≤ k ∧ k < 2 ^ 62 ∧ z.length * k.toNat ≤ 100000 ∧ z.length ≠ 0) = true then some (.str (strMul z k)) else if k = 1 then some (.str z) else if decide (k ≤ 0 ∧ -(2 ^ 62) < k) = true then some (.str "") else none
  | _, _ => none
abbrev rMulS : R2 := fun x y H Q => ∃ z k, x = .str z ∧ y = .int k ∧ ((2 ≤ k ∧ k < 2 ^ 62 ∧ z.length * k.toNat ≤ 100000 ∧ z.length ≠ 0 ∧ Q (.str (strMul z k)) H) ∨ (k = 1 ∧ Q (.str z) H) ∨ (k ≤ 0 ∧ -(2 ^ 62) < k ∧ Q (.str "") H))
theorem foldl_app (n : Nat) (xs : Array Nat) : ∀ (m : Nat) (acc : Array Nat), List.foldl (fun x1 x2 => x1 ++ x2) acc (List.replicate m xs) = acc ++ ((List.replicate m xs.toList).flatten).toArray
  | 0, acc => by simp
  | m + 1, acc => by
    rw [List.replicate_succ, List.foldl_cons, foldl_app n xs m]
    apply Array.ext'
    simp [List.replicate_succ]
theorem opr_mulS : OpR X (binaryOp .Mult) rMulS := by
  intro pins s σ H x y v u Q I rx ry h
  obtain ⟨z, k, rfl, rfl, h⟩ := h
  obtain ⟨t, rfl⟩ := rx
  obtain ⟨t', rfl⟩ := ry
  rcases h with ⟨k2, kb, hz, hn, q⟩ | ⟨rfl, q⟩ | ⟨k0, kb, q⟩
  · have hbb : (2 : Int) ^ 62 < 2 ^ 63 := by decide
    refine P.mul_str (by rw [decide_eq_false (by omega), decide_eq_false (by omega)]; rfl) (fun _ _ => ?_) (fun _ _ => ?_) ?_
    · have hz' : z.length ≤ 50000 := by
        have : z.length * 2 ≤ z.length * k.toNat := Nat.mul_le_mul_left _ (by omega)
        omega
      have : (100000 : Int) ≤ (2 ^ 63 - 1) / k := by
        have h1 : k ≤ 100000 := by
          have : 1 * k.toNat ≤ z.length * k.toNat := Nat.mul_le_mul_right _ (by omega)
          omega
        exact Int.le_ediv_of_mul_le (by omega) (by omega)
      omega
    · unfold PySem.Builtin.Str.tooLong
      exact decide_eq_false (by rw [sizeLine_eq] <;> omega)
    · have e1 : ¬ k < 1 := by omega
      have e2 : ¬ ((k == 1 || z.length == 0) = true) := by simp; omega
      rw [if_neg e1, if_neg e2]
      have e3 : (⟨(List.replicate k.toNat z.cps).foldl (· ++ ·) #[]⟩ : Str) = strMul z k := by
        rw [foldl_app 0]
        simp [strMul]
      rw [e3]
      have hl : (strMul z k).length ≤ sizeLine := by
        have : (strMul z k).length = k.toNat * z.length := by
          show ((List.replicate k.toNat z.cps.toList).flatten).toArray.size = _
          simp [Str.length]
        rw [this, Nat.mul_comm]
        exact s2z hz
      exact ⟨hl, .str _, H, I.tok _, ⟨_, rfl⟩, q⟩
  · refine P.mul_str (by decide) (fun _ h => ?_) (fun _ h => ?_) ?_
    · simp at h
    · simp at h
    · rw [if_neg (by decide), if_pos (by simp)]
      exact ⟨.str _, H, I, ⟨_, rfl⟩, q⟩
  · exact P.mul_str_none (by omega) (by omega) ⟨.str _, H, I.tok _, ⟨_, rfl⟩, q⟩
def rMulD : R2 := fun x y H Q => rI CMul (fun i j => .int (i * j)) x y H Q ∨ (rI CMulW (fun i j => .int (i * j)) x y H Q ∨ (rRep x y H Q ∨ rMulS x y H Q))
theorem opr_mul : OpR X (binaryOp .Mult) rMulD := op_mul.or (op_mulW.or (op_rep.or opr_mulS))
theorem RepL.rep {K : PySem.W.Frag} {B : Hp} {xs : List D} {vs : List V} (h : RepL K B xs vs []) : ∀ n, RepL K B (List.replicate n xs).flatten (List.replicate n vs).flatten []
  | 0 => ⟨rfl, rfl⟩
  | n + 1 => by
    rw [List.replicate_succ, List.replicate_succ]
    exact h.app (RepL.rep h n)
theorem op2_mul : Op2 K rMulD mulD := ⟨fun B H L v1 v2 f1 f2 d1 d2 r Q r1 r2 m1 m2 c hF k => by
  unfold mulD at hF
  split at hF
  · split at hF
    · rename_i hb
      cases hF
      obtain ⟨rfl, _⟩ := r1
      obtain ⟨rfl, _⟩ := r2
      rcases mulB_ok hb with hb | hb
      · exact .inl ⟨_, _, rfl, rfl, hb, k _ [] B H (Ex.refl _) ⟨rfl, rfl⟩ c⟩
      · exact .inr (.inl ⟨_, _, rfl, rfl, hb, k _ [] B H (Ex.refl _) ⟨rfl, rfl⟩ c⟩)
    · cases hF
  · split at hF
    · rename_i hn
      split at hF
      · rename_i hz
        have hz := of_decide_eq_true hz
        cases hF
        obtain ⟨p, vs, g, rfl, h1, h2, _⟩ := r1.isL c m1
        obtain ⟨rfl, _⟩ := r2
        have n1 := h2.nil_of hn
        refine .inr (.inr (.inl ⟨p, _, vs, rfl, rfl, h1, hz.1, hz.2.1, s2z (by rw [← h2.len]; exact hz.2.2), fun t ht => ?_⟩))
        exact k _ [(t, _)] B _ (Ex.refl _) ⟨t, _, rfl, [], by simp, n1.rep _⟩ (Cfg.new' c ht)
      · cases hF
    · cases hF
  · obtain ⟨rfl, _⟩ := r1
    obtain ⟨rfl, _⟩ := r2
    split at hF
    · rename_i hz
      have hz := of_decide_eq_true hz
      cases hF
      exact .inr (.inr (.inr ⟨_, _, rfl, rfl, .inl ⟨hz.1, hz.2.1, hz.2.2.1, hz.2.2.2, k _ [] B H (Ex.refl _) ⟨rfl, rfl⟩ c⟩⟩))
    · split at hF
      · rename_i hk
        cases hF
        exact .inr (.inr (.inr ⟨_, _, rfl, rfl, .inr (.inl ⟨hk, k _ [] B H (Ex.refl _) ⟨rfl, rfl⟩ c⟩)⟩))
      · split at hF
        · rename_i hk
          have hk := of_decide_eq_true hk
          cases hF
          exact .inr (.inr (.inr ⟨_, _, rfl, rfl, .inr (.inr ⟨hk.1, hk.2, k _ [] B H (Ex.refl _) ⟨rfl, rfl⟩ c⟩)⟩))
        · cases hF
  · cases hF⟩
def negD : D → Option D
  | .int i => some (.int (-i))
  | _ => none
theorem op1_neg : Op1 K (rU fun i => .int (-i)) negD := ⟨fun B H L v1 f1 d1 r Q r1 m1 c hF k => by
  unfold negD at hF
  split at hF
  · cases hF
    obtain ⟨rfl, _⟩ := r1
    exact ⟨_, rfl, k _ [] B H (Ex.refl _) ⟨rfl, rfl⟩ c⟩
  · cases hF⟩
end
end DW
/-! DW5: comparisons, items. -/
namespace DW
open PySem L2 Evl QW PyProof.Rows
mutual
/-- == -/
def eqB : D → D → Bool
  | .non, .non => true
  | .bl a, .bl b => a == b
  | .bl a, .int j => (if a then 1 else 0) == j
  | .int i, .bl b => i == (if b then 1 else 0)
  | .int i, .int j => i == j
  | .str x, .str y => x == y
  | .lst _ xs, .lst _ ys => eqBL xs ys
  | .tup xs, .tup ys => eqBL xs ys
  | _, _ => false
def eqBL : List D → List D → Bool
  | [], [] => true
  | x :: xs, y :: ys => eqB x y && eqBL xs ys
  | _, _ => false
end
/-- data of nesting n at most -/
def dd : Nat → D → Bool
  | _, .non => true
  | _, .bl _ => true
  | _, .int _ => true
  | _, .str x => PySem.PyData.strOk x
  | n + 1, .lst _ xs => xs.all (dd n)
  | n + 1, .tup xs => xs.all (dd n)
  | _, _ => false
mutual
def toP : D → PyData
  | .bl b => .bool b
  | .int i => .int i
  | .str x => .str x
  | .lst _ xs => .list (toPL xs)
  | .tup xs => .tuple (toPL xs)
  | _ => .none
def toPL : List D → List PyData
  | [] => []
  | d :: ds => toP d :: toPL ds
end
theorem dd_lst {n : Nat} {o : Bool} {xs : List D} (h : dd n (.lst o xs) = true) : ∃ m, n = m + 1 ∧ ∀ x ∈ xs, dd m x = true := by
  cases n with
  | zero => cases h
  | succ m => exact ⟨m, rfl, List.all_eq_true.mp h⟩
theorem dd_tup {n : Nat} {xs : List D} (h : dd n (.tup xs) = true) : ∃ m, n = m + 1 ∧ ∀ x ∈ xs, dd m x = true := by
  cases n with
  | zero => cases h
  | succ m => exact ⟨m, rfl, List.all_eq_true.mp h⟩
theorem dd_exc {n : Nat} {d : D} (h : dd n d = true) : (∃ o ks vs, d = .dct o ks vs) ∨ (∃ o ks vs, d = .dcT o ks vs) ∨ (∃ o c ns vs, d = .ins o c ns vs) ∨ (∃ c ns vs, d = .exn c ns vs) ∨ (∃ ns, d = .scr ns) ∨ (∃ ns, d = .ktp ns) ∨ (∃ x, d = .gl x) → False := by
  rintro (⟨o, ks, vs, rfl⟩ | ⟨o, ks, vs, rfl⟩ | ⟨o, c, ns, vs, rfl⟩ | ⟨c, ns, vs, rfl⟩ | ⟨ns, rfl⟩ | ⟨ns, rfl⟩ | ⟨x, rfl⟩) <;> (cases n <;> cases h)
mutual
theorem toP_ok : ∀ (d : D) (n : Nat), dd n d = true → (toP d).canLay0 = true ∧ (toP d).depth ≤ n
  | .non, n, _ => ⟨rfl, Nat.zero_le _⟩
  | .bl _, n, _ => ⟨rfl, Nat.zero_le _⟩
  | .int _, n, _ => ⟨rfl, Nat.zero_le _⟩
  | .str x, n, h => ⟨by
      have h' : PySem.PyData.strOk x = true := by cases n <;> exact h
      show PyData.canLay0 (.str x) = true
      unfold PyData.canLay0; exact h', Nat.zero_le _⟩
  | .lst o xs, n, hh => by
    obtain ⟨m, rfl, h⟩ := dd_lst hh
    obtain ⟨h1, h2⟩ := toPL_ok xs m h
    refine ⟨?_, ?_⟩
    · show PyData.canLay0 (.list (toPL xs)) = true
      unfold PyData.canLay0; exact h1
    · show PyData.depth (.list (toPL xs)) ≤ _
      unfold PyData.depth; omega
  | .tup xs, n, hh => by
    obtain ⟨m, rfl, h⟩ := dd_tup hh
    obtain ⟨h1, h2⟩ := toPL_ok xs m h
    refine ⟨?_, ?_⟩
    · show PyData.canLay0 (.tuple (toPL xs)) = true
      unfold PyData.canLay0; exact h1
    · show PyData.depth (.tuple (toPL xs)) ≤ _
      unfold PyData.depth; omega
  | .dct o ks vs, n, h => (dd_exc h (.inl ⟨_, _, _, rfl⟩)).elim
  | .dcT o ks vs, n, h => (dd_exc h (.inr (.inl ⟨_, _, _, rfl⟩))).elim
  | .ins o c ns vs, n, h => (dd_exc h (.inr (.inr (.inl ⟨_, _, _, _, rfl⟩)))).elim
  | .exn c ns vs, n, h => (dd_exc h (.inr (.inr (.inr (.inl ⟨_, _, _, rfl⟩))))).elim
  | .scr ns, n, h => (dd_exc h (.inr (.inr (.inr (.inr (.inl ⟨_, rfl⟩)))))).elim
  | .ktp ns, n, h => (dd_exc h (.inr (.inr (.inr (.inr (.inr (.inl ⟨_, rfl⟩))))))).elim
  | .gl x, n, h => (dd_exc h (.inr (.inr (.inr (.inr (.inr (.inr ⟨_, rfl⟩))))))).elim
theorem toPL_ok : ∀ (ds : List D) (n : Nat), (∀ x ∈ ds, dd n x = true) → PyData.canLayAll0 (toPL ds) = true ∧ PyData.depthAll (toPL ds) ≤ n
  | [], n, _ => ⟨rfl, Nat.zero_le _⟩
  | d :: ds, n, h => by
    obtain ⟨h1, h2⟩ := toP_ok d n (h d List.mem_cons_self)
    obtain ⟨h3, h4⟩ := toPL_ok ds n fun x m => h x (List.mem_cons_of_mem _ m)
    refine ⟨?_, ?_⟩
    · show PyData.canLayAll0 (toP d :: toPL ds) = true
      unfold PyData.canLayAll0
      rw [h1, h3]; rfl
    · show PyData.depthAll (toP d :: toPL ds) ≤ n
      unfold PyData.depthAll
      omega
end
theorem shaped_of {d : D} (h : dd 8 d = true) : SeqAt.shaped (toP d) = true := by
  obtain ⟨h1, h2⟩ := toP_ok d 8 h
  unfold SeqAt.shaped
  rw [h1, decide_eq_true (by omega)]
  rfl
mutual
theorem eqv_toP : ∀ (d e : D) (n m : Nat), dd n d = true → dd m e = true → PyData.eqv (toP d) (toP e) = eqB d e
  | .non, e, n, m, h, k => by
    cases e <;> first | rfl | (exfalso; cases m <;> cases k)
  | .bl a, e, n, m, h, k => by
    cases e <;> first | rfl | (exfalso; cases m <;> cases k)
  | .int a, e, n, m, h, k => by
    cases e <;> first | rfl | (exfalso; cases m <;> cases k)
  | .str a, e, n, m, h, k => by
    cases e <;> first | rfl | (exfalso; cases m <;> cases k)
  | .lst o xs, e, n, m, hh, k => by
    obtain ⟨n', rfl, h⟩ := dd_lst hh
    cases e with
    | lst o' ys =>
      obtain ⟨m', rfl, k'⟩ := dd_lst k
      show PyData.eqv (.list (toPL xs)) (.list (toPL ys)) = eqBL xs ys
      unfold PyData.eqv
      exact eqv_toPL xs ys n' m' h k'
    | _ => first | rfl | (exfalso; cases m <;> cases k)
  | .tup xs, e, n, m, hh, k => by
    obtain ⟨n', rfl, h⟩ := dd_tup hh
    cases e with
    | tup ys =>
      obtain ⟨m', rfl, k'⟩ := dd_tup k
      show PyData.eqv (.tuple (toPL xs)) (.tuple (toPL ys)) = eqBL xs ys
      unfold PyData.eqv
      exact eqv_toPL xs ys n' m' h k'
    | _ => first | rfl | (exfalso; cases m <;> cases k)
  | .dct o ks vs, e, n, m, h, k => (dd_exc h (.inl ⟨_, _, _, rfl⟩)).elim
  | .dcT o ks vs, e, n, m, h, k => (dd_exc h (.inr (.inl ⟨_, _, _, rfl⟩))).elim
  | .ins o c ns vs, e, n, m, h, k => (dd_exc h (.inr (.inr (.inl ⟨_, _, _, _, rfl⟩)))).elim
  | .exn c ns vs, e, n, m, h, k => (dd_exc h (.inr (.inr (.inr (.inl ⟨_, _, _, rfl⟩))))).elim
  | .scr ns, e, n, m, h, k => (dd_exc h (.inr (.inr (.inr (.inr (.inl ⟨_, rfl⟩)))))).elim
  | .ktp ns, e, n, m, h, k => (dd_exc h (.inr (.inr (.inr (.inr (.inr (.inl ⟨_, rfl⟩))))))).elim
  | .gl x, e, n, m, h, k => (dd_exc h (.inr (.inr (.inr (.inr (.inr (.inr ⟨_, rfl⟩))))))).elim
theorem eqv_toPL : ∀ (ds es : List D) (n m : Nat), (∀ x ∈ ds, dd n x = true) → (∀ x ∈ es, dd m x = true) → PyData.eqvAll (toPL ds) (toPL es) = eqBL ds es
  | [], [], _, _, _, _ => rfl
  | [], _ :: _, _, _, _, _ => rfl
  | _ :: _, [], _, _, _, _ => rfl
  | d :: ds, e :: es, n, m, h, k => by
    show PyData.eqvAll (toP d :: toPL ds) (toP e :: toPL es) = (eqB d e && eqBL ds es)
    unfold PyData.eqvAll
    rw [eqv_toP d e n m (h d List.mem_cons_self) (k e List.mem_cons_self), eqv_toPL ds es n m (fun x q => h x (List.mem_cons_of_mem _ q)) fun x q => k x (List.mem_cons_of_mem _ q)]
end
section
variable {X : Cx} {K : PySem.W.Frag}
mutual
theorem dp_of {H : Hp} : ∀ (d : D) (n : Nat) (v : V) (f : List Ob), dd n d = true → Rep K H (frz d) v f → Dp K H v (toP d)
  | .non, n, v, f, _, r => by obtain ⟨rfl, _⟩ := r; exact .non
  | .bl _, n, v, f, _, r => by obtain ⟨rfl, _⟩ := r; exact .bl _
  | .int _, n, v, f, _, r => by obtain ⟨rfl, _⟩ := r; exact .int _
  | .str _, n, v, f, _, r => by obtain ⟨rfl, _⟩ := r; exact .str _
  | .lst o xs, n, v, f, hh, r => by
    obtain ⟨m, rfl, h⟩ := dd_lst hh
    obtain ⟨p, vs, rfl, hp, hl, _⟩ := r
    exact .lst (SqL.of hp) (dpL_of xs m vs [] h hl)
  | .tup xs, n, v, f, hh, r => by
    obtain ⟨m, rfl, h⟩ := dd_tup hh
    obtain ⟨p, vs, rfl, hp, hl⟩ := r
    exact .tup (SqT.of hp) (dpL_of xs m vs f h hl)
  | .dct o ks vs, n, v, f, h, r => (dd_exc h (.inl ⟨_, _, _, rfl⟩)).elim
  | .dcT o ks vs, n, v, f, h, r => (dd_exc h (.inr (.inl ⟨_, _, _, rfl⟩))).elim
  | .ins o c ns vs, n, v, f, h, r => (dd_exc h (.inr (.inr (.inl ⟨_, _, _, _, rfl⟩)))).elim
  | .exn c ns vs, n, v, f, h, r => (dd_exc h (.inr (.inr (.inr (.inl ⟨_, _, _, rfl⟩))))).elim
  | .scr ns, n, v, f, h, r => (dd_exc h (.inr (.inr (.inr (.inr (.inl ⟨_, rfl⟩)))))).elim
  | .ktp ns, n, v, f, h, r => (dd_exc h (.inr (.inr (.inr (.inr (.inr (.inl ⟨_, rfl⟩))))))).elim
  | .gl x, n, v, f, h, r => (dd_exc h (.inr (.inr (.inr (.inr (.inr (.inr ⟨_, rfl⟩))))))).elim
theorem dpL_of {H : Hp} : ∀ (ds : List D) (n : Nat) (vs : List V) (f : List Ob), (∀ x ∈ ds, dd n x = true) → RepL K H (frzL ds) vs f → DpAll K H vs (toPL ds)
  | [], n, vs, f, _, r => by obtain ⟨rfl, _⟩ := r; exact .nil
  | d :: ds, n, vs, f, h, r => by
    obtain ⟨v, vs', f1, f2, rfl, rfl, r1, r2⟩ := r
    exact .cons (dp_of d n v f1 (h d List.mem_cons_self) r1) (dpL_of ds n vs' f2 (fun x q => h x (List.mem_cons_of_mem _ q)) r2)
end
def eqD : D → D → Option D
  | .str x, .str y => some (.bl (decide (x = y)))
  | d, e => if (dd 8 d && dd 8 e) = true then some (.bl (eqB d e)) else none
def neD : D → D → Option D
  | .str x, .str y => some (.bl (!decide (x = y)))
  | d, e => if (dd 8 d && dd 8 e) = true then some (.bl (!eqB d e)) else none
def rEqX (K : PySem.W.Frag) : R2 := fun x y H Q => rEq x y H Q ∨ rEqD K x y H Q
def rNeX (K : PySem.W.Frag) : R2 := fun x y H Q => rNe x y H Q ∨ rNeD K x y H Q
theorem opr_eq (hu : X.A.units + 64 < cLine) : OpR X (compareOp .Eq) (rEqX X.K) := op_eq.or (op_eqD hu)
theorem opr_ne (hu : X.A.units + 64 < cLine) : OpR X (compareOp .NotEq) (rNeX X.K) := op_ne.or (op_neD hu)
theorem op2_eq : Op2 K (rEqX K) eqD := ⟨fun B H L v1 v2 f1 f2 d1 d2 r Q r1 r2 m1 m2 c hF k => by
  unfold eqD at hF
  split at hF
  · cases hF
    obtain ⟨rfl, _⟩ := r1
    obtain ⟨rfl, _⟩ := r2
    refine .inl ⟨rfl, ?_⟩
    rw [dcS]
    exact k _ [] B H (Ex.refl _) ⟨rfl, rfl⟩ c
  · split at hF
    · rename_i hd
      rw [Bool.and_eq_true] at hd
      cases hF
      refine .inr ⟨_, _, dp_of d1 8 v1 [] hd.1 (r1.view c m1), dp_of d2 8 v2 [] hd.2 (r2.view c m2), shaped_of hd.1, shaped_of hd.2, ?_⟩
      rw [eqv_toP d1 d2 8 8 hd.1 hd.2]
      exact k _ [] B H (Ex.refl _) ⟨rfl, rfl⟩ c
    · cases hF⟩
theorem op2_ne : Op2 K (rNeX K) neD := ⟨fun B H L v1 v2 f1 f2 d1 d2 r Q r1 r2 m1 m2 c hF k => by
  unfold neD at hF
  split at hF
  · cases hF
    obtain ⟨rfl, _⟩ := r1
    obtain ⟨rfl, _⟩ := r2
    refine .inl ⟨rfl, ?_⟩
    rw [dcS]
    exact k _ [] B H (Ex.refl _) ⟨rfl, rfl⟩ c
  · split at hF
    · rename_i hd
      rw [Bool.and_eq_true] at hd
      cases hF
      refine .inr ⟨_, _, dp_of d1 8 v1 [] hd.1 (r1.view c m1), dp_of d2 8 v2 [] hd.2 (r2.view c m2), shaped_of hd.1, shaped_of hd.2, ?_⟩
      rw [eqv_toP d1 d2 8 8 hd.1 hd.2]
      exact k _ [] B H (Ex.refl _) ⟨rfl, rfl⟩ c
    · cases hF⟩
def ltD : D → D → Option D
  | .int i, .int j => some (.bl (decide (i < j)))
  | .str x, .str y => some (.bl (decide (x.cps.toList < y.cps.toList)))
  | _, _ => none
def rLtX : R2 := fun x y H Q => rI0 (fun i j => .bl (decide (i < j))) x y H Q ∨ (∃ i j, x = .str i ∧ y = .str j ∧ Q (.bl (decide (i.cps.toList < j.cps.toList))) H)
theorem opr_lt : OpR X (compareOp .Lt) rLtX := op_lt.or op_lt_str
theorem op2_lt : Op2 K rLtX ltD := ⟨fun B H L v1 v2 f1 f2 d1 d2 r Q r1 r2 m1 m2 c hF k => by
  unfold ltD at hF
  split at hF
  · cases hF
    obtain ⟨rfl, _⟩ := r1
    obtain ⟨rfl, _⟩ := r2
    exact .inl ⟨_, _, rfl, rfl, k _ [] B H (Ex.refl _) ⟨rfl, rfl⟩ c⟩
  · cases hF
    obtain ⟨rfl, _⟩ := r1
    obtain ⟨rfl, _⟩ := r2
    exact .inr ⟨_, _, rfl, rfl, k _ [] B H (Ex.refl _) ⟨rfl, rfl⟩ c⟩
  · cases hF⟩
def leD : D → D → Option D := intD (fun _ _ => true) fun i j => .bl (decide (i ≤ j))
theorem op2_le : Op2 K (rI0 fun i j => .bl (decide (i ≤ j))) leD := op2_int0 fun _ _ _ => ⟨rfl, rfl⟩
def gtD : D → D → Option D := intD (fun _ _ => true) fun i j => .bl (decide (j < i))
theorem op2_gt : Op2 K (rI0 fun i j => .bl (decide (j < i))) gtD := op2_int0 fun _ _ _ => ⟨rfl, rfl⟩
def geD : D → D → Option D := intD (fun _ _ => true) fun i j => .bl (decide (j ≤ i))
theorem op2_ge : Op2 K (rI0 fun i j => .bl (decide (j ≤ i))) geD := op2_int0 fun _ _ _ => ⟨rfl, rfl⟩
/-- is None -/
def isNonB : D → Bool
  | .non => true
  | _ => false
theorem Rep.non {B : Hp} : ∀ {d : D} {v : V} {f : List Ob}, Rep K B d v f → decide (v = .non) = isNonB d
  | .non, v, f, h => by obtain ⟨rfl, _⟩ := h; rfl
  | .bl _, v, f, h => by obtain ⟨rfl, _⟩ := h; exact decide_eq_false (by intro z; cases z)
  | .int _, v, f, h => by obtain ⟨rfl, _⟩ := h; exact decide_eq_false (by intro z; cases z)
  | .str _, v, f, h => by obtain ⟨rfl, _⟩ := h; exact decide_eq_false (by intro z; cases z)
  | .lst _ _, v, f, h => by obtain ⟨p, vs, rfl, _⟩ := h; exact decide_eq_false (by intro z; cases z)
  | .tup _, v, f, h => by obtain ⟨p, vs, rfl, _⟩ := h; exact decide_eq_false (by intro z; cases z)
  | .dct _ _ _, v, f, h => by obtain ⟨p, vs, rfl, _⟩ := h; exact decide_eq_false (by intro z; cases z)
  | .dcT _ _ _, v, f, h => by obtain ⟨p, vs, rfl, _⟩ := h; exact decide_eq_false (by intro z; cases z)
  | .ins _ _ _ _, v, f, h => by obtain ⟨p, dx, vs, rfl, _⟩ := h; exact decide_eq_false (by intro z; cases z)
  | .exn _ _ _, v, f, h => by obtain ⟨_, a, dx, rfl, _⟩ := h; exact decide_eq_false (by intro z; cases z)
  | .scr _, v, f, h => by obtain ⟨_, p, rfl, _⟩ := h; exact decide_eq_false (by intro z; cases z)
  | .ktp _, v, f, h => by obtain ⟨_, p, rfl, _⟩ := h; exact decide_eq_false (by intro z; cases z)
  | .gl _, v, f, h => by obtain ⟨_, rfl⟩ := h; exact decide_eq_false (by intro z; cases z)
def isD : D → D → Option D
  | d, .non => some (.bl (isNonB d))
  | _, _ => none
def isNotD : D → D → Option D
  | d, .non => some (.bl (!isNonB d))
  | _, _ => none
theorem op2_is : Op2 K (fun x y H Q => y = .non ∧ Q (.bl (decide (x = .non))) H) isD := ⟨fun B H L v1 v2 f1 f2 d1 d2 r Q r1 r2 m1 m2 c hF k => by
  unfold isD at hF
  split at hF
  · cases hF
    obtain ⟨rfl, _⟩ := r2
    exact ⟨rfl, k _ [] B H (Ex.refl _) ⟨by rw [r1.non], rfl⟩ c⟩
  · cases hF⟩
theorem op2_isnot : Op2 K (fun x y H Q => y = .non ∧ Q (.bl (!decide (x = .non))) H) isNotD := ⟨fun B H L v1 v2 f1 f2 d1 d2 r Q r1 r2 m1 m2 c hF k => by
  unfold isNotD at hF
  split at hF
  · cases hF
    obtain ⟨rfl, _⟩ := r2
    exact ⟨rfl, k _ [] B H (Ex.refl _) ⟨by rw [r1.non], rfl⟩ c⟩
  · cases hF⟩
end
end DW
/-! DW6: tests, statements. -/
namespace DW
open PySem L2 Evl QW
local macro_rules | `(tactic| walk_at "perm") => `(tactic| (refine List.perm_iff_count.mpr fun _ => ?_; simp only [List.count_append, List.count_nil]; omega))
section
variable {X : Cx} {W : WX} {e e1 e2 e3 c : Expr} {f f1 f2 : Env → R D} {g g1 g2 : Env → R Opd} {t t1 t2 t3 : Env → R Bool} {pos : Pos}
/-! ### tests -/
def truD : D → Option Bool
  | .non => some false
  | .bl b => some b
  | .int i => some (i != 0)
  | .str x => if x.length ≤ 100000 then some ((x.length : Int) != 0) else none
  | .lst _ xs => some (!xs.isEmpty)
  | .tup xs => some (!xs.isEmpty)
  | _ => none
def tO (g : Env → R Opd) : Env → R Bool := fun E => (g E).bind fun o E1 => match o.val E1 with
  | some d => match truD d with
    | some b => .ok b E1
    | none => .bad
  | none => .bad
theorem RepL.emp {K : PySem.W.Frag} {B : Hp} {xs : List D} {vs : List V} {f : List Ob} (h : RepL K B xs vs f) : xs.isEmpty = vs.isEmpty := by
  have := h.len
  cases xs <;> cases vs <;> first | rfl | simp at this
theorem evt_of (h1 : EvO X W e g) (he : ∀ whole, isTrue e X.env whole = (do let v ← whole; standAt e.pos; holding [v] (truthy v)) := by intro _; rfl) : EvT X W e (tO g) := ⟨fun E σ B l fr H Q re cf af =>
  wT_of (pt_truth pE he) (h1.run E σ B l fr H _ re cf (After.first (β := Bool) (δ := V) af fun o1 E1 v1 B1 l1 fp1 H1 _ x1 re1 rv1 cf1 af1 => by
    try dsimp only at af1
    cases hv1 : o1.val E1 with
    | none => rw [hv1] at af1; exact af1.elim
    | some d1 =>
      rw [hv1] at af1
      dsimp only at af1
      cases hF : truD d1 with
      | none => rw [hF] at af1; exact af1.elim
      | some b =>
        rw [hF] at af1
        obtain ⟨f1, r1, m1⟩ := rv1.get re1 hv1
        have m : ∀ ob, ob ∈ f1 → ob ∈ fp1 ++ (l1 ++ fr) := fun ob hm => by
          have := m1 ob hm
          simp only [List.mem_append] at this ⊢
          rcases this with h | h
          · exact .inl h
          · exact .inr (.inl h)
        refine ⟨b, ?_, af1 b B1 l1 [] H1 (Ex.refl _) re1 ⟨rfl, rfl⟩ (Cfg.dropL cf1)⟩
        unfold truD at hF
        split at hF
        · cases hF; obtain ⟨rfl, _⟩ := r1; rfl
        · cases hF; obtain ⟨rfl, _⟩ := r1; rfl
        · cases hF; obtain ⟨rfl, _⟩ := r1; rfl
        · split at hF
          · rename_i hz
            cases hF; obtain ⟨rfl, _⟩ := r1
            exact ⟨s2z hz, rfl⟩
          · cases hF
        · cases hF
          obtain ⟨p, vs, g, rfl, h1, h2, _⟩ := r1.isL cf1 m
          exact .inl ⟨vs, SqL.of h1, by rw [h2.emp]⟩
        · cases hF
          obtain ⟨p, vs, rfl, h1, _, h2⟩ := r1.isT cf1
          exact .inr (.inl ⟨vs, h1, by rw [h2.emp]⟩)
        · cases hF))⟩
def tNotD (t : Env → R Bool) : Env → R Bool := fun E => (t E).bind fun b E1 => .ok (!b) E1
theorem evt_not (h : EvT X W e t) : EvT X W (.UnaryOp .Not e pos) (tNotD t) := ⟨fun E σ B l fr H Q re cf af =>
  wT_of (pt_not pT) (h.run E σ B l fr H _ re cf (After.first (β := Bool) af fun b E1 v B1 l1 fp1 H1 _ x1 re1 rv1 cf1 af1 => by
    obtain ⟨rfl, rfl⟩ := rv1
    exact af1 _ B1 l1 [] H1 (Ex.refl _) re1 ⟨rfl, rfl⟩ cf1))⟩
def tAndD (t u : Env → R Bool) : Env → R Bool := fun E => (t E).bind fun b E1 => if b = true then u E1 else .ok false E1
def tOrD (t u : Env → R Bool) : Env → R Bool := fun E => (t E).bind fun b E1 => if b = true then .ok true E1 else u E1
/-- chains of and, or: the rest as a test -/
structure EvW (X : Cx) (W : WX) (op : BoolOp) (es : List Expr) (t : Env → R Bool) : Prop where
  run : ∀ E σ B l fr H Q, RelEnv X.K B E σ l → Cfg B (l ++ fr) H → After X.K σ fr B W BoRep (t E) Q → wW X (.BoolOp op es ⟨0, 0, 0, 0⟩) σ H Q
theorem wT_and2 {H : Hp} {σ : L2.St} {Q : Bool → Hp → Prop} (h : wT X e1 σ H fun b H1 => if b = true then wT X e2 σ H1 Q else Q false H1) : wT X (.BoolOp .And [e1, e2] pos) σ H Q := wT_of (PW.pt (pw_and pT (pw_and1 pT))) h
theorem wT_or2 {H : Hp} {σ : L2.St} {Q : Bool → Hp → Prop} (h : wT X e1 σ H fun b H1 => if b = true then Q true H1 else wT X e2 σ H1 Q) : wT X (.BoolOp .Or [e1, e2] pos) σ H Q := wT_of (PW.pt (pw_or pT (pw_or1 pT))) h
theorem step_and {H : Hp} {σ : L2.St} {Q : Bool → Hp → Prop} {E : Env} {B : Hp} {l fr : List Ob} {r : L2.TT} (h1 : EvT X W e1 t1) (h2 : ∀ E1 B1 l1 H1, Ex B B1 → RelEnv X.K B1 E1 σ l1 → Cfg B1 (l1 ++ fr) H1 → After X.K σ fr B1 W BoRep (t2 E1) Q → r σ H1 Q) (re : RelEnv X.K B E σ l) (cf : Cfg B (l ++ fr) H) (af : After X.K σ fr B W BoRep (tAndD t1 t2 E) Q) :
    wT X e1 σ H fun b H1 => if b = true then r σ H1 Q else Q false H1 :=
  h1.run E σ B l fr H _ re cf (After.first (β := Bool) af fun b E1 v B1 l1 fp1 H1 _ x1 re1 rv1 cf1 af1 => by
    obtain ⟨rfl, rfl⟩ := rv1
    cases v with
    | true => rw [if_pos rfl] at af1 ⊢; exact h2 E1 B1 l1 H1 x1 re1 cf1 af1
    | false => rw [if_neg (by decide)] at af1 ⊢; exact af1 _ B1 l1 [] H1 (Ex.refl _) re1 ⟨rfl, rfl⟩ cf1)
theorem step_or {H : Hp} {σ : L2.St} {Q : Bool → Hp → Prop} {E : Env} {B : Hp} {l fr : List Ob} {r : L2.TT} (h1 : EvT X W e1 t1) (h2 : ∀ E1 B1 l1 H1, Ex B B1 → RelEnv X.K B1 E1 σ l1 → Cfg B1 (l1 ++ fr) H1 → After X.K σ fr B1 W BoRep (t2 E1) Q → r σ H1 Q) (re : RelEnv X.K B E σ l) (cf : Cfg B (l ++ fr) H) (af : After X.K σ fr B W BoRep (tOrD t1 t2 E) Q) :
    wT X e1 σ H fun b H1 => if b = true then Q true H1 else r σ H1 Q :=
  h1.run E σ B l fr H _ re cf (After.first (β := Bool) af fun b E1 v B1 l1 fp1 H1 _ x1 re1 rv1 cf1 af1 => by
    obtain ⟨rfl, rfl⟩ := rv1
    cases v with
    | true => rw [if_pos rfl] at af1 ⊢; exact af1 _ B1 l1 [] H1 (Ex.refl _) re1 ⟨rfl, rfl⟩ cf1
    | false => rw [if_neg (by decide)] at af1 ⊢; exact h2 E1 B1 l1 H1 x1 re1 cf1 af1)
theorem evt_and (h1 : EvT X W e1 t1) (h2 : EvT X W e2 t2) : EvT X W (.BoolOp .And [e1, e2] pos) (tAndD t1 t2) := ⟨fun E σ B l fr H Q re cf af => wT_and2 (step_and (r := wT X e2) h1 (fun E1 B1 l1 H1 _ r c a => h2.run E1 σ B1 l1 fr H1 Q r c a) re cf af)⟩
theorem evt_or (h1 : EvT X W e1 t1) (h2 : EvT X W e2 t2) : EvT X W (.BoolOp .Or [e1, e2] pos) (tOrD t1 t2) := ⟨fun E σ B l fr H Q re cf af => wT_or2 (step_or (r := wT X e2) h1 (fun E1 B1 l1 H1 _ r c a => h2.run E1 σ B1 l1 fr H1 Q r c a) re cf af)⟩
theorem evt_and3 (h1 : EvT X W e1 t1) (h2 : EvT X W e2 t2) (h3 : EvT X W e3 t3) : EvT X W (.BoolOp .And [e1, e2, e3] pos) (tAndD t1 (tAndD t2 t3)) := ⟨fun E σ B l fr H Q re cf af =>
  wT_of (PW.pt (pw_and pT (pw_and pT (pw_and1 pT)))) (step_and (r := tAnd (wT X e2) (wT X e3)) h1 (fun E1 B1 l1 H1 _ r c a => step_and (r := wT X e3) h2 (fun E2 B2 l2 H2 _ r c a => h3.run E2 σ B2 l2 fr H2 Q r c a) r c a) re cf af)⟩
theorem evt_or3 (h1 : EvT X W e1 t1) (h2 : EvT X W e2 t2) (h3 : EvT X W e3 t3) : EvT X W (.BoolOp .Or [e1, e2, e3] pos) (tOrD t1 (tOrD t2 t3)) := ⟨fun E σ B l fr H Q re cf af =>
  wT_of (PW.pt (pw_or pT (pw_or pT (pw_or1 pT)))) (step_or (r := tOr (wT X e2) (wT X e3)) h1 (fun E1 B1 l1 H1 _ r c a => step_or (r := wT X e3) h2 (fun E2 B2 l2 H2 _ r c a => h3.run E2 σ B2 l2 fr H2 Q r c a) r c a) re cf af)⟩
theorem evt_and4 {e4 : Expr} {t4 : Env → R Bool} (h1 : EvT X W e1 t1) (h2 : EvT X W e2 t2) (h3 : EvT X W e3 t3) (h4 : EvT X W e4 t4) : EvT X W (.BoolOp .And [e1, e2, e3, e4] pos) (tAndD t1 (tAndD t2 (tAndD t3 t4))) := ⟨fun E σ B l fr H Q re cf af =>
  wT_of (PW.pt (pw_and pT (pw_and pT (pw_and pT (pw_and1 pT))))) (step_and (r := tAnd (wT X e2) (tAnd (wT X e3) (wT X e4))) h1 (fun E1 B1 l1 H1 _ r c a => step_and (r := tAnd (wT X e3) (wT X e4)) h2 (fun E2 B2 l2 H2 _ r c a => step_and (r := wT X e4) h3 (fun E3 B3 l3 H3 _ r c a => h4.run E3 σ B3 l3 fr H3 Q r c a) r c a) r c a) re cf af)⟩
theorem evt_or4 {e4 : Expr} {t4 : Env → R Bool} (h1 : EvT X W e1 t1) (h2 : EvT X W e2 t2) (h3 : EvT X W e3 t3) (h4 : EvT X W e4 t4) : EvT X W (.BoolOp .Or [e1, e2, e3, e4] pos) (tOrD t1 (tOrD t2 (tOrD t3 t4))) := ⟨fun E σ B l fr H Q re cf af =>
  wT_of (PW.pt (pw_or pT (pw_or pT (pw_or pT (pw_or1 pT))))) (step_or (r := tOr (wT X e2) (tOr (wT X e3) (wT X e4))) h1 (fun E1 B1 l1 H1 _ r c a => step_or (r := tOr (wT X e3) (wT X e4)) h2 (fun E2 B2 l2 H2 _ r c a => step_or (r := wT X e4) h3 (fun E3 B3 l3 H3 _ r c a => h4.run E3 σ B3 l3 fr H3 Q r c a) r c a) r c a) re cf af)⟩
end

/-! ### statements -/
inductive Out where
  | nxt (E : Env) | brk (E : Env) | cnt (E : Env) | ret (d : D) (E : Env) | exc (c : Str) (ns : List Str) (vs : List D) (E : Env) | bad
/-- some slots stay as they were -/
def Par (S : List Nat) (σ σ' : L2.St) : Prop := ∀ i, i ∈ S → σ'[i]? = σ[i]?
theorem Par.refl {S : List Nat} {σ : L2.St} : Par S σ σ := fun _ _ => rfl
theorem Par.trans {S : List Nat} {σ σ1 σ2 : L2.St} (a : Par S σ σ1) (b : Par S σ1 σ2) : Par S σ σ2 := fun i m => (b i m).trans (a i m)
theorem Par.set {S : List Nat} {σ : L2.St} {i : Nat} {v : Option V} (h : i ∉ S) : Par S σ (σ.set i v) := fun j m => by
  rw [List.getElem?_set_ne]
  intro e; subst e; exact h m
def AfterS (K : PySem.W.Frag) (S : List Nat) (σ : L2.St) (fr : List Ob) (B : Hp) (W : WX) (o : Out) (N : Ends) : Prop := match o with
  | .nxt E => ∀ σ' B' l H, Ex B B' → RelEnv K B' E σ' l → Par S σ σ' → Cfg B' (l ++ fr) H → N.nx σ' H
  | .brk E => ∀ σ' B' l H, Ex B B' → RelEnv K B' E σ' l → Par S σ σ' → Cfg B' (l ++ fr) H → N.bk σ' H
  | .cnt E => ∀ σ' B' l H, Ex B B' → RelEnv K B' E σ' l → Par S σ σ' → Cfg B' (l ++ fr) H → N.ct σ' H
  | .ret d E => ∀ v σ' B' l fp H, Ex B B' → RelEnv K B' E σ' l → Rep K B' d v fp → Par S σ σ' → Cfg B' (fp ++ (l ++ fr)) H → N.rt v H
  | .exc c ns ds E => ∀ cls dx σ' B' l H, Ex B B' → RelEnv K B' E σ' l → XRep K B' c ns ds cls dx → Par S σ σ' → Cfg B' (l ++ fr) H → W cls dx σ' H
  | .bad => False
section
variable {K : PySem.W.Frag} {S : List Nat} {σ σ1 : L2.St} {fr : List Ob} {B B' : Hp} {W : WX} {o : Out} {N N' : Ends}
theorem AfterS.up (e : Ex B B') (p : Par S σ σ1) (h : AfterS K S σ fr B W o N) : AfterS K S σ1 fr B' W o N := by
  cases o with
  | nxt E => exact fun σ' B2 l H x re q => h σ' B2 l H (e.trans x) re (p.trans q)
  | brk E => exact fun σ' B2 l H x re q => h σ' B2 l H (e.trans x) re (p.trans q)
  | cnt E => exact fun σ' B2 l H x re q => h σ' B2 l H (e.trans x) re (p.trans q)
  | ret d E => exact fun v σ' B2 l fp H x re rv q => h v σ' B2 l fp H (e.trans x) re rv (p.trans q)
  | exc c ns ds E => exact fun cls dx σ' B2 l H x re rx q => h cls dx σ' B2 l H (e.trans x) re rx (p.trans q)
  | bad => exact h
end
structure ExS (X : Cx) (W : WX) (S : List Nat) (st : List Stmt) (F : Env → Out) : Prop where
  run : ∀ E σ B l fr H N, RelEnv X.K B E σ l → Cfg B (l ++ fr) H → AfterS X.K S σ fr B W (F E) N → wSs X st N σ H
/-- an expression within a statement -/
def onR {α : Type} (r : R α) (k : α → Env → Out) : Out := match r with
  | .ok a E => k a E
  | .exc c ns vs E => .exc c ns vs E
  | .bad => .bad
/-- what follows a statement -/
def Out.thn (o : Out) (k : Env → Out) : Out := match o with
  | .nxt E => k E
  | o => o
section
variable {X : Cx} {W : WX} {S : List Nat} {e c : Expr} {f : Env → R D} {g : Env → R Opd} {t : Env → R Bool} {F Fa Fb : Env → Out} {pos pos' : Pos} {rest body els : List Stmt} {x : Str} {i : Nat}
theorem AfterS.expr {α β : Type} {K : PySem.W.Frag} {σ : L2.St} {fr : List Ob} {B : Hp} {VR : Hp → α → β → List Ob → Prop} {r : R α} {k : α → Env → Out} {N : Ends} {Q : β → Hp → Prop} (h : AfterS K S σ fr B W (onR r k) N)
    (c : ∀ a E v B' l fp H, r = .ok a E → Ex B B' → RelEnv K B' E σ l → VR B' a v fp → Cfg B' (fp ++ (l ++ fr)) H → AfterS K S σ fr B' W (k a E) N → Q v H) : After K σ fr B W VR r Q := by
  cases r with
  | ok a E => exact fun v B2 l fp H x re rv cf => c a E v B2 l fp H rfl x re rv cf (AfterS.up x Par.refl h)
  | exc c' ns ds E => exact fun cls dx B2 l H x re rx cf => h cls dx σ B2 l H x re rx Par.refl cf
  | bad => exact h
/-- an end of a block goes on -/
theorem AfterS.cont {K : PySem.W.Frag} {σ : L2.St} {fr : List Ob} {B : Hp} {o : Out} {k : Env → Out} {N : Ends} {nx : L2.St → Hp → Prop} (h : AfterS K S σ fr B W (o.thn k) N)
    (c : ∀ E σ' B' l H, Ex B B' → RelEnv K B' E σ' l → Cfg B' (l ++ fr) H → AfterS K S σ' fr B' W (k E) N → nx σ' H) : AfterS K S σ fr B W o { N with nx := nx } := by
  cases o with
  | nxt E => exact fun σ' B2 l H x re q cf => c E σ' B2 l H x re cf (AfterS.up x q h)
  | brk E => exact h
  | cnt E => exact h
  | ret d E => exact h
  | exc c' ns ds E => exact h
  | bad => exact h
theorem wSs_len {X : Cx} {st : List Stmt} {D : Ends} {σ : L2.St} {H : Hp} (h : σ.length = X.N.length → wSs X st D σ H) : wSs X st D σ H := fun pins s I => h I.len pins s I
def sNil : Env → Out := .nxt
theorem exs_nil : ExS X W S [] sNil := ⟨fun E σ B l fr H N re cf af => s_nil (af σ B l H (Ex.refl _) re Par.refl cf)⟩
def sSet (i : Nat) (f : Env → R D) (F : Env → Out) : Env → Out := fun E => onR (f E) fun d E1 => F (E1.set i (some d))
theorem exs_set (n : Own X i x) (hi : i ∉ S) (h : EvR X W e f) (hF : ExS X W S rest F) (hs : swapsWith e (some (.Name x pos')) pos.line X.env = pure false := by rfl) : ExS X W S (.Assign [.Name x pos'] e pos :: rest) (sSet i f F) := ⟨fun E σ B l fr H N re cf af => wSs_len fun hlen =>
  s_set n (h.run E σ B l fr H _ re cf (AfterS.expr (β := V) af fun d E1 v B1 l1 fp H1 _ x1 re1 rv1 cf1 af1 => by
    obtain ⟨f1, f0, f2, rfl, hp⟩ := re1.put (by rw [re1.len, hlen]; exact (List.getElem?_eq_some_iff.mp n.s.n).1)
    exact hF.run _ _ B1 (f1 ++ fp ++ f2) fr H1 N (hp B1 d v fp (Ex.refl _) rv1) (Cfg.dropL (a := f0) (Cfg.perm cf1 (by walk_at "perm"))) (AfterS.up (Ex.refl _) (Par.set hi) af1))) hs⟩
def sRet (f : Env → R D) : Env → Out := fun E => onR (f E) fun d E1 => .ret d E1
theorem exs_ret (h : EvR X W e f) : ExS X W S (.Return (some e) pos :: rest) (sRet f) := ⟨fun E σ B l fr H N re cf af =>
  s_ret (h.run E σ B l fr H _ re cf (AfterS.expr (β := V) af fun d E1 v B1 l1 fp H1 _ x1 re1 rv1 cf1 af1 => af1 v σ B1 l1 fp H1 (Ex.refl _) re1 rv1 Par.refl cf1))⟩
def sExpr (f : Env → R D) (F : Env → Out) : Env → Out := fun E => onR (f E) fun _ E1 => F E1
theorem exs_expr (h : EvR X W e f) (hF : ExS X W S rest F) (hs : swapsWith e none pos.line X.env = pure false := by rfl) : ExS X W S (.Expr e pos :: rest) (sExpr f F) := ⟨fun E σ B l fr H N re cf af =>
  s_expr (h.run E σ B l fr H _ re cf (AfterS.expr (β := V) af fun d E1 v B1 l1 fp H1 _ x1 re1 rv1 cf1 af1 => hF.run E1 σ B1 l1 fr H1 N re1 (Cfg.dropL cf1) af1)) hs⟩
def sIf (t : Env → R Bool) (Fa Fb F : Env → Out) : Env → Out := fun E => onR (t E) fun b E1 => (if b = true then Fa E1 else Fb E1).thn F
theorem exs_if (h : EvT X W c t) (ha : ExS X W S body Fa) (hb : ExS X W S els Fb) (hF : ExS X W S rest F) : ExS X W S (.If c body els pos :: rest) (sIf t Fa Fb F) := ⟨fun E σ B l fr H N re cf af =>
  s_if (h.run E σ B l fr H _ re cf (AfterS.expr (β := Bool) af fun b E1 v B1 l1 fp H1 _ x1 re1 rv1 cf1 af1 => by
    obtain ⟨rfl, rfl⟩ := rv1
    cases v with
    | true =>
      rw [if_pos rfl] at af1 ⊢
      exact ha.run E1 σ B1 l1 fr H1 _ re1 cf1 (AfterS.cont af1 fun E2 σ2 B2 l2 H2 _ re2 cf2 af2 => hF.run E2 σ2 B2 l2 fr H2 N re2 cf2 af2)
    | false =>
      rw [if_neg (by decide)] at af1 ⊢
      exact hb.run E1 σ B1 l1 fr H1 _ re1 cf1 (AfterS.cont af1 fun E2 σ2 B2 l2 H2 _ re2 cf2 af2 => hF.run E2 σ2 B2 l2 fr H2 N re2 cf2 af2)))⟩
theorem exs_pass (hF : ExS X W S rest F) : ExS X W S (.Pass pos :: rest) F := ⟨fun E σ B l fr H N re cf af => s_pass (hF.run E σ B l fr H N re cf af)⟩
def sBrk : Env → Out := .brk
theorem exs_brk : ExS X W S (.Break pos :: rest) sBrk := ⟨fun E σ B l fr H N re cf af => s_break (af σ B l H (Ex.refl _) re Par.refl cf)⟩
def sRetN : Env → Out := .ret .non
theorem exs_retN : ExS X W S (.Return none pos :: rest) sRetN := ⟨fun E σ B l fr H N re cf af => s_retN (af .non σ B l [] H (Ex.refl _) re ⟨rfl, rfl⟩ Par.refl cf)⟩
/-- x op= e -/
def sAug (i : Nat) (op : D → D → Option D) (f : Env → R D) (F : Env → Out) : Env → Out := fun E => match gt E i with
  | some a => if noOwn a = true then onR (f E) fun d E1 => (match op a d with
    | some r => F (E1.set i (some r))
    | none => .bad) else .bad
  | none => .bad
end
end DW
/-! DW7: defs and their calls. -/
namespace DW
open PySem L2 Evl QW
local macro_rules | `(tactic| walk_at "perm") => `(tactic| (refine List.perm_iff_count.mpr fun _ => ?_; simp only [List.count_append, List.count_nil]; omega))
/-- a def: how many slots, which parameters are never stored anew, what its body does -/
structure Fn where
  n : Nat
  S : List Nat
  F : Env → Out
def env0 (n : Nat) (ds : List D) : Env := ds.map some ++ List.replicate (n - ds.length) none
def Fn.call (f : Fn) (ds : List D) : Out := f.F (env0 f.n ds)
def AfterC (K : PySem.W.Frag) (S : List Nat) (vs : List V) (fr : List Ob) (B : Hp) (o : Out) (Q : VK) (X : XK) : Prop := match o with
  | .ret d E => ∀ v σ B' l fp H, Ex B B' → RelEnv K B' E σ l → (∀ i, i ∈ S → i < vs.length → σ[i]? = (vs[i]?).map some) → Rep K B' d v fp → Cfg B' (fp ++ (l ++ fr)) H → Q v H
  | .nxt E => ∀ σ B' l H, Ex B B' → RelEnv K B' E σ l → (∀ i, i ∈ S → i < vs.length → σ[i]? = (vs[i]?).map some) → Cfg B' (l ++ fr) H → Q .non H
  | .exc c ns ds E => ∀ cls dx σ B' l H, Ex B B' → RelEnv K B' E σ l → (∀ i, i ∈ S → i < vs.length → σ[i]? = (vs[i]?).map some) → XRep K B' c ns ds cls dx → Cfg B' (l ++ fr) H → X cls dx H
  | _ => False
def spD (np : Nat) (f : Fn) (K : PySem.W.Frag) : Sp := fun vs H Q X => ∃ ds B l fr, vs.length = np ∧ RepL K B ds vs l ∧ Cfg B (l ++ fr) H ∧ AfterC K f.S vs fr B (f.call ds) Q X
theorem rel_none {K : PySem.W.Frag} {B : Hp} : ∀ n, RelEnv K B (List.replicate n none) (List.replicate n none) []
  | 0 => ⟨rfl, rfl⟩
  | n + 1 => ⟨none, _, rfl, rel_none n⟩
theorem rel_start {K : PySem.W.Frag} {B : Hp} (m : Nat) : ∀ {ds : List D} {vs : List V} {l : List Ob}, RepL K B ds vs l → RelEnv K B (ds.map some ++ List.replicate m none) (vs.map some ++ List.replicate m none) l
  | [], _, _, h => by obtain ⟨rfl, rfl⟩ := h; exact rel_none m
  | d :: ds, vs, l, h => by
    obtain ⟨v, vs', f1, f2, rfl, rfl, h3, h4⟩ := h
    exact ⟨v, _, f1, f2, rfl, rfl, h3, rel_start m h4⟩
section
variable {P : Program} {w : World} {K : PySem.W.Frag} {mg : Str → Option Value} {base : Heap} {x : Str} {st : Stmt} {N ps : List Str} {k np : Nat} {f : Fn}
theorem run_body {X : Cx} {W : WX} {bd : List Stmt} {vs : List V} {H : Hp} {Q : VK} {E : XK} (hn : f.n = N.length) (h : ExS X (fun c d _ H => E c d H) f.S bd f.F) (sp : spD np f X.K vs H Q E) : wSs X bd { nx := fun _ H' => Q .non H', rt := Q } (L2.start N vs) H := by
  obtain ⟨ds, B, l, fr, hl, hr, cf, af⟩ := sp
  have re : RelEnv X.K B (env0 f.n ds) (L2.start N vs) l := by
    unfold env0 L2.start
    rw [hn, hr.len]
    exact rel_start _ hr
  have st0 : ∀ i, i < vs.length → (L2.start N vs)[i]? = (vs[i]?).map some := fun i hi => by
    unfold L2.start
    rw [List.getElem?_append_left (by rw [List.length_map]; exact hi), List.getElem?_map]
  refine h.run _ _ B l fr H _ re cf ?_
  unfold Fn.call at af
  cases ho : f.F (env0 f.n ds) with
  | nxt E' => rw [ho] at af; exact fun σ' B' l' H' x re' p cf' => af σ' B' l' H' x re' (fun i m hi => by rw [p i m, st0 i hi]) cf'
  | brk E' => rw [ho] at af; exact af.elim
  | cnt E' => rw [ho] at af; exact af.elim
  | ret d E' => rw [ho] at af; exact fun v σ' B' l' fp H' x re' rv p cf' => af v σ' B' l' fp H' x re' (fun i m hi => by rw [p i m, st0 i hi]) rv cf'
  | exc c ns vs' E' => rw [ho] at af; exact fun cls dx σ' B' l' H' x re' rx p cf' => af cls dx σ' B' l' H' x re' (fun i m hi => by rw [p i m, st0 i hi]) rx cf'
  | bad => rw [ho] at af; exact af.elim
theorem callee_D (F : At K mg x st []) (S : FnScope N ps (defScope st)) (hb : ∀ (kV doc pm : Value) (an : Option Addr) (cdv ct : Value) (us : List Value), us.length = ps.length → bindArgs (PySem.W.fnOf x x (defArgs st) (defBody st) (defScope st) .none kV doc pm an cdv ct) ⟨us, []⟩ = pure (ps.zip us))
    (hn : f.n = N.length) (hp : np = ps.length) (h : ∀ X : Cx, X.prog = P → X.w = w → X.K = K → X.mg = mg → X.base = base → Bd X N (defScope st) k → ∀ W, Takes X W → ExS X W f.S (defBody st) f.F) : Callee P w K mg base (k + 1) x [] (spD np f K) :=
  callee_mk F S hb (fun vs H Q E sp => by obtain ⟨_, _, _, _, hl, _⟩ := sp; rw [hl, hp]) fun X e1 e2 e3 e4 e5 b E tk vs H Q sp => by
    subst e3
    exact run_body (W := fun c d _ H => E c d H) hn (h X e1 e2 rfl e4 e5 b _ tk) sp
end

/-! ### handing over -/
def takeOps : List Opd → Env → Option (List (D × Option Nat) × Env)
  | [], E => some ([], E)
  | .tmp d :: os, E => (takeOps os E).map fun r => ((d, none) :: r.1, r.2)
  | .slot i :: os, E => match gt E i with
    | some d => if noOwn d = true then (takeOps os E).map fun r => ((d, none) :: r.1, r.2) else (takeOps os (E.set i none)).map fun r => ((d, some i) :: r.1, r.2)
    | none => none
def backOps : Env → List (D × Option Nat) → Nat → Env → Env
  | _, [], _, E => E
  | Ec, (_, none) :: r, j, E => backOps Ec r (j + 1) E
  | Ec, (_, some i) :: r, j, E => match gt Ec j with
    | some d => backOps (Ec.set j none) r (j + 1) (E.set i (some d))
    | none => backOps Ec r (j + 1) E
/-- what is moved stands at a parameter that is never stored anew -/
def okOps (S : List Nat) : List (D × Option Nat) → Nat → Bool
  | [], _ => true
  | (_, none) :: r, j => okOps S r (j + 1)
  | (_, some _) :: r, j => S.contains j && okOps S r (j + 1)
theorem take_ok {K : PySem.W.Frag} {B : Hp} {σ : L2.St} : ∀ {os : List Opd} {vs : List V} {fp l : List Ob} {E E' : Env} {r : List (D × Option Nat)}, OpsRep K σ B os vs fp → RelEnv K B E σ l → takeOps os E = some (r, E') →
    ∃ lf l', RepL K B (r.map (·.1)) vs lf ∧ RelEnv K B E' σ l' ∧ (lf ++ l').Perm (fp ++ l) ∧ ∀ (j : Nat) (d : D) (i : Nat), r[j]? = some (d, some i) → ∃ v, vs[j]? = some v ∧ σ[i]? = some (some v)
  | [], _, _, l, E, E', r, h, re, e => by
    obtain ⟨rfl, rfl⟩ := h
    cases e
    exact ⟨[], l, ⟨rfl, rfl⟩, re, List.Perm.refl _, fun j d i z => by simp at z⟩
  | .tmp d :: os, vs, fp, l, E, E', r, h, re, e => by
    obtain ⟨v, vs', f1, f2, rfl, rfl, h3, h4⟩ := h
    simp only [takeOps, Option.map_eq_some_iff] at e
    obtain ⟨⟨r', E2⟩, e1, e2⟩ := e
    cases e2
    obtain ⟨lf, l', k1, k2, k3, k4⟩ := take_ok h4 re e1
    refine ⟨f1 ++ lf, l', ⟨v, vs', f1, lf, rfl, rfl, h3, k1⟩, k2, ?_, fun j d' i z => ?_⟩
    · rw [List.append_assoc, List.append_assoc]; exact k3.append_left f1
    · cases j with
      | zero => simp at z
      | succ j => simpa using k4 j d' i (by simpa using z)
  | .slot i0 :: os, vs, fp, l, E, E', r, h, re, e => by
    obtain ⟨v, vs', f1, f2, rfl, rfl, ⟨h3, rfl⟩, h4⟩ := h
    cases hg : gt E i0 with
    | none => simp [takeOps, hg] at e
    | some d =>
      obtain ⟨u, g1, g, g2, hu, rfl, hr, _, hs⟩ := re.at (gt_some hg)
      rw [h3] at hu
      cases hu
      by_cases no : noOwn d = true
      · simp only [takeOps, hg, if_pos no, Option.map_eq_some_iff] at e
        obtain ⟨⟨r', E2⟩, e1, e2⟩ := e
        cases e2
        obtain ⟨lf, l', k1, k2, k3, k4⟩ := take_ok h4 re e1
        obtain rfl := hr.none no
        refine ⟨lf, l', ⟨v, vs', [], lf, rfl, rfl, hr, k1⟩, k2, k3, fun j d' i z => ?_⟩
        cases j with
        | zero => simp at z
        | succ j => simpa using k4 j d' i (by simpa using z)
      · simp only [takeOps, hg, if_neg no, Option.map_eq_some_iff] at e
        obtain ⟨⟨r', E2⟩, e1, e2⟩ := e
        cases e2
        have re' := hs (some v)
        rw [set_same h3] at re'
        obtain ⟨lf, l', k1, k2, k3, k4⟩ := take_ok h4 re' e1
        refine ⟨g ++ lf, l', ⟨v, vs', g, lf, rfl, rfl, hr, k1⟩, k2, ?_, fun j d' i z => ?_⟩
        · refine List.perm_iff_count.mpr fun a => ?_
          have := List.perm_iff_count.mp k3 a
          simp only [List.count_append, List.count_nil] at this ⊢
          omega
        · cases j with
          | zero =>
            obtain ⟨rfl, rfl⟩ : d = d' ∧ i0 = i := by simpa using z
            exact ⟨v, rfl, h3⟩
          | succ j => simpa using k4 j d' i (by simpa using z)
theorem back_ok {K : PySem.W.Frag} {B : Hp} {σ σc : L2.St} : ∀ {r : List (D × Option Nat)} {j : Nat} {Ec E : Env} {lc l : List Ob}, RelEnv K B Ec σc lc → RelEnv K B E σ l →
    (∀ (j' : Nat) (d : D) (i : Nat), r[j']? = some (d, some i) → ∃ v, σc[j + j']? = some (some v) ∧ σ[i]? = some (some v)) → ∃ l' g, RelEnv K B (backOps Ec r j E) σ l' ∧ (l' ++ g).Perm (l ++ lc)
  | [], j, Ec, E, lc, l, rc, re, h => ⟨l, lc, re, List.Perm.refl _⟩
  | (_, none) :: r, j, Ec, E, lc, l, rc, re, h => back_ok (r := r) (j := j + 1) rc re fun j' d i z => by
      obtain ⟨v, h1, h2⟩ := h (j' + 1) d i (by simpa using z)
      exact ⟨v, by rw [show j + 1 + j' = j + (j' + 1) by omega]; exact h1, h2⟩
  | (d0, some i0) :: r, j, Ec, E, lc, l, rc, re, h => by
    have h' : ∀ (j' : Nat) (d : D) (i : Nat), r[j']? = some (d, some i) → ∃ v, σc[j + 1 + j']? = some (some v) ∧ σ[i]? = some (some v) := fun j' d i z => by
      obtain ⟨v, h1, h2⟩ := h (j' + 1) d i (by simpa using z)
      exact ⟨v, by rw [show j + 1 + j' = j + (j' + 1) by omega]; exact h1, h2⟩
    cases hg : gt Ec j with
    | none =>
      unfold backOps
      rw [hg]
      exact back_ok (r := r) rc re h'
    | some d =>
      unfold backOps
      rw [hg]
      obtain ⟨v, h1, h2⟩ := h 0 d0 i0 rfl
      obtain ⟨u, g1, g, g2, hu, rfl, hr, _, hs⟩ := rc.at (gt_some hg)
      have h1 : σc[j]? = some (some v) := h1
      rw [h1] at hu
      cases hu
      have rc' := hs (some v)
      rw [set_same h1] at rc'
      have hi : i0 < E.length := by rw [re.len]; exact (List.getElem?_eq_some_iff.mp h2).1
      obtain ⟨k1, k0, k2, rfl, hp⟩ := re.put hi
      have re' := hp B d v g (Ex.refl _) hr
      rw [set_same h2] at re'
      obtain ⟨l', q, r1, r2⟩ := back_ok (r := r) (j := j + 1) rc' re' h'
      refine ⟨l', q ++ k0, r1, ?_⟩
      refine List.perm_iff_count.mpr fun a => ?_
      have := List.perm_iff_count.mp r2 a
      simp only [List.count_append, List.count_nil] at this ⊢
      omega
theorem ok_mem {S : List Nat} : ∀ {r : List (D × Option Nat)} {j : Nat}, okOps S r j = true → ∀ (j' : Nat) (d : D) (i : Nat), r[j']? = some (d, some i) → j + j' ∈ S
  | [], _, _, j', _, _, z => by simp at z
  | (_, none) :: r, j, h, j', d, i, z => by
    cases j' with
    | zero => simp at z
    | succ j' =>
      have := ok_mem (r := r) (j := j + 1) h j' d i (by simpa using z)
      rw [show j + (j' + 1) = j + 1 + j' by omega]
      exact this
  | (_, some _) :: r, j, h, j', d, i, z => by
    unfold okOps at h
    rw [Bool.and_eq_true] at h
    cases j' with
    | zero => exact List.contains_iff_mem.mp h.1
    | succ j' =>
      have := ok_mem (r := r) (j := j + 1) h.2 j' d i (by simpa using z)
      rw [show j + (j' + 1) = j + 1 + j' by omega]
      exact this
theorem OpsRep.len {K : PySem.W.Frag} {σ : L2.St} {B : Hp} : ∀ {os : List Opd} {vs : List V} {fp : List Ob}, OpsRep K σ B os vs fp → os.length = vs.length
  | [], _, _, h => by rw [h.1]; rfl
  | o :: os, _, _, h => by
    obtain ⟨v, vs', f1, f2, rfl, h2, h3, h4⟩ := h
    show os.length + 1 = vs'.length + 1
    rw [OpsRep.len h4]
/-- a call: what is handed over, what comes back -/
def callO (f : Fn) (dfl : List D) (os : List Opd) (E : Env) : R D := match takeOps os E with
  | some (r, E2) => if okOps f.S r 0 = true then (match f.call (r.map (·.1) ++ dfl) with
      | .ret d Ec => .ok d (backOps Ec r 0 E2)
      | .nxt Ec => .ok .non (backOps Ec r 0 E2)
      | .exc c ns vs Ec => .exc c ns vs (backOps Ec r 0 E2)
      | _ => .bad) else .bad
  | none => .bad
def callR (f : Fn) (dfl : List D) (a : Env → R (List Opd)) : Env → R D := fun E => (a E).bind (callO f dfl)
theorem call_ok {K : PySem.W.Frag} {σ : L2.St} {B : Hp} {f : Fn} {dfl : List D} {os : List Opd} {E : Env} {vs dvs : List V} {fp l fr : List Ob} {H : Hp} {W : WX} {Q : VK} {np : Nat} (ho : OpsRep K σ B os vs fp) (re : RelEnv K B E σ l) (cf : Cfg B (fp ++ (l ++ fr)) H) (hl : (vs ++ dvs).length = np) (hd : ∀ B, RepL K B dfl dvs [])
    (af : After K σ fr B W (Rep K) (callO f dfl os E) Q) : spD np f K (vs ++ dvs) H Q (fun cls d H => W cls d σ H) := by
  unfold callO at af
  cases ht : takeOps os E with
  | none => rw [ht] at af; exact af.elim
  | some r0 =>
    obtain ⟨r, E2⟩ := r0
    rw [ht] at af
    dsimp only at af
    by_cases hk : okOps f.S r 0 = true
    · rw [if_pos hk] at af
      obtain ⟨lf, l', k1, k2, k3, k4⟩ := take_ok ho re ht
      have rl : RepL K B (r.map (·.1) ++ dfl) (vs ++ dvs) lf := by simpa using k1.app (hd B)
      have len1 := k1.len
      refine ⟨_, B, lf, l' ++ fr, hl, rl, Cfg.perm cf ?_, ?_⟩
      · refine List.perm_iff_count.mpr fun a => ?_
        have := List.perm_iff_count.mp k3 a
        simp only [List.count_append, List.count_nil] at this ⊢
        omega
      · have hb : ∀ {σc : L2.St}, (∀ i, i ∈ f.S → i < (vs ++ dvs).length → σc[i]? = ((vs ++ dvs)[i]?).map some) → ∀ (j' : Nat) (d : D) (i : Nat), r[j']? = some (d, some i) → ∃ v, σc[0 + j']? = some (some v) ∧ σ[i]? = some (some v) := fun {σc} hp j' d i z => by
          obtain ⟨v, h1, h2⟩ := k4 j' d i z
          have hj : j' < vs.length := (List.getElem?_eq_some_iff.mp h1).1
          refine ⟨v, ?_, h2⟩
          have hm := ok_mem hk j' d i z
          rw [Nat.zero_add] at hm ⊢
          rw [hp j' hm (by rw [List.length_append]; omega), List.getElem?_append_left hj, h1]
          rfl
        cases hc : f.call (r.map (·.1) ++ dfl) with
        | ret d Ec =>
          rw [hc] at af
          intro v σc B' lc fp' H' x rc hp rv cf'
          obtain ⟨l'', g, q1, q2⟩ := back_ok (j := 0) rc (k2.mono x) (hb hp)
          refine af v B' l'' fp' H' x q1 rv (Cfg.dropL (a := g) (Cfg.perm cf' ?_))
          refine List.perm_iff_count.mpr fun a => ?_
          have := List.perm_iff_count.mp q2 a
          simp only [List.count_append, List.count_nil] at this ⊢
          omega
        | nxt Ec =>
          rw [hc] at af
          intro σc B' lc H' x rc hp cf'
          obtain ⟨l'', g, q1, q2⟩ := back_ok (j := 0) rc (k2.mono x) (hb hp)
          refine af .non B' l'' [] H' x q1 ⟨rfl, rfl⟩ (Cfg.dropL (a := g) (Cfg.perm cf' ?_))
          refine List.perm_iff_count.mpr fun a => ?_
          have := List.perm_iff_count.mp q2 a
          simp only [List.count_append, List.count_nil] at this ⊢
          omega
        | exc c ns vs' Ec =>
          rw [hc] at af
          intro cls dx σc B' lc H' x rc hp rx cf'
          obtain ⟨l'', g, q1, q2⟩ := back_ok (j := 0) rc (k2.mono x) (hb hp)
          refine af cls dx B' l'' H' x q1 rx (Cfg.dropL (a := g) (Cfg.perm cf' ?_))
          refine List.perm_iff_count.mpr fun a => ?_
          have := List.perm_iff_count.mp q2 a
          simp only [List.count_append, List.count_nil] at this ⊢
          omega
        | brk Ec => rw [hc] at af; exact af.elim
        | cnt Ec => rw [hc] at af; exact af.elim
        | bad => rw [hc] at af; exact af.elim
    · rw [if_neg hk] at af; exact af.elim
section
variable {X : Cx} {W : WX} {e : Expr} {es : List Expr} {a : Env → R (List Opd)} {x : Str} {k j np : Nat} {f : Fn} {dfl : List D} {dvs : List V} {p pos : Pos}
theorem evr_call (C : Callee X.prog X.w X.K X.mg X.base j x dvs (spD np f X.K)) (hr : Room k X.A) (hj : j ≤ k) (hg : Gl X x) (tk : Takes X W) (hd : ∀ B, RepL X.K B dfl dvs []) (hl : (e :: es).length + dvs.length = np) (h : EvA X W (e :: es) a) (hdb : (x == ("__debug__" : Str)) = false := by decide +kernel)
    (hal : ∀ E, ∀ os E', a E = .ok os E' → os.length = (e :: es).length)
    (he : starEach (e :: es) X.env = (false, eval e X.env) :: starEach es X.env := by rfl) (hpl : (backTo pos (starEach es X.env)).any (·.1) = false := by rfl) : EvR X W (.Call (.Name x p) (e :: es) [] pos) (callR f dfl a) := ⟨fun E σ B l fr H Q re cf af => by
  obtain ⟨fa, fd, ps, ds, F, hm, hk, hb, hdv⟩ := C.ex
  refine wE_of (pe_callSD F (hr.mono hj) hg hm hk hb hdv (fun σ => passAt tk σ) pA hdb he hpl) ?_
  refine h.run E σ B l fr H _ re cf (After.first (β := V) (δ := List V) af fun os E1 vs B1 l1 fp1 H1 ho x1 re1 rv1 cf1 af1 => ?_)
  have len : os.length = vs.length := rv1.len
  exact call_ok rv1 re1 cf1 (by rw [List.length_append, ← len, hal E os E1 ho]; exact hl) hd af1⟩
end
end DW
/-! DW8: displays, items, built-ins, methods. -/
namespace DW
open PySem L2 Evl QW
open PySem.Spec PyProof.Rows
local macro_rules | `(tactic| walk_at "perm") => `(tactic| (refine List.perm_iff_count.mpr fun _ => ?_; simp only [List.count_append, List.count_nil]; omega))
/-! ### displays -/
def tmps : List Opd → Option (List D)
  | [] => some []
  | .tmp d :: os => (tmps os).map (d :: ·)
  | .slot _ :: _ => none
theorem tmps_ok {K : PySem.W.Frag} {σ : L2.St} {B : Hp} : ∀ {os : List Opd} {ds : List D} {vs : List V} {fp : List Ob}, tmps os = some ds → OpsRep K σ B os vs fp → RepL K B ds vs fp
  | [], _, _, _, e, h => by cases e; exact h
  | .tmp d :: os, ds, vs, fp, e, h => by
    simp only [tmps, Option.map_eq_some_iff] at e
    obtain ⟨ds', e1, rfl⟩ := e
    obtain ⟨v, vs', f1, f2, h1, h2, h3, h4⟩ := h
    exact ⟨v, vs', f1, f2, h1, h2, h3, tmps_ok e1 h4⟩
  | .slot _ :: _, _, _, _, e, _ => by cases e
def mkSeq (mk : List D → D) (os : List Opd) (E : Env) : R D := match tmps os with
  | some ds => if ds.length ≤ 100000 then .ok (mk ds) E else .bad
  | none => .bad
def lstR (a : Env → R (List Opd)) : Env → R D := fun E => (a E).bind (mkSeq (.lst true))
def tupR (a : Env → R (List Opd)) : Env → R D := fun E => (a E).bind (mkSeq .tup)
section
variable {X : Cx} {W : WX} {S : List Nat} {e e1 e2 e3 c : Expr} {es : List Expr} {f f1 f2 : Env → R D} {g g1 g2 : Env → R Opd} {a : Env → R (List Opd)} {t : Env → R Bool} {F Fa Fb : Env → Out} {pos pos' p' : Pos} {rest : List Stmt} {x : Str} {i : Nat}
theorem evr_lst (h : EvA X W es a) : EvR X W (.List es pos) (lstR a) := ⟨fun E σ B l fr H Q re cf af =>
  w_lst' (h.run E σ B l fr H _ re cf (After.first (β := V) (δ := List V) af fun os E1 vs B1 l1 fp1 H1 ho x1 re1 rv1 cf1 af1 => by
    unfold mkSeq at af1
    cases ht : tmps os with
    | none => rw [ht] at af1; exact af1.elim
    | some ds =>
      rw [ht] at af1
      dsimp only at af1
      by_cases hz : ds.length ≤ 100000
      · rw [if_pos hz] at af1
        have rl := tmps_ok ht rv1
        refine ⟨s2z (by rw [← rl.len]; exact hz), fun p hp => ?_⟩
        exact af1 _ B1 l1 ([(p, .lst vs)] ++ fp1) _ (Ex.refl _) re1 ⟨p, vs, rfl, fp1, rfl, rl⟩ (Cfg.new' cf1 hp)
      · rw [if_neg hz] at af1; exact af1.elim))⟩
theorem evr_tup {k' : Nat} (h : EvA X W es a) : EvR X W (.Tuple es k' pos) (tupR a) := ⟨fun E σ B l fr H Q re cf af =>
  w_tup' (h.run E σ B l fr H _ re cf (After.first (β := V) (δ := List V) af fun os E1 vs B1 l1 fp1 H1 ho x1 re1 rv1 cf1 af1 => by
    unfold mkSeq at af1
    cases ht : tmps os with
    | none => rw [ht] at af1; exact af1.elim
    | some ds =>
      rw [ht] at af1
      dsimp only at af1
      by_cases hz : ds.length ≤ 100000
      · rw [if_pos hz] at af1
        have rl := tmps_ok ht rv1
        refine ⟨s2z (by rw [← rl.len]; exact hz), fun p hp => ?_⟩
        obtain ⟨B', x, c', hb⟩ := Cfg.seen (o := .tup vs) cf1 hp
        exact af1 _ B' l1 fp1 _ x (re1.mono x) ⟨p, vs, rfl, hb, rl.mono x⟩ c'
      · rw [if_neg hz] at af1; exact af1.elim))⟩
theorem evr_dict0 : EvR X W (.Dict [] [] pos) (rC (.dct true [] [])) := ⟨fun E σ B l fr H Q re cf af =>
  wE_of pe_dnewK fun p hp => af _ B l [(p, .dK [])] _ (Ex.refl _) re ⟨p, [], rfl, rfl, [], rfl, rfl, rfl⟩ (Cfg.new' cf hp)⟩
theorem evr_dict0T : EvR X W (.Dict [] [] pos) (rC (.dcT true [] [])) := ⟨fun E σ B l fr H Q re cf af =>
  wE_of pe_dnewT fun p hp => af _ B l [(p, .dT [])] _ (Ex.refl _) re ⟨p, [], rfl, rfl, [], rfl, rfl, rfl⟩ (Cfg.new' cf hp)⟩
/-- an operand that is at hand: owned no more -/
def oF (g : Env → R Opd) : Env → R Opd := fun E => (g E).bind fun o E1 => match o with
  | .tmp d => .ok (.tmp (frz d)) E1
  | .slot i => .ok (.slot i) E1
theorem evo_frz (h : EvO X W e g) : EvO X W e (oF g) := ⟨fun E σ B l fr H Q re cf af =>
  h.run E σ B l fr H Q re cf (After.first (β := V) (δ := V) af fun o E1 v B1 l1 fp1 H1 ho x1 re1 rv1 cf1 af1 => by
    cases o with
    | slot i => exact af1 v B1 l1 fp1 H1 (Ex.refl _) re1 rv1 cf1
    | tmp d =>
      obtain ⟨B', x, c2, st⟩ := Cfg.keepL (a := fp1) cf1
      exact af1 v B' l1 [] H1 x (re1.mono x) (Rep.frz x rv1 st) c2)⟩
/-- .. as a value -/
def rF (f : Env → R D) : Env → R D := fun E => (f E).bind fun d E1 => .ok (frz d) E1
theorem evr_frz (h : EvR X W e f) : EvR X W e (rF f) := ⟨fun E σ B l fr H Q re cf af =>
  h.run E σ B l fr H Q re cf (After.first (β := V) (δ := V) af fun d E1 v B1 l1 fp1 H1 ho x1 re1 rv1 cf1 af1 => by
    obtain ⟨B', x, c2, st⟩ := Cfg.keepL (a := fp1) cf1
    exact af1 v B' l1 [] H1 x (re1.mono x) (rv1.frz x st) c2)⟩
/-! ### items -/
def dlook {κ : Type} [DecidableEq κ] : List κ → List D → κ → Option D
  | k0 :: ks, v :: vs, k => if k0 = k then some v else dlook ks vs k
  | _, _, _ => none
theorem dlook_val {κ : Type} [DecidableEq κ] {K : PySem.W.Frag} {B : Hp} {k : κ} : ∀ {ks : List κ} {ds : List D} {vs : List V} {d : D}, RepL K B ds vs [] → ks.length = vs.length → dlook ks ds k = some d → ∃ v, valV (ks.zip vs) k = some v ∧ Rep K B d v []
  | [], _, _, _, _, _, e => by simp [dlook] at e
  | _ :: _, [], _, _, _, _, e => by simp [dlook] at e
  | k0 :: ks, d0 :: ds, vs, d, h, hl, e => by
    obtain ⟨v, vs', f1, f2, rfl, hf, h3, h4⟩ := h
    have hf := hf.symm
    rw [List.append_eq_nil_iff] at hf
    obtain ⟨rfl, rfl⟩ := hf
    unfold dlook at e
    by_cases hk : k0 = k
    · rw [if_pos hk] at e
      cases e
      exact ⟨v, valV_pos hk, h3⟩
    · rw [if_neg hk] at e
      obtain ⟨u, h5, h6⟩ := dlook_val h4 (by simpa using hl) e
      exact ⟨u, by rw [List.zip_cons_cons, valV_neg hk]; exact h5, h6⟩
theorem dlook_none {κ : Type} [DecidableEq κ] {k : κ} : ∀ {ks : List κ} {ds : List D} {vs : List V}, ds.length = vs.length → ks.length = vs.length → ((dlook ks ds k).isSome = (valV (ks.zip vs) k).isSome)
  | [], _, _, _, _ => by simp [dlook, valV]
  | _ :: _, [], [], h, hl => by simp at hl
  | _ :: _, [], _ :: _, h, hl => by simp at h
  | _ :: _, _ :: _, [], h, hl => by simp at h
  | k0 :: ks, d0 :: ds, v :: vs, h, hl => by
    unfold dlook
    by_cases hk : k0 = k
    · rw [if_pos hk, List.zip_cons_cons, valV_pos hk]; rfl
    · rw [if_neg hk, List.zip_cons_cons, valV_neg hk]
      exact dlook_none (by simpa using h) (by simpa using hl)
/-- a key -/
def keyD : D → Option Key
  | .int i => some (.inl i)
  | .str x => some (.inr x)
  | _ => none
def keysD : List D → Option (List Key)
  | [] => some []
  | d :: ds => match keyD d, keysD ds with
    | some k, some ks => some (k :: ks)
    | _, _ => none
theorem keyD_rep {K : PySem.W.Frag} {B : Hp} : ∀ {d : D} {k : Key} {v : V} {f : List Ob}, keyD d = some k → Rep K B d v f → v = kV k
  | .int i, k, v, f, e, h => by cases e; exact h.1
  | .str x, k, v, f, e, h => by cases e; exact h.1
  | .non, _, _, _, e, _ => by cases e
  | .bl _, _, _, _, e, _ => by cases e
  | .lst _ _, _, _, _, e, _ => by cases e
  | .tup _, _, _, _, e, _ => by cases e
  | .dct _ _ _, _, _, _, e, _ => by cases e
  | .dcT _ _ _, _, _, _, e, _ => by cases e
  | .ins _ _ _ _, _, _, _, e, _ => by cases e
  | .exn _ _ _, _, _, _, e, _ => by cases e
  | .scr _, _, _, _, e, _ => by cases e
  | .ktp _, _, _, _, e, _ => by cases e
  | .gl _, _, _, _, e, _ => by cases e
theorem keysD_rep {K : PySem.W.Frag} {B : Hp} : ∀ {ds : List D} {ks : List Key} {vs : List V} {f : List Ob}, keysD ds = some ks → RepL K B ds vs f → vs = ks.map kV
  | [], ks, vs, f, e, h => by cases e; exact h.1
  | d :: ds, ks, vs, f, e, h => by
    obtain ⟨v, vs', f1, f2, rfl, _, h3, h4⟩ := h
    unfold keysD at e
    split at e
    · rename_i k ks' e1 e2
      cases e
      rw [keyD_rep e1 h3, keysD_rep e2 h4]
      rfl
    · cases e
def ixOf {α : Type} (xs : List α) (i : Int) : Option α := atI xs i
def ownless (o : Option D) : Option D := match o with
  | some d => if noOwn d = true then some d else none
  | none => none
theorem ownless_some {o : Option D} {d : D} (h : ownless o = some d) : o = some d ∧ noOwn d = true := by
  unfold ownless at h
  split at h
  · split at h
    · rename_i hn; cases h; exact ⟨rfl, hn⟩
    · cases h
  · cases h
def idxD : D → D → Option D
  | .lst _ xs, .int i => ownless (atI xs i)
  | .tup xs, .int i => ownless (atI xs i)
  | .str z, .int i => if z.length ≤ 100000 then (atI z.cps.toList i).map (fun c => .str ⟨#[c]⟩) else none
  | .scr ns, .int i => (atI ns i).map .int
  | .dct _ ks vs, k => match keyD k with
    | some k => ownless (dlook ks vs k)
    | none => none
  | .dcT _ ks vs, .tup k => match keysD k with
    | some k => ownless (dlook ks vs k)
    | none => none
  | _, _ => none
abbrev rIxD : R2 := fun x y H Q => ∃ a v, x = .ref a ∧ DGet H a y (some v) ∧ Q v H
theorem ix_dict (hu : X.A.units + 1 < cLine) : IxR X rIxD := by
  intro value slice pins s σ H x y v u Q I rx ry h hs
  obtain ⟨a, w, rfl, g, q⟩ := h
  obtain rfl : v = Value.ref a := rx
  have hT := dict_typeIs I g
  unfold subscriptTail
  refine wpAny_bind ?_
  rw [getitemInPython_of_ne hT.not_modules]
  refine wpAny_bind (wpAny_specialOf hT PySem.F.slot_dict_getitem.lookup ?_)
  have fin : wpAny (model X.prog X.w) X.A (subscripted slice false (.ref a) u) (fun r s₃ => wpAny (model X.prog X.w) X.A (letTemporaryGo value (.ref a) r >>= fun _ => pure r) (EP X pins σ Q) X.xe s₃) X.xe s := by
    rw [hs]
    refine PySem.wpAny_operating (wpAny_mono (d_getItem (Q := EP X pins σ Q) hu I g ry fun w' s3 I3 rw' => ⟨w, H, I3, rw', q⟩) (fun r s₃ h₃ => wpAny_bind (wpAny_letTemporaryGo (wpAny_pure h₃))) fun _ _ x => x)
  first
    | exact wpAny_pure (wpAny_bind fin)
    | exact wpAny_bind (wpAny_pure (wpAny_bind fin))
    | exact wpAny_bind fin
def rIxX (K : PySem.W.Frag) : R2 := fun x y H Q => rIx K x y H Q ∨ rIxD x y H Q
theorem ix_any (hu : X.A.units + 1 < cLine) : IxR X (rIxX X.K) := ix_seq.or (ix_dict hu)
theorem atI_len {α β : Type} {xs : List α} {ys : List β} (h : xs.length = ys.length) {i : Int} {j : Nat} (e : ixN xs.length i = some j) : ixN ys.length i = some j := by rw [← h]; exact e
/-- the i-th, any sign, and who represents it -/
theorem at_rep {K : PySem.W.Frag} {B : Hp} {xs : List D} {vs : List V} {f : List Ob} {i : Int} {d : D} (h : RepL K B xs vs f) (e : atI xs i = some d) (n : noOwn d = true) : ∃ v, atI vs i = some v ∧ Rep K B d v [] := by
  unfold atI at e ⊢
  rw [← h.len]
  cases hi : ixN xs.length i with
  | none => rw [hi] at e; cases e
  | some j =>
    rw [hi] at e
    obtain ⟨v, f1, f0, f2, h1, h2, h3, _⟩ := h.at (show xs[j]? = some d from e)
    obtain rfl := h3.none n
    exact ⟨v, h1, h3⟩
theorem Rep.isD {K : PySem.W.Frag} {B H : Hp} {L f : List Ob} {v : V} {ks : List Key} {ds : List D} {o : Bool} (h : Rep K B (.dct o ks ds) v f) (c : Cfg B L H) (m : ∀ ob, ob ∈ f → ob ∈ L) : ∃ p vs g, v = .ref p ∧ H p = some (.dK (ks.zip vs)) ∧ ks.length = vs.length ∧ RepL K B ds vs g ∧ (∀ ob, ob ∈ g → ob ∈ f) ∧ (o = true → f = [(p, .dK (ks.zip vs))] ++ g) := by
  obtain ⟨p, vs, h1, h0, h2⟩ := h
  cases o with
  | true =>
    obtain ⟨g, rfl, h3⟩ := h2
    exact ⟨p, vs, g, h1, c.own _ _ (m _ List.mem_cons_self), h0, h3, fun ob hm => List.mem_append_right _ hm, fun _ => rfl⟩
  | false => exact ⟨p, vs, [], h1, c.ex _ _ h2.1, h0, h2.2.1, by simp, by simp⟩
theorem Rep.isDT {K : PySem.W.Frag} {B H : Hp} {L f : List Ob} {v : V} {ks : List (List Key)} {ds : List D} {o : Bool} (h : Rep K B (.dcT o ks ds) v f) (c : Cfg B L H) (m : ∀ ob, ob ∈ f → ob ∈ L) : ∃ p vs g, v = .ref p ∧ H p = some (.dT (ks.zip vs)) ∧ ks.length = vs.length ∧ RepL K B ds vs g ∧ (∀ ob, ob ∈ g → ob ∈ f) ∧ (o = true → f = [(p, .dT (ks.zip vs))] ++ g) := by
  obtain ⟨p, vs, h1, h0, h2⟩ := h
  cases o with
  | true =>
    obtain ⟨g, rfl, h3⟩ := h2
    exact ⟨p, vs, g, h1, c.own _ _ (m _ List.mem_cons_self), h0, h3, fun ob hm => List.mem_append_right _ hm, fun _ => rfl⟩
  | false => exact ⟨p, vs, [], h1, c.ex _ _ h2.1, h0, h2.2.1, by simp, by simp⟩
theorem dlook_ok {κ : Type} [DecidableEq κ] {K : PySem.W.Frag} {B : Hp} {k : κ} : ∀ {ks : List κ} {ds : List D} {vs : List V} {f : List Ob} {d : D}, RepL K B ds vs f → ks.length = vs.length → dlook ks ds k = some d → noOwn d = true → ∃ v, valV (ks.zip vs) k = some v ∧ Rep K B d v []
  | [], _, _, _, _, _, _, e, _ => by simp [dlook] at e
  | _ :: _, [], _, _, _, _, _, e, _ => by simp [dlook] at e
  | k0 :: ks, d0 :: ds, vs, f, d, h, hl, e, n => by
    obtain ⟨v, vs', f1, f2, rfl, hf, h3, h4⟩ := h
    unfold dlook at e
    by_cases hk : k0 = k
    · rw [if_pos hk] at e
      cases e
      obtain rfl := h3.none n
      exact ⟨v, valV_pos hk, h3⟩
    · rw [if_neg hk] at e
      obtain ⟨u, h5, h6⟩ := dlook_ok h4 (by simpa using hl) e n
      exact ⟨u, by rw [List.zip_cons_cons, valV_neg hk]; exact h5, h6⟩
theorem op2_idx {K : PySem.W.Frag} : Op2 K (rIxX K) idxD := ⟨fun B H L v1 v2 f1 f2 d1 d2 r Q r1 r2 m1 m2 c hF k => by
  unfold idxD at hF
  split at hF
  · obtain ⟨e, n⟩ := ownless_some hF
    obtain ⟨p, vs, g, rfl, h1, h2, _⟩ := r1.isL c m1
    obtain ⟨rfl, _⟩ := r2
    obtain ⟨v, e1, r3⟩ := at_rep h2 e n
    exact .inl (.inl ⟨p, vs, _, v, rfl, rfl, SqL.of h1, e1, k v [] B H (Ex.refl _) r3 c⟩)
  · obtain ⟨e, n⟩ := ownless_some hF
    obtain ⟨p, vs, rfl, h1, _, h2⟩ := r1.isT c
    obtain ⟨rfl, _⟩ := r2
    obtain ⟨v, e1, r3⟩ := at_rep h2 e n
    exact .inl (.inr (.inl ⟨p, vs, _, v, rfl, rfl, h1, e1, k v [] B H (Ex.refl _) r3 c⟩))
  · split at hF
    · rename_i hz
      simp only [Option.map_eq_some_iff] at hF
      obtain ⟨q, e, rfl⟩ := hF
      obtain ⟨rfl, _⟩ := r1
      obtain ⟨rfl, _⟩ := r2
      exact .inl (.inr (.inr ⟨_, _, q, rfl, rfl, s2z hz, e, k _ [] B H (Ex.refl _) ⟨rfl, rfl⟩ c⟩))
    · cases hF
  · rename_i ns i
    simp only [Option.map_eq_some_iff] at hF
    obtain ⟨q, e, rfl⟩ := hF
    obtain ⟨_, p, rfl, hq⟩ := r1
    obtain ⟨rfl, _⟩ := r2
    refine .inl (.inl ⟨p, _, i, .int q, rfl, rfl, exL c.ex hq, ?_, k _ [] B H (Ex.refl _) ⟨rfl, rfl⟩ c⟩)
    unfold atI at e ⊢
    rw [List.length_map]
    cases hi : ixN ns.length i with
    | none => rw [hi] at e; cases e
    | some j =>
      rw [hi] at e
      have e : ns[j]? = some q := e
      show (ns.map V.int)[j]? = _
      rw [List.getElem?_map, e]; rfl
  · split at hF
    · rename_i hk
      obtain ⟨e, n⟩ := ownless_some hF
      obtain ⟨p, vs, g, rfl, h1, h0, h2, _⟩ := r1.isD c m1
      obtain ⟨v, e1, r3⟩ := dlook_ok h2 h0 e n
      obtain rfl := keyD_rep hk r2
      refine .inr ⟨p, v, rfl, ?_, k v [] B H (Ex.refl _) r3 c⟩
      rw [← e1]
      exact DGet.k h1
    · cases hF
  · split at hF
    · rename_i hk
      obtain ⟨e, n⟩ := ownless_some hF
      obtain ⟨p, vs, g, rfl, h1, h0, h2, _⟩ := r1.isDT c m1
      obtain ⟨v, e1, r3⟩ := dlook_ok h2 h0 e n
      obtain ⟨q, us, rfl, h3, h3', h4⟩ := r2.isT c
      obtain rfl := keysD_rep hk h4
      refine .inr ⟨p, v, rfl, ?_, k v [] B H (Ex.refl _) r3 c⟩
      rw [← e1]
      exact DGet.t h1 (c.ex _ _ h3')
    · cases hF
  · cases hF⟩
end
end DW
/-! DW9: built-ins by name. -/
namespace DW
open PySem L2 Evl QW
open PySem.Spec PyProof.Rows
theorem CallR.or {X : Cx} {f : Value} {r r' : List V → Hp → VK → Prop} (h : CallR X f r) (h' : CallR X f r') : CallR X f (fun xs H Q => r xs H Q ∨ r' xs H Q) := by
  intro pins s σ H xs us Q I rs q
  rcases q with q | q
  · exact h pins s σ H xs us Q I rs q
  · exact h' pins s σ H xs us Q I rs q
section
variable {X : Cx} {W : WX} {e e1 e2 : Expr} {g g1 g2 : Env → R Opd} {pos p' : Pos} {x : Str} {F1 : D → Option D} {F2 : D → D → Option D} {r : List V → Hp → VK → Prop} {K : PySem.W.Frag}
theorem evr_cb1 {id : String} (hc : CallR X (.builtin id) r) (hs1 : Op1 X.K (fun v H Q => r [v] H Q) F1) (hg : Gl X x) (hm : X.mg x = none) (hv : bootBuiltins x = some (.builtin id)) (h : EvO X W e g) (hn : x ≠ "__name__" := by decide +kernel) (hdb : (x == ("__debug__" : Str)) = false := by decide +kernel)
    (he : starEach [e] X.env = (false, eval e X.env) :: starEach [] X.env := by rfl) (hpl : (backTo pos (starEach [] X.env)).any (·.1) = false := by rfl) : EvR X W (.Call (.Name x p') [e] [] pos) (op1 F1 g) := ⟨fun E σ B l fr H Q re cf af =>
  w_callB hc hg hm hv (w_acons (wE_mono (one h hs1 re cf af) fun v H1 q => w_anil q) he) hn hdb he hpl⟩
theorem evr_ct1 {T : String} (hc : CallR X (.type T) r) (hs1 : Op1 X.K (fun v H Q => r [v] H Q) F1) (hg : Gl X x) (hm : X.mg x = none) (hv : bootBuiltins x = some (.type T)) (h : EvO X W e g) (hn : x ≠ "__name__" := by decide +kernel) (hdb : (x == ("__debug__" : Str)) = false := by decide +kernel)
    (he : starEach [e] X.env = (false, eval e X.env) :: starEach [] X.env := by rfl) (hpl : (backTo pos (starEach [] X.env)).any (·.1) = false := by rfl) : EvR X W (.Call (.Name x p') [e] [] pos) (op1 F1 g) := ⟨fun E σ B l fr H Q re cf af =>
  w_callTy hc hg hm hv (w_acons (wE_mono (one h hs1 re cf af) fun v H1 q => w_anil q) he) hn hdb he hpl⟩
theorem evr_cb2 {id : String} (hc : CallR X (.builtin id) r) (hs1 : Op2 X.K (fun v u H Q => r [v, u] H Q) F2) (hg : Gl X x) (hm : X.mg x = none) (hv : bootBuiltins x = some (.builtin id)) (h1 : EvO X W e1 g1) (h2 : EvO X W e2 g2) (hn : x ≠ "__name__" := by decide +kernel) (hdb : (x == ("__debug__" : Str)) = false := by decide +kernel)
    (he : starEach (e1 :: [e2]) X.env = (false, eval e1 X.env) :: starEach [e2] X.env := by rfl) (he2 : starEach [e2] X.env = (false, eval e2 X.env) :: starEach [] X.env := by rfl) (hpl : (backTo pos (starEach [e2] X.env)).any (·.1) = false := by rfl) : EvR X W (.Call (.Name x p') [e1, e2] [] pos) (op2 F2 g1 g2) := ⟨fun E σ B l fr H Q re cf af =>
  w_callB hc hg hm hv (w_acons (wE_mono (two h1 h2 hs1 re cf af) fun v H1 q => w_acons (wE_mono q fun u H2 q => w_anil q) he2) he) hn hdb he hpl⟩
theorem evr_ct2 {T : String} (hc : CallR X (.type T) r) (hs1 : Op2 X.K (fun v u H Q => r [v, u] H Q) F2) (hg : Gl X x) (hm : X.mg x = none) (hv : bootBuiltins x = some (.type T)) (h1 : EvO X W e1 g1) (h2 : EvO X W e2 g2) (hn : x ≠ "__name__" := by decide +kernel) (hdb : (x == ("__debug__" : Str)) = false := by decide +kernel)
    (he : starEach (e1 :: [e2]) X.env = (false, eval e1 X.env) :: starEach [e2] X.env := by rfl) (he2 : starEach [e2] X.env = (false, eval e2 X.env) :: starEach [] X.env := by rfl) (hpl : (backTo pos (starEach [e2] X.env)).any (·.1) = false := by rfl) : EvR X W (.Call (.Name x p') [e1, e2] [] pos) (op2 F2 g1 g2) := ⟨fun E σ B l fr H Q re cf af =>
  w_callTy hc hg hm hv (w_acons (wE_mono (two h1 h2 hs1 re cf af) fun v H1 q => w_acons (wE_mono q fun u H2 q => w_anil q) he2) he) hn hdb he hpl⟩

/-! ### len -/
def lenD : D → Option D
  | .lst _ xs => some (.int xs.length)
  | .tup xs => some (.int xs.length)
  | .str z => if z.length ≤ 100000 then some (.int z.length) else none
  | .dct _ ks _ => some (.int ks.length)
  | .scr ns => some (.int ns.length)
  | _ => none
def rLen (K : PySem.W.Frag) : List V → Hp → VK → Prop := fun xs H Q => (∃ x n, xs = [x] ∧ LenV K x H n ∧ Q (.int n) H) ∨ (∃ d kvs, xs = [V.ref d] ∧ H d = some (.dK kvs) ∧ Q (.int kvs.length) H)
theorem cr_len : CallR X (.builtin "len") (rLen X.K) := call_len.or call_lenD
theorem op1_len : Op1 K (fun v H Q => rLen K [v] H Q) lenD := ⟨fun B H L v1 f1 d1 r Q r1 m1 c hF k => by
  unfold lenD at hF
  split at hF
  · cases hF
    obtain ⟨p, vs, g, rfl, h1, h2, _⟩ := r1.isL c m1
    exact .inl ⟨_, _, rfl, .inl ⟨vs, SqL.of h1, rfl⟩, by rw [← h2.len]; exact k _ [] B H (Ex.refl _) ⟨rfl, rfl⟩ c⟩
  · cases hF
    obtain ⟨p, vs, rfl, h1, _, h2⟩ := r1.isT c
    exact .inl ⟨_, _, rfl, .inr ⟨vs, h1, rfl⟩, by rw [← h2.len]; exact k _ [] B H (Ex.refl _) ⟨rfl, rfl⟩ c⟩
  · split at hF
    · rename_i hz
      cases hF
      obtain ⟨rfl, _⟩ := r1
      exact .inl ⟨_, _, rfl, ⟨s2z hz, rfl⟩, k _ [] B H (Ex.refl _) ⟨rfl, rfl⟩ c⟩
    · cases hF
  · cases hF
    obtain ⟨p, vs, g, rfl, h1, h0, h2, _⟩ := r1.isD c m1
    refine .inr ⟨p, _, rfl, h1, ?_⟩
    rw [List.length_zip, ← h0, Nat.min_self]
    exact k _ [] B H (Ex.refl _) ⟨rfl, rfl⟩ c
  · cases hF
    obtain ⟨_, p, rfl, hq⟩ := r1
    refine .inl ⟨_, _, rfl, .inl ⟨_, exL c.ex hq, rfl⟩, ?_⟩
    rw [List.length_map]
    exact k _ [] B H (Ex.refl _) ⟨rfl, rfl⟩ c
  · cases hF⟩
/-! ### int, str, bool, abs -/
def toIntD : D → Option D
  | .int i => some (.int i)
  | .bl b => some (.int (if b = true then 1 else 0))
  | .str z => if z.length ≤ 640 then (intText? z).map .int else none
  | _ => none
def rInt1 : List V → Hp → VK → Prop := fun xs H Q => ((∃ i, xs = [.int i] ∧ Q (.int i) H) ∨ ∃ k, xs = [.bl k] ∧ Q (.int (if k then 1 else 0)) H) ∨ (∃ a n, xs = [.str a] ∧ PySem.intText? a = some n ∧ a.length ≤ 640 ∧ Q (.int n) H)
theorem cr_int : CallR X (.type "int") rInt1 := call_int1.or call_int_str
theorem op1_int : Op1 K (fun v H Q => rInt1 [v] H Q) toIntD := ⟨fun B H L v1 f1 d1 r Q r1 m1 c hF k => by
  unfold toIntD at hF
  split at hF
  · cases hF
    obtain ⟨rfl, _⟩ := r1
    exact .inl (.inl ⟨_, rfl, k _ [] B H (Ex.refl _) ⟨rfl, rfl⟩ c⟩)
  · cases hF
    obtain ⟨rfl, _⟩ := r1
    exact .inl (.inr ⟨_, rfl, k _ [] B H (Ex.refl _) ⟨rfl, rfl⟩ c⟩)
  · split at hF
    · rename_i hz
      simp only [Option.map_eq_some_iff] at hF
      obtain ⟨n, hn, rfl⟩ := hF
      obtain ⟨rfl, _⟩ := r1
      exact .inr ⟨_, _, rfl, hn, hz, k _ [] B H (Ex.refl _) ⟨rfl, rfl⟩ c⟩
    · cases hF
  · cases hF⟩
def toStrD : D → Option D
  | .int i => if i.natAbs.log2 < 1920 then some (.str (toString i)) else none
  | _ => none
theorem op1_str : Op1 K (fun v H Q => ∃ i, [v] = [V.int i] ∧ i.natAbs.log2 < 1920 ∧ Q (.str (toString i)) H) toStrD := ⟨fun B H L v1 f1 d1 r Q r1 m1 c hF k => by
  unfold toStrD at hF
  split at hF
  · split at hF
    · rename_i hz
      cases hF
      obtain ⟨rfl, _⟩ := r1
      exact ⟨_, rfl, hz, k _ [] B H (Ex.refl _) ⟨rfl, rfl⟩ c⟩
    · cases hF
  · cases hF⟩
def absD : D → Option D
  | .int i => some (.int (if i < 0 then -i else i))
  | _ => none
theorem op1_abs : Op1 K (fun v H Q => ∃ i, [v] = [V.int i] ∧ Q (.int (if i < 0 then -i else i)) H) absD := ⟨fun B H L v1 f1 d1 r Q r1 m1 c hF k => by
  unfold absD at hF
  split at hF
  · cases hF
    obtain ⟨rfl, _⟩ := r1
    exact ⟨_, rfl, k _ [] B H (Ex.refl _) ⟨rfl, rfl⟩ c⟩
  · cases hF⟩
/-! ### min, max, sum -/
def min2D : D → D → Option D
  | .int i, .int j => some (.int (if j < i then j else i))
  | _, _ => none
def max2D : D → D → Option D
  | .int i, .int j => some (.int (if j > i then j else i))
  | _, _ => none
theorem op2_min2 : Op2 K (fun v u H Q => ∃ i j, [v, u] = [V.int i, .int j] ∧ Q (.int (if j < i then j else i)) H) min2D := ⟨fun B H L v1 v2 f1 f2 d1 d2 r Q r1 r2 m1 m2 c hF k => by
  unfold min2D at hF
  split at hF
  · cases hF
    obtain ⟨rfl, _⟩ := r1
    obtain ⟨rfl, _⟩ := r2
    exact ⟨_, _, rfl, k _ [] B H (Ex.refl _) ⟨rfl, rfl⟩ c⟩
  · cases hF⟩
theorem op2_max2 : Op2 K (fun v u H Q => ∃ i j, [v, u] = [V.int i, .int j] ∧ Q (.int (if j > i then j else i)) H) max2D := ⟨fun B H L v1 v2 f1 f2 d1 d2 r Q r1 r2 m1 m2 c hF k => by
  unfold max2D at hF
  split at hF
  · cases hF
    obtain ⟨rfl, _⟩ := r1
    obtain ⟨rfl, _⟩ := r2
    exact ⟨_, _, rfl, k _ [] B H (Ex.refl _) ⟨rfl, rfl⟩ c⟩
  · cases hF⟩
/-- the ints of a row -/
def intsD : List D → Option (List Int)
  | [] => some []
  | .int i :: ds => (intsD ds).map (i :: ·)
  | _ => none
theorem intsD_map : ∀ ns : List Int, intsD (ns.map .int) = some ns
  | [] => rfl
  | n :: ns => by
    show (intsD (ns.map .int)).map (n :: ·) = _
    rw [intsD_map ns]; rfl
theorem intsD_eq : ∀ {ds : List D} {ns : List Int}, intsD ds = some ns → ds = ns.map .int
  | [], ns, e => by cases e; rfl
  | .int i :: ds, ns, e => by
    simp only [intsD, Option.map_eq_some_iff] at e
    obtain ⟨ns', e1, rfl⟩ := e
    rw [intsD_eq e1]; rfl
  | .non :: _, _, e => by cases e
  | .bl _ :: _, _, e => by cases e
  | .str _ :: _, _, e => by cases e
  | .lst _ _ :: _, _, e => by cases e
  | .tup _ :: _, _, e => by cases e
  | .dct _ _ _ :: _, _, e => by cases e
  | .dcT _ _ _ :: _, _, e => by cases e
  | .ins _ _ _ _ :: _, _, e => by cases e
  | .exn _ _ _ :: _, _, e => by cases e
  | .scr _ :: _, _, e => by cases e
  | .ktp _ :: _, _, e => by cases e
  | .gl _ :: _, _, e => by cases e
theorem RepL.ints {B : Hp} : ∀ {ns : List Int} {vs : List V} {f : List Ob}, RepL K B (ns.map .int) vs f → vs = ns.map V.int
  | [], _, _, h => h.1
  | n :: ns, vs, f, h => by
    obtain ⟨v, vs', f1, f2, rfl, _, h3, h4⟩ := h
    rw [h3.1, RepL.ints h4]; rfl
theorem RepL.intsOf {B : Hp} : ∀ ns : List Int, RepL K B (ns.map .int) (ns.map V.int) []
  | [] => ⟨rfl, rfl⟩
  | n :: ns => ⟨_, _, [], [], rfl, rfl, ⟨rfl, rfl⟩, RepL.intsOf ns⟩
def minI : List Int → Int
  | [] => 0
  | [n] => n
  | n :: ns => if n < minI ns then n else minI ns
def maxI : List Int → Int
  | [] => 0
  | [n] => n
  | n :: ns => if maxI ns < n then n else maxI ns
theorem minI_ok : ∀ {ns : List Int}, ns ≠ [] → minI ns ∈ ns ∧ ∀ y ∈ ns, minI ns ≤ y
  | [], h => absurd rfl h
  | [n], _ => by simp [minI]
  | n :: m :: ns, _ => by
    obtain ⟨h1, h2⟩ := minI_ok (ns := m :: ns) (by simp)
    have e : minI (n :: m :: ns) = if n < minI (m :: ns) then n else minI (m :: ns) := rfl
    rw [e]
    split
    · rename_i c
      refine ⟨List.mem_cons_self, fun y hy => ?_⟩
      rcases List.mem_cons.mp hy with rfl | hy
      · exact Int.le_refl _
      · exact Int.le_of_lt (Int.lt_of_lt_of_le c (h2 y hy))
    · rename_i c
      refine ⟨List.mem_cons_of_mem _ h1, fun y hy => ?_⟩
      rcases List.mem_cons.mp hy with rfl | hy
      · exact Int.not_lt.mp c
      · exact h2 y hy
theorem maxI_ok : ∀ {ns : List Int}, ns ≠ [] → maxI ns ∈ ns ∧ ∀ y ∈ ns, y ≤ maxI ns
  | [], h => absurd rfl h
  | [n], _ => by simp [maxI]
  | n :: m :: ns, _ => by
    obtain ⟨h1, h2⟩ := maxI_ok (ns := m :: ns) (by simp)
    have e : maxI (n :: m :: ns) = if maxI (m :: ns) < n then n else maxI (m :: ns) := rfl
    rw [e]
    split
    · rename_i c
      refine ⟨List.mem_cons_self, fun y hy => ?_⟩
      rcases List.mem_cons.mp hy with rfl | hy
      · exact Int.le_refl _
      · have := h2 y hy; omega
    · rename_i c
      refine ⟨List.mem_cons_of_mem _ h1, fun y hy => ?_⟩
      rcases List.mem_cons.mp hy with rfl | hy
      · omega
      · exact h2 y hy
def seqInts : D → Option (List Int)
  | .lst _ xs => intsD xs
  | .scr ns => some ns
  | _ => none
theorem seqInts_ok {B H : Hp} {L f : List Ob} {v : V} {d : D} {ns : List Int} (e : seqInts d = some ns) (h : Rep K B d v f) (c : Cfg B L H) (m : ∀ ob, ob ∈ f → ob ∈ L) : ∃ p, v = .ref p ∧ SqL K H p (ns.map V.int) := by
  unfold seqInts at e
  split at e
  · obtain ⟨p, vs, g, rfl, h1, h2, _⟩ := h.isL c m
    have e2 := intsD_eq e
    subst e2
    exact ⟨p, rfl, SqL.of (by rw [h1, h2.ints])⟩
  · cases e
    obtain ⟨_, p, rfl, hq⟩ := h
    exact ⟨p, rfl, exL c.ex hq⟩
  · cases e
def tupInts : D → Option (List Int)
  | .tup xs => intsD xs
  | .ktp ns => some ns
  | _ => none
theorem tupInts_ok {B H : Hp} {L f : List Ob} {v : V} {d : D} {ns : List Int} (e : tupInts d = some ns) (h : Rep K B d v f) (c : Cfg B L H) : ∃ p, v = .ref p ∧ SqT K H p (ns.map V.int) := by
  unfold tupInts at e
  split at e
  · obtain ⟨p, vs, rfl, h1, _, h2⟩ := h.isT c
    have e2 := intsD_eq e
    subst e2
    exact ⟨p, rfl, by rw [h2.ints] at h1; exact h1⟩
  · cases e
    obtain ⟨_, p, rfl, hq⟩ := h
    exact ⟨p, rfl, exT c.ex hq⟩
  · cases e
def min1D (d : D) : Option D := match seqInts d with
  | some (n :: ns) => some (.int (minI (n :: ns)))
  | some [] => none
  | none => match tupInts d with
    | some (n :: ns) => some (.int (minI (n :: ns)))
    | _ => none
def rMin1 (K : PySem.W.Frag) : List V → Hp → VK → Prop := fun xs H Q => rMin K xs H Q ∨ rMinT K xs H Q
theorem cr_min1 (hc : X.calm = true) : CallR X (.builtin "min") (rMin1 X.K) := (cr_min hc).or (cr_minT hc)
theorem op1_min : Op1 K (fun v H Q => rMin1 K [v] H Q) min1D := ⟨fun B H L v1 f1 d1 r Q r1 m1 c hF k => by
  unfold min1D at hF
  split at hF
  · rename_i n ns e
    cases hF
    obtain ⟨p, rfl, hp⟩ := seqInts_ok e r1 c m1
    obtain ⟨a, b⟩ := minI_ok (ns := n :: ns) (by simp)
    refine .inl ⟨p, _, rfl, hp, by simp, fun m hm hall => ?_⟩
    rw [show m = minI (n :: ns) from Int.le_antisymm (hall _ a) (b m hm)]
    exact k _ [] B H (Ex.refl _) ⟨rfl, rfl⟩ c
  · cases hF
  · split at hF
    · rename_i n ns e
      cases hF
      obtain ⟨p, rfl, hp⟩ := tupInts_ok e r1 c
      obtain ⟨a, b⟩ := minI_ok (ns := n :: ns) (by simp)
      refine .inr ⟨p, _, rfl, hp, by simp, fun m hm hall => ?_⟩
      rw [show m = minI (n :: ns) from Int.le_antisymm (hall _ a) (b m hm)]
      exact k _ [] B H (Ex.refl _) ⟨rfl, rfl⟩ c
    · cases hF⟩
def max1D (d : D) : Option D := match seqInts d with
  | some (n :: ns) => some (.int (maxI (n :: ns)))
  | _ => none
theorem op1_max : Op1 K (fun v H Q => rMax K [v] H Q) max1D := ⟨fun B H L v1 f1 d1 r Q r1 m1 c hF k => by
  unfold max1D at hF
  split at hF
  · rename_i n ns e
    cases hF
    obtain ⟨p, rfl, hp⟩ := seqInts_ok e r1 c m1
    obtain ⟨a, b⟩ := maxI_ok (ns := n :: ns) (by simp)
    refine ⟨p, _, rfl, hp, by simp, fun m hm hall => ?_⟩
    rw [show m = maxI (n :: ns) from Int.le_antisymm (b m hm) (hall _ a)]
    exact k _ [] B H (Ex.refl _) ⟨rfl, rfl⟩ c
  · cases hF⟩
def sumD (d : D) : Option D := (seqInts d).map fun ns => .int ns.sum
theorem op1_sum : Op1 K (fun v H Q => rSum K [v] H Q) sumD := ⟨fun B H L v1 f1 d1 r Q r1 m1 c hF k => by
  unfold sumD at hF
  simp only [Option.map_eq_some_iff] at hF
  obtain ⟨ns, e, rfl⟩ := hF
  obtain ⟨p, rfl, hp⟩ := seqInts_ok e r1 c m1
  exact ⟨p, ns, rfl, hp, k _ [] B H (Ex.refl _) ⟨rfl, rfl⟩ c⟩⟩
/-! ### list, tuple, sorted -/
def toLstD : D → Option D
  | .lst _ xs => if noOwnL xs = true then some (.lst true xs) else none
  | .tup xs => if noOwnL xs = true then some (.lst true xs) else none
  | .scr ns => some (.lst true (ns.map .int))
  | _ => none
theorem op1_list : Op1 K (fun v H Q => ∃ p ys, [v] = [V.ref p] ∧ (SqL K H p ys ∨ SqT K H p ys) ∧ ∀ l, H l = none → Q (.ref l) (upd H l (.lst ys))) toLstD := ⟨fun B H L v1 f1 d1 r Q r1 m1 c hF k => by
  unfold toLstD at hF
  split at hF
  · split at hF
    · rename_i hn
      cases hF
      obtain ⟨p, vs, g, rfl, h1, h2, _⟩ := r1.isL c m1
      exact ⟨p, vs, rfl, .inl (SqL.of h1), fun t ht => k _ [(t, .lst vs)] B _ (Ex.refl _) ⟨t, vs, rfl, [], by simp, h2.nil_of hn⟩ (Cfg.new' c ht)⟩
    · cases hF
  · split at hF
    · rename_i hn
      cases hF
      obtain ⟨p, vs, rfl, h1, _, h2⟩ := r1.isT c
      exact ⟨p, vs, rfl, .inr h1, fun t ht => k _ [(t, .lst vs)] B _ (Ex.refl _) ⟨t, vs, rfl, [], by simp, h2.nil_of hn⟩ (Cfg.new' c ht)⟩
    · cases hF
  · cases hF
    obtain ⟨_, p, rfl, hq⟩ := r1
    exact ⟨p, _, rfl, .inl (exL c.ex hq), fun t ht => k _ [(t, .lst _)] B _ (Ex.refl _) ⟨t, _, rfl, [], by simp, RepL.intsOf _⟩ (Cfg.new' c ht)⟩
  · cases hF⟩
def toTupD : D → Option D
  | .lst _ xs => if noOwnL xs = true then some (.tup xs) else none
  | .tup xs => if noOwnL xs = true then some (.tup xs) else none
  | _ => none
theorem op1_tuple : Op1 K (fun v H Q => ∃ p ys, [v] = [V.ref p] ∧ ((SqL K H p ys ∧ ∀ l, H l = none → Q (.ref l) (upd H l (.tup ys))) ∨ (SqT K H p ys ∧ Q (.ref p) H))) toTupD := ⟨fun B H L v1 f1 d1 r Q r1 m1 c hF k => by
  unfold toTupD at hF
  split at hF
  · split at hF
    · rename_i hn
      cases hF
      obtain ⟨p, vs, g, rfl, h1, h2, _⟩ := r1.isL c m1
      refine ⟨p, vs, rfl, .inl ⟨SqL.of h1, fun t ht => ?_⟩⟩
      obtain ⟨B', x, c', hp⟩ := Cfg.seen (o := .tup vs) c ht
      exact k _ [] B' _ x ⟨t, vs, rfl, hp, (h2.nil_of hn).mono x⟩ c'
    · cases hF
  · split at hF
    · rename_i hn
      cases hF
      obtain ⟨p, vs, rfl, h1, h3, h2⟩ := r1.isT c
      exact ⟨p, vs, rfl, .inr ⟨h1, k _ [] B H (Ex.refl _) ⟨p, vs, rfl, h3, h2.nil_of hn⟩ c⟩⟩
    · cases hF
  · cases hF⟩
def sortI (ns : List Int) : List Int := ns.mergeSort (fun a b => decide (a ≤ b))
theorem sortI_perm (ns : List Int) : (sortI ns).Perm ns := List.mergeSort_perm _ _
theorem sortI_sorted (ns : List Int) : (sortI ns).Pairwise (· ≤ ·) := by
  have := List.pairwise_mergeSort (le := fun a b : Int => decide (a ≤ b)) (fun a b c h1 h2 => by simp at *; omega) (fun a b => by simp; omega) ns
  exact this.imp fun h => by simpa using h
theorem sorted_uniq {a b : List Int} (p : a.Perm b) (h1 : a.Pairwise (· ≤ ·)) (h2 : b.Pairwise (· ≤ ·)) : a = b := p.eq_of_pairwise (fun _ _ _ _ => Int.le_antisymm) h1 h2
def sortedD (d : D) : Option D := (seqInts d).map fun ns => .lst true ((sortI ns).map .int)
theorem op1_sorted : Op1 K (fun v H Q => rSortedI K [v] H Q) sortedD := ⟨fun B H L v1 f1 d1 r Q r1 m1 c hF k => by
  unfold sortedD at hF
  simp only [Option.map_eq_some_iff] at hF
  obtain ⟨ns, e, rfl⟩ := hF
  obtain ⟨p, rfl, hp⟩ := seqInts_ok e r1 c m1
  refine ⟨p, ns, rfl, hp, fun ns' q pm pw hq => ?_⟩
  rw [show ns' = sortI ns from sorted_uniq (pm.trans (sortI_perm ns).symm) pw (sortI_sorted ns)]
  exact k _ [(q, .lst _)] B _ (Ex.refl _) ⟨q, _, rfl, [], by simp, RepL.intsOf _⟩ (Cfg.new' c hq)⟩
/-! ### isinstance(x, T), T built-in -/
def tyD : D → Option String
  | .non => some "NoneType"
  | .bl _ => some "bool"
  | .int _ => some "int"
  | .str _ => some "str"
  | .lst _ _ => some "list"
  | .tup _ => some "tuple"
  | .dct _ _ _ => some "dict"
  | .dcT _ _ _ => some "dict"
  | _ => none
def isiD (T : String) (d : D) : Option D := match tyD d with
  | some t => (L2.kitB t T).map .bl
  | none => none
theorem tyD_ok {B H : Hp} {L f : List Ob} {v : V} {d : D} {t : String} (e : tyD d = some t) (h : Rep K B d v f) (c : Cfg B L H) (m : ∀ ob, ob ∈ f → ob ∈ L) : TyX K H v (.type t) := by
  unfold tyD at e
  split at e
  · cases e; obtain ⟨rfl, _⟩ := h; exact .base .non
  · cases e; obtain ⟨rfl, _⟩ := h; exact .base (.bl _)
  · cases e; obtain ⟨rfl, _⟩ := h; exact .base (.int _)
  · cases e; obtain ⟨rfl, _⟩ := h; exact .base (.str _)
  · cases e
    obtain ⟨p, vs, g, rfl, h1, _⟩ := h.isL c m
    exact .base (.lst h1)
  · cases e
    obtain ⟨p, vs, rfl, _, h1, _⟩ := h.isT c
    exact .base (.tup (c.ex _ _ h1))
  · cases e
    obtain ⟨p, vs, g, rfl, h1, _⟩ := h.isD c m
    exact .base (.dK h1)
  · cases e
    obtain ⟨p, vs, g, rfl, h1, _⟩ := h.isDT c m
    exact .base (.dT h1)
  · cases e
theorem evr_isi {T : String} {y : Str} {p2 : Pos} (hg : Gl X "isinstance") (hm : X.mg "isinstance" = none) (hy : Gl X y) (hmy : X.mg y = none) (hv : bootBuiltins y = some (.type T)) (h : EvO X W e g) (hn : y ≠ "__name__" := by decide +kernel) (hdb : (y == ("__debug__" : Str)) = false := by decide +kernel)
    (he : starEach (e :: [.Name y p2]) X.env = (false, eval e X.env) :: starEach [.Name y p2] X.env := by rfl) (he2 : starEach [.Name y p2] X.env = (false, eval (.Name y p2) X.env) :: starEach [] X.env := by rfl) (hpl : (backTo pos (starEach [.Name y p2] X.env)).any (·.1) = false := by rfl) :
    EvR X W (.Call (.Name "isinstance" p') [e, .Name y p2] [] pos) (op1 (isiD T) g) := ⟨fun E σ B l fr H Q re cf af =>
  w_callB call_isi hg hm (by decide +kernel) (w_acons (wE_mono (one (rop1 := fun v H Q => ∀ H2, Ex H H2 → rIsi X.K [v, .ty T] H2 Q) h ⟨fun B H0 L v1 f1 d1 r Q r1 m1 c0 hF k H hx => by
    have c := Cfg.mono c0 hx
    unfold isiD at hF
    split at hF
    · rename_i t et
      simp only [Option.map_eq_some_iff] at hF
      obtain ⟨b, eb, rfl⟩ := hF
      exact ⟨v1, .ty T, .type t, .type T, b, rfl, .ty T, tyD_ok et r1 c m1, kit_ty eb, k _ [] B H (Ex.refl _) ⟨rfl, rfl⟩ c⟩
    · cases hF⟩ re cf af) fun v H1 q => w_acons (go (e_ty hy hmy hv hn hdb) Cfg.start fun H2 x2 c2 => w_anil (Q := fun r H => rIsi X.K (v :: .ty T :: r) H Q) (q H2 x2)) he2) he) (by decide) (by decide) he hpl⟩
end
end DW
/-! DW10: what is walked, for. -/
namespace DW
open PySem L2 Evl QW
open PySem.Spec PyProof.Rows
local macro_rules | `(tactic| walk_at "perm") => `(tactic| (refine List.perm_iff_count.mpr fun _ => ?_; simp only [List.count_append, List.count_nil]; omega))
theorem i_any {X : Cx} {tg e : Expr} {σ : L2.St} {H : Hp} {R : It → Hp → Prop} (h : wE X e σ H fun v H1 => (∃ a xs, v = .ref a ∧ SqL X.K H1 a xs ∧ R (Itl X.K a) H1) ∨ (∃ a xs, v = .ref a ∧ SqT X.K H1 a xs ∧ R (Itt X.K a) H1) ∨ (∃ z, v = .str z ∧ R (Its z) H1)) : wI X tg e σ H R := by
  intro pins s I
  refine thn (h pins s I) fun v s1 ⟨x, H1, I1, r1, q1⟩ => ?_
  rcases q1 with ⟨a, xs, rfl, hq, q⟩ | ⟨a, xs, rfl, hq, q⟩ | ⟨z, rfl, q⟩
  · cases r1
    obtain ⟨its, rv, p, hz⟩ := I1.list hq
    refine wpAny_pyIter_list p.isList ?_
    refine ⟨s1.heap.objs.size, [s1.heap.objs.size], _, _, H1, rfl, I1.kept (t' := s1.toks) fun b o e => Heap.get?_push_of_some _ e, turn_list a _, ⟨_, Heap.get?_push_size _ rfl, rfl, rfl⟩, fun b hb => ?_, q⟩
    have e : b = s1.heap.objs.size := by simpa using hb
    subst e
    exact I1.fpOk (Nat.le_refl _) (I1.hok.fresh (Nat.le_refl _))
  · cases r1
    obtain ⟨its, rv, p, hz⟩ := I1.tuple hq
    refine wpAny_pyIter_tuple (show s1.heap.IsTuple a its.toArray from p) ?_
    refine ⟨s1.heap.objs.size, [s1.heap.objs.size], _, _, H1, rfl, I1.kept (t' := s1.toks) fun b o e => Heap.get?_push_of_some _ e, turn_tuple a _, ⟨_, Heap.get?_push_size _ rfl, rfl, rfl⟩, fun b hb => ?_, q⟩
    have e : b = s1.heap.objs.size := by simpa using hb
    subst e
    exact I1.fpOk (Nat.le_refl _) (I1.hok.fresh (Nat.le_refl _))
  · obtain ⟨t, rfl⟩ := r1
    cases ha : z.cps.all (· < 128)
    · exact wpAny_pyIter_wide ha (pi_one (tk := s1.toks) I1 _ (turn_str _ z t "str_iterator" (.inr rfl)) ⟨_, Heap.get?_push_size _ rfl, rfl, rfl⟩ q)
    · exact wpAny_pyIter_ascii ha (pi_one (tk := s1.toks) I1 _ (turn_str _ z t "str_ascii_iterator" (.inl rfl)) ⟨_, Heap.get?_push_size _ rfl, rfl, rfl⟩ q)
/-- what a row of items is, as it is walked -/
def itemsD : D → Option (List D)
  | .lst _ xs => some xs
  | .tup xs => some xs
  | .str z => some (z.cps.toList.map fun c => .str ⟨#[c]⟩)
  | .scr ns => some (ns.map .int)
  | .ktp ns => some (ns.map .int)
  | _ => none
/-- the walk J gives these items, from B on -/
structure GivesD (K : PySem.W.Frag) (B : Hp) (J : It) (items : List D) (n : Nat) (G : Hp → Prop) (Y : Nat → Hp → V → Hp → Prop) : Prop where
  w : Walk J n G Y
  len : n = items.length
  g : ∀ H, Ex B H → G H
  y : ∀ i x H H2 B' L, i < n → Y i H x H2 → Ex B B' → Cfg B' L H → ∃ d B2, items[i]? = some d ∧ Ex B' B2 ∧ Cfg B2 L H2 ∧ Rep K B2 d x []
def ItRep (K : PySem.W.Frag) (B : Hp) (items : List D) (J : It) (fp : List Ob) : Prop := fp = [] ∧ ∃ n G Y, GivesD K B J items n G Y
structure EvI (X : Cx) (W : WX) (tg it : Expr) (f : Env → R (List D)) : Prop where
  run : ∀ E σ B l fr H (Q : It → Hp → Prop), RelEnv X.K B E σ l → Cfg B (l ++ fr) H → After X.K σ fr B W (ItRep X.K) (f E) Q → wI X tg it σ H Q
/-- a target takes an item -/
structure TgOk (X : Cx) (S : List Nat) (tg : Expr) (bind : D → Env → Option Env) : Prop where
  run : ∀ d v E E' σ B l fr H (Qs : L2.St → Hp → Prop), Rep X.K B d v [] → RelEnv X.K B E σ l → Cfg B (l ++ fr) H → bind d E = some E' →
    (∀ σ' l', RelEnv X.K B E' σ' l' → Par S σ σ' → Cfg B (l' ++ fr) H → Qs σ' H) → wG X tg v σ H Qs
section
variable {X : Cx} {W : WX} {S : List Nat} {e e1 e2 e3 c tg it : Expr} {es : List Expr} {f f1 f2 : Env → R D} {g g1 g2 g3 : Env → R Opd} {t : Env → R Bool} {F Fb : Env → Out} {pos pos' p' tpos p1 p2 p3 : Pos} {rest body els : List Stmt} {x y z : Str} {i j k : Nat}
def bN (i : Nat) : D → Env → Option Env := fun d E => if i < E.length then some (E.set i (some d)) else none
theorem tg_name (n : Own X i x) (hi : i ∉ S) : TgOk X S (.Name x pos) (bN i) := ⟨fun d v E E' σ B l fr H Qs r re cf hb k => by
  unfold bN at hb
  split at hb
  · rename_i hl
    cases hb
    obtain ⟨f1, f0, f2, rfl, hp⟩ := re.put hl
    exact g_name n (k _ _ (hp B d v [] (Ex.refl _) r) (Par.set hi) (Cfg.dropL (a := f0) (Cfg.perm cf (by walk_at "perm"))))
  · cases hb⟩
def bT2 (b1 b2 : D → Env → Option Env) : D → Env → Option Env := fun d E => match d with
  | .tup [a, c] => (b1 a E).bind (b2 c)
  | _ => none
theorem tg_tup2 {kk : Nat} {b1 b2 : D → Env → Option Env} (hc : X.calm = true) (h1 : TgOk X S e1 b1) (h2 : TgOk X S e2 b2)
    (hn : (assignEach [e1, e2] X.env).length = 2 := by rfl) (hst : (assignEach [e1, e2] X.env).findIdx? (·.1) = none := by rfl)
    (hs : (assignEach (e1 :: [e2]) X.env).map (·.2) = assign e1 X.env :: (assignEach [e2] X.env).map (·.2) := by rfl) (hs2 : (assignEach (e2 :: []) X.env).map (·.2) = assign e2 X.env :: (assignEach [] X.env).map (·.2) := by rfl) : TgOk X S (.Tuple [e1, e2] kk pos) (bT2 b1 b2) := ⟨fun d v E E' σ B l fr H Qs r re cf hb k => by
  unfold bT2 at hb
  split at hb
  · rename_i a c
    obtain ⟨p, vs, rfl, hp, v1, vs', f1, f2, rfl, hf, r1, v2, vs'', f3, f4, rfl, hf2, r2, rfl, _⟩ := r
    have hf := hf.symm
    rw [List.append_eq_nil_iff] at hf
    obtain ⟨rfl, rfl⟩ := hf
    have hf2 := hf2.symm
    rw [List.append_eq_nil_iff] at hf2
    obtain ⟨rfl, rfl⟩ := hf2
    cases hb1 : b1 a E with
    | none => rw [hb1] at hb; cases hb
    | some E1 =>
      rw [hb1] at hb
      refine g_tup2 hc (SqT.of (cf.ex _ _ hp)) (h1.run a v1 E E1 σ B l fr H _ r1 re cf hb1 fun σ1 l1 re1 p1 cf1 => h2.run c v2 E1 E' σ1 B l1 fr H _ r2 re1 cf1 hb fun σ2 l2 re2 p2 cf2 => k σ2 l2 re2 (p1.trans p2) cf2) hn hst hs hs2
  · cases hb⟩
theorem g_tup3 {e1 e2 e3 : Expr} {k : Nat} {v1 v2 v3 : V} {a : Addr} {σ : L2.St} {H : Hp} {Q : L2.St → Hp → Prop} (hc : X.calm = true) (ht : SqT X.K H a [v1, v2, v3]) (h : wG X e1 v1 σ H fun σ1 H1 => wG X e2 v2 σ1 H1 fun σ2 H2 => wG X e3 v3 σ2 H2 Q)
    (hn : (assignEach [e1, e2, e3] X.env).length = 3 := by rfl) (hst : (assignEach [e1, e2, e3] X.env).findIdx? (·.1) = none := by rfl)
    (hs : (assignEach (e1 :: [e2, e3]) X.env).map (·.2) = assign e1 X.env :: (assignEach [e2, e3] X.env).map (·.2) := by rfl) (hs2 : (assignEach (e2 :: [e3]) X.env).map (·.2) = assign e2 X.env :: (assignEach [e3] X.env).map (·.2) := by rfl) (hs3 : (assignEach (e3 :: []) X.env).map (·.2) = assign e3 X.env :: (assignEach [] X.env).map (·.2) := by rfl) : wG X (.Tuple [e1, e2, e3] k pos) (.ref a) σ H Q :=
  wG_of (pg_tup hc (pgs_cons pG (pgs_cons pG (pgs_cons pG pgs_nil hs3) hs2) hs) hn hst) ⟨a, _, rfl, ht, rfl, v1, [v2, v3], rfl, fun pins s u I r => wpAny_mono (h pins s u I r) (fun _ s1 ⟨σ1, H1, I1, q⟩ => ⟨σ1, H1, I1, v2, [v3], rfl, fun pins s u I r => wpAny_mono (q pins s u I r) (fun _ s1 ⟨σ1, H1, I1, q⟩ => ⟨σ1, H1, I1, v3, [], rfl, fun pins s u I r => wpAny_mono (q pins s u I r) (fun _ s1 ⟨σ1, H1, I1, q⟩ => ⟨σ1, H1, I1, rfl, q⟩) fun _ _ z => z⟩) fun _ _ z => z⟩) fun _ _ z => z⟩
def bT3 (b1 b2 b3 : D → Env → Option Env) : D → Env → Option Env := fun d E => match d with
  | .tup [a, c, d'] => ((b1 a E).bind (b2 c)).bind (b3 d')
  | _ => none
theorem tg_tup3 {kk : Nat} {b1 b2 b3 : D → Env → Option Env} (hc : X.calm = true) (h1 : TgOk X S e1 b1) (h2 : TgOk X S e2 b2) (h3 : TgOk X S e3 b3)
    (hn : (assignEach [e1, e2, e3] X.env).length = 3 := by rfl) (hst : (assignEach [e1, e2, e3] X.env).findIdx? (·.1) = none := by rfl)
    (hs : (assignEach (e1 :: [e2, e3]) X.env).map (·.2) = assign e1 X.env :: (assignEach [e2, e3] X.env).map (·.2) := by rfl) (hs2 : (assignEach (e2 :: [e3]) X.env).map (·.2) = assign e2 X.env :: (assignEach [e3] X.env).map (·.2) := by rfl) (hs3 : (assignEach (e3 :: []) X.env).map (·.2) = assign e3 X.env :: (assignEach [] X.env).map (·.2) := by rfl) : TgOk X S (.Tuple [e1, e2, e3] kk pos) (bT3 b1 b2 b3) := ⟨fun d v E E' σ B l fr H Qs r re cf hb k => by
  unfold bT3 at hb
  split at hb
  · rename_i a c d'
    obtain ⟨p, vs, rfl, hp, v1, vs', f1, f2, rfl, hf, r1, v2, vs'', f3, f4, rfl, hf2, r2, v3, vs3, f5, f6, rfl, hf3, r3, rfl, _⟩ := r
    have hf := hf.symm
    rw [List.append_eq_nil_iff] at hf
    obtain ⟨rfl, rfl⟩ := hf
    have hf2 := hf2.symm
    rw [List.append_eq_nil_iff] at hf2
    obtain ⟨rfl, rfl⟩ := hf2
    have hf3 := hf3.symm
    rw [List.append_eq_nil_iff] at hf3
    obtain ⟨rfl, rfl⟩ := hf3
    cases hb1 : b1 a E with
    | none => rw [hb1] at hb; cases hb
    | some E1 =>
      rw [hb1] at hb
      have hb : (b2 c E1).bind (b3 d') = some E' := hb
      cases hb2 : b2 c E1 with
      | none => rw [hb2] at hb; cases hb
      | some E2 =>
        rw [hb2] at hb
        refine g_tup3 hc (SqT.of (cf.ex _ _ hp)) (h1.run a v1 E E1 σ B l fr H _ r1 re cf hb1 fun σ1 l1 re1 p1 cf1 => h2.run c v2 E1 E2 σ1 B l1 fr H _ r2 re1 cf1 hb2 fun σ2 l2 re2 p2 cf2 => h3.run d' v3 E2 E' σ2 B l2 fr H _ r3 re2 cf2 hb fun σ3 l3 re3 p3 cf3 => k σ3 l3 re3 ((p1.trans p2).trans p3) cf3) hn hst hs hs2 hs3
  · cases hb⟩

/-! sources -/
theorem RepL.nth' {K : PySem.W.Frag} {B : Hp} {ds : List D} {vs : List V} (h : RepL K B ds vs []) {i : Nat} {v : V} (e : vs[i]? = some v) : ∃ d, ds[i]? = some d ∧ Rep K B d v [] := h.nthV e
/-- a row that stands: its items one by one -/
theorem gives_row {K : PySem.W.Frag} {B : Hp} {J : It} {ds : List D} {vs : List V} {G : Hp → Prop} (w : Walk J vs.length G (YAt vs)) (h : RepL K B ds vs []) (g : ∀ H, Ex B H → G H) : GivesD K B J ds vs.length G (YAt vs) :=
  ⟨w, h.len.symm, g, fun i x H H2 B' L hi y e c => by
    obtain ⟨rfl, hx⟩ := y
    obtain ⟨d, h1, h2⟩ := h.nthV hx
    exact ⟨d, B', h1, Ex.refl _, c, h2.mono e⟩⟩
def iO (g : Env → R Opd) : Env → R (List D) := fun E => (g E).bind fun o E1 => match o with
  | .tmp d => match itemsD (frz d) with
    | some xs => .ok xs E1
    | none => .bad
  | .slot _ => .bad
theorem evi_any (h : EvR X W it f) : EvI X W tg it (iO (oR f)) := ⟨fun E σ B l fr H Q re cf af =>
  i_any (h.o.run E σ B l fr H _ re cf (After.first (β := It) (δ := V) af fun o E1 v B1 l1 fp1 H1 _ x1 re1 rv1 cf1 af1 => by
    cases o with
    | slot i => exact af1.elim
    | tmp d =>
      dsimp only at af1
      obtain ⟨B2, x2, c2, st⟩ := Cfg.keepL (a := fp1) cf1
      have r2 := Rep.frz x2 rv1 st
      have re2 := re1.mono x2
      generalize hd : frz d = d' at af1 r2
      cases hi : itemsD d' with
      | none => rw [hi] at af1; exact af1.elim
      | some xs =>
        rw [hi] at af1
        unfold itemsD at hi
        split at hi
        · rename_i o _
          cases hi
          obtain ⟨p, vs, g, rfl, h1, h2, _, h3⟩ := Rep.isL r2 c2 (by simp)
          have h2' : RepL X.K B2 xs vs [] ∧ B2 p = some (.lst vs) := by
            cases o with
            | true => have := h3 rfl; simp at this
            | false =>
              obtain ⟨p', vs', e, h4, h5, _⟩ := r2
              cases e
              rw [c2.ex _ _ h4] at h1
              cases h1
              exact ⟨h5, h4⟩
          exact .inl ⟨p, vs, rfl, SqL.of h1, af1 _ B2 l1 [] H1 x2 re2 ⟨rfl, _, _, _, gives_row walk_list h2'.1 fun H x => SqL.of (x _ _ h2'.2)⟩ c2⟩
        · cases hi
          obtain ⟨p, vs, rfl, h1, h3, h2⟩ := Rep.isT r2 c2
          exact .inr (.inl ⟨p, vs, rfl, h1, af1 _ B2 l1 [] H1 x2 re2 ⟨rfl, _, _, _, gives_row walk_tup h2 fun H x => SqT.of (x _ _ h3)⟩ c2⟩)
        · rename_i z
          cases hi
          obtain ⟨rfl, _⟩ := r2
          refine .inr (.inr ⟨z, rfl, af1 _ B2 l1 [] H1 x2 re2 ⟨rfl, _, _, _, ⟨walk_str, ?_, fun _ _ => trivial, fun i x H H2 B' L hi y e c => ?_⟩⟩ c2⟩)
          · rw [List.length_map, Array.length_toList]
          · obtain ⟨rfl, q, hq, rfl⟩ := y
            exact ⟨.str ⟨#[q]⟩, B', by rw [List.getElem?_map, Array.getElem?_toList, hq]; rfl, Ex.refl _, c, ⟨rfl, rfl⟩⟩
        · rename_i ns
          cases hi
          obtain ⟨_, p, rfl, hq⟩ := r2
          exact .inl ⟨p, _, rfl, exL c2.ex hq, af1 _ B2 l1 [] H1 x2 re2 ⟨rfl, _, _, _, gives_row walk_list (RepL.intsOf ns) fun H x => exL x hq⟩ c2⟩
        · rename_i ns
          cases hi
          obtain ⟨_, p, rfl, hq⟩ := r2
          exact .inr (.inl ⟨p, _, rfl, exT c2.ex hq, af1 _ B2 l1 [] H1 x2 re2 ⟨rfl, _, _, _, gives_row walk_tup (RepL.intsOf ns) fun H x => exT x hq⟩ c2⟩)
        · cases hi))⟩
/-- range -/
def rangeL (lo : Int) (n : Nat) : List D := (List.range n).map fun i => .int (lo + (i : Nat))
def rng1 (a : Env → R (List Opd)) : Env → R (List D) := fun E => (a E).bind fun os E1 => match os with
  | [o] => match o.val E1 with
    | some (.int j) => if decide (-(2 ^ 62) ≤ j ∧ j < 2 ^ 62) = true then .ok (rangeL 0 j.toNat) E1 else .bad
    | _ => .bad
  | _ => .bad
def rng2 (a : Env → R (List Opd)) : Env → R (List D) := fun E => (a E).bind fun os E1 => match os with
  | [o, o'] => match o.val E1, o'.val E1 with
    | some (.int i), some (.int j) => if decide (-(2 ^ 62) ≤ i ∧ i < 2 ^ 62 ∧ -(2 ^ 62) ≤ j ∧ j < 2 ^ 62) = true then .ok (rangeL i (j - i).toNat) E1 else .bad
    | _, _ => .bad
  | _ => .bad
theorem gives_fn {K : PySem.W.Frag} {B : Hp} {J : It} {n : Nat} {g : Nat → V} {h : Nat → D} (w : Walk J n (fun _ => True) (YFn g)) (r : ∀ B i, Rep K B (h i) (g i) []) : GivesD K B J ((List.range n).map h) n (fun _ => True) (YFn g) :=
  ⟨w, by simp, fun _ _ => trivial, fun i x H H2 B' L hi y e c => by
    obtain ⟨rfl, rfl⟩ := y
    exact ⟨h i, B', by rw [List.getElem?_map, List.getElem?_range hi]; rfl, Ex.refl _, c, r _ _⟩⟩
theorem Rep.int {K : PySem.W.Frag} {B : Hp} {i : Int} {v : V} {f : List Ob} (h : Rep K B (.int i) v f) : v = .int i := h.1
theorem ops1 {K : PySem.W.Frag} {σ : L2.St} {B : Hp} {o : Opd} {vs : List V} {fp : List Ob} (h : OpsRep K σ B [o] vs fp) : ∃ v, vs = [v] ∧ OpRep K σ B o v fp := by
  obtain ⟨v, vs', f1, f2, rfl, rfl, h3, rfl, rfl⟩ := h
  exact ⟨v, rfl, by simpa using h3⟩
theorem ops2 {K : PySem.W.Frag} {σ : L2.St} {B : Hp} {o o' : Opd} {vs : List V} {fp : List Ob} (h : OpsRep K σ B [o, o'] vs fp) : ∃ v u f g, vs = [v, u] ∧ fp = f ++ g ∧ OpRep K σ B o v f ∧ OpRep K σ B o' u g := by
  obtain ⟨v, vs', f1, f2, rfl, rfl, h3, h4⟩ := h
  obtain ⟨u, rfl, h5⟩ := ops1 h4
  exact ⟨v, u, f1, f2, rfl, rfl, h3, h5⟩
theorem ops3 {K : PySem.W.Frag} {σ : L2.St} {B : Hp} {o o' o'' : Opd} {vs : List V} {fp : List Ob} (h : OpsRep K σ B [o, o', o''] vs fp) : ∃ v u w f g k, vs = [v, u, w] ∧ fp = f ++ (g ++ k) ∧ OpRep K σ B o v f ∧ OpRep K σ B o' u g ∧ OpRep K σ B o'' w k := by
  obtain ⟨v, vs', f1, f2, rfl, rfl, h3, h4⟩ := h
  obtain ⟨u, w, f, g, rfl, rfl, h5, h6⟩ := ops2 h4
  exact ⟨v, u, w, f1, f, g, rfl, rfl, h3, h5, h6⟩
theorem evi_range1 {a : Env → R (List Opd)} (hg : Gl X "range") (hm : X.mg "range" = none) (h : EvA X W [e] a) (hs : starEach [e] X.env = [(false, eval e X.env)] := by rfl) : EvI X W tg (.Call (.Name "range" p') [e] [] pos) (rng1 a) := ⟨fun E σ B l fr H Q re cf af =>
  wI_of (pi_range1 hg hm pA hs) (h.run E σ B l fr H _ re cf (After.first (β := It) (δ := List V) af fun os E1 vs B1 l1 fp1 H1 _ x1 re1 rv1 cf1 af1 => by
    split at af1
    · split at af1
      · split at af1
        · rename_i ho hj
          have hj := of_decide_eq_true hj
          obtain ⟨v, rfl, r⟩ := ops1 rv1
          obtain ⟨f, r2, _⟩ := r.get re1 ho
          obtain rfl := r2.int
          exact ⟨_, rfl, hj.1, hj.2, af1 _ B1 l1 [] H1 (Ex.refl _) re1 ⟨rfl, _, _, _, gives_fn (walk_range (lo := 0)) fun _ _ => ⟨rfl, rfl⟩⟩ (Cfg.dropL cf1)⟩
        · exact af1.elim
      · exact af1.elim
    · exact af1.elim))⟩
theorem evi_range2 {a : Env → R (List Opd)} (hg : Gl X "range") (hm : X.mg "range" = none) (h : EvA X W [e1, e2] a) (hs : starEach [e1, e2] X.env = [(false, eval e1 X.env), (false, eval e2 X.env)] := by rfl) (hs2 : starEach [e2] X.env = [(false, eval e2 X.env)] := by rfl) : EvI X W tg (.Call (.Name "range" p') [e1, e2] [] pos) (rng2 a) := ⟨fun E σ B l fr H Q re cf af =>
  wI_of (pi_range2 hg hm pA hs hs2) (h.run E σ B l fr H _ re cf (After.first (β := It) (δ := List V) af fun os E1 vs B1 l1 fp1 H1 _ x1 re1 rv1 cf1 af1 => by
    split at af1
    · split at af1
      · split at af1
        · rename_i ho ho' hj
          have hj := of_decide_eq_true hj
          obtain ⟨v, u, f0, g0, rfl, rfl, r, r'⟩ := ops2 rv1
          obtain ⟨f, r2, _⟩ := r.get re1 ho
          obtain ⟨f', r2', _⟩ := r'.get re1 ho'
          obtain rfl := r2.int
          obtain rfl := r2'.int
          exact ⟨_, _, rfl, hj, af1 _ B1 l1 [] H1 (Ex.refl _) re1 ⟨rfl, _, _, _, gives_fn walk_range fun _ _ => ⟨rfl, rfl⟩⟩ (Cfg.dropL cf1)⟩
        · exact af1.elim
      · exact af1.elim
    · exact af1.elim))⟩
/-- range with a step: k written -/
def rangeC (lo c : Int) (n : Nat) : List D := (List.range n).map fun i => .int (lo + (i : Nat) * c)
def rng3 (a : Env → R (List Opd)) : Env → R (List D) := fun E => (a E).bind fun os E1 => match os with
  | [o, o', o''] => match o.val E1, o'.val E1, o''.val E1 with
    | some (.int i), some (.int j), some (.int c) => if decide (c ≠ 0 ∧ c.natAbs < 1073741824 ∧ Builtin.Range.small i j c = true ∧ Builtin.Range.rangeSize i j c = (Builtin.Range.rangeSize i j c).toNat) = true then .ok (rangeC i c (Builtin.Range.rangeSize i j c).toNat) E1 else .bad
    | _, _, _ => .bad
  | _ => .bad
theorem evi_range3 {a : Env → R (List Opd)} (hg : Gl X "range") (hm : X.mg "range" = none) (h : EvA X W [e1, e2, e3] a) (hs : starEach [e1, e2, e3] X.env = (false, eval e1 X.env) :: starEach [e2, e3] X.env := by rfl) (hpl : (backTo pos (starEach [e2, e3] X.env)).any (·.1) = false := by rfl) : EvI X W tg (.Call (.Name "range" p') [e1, e2, e3] [] pos) (rng3 a) := ⟨fun E σ B l fr H Q re cf af =>
  wI_of (pi_range3 hg hm pA hs hpl) (h.run E σ B l fr H _ re cf (After.first (β := It) (δ := List V) af fun os E1 vs B1 l1 fp1 H1 _ x1 re1 rv1 cf1 af1 => by
    split at af1
    · split at af1
      · split at af1
        · rename_i ho ho' ho'' hj
          have hj := of_decide_eq_true hj
          obtain ⟨v, u, w, f0, g0, k0, rfl, rfl, r, r', r''⟩ := ops3 rv1
          obtain ⟨f, r2, _⟩ := r.get re1 ho
          obtain ⟨f', r2', _⟩ := r'.get re1 ho'
          obtain ⟨f'', r2'', _⟩ := r''.get re1 ho''
          obtain rfl := r2.int
          obtain rfl := r2'.int
          obtain rfl := r2''.int
          exact ⟨_, _, _, _, rfl, hj, af1 _ B1 l1 [] H1 (Ex.refl _) re1 ⟨rfl, _, _, _, gives_fn walk_rangeC fun _ _ => ⟨rfl, rfl⟩⟩ (Cfg.dropL cf1)⟩
        · exact af1.elim
      · exact af1.elim
    · exact af1.elim))⟩
/-! ### for -/
def forD (bind : D → Env → Option Env) (body : Env → Out) : List D → Env → Out
  | [], E => .nxt E
  | d :: ds, E => match bind d E with
    | some E1 => match body E1 with
      | .nxt E2 => forD bind body ds E2
      | .cnt E2 => forD bind body ds E2
      | .brk E2 => .nxt E2
      | o => o
    | none => .bad
def sFor (src : Env → R (List D)) (bind : D → Env → Option Env) (body F : Env → Out) : Env → Out := fun E => onR (src E) fun ds E1 => (forD bind body ds E1).thn F
theorem exs_for {N : List Str} {sc : Scope} {kb : Nat} {src : Env → R (List D)} {bind : D → Env → Option Env} (b : Bd X N sc kb) (hi : EvI X W tg it src) (ht : TgOk X S tg bind) (hb : ExS X W S body Fb) (hF : ExS X W S rest F) (hs : ∀ x, foldedSetIterable it X.env x = pure x := by intro _; rfl) : ExS X W S (.For tg it body [] pos :: rest) (sFor src bind Fb F) := ⟨fun E σ B l fr H N0 re cf af => by
  refine s_for' b.po b.calm (hi.run E σ B l fr H _ re cf (AfterS.expr (β := It) af fun items E1 J B1 l1 fp1 H1 _ x1 re1 rv1 cf1 af1 => ?_)) hs
  obtain ⟨rfl, n, G, Y, gv⟩ := rv1
  refine ⟨n, G, Y, gv.w, fun i σ' H' => ∃ E' B' l', Ex B1 B' ∧ RelEnv X.K B' E' σ' l' ∧ Cfg B' (l' ++ fr) H' ∧ Par S σ σ' ∧ AfterS X.K S σ' fr B' W ((forD bind Fb (items.drop i) E').thn F) N0, ⟨E1, B1, l1, Ex.refl _, re1, cf1, Par.refl, af1⟩, fun i σ' H' _ p => ?_, fun i x σ' H' H2 hi p y => ?_, fun σ' H' p => ?_⟩
  · obtain ⟨E', B', l', x', _, c', _⟩ := p
    exact gv.g H' (x'.trans c'.ex)
  · obtain ⟨E', B', l', x', re', c', p', a'⟩ := p
    obtain ⟨d, B2, hd, x2, c2, rd⟩ := gv.y i x H' H2 B' _ hi y x' c'
    have hdrop : items.drop i = d :: items.drop (i + 1) := by
      obtain ⟨hh, rfl⟩ := List.getElem?_eq_some_iff.mp hd
      exact List.drop_eq_getElem_cons hh
    rw [hdrop] at a'
    unfold forD at a'
    cases hbd : bind d E' with
    | none => rw [hbd] at a'; exact a'.elim
    | some E2 =>
      rw [hbd] at a'
      dsimp only at a'
      refine ht.run d x E' E2 σ' B2 l' fr H2 _ rd (re'.mono x2) c2 hbd fun σ3 l3 re3 p3 c3 => ?_
      refine hb.run E2 σ3 B2 l3 fr H2 _ re3 c3 ?_
      have a3 := AfterS.up (S := S) x2 p3 a'
      have ps : Par S σ σ3 := p'.trans p3
      cases ho : Fb E2 with
      | nxt E3 =>
        rw [ho] at a3
        exact fun σ4 B4 l4 H4 x4 re4 p4 c4 => ⟨E3, B4, l4, (x'.trans x2).trans x4, re4, c4, ps.trans p4, AfterS.up x4 p4 a3⟩
      | cnt E3 =>
        rw [ho] at a3
        exact fun σ4 B4 l4 H4 x4 re4 p4 c4 => ⟨E3, B4, l4, (x'.trans x2).trans x4, re4, c4, ps.trans p4, AfterS.up x4 p4 a3⟩
      | brk E3 =>
        rw [ho] at a3
        exact fun σ4 B4 l4 H4 x4 re4 p4 c4 => hF.run E3 σ4 B4 l4 fr H4 N0 re4 c4 (AfterS.up x4 p4 a3)
      | ret d' E3 => rw [ho] at a3; exact a3
      | exc c ns vs E3 => rw [ho] at a3; exact a3
      | bad => rw [ho] at a3; exact a3
  · obtain ⟨E', B', l', x', re', c', p', a'⟩ := p
    rw [gv.len, List.drop_length] at a'
    exact hF.run E' σ' B' l' fr H' N0 re' c' a'⟩
where
  s_for' {X : Cx} {tg it : Expr} {body rest : List Stmt} {D : Ends} {σ : L2.St} {H : Hp} {pos : Pos} (hp : PassesOwn (model X.prog X.w) X.A X.env X.xe) (hc : X.calm = true) (hi : wI X tg it σ H fun J H1 => ∃ (n : Nat) (G : Hp → Prop) (Y : Nat → Hp → V → Hp → Prop), Walk J n G Y ∧ ∃ Pv : Nat → L2.St → Hp → Prop, Pv 0 σ H1 ∧ (∀ i σ' H', i ≤ n → Pv i σ' H' → G H') ∧
      (∀ i x σ' H' H2, i < n → Pv i σ' H' → Y i H' x H2 → wG X tg x σ' H2 fun σ3 H3 => wSs X body { D with nx := Pv (i + 1), ct := Pv (i + 1), bk := wSs X rest D } σ3 H3) ∧ ∀ σ' H', Pv n σ' H' → wSs X rest D σ' H')
    (hs : ∀ x, foldedSetIterable it X.env x = pure x) : wSs X (.For tg it body [] pos :: rest) D σ H := by
    refine s_of (ps_for hp hc pI pG pSs hs) ?_
    refine fun pins s I => wpAny_mono (hi pins s I) (fun v s1 h1 => wpAny_mono h1 (fun u s2 h2 => ?_) fun _ _ z => z) fun _ _ z => z
    obtain ⟨it', fp, tn, J, H', e1, I2, T, st, f2, n, G, Y, w, Pv, q0, q1, q2, q3⟩ := h2
    exact ⟨it', fp, tn, J, H', e1, I2, T, st, f2, for_it w Pv q0 q1 q2 q3⟩
/-! ### while -/
def whD (t : Env → R Bool) (body : Env → Out) : Nat → Env → Out
  | 0, _ => .bad
  | n + 1, E => onR (t E) fun b E1 => if b = true then (match body E1 with
      | .nxt E2 => whD t body n E2
      | .cnt E2 => whD t body n E2
      | .brk E2 => .nxt E2
      | o => o) else .nxt E1
def sWhile (fuel : Nat) (t : Env → R Bool) (body F : Env → Out) : Env → Out := fun E => (whD t body fuel E).thn F
theorem exs_while {N : List Str} {sc : Scope} {kb fuel : Nat} (b : Bd X N sc kb) (h : EvT X W c t) (hb : ExS X W S body Fb) (hF : ExS X W S rest F) : ExS X W S (.While c body [] pos :: rest) (sWhile fuel t Fb F) := ⟨fun E σ B l fr H N0 re cf af => by
  refine s_while b.po (fun m σ' H' => ∃ E' B' l', Ex B B' ∧ RelEnv X.K B' E' σ' l' ∧ Cfg B' (l' ++ fr) H' ∧ Par S σ σ' ∧ AfterS X.K S σ' fr B' W ((whD t Fb m E').thn F) N0) fuel ⟨E, B, l, Ex.refl _, re, cf, Par.refl, af⟩ ?_
  rintro m σ' H' ⟨E', B', l', x', re', c', p', a'⟩
  cases m with
  | zero => exact a'.elim
  | succ m =>
    have a2 : AfterS X.K S σ' fr B' W (onR (t E') fun b E1 => (if b = true then (match Fb E1 with
      | .nxt E2 => whD t Fb m E2
      | .cnt E2 => whD t Fb m E2
      | .brk E2 => .nxt E2
      | o => o) else .nxt E1 : Out).thn F) N0 := by
      unfold whD at a'
      cases ht : t E' with
      | ok v E1 => rw [ht] at a'; exact a'
      | exc c ns vs E1 => rw [ht] at a'; exact a'
      | bad => rw [ht] at a'; exact a'
    refine h.run E' σ' B' l' fr H' _ re' c' (AfterS.expr (β := Bool) a2 fun v E1 v' B1 l1 fp1 H1 _ x1 re1 rv1 cf1 af1 => ?_)
    obtain ⟨rfl, rfl⟩ := rv1
    cases v' with
    | true =>
      rw [if_pos rfl] at af1 ⊢
      refine hb.run E1 σ' B1 l1 fr H1 _ re1 cf1 ?_
      cases ho : Fb E1 with
      | nxt E3 =>
        rw [ho] at af1
        exact fun σ4 B4 l4 H4 x4 re4 p4 c4 => ⟨m, Nat.lt_succ_self _, E3, B4, l4, (x'.trans x1).trans x4, re4, c4, p'.trans p4, AfterS.up x4 p4 af1⟩
      | cnt E3 =>
        rw [ho] at af1
        exact fun σ4 B4 l4 H4 x4 re4 p4 c4 => ⟨m, Nat.lt_succ_self _, E3, B4, l4, (x'.trans x1).trans x4, re4, c4, p'.trans p4, AfterS.up x4 p4 af1⟩
      | brk E3 =>
        rw [ho] at af1
        exact fun σ4 B4 l4 H4 x4 re4 p4 c4 => hF.run E3 σ4 B4 l4 fr H4 N0 re4 c4 (AfterS.up x4 p4 af1)
      | ret d' E3 => rw [ho] at af1; exact af1
      | exc c ns vs E3 => rw [ho] at af1; exact af1
      | bad => rw [ho] at af1; exact af1
    | false =>
      rw [if_neg (by decide)] at af1 ⊢
      exact hF.run E1 σ' B1 l1 fr H1 N0 re1 cf1 af1⟩
end
end DW
/-! DW11: comprehensions. -/
namespace DW
open PySem L2 Evl QW
local macro_rules | `(tactic| walk_at "perm") => `(tactic| (refine List.perm_iff_count.mpr fun _ => ?_; simp only [List.count_append, List.count_nil]; omega))
def wipeE (E : Env) : List Nat → Env
  | [] => E
  | v :: vs => (wipeE E vs).set v none
theorem wipe_get {σ : L2.St} {i : Nat} : ∀ {vs : List Nat}, (wipe σ vs)[i]? = if i ∈ vs ∧ i < σ.length then some none else σ[i]?
  | [] => by simp [wipe]
  | v :: vs => by
    unfold wipe
    rw [List.getElem?_set, wipe_get (vs := vs), wipe_length]
    by_cases h : v = i
    · subst h
      by_cases hl : v < σ.length
      · simp [hl]
      · simp [hl] <;> omega
    · have : ¬ i = v := fun e => h e.symm
      simp [h, this]
theorem wipe_eq {σ σ' : L2.St} {vs : List Nat} (hl : σ'.length = σ.length) (h : ∀ i, i ∉ vs → σ'[i]? = σ[i]?) : wipe σ' vs = wipe σ vs := by
  apply List.ext_getElem?
  intro i
  rw [wipe_get, wipe_get, hl]
  by_cases hi : i ∈ vs
  · by_cases hlt : i < σ.length
    · simp [hi, hlt]
    · simp [hi, hlt] <;> omega
  · simp [hi, h i hi]
theorem wipe_wipe {σ : L2.St} {vs : List Nat} : wipe (wipe σ vs) vs = wipe σ vs := wipe_eq (wipe_length _ _) fun i h => by rw [wipe_get, if_neg (fun z => h z.1)]
section
variable {K : PySem.W.Frag} {B : Hp}
theorem rel_swap : ∀ {E : Env} {σ σ' : L2.St} {l : List Ob}, RelEnv K B E σ l → σ'.length = σ.length → (∀ i : Nat, E[i]? = some none ∨ σ'[i]? = σ[i]?) → RelEnv K B E σ' l
  | [], σ, σ', l, h, hl, _ => by
    obtain ⟨rfl, rfl⟩ := h
    exact ⟨List.eq_nil_of_length_eq_zero hl, rfl⟩
  | none :: E, σ, σ', l, h, hl, hi => by
    obtain ⟨s, τ, rfl, h2⟩ := h
    cases σ' with
    | nil => cases hl
    | cons s' τ' => exact ⟨s', τ', rfl, rel_swap h2 (by simpa using hl) fun i => by simpa using hi (i + 1)⟩
  | some d :: E, σ, σ', l, h, hl, hi => by
    obtain ⟨v, τ, f1, f2, rfl, rfl, h3, h4⟩ := h
    cases σ' with
    | nil => cases hl
    | cons s' τ' =>
      have h0 := hi 0
      simp at h0
      subst h0
      exact ⟨v, τ', f1, f2, rfl, rfl, h3, rel_swap h4 (by simpa using hl) fun i => by simpa using hi (i + 1)⟩
theorem rel_wipe1 {E : Env} {σ : L2.St} {l : List Ob} {i : Nat} {s : Option V} (h : RelEnv K B E σ l) : ∃ l' g, RelEnv K B (E.set i none) (σ.set i s) l' ∧ (l' ++ g).Perm l := by
  have hl := h.len
  cases he : E[i]? with
  | none =>
    have : E.length ≤ i := List.getElem?_eq_none_iff.mp he
    rw [List.set_eq_of_length_le this, List.set_eq_of_length_le (by omega)]
    exact ⟨l, [], h, by simp⟩
  | some o =>
    cases o with
    | none =>
      refine ⟨l, [], ?_, by simp⟩
      rw [set_same he]
      refine rel_swap h (by simp) fun j => ?_
      by_cases hj : j = i
      · subst hj; exact .inl he
      · exact .inr (by rw [List.getElem?_set_ne (fun e => hj e.symm)])
    | some d =>
      obtain ⟨v, f1, f, f2, _, rfl, _, _, h5⟩ := h.at he
      exact ⟨f1 ++ f2, f, h5 s, by walk_at "perm"⟩
theorem rel_wipe : ∀ {vs : List Nat} {E : Env} {σ : L2.St} {l : List Ob}, RelEnv K B E σ l → ∃ l' g, RelEnv K B (wipeE E vs) (wipe σ vs) l' ∧ (l' ++ g).Perm l
  | [], E, σ, l, h => ⟨l, [], h, by simp⟩
  | v :: vs, E, σ, l, h => by
    obtain ⟨l1, g1, h1, p1⟩ := rel_wipe (vs := vs) h
    obtain ⟨l2, g2, h2, p2⟩ := rel_wipe1 (i := v) (s := none) h1
    exact ⟨l2, g2 ++ g1, h2, by rw [← List.append_assoc]; exact (p2.append_right g1).trans p1⟩
theorem wipeE_len (E : Env) : ∀ vs : List Nat, (wipeE E vs).length = E.length
  | [] => rfl
  | v :: vs => by unfold wipeE; rw [List.length_set, wipeE_len E vs]
theorem wipeE_in {E : Env} {i : Nat} : ∀ {vs : List Nat}, i ∈ vs → i < E.length → (wipeE E vs)[i]? = some none
  | v :: vs, h, hl => by
    unfold wipeE
    rw [List.getElem?_set]
    by_cases e : v = i
    · subst e; rw [if_pos rfl, wipeE_len, if_pos hl]
    · rw [if_neg e]
      rcases List.mem_cons.mp h with h | h
      · exact absurd h.symm e
      · exact wipeE_in h hl
/-- behind a comprehension its own slots hold nothing -/
theorem rel_unwipe {E : Env} {σ : L2.St} {l : List Ob} {vs : List Nat} (h : RelEnv K B (wipeE E vs) (wipe σ vs) l) : RelEnv K B (wipeE E vs) σ l := by
  have hl := h.len
  rw [wipe_length, wipeE_len] at hl
  refine rel_swap h (by rw [wipe_length]) fun i => ?_
  by_cases hi : i ∈ vs
  · by_cases hlt : i < E.length
    · exact .inl (wipeE_in hi hlt)
    · right
      rw [List.getElem?_eq_none (by omega), List.getElem?_eq_none (by rw [wipe_length]; omega)]
  · right
    rw [wipe_get, if_neg (fun z => hi z.1)]
end
/-- no exception is wished -/
abbrev W0 : WX := fun _ _ _ _ => False
/-- a target of a comprehension takes an item -/
structure TgB (X : Cx) (sc : Scope) (vs : List Nat) (tg : Expr) (bind : D → Env → Option Env) : Prop where
  run : ∀ d v E E' σ B l fr H (Qs : L2.St → Hp → Prop), Rep X.K B d v [] → RelEnv X.K B E σ l → Cfg B (l ++ fr) H → bind d E = some E' →
    (∀ σ' l', RelEnv X.K B E' σ' l' → σ'.length = σ.length → (∀ i, i ∉ vs → σ'[i]? = σ[i]?) → Cfg B (l' ++ fr) H → Qs σ' H) → yG X sc tg v σ H Qs
section
variable {X : Cx} {W : WX} {S : List Nat} {N : List Str} {sc s : Scope} {kb : Nat} {tg it elt c : Expr} {own : List (Str × Nat)} {src : Env → R (List D)} {bind : D → Env → Option Env} {fe : Env → R D} {ft : Env → R Bool} {F : Env → Out} {pos spos py p1 p2 p3 p4 : Pos} {rest : List Stmt} {i j j1 j2 j3 kk : Nat} {x x1 x2 x3 y : Str} {vs : List Nat}
theorem tgb_name (b : Bd X N sc kb) (hj : N[j]? = some x) (hl : (relS s sc).names.lookup x = some .local) (hm : j ∈ vs) : TgB X s vs (.Name x p1) (bN j) := ⟨fun d v E E' σ B l fr H Qs r re cf hb k => by
  unfold bN at hb
  split at hb
  · rename_i hl'
    cases hb
    obtain ⟨f1, f0, f2, rfl, hp⟩ := re.put hl'
    exact yg_name b.nd (by rw [b.n]; exact hj) (by rw [b.sc]; exact hl) (k _ _ (hp B d v [] (Ex.refl _) r) (by simp) (fun i hi => by rw [List.getElem?_set_ne]; intro e; subst e; exact hi hm) (Cfg.dropL (a := f0) (Cfg.perm cf (by walk_at "perm"))))
  · cases hb⟩
theorem bN_ok {K : PySem.W.Frag} {B : Hp} {d : D} {v : V} {E E' : Env} {σ : L2.St} {l fr : List Ob} {H : Hp} (r : Rep K B d v []) (re : RelEnv K B E σ l) (cf : Cfg B (l ++ fr) H) (hb : bN j d E = some E') : ∃ l', RelEnv K B E' (σ.set j (some v)) l' ∧ Cfg B (l' ++ fr) H := by
  unfold bN at hb
  split at hb
  · rename_i hl'
    cases hb
    obtain ⟨f1, f0, f2, rfl, hp⟩ := re.put hl'
    exact ⟨_, hp B d v [] (Ex.refl _) r, Cfg.dropL (a := f0) (Cfg.perm cf (by walk_at "perm"))⟩
  · cases hb
theorem tgb_tup2 (b : Bd X N sc kb) (h1 : N[j1]? = some x1) (h2 : N[j2]? = some x2) (hl1 : (relS s sc).names.lookup x1 = some .local) (hl2 : (relS s sc).names.lookup x2 = some .local) (hm1 : j1 ∈ vs) (hm2 : j2 ∈ vs) : TgB X s vs (.Tuple [.Name x1 p1, .Name x2 p2] kk p3) (bT2 (bN j1) (bN j2)) := ⟨fun d v E E' σ B l fr H Qs r re cf hb k => by
  unfold bT2 at hb
  split at hb
  · rename_i a c
    obtain ⟨p, us, rfl, hp, v1, vs', f1, f2, rfl, hf, r1, v2, vs'', f3, f4, rfl, hf2, r2, rfl, _⟩ := r
    have hf := hf.symm
    rw [List.append_eq_nil_iff] at hf
    obtain ⟨rfl, rfl⟩ := hf
    have hf2 := hf2.symm
    rw [List.append_eq_nil_iff] at hf2
    obtain ⟨rfl, rfl⟩ := hf2
    cases hb1 : bN j1 a E with
    | none => rw [hb1] at hb; cases hb
    | some E1 =>
      rw [hb1] at hb
      obtain ⟨l1, re1, cf1⟩ := bN_ok r1 re cf hb1
      obtain ⟨l2, re2, cf2⟩ := bN_ok r2 re1 cf1 (show bN j2 c E1 = some E' from hb)
      refine yg_tup2 b.calm b.nd (by rw [b.n]; exact h1) (by rw [b.n]; exact h2) (by rw [b.sc]; exact hl1) (by rw [b.sc]; exact hl2) (SqT.of (cf.ex _ _ hp)) (k _ _ re2 (by simp) (fun i hi => ?_) cf2)
      rw [List.getElem?_set_ne (show j2 ≠ i from fun e => hi (e ▸ hm2)), List.getElem?_set_ne (show j1 ≠ i from fun e => hi (e ▸ hm1))]
  · cases hb⟩
theorem tgb_tup3 (b : Bd X N sc kb) (h1 : N[j1]? = some x1) (h2 : N[j2]? = some x2) (h3 : N[j3]? = some x3) (hl1 : (relS s sc).names.lookup x1 = some .local) (hl2 : (relS s sc).names.lookup x2 = some .local) (hl3 : (relS s sc).names.lookup x3 = some .local) (hm1 : j1 ∈ vs) (hm2 : j2 ∈ vs) (hm3 : j3 ∈ vs) : TgB X s vs (.Tuple [.Name x1 p1, .Name x2 p2, .Name x3 p3] kk p4) (bT3 (bN j1) (bN j2) (bN j3)) := ⟨fun d v E E' σ B l fr H Qs r re cf hb k => by
  unfold bT3 at hb
  split at hb
  · rename_i a c d'
    obtain ⟨p, us, rfl, hp, v1, vs', f1, f2, rfl, hf, r1, v2, vs'', f3, f4, rfl, hf2, r2, v3, vs3, f5, f6, rfl, hf3, r3, rfl, _⟩ := r
    have hf := hf.symm
    rw [List.append_eq_nil_iff] at hf
    obtain ⟨rfl, rfl⟩ := hf
    have hf2 := hf2.symm
    rw [List.append_eq_nil_iff] at hf2
    obtain ⟨rfl, rfl⟩ := hf2
    have hf3 := hf3.symm
    rw [List.append_eq_nil_iff] at hf3
    obtain ⟨rfl, rfl⟩ := hf3
    cases hb1 : bN j1 a E with
    | none => rw [hb1] at hb; cases hb
    | some E1 =>
      rw [hb1] at hb
      have hb : (bN j2 c E1).bind (bN j3 d') = some E' := hb
      cases hb2 : bN j2 c E1 with
      | none => rw [hb2] at hb; cases hb
      | some E2 =>
        rw [hb2] at hb
        obtain ⟨l1, re1, cf1⟩ := bN_ok r1 re cf hb1
        obtain ⟨l2, re2, cf2⟩ := bN_ok r2 re1 cf1 hb2
        obtain ⟨l3, re3, cf3⟩ := bN_ok r3 re2 cf2 (show bN j3 d' E2 = some E' from hb)
        refine yg_tup3 b.calm b.nd (by rw [b.n]; exact h1) (by rw [b.n]; exact h2) (by rw [b.n]; exact h3) (by rw [b.sc]; exact hl1) (by rw [b.sc]; exact hl2) (by rw [b.sc]; exact hl3) (SqT.of (cf.ex _ _ hp)) (k _ _ re3 (by simp) (fun i hi => ?_) cf3)
        rw [List.getElem?_set_ne (show j3 ≠ i from fun e => hi (e ▸ hm3)), List.getElem?_set_ne (show j2 ≠ i from fun e => hi (e ▸ hm2)), List.getElem?_set_ne (show j1 ≠ i from fun e => hi (e ▸ hm1))]
  · cases hb⟩
/-- the turns of a comprehension; acc: what is made so far -/
def lcD (vs : List Nat) (bind : D → Env → Option Env) (ft : Env → R Bool) (fe : Env → R D) : List D → Env → List D → R (List D)
  | [], E, acc => .ok acc E
  | d :: ds, E, acc => match bind d E with
    | some E1 => match ft E1 with
      | .ok true E2 => match fe E2 with
        | .ok r E3 => if acc.length < 100000 then lcD vs bind ft fe ds (wipeE E3 vs) (acc ++ [r]) else .bad
        | _ => .bad
      | .ok false E2 => lcD vs bind ft fe ds (wipeE E2 vs) acc
      | _ => .bad
    | none => .bad
def tYesD : Env → R Bool := fun E => .ok true E
def lcR (vs : List Nat) (src : Env → R (List D)) (bind : D → Env → Option Env) (ft : Env → R Bool) (fe : Env → R D) : Env → R D := fun E => (src E).bind fun items E1 => (lcD vs bind ft fe items (wipeE E1 vs) []).bind fun acc E2 => .ok (.lst true acc) E2
/-- what holds between two turns -/
def LcInv (X : Cx) (W : WX) (σ : L2.St) (fr : List Ob) (B : Hp) (vs : List Nat) (bind : D → Env → Option Env) (ft : Env → R Bool) (fe : Env → R D) (items : List D) (Q : VK) (D0 : Addr) (i : Nat) (H : Hp) : Prop :=
  ∃ E0 B' l' accD acc fa, Ex B B' ∧ RelEnv X.K B' (wipeE E0 vs) (wipe σ vs) l' ∧ RepL X.K B' accD acc fa ∧ Cfg B' ([(D0, .lst acc)] ++ fa ++ (l' ++ fr)) H ∧
    After X.K σ fr B' W (Rep X.K) ((lcD vs bind ft fe (items.drop i) (wipeE E0 vs) accD).bind fun acc E2 => .ok (.lst true acc) E2) Q
theorem lc_all {J : It} {items : List D} {n : Nat} {G : Hp → Prop} {Y : Nat → Hp → V → Hp → Prop} {E1 : Env} {σ : L2.St} {B : Hp} {l fr : List Ob} {H1 : Hp} {Q : VK} (tb : TgB X s vs tg bind) (he : ∀ X', Blk X s X' → EvR X' W0 elt fe) (hc : ∀ X', Blk X s X' → EvT X' W0 c ft)
    (gv : GivesD X.K B J items n G Y) (re : RelEnv X.K B E1 σ l) (cf : Cfg B (l ++ fr) H1) (af : After X.K σ fr B W (Rep X.K) ((lcD vs bind ft fe items (wipeE E1 vs) []).bind fun acc E2 => .ok (.lst true acc) E2) Q) : LcAll G Y n (LcTurnC X s tg c elt vs σ Y n) Q J H1 := by
  refine ⟨gv.w, fun D0 hD => ⟨LcInv X W σ fr B vs bind ft fe items Q D0, ?_, fun i H _ p => ?_, fun i x H' H2 hi p hy => ?_, fun H' p => ?_⟩⟩
  · obtain ⟨l', g, re', pm⟩ := rel_wipe (vs := vs) re
    refine ⟨E1, B, l', [], [], [], Ex.refl _, re', ⟨rfl, rfl⟩, ?_, af⟩
    have c2 : Cfg B ([(D0, .lst [])] ++ (l ++ fr)) (upd H1 D0 (.lst [])) := Cfg.new' cf hD
    refine Cfg.dropL (a := g) (Cfg.perm c2 ?_)
    refine List.perm_iff_count.mpr fun a => ?_
    have := List.perm_iff_count.mp pm a
    simp only [List.count_append, List.count_nil] at this ⊢
    omega
  · obtain ⟨E0, B', l', accD, acc, fa, x, _, _, c', _⟩ := p
    exact gv.g H (x.trans c'.ex)
  · obtain ⟨E0, B', l', accD, acc, fa, x', re', ra, c', a'⟩ := p
    obtain ⟨d, B2, hd, x2, c2, rd⟩ := gv.y i x H' H2 B' _ hi hy x' c'
    have hdrop : items.drop i = d :: items.drop (i + 1) := by
      obtain ⟨hh, rfl⟩ := List.getElem?_eq_some_iff.mp hd
      exact List.drop_eq_getElem_cons hh
    rw [hdrop] at a'
    unfold lcD at a'
    cases hbd : bind d (wipeE E0 vs) with
    | none => rw [hbd] at a'; exact a'.elim
    | some E2 =>
      rw [hbd] at a'
      dsimp only at a'
      refine tb.run d x _ E2 (wipe σ vs) B2 l' ([(D0, .lst acc)] ++ fa ++ fr) H2 _ rd (re'.mono x2) (Cfg.perm c2 (by walk_at "perm")) hbd fun σ3 l3 re3 hl3 hn3 c3 => ⟨(wipe_eq (hl3.trans (by rw [wipe_length])) fun i hi => by rw [hn3 i hi, wipe_get, if_neg (fun z => hi z.1)]).trans rfl, fun X' bl => ?_⟩
      have hw3 : wipe σ3 vs = wipe σ vs := wipe_eq (hl3.trans (by rw [wipe_length])) fun i hi => by rw [hn3 i hi, wipe_get, if_neg (fun z => hi z.1)]
      have hK : X'.K = X.K := bl.K.1
      have a2 := After.up x2 a'
      refine (hc X' bl).run E2 σ3 B2 l3 ([(D0, .lst acc)] ++ fa ++ fr) H2 _ (by rw [hK]; exact re3) c3 ?_
      rw [hK]
      cases hft : ft E2 with
      | exc c' ns ds E3 => rw [hft] at a2; exact a2.elim
      | bad => rw [hft] at a2; exact a2.elim
      | ok b E3 =>
        rw [hft] at a2
        intro v B3 l4 fp H3 x3 re4 rv c4
        obtain ⟨rfl, rfl⟩ := rv
        cases v with
        | false =>
          rw [if_neg (by decide)]
          obtain ⟨l5, g, re5, pm⟩ := rel_wipe (vs := vs) re4
          rw [hw3] at re5
          refine ⟨E3, B3, l5, accD, acc, fa, (x'.trans x2).trans x3, re5, (ra.mono x2).mono x3, Cfg.dropL (a := g) (Cfg.perm c4 ?_), After.up x3 a2⟩
          refine List.perm_iff_count.mpr fun a => ?_
          have := List.perm_iff_count.mp pm a
          simp only [List.count_append, List.count_nil] at this ⊢
          omega
        | true =>
          rw [if_pos rfl]
          intro X'' bl2
          have hK2 : X''.K = X.K := bl2.K.1
          have a3 := After.up x3 a2
          refine (he X'' bl2).run E3 σ3 B3 l4 ([(D0, .lst acc)] ++ fa ++ fr) H3 _ (by rw [hK2]; exact re4) (Cfg.perm c4 (by walk_at "perm")) ?_
          rw [hK2]
          dsimp only at a3
          cases hfe : fe E3 with
          | exc c' ns ds E4 => rw [hfe] at a3; exact a3.elim
          | bad => rw [hfe] at a3; exact a3.elim
          | ok r E4 =>
            rw [hfe] at a3
            intro y B4 l5 fp H4 x4 re5 rr c5
            dsimp only at a3
            by_cases hz : accD.length < 100000
            · rw [if_pos hz] at a3
              have hH4 : H4 D0 = some (.lst acc) := c5.own _ _ (by simp)
              refine ⟨acc, hH4, sz_lt (by rw [← ra.len]; exact hz), ?_⟩
              obtain ⟨l6, g, re6, pm⟩ := rel_wipe (vs := vs) re5
              rw [hw3] at re6
              have ra4 : RepL X.K B4 (accD ++ [r]) (acc ++ [y]) (fa ++ fp) := ((((ra.mono x2).mono x3).mono x4).snoc rr)
              refine ⟨E4, B4, l6, _, _, fa ++ fp, ((x'.trans x2).trans x3).trans x4, re6, ra4, ?_, After.up x4 a3⟩
              have c6 : Cfg B4 ((D0, .lst acc) :: (fp ++ (l5 ++ (fa ++ fr)))) H4 := Cfg.perm c5 (by
                refine List.perm_iff_count.mpr fun a => ?_
                simp only [List.count_append, List.count_cons, List.count_nil]
                omega)
              have c7 := c6.put (o' := .lst (acc ++ [y])) List.mem_cons_self
              unfold QW.put at c7
              rw [if_pos rfl] at c7
              refine Cfg.dropL (a := g) (Cfg.perm c7 ?_)
              refine List.perm_iff_count.mpr fun a => ?_
              have := List.perm_iff_count.mp pm a
              simp only [List.count_append, List.count_cons, List.count_nil] at this ⊢
              omega
            · rw [if_neg hz] at a3; exact a3.elim
  · obtain ⟨E0, B', l', accD, acc, fa, x', re', ra, c', a'⟩ := p
    rw [gv.len, List.drop_length] at a'
    exact a' _ B' l' ([(D0, .lst acc)] ++ fa) H' (Ex.refl _) (rel_unwipe re') ⟨D0, acc, rfl, fa, rfl, ra⟩ c'
theorem lc_allN {J : It} {items : List D} {n : Nat} {G : Hp → Prop} {Y : Nat → Hp → V → Hp → Prop} {E1 : Env} {σ : L2.St} {B : Hp} {l fr : List Ob} {H1 : Hp} {Q : VK} (tb : TgB X s vs tg bind) (he : ∀ X', Blk X s X' → EvR X' W0 elt fe)
    (gv : GivesD X.K B J items n G Y) (re : RelEnv X.K B E1 σ l) (cf : Cfg B (l ++ fr) H1) (af : After X.K σ fr B W (Rep X.K) ((lcD vs bind tYesD fe items (wipeE E1 vs) []).bind fun acc E2 => .ok (.lst true acc) E2) Q) : LcAll G Y n (LcTurn X s tg elt vs σ Y n) Q J H1 := by
  refine ⟨gv.w, fun D0 hD => ⟨LcInv X W σ fr B vs bind tYesD fe items Q D0, ?_, fun i H _ p => ?_, fun i x H' H2 hi p hy => ?_, fun H' p => ?_⟩⟩
  · obtain ⟨l', g, re', pm⟩ := rel_wipe (vs := vs) re
    refine ⟨E1, B, l', [], [], [], Ex.refl _, re', ⟨rfl, rfl⟩, ?_, af⟩
    have c2 : Cfg B ([(D0, .lst [])] ++ (l ++ fr)) (upd H1 D0 (.lst [])) := Cfg.new' cf hD
    refine Cfg.dropL (a := g) (Cfg.perm c2 ?_)
    refine List.perm_iff_count.mpr fun a => ?_
    have := List.perm_iff_count.mp pm a
    simp only [List.count_append, List.count_nil] at this ⊢
    omega
  · obtain ⟨E0, B', l', accD, acc, fa, x, _, _, c', _⟩ := p
    exact gv.g H (x.trans c'.ex)
  · obtain ⟨E0, B', l', accD, acc, fa, x', re', ra, c', a'⟩ := p
    obtain ⟨d, B2, hd, x2, c2, rd⟩ := gv.y i x H' H2 B' _ hi hy x' c'
    have hdrop : items.drop i = d :: items.drop (i + 1) := by
      obtain ⟨hh, rfl⟩ := List.getElem?_eq_some_iff.mp hd
      exact List.drop_eq_getElem_cons hh
    rw [hdrop] at a'
    unfold lcD at a'
    cases hbd : bind d (wipeE E0 vs) with
    | none => rw [hbd] at a'; exact a'.elim
    | some E2 =>
      rw [hbd] at a'
      dsimp only at a'
      refine tb.run d x _ E2 (wipe σ vs) B2 l' ([(D0, .lst acc)] ++ fa ++ fr) H2 _ rd (re'.mono x2) (Cfg.perm c2 (by walk_at "perm")) hbd fun σ3 l3 re3 hl3 hn3 c3 => ⟨(wipe_eq (hl3.trans (by rw [wipe_length])) fun i hi => by rw [hn3 i hi, wipe_get, if_neg (fun z => hi z.1)]).trans rfl, fun X' bl => ?_⟩
      have hw3 : wipe σ3 vs = wipe σ vs := wipe_eq (hl3.trans (by rw [wipe_length])) fun i hi => by rw [hn3 i hi, wipe_get, if_neg (fun z => hi z.1)]
      have a3 := After.up x2 a'
      have hK2 : X'.K = X.K := bl.K.1
      refine (he X' bl).run E2 σ3 B2 l3 ([(D0, .lst acc)] ++ fa ++ fr) H2 _ (by rw [hK2]; exact re3) c3 ?_
      rw [hK2]
      unfold tYesD at a3
      dsimp only at a3
      cases hfe : fe E2 with
      | exc c' ns ds E4 => rw [hfe] at a3; exact a3.elim
      | bad => rw [hfe] at a3; exact a3.elim
      | ok r E4 =>
        rw [hfe] at a3
        intro y B4 l5 fp H4 x4 re5 rr c5
        dsimp only at a3
        by_cases hz : accD.length < 100000
        · rw [if_pos hz] at a3
          have hH4 : H4 D0 = some (.lst acc) := c5.own _ _ (by simp)
          refine ⟨acc, hH4, sz_lt (by rw [← ra.len]; exact hz), ?_⟩
          obtain ⟨l6, g, re6, pm⟩ := rel_wipe (vs := vs) re5
          rw [hw3] at re6
          have ra4 : RepL X.K B4 (accD ++ [r]) (acc ++ [y]) (fa ++ fp) := (((ra.mono x2).mono x4).snoc rr)
          refine ⟨E4, B4, l6, _, _, fa ++ fp, (x'.trans x2).trans x4, re6, ra4, ?_, After.up x4 a3⟩
          have c6 : Cfg B4 ((D0, .lst acc) :: (fp ++ (l5 ++ (fa ++ fr)))) H4 := Cfg.perm c5 (by
            refine List.perm_iff_count.mpr fun a => ?_
            simp only [List.count_append, List.count_cons, List.count_nil]
            omega)
          have c7 := c6.put (o' := .lst (acc ++ [y])) List.mem_cons_self
          unfold QW.put at c7
          rw [if_pos rfl] at c7
          refine Cfg.dropL (a := g) (Cfg.perm c7 ?_)
          refine List.perm_iff_count.mpr fun a => ?_
          have := List.perm_iff_count.mp pm a
          simp only [List.count_append, List.count_cons, List.count_nil] at this ⊢
          omega
        · rw [if_neg hz] at a3; exact a3.elim
  · obtain ⟨E0, B', l', accD, acc, fa, x', re', ra, c', a'⟩ := p
    rw [gv.len, List.drop_length] at a'
    exact a' _ B' l' ([(D0, .lst acc)] ++ fa) H' (Ex.refl _) (rel_unwipe re') ⟨D0, acc, rfl, fa, rfl, ra⟩ c'
/-- [elt for tg in it], [elt for tg in it if c] -/
theorem evr_lcC (b : Bd X N sc kb) (own : List (Str × Nat)) (ok : BlkOk N sc s own) (hi : EvI X W tg it src) (tb : TgB X s (own.map (·.2)) tg bind) (he : ∀ X', Blk X s X' → EvR X' W0 elt fe) (hc : ∀ X', Blk X s X' → EvT X' W0 c ft) (hs : ∀ x, foldedSetIterable it X.env x = pure x := by intro _; rfl) :
    EvR X W (.ListComp elt [⟨tg, it, [c], 0⟩] s pos) (lcR (own.map (·.2)) src bind ft fe) := ⟨fun E σ B l fr H Q re cf af =>
  w_lcEC b own ok (hi.run E σ B l fr H _ re cf (After.first (β := V) (δ := It) af fun items E1 J B1 l1 fp1 H1 _ x1 re1 rv1 cf1 af1 => by
    obtain ⟨rfl, n, G, Y, gv⟩ := rv1
    exact ⟨G, Y, n, lc_all tb he hc gv re1 cf1 af1⟩)) hs⟩
theorem evr_lc (b : Bd X N sc kb) (own : List (Str × Nat)) (ok : BlkOk N sc s own) (hi : EvI X W tg it src) (tb : TgB X s (own.map (·.2)) tg bind) (he : ∀ X', Blk X s X' → EvR X' W0 elt fe) (hs : ∀ x, foldedSetIterable it X.env x = pure x := by intro _; rfl) :
    EvR X W (.ListComp elt [⟨tg, it, [], 0⟩] s pos) (lcR (own.map (·.2)) src bind tYesD fe) := ⟨fun E σ B l fr H Q re cf af =>
  w_lcE b own ok (hi.run E σ B l fr H _ re cf (After.first (β := V) (δ := It) af fun items E1 J B1 l1 fp1 H1 _ x1 re1 rv1 cf1 af1 => by
    obtain ⟨rfl, n, G, Y, gv⟩ := rv1
    exact ⟨G, Y, n, lc_allN tb he gv re1 cf1 af1⟩)) hs⟩
/-- y = [..] -/
theorem exs_lc (b : Bd X N sc kb) (own : List (Str × Nat)) (o : Own X i y) (hyS : i ∉ S) (hyl : sc.names.lookup y = some .local) (hsw : swapsWith (.ListComp elt [⟨tg, it, [], 0⟩] s pos) (some (.Name y py)) spos.line X.env = pure true) (ok : BlkOk N sc s own) (hi : EvI X W tg it src) (tb : TgB X s (own.map (·.2)) tg bind) (he : ∀ X', Blk X s X' → EvR X' W0 elt fe)
    (hF : ExS X W S rest F) (hs : ∀ x, foldedSetIterable it X.env x = pure x := by intro _; rfl) : ExS X W S (.Assign [.Name y py] (.ListComp elt [⟨tg, it, [], 0⟩] s pos) spos :: rest) (sSet i (lcR (own.map (·.2)) src bind tYesD fe) F) := ⟨fun E σ B l fr H N0 re cf af => wSs_len fun hlen =>
  s_lcE b own o hyl hsw ok (hi.run E σ B l fr H _ re cf (After.first (VR := Rep X.K) (β := V) (δ := It) (Q := fun v H1 => wSs X rest N0 (σ.set i (some v)) H1) (AfterS.expr (β := V) af fun d E1 v B1 l1 fp H1 _ x1 re1 rv1 cf1 af1 => by
      obtain ⟨f1, f0, f2, rfl, hp⟩ := re1.put (by rw [re1.len, hlen]; exact (List.getElem?_eq_some_iff.mp o.s.n).1)
      exact hF.run _ _ B1 (f1 ++ fp ++ f2) fr H1 N0 (hp B1 d v fp (Ex.refl _) rv1) (Cfg.dropL (a := f0) (Cfg.perm cf1 (by walk_at "perm"))) (AfterS.up (Ex.refl _) (Par.set hyS) af1)) fun items E1 J B1 l1 fp1 H1 _ x1 re1 rv1 cf1 af1 => by
    obtain ⟨rfl, n, G, Y, gv⟩ := rv1
    exact ⟨G, Y, n, lc_allN tb he gv re1 cf1 af1⟩)) hs⟩
theorem s_lcEC {D : Ends} {σ : L2.St} {H : Hp} (b : Bd X N sc kb) (own : List (Str × Nat)) (o : Own X i y) (hyl : sc.names.lookup y = some .local) (hsw : swapsWith (.ListComp elt [⟨tg, it, [c], 0⟩] s pos) (some (.Name y py)) spos.line X.env = pure true) (ok : BlkOk N sc s own)
    (h : wI X tg it σ H (LcWC X s tg c elt (own.map (·.2)) σ fun v H1 => wSs X rest D (σ.set i (some v)) H1)) (hs : ∀ x, foldedSetIterable it X.env x = pure x := by intro _; rfl) :
    wSs X (.Assign [.Name y py] (.ListComp elt [⟨tg, it, [c], 0⟩] s pos) spos :: rest) D σ H := s_of (ps_setLc b.calm o.nd o.s.n (by rw [b.sc]; exact hyl) hsw pI (blkOk b ok) yG_pg (fun s H C cl fp => pts_one (yT_pt s H C cl fp)) yE_pe hs) (tLc_ofEC h)
theorem exs_lcC (b : Bd X N sc kb) (own : List (Str × Nat)) (o : Own X i y) (hyS : i ∉ S) (hyl : sc.names.lookup y = some .local) (hsw : swapsWith (.ListComp elt [⟨tg, it, [c], 0⟩] s pos) (some (.Name y py)) spos.line X.env = pure true) (ok : BlkOk N sc s own) (hi : EvI X W tg it src) (tb : TgB X s (own.map (·.2)) tg bind) (he : ∀ X', Blk X s X' → EvR X' W0 elt fe) (hc : ∀ X', Blk X s X' → EvT X' W0 c ft)
    (hF : ExS X W S rest F) (hs : ∀ x, foldedSetIterable it X.env x = pure x := by intro _; rfl) : ExS X W S (.Assign [.Name y py] (.ListComp elt [⟨tg, it, [c], 0⟩] s pos) spos :: rest) (sSet i (lcR (own.map (·.2)) src bind ft fe) F) := ⟨fun E σ B l fr H N0 re cf af => wSs_len fun hlen =>
  s_lcEC b own o hyl hsw ok (hi.run E σ B l fr H _ re cf (After.first (VR := Rep X.K) (β := V) (δ := It) (Q := fun v H1 => wSs X rest N0 (σ.set i (some v)) H1) (AfterS.expr (β := V) af fun d E1 v B1 l1 fp H1 _ x1 re1 rv1 cf1 af1 => by
      obtain ⟨f1, f0, f2, rfl, hp⟩ := re1.put (by rw [re1.len, hlen]; exact (List.getElem?_eq_some_iff.mp o.s.n).1)
      exact hF.run _ _ B1 (f1 ++ fp ++ f2) fr H1 N0 (hp B1 d v fp (Ex.refl _) rv1) (Cfg.dropL (a := f0) (Cfg.perm cf1 (by walk_at "perm"))) (AfterS.up (Ex.refl _) (Par.set hyS) af1)) fun items E1 J B1 l1 fp1 H1 _ x1 re1 rv1 cf1 af1 => by
    obtain ⟨rfl, n, G, Y, gv⟩ := rv1
    exact ⟨G, Y, n, lc_all tb he hc gv re1 cf1 af1⟩)) hs⟩
end
end DW
/-! DW12: enumerate, zip; in; methods; stores. -/
namespace DW
open PySem L2 Evl QW
open PySem.Spec PyProof.Rows
local macro_rules | `(tactic| walk_at "perm") => `(tactic| (refine List.perm_iff_count.mpr fun _ => ?_; simp only [List.count_append, List.count_nil]; omega))
/-! ### enumerate, zip -/
/-- what an operand is as a source -/
def srcD : D → Option (List D)
  | .lst _ xs => if noOwnL xs = true then some xs else none
  | .tup xs => if noOwnL xs = true then some xs else none
  | .str z => some (z.cps.toList.map fun c => .str ⟨#[c]⟩)
  | .scr ns => some (ns.map .int)
  | .ktp ns => some (ns.map .int)
  | _ => none
theorem RepL.signs {K : PySem.W.Frag} {B : Hp} : ∀ cs : List Nat, RepL K B (cs.map fun c => .str ⟨#[c]⟩) (cs.map fun c => V.str ⟨#[c]⟩) []
  | [] => ⟨rfl, rfl⟩
  | c :: cs => ⟨_, _, [], [], rfl, rfl, ⟨rfl, rfl⟩, RepL.signs cs⟩
/-- frozen: a source that stands -/
theorem src_ok {K : PySem.W.Frag} {B H : Hp} {L : List Ob} {v : V} {d : D} {xs : List D} (r : Rep K B (frz d) v []) (c : Cfg B L H) (e : srcD (frz d) = some xs) : ∃ S : Src, v = S.v ∧ S.Ok K H ∧ (∀ H', Ex B H' → S.Ok K H') ∧ RepL K B xs S.items [] := by
  generalize frz d = d' at r e
  unfold srcD at e
  split at e
  · split at e
    · rename_i o ys hn
      cases e
      obtain ⟨p, vs, g, rfl, h1, h2, _, h3⟩ := r.isL c (by simp)
      cases o with
      | true => have := h3 rfl; simp at this
      | false =>
        obtain ⟨p', vs', e, h4, h5, _⟩ := r
        cases e
        exact ⟨.l p vs', rfl, SqL.of (c.ex _ _ h4), fun H' x => SqL.of (x _ _ h4), h5⟩
    · cases e
  · split at e
    · cases e
      obtain ⟨p, vs, rfl, h1, h3, h2⟩ := r.isT c
      exact ⟨.t p vs, rfl, h1, fun H' x => SqT.of (x _ _ h3), h2⟩
    · cases e
  · cases e
    obtain ⟨rfl, _⟩ := r
    exact ⟨.s _, rfl, trivial, fun _ _ => trivial, RepL.signs _⟩
  · cases e
    obtain ⟨_, p, rfl, hq⟩ := r
    exact ⟨.l p _, rfl, exL c.ex hq, fun H' x => exL x hq, RepL.intsOf _⟩
  · cases e
    obtain ⟨_, p, rfl, hq⟩ := r
    exact ⟨.t p _, rfl, exT c.ex hq, fun H' x => exT x hq, RepL.intsOf _⟩
  · cases e
def pairsE : Nat → List D → List D
  | _, [] => []
  | i, d :: ds => .tup [.int (i : Nat), d] :: pairsE (i + 1) ds
theorem pairsE_get : ∀ (ds : List D) (i j : Nat), (pairsE i ds)[j]? = (ds[j]?).map fun d => .tup [.int ((i + j : Nat) : Int), d]
  | [], i, j => by simp [pairsE]
  | d :: ds, i, 0 => by simp [pairsE]
  | d :: ds, i, j + 1 => by
    unfold pairsE
    rw [List.getElem?_cons_succ, pairsE_get ds (i + 1) j, List.getElem?_cons_succ, show i + 1 + j = i + (j + 1) by omega]
theorem pairsE_len : ∀ (ds : List D) (i : Nat), (pairsE i ds).length = ds.length
  | [], i => rfl
  | d :: ds, i => by unfold pairsE; rw [List.length_cons, List.length_cons, pairsE_len ds]
def zip2D : List D → List D → List D
  | a :: as, b :: bs => .tup [a, b] :: zip2D as bs
  | _, _ => []
def zip3D : List D → List D → List D → List D
  | a :: as, b :: bs, c :: cs => .tup [a, b, c] :: zip3D as bs cs
  | _, _, _ => []
theorem zip2D_get : ∀ (as bs : List D) (i : Nat) (a b : D), as[i]? = some a → bs[i]? = some b → (zip2D as bs)[i]? = some (.tup [a, b])
  | a :: as, b :: bs, 0, _, _, h1, h2 => by simp at h1 h2; subst h1 h2; rfl
  | a :: as, b :: bs, i + 1, _, _, h1, h2 => by unfold zip2D; simpa using zip2D_get as bs i _ _ (by simpa using h1) (by simpa using h2)
  | [], _, _, _, _, h1, _ => by simp at h1
  | _ :: _, [], _, _, _, _, h2 => by simp at h2
theorem zip3D_get : ∀ (as bs cs : List D) (i : Nat) (a b c : D), as[i]? = some a → bs[i]? = some b → cs[i]? = some c → (zip3D as bs cs)[i]? = some (.tup [a, b, c])
  | a :: as, b :: bs, c :: cs, 0, _, _, _, h1, h2, h3 => by simp at h1 h2 h3; subst h1 h2 h3; rfl
  | a :: as, b :: bs, c :: cs, i + 1, _, _, _, h1, h2, h3 => by unfold zip3D; simpa using zip3D_get as bs cs i _ _ _ (by simpa using h1) (by simpa using h2) (by simpa using h3)
  | [], _, _, _, _, _, _, h1, _, _ => by simp at h1
  | _ :: _, [], _, _, _, _, _, _, h2, _ => by simp at h2
  | _ :: _, _ :: _, [], _, _, _, _, _, _, h3 => by simp at h3
theorem zip2D_len : ∀ (as bs : List D), (zip2D as bs).length = min as.length bs.length
  | a :: as, b :: bs => by unfold zip2D; simp [zip2D_len as bs] <;> omega
  | [], _ => by simp [zip2D]
  | _ :: _, [] => by simp [zip2D]
theorem zip3D_len : ∀ (as bs cs : List D), (zip3D as bs cs).length = min (min as.length bs.length) cs.length
  | a :: as, b :: bs, c :: cs => by unfold zip3D; simp [zip3D_len as bs cs] <;> omega
  | [], _, _ => by simp [zip3D]
  | _ :: _, [], _ => by simp [zip3D]
  | _ :: _, _ :: _, [] => by simp [zip3D]
/-- rows of new tuples -/
theorem gives_N {K : PySem.W.Frag} {B : Hp} {n : Nat} {items : List D} {row : Nat → List V → Prop} {G : Hp → Prop} (hl : n = items.length) (hg : ∀ H, Ex B H → G H) (hr : ∀ i ys, i < n → row i ys → ∃ ds, items[i]? = some (.tup ds) ∧ RepL K B ds ys []) :
    GivesD K B (ItN G n row) items n G (fun i H v H' => ∃ T xs, v = .ref T ∧ H T = none ∧ H' = upd H T (.tup xs) ∧ row i xs) :=
  ⟨walk_N, hl, hg, fun i x H H2 B' L hi y e c => by
    obtain ⟨T, ys, rfl, hT, rfl, hrow⟩ := y
    obtain ⟨ds, h1, h2⟩ := hr i ys hi hrow
    obtain ⟨B2, x2, c2, hb⟩ := Cfg.seen (o := .tup ys) c hT
    exact ⟨_, B2, h1, x2, c2, T, ys, rfl, hb, (h2.mono e).mono x2⟩⟩
section
variable {X : Cx} {W : WX} {S : List Nat} {e e1 e2 e3 c tg it : Expr} {es elts : List Expr} {f f1 f2 : Env → R D} {g g1 g2 g3 : Env → R Opd} {a : Env → R (List Opd)} {pos pos' p' tpos p1 p2 p3 : Pos} {kk : Nat}
def enumI (g : Env → R Opd) : Env → R (List D) := fun E => (aC g aN E).bind fun os E1 => match os with
  | [.tmp d] => match srcD (frz d) with
    | some xs => .ok (pairsE 0 xs) E1
    | none => .bad
  | _ => .bad
theorem evi_enum (hg : Gl X "enumerate") (hm : X.mg "enumerate" = none) (h : EvR X W e f) (hs : starEach [e] X.env = [(false, eval e X.env)] := by rfl) : EvI X W (.Tuple elts kk tpos) (.Call (.Name "enumerate" p') [e] [] pos) (enumI (oR f)) := ⟨fun E σ B l fr H Q re cf af =>
  i_enumW hg hm ((eva_cons h.o eva_nil hs).run E σ B l fr H _ re cf (After.first (β := It) (δ := List V) af fun os E1 vs B1 l1 fp1 H1 _ x1 re1 rv1 cf1 af1 => by
    split at af1
    · rename_i d _
      obtain ⟨v, rfl, r⟩ := ops1 rv1
      obtain ⟨B2, x2, c2, st⟩ := Cfg.keepL (a := fp1) cf1
      have r2 := Rep.frz x2 r st
      cases he : srcD (frz d) with
      | none => rw [he] at af1; exact af1.elim
      | some xs =>
        rw [he] at af1
        obtain ⟨S, hv, ok, ok', rl⟩ := src_ok r2 c2 he
        refine ⟨S, by rw [hv], ok, af1 _ B2 l1 [] H1 x2 (re1.mono x2) ⟨rfl, _, _, _, gives_N (by rw [pairsE_len, rl.len]) ok' fun i ys hi hrow => ?_⟩ c2⟩
        obtain ⟨x, hx, rfl⟩ := hrow
        obtain ⟨d', h1, h2⟩ := rl.nthV hx
        exact ⟨[.int (i : Nat), d'], by rw [pairsE_get, h1]; simp, _, _, [], [], rfl, rfl, ⟨rfl, rfl⟩, _, _, [], [], rfl, rfl, h2, rfl, rfl⟩
    · exact af1.elim)) hs⟩
def zipI2 (g1 g2 : Env → R Opd) : Env → R (List D) := fun E => (aC g1 (aC g2 aN) E).bind fun os E1 => match os with
  | [.tmp d1, .tmp d2] => match srcD (frz d1), srcD (frz d2) with
    | some xs, some ys => .ok (zip2D xs ys) E1
    | _, _ => .bad
  | _ => .bad
theorem evi_zip2 (hg : Gl X "zip") (hm : X.mg "zip" = none) (h1 : EvR X W e1 f1) (h2 : EvR X W e2 f2) (hs : starEach [e1, e2] X.env = (false, eval e1 X.env) :: starEach [e2] X.env := by rfl) (hs2 : starEach [e2] X.env = (false, eval e2 X.env) :: starEach [] X.env := by rfl) (hpl : (backTo pos (starEach [e2] X.env)).any (·.1) = false := by rfl) : EvI X W (.Tuple elts kk tpos) (.Call (.Name "zip" p') [e1, e2] [] pos) (zipI2 (oR f1) (oR f2)) := ⟨fun E σ B l fr H Q re cf af =>
  i_zipW hg hm ((eva_cons h1.o (eva_cons h2.o eva_nil hs2) hs).run E σ B l fr H _ re cf (After.first (β := It) (δ := List V) af fun os E1 vs B1 l1 fp1 H1 _ x1 re1 rv1 cf1 af1 => by
    split at af1
    · rename_i d1 d2 _
      obtain ⟨v, u, ff, gg, rfl, rfl, r, r'⟩ := ops2 rv1
      obtain ⟨B2, x2, c2, st⟩ := Cfg.keepL (a := ff ++ gg) cf1
      have q1 := Rep.frz x2 r fun p o m => st p o (List.mem_append_left _ m)
      have q2 := Rep.frz x2 r' fun p o m => st p o (List.mem_append_right _ m)
      cases he1 : srcD (frz d1) with
      | none => rw [he1] at af1; exact af1.elim
      | some xs =>
        cases he2 : srcD (frz d2) with
        | none => rw [he1, he2] at af1; exact af1.elim
        | some ys =>
          rw [he1, he2] at af1
          obtain ⟨S1, hv1, ok1, ok1', rl1⟩ := src_ok q1 c2 he1
          obtain ⟨S2, hv2, ok2, ok2', rl2⟩ := src_ok q2 c2 he2
          refine ⟨S1, S2, by rw [hv1, hv2], ok1, ok2, af1 _ B2 l1 [] H1 x2 (re1.mono x2) ⟨rfl, _, _, _, gives_N (by rw [zip2D_len, rl1.len, rl2.len]) (fun H x => ⟨ok1' H x, ok2' H x⟩) fun i ys hi hrow => ?_⟩ c2⟩
          obtain ⟨x, y, hx, hy, rfl⟩ := hrow
          obtain ⟨a1, k1, k2⟩ := rl1.nthV hx
          obtain ⟨b1, k3, k4⟩ := rl2.nthV hy
          exact ⟨[a1, b1], zip2D_get _ _ _ _ _ k1 k3, _, _, [], [], rfl, rfl, k2, _, _, [], [], rfl, rfl, k4, rfl, rfl⟩
    · exact af1.elim)) hs hpl⟩
def zipI3 (g1 g2 g3 : Env → R Opd) : Env → R (List D) := fun E => (aC g1 (aC g2 (aC g3 aN)) E).bind fun os E1 => match os with
  | [.tmp d1, .tmp d2, .tmp d3] => match srcD (frz d1), srcD (frz d2), srcD (frz d3) with
    | some xs, some ys, some zs => .ok (zip3D xs ys zs) E1
    | _, _, _ => .bad
  | _ => .bad
theorem evi_zip3 {f3 : Env → R D} (hg : Gl X "zip") (hm : X.mg "zip" = none) (h1 : EvR X W e1 f1) (h2 : EvR X W e2 f2) (h3 : EvR X W e3 f3) (hs : starEach [e1, e2, e3] X.env = (false, eval e1 X.env) :: starEach [e2, e3] X.env := by rfl) (hs2 : starEach [e2, e3] X.env = (false, eval e2 X.env) :: starEach [e3] X.env := by rfl) (hs3 : starEach [e3] X.env = (false, eval e3 X.env) :: starEach [] X.env := by rfl) (hpl : (backTo pos (starEach [e2, e3] X.env)).any (·.1) = false := by rfl) : EvI X W (.Tuple elts kk tpos) (.Call (.Name "zip" p') [e1, e2, e3] [] pos) (zipI3 (oR f1) (oR f2) (oR f3)) := ⟨fun E σ B l fr H Q re cf af =>
  i_zip3W hg hm ((eva_cons h1.o (eva_cons h2.o (eva_cons h3.o eva_nil hs3) hs2) hs).run E σ B l fr H _ re cf (After.first (β := It) (δ := List V) af fun os E1 vs B1 l1 fp1 H1 _ x1 re1 rv1 cf1 af1 => by
    split at af1
    · rename_i d1 d2 d3 _
      obtain ⟨v, u, w, ff, gg, kk', rfl, rfl, r, r', r''⟩ := ops3 rv1
      obtain ⟨B2, x2, c2, st⟩ := Cfg.keepL (a := ff ++ (gg ++ kk')) cf1
      have q1 := Rep.frz x2 r fun p o m => st p o (List.mem_append_left _ m)
      have q2 := Rep.frz x2 r' fun p o m => st p o (List.mem_append_right _ (List.mem_append_left _ m))
      have q3 := Rep.frz x2 r'' fun p o m => st p o (List.mem_append_right _ (List.mem_append_right _ m))
      cases he1 : srcD (frz d1) with
      | none => rw [he1] at af1; exact af1.elim
      | some xs =>
        cases he2 : srcD (frz d2) with
        | none => rw [he1, he2] at af1; exact af1.elim
        | some ys =>
          cases he3 : srcD (frz d3) with
          | none => rw [he1, he2, he3] at af1; exact af1.elim
          | some zs =>
            rw [he1, he2, he3] at af1
            obtain ⟨S1, hv1, ok1, ok1', rl1⟩ := src_ok q1 c2 he1
            obtain ⟨S2, hv2, ok2, ok2', rl2⟩ := src_ok q2 c2 he2
            obtain ⟨S3, hv3, ok3, ok3', rl3⟩ := src_ok q3 c2 he3
            refine ⟨S1, S2, S3, by rw [hv1, hv2, hv3], ok1, ok2, ok3, af1 _ B2 l1 [] H1 x2 (re1.mono x2) ⟨rfl, _, _, _, gives_N (by rw [zip3D_len, rl1.len, rl2.len, rl3.len]) (fun H x => ⟨ok1' H x, ok2' H x, ok3' H x⟩) fun i ys hi hrow => ?_⟩ c2⟩
            obtain ⟨x, y, z, hx, hy, hz, rfl⟩ := hrow
            obtain ⟨a1, k1, k2⟩ := rl1.nthV hx
            obtain ⟨b1, k3, k4⟩ := rl2.nthV hy
            obtain ⟨c1, k5, k6⟩ := rl3.nthV hz
            exact ⟨[a1, b1, c1], zip3D_get _ _ _ _ _ _ _ k1 k3 k5, _, _, [], [], rfl, rfl, k2, _, _, [], [], rfl, rfl, k4, _, _, [], [], rfl, rfl, k6, rfl, rfl⟩
    · exact af1.elim)) hs hpl⟩
end
end DW
/-! DW13: in, slices, and/or as values, methods of a slot's list, stores. -/
namespace DW
open PySem L2 Evl QW
open PySem.Spec PyProof.Rows
local macro_rules | `(tactic| walk_at "perm") => `(tactic| (refine List.perm_iff_count.mpr fun _ => ?_; simp only [List.count_append, List.count_nil]; omega))
/-! ### in -/
def flD : D → Bool
  | .non => true
  | .bl _ => true
  | .int _ => true
  | .str _ => true
  | _ => false
def inB : D → D → Option Bool
  | d, .lst _ xs => if (dd 6 d && xs.all (dd 6)) = true then some (xs.any fun z => eqB z d) else none
  | d, .tup xs => if (flD d && xs.all flD) = true then some (xs.any fun z => eqB z d) else none
  | .str a, .str z => match a.cps.toList with
    | [k] => some (decide (k ∈ z.cps.toList))
    | _ => none
  | k, .dct _ ks vs => (keyD k).map fun k => (dlook ks vs k).isSome
  | .tup k, .dcT _ ks vs => (keysD k).map fun k => (dlook ks vs k).isSome
  | _, _ => none
def inD (d e : D) : Option D := (inB d e).map .bl
def ninD (d e : D) : Option D := (inB d e).map fun b => .bl (!b)
theorem any_toPL (d : D) {n : Nat} (h : dd n d = true) : ∀ {xs : List D} {m : Nat}, xs.all (dd m) = true → ((toPL xs).any fun z => PyData.eqv z (toP d)) = xs.any fun z => eqB z d
  | [], _, _ => rfl
  | x :: xs, m, k => by
    rw [List.all_cons, Bool.and_eq_true] at k
    show (PyData.eqv (toP x) (toP d) || (toPL xs).any fun z => PyData.eqv z (toP d)) = (eqB x d || xs.any fun z => eqB z d)
    rw [eqv_toP x d m n k.1 h, any_toPL d h k.2]
theorem fl_rep {K : PySem.W.Frag} {B : Hp} : ∀ {d : D} {v : V} {f : List Ob}, flD d = true → Rep K B d v f → flatV v = true ∧ ∀ {e : D} {u : V} {g : List Ob}, flD e = true → Rep K B e u g → eqV u v = eqB e d := by
  intro d v f h r
  cases d <;> first | (cases h; done) | skip
  all_goals
    obtain ⟨rfl, _⟩ := r
    refine ⟨rfl, fun {e u g} h2 r2 => ?_⟩
    cases e <;> first | (cases h2; done) | (obtain ⟨rfl, _⟩ := r2; rfl)
theorem fls_rep {K : PySem.W.Frag} {B : Hp} {d : D} {v : V} {f : List Ob} (h : flD d = true) (r : Rep K B d v f) : ∀ {xs : List D} {vs : List V} {g : List Ob}, xs.all flD = true → RepL K B xs vs g → vs.all flatV = true ∧ inV v vs = xs.any fun z => eqB z d
  | [], _, _, _, h2 => by rw [h2.1]; exact ⟨rfl, rfl⟩
  | x :: xs, vs, g, k, h2 => by
    rw [List.all_cons, Bool.and_eq_true] at k
    obtain ⟨u, vs', f1, f2, rfl, _, h3, h4⟩ := h2
    obtain ⟨k1, k2⟩ := fls_rep h r k.2 h4
    refine ⟨by rw [List.all_cons, (fl_rep k.1 h3).1, k1]; rfl, ?_⟩
    show (eqV u v || inV v vs') = (eqB x d || xs.any fun z => eqB z d)
    rw [(fl_rep h r).2 k.1 h3, k2]
def rInX (K : PySem.W.Frag) : R2 := fun x y H Q => rInD K x y H Q ∨ (rIn K false x y H Q ∨ ((∃ (c : Nat) (z : Str), x = .str ⟨#[c]⟩ ∧ y = .str z ∧ Q (.bl (decide (c ∈ z.cps.toList))) H) ∨ (∃ a o, y = .ref a ∧ DGet H a x o ∧ Q (.bl o.isSome) H)))
def rNinX (K : PySem.W.Frag) : R2 := fun x y H Q => rNotInD K x y H Q ∨ (rIn K true x y H Q ∨ ((∃ (c : Nat) (z : Str), x = .str ⟨#[c]⟩ ∧ y = .str z ∧ Q (.bl (!decide (c ∈ z.cps.toList))) H) ∨ (∃ a o, y = .ref a ∧ DGet H a x o ∧ Q (.bl (!o.isSome)) H)))
section
variable {X : Cx} {K : PySem.W.Frag}
theorem op_in_dict (hu : X.A.units + 1 < cLine) : OpR X (compareOp .In) (fun x y H Q => ∃ a o, y = .ref a ∧ DGet H a x o ∧ Q (.bl o.isSome) H) := by
  intro pins s σ H x y v u Q I rx ry h
  obtain ⟨a, o, rfl, g, q⟩ := h
  obtain rfl : u = Value.ref a := ry
  exact d_in hu I g rx fun s3 I3 => ⟨.bl o.isSome, H, I3, rfl, q⟩
theorem op_nin_dict (hu : X.A.units + 1 < cLine) : OpR X (compareOp .NotIn) (fun x y H Q => ∃ a o, y = .ref a ∧ DGet H a x o ∧ Q (.bl (!o.isSome)) H) := by
  intro pins s σ H x y v u Q I rx ry h
  obtain ⟨a, o, rfl, g, q⟩ := h
  obtain rfl : u = Value.ref a := ry
  exact d_notIn hu I g rx fun s3 I3 => ⟨.bl (!o.isSome), H, I3, rfl, q⟩
theorem opr_in (hu : X.A.units + 65 < cLine) : OpR X (compareOp .In) (rInX X.K) := (op_inD hu).or (op_in_seq.or (op_in_sign.or (op_in_dict (by omega))))
theorem opr_nin (hu : X.A.units + 65 < cLine) : OpR X (compareOp .NotIn) (rNinX X.K) := (op_notInD hu).or (op_notIn_seq.or (op_notIn_sign.or (op_nin_dict (by omega))))
theorem shaped6 {d : D} {n : Nat} (h : dd n d = true) (hn : n ≤ 60) : SeqAt.shaped (toP d) = true := by
  obtain ⟨h1, h2⟩ := toP_ok d n h
  unfold SeqAt.shaped
  rw [h1, decide_eq_true (by omega)]
  rfl
theorem op2_inB {neg : Bool} {rop : R2} (h1 : ∀ x y H Q d ds, Dp K H x d → Dp K H y (.list ds) → SeqAt.shaped d = true → SeqAt.shaped (.list ds) = true → Q (.bl (if neg = true then !(ds.any fun z => PyData.eqv z d) else ds.any fun z => PyData.eqv z d)) H → rop x y H Q)
    (h2 : ∀ x y H Q, rIn K neg x y H Q → rop x y H Q) (h3 : ∀ c z H Q, Q (.bl (if neg = true then !decide (c ∈ z.cps.toList) else decide (c ∈ z.cps.toList))) H → rop (.str ⟨#[c]⟩) (.str z) H Q) (h4 : ∀ x a o H Q, DGet H a x o → Q (.bl (if neg = true then !o.isSome else o.isSome)) H → rop x (.ref a) H Q) :
    Op2 K rop (fun d e => (inB d e).map fun b => .bl (if neg = true then !b else b)) := ⟨fun B H L v1 v2 f1 f2 d1 d2 r Q r1 r2 m1 m2 c hF k => by
  simp only [Option.map_eq_some_iff] at hF
  obtain ⟨b, hF, rfl⟩ := hF
  have fin : ∀ b' : Bool, b' = b → Q (.bl (if neg = true then !b' else b')) H := fun b' e => by subst e; exact k _ [] B H (Ex.refl _) ⟨rfl, rfl⟩ c
  unfold inB at hF
  split at hF
  · split at hF
    · rename_i d o xs hd
      rw [Bool.and_eq_true] at hd
      cases hF
      have hl : dd 7 (.lst o xs) = true := hd.2
      refine h1 _ _ _ _ _ _ (dp_of d1 6 v1 [] hd.1 (r1.view c m1)) (dp_of (.lst o xs) 7 v2 [] hl (r2.view c m2)) (shaped6 hd.1 (by decide)) (shaped6 hl (by decide)) (fin _ ?_)
      exact any_toPL d1 hd.1 hd.2
    · cases hF
  · split at hF
    · rename_i d xs hd
      rw [Bool.and_eq_true] at hd
      cases hF
      obtain ⟨p, vs, rfl, hp, _, hl⟩ := r2.isT c
      obtain ⟨k1, k2⟩ := fls_rep hd.1 r1 hd.2 hl
      refine h2 _ _ _ _ ⟨p, vs, rfl, .inr hp, (fl_rep hd.1 r1).1, k1, ?_⟩
      rw [k2]
      exact fin _ rfl
    · cases hF
  · split at hF
    · rename_i k' hk
      cases hF
      obtain ⟨rfl, _⟩ := r1
      obtain ⟨rfl, _⟩ := r2
      have one : ∀ a : Str, a.cps.toList = [k'] → a = ⟨#[k']⟩ := fun a hk => by
        cases a with
        | mk cps =>
          have : cps = #[k'] := by apply Array.ext'; simpa using hk
          rw [this]
      rw [one _ hk]
      exact h3 _ _ _ _ (fin _ rfl)
    · cases hF
  · simp only [Option.map_eq_some_iff] at hF
    obtain ⟨k', hk, rfl⟩ := hF
    obtain ⟨p, vs, g, rfl, hp, h0, hl, _⟩ := r2.isD c m2
    obtain rfl := keyD_rep hk r1
    exact h4 _ _ _ _ _ (DGet.k hp) (fin _ (dlook_none hl.len h0).symm)
  · simp only [Option.map_eq_some_iff] at hF
    obtain ⟨k', hk, rfl⟩ := hF
    obtain ⟨p, vs, g, rfl, hp, h0, hl, _⟩ := r2.isDT c m2
    obtain ⟨q, us, rfl, _, h5, h6⟩ := r1.isT c
    obtain rfl := keysD_rep hk h6
    exact h4 _ _ _ _ _ (DGet.t hp (c.ex _ _ h5)) (fin _ (dlook_none hl.len h0).symm)
  · cases hF⟩
theorem op2_in : Op2 K (rInX K) inD := by
  have := op2_inB (K := K) (neg := false) (rop := rInX K) (fun x y H Q d ds a b c e q => .inl ⟨d, ds, a, b, c, e, q⟩) (fun x y H Q h => .inr (.inl h)) (fun c z H Q q => .inr (.inr (.inl ⟨c, z, rfl, rfl, q⟩))) (fun x a o H Q g q => .inr (.inr (.inr ⟨a, o, rfl, g, q⟩)))
  exact this
theorem op2_nin : Op2 K (rNinX K) ninD := by
  have := op2_inB (K := K) (neg := true) (rop := rNinX K) (fun x y H Q d ds a b c e q => .inl ⟨d, ds, a, b, c, e, q⟩) (fun x y H Q h => .inr (.inl h)) (fun c z H Q q => .inr (.inr (.inl ⟨c, z, rfl, rfl, q⟩))) (fun x a o H Q g q => .inr (.inr (.inr ⟨a, o, rfl, g, q⟩)))
  exact this
end
/-! ### slices -/
section
variable {X : Cx} {W : WX} {S : List Nat} {e e1 e2 e3 c tg it : Expr} {es elts : List Expr} {f f1 f2 : Env → R D} {g g1 g2 g3 : Env → R Opd} {t t1 t2 t3 : Env → R Bool} {a : Env → R (List Opd)} {F : Env → Out} {pos pos' p' tpos p1 p2 p3 ap : Pos} {kk i : Nat} {x : Str} {rest : List Stmt}
/-- an end of a slice, or none -/
def wO (X : Cx) (o : Option Expr) : L2.St → Hp → (Option Int → Hp → Prop) → Prop := fun σ H Q => ∀ pins s, Inv X pins σ H s → wpAny (model X.prog X.w) X.A (evalPart o X.env) (fun u s' => ∃ o H', Inv X pins σ H' s' ∧ IsPart u o ∧ Q o H') X.xe s
theorem pO {o : Option Expr} : PO X o (wO X o) := ⟨fun pins s σ H Q I h => h pins s I⟩
structure EvP (X : Cx) (W : WX) (o : Option Expr) (f : Env → R (Option Int)) : Prop where
  run : ∀ E σ B l fr H Q, RelEnv X.K B E σ l → Cfg B (l ++ fr) H → After X.K σ fr B W (fun _ a b fp => b = a ∧ fp = []) (f E) Q → wO X o σ H Q
def pN : Env → R (Option Int) := fun E => .ok none E
def pS (g : Env → R Opd) : Env → R (Option Int) := fun E => (g E).bind fun o E1 => match o.val E1 with
  | some (.int i) => .ok (some i) E1
  | _ => .bad
theorem evp_none : EvP X W none pN := ⟨fun E σ B l fr H Q re cf af => fun pins s I => po_none.run pins s σ H Q I (af none B l [] H (Ex.refl _) re ⟨rfl, rfl⟩ cf)⟩
theorem evp_some (h : EvO X W e g) : EvP X W (some e) (pS g) := ⟨fun E σ B l fr H Q re cf af => fun pins s I => (po_some pE).run pins s σ H Q I (h.run E σ B l fr H _ re cf (After.first (β := Option Int) (δ := V) af fun o E1 v B1 l1 fp1 H1 _ x1 re1 rv1 cf1 af1 => by
  split at af1
  · rename_i i ho
    obtain ⟨f, r, _⟩ := rv1.get re1 ho
    obtain rfl := r.int
    exact ⟨_, rfl, af1 _ B1 l1 [] H1 (Ex.refl _) re1 ⟨rfl, rfl⟩ (Cfg.dropL cf1)⟩
  · exact af1.elim))⟩
def cutD {α : Type} (xs : List α) (lo hi : Option Int) : List α := (xs.drop (HT.sIx xs.length 0 lo)).take (HT.sIx xs.length xs.length hi - HT.sIx xs.length 0 lo)
def sliceF (d : D) (lo hi : Option Int) : Option D := match d with
  | .lst _ xs => if noOwnL xs = true then some (.lst true (cutD xs lo hi)) else none
  | .tup xs => if noOwnL xs = true then some (.tup (cutD xs lo hi)) else none
  | .str z => if z.length ≤ 100000 then some (.str (cutS z lo hi)) else none
  | .scr ns => some (.lst true ((cutD ns lo hi).map .int))
  | _ => none
def sliceR (g : Env → R Opd) (l h : Env → R (Option Int)) : Env → R D := fun E => (g E).bind fun o E1 => (l E1).bind fun lo E2 => (h E2).bind fun hi E3 => match o.val E3 with
  | some d => match sliceF d lo hi with
    | some r => .ok r E3
    | none => .bad
  | none => .bad
def rSlX (K : PySem.W.Frag) : V → Option Int → Option Int → Hp → VK → Prop := fun x lo hi H Q => rSlL K x lo hi H Q ∨ (rSlA K x lo hi H Q ∨ rSlS x lo hi H Q)
theorem sl_any : SlR X (rSlX X.K) := sl_list.or (sl_tupA.or sl_str)
theorem RepL.cut {K : PySem.W.Frag} {B : Hp} : ∀ (n : Nat) {xs : List D} {vs : List V}, RepL K B xs vs [] → RepL K B (xs.drop n) (vs.drop n) [] ∧ RepL K B (xs.take n) (vs.take n) []
  | 0, xs, vs, h => ⟨by simpa using h, by simp; exact ⟨rfl, rfl⟩⟩
  | n + 1, [], vs, h => by obtain ⟨rfl, _⟩ := h; simp; exact ⟨rfl, rfl⟩
  | n + 1, x :: xs, vs, h => by
    obtain ⟨v, vs', f1, f2, rfl, hf, h3, h4⟩ := h
    have hf := hf.symm
    rw [List.append_eq_nil_iff] at hf
    obtain ⟨rfl, rfl⟩ := hf
    obtain ⟨k1, k2⟩ := RepL.cut n h4
    exact ⟨by simpa using k1, v, _, [], [], rfl, rfl, h3, k2⟩
theorem RepL.cutD {K : PySem.W.Frag} {B : Hp} {xs : List D} {vs : List V} (h : RepL K B xs vs []) (lo hi : Option Int) : RepL K B (DW.cutD xs lo hi) (cutV vs lo hi) [] := by
  unfold DW.cutD cutV
  rw [h.len]
  exact ((RepL.cut _ (RepL.cut _ h).1).2)
theorem cutD_map {α β : Type} (q : α → β) (xs : List α) (lo hi : Option Int) : cutD (xs.map q) lo hi = (cutD xs lo hi).map q := by
  unfold cutD
  rw [List.length_map, List.map_take, List.map_drop]
theorem slice_ok {K : PySem.W.Frag} {B H : Hp} {L f : List Ob} {v : V} {d r : D} {lo hi : Option Int} {Q : VK} (h : Rep K B d v f) (m : ∀ ob, ob ∈ f → ob ∈ L) (c : Cfg B L H) (e : sliceF d lo hi = some r) (k : ∀ v fp B' H', Ex B B' → Rep K B' r v fp → Cfg B' (fp ++ L) H' → Q v H') : rSlX K v lo hi H Q := by
  unfold sliceF at e
  split at e
  · split at e
    · rename_i hn
      cases e
      obtain ⟨p, vs, g, rfl, h1, h2, _⟩ := h.isL c m
      have n1 := h2.nil_of hn
      exact .inl ⟨p, vs, rfl, SqL.of h1, fun t ht => k _ [(t, _)] B _ (Ex.refl _) ⟨t, _, rfl, [], by simp, n1.cutD lo hi⟩ (Cfg.new' c ht)⟩
    · cases e
  · split at e
    · rename_i xs hn
      cases e
      obtain ⟨p, vs, rfl, h1, h3, h2⟩ := h.isT c
      have n1 := h2.nil_of hn
      refine .inr (.inl ⟨p, vs, rfl, h1, fun z => ?_, fun z t ht => ?_⟩)
      · have : DW.cutD xs lo hi = xs := by
          unfold DW.cutD
          rw [n1.len, z.1, z.2]
          simp [← n1.len]
        exact k _ [] B H (Ex.refl _) (by rw [this]; exact ⟨p, vs, rfl, h3, n1⟩) c
      · obtain ⟨B', x, c', hp⟩ := Cfg.seen (o := .tup (cutV vs lo hi)) c ht
        exact k _ [] B' _ x ⟨t, _, rfl, hp, (n1.cutD lo hi).mono x⟩ c'
    · cases e
  · split at e
    · rename_i hz
      cases e
      obtain ⟨rfl, _⟩ := h
      exact .inr (.inr ⟨_, rfl, s2z hz, k _ [] B H (Ex.refl _) ⟨rfl, rfl⟩ c⟩)
    · cases e
  · rename_i ns
    cases e
    obtain ⟨_, p, rfl, hq⟩ := h
    refine .inl ⟨p, _, rfl, exL c.ex hq, fun t ht => k _ [(t, .lst (cutV (ns.map V.int) lo hi))] B _ (Ex.refl _) ⟨t, cutV (ns.map V.int) lo hi, rfl, [], by simp, ?_⟩ (Cfg.new' c ht)⟩
    have : cutV (ns.map V.int) lo hi = (DW.cutD ns lo hi).map V.int := by
      show DW.cutD (ns.map V.int) lo hi = _
      rw [cutD_map]
    rw [this]
    exact RepL.intsOf _
  · cases e
theorem evr_slice {lo hi : Option Expr} {l h : Env → R (Option Int)} (he : EvO X W e g) (hl : EvP X W lo l) (hh : EvP X W hi h) : EvR X W (.Subscript e (.Slice lo hi none p2) pos) (sliceR g l h) := ⟨fun E σ B l0 fr H Q re cf af =>
  wE_of (pe_slice sl_any pE pO pO) (he.run E σ B l0 fr H _ re cf (After.first (β := V) (δ := V) af fun o E1 v B1 l1 fp1 H1 _ x1 re1 rv1 cf1 af1 =>
    hl.run E1 σ B1 l1 (fp1 ++ fr) H1 _ re1 (Cfg.perm cf1 (by walk_at "perm")) (After.next (β := V) (δ := Option Int) af1 fun lo E2 lo' B2 l2 fp2 H2 _ x2 re2 rv2 cf2 af2 => by
      obtain ⟨rfl, rfl⟩ := rv2
      exact hh.run E2 σ B2 l2 (fp1 ++ fr) H2 _ re2 cf2 (After.next (β := V) (δ := Option Int) af2 fun hi E3 hi' B3 l3 fp3 H3 _ x3 re3 rv3 cf3 af3 => by
        obtain ⟨rfl, rfl⟩ := rv3
        cases hv : o.val E3 with
        | none => rw [hv] at af3; exact af3.elim
        | some d =>
          rw [hv] at af3
          dsimp only at af3
          cases hF : sliceF d lo' hi' with
          | none => rw [hF] at af3; exact af3.elim
          | some r =>
            rw [hF] at af3
            obtain ⟨f1, r1, m1⟩ := ((rv1.mono x2).mono x3).get re3 hv
            have cf4 : Cfg B3 (fp1 ++ (l3 ++ fr)) H3 := Cfg.perm cf3 (by walk_at "perm")
            exact slice_ok r1 (fun ob m => by
              have := m1 ob m
              simp only [List.mem_append] at this ⊢
              rcases this with h | h
              · exact .inl h
              · exact .inr (.inl h)) cf4 hF fun v fp B4 H4 x4 rr cf5 => af3 v B4 l3 fp H4 x4 (re3.mono x4) rr (Cfg.dropL (a := fp1) (Cfg.perm cf5 (by walk_at "perm")))))))⟩
/-! ### and, or, not as values, a if t else b, chains -/
def rAndV (f1 f2 : Env → R D) : Env → R D := fun E => (f1 E).bind fun d E1 => match d with
  | .bl b => if b = true then f2 E1 else .ok (.bl false) E1
  | _ => .bad
def rOrV (f1 f2 : Env → R D) : Env → R D := fun E => (f1 E).bind fun d E1 => match d with
  | .bl b => if b = true then .ok (.bl true) E1 else f2 E1
  | _ => .bad
def rNotV (f1 : Env → R D) : Env → R D := fun E => (f1 E).bind fun d E1 => match d with
  | .bl b => .ok (.bl (!b)) E1
  | _ => .bad
theorem evr_and (h1 : EvR X W e1 f1) (h2 : EvR X W e2 f2) : EvR X W (.BoolOp .And [e1, e2] pos) (rAndV f1 f2) := ⟨fun E σ B l fr H Q re cf af =>
  w_and (h1.run E σ B l fr H _ re cf (After.first (β := V) (δ := V) af fun d E1 v B1 l1 fp1 H1 _ x1 re1 rv1 cf1 af1 => by
    split at af1
    · rename_i b _
      obtain ⟨rfl, rfl⟩ := rv1
      refine ⟨b, rfl, ?_⟩
      cases b with
      | true => rw [if_pos rfl] at af1 ⊢; exact h2.run E1 σ B1 l1 fr H1 Q re1 cf1 af1
      | false => rw [if_neg (by decide)] at af1 ⊢; exact af1 _ B1 l1 [] H1 (Ex.refl _) re1 ⟨rfl, rfl⟩ cf1
    · exact af1.elim))⟩
theorem evr_or (h1 : EvR X W e1 f1) (h2 : EvR X W e2 f2) : EvR X W (.BoolOp .Or [e1, e2] pos) (rOrV f1 f2) := ⟨fun E σ B l fr H Q re cf af =>
  w_or (h1.run E σ B l fr H _ re cf (After.first (β := V) (δ := V) af fun d E1 v B1 l1 fp1 H1 _ x1 re1 rv1 cf1 af1 => by
    split at af1
    · rename_i b _
      obtain ⟨rfl, rfl⟩ := rv1
      refine ⟨b, rfl, ?_⟩
      cases b with
      | true => rw [if_pos rfl] at af1 ⊢; exact af1 _ B1 l1 [] H1 (Ex.refl _) re1 ⟨rfl, rfl⟩ cf1
      | false => rw [if_neg (by decide)] at af1 ⊢; exact h2.run E1 σ B1 l1 fr H1 Q re1 cf1 af1
    · exact af1.elim))⟩
theorem evr_and3 {f3 : Env → R D} (h1 : EvR X W e1 f1) (h2 : EvR X W e2 f2) (h3 : EvR X W e3 f3) : EvR X W (.BoolOp .And [e1, e2, e3] pos) (rAndV f1 (rAndV f2 f3)) := ⟨fun E σ B l fr H Q re cf af =>
  wE_of (pe_and pE (pe_and pE (pe_one pE))) (h1.run E σ B l fr H _ re cf (After.first (β := V) (δ := V) af fun d E1 v B1 l1 fp1 H1 _ x1 re1 rv1 cf1 af1 => by
    split at af1
    · rename_i b _
      obtain ⟨rfl, rfl⟩ := rv1
      refine ⟨b, rfl, ?_⟩
      cases b with
      | true =>
        rw [if_pos rfl] at af1 ⊢
        exact h2.run E1 σ B1 l1 fr H1 _ re1 cf1 (After.first (β := V) (δ := V) af1 fun d E2 v B2 l2 fp2 H2 _ x2 re2 rv2 cf2 af2 => by
          split at af2
          · rename_i b _
            obtain ⟨rfl, rfl⟩ := rv2
            refine ⟨b, rfl, ?_⟩
            cases b with
            | true => rw [if_pos rfl] at af2 ⊢; exact h3.run E2 σ B2 l2 fr H2 Q re2 cf2 af2
            | false => rw [if_neg (by decide)] at af2 ⊢; exact af2 _ B2 l2 [] H2 (Ex.refl _) re2 ⟨rfl, rfl⟩ cf2
          · exact af2.elim)
      | false => rw [if_neg (by decide)] at af1 ⊢; exact af1 _ B1 l1 [] H1 (Ex.refl _) re1 ⟨rfl, rfl⟩ cf1
    · exact af1.elim))⟩
theorem evr_not (h1 : EvR X W e1 f1) : EvR X W (.UnaryOp .Not e1 pos) (rNotV f1) := ⟨fun E σ B l fr H Q re cf af =>
  wE_of (pe_not pE) (h1.run E σ B l fr H _ re cf (After.first (β := V) (δ := V) af fun d E1 v B1 l1 fp1 H1 _ x1 re1 rv1 cf1 af1 => by
    split at af1
    · rename_i b _
      obtain ⟨rfl, rfl⟩ := rv1
      exact ⟨b, rfl, af1 _ B1 l1 [] H1 (Ex.refl _) re1 ⟨rfl, rfl⟩ cf1⟩
    · exact af1.elim))⟩
def rIfE (t : Env → R Bool) (f1 f2 : Env → R D) : Env → R D := fun E => (t E).bind fun b E1 => if b = true then f1 E1 else f2 E1
theorem evr_ife (h : EvT X W c t) (h1 : EvR X W e1 f1) (h2 : EvR X W e2 f2) : EvR X W (.IfExp c e1 e2 pos) (rIfE t f1 f2) := ⟨fun E σ B l fr H Q re cf af =>
  wE_of (pe_ifExp pT pE pE) (h.run E σ B l fr H _ re cf (After.first (β := V) (δ := Bool) af fun b E1 v B1 l1 fp1 H1 _ x1 re1 rv1 cf1 af1 => by
    obtain ⟨rfl, rfl⟩ := rv1
    cases v with
    | true => rw [if_pos rfl] at af1 ⊢; exact h1.run E1 σ B1 l1 fr H1 Q re1 cf1 af1
    | false => rw [if_neg (by decide)] at af1 ⊢; exact h2.run E1 σ B1 l1 fr H1 Q re1 cf1 af1))⟩
end
end DW
/-! DW14: methods of a slot's list, stores, assignments to tuples. -/
namespace DW
open PySem L2 Evl QW
open PySem.Spec PyProof.Rows
local macro_rules | `(tactic| walk_at "perm") => `(tactic| (refine List.perm_iff_count.mpr fun _ => ?_; simp only [List.count_append, List.count_nil]; omega))
theorem Cfg.upd {B H : Hp} {p : Addr} {o o' : HO} {L : List Ob} (c : Cfg B ([(p, o)] ++ L) H) : Cfg B ([(p, o')] ++ L) (L2.upd H p o') := by
  have c7 := Cfg.put (o' := o') (show Cfg B ((p, o) :: L) H from c) List.mem_cons_self
  unfold QW.put at c7
  rw [if_pos rfl] at c7
  exact c7
/-- the list of a slot: what it is, what becomes of it -/
theorem slot_lst {K : PySem.W.Frag} {B : Hp} {E : Env} {σ : L2.St} {l : List Ob} {i : Nat} {xs : List D} (re : RelEnv K B E σ l) (h : gt E i = some (.lst true xs)) :
    ∃ p vs f f1 f2, σ[i]? = some (some (.ref p)) ∧ l = f1 ++ ([(p, .lst vs)] ++ f) ++ f2 ∧ RepL K B xs vs f ∧ ∀ B' xs' vs' f', Ex B B' → RepL K B' xs' vs' f' → RelEnv K B' (E.set i (some (.lst true xs'))) σ (f1 ++ ([(p, .lst vs')] ++ f') ++ f2) := by
  obtain ⟨v, f1, f0, f2, hv, rfl, ⟨p, vs, rfl, f, rfl, hl⟩, hs, _⟩ := re.at (gt_some h)
  refine ⟨p, vs, f, f1, f2, hv, rfl, hl, fun B' xs' vs' f' x hl' => ?_⟩
  have re2 := hs B' (.lst true xs') (.ref p) ([(p, .lst vs')] ++ f') x ⟨p, vs', rfl, f', rfl, hl'⟩
  rw [set_same hv] at re2
  exact re2
theorem slot_dct {K : PySem.W.Frag} {B : Hp} {E : Env} {σ : L2.St} {l : List Ob} {i : Nat} {ks : List Key} {ds : List D} (re : RelEnv K B E σ l) (h : gt E i = some (.dct true ks ds)) :
    ∃ p vs f f1 f2, σ[i]? = some (some (.ref p)) ∧ ks.length = vs.length ∧ l = f1 ++ ([(p, .dK (ks.zip vs))] ++ f) ++ f2 ∧ RepL K B ds vs f ∧ ∀ B' ks' ds' vs' f', Ex B B' → ks'.length = vs'.length → RepL K B' ds' vs' f' → RelEnv K B' (E.set i (some (.dct true ks' ds'))) σ (f1 ++ ([(p, .dK (ks'.zip vs'))] ++ f') ++ f2) := by
  obtain ⟨v, f1, f0, f2, hv, rfl, ⟨p, vs, rfl, h0, f, rfl, hl⟩, hs, _⟩ := re.at (gt_some h)
  refine ⟨p, vs, f, f1, f2, hv, h0, rfl, hl, fun B' ks' ds' vs' f' x h0' hl' => ?_⟩
  have re2 := hs B' (.dct true ks' ds') (.ref p) ([(p, .dK (ks'.zip vs'))] ++ f') x ⟨p, vs', rfl, h0', f', rfl, hl'⟩
  rw [set_same hv] at re2
  exact re2
theorem slot_dcT {K : PySem.W.Frag} {B : Hp} {E : Env} {σ : L2.St} {l : List Ob} {i : Nat} {ks : List (List Key)} {ds : List D} (re : RelEnv K B E σ l) (h : gt E i = some (.dcT true ks ds)) :
    ∃ p vs f f1 f2, σ[i]? = some (some (.ref p)) ∧ ks.length = vs.length ∧ l = f1 ++ ([(p, .dT (ks.zip vs))] ++ f) ++ f2 ∧ RepL K B ds vs f ∧ ∀ B' ks' ds' vs' f', Ex B B' → ks'.length = vs'.length → RepL K B' ds' vs' f' → RelEnv K B' (E.set i (some (.dcT true ks' ds'))) σ (f1 ++ ([(p, .dT (ks'.zip vs'))] ++ f') ++ f2) := by
  obtain ⟨v, f1, f0, f2, hv, rfl, ⟨p, vs, rfl, h0, f, rfl, hl⟩, hs, _⟩ := re.at (gt_some h)
  refine ⟨p, vs, f, f1, f2, hv, h0, rfl, hl, fun B' ks' ds' vs' f' x h0' hl' => ?_⟩
  have re2 := hs B' (.dcT true ks' ds') (.ref p) ([(p, .dT (ks'.zip vs'))] ++ f') x ⟨p, vs', rfl, h0', f', rfl, hl'⟩
  rw [set_same hv] at re2
  exact re2
section
variable {X : Cx} {W : WX} {S : List Nat} {e e1 e2 e3 c tg it : Expr} {es elts : List Expr} {f f1 f2 : Env → R D} {g g1 g2 g3 : Env → R Opd} {a : Env → R (List Opd)} {F : Env → Out} {pos pos' p' tpos p1 p2 p3 ap : Pos} {kk i j : Nat} {x y : Str} {rest : List Stmt}
/-- x.append(e) -/
def mApp (i : Nat) (f : Env → R D) : Env → R D := fun E => match gt E i with
  | some (.lst true _) => (f E).bind fun d E1 => match gt E1 i with
    | some (.lst true xs) => if xs.length < 100000 then .ok .non (E1.set i (some (.lst true (xs ++ [d])))) else .bad
    | _ => .bad
  | _ => .bad
theorem evr_app (n : Slot X i x) (h : EvR X W e f) (hbase : attributeBase (.Name x p1) ("append" : Str) X.env (eval (.Name x p1) X.env) = eval (.Name x p1) X.env := by rfl)
    (hfew : ((backTo pos (starEach [e] X.env)).all (fun x => !x.1) && (backToKw pos (keywordEach [] X.env)).all (fun x => x.1.isSome)
      && decide (([e] : List Expr).length + ([] : List Keyword).length + (if ([] : List Keyword).isEmpty then 0 else 1) < 30)) = true := by rfl)
    (hline : (ap.endLine == pos.line) = true := by rfl) (hs : starEach [e] X.env = (false, eval e X.env) :: starEach [] X.env := by rfl) (hplain : (backTo pos (starEach [] X.env)).any (·.1) = false := by rfl) :
    EvR X W (.Call (.Attribute (.Name x p1) "append" ap) [e] [] pos) (mApp i f) := ⟨fun E σ B l fr H Q re cf af => by
  unfold mApp at af
  split at af
  · rename_i xs0 h0
    obtain ⟨p, vs, f0, k1, k2, hv, rfl, _⟩ := slot_lst re h0
    refine w_bm PySem.F.plainAttrs_list PySem.F.slot_list_append PySem.F.type_list_append mt_append (go (e_slot n hv) cf fun H1 x1 c1 => ⟨tyV_l (SqL.of (c1.own p (.lst vs) (by simp))), w_acons (h.run E σ B _ fr H1 _ re c1 (After.first (β := V) (δ := V) af fun d E1 v B1 l1 fp1 H2 _ x2 re1 rv1 cf1 af1 => ?_)) hs⟩) hbase hfew hline hs hplain
    split at af1
    · rename_i xs h1
      split at af1
      · rename_i hz
        obtain ⟨q, us, f3, q1, q2, hv3, rfl, hl, up⟩ := slot_lst re1 h1
        rw [hv] at hv3
        cases hv3
        have c0 : Cfg B1 ([(p, .lst us)] ++ (f3 ++ fp1 ++ (q1 ++ q2 ++ fr))) H2 := Cfg.perm cf1 (by walk_at "perm")
        exact w_anil ⟨p, us, v, rfl, rfl, c0.own _ _ (by simp), sz_lt (by rw [← hl.len]; exact hz), af1 .non B1 _ [] _ (Ex.refl _) (up B1 _ _ _ (Ex.refl _) (hl.snoc rv1)) ⟨rfl, rfl⟩ (Cfg.perm (Cfg.upd (o' := .lst (us ++ [v])) c0) (by walk_at "perm"))⟩
      · exact af1.elim
    · exact af1.elim
  · exact af.elim⟩
/-- x.extend(e) -/
def mExt (i : Nat) (f : Env → R D) : Env → R D := fun E => match gt E i with
  | some (.lst true _) => (f E).bind fun d E1 => match gt E1 i, d with
    | some (.lst true xs), .lst _ ys => if (noOwnL ys && decide (xs.length + ys.length ≤ 100000)) = true then .ok .non (E1.set i (some (.lst true (xs ++ ys)))) else .bad
    | _, _ => .bad
  | _ => .bad
theorem evr_ext (n : Slot X i x) (h : EvR X W e f) (hbase : attributeBase (.Name x p1) ("extend" : Str) X.env (eval (.Name x p1) X.env) = eval (.Name x p1) X.env := by rfl)
    (hfew : ((backTo pos (starEach [e] X.env)).all (fun x => !x.1) && (backToKw pos (keywordEach [] X.env)).all (fun x => x.1.isSome)
      && decide (([e] : List Expr).length + ([] : List Keyword).length + (if ([] : List Keyword).isEmpty then 0 else 1) < 30)) = true := by rfl)
    (hline : (ap.endLine == pos.line) = true := by rfl) (hs : starEach [e] X.env = (false, eval e X.env) :: starEach [] X.env := by rfl) (hplain : (backTo pos (starEach [] X.env)).any (·.1) = false := by rfl) :
    EvR X W (.Call (.Attribute (.Name x p1) "extend" ap) [e] [] pos) (mExt i f) := ⟨fun E σ B l fr H Q re cf af => by
  unfold mExt at af
  split at af
  · rename_i xs0 h0
    obtain ⟨p, vs, f0, k1, k2, hv, rfl, _⟩ := slot_lst re h0
    refine w_bm PySem.F.plainAttrs_list PySem.F.slot_list_extend PySem.F.type_list_extend mt_extend (go (e_slot n hv) cf fun H1 x1 c1 => ⟨tyV_l (SqL.of (c1.own p (.lst vs) (by simp))), w_acons (h.run E σ B _ fr H1 _ re c1 (After.first (β := V) (δ := V) af fun d E1 v B1 l1 fp1 H2 _ x2 re1 rv1 cf1 af1 => ?_)) hs⟩) hbase hfew hline hs hplain
    split at af1
    · rename_i xs o ys h1 _
      split at af1
      · rename_i hz
        rw [Bool.and_eq_true] at hz
        have hz2 := of_decide_eq_true hz.2
        obtain ⟨q, us, f3, q1, q2, hv3, rfl, hl, up⟩ := slot_lst re1 h1
        rw [hv] at hv3
        cases hv3
        obtain ⟨b, ws, gw, rfl, hb, hw, hm, _⟩ := rv1.isL cf1 (fun ob m => List.mem_append_left _ m)
        have hw0 := hw.nil_of hz.1
        have c0 : Cfg B1 ([(p, .lst us)] ++ (f3 ++ fp1 ++ (q1 ++ q2 ++ fr))) H2 := Cfg.perm cf1 (by walk_at "perm")
        refine w_anil ⟨p, b, us, ws, rfl, rfl, c0.own _ _ (by simp), hb, s2z (by rw [← hl.len, ← hw0.len]; exact hz2), af1 .non B1 _ [] _ (Ex.refl _) (up B1 _ _ _ (Ex.refl _) (hl.app hw0)) ⟨rfl, rfl⟩ ?_⟩
        exact Cfg.dropL (a := fp1) (Cfg.perm (Cfg.upd (o' := .lst (us ++ ws)) c0) (by walk_at "perm"))
      · exact af1.elim
    · exact af1.elim
  · exact af.elim⟩
/-- x.pop() -/
def mPop (i : Nat) : Env → R D := fun E => match gt E i with
  | some (.lst true xs) => match xs[xs.length - 1]? with
    | some d => if noOwn d = true then .ok d (E.set i (some (.lst true xs.dropLast))) else .bad
    | none => .bad
  | _ => .bad
theorem RepL.dropLast {K : PySem.W.Frag} {B : Hp} : ∀ {xs : List D} {vs : List V} {f : List Ob}, RepL K B xs vs f → ∃ g r, RepL K B xs.dropLast vs.dropLast g ∧ (g ++ r).Perm f
  | [], _, f, h => by obtain ⟨rfl, rfl⟩ := h; exact ⟨[], [], ⟨rfl, rfl⟩, by simp⟩
  | [x], vs, f, h => by
    obtain ⟨v, vs', f1, f2, rfl, rfl, h3, rfl, rfl⟩ := h
    exact ⟨[], f1, ⟨rfl, rfl⟩, by simp⟩
  | x :: y :: xs, vs, f, h => by
    obtain ⟨v, vs', f1, f2, rfl, rfl, h3, h4⟩ := h
    obtain ⟨g, r, k1, k2⟩ := RepL.dropLast h4
    obtain ⟨w, vs'', g1, g2, rfl, _⟩ := h4
    refine ⟨f1 ++ g, r, ⟨v, _, f1, g, rfl, rfl, h3, k1⟩, ?_⟩
    rw [List.append_assoc]
    exact k2.append_left f1
theorem evr_pop (n : Slot X i x) (hbase : attributeBase (.Name x p1) ("pop" : Str) X.env (eval (.Name x p1) X.env) = eval (.Name x p1) X.env := by rfl) (hline : (ap.endLine == pos.line) = true := by rfl) :
    EvR X W (.Call (.Attribute (.Name x p1) "pop" ap) [] [] pos) (mPop i) := ⟨fun E σ B l fr H Q re cf af => by
  unfold mPop at af
  split at af
  · rename_i xs h0
    split at af
    · rename_i d hd
      split at af
      · rename_i hn
        obtain ⟨p, vs, f0, k1, k2, hv, rfl, hl, up⟩ := slot_lst re h0
        refine w_bm0 PySem.F.plainAttrs_list PySem.F.slot_list_pop PySem.F.type_list_pop mt_pop (go (e_slot n hv) cf fun H1 x1 c1 => ⟨tyV_l (SqL.of (c1.own p (.lst vs) (by simp))), ?_⟩) hbase hline
        obtain ⟨v, g1, g0, g2, hv', _, hr, _⟩ := hl.at hd
        obtain rfl := hr.none hn
        obtain ⟨g, r, kl, pm⟩ := hl.dropLast
        have c0 : Cfg B ([(p, .lst vs)] ++ (f0 ++ (k1 ++ k2 ++ fr))) H1 := Cfg.perm c1 (by walk_at "perm")
        refine ⟨p, vs, v, rfl, rfl, c0.own _ _ (by simp), by rw [← hl.len]; exact hv', af v B _ [] _ (Ex.refl _) (up B _ _ _ (Ex.refl _) kl) hr ?_⟩
        refine Cfg.dropL (a := r) (Cfg.perm (Cfg.upd (o' := .lst vs.dropLast) c0) ?_)
        refine List.perm_iff_count.mpr fun a => ?_
        have := List.perm_iff_count.mp pm a
        simp only [List.count_append, List.count_nil] at this ⊢
        omega
      · exact af.elim
    · exact af.elim
  · exact af.elim⟩
/-- x.pop(e) -/
def mPopAt (i : Nat) (f : Env → R D) : Env → R D := fun E => match gt E i with
  | some (.lst true _) => (f E).bind fun d E1 => match gt E1 i, d with
    | some (.lst true xs), .int j => if decide (0 ≤ j ∧ j < 2 ^ 63) = true then (match xs[j.toNat]? with
      | some d => if noOwn d = true then .ok d (E1.set i (some (.lst true (xs.eraseIdx j.toNat)))) else .bad
      | none => .bad) else .bad
    | _, _ => .bad
  | _ => .bad
theorem RepL.erase {K : PySem.W.Frag} {B : Hp} : ∀ {xs : List D} {vs : List V} {f : List Ob} (i : Nat), RepL K B xs vs f → ∃ g r, RepL K B (xs.eraseIdx i) (vs.eraseIdx i) g ∧ (g ++ r).Perm f
  | [], _, f, i, h => by obtain ⟨rfl, rfl⟩ := h; exact ⟨[], [], ⟨rfl, rfl⟩, by simp⟩
  | x :: xs, vs, f, 0, h => by
    obtain ⟨v, vs', f1, f2, rfl, rfl, h3, h4⟩ := h
    exact ⟨f2, f1, h4, List.perm_append_comm⟩
  | x :: xs, vs, f, i + 1, h => by
    obtain ⟨v, vs', f1, f2, rfl, rfl, h3, h4⟩ := h
    obtain ⟨g, r, k1, k2⟩ := RepL.erase i h4
    refine ⟨f1 ++ g, r, ⟨v, _, f1, g, rfl, rfl, h3, k1⟩, ?_⟩
    rw [List.append_assoc]
    exact k2.append_left f1
theorem evr_popAt (n : Slot X i x) (h : EvR X W e f) (hbase : attributeBase (.Name x p1) ("pop" : Str) X.env (eval (.Name x p1) X.env) = eval (.Name x p1) X.env := by rfl)
    (hfew : ((backTo pos (starEach [e] X.env)).all (fun x => !x.1) && (backToKw pos (keywordEach [] X.env)).all (fun x => x.1.isSome)
      && decide (([e] : List Expr).length + ([] : List Keyword).length + (if ([] : List Keyword).isEmpty then 0 else 1) < 30)) = true := by rfl)
    (hline : (ap.endLine == pos.line) = true := by rfl) (hs : starEach [e] X.env = (false, eval e X.env) :: starEach [] X.env := by rfl) (hplain : (backTo pos (starEach [] X.env)).any (·.1) = false := by rfl) :
    EvR X W (.Call (.Attribute (.Name x p1) "pop" ap) [e] [] pos) (mPopAt i f) := ⟨fun E σ B l fr H Q re cf af => by
  unfold mPopAt at af
  split at af
  · rename_i xs0 h0
    obtain ⟨p, vs, f0, k1, k2, hv, rfl, _⟩ := slot_lst re h0
    refine w_bm PySem.F.plainAttrs_list PySem.F.slot_list_pop PySem.F.type_list_pop mt_popAt (go (e_slot n hv) cf fun H1 x1 c1 => ⟨tyV_l (SqL.of (c1.own p (.lst vs) (by simp))), w_acons (h.run E σ B _ fr H1 _ re c1 (After.first (β := V) (δ := V) af fun d E1 v B1 l1 fp1 H2 _ x2 re1 rv1 cf1 af1 => ?_)) hs⟩) hbase hfew hline hs hplain
    split at af1
    · rename_i xs j h1 _
      split at af1
      · rename_i hj
        have hj := of_decide_eq_true hj
        split at af1
        · rename_i d' hd
          split at af1
          · rename_i hn
            obtain ⟨q, us, f3, q1, q2, hv3, rfl, hl, up⟩ := slot_lst re1 h1
            rw [hv] at hv3
            cases hv3
            obtain ⟨rfl, rfl⟩ := rv1
            obtain ⟨u, g1, g0, g2, hu, _, hr, _⟩ := hl.at hd
            obtain rfl := hr.none hn
            obtain ⟨g, r, kl, pm⟩ := hl.erase j.toNat
            have hlt : j.toNat < us.length := (List.getElem?_eq_some_iff.mp hu).1
            have c0 : Cfg B1 ([(p, .lst us)] ++ (f3 ++ (q1 ++ q2 ++ fr))) H2 := Cfg.perm cf1 (by walk_at "perm")
            refine w_anil ⟨p, us, j, j.toNat, u, rfl, rfl, c0.own _ _ (by simp), by omega, hj.2, seqIndex_of hj.1 (by omega), hu, af1 u B1 _ [] _ (Ex.refl _) (up B1 _ _ _ (Ex.refl _) kl) hr ?_⟩
            refine Cfg.dropL (a := r) (Cfg.perm (Cfg.upd (o' := .lst (us.eraseIdx j.toNat)) c0) ?_)
            refine List.perm_iff_count.mpr fun a => ?_
            have := List.perm_iff_count.mp pm a
            simp only [List.count_append, List.count_nil] at this ⊢
            omega
          · exact af1.elim
        · exact af1.elim
      · exact af1.elim
    · exact af1.elim
  · exact af.elim⟩
/-- x.reverse(), x.clear() -/
def mRev (i : Nat) : Env → R D := fun E => match gt E i with
  | some (.lst true xs) => if noOwnL xs = true then .ok .non (E.set i (some (.lst true xs.reverse))) else .bad
  | _ => .bad
theorem RepL.rev {K : PySem.W.Frag} {B : Hp} : ∀ {xs : List D} {vs : List V}, RepL K B xs vs [] → RepL K B xs.reverse vs.reverse []
  | [], _, h => by obtain ⟨rfl, _⟩ := h; exact ⟨rfl, rfl⟩
  | x :: xs, vs, h => by
    obtain ⟨v, vs', f1, f2, rfl, hf, h3, h4⟩ := h
    have hf := hf.symm
    rw [List.append_eq_nil_iff] at hf
    obtain ⟨rfl, rfl⟩ := hf
    rw [List.reverse_cons, List.reverse_cons]
    exact (RepL.rev h4).snoc h3
theorem evr_rev (n : Slot X i x) (hbase : attributeBase (.Name x p1) ("reverse" : Str) X.env (eval (.Name x p1) X.env) = eval (.Name x p1) X.env := by rfl) (hline : (ap.endLine == pos.line) = true := by rfl) :
    EvR X W (.Call (.Attribute (.Name x p1) "reverse" ap) [] [] pos) (mRev i) := ⟨fun E σ B l fr H Q re cf af => by
  unfold mRev at af
  split at af
  · rename_i xs h0
    split at af
    · rename_i hn
      obtain ⟨p, vs, f0, k1, k2, hv, rfl, hl, up⟩ := slot_lst re h0
      refine w_bm0 PySem.F.plainAttrs_list PySem.F.slot_list_reverse PySem.F.type_list_reverse mt_reverse (go (e_slot n hv) cf fun H1 x1 c1 => ⟨tyV_l (SqL.of (c1.own p (.lst vs) (by simp))), ?_⟩) hbase hline
      have hl0 := hl.nil_of hn
      have c0 : Cfg B ([(p, .lst vs)] ++ (f0 ++ (k1 ++ k2 ++ fr))) H1 := Cfg.perm c1 (by walk_at "perm")
      exact ⟨p, vs, rfl, rfl, c0.own _ _ (by simp), af .non B _ [] _ (Ex.refl _) (up B _ _ _ (Ex.refl _) hl0.rev) ⟨rfl, rfl⟩ (Cfg.dropL (a := f0) (Cfg.perm (Cfg.upd (o' := .lst vs.reverse) c0) (by walk_at "perm")))⟩
    · exact af.elim
  · exact af.elim⟩
def mClr (i : Nat) : Env → R D := fun E => match gt E i with
  | some (.lst true xs) => .ok .non (E.set i (some (.lst true [])))
  | _ => .bad
theorem evr_clr (n : Slot X i x) (hbase : attributeBase (.Name x p1) ("clear" : Str) X.env (eval (.Name x p1) X.env) = eval (.Name x p1) X.env := by rfl) (hline : (ap.endLine == pos.line) = true := by rfl) :
    EvR X W (.Call (.Attribute (.Name x p1) "clear" ap) [] [] pos) (mClr i) := ⟨fun E σ B l fr H Q re cf af => by
  unfold mClr at af
  split at af
  · rename_i xs h0
    obtain ⟨p, vs, f0, k1, k2, hv, rfl, hl, up⟩ := slot_lst re h0
    refine w_bm0 PySem.F.plainAttrs_list PySem.F.slot_list_clear PySem.F.type_list_clear mt_clear (go (e_slot n hv) cf fun H1 x1 c1 => ⟨tyV_l (SqL.of (c1.own p (.lst vs) (by simp))), ?_⟩) hbase hline
    have c0 : Cfg B ([(p, .lst vs)] ++ (f0 ++ (k1 ++ k2 ++ fr))) H1 := Cfg.perm c1 (by walk_at "perm")
    exact ⟨p, vs, rfl, rfl, c0.own _ _ (by simp), af .non B _ [] _ (Ex.refl _) (up B [] [] [] (Ex.refl _) ⟨rfl, rfl⟩) ⟨rfl, rfl⟩ (Cfg.dropL (a := f0) (Cfg.perm (Cfg.upd (o' := .lst []) c0) (by walk_at "perm")))⟩
  · exact af.elim⟩
/-- an expression within a statement, while g is held -/
theorem AfterS.next {α β : Type} {K : PySem.W.Frag} {S : List Nat} {σ : L2.St} {fr gg : List Ob} {B : Hp} {VR : Hp → α → β → List Ob → Prop} {r : R α} {k : α → Env → Out} {N : Ends} {Q : β → Hp → Prop} (h : AfterS K S σ fr B W (onR r k) N)
    (c : ∀ a E v B' l fp H, r = .ok a E → Ex B B' → RelEnv K B' E σ l → VR B' a v fp → Cfg B' (fp ++ (l ++ (gg ++ fr))) H → AfterS K S σ fr B' W (k a E) N → Q v H) : After K σ (gg ++ fr) B W VR r Q := by
  cases r with
  | ok a E => exact fun v B2 l fp H x re rv cf => c a E v B2 l fp H rfl x re rv cf (AfterS.up x Par.refl h)
  | exc c' ns ds E => exact fun cls dx B2 l H x re rx cf => h cls dx σ B2 l H x re rx Par.refl (Cfg.dropL (a := gg) (Cfg.perm cf (by walk_at "perm")))
  | bad => exact h
/-- x[e2] = e, x a list -/
def sSetL (i : Nat) (f f2 : Env → R D) (F : Env → Out) : Env → Out := fun E => onR (f E) fun d E1 => match gt E1 i with
  | some (.lst true _) => onR (f2 E1) fun k E2 => match gt E2 i, k with
    | some (.lst true xs), .int j => match ixN xs.length j with
      | some q => F (E2.set i (some (.lst true (xs.set q d))))
      | none => .bad
    | _, _ => .bad
  | _ => .bad
theorem RepL.setAt {K : PySem.W.Frag} {B : Hp} {d : D} {v : V} {fp : List Ob} (r : Rep K B d v fp) {xs : List D} {vs : List V} {f : List Ob} (i : Nat) (hi : i < xs.length) (h : RepL K B xs vs f) : ∃ g q, RepL K B (xs.set i d) (vs.set i v) g ∧ (g ++ q).Perm (f ++ fp) := by
  obtain ⟨u, f1, f0, f2, h1, rfl, h3, h4⟩ := h.at (List.getElem?_eq_getElem hi)
  exact ⟨_, f0, h4 B d v fp (Ex.refl _) r, by walk_at "perm"⟩
theorem exs_setL (n : Slot X i x) (h : EvR X W e f) (h2 : EvR X W e2 f2) (hF : ExS X W S rest F) (hs : swapsWithSole [.Subscript (.Name x p1) e2 pos'] e pos.line X.env = pure false := by rfl) (hw : swappedStores [.Subscript (.Name x p1) e2 pos'] e X.env = pure none := by rfl) (h1 : (assignEach [.Subscript (.Name x p1) e2 pos'] X.env).map (·.2) = [assign (.Subscript (.Name x p1) e2 pos') X.env] := by rfl)
    (ha : ∀ v, assign (.Subscript (.Name x p1) e2 pos') X.env v = (do
      let ov ← holding [v] (eval (.Name x p1) X.env)
      let iv ← holding [v, ov] (eval e2 X.env)
      standAt pos'
      holding [v, ov, iv] (setItem ov iv v)
      release [v, ov, iv] []) := by intro _; rfl) : ExS X W S (.Assign [.Subscript (.Name x p1) e2 pos'] e pos :: rest) (sSetL i f f2 F) := ⟨fun E σ B l fr H N re cf af =>
  s_of (ps_asg pE (pg_sub pE pE set_list ha) hs hw h1) (h.run E σ B l fr H _ re cf (AfterS.expr (β := V) af fun d E1 v B1 l1 fp1 H1 _ x1 re1 rv1 cf1 af1 => by
    split at af1
    · rename_i xs0 h0
      obtain ⟨p, vs, f0, k1, k2, hv, rfl, _⟩ := slot_lst re1 h0
      refine go (e_slot n hv) cf1 fun H2 x2 c2 => h2.run E1 σ B1 _ (fp1 ++ fr) H2 _ re1 (Cfg.perm c2 (by walk_at "perm")) (AfterS.next (β := V) af1 fun k E2 u B2 l2 fp2 H3 _ x3 re2 rv2 cf2 af2 => ?_)
      split at af2
      · rename_i xs j h3 _
        split at af2
        · rename_i q hq
          obtain ⟨p', us, f3, q1, q2, hv3, rfl, hl, up⟩ := slot_lst re2 h3
          rw [hv] at hv3
          cases hv3
          obtain ⟨rfl, rfl⟩ := rv2
          obtain ⟨hq1, hq2, _⟩ := ixN_seq hq
          obtain ⟨g, r, kl, pm⟩ := RepL.setAt (rv1.mono x3) q hq2 hl
          have c0 : Cfg B2 ([(p, .lst us)] ++ (f3 ++ fp1 ++ (q1 ++ q2 ++ fr))) H3 := Cfg.perm cf2 (by walk_at "perm")
          refine ⟨p, us, j, q, rfl, rfl, c0.own _ _ (by simp), by rw [← hl.len]; exact hq, hF.run _ σ B2 _ fr _ N (up B2 _ _ _ (Ex.refl _) kl) (Cfg.dropL (a := r) (Cfg.perm (Cfg.upd (o' := .lst (us.set q v)) c0) ?_)) af2⟩
          refine List.perm_iff_count.mpr fun a => ?_
          have := List.perm_iff_count.mp pm a
          simp only [List.count_append, List.count_nil] at this ⊢
          omega
        · exact af2.elim
      · exact af2.elim
    · exact af1.elim))⟩
/-! dicts -/
def dsub {κ α : Type} [DecidableEq κ] : List κ → List α → κ → α → List α
  | k0 :: ks, v0 :: vs, k, v => (if k0 = k then v else v0) :: dsub ks vs k v
  | _, vs, _, _ => vs
def dputK {κ : Type} [DecidableEq κ] (ks : List κ) (k : κ) : List κ := if k ∈ ks then ks else ks ++ [k]
def dputV {κ α : Type} [DecidableEq κ] (ks : List κ) (vs : List α) (k : κ) (v : α) : List α := if k ∈ ks then dsub ks vs k v else vs ++ [v]
theorem dsub_len {κ α : Type} [DecidableEq κ] (k : κ) (v : α) : ∀ (ks : List κ) (vs : List α), (dsub ks vs k v).length = vs.length
  | [], _ => rfl
  | _ :: _, [] => rfl
  | k0 :: ks, v0 :: vs => by unfold dsub; rw [List.length_cons, List.length_cons, dsub_len k v ks vs]
theorem zip_any {κ : Type} [DecidableEq κ] (k : κ) : ∀ {ks : List κ} {us : List V}, ks.length = us.length → ((ks.zip us).any fun kv => decide (kv.1 = k)) = decide (k ∈ ks)
  | [], _, _ => by simp
  | _ :: _, [], h => by simp at h
  | k0 :: ks, u :: us, h => by
    rw [List.zip_cons_cons, List.any_cons, zip_any k (by simpa using h)]
    by_cases e : k0 = k
    · simp [e]
    · simp [e]; intro z; exact absurd z.symm e
theorem zip_sub {κ : Type} [DecidableEq κ] (k : κ) (v : V) : ∀ {ks : List κ} {us : List V}, ks.length = us.length → (ks.zip us).map (fun kv => if kv.1 = k then (kv.1, v) else kv) = ks.zip (dsub ks us k v)
  | [], _, _ => by simp
  | _ :: _, [], h => by simp at h
  | k0 :: ks, u :: us, h => by
    rw [List.zip_cons_cons, List.map_cons, zip_sub k v (by simpa using h)]
    rw [show dsub (k0 :: ks) (u :: us) k v = (if k0 = k then v else u) :: dsub ks us k v from rfl, List.zip_cons_cons]
    by_cases e : k0 = k <;> simp [e]
theorem zip_snoc {κ α : Type} {k : κ} {v : α} : ∀ {ks : List κ} {us : List α}, ks.length = us.length → ks.zip us ++ [(k, v)] = (ks ++ [k]).zip (us ++ [v])
  | [], [], _ => rfl
  | [], _ :: _, h => by simp at h
  | _ :: _, [], h => by simp at h
  | k0 :: ks, u :: us, h => by simp; exact zip_snoc (by simpa using h)
theorem RepL.dsub {κ : Type} [DecidableEq κ] {K : PySem.W.Frag} {B : Hp} {k : κ} {d : D} {v : V} (r : Rep K B d v []) : ∀ {ks : List κ} {ds : List D} {us : List V} {f : List Ob}, RepL K B ds us f → ∃ g q, RepL K B (DW.dsub ks ds k d) (DW.dsub ks us k v) g ∧ (g ++ q).Perm f
  | [], ds, us, f, h => ⟨f, [], by cases ds <;> cases us <;> exact h, by simp⟩
  | _ :: _, [], us, f, h => by obtain ⟨rfl, rfl⟩ := h; exact ⟨[], [], ⟨rfl, rfl⟩, by simp⟩
  | k0 :: ks, d0 :: ds, us, f, h => by
    obtain ⟨u, us', f1, f2, rfl, rfl, h3, h4⟩ := h
    obtain ⟨g, q, k1, k2⟩ := RepL.dsub (ks := ks) r h4
    unfold DW.dsub
    by_cases e : k0 = k
    · rw [if_pos e, if_pos e]
      refine ⟨g, q ++ f1, ⟨v, _, [], g, rfl, rfl, r, k1⟩, ?_⟩
      rw [← List.append_assoc]
      exact (k2.append_right f1).trans List.perm_append_comm
    · rw [if_neg e, if_neg e]
      refine ⟨f1 ++ g, q, ⟨u, _, f1, g, rfl, rfl, h3, k1⟩, ?_⟩
      rw [List.append_assoc]
      exact k2.append_left f1
theorem dput_rep {κ : Type} [DecidableEq κ] {K : PySem.W.Frag} {B : Hp} {k : κ} {d : D} {v : V} (r : Rep K B d v []) {ks : List κ} {ds : List D} {us : List V} {f : List Ob} (h : RepL K B ds us f) (hl : ks.length = us.length) :
    ∃ us' g q, putK (ks.zip us) k v = (dputK ks k).zip us' ∧ (dputK ks k).length = us'.length ∧ RepL K B (dputV ks ds k d) us' g ∧ (g ++ q).Perm f := by
  unfold putK dputK dputV
  rw [zip_any k hl]
  by_cases e : k ∈ ks
  · rw [if_pos (decide_eq_true e), if_pos e, if_pos e, zip_sub k v hl]
    obtain ⟨g, q, k1, k2⟩ := RepL.dsub (ks := ks) (k := k) r h
    exact ⟨_, g, q, rfl, by rw [dsub_len]; exact hl, k1, k2⟩
  · rw [if_neg (by rw [decide_eq_false e]; decide), if_neg e, if_neg e, zip_snoc hl]
    exact ⟨_, f ++ [], [], rfl, by simp [hl], h.snoc r, by simp⟩
/-- x[e2] = e, x a dict -/
def sSetD (i : Nat) (f f2 : Env → R D) (F : Env → Out) : Env → Out := fun E => onR (f E) fun d E1 => match gt E1 i with
  | some (.dct true _ _) => onR (f2 E1) fun k E2 => match gt E2 i, keyD k with
    | some (.dct true ks vs), some k => if ks.length < 100000 then F (E2.set i (some (.dct true (dputK ks k) (dputV ks vs k (frz d))))) else .bad
    | _, _ => .bad
  | _ => .bad
theorem exs_setD (hu : X.A.units + 1 < cLine) (n : Slot X i x) (h : EvR X W e f) (h2 : EvR X W e2 f2) (hF : ExS X W S rest F) (hs : swapsWith e (some (.Subscript (.Name x p1) e2 pos')) pos.line X.env = pure false := by rfl) : ExS X W S (.Assign [.Subscript (.Name x p1) e2 pos'] e pos :: rest) (sSetD i f f2 F) := ⟨fun E σ B l fr H N re cf af =>
  s_of (ps_dput hu pE pE pE hs) (h.run E σ B l fr H _ re cf (AfterS.expr (β := V) af fun d E1 v B1 l1 fp1 H1 _ x1 re1 rv1 cf1 af1 => by
    split at af1
    · rename_i ks0 ds0 h0
      obtain ⟨p, vs, f0, k1, k2, hv, _, rfl, _⟩ := slot_dct re1 h0
      refine go (e_slot n hv) cf1 fun H2 x2 c2 => h2.run E1 σ B1 _ (fp1 ++ fr) H2 _ re1 (Cfg.perm c2 (by walk_at "perm")) (AfterS.next (β := V) af1 fun k E2 u B2 l2 fp2 H3 _ x3 re2 rv2 cf2 af2 => ?_)
      split at af2
      · rename_i ks ds k' h3 hk
        split at af2
        · rename_i hz
          obtain rfl := keyD_rep hk rv2
          have cf3 : Cfg B2 (fp1 ++ (l2 ++ fr)) H3 := Cfg.dropL (a := fp2) (Cfg.perm cf2 (by walk_at "perm"))
          obtain ⟨B3, x4, c4, st⟩ := Cfg.keepL (a := fp1) cf3
          have rd := (rv1.mono x3).frz x4 st
          obtain ⟨p', us, f3, q1, q2, hv3, h5, rfl, hl, up⟩ := slot_dct (re2.mono x4) h3
          rw [hv] at hv3
          cases hv3
          obtain ⟨us', g, q, e1, e2, e3, e4⟩ := dput_rep (k := k') rd hl h5
          have c0 : Cfg B3 ([(p, .dK (ks.zip us))] ++ (f3 ++ (q1 ++ q2 ++ fr))) H3 := Cfg.perm c4 (by walk_at "perm")
          refine ⟨p, _, rfl, DPut.k (c0.own p (.dK (ks.zip us)) (by simp)) (by rw [List.length_zip, ← h5, Nat.min_self]; exact sz_lt hz), ?_⟩
          rw [e1]
          refine hF.run _ σ B3 _ fr _ N (up B3 _ _ _ _ (Ex.refl _) e2 e3) (Cfg.dropL (a := q) (Cfg.perm (Cfg.upd (o' := .dK ((dputK ks k').zip us')) c0) ?_)) (AfterS.up x4 Par.refl af2)
          refine List.perm_iff_count.mpr fun a => ?_
          have := List.perm_iff_count.mp e4 a
          simp only [List.count_append, List.count_nil] at this ⊢
          omega
        · exact af2.elim
      · exact af2.elim
    · exact af1.elim))⟩
/-! x op= e -/
def rAugD : TIp := fun x y H Q => ipI (fun i j => i + j) x y H Q ∨ (∃ i j, x = .str i ∧ y = .str j ∧ i.length + j.length ≤ sizeLine ∧ Q (.str (i ++ j)) H)
theorem pip_add : PIp X .Add rAugD := by
  intro pins s σ H x y v u Q I r1 r2 h
  rcases h with h | h
  · exact ip_add pins s σ H x y v u Q I r1 r2 h
  · exact ip_adds pins s σ H x y v u Q I r1 r2 h
def augAddD : D → D → Option D
  | .int i, .int j => some (.int (i + j))
  | .str x, .str y => if x.length + y.length ≤ 100000 then some (.str (x ++ y)) else none
  | _, _ => none
theorem op2_augAdd {K : PySem.W.Frag} : Op2 K rAugD augAddD := ⟨fun B H L v1 v2 f1 f2 d1 d2 r Q r1 r2 m1 m2 c hF k => by
  unfold augAddD at hF
  split at hF
  · cases hF
    obtain ⟨rfl, _⟩ := r1
    obtain ⟨rfl, _⟩ := r2
    exact .inl ⟨_, _, rfl, rfl, k _ [] B H (Ex.refl _) ⟨rfl, rfl⟩ c⟩
  · split at hF
    · rename_i hz
      cases hF
      obtain ⟨rfl, _⟩ := r1
      obtain ⟨rfl, _⟩ := r2
      exact .inr ⟨_, _, rfl, rfl, s2z hz, k _ [] B H (Ex.refl _) ⟨rfl, rfl⟩ c⟩
    · cases hF
  · cases hF⟩
theorem op2_augSub {K : PySem.W.Frag} : Op2 K (ipI fun i j => i - j) subD := ⟨fun B H L v1 v2 f1 f2 d1 d2 r Q r1 r2 m1 m2 c hF k => by
  unfold subD intD at hF
  split at hF
  · cases hF
    obtain ⟨rfl, _⟩ := r1
    obtain ⟨rfl, _⟩ := r2
    exact ⟨_, _, rfl, rfl, k _ [] B H (Ex.refl _) ⟨rfl, rfl⟩ c⟩
  · cases hF⟩
def augMulD : D → D → Option D
  | .int i, .int j => if mulB i j = true then some (.int (i * j)) else none
  | _, _ => none
theorem op2_augMul {K : PySem.W.Frag} : Op2 K (fun x y H Q => ∃ i j, x = .int i ∧ y = .int j ∧ (CMul i j ∨ CMulW i j) ∧ Q (.int (i * j)) H) augMulD := ⟨fun B H L v1 v2 f1 f2 d1 d2 r Q r1 r2 m1 m2 c hF k => by
  unfold augMulD at hF
  split at hF
  · split at hF
    · rename_i hb
      cases hF
      obtain ⟨rfl, _⟩ := r1
      obtain ⟨rfl, _⟩ := r2
      exact ⟨_, _, rfl, rfl, mulB_ok hb, k _ [] B H (Ex.refl _) ⟨rfl, rfl⟩ c⟩
    · cases hF
  · cases hF⟩
theorem exs_aug {op : Operator} {ti : TIp} {o2 : D → D → Option D} (n : Own X i x) (hi : i ∉ S) (ho : PIp X op ti) (hs : Op2 X.K ti o2) (h : EvR X W e f) (hF : ExS X W S rest F) : ExS X W S (.AugAssign (.Name x p1) op e pos :: rest) (sAug i o2 f F) := ⟨fun E σ B l fr H N re cf af => by
  unfold sAug at af
  cases hg : gt E i with
  | none => rw [hg] at af; exact af.elim
  | some a =>
    rw [hg] at af
    dsimp only at af
    obtain ⟨v, f1, f0, f2, hv, rfl, hr, hp, _⟩ := re.at (gt_some hg)
    by_cases no : noOwn a = true
    · rw [if_pos no] at af
      obtain rfl := hr.none no
      refine s_aug n ho hv (h.run E σ B _ fr H _ re cf (AfterS.expr (β := V) af fun d E1 u B1 l1 fp1 H1 _ x1 re1 rv1 cf1 af1 => ?_))
      cases hF2 : o2 a d with
      | none => rw [hF2] at af1; exact af1.elim
      | some r =>
        rw [hF2] at af1
        refine hs.run B1 H1 (fp1 ++ (l1 ++ fr)) v u [] fp1 a d r _ (hr.mono x1) rv1 (by simp) (fun ob m => List.mem_append_left _ m) cf1 hF2 fun w fp B' H' x' rr c' => ?_
        have hl : i < E1.length := by rw [re1.len]; exact (List.getElem?_eq_some_iff.mp hv).1
        obtain ⟨g1, g0, g2, rfl, hp'⟩ := re1.put hl
        exact hF.run _ _ B' _ fr H' N (hp' B' r w fp x' rr) (Cfg.dropL (a := fp1 ++ g0) (Cfg.perm c' (by walk_at "perm"))) (AfterS.up x' (Par.set hi) af1)
    · rw [if_neg no] at af; exact af.elim⟩
end
end DW
/-! DW15: what a def's derivation leans on; defaults. -/
namespace DW
open PySem L2 Evl QW
open PySem.Spec PyProof.Rows
/-- the facts at hand in a def's body, or in a block of it -/
structure Cxt (Pr : World → PySem.W.Frag → (Str → Option Value) → Prop) (X : Cx) (k : Nat) : Prop where
  T : Pr X.w X.K X.mg
  room : Room k X.A
  calm : X.calm = true
theorem Cxt.blk {Pr : World → PySem.W.Frag → (Str → Option Value) → Prop} {X X' : Cx} {k : Nat} {s : Scope} (c : Cxt Pr X k) (b : Blk X s X') : Cxt Pr X' k := by
  obtain ⟨h1, h2, _, h4, _, _, h7, _, h9⟩ := b.K
  exact ⟨by rw [h1, h2, h7]; exact c.T, by rw [h4]; exact c.room, by rw [h9]; exact c.calm⟩
theorem Cxt.u {Pr : World → PySem.W.Frag → (Str → Option Value) → Prop} {X : Cx} {k : Nat} (c : Cxt Pr X k) : X.A.units + 64 < cLine := c.room.units
theorem Cxt.u1 {Pr : World → PySem.W.Frag → (Str → Option Value) → Prop} {X : Cx} {k : Nat} (c : Cxt Pr X k) : X.A.units + 1 < cLine := by have := c.room.units; omega
theorem Cxt.u65 {Pr : World → PySem.W.Frag → (Str → Option Value) → Prop} {X : Cx} {k : Nat} (c : Cxt Pr X k) : X.A.units + 65 < cLine := by have := c.room.un; omega
/-- how many operands arguments are -/
def ALen (a : Env → R (List Opd)) (n : Nat) : Prop := ∀ E os E', a E = .ok os E' → os.length = n
theorem alen_nil : ALen aN 0 := fun E os E' h => by cases h; rfl
theorem alen_cons {g : Env → R Opd} {a : Env → R (List Opd)} {n : Nat} (h : ALen a n) : ALen (aC g a) (n + 1) := fun E os E' e => by
  unfold aC at e
  cases hg : g E with
  | bad => rw [hg] at e; cases e
  | exc c ns vs E1 => rw [hg] at e; cases e
  | ok o E1 =>
    rw [hg] at e
    have e : (a E1).bind (fun os E3 => R.ok (o :: os) E3) = .ok os E' := e
    cases ha : a E1 with
    | bad => rw [ha] at e; cases e
    | exc c ns vs E1 => rw [ha] at e; cases e
    | ok os' E2 =>
      rw [ha] at e
      cases e
      show os'.length + 1 = n + 1
      rw [h _ os' _ ha]
section
variable {X : Cx} {W : WX} {e : Expr} {es : List Expr} {a : Env → R (List Opd)} {x : Str} {k j np : Nat} {f : Fn} {dfl : List D} {dvs : List V} {p pos : Pos} {Pr : World → PySem.W.Frag → (Str → Option Value) → Prop}
theorem evr_call' (c : Cxt Pr X k) (C : Callee X.prog X.w X.K X.mg X.base j x dvs (spD np f X.K)) (hj : j ≤ k) (hg : Gl X x) (tk : Takes X W) (hd : ∀ B, RepL X.K B dfl dvs []) (hl : (e :: es).length + dvs.length = np) (h : EvA X W (e :: es) a) (hal : ALen a (e :: es).length) (hdb : (x == ("__debug__" : Str)) = false := by decide +kernel)
    (he : starEach (e :: es) X.env = (false, eval e X.env) :: starEach es X.env := by rfl) (hpl : (backTo pos (starEach es X.env)).any (·.1) = false := by rfl) : EvR X W (.Call (.Name x p) (e :: es) [] pos) (callR f dfl a) :=
  evr_call C c.room hj hg tk hd hl h hdb hal he hpl
end
theorem nodfl {K : PySem.W.Frag} {B : Hp} : RepL K B [] [] [] := ⟨rfl, rfl⟩
/-! comparisons as tests -/
def tV (f : Env → R D) : Env → R Bool := fun E => (f E).bind fun d E1 => match d with
  | .bl b => .ok b E1
  | _ => .bad
section
variable {X : Cx} {W : WX} {e1 e2 : Expr} {g1 g2 : Env → R Opd} {pos : Pos} {F : D → D → Option D} {rop : R2}
theorem evt_cmp {op : CmpOp} (ho : OpR X (compareOp op) rop) (hs : Op2 X.K rop F) (h1 : EvO X W e1 g1) (h2 : EvO X W e2 g2) (hm : behindInMarks op e2 = false := by first | exact nobehind _ (by decide) (by decide) | rfl) : EvT X W (.Compare e1 [op] [e2] pos) (tV (op2 F g1 g2)) :=
  ⟨fun E σ B l fr H Q re cf af => wT_of (pt_cmp (pc_R ho pE pE) hm) (two (Q := fun x H1 => ∃ c, x = .bl c ∧ Q c H1) h1 h2 hs re cf (After.first (β := Bool) (δ := V) af fun d E1 v B1 l1 fp1 H1 _ x1 re1 rv1 cf1 af1 => by
    split at af1
    · rename_i b _
      obtain ⟨rfl, rfl⟩ := rv1
      exact ⟨b, rfl, af1 _ B1 l1 [] H1 (Ex.refl _) re1 ⟨rfl, rfl⟩ cf1⟩
    · exact af1.elim))⟩
end
end DW
/-! DW16: ways never taken, defaults, keywords, texts' methods, x[i] += e, a, b = e. -/
namespace DW
open PySem L2 Evl QW
open PySem.Spec PyProof.Rows
local macro_rules | `(tactic| walk_at "perm") => `(tactic| (refine List.perm_iff_count.mpr fun _ => ?_; simp only [List.count_append, List.count_nil]; omega))
/-! ### never taken -/
section
variable {X : Cx} {W : WX} {S : List Nat} {e e1 e2 : Expr} {sts rest : List Stmt} {f f2 : Env → R D} {g g1 g2 : Env → R Opd} {F : Env → Out} {pos pos' p' p1 p2 ap tpos : Pos} {i : Nat} {x : Str}
def rBad : Env → R D := fun _ => .bad
def sBad : Env → Out := fun _ => .bad
def tBad : Env → R Bool := fun _ => .bad
theorem evr_bad : EvR X W e rBad := ⟨fun E σ B l fr H Q re cf af => af.elim⟩
theorem exs_bad : ExS X W S sts sBad := ⟨fun E σ B l fr H N re cf af => af.elim⟩
theorem evt_bad : EvT X W e tBad := ⟨fun E σ B l fr H Q re cf af => af.elim⟩
/-! ### texts' methods of one argument -/
def m1S (F : D → D → Option D) (g1 g2 : Env → R Opd) : Env → R D := fun E => (g1 E).bind fun o1 E1 => match o1.val E1 with
  | some (.str z) => (g2 E1).bind fun o2 E2 => match o2.val E2 with
    | some d2 => match F (.str z) d2 with
      | some r => .ok r E2
      | none => .bad
    | none => .bad
  | _ => .bad
theorem evr_m1S {nm : Str} {id : String} {r : V → List V → Hp → VK → Prop} {F : D → D → Option D} (slot : PySem.Slot "str" nm id) (hty : typeOf (.builtin id) = pure (.type "method_descriptor")) (hm : MtR X id r) (ho : Op2 X.K (fun v u H Q => r v [u] H Q) F) (h1 : EvO X W e1 g1) (h2 : EvO X W e2 g2)
    (hbase : attributeBase e1 nm X.env (eval e1 X.env) = eval e1 X.env := by rfl)
    (hfew : ((backTo pos (starEach (e2 :: []) X.env)).all (fun x => !x.1) && (backToKw pos (keywordEach [] X.env)).all (fun x => x.1.isSome)
      && decide ((e2 :: []).length + ([] : List Keyword).length + (if ([] : List Keyword).isEmpty then 0 else 1) < 30)) = true := by rfl)
    (hline : (ap.endLine == pos.line) = true := by rfl) (hs : starEach (e2 :: []) X.env = (false, eval e2 X.env) :: starEach [] X.env := by rfl) (hplain : (backTo pos (starEach [] X.env)).any (·.1) = false := by rfl) :
    EvR X W (.Call (.Attribute e1 nm ap) [e2] [] pos) (m1S F g1 g2) := ⟨fun E σ B l fr H Q re cf af =>
  w_bm PySem.F.plainAttrs_str slot hty hm (h1.run E σ B l fr H _ re cf (After.first (β := V) (δ := V) af fun o1 E1 v1 B1 l1 fp1 H1 _ x1 re1 rv1 cf1 af1 => by
    split at af1
    · rename_i z hv1
      obtain ⟨f1, r1, m1⟩ := rv1.get re1 hv1
      obtain ⟨rfl, rfl⟩ := r1
      refine ⟨rfl, w_acons (h2.run E1 σ B1 l1 fr H1 _ re1 (Cfg.dropL cf1) (After.first (β := V) (δ := V) af1 fun o2 E2 v2 B2 l2 fp2 H2 _ x2 re2 rv2 cf2 af2 => w_anil ?_)) hs⟩
      split at af2
      · rename_i d2 hv2
        obtain ⟨f2, r2, m2⟩ := rv2.get re2 hv2
        split at af2
        · rename_i rr hF
          refine ho.run B2 H2 (fp2 ++ (l2 ++ fr)) (.str z) v2 [] f2 (.str z) d2 rr Q ⟨rfl, rfl⟩ r2 (by simp) (fun ob m => ?_) cf2 hF fun v fp B3 H3 x3 r3 cf3 => af2 v B3 l2 fp H3 x3 (re2.mono x3) r3 (Cfg.dropL (a := fp2) (Cfg.perm cf3 (by walk_at "perm")))
          have := m2 ob m
          simp only [List.mem_append] at this ⊢
          rcases this with h | h
          · exact .inl h
          · exact .inr (.inl h)
        · exact af2.elim
      · exact af2.elim
    · exact af1.elim)) hbase hfew hline hs hplain⟩
def findD : D → D → Option D
  | .str a, .str b => some (.int (Txt.find a b))
  | _, _ => none
theorem op2_find {K : PySem.W.Frag} : Op2 K (fun v u H Q => ∃ a b, v = .str a ∧ [u] = [V.str b] ∧ Q (.int (Txt.find a b)) H) findD := ⟨fun B H L v1 v2 f1 f2 d1 d2 r Q r1 r2 m1 m2 c hF k => by
  unfold findD at hF
  split at hF
  · cases hF
    obtain ⟨rfl, _⟩ := r1
    obtain ⟨rfl, _⟩ := r2
    exact ⟨_, _, rfl, rfl, k _ [] B H (Ex.refl _) ⟨rfl, rfl⟩ c⟩
  · cases hF⟩
def sindexD : D → D → Option D
  | .str a, .str b => match Builtin.Str.occurrences a b 0 a.length 1 with
    | i :: _ => some (.int (i : Nat))
    | [] => none
  | _, _ => none
theorem op2_sindex {K : PySem.W.Frag} : Op2 K (fun v u H Q => ∃ a b i rest, v = .str a ∧ [u] = [V.str b] ∧ Builtin.Str.occurrences a b 0 a.length 1 = i :: rest ∧ Q (.int (i : Nat)) H) sindexD := ⟨fun B H L v1 v2 f1 f2 d1 d2 r Q r1 r2 m1 m2 c hF k => by
  unfold sindexD at hF
  split at hF
  · split at hF
    · rename_i i rest ho
      cases hF
      obtain ⟨rfl, _⟩ := r1
      obtain ⟨rfl, _⟩ := r2
      exact ⟨_, _, i, rest, rfl, rfl, ho, k _ [] B H (Ex.refl _) ⟨rfl, rfl⟩ c⟩
    · cases hF
  · cases hF⟩
/-- the texts of a row -/
def strsD : List D → Option (List Str)
  | [] => some []
  | .str z :: ds => (strsD ds).map (z :: ·)
  | _ => none
theorem strsD_map : ∀ ns : List Str, strsD (ns.map .str) = some ns
  | [] => rfl
  | n :: ns => by
    show (strsD (ns.map .str)).map (n :: ·) = _
    rw [strsD_map ns]; rfl
theorem strsD_rep {K : PySem.W.Frag} {B : Hp} : ∀ {ds : List D} {zs : List Str} {vs : List V} {f : List Ob}, strsD ds = some zs → RepL K B ds vs f → vs = zs.map V.str
  | [], _, _, _, e, h => by cases e; exact h.1
  | d :: ds, zs, vs, f, e, h => by
    obtain ⟨v, vs', f1, f2, rfl, _, h3, h4⟩ := h
    cases d with
    | str z =>
      simp only [strsD, Option.map_eq_some_iff] at e
      obtain ⟨zs', e1, rfl⟩ := e
      rw [h3.1, strsD_rep e1 h4]; rfl
    | _ => cases e
def joinD : D → D → Option D
  | .str a, .lst _ xs => match strsD xs with
    | some ys => if (ys.map (·.length)).sum + ys.length * a.length ≤ 100000 then some (.str (Txt.join a ys)) else none
    | none => none
  | _, _ => none
theorem op2_join {K : PySem.W.Frag} : Op2 K (fun v u H Q => ∃ a p, ∃ ys : List Str, v = .str a ∧ [u] = [V.ref p] ∧ (SqL K H p (ys.map V.str) ∨ SqT K H p (ys.map V.str)) ∧ (ys.map (·.length)).sum + ys.length * a.length ≤ 16777216 ∧ Q (.str (Txt.join a ys)) H) joinD := ⟨fun B H L v1 v2 f1 f2 d1 d2 r Q r1 r2 m1 m2 c hF k => by
  unfold joinD at hF
  split at hF
  · split at hF
    · split at hF
      · rename_i ys hy hz
        cases hF
        obtain ⟨rfl, _⟩ := r1
        obtain ⟨p, vs, g, rfl, h1, h2, _⟩ := r2.isL c m2
        rw [strsD_rep hy h2] at h1
        exact ⟨_, p, ys, rfl, rfl, .inl (SqL.of h1), by omega, k _ [] B H (Ex.refl _) ⟨rfl, rfl⟩ c⟩
      · cases hF
    · cases hF
  · cases hF⟩
/-! ### x[e2] op= e, ints -/
def sAugL (i : Nat) (h : Int → Int → Int) (f2 f : Env → R D) (F : Env → Out) : Env → Out := fun E => match gt E i with
  | some (.lst true _) => onR (f2 E) fun k E1 => match gt E1 i, k with
    | some (.lst true xs), .int j => match ixN xs.length j with
      | some q => match xs[q]? with
        | some (.int a) => onR (f E1) fun d E2 => match gt E2 i, d with
          | some (.lst true ys), .int c => if ys.length = xs.length then F (E2.set i (some (.lst true (ys.set q (.int (h a c)))))) else .bad
          | _, _ => .bad
        | _ => .bad
      | none => .bad
    | _, _ => .bad
  | _ => .bad
theorem exs_augL {op : Operator} {h : Int → Int → Int} (n : Slot X i x) (hp : PIp X op (ipI h)) (h2 : EvR X W e2 f2) (h1 : EvR X W e f) (hF : ExS X W S rest F)
    (ha : ∀ ov iv new, augStore e2 ov iv new = (do holding [new, ov, iv] (setItem ov iv new); release [new, ov, iv] []; pure .next) := by intros; rfl) : ExS X W S (.AugAssign (.Subscript (.Name x p1) e2 tpos) op e pos :: rest) (sAugL i h f2 f F) := ⟨fun E σ B l fr H N re cf af => by
  unfold sAugL at af
  split at af
  · rename_i xs0 h0
    obtain ⟨p, vs, f0, k1, k2, hv, rfl, _⟩ := slot_lst re h0
    refine s_of (ps_augS pE pE get_list pE hp set_list ha) (go (e_slot n hv) cf fun H1 x1 c1 => h2.run E σ B _ fr H1 _ re c1 (AfterS.expr (β := V) af fun k E1 u B1 l1 fp1 H2 _ x2 re1 rv1 cf1 af1 => ?_))
    split at af1
    · rename_i xs j h3 _
      split at af1
      · rename_i q hq
        split at af1
        · rename_i a hxq
          obtain ⟨p', us, f3, q1, q2, hv3, rfl, hl, _⟩ := slot_lst re1 h3
          rw [hv] at hv3
          cases hv3
          obtain ⟨rfl, rfl⟩ := rv1
          obtain ⟨u0, g1, g0, g2, hu0, _, hr0, _⟩ := hl.at hxq
          obtain ⟨rfl, _⟩ := hr0
          obtain ⟨_, hq2, _⟩ := ixN_seq hq
          refine ⟨p, us, j, .int a, rfl, rfl, SqL.of (cf1.own p (.lst us) (by simp)), ?_, h1.run E1 σ B1 _ fr H2 _ re1 cf1 (AfterS.expr (β := V) af1 fun d E2 u2 B2 l2 fp2 H3 _ x3 re2 rv2 cf2 af2 => ?_)⟩
          · unfold atI
            rw [← hl.len, hq]
            exact hu0
          · split at af2
            · rename_i ys c h4 _
              split at af2
              · rename_i hlen
                obtain ⟨p'', ws, f4, q3, q4, hv4, rfl, hl2, up⟩ := slot_lst re2 h4
                rw [hv] at hv4
                cases hv4
                obtain ⟨rfl, rfl⟩ := rv2
                obtain ⟨g, r, kl, pm⟩ := RepL.setAt (K := X.K) (B := B2) (d := .int (h a c)) (v := .int (h a c)) (fp := []) ⟨rfl, rfl⟩ q (by omega) hl2
                have c0 : Cfg B2 ([(p, .lst ws)] ++ (f4 ++ (q3 ++ q4 ++ fr))) H3 := Cfg.perm cf2 (by walk_at "perm")
                refine ⟨a, c, rfl, rfl, p, ws, j, q, rfl, rfl, c0.own _ _ (by simp), by rw [← hl2.len, hlen]; exact hq, hF.run _ σ B2 _ fr _ N (up B2 _ _ _ (Ex.refl _) kl) (Cfg.dropL (a := r) (Cfg.perm (Cfg.upd (o' := .lst (ws.set q (.int (h a c)))) c0) ?_)) af2⟩
                refine List.perm_iff_count.mpr fun a => ?_
                have := List.perm_iff_count.mp pm a
                simp only [List.count_append, List.count_nil] at this ⊢
                omega
              · exact af2.elim
            · exact af2.elim
        · exact af1.elim
      · exact af1.elim
    · exact af1.elim
  · exact af.elim⟩
end
end DW
/-! DW17: tables of the module, sorted texts, list(range()), slices with a step. -/
namespace DW
open PySem L2 Evl QW
open PySem.Spec PyProof.Rows
local macro_rules | `(tactic| walk_at "perm") => `(tactic| (refine List.perm_iff_count.mpr fun _ => ?_; simp only [List.count_append, List.count_nil]; omega))
/-! ### a table of the module: texts to tuples of whole numbers -/
/-- what is known of it -/
def TabF (w : World) (K : PySem.W.Frag) (mg : Str → Option Value) (x : Str) (rows : List (Str × List Int)) : Prop :=
  ∃ d, mg x = some (.ref d) ∧ ∀ r ∈ rows, ∃ a, KDct K w d r.1 (.ref a) ∧ ∀ H, SqT K H a (r.2.map V.int)
def tlook : List (Str × List Int) → Str → Option (List Int)
  | [], _ => none
  | r :: rs, z => if r.1 = z then some r.2 else tlook rs z
theorem tlook_mem : ∀ {rows : List (Str × List Int)} {z : Str} {ns : List Int}, tlook rows z = some ns → (z, ns) ∈ rows
  | [], _, _, h => by cases h
  | (a, b) :: rs, z, ns, h => by
    unfold tlook at h
    split at h
    · rename_i e
      have e : a = z := e
      cases h
      subst e
      exact List.mem_cons_self
    · exact List.mem_cons_of_mem _ (tlook_mem h)
def tabD (rows : List (Str × List Int)) : D → Option D
  | .str z => (tlook rows z).map .ktp
  | _ => none
section
variable {X : Cx} {W : WX} {S : List Nat} {e e1 e2 e3 c tg it : Expr} {es elts : List Expr} {f f1 f2 : Env → R D} {g g1 g2 g3 : Env → R Opd} {t t1 t2 t3 : Env → R Bool} {a : Env → R (List Opd)} {F : Env → Out} {pos pos' p' tpos p1 p2 p3 ap : Pos} {kk i : Nat} {x : Str} {rest : List Stmt}
theorem evr_tab {rows : List (Str × List Int)} (hg : Gl X x) (hT : TabF X.w X.K X.mg x rows) (h2 : EvO X W e2 g) (hd : (x == ("__debug__" : Str)) = false := by decide +kernel) (hp : PlainIx e2 := by exact fun _ _ => rfl) : EvR X W (.Subscript (.Name x p1) e2 pos) (op1 (tabD rows) g) := ⟨fun E σ B l fr H Q re cf af => by
  obtain ⟨d, hm, hr⟩ := hT
  refine w_ix ix_kdict (go (e_gl hg hm (v := .ref d) rfl hd) cf fun H1 x1 c1 => one (rop1 := fun v H Q => L2.rIxD X.K X.w (V.ref d) v H Q) h2 ⟨fun B H L v1 f1 d1 r Q r1 m1 c hF k => ?_⟩ re c1 af) hp
  unfold tabD at hF
  split at hF
  · simp only [Option.map_eq_some_iff] at hF
    obtain ⟨ns, e, rfl⟩ := hF
    obtain ⟨rfl, _⟩ := r1
    obtain ⟨a, ha, hs⟩ := hr _ (tlook_mem e)
    exact ⟨d, _, .ref a, rfl, rfl, ha, k _ [] B H (Ex.refl _) ⟨rfl, a, rfl, hs B⟩ c⟩
  · cases hF⟩
end
/-! ### sorted, texts, any number of them -/
def rSortedSA (K : PySem.W.Frag) : List V → Hp → VK → Prop := fun vs H Q => ∃ (a : Addr) (xs : List Str), vs = [V.ref a] ∧ SqL K H a (xs.map V.str) ∧
  ∀ (ys : List Str) (p : Addr), ys.Perm xs → sortedS ys = true → H p = none → Q (.ref p) (upd H p (.lst (ys.map V.str)))
theorem cr_sortedSA {X : Cx} : CallR X (.builtin "sorted") (rSortedSA X.K) := by
  intro pins s σ H vs us Q I r h
  obtain ⟨a, xs, rfl, hs, q⟩ := h
  obtain ⟨its, rv, hl, hz⟩ := I.list hs
  rw [Vals.ref1 r]
  have hlen0 := rv.length
  rw [List.length_map] at hlen0
  rw [List.length_map] at hz
  refine PyProof.Rows.sorted_strsAny hl.isList rv.strs (by rw [← hlen0]; exact hz) fun out ys h1 h2 h3 => ?_
  obtain ⟨ep, he'⟩ := PyProof.Rows.sortedAll_at s.heap its out
  have hlen : (ys.map V.str).length ≤ sizeLine := by rw [List.length_map, h2.length_eq]; exact hz
  exact ⟨.ref _, upd H (s.heap.objs.size + 1) (.lst (ys.map V.str)), I.laid (t' := s.toks) (fun _ _ => PyProof.Rows.sortedAll_old) (Nat.le_succ _) ⟨hlen, out.toList, ep, vals_of_strs h1, he'⟩, rfl, q ys _ h2 h3 (I.hok.fresh (Nat.le_succ _))⟩
def leS (a b : Str) : Bool := !ltCps b.cps.toList a.cps.toList
theorem leS_iff {a b : Str} : leS a b = true ↔ a.cps.toList ≤ b.cps.toList := by
  unfold leS
  rw [ltCps_eq]
  simp
theorem leS_trans (a b c : Str) (h1 : leS a b = true) (h2 : leS b c = true) : leS a c = true := leS_iff.mpr (Std.le_trans (leS_iff.mp h1) (leS_iff.mp h2))
theorem leS_anti {a b : Str} (h1 : leS a b = true) (h2 : leS b a = true) : a = b := by
  have : a.cps.toList = b.cps.toList := Std.le_antisymm (leS_iff.mp h1) (leS_iff.mp h2)
  cases a; cases b
  congr 1
  exact Array.ext' this
theorem leS_total (a b : Str) : (leS a b || leS b a) = true := by
  rw [Bool.or_eq_true, leS_iff, leS_iff]
  exact Std.le_total
theorem risingS_pw : ∀ {ys : List Str} {y : Str}, risingS y ys = true → (y :: ys).Pairwise (fun a b => leS a b = true)
  | [], y, h => List.pairwise_singleton _ _
  | z :: zs, y, h => by
    have h' : (leS y z && risingS z zs) = true := h
    rw [Bool.and_eq_true] at h'
    have ih := risingS_pw h'.2
    refine List.pairwise_cons.mpr ⟨fun u m => ?_, ih⟩
    rcases List.mem_cons.mp m with rfl | m
    · exact h'.1
    · exact leS_trans _ _ _ h'.1 ((List.pairwise_cons.mp ih).1 u m)
theorem sortedS_pw : ∀ {ys : List Str}, sortedS ys = true → ys.Pairwise (fun a b => leS a b = true)
  | [], _ => List.Pairwise.nil
  | _ :: _, h => risingS_pw h
def sortT (zs : List Str) : List Str := zs.mergeSort leS
theorem sortT_uniq {ys zs : List Str} (p : ys.Perm zs) (h : sortedS ys = true) : ys = sortT zs := by
  have h2 : (sortT zs).Pairwise (fun a b => leS a b = true) := List.pairwise_mergeSort leS_trans leS_total zs
  exact (p.trans (List.mergeSort_perm _ _).symm).eq_of_pairwise (fun _ _ _ _ => leS_anti) (sortedS_pw h) h2
theorem sortT_of {zs : List Str} (h : sortedS zs = true) : sortT zs = zs := (sortT_uniq (List.Perm.refl _) h).symm
def rSortedX (K : PySem.W.Frag) : List V → Hp → VK → Prop := fun vs H Q => rSortedI K vs H Q ∨ rSortedSA K vs H Q
theorem cr_sortedX {X : Cx} : CallR X (.builtin "sorted") (rSortedX X.K) := DW.CallR.or cr_sortedI cr_sortedSA
def sortedXD (d : D) : Option D := match d with
  | .lst o xs => match strsD xs with
    | some zs => some (.lst true ((sortT zs).map .str))
    | none => sortedD (.lst o xs)
  | d => sortedD d
theorem repL_strs {K : PySem.W.Frag} {B : Hp} : ∀ zs : List Str, RepL K B (zs.map D.str) (zs.map V.str) []
  | [] => ⟨rfl, rfl⟩
  | z :: zs => ⟨_, _, [], [], rfl, rfl, ⟨rfl, rfl⟩, repL_strs zs⟩
theorem op1_sortedX {K : PySem.W.Frag} : Op1 K (fun v H Q => rSortedX K [v] H Q) sortedXD := ⟨fun B H L v1 f1 d1 r Q r1 m1 c hF k => by
  unfold sortedXD at hF
  split at hF
  · split at hF
    · rename_i zs e
      cases hF
      obtain ⟨p, vs, g, rfl, h1, h2, _⟩ := r1.isL c m1
      rw [strsD_rep e h2] at h1
      refine .inr ⟨p, zs, rfl, SqL.of h1, fun ys q pm pw hq => ?_⟩
      rw [sortT_uniq pm pw]
      exact k _ [(q, .lst _)] B _ (Ex.refl _) ⟨q, _, rfl, [], by simp, repL_strs _⟩ (Cfg.new' c hq)
    · exact .inl (op1_sorted.run _ _ _ _ _ _ _ _ r1 m1 c hF k)
  · exact .inl (op1_sorted.run _ _ _ _ _ _ _ _ r1 m1 c hF k)⟩
/-! ### list(range(n)) -/
def rg1D : D → Option D
  | .int n => if n ≤ 1000000 ∧ -1000000 ≤ n then some (.lst true ((List.range (n - 0).toNat).map fun i : Nat => D.int (0 + (i : Int)))) else none
  | _ => none
def rg2D : D → D → Option D
  | .int a, .int b => if -1000000 ≤ a ∧ a ≤ 1000000 ∧ -1000000 ≤ b ∧ b ≤ 1000000 then some (.lst true ((List.range (b - a).toNat).map fun i : Nat => D.int (a + (i : Int)))) else none
  | _, _ => none
/-! ### slices with a step -/
def pickIx (n : Nat) (lo hi st : Option Int) : List Nat := sliceRange (sliceBounds lo hi st n).1 (sliceBounds lo hi st n).2.1 (sliceBounds lo hi st n).2.2
def pickL {α : Type} (xs : List α) (lo hi st : Option Int) : List α := (pickIx xs.length lo hi st).filterMap (xs[·]?)
theorem vals_get {xs : List V} {us : List Value} (h : Vals xs us) (i : Nat) : (xs[i]? = none ∧ us[i]? = none) ∨ ∃ v u, xs[i]? = some v ∧ us[i]? = some u ∧ RelV v u := by
  induction h generalizing i with
  | nil => exact .inl ⟨rfl, rfl⟩
  | cons r t ih =>
    cases i with
    | zero => exact .inr ⟨_, _, rfl, rfl, r⟩
    | succ i => exact ih i
theorem vals_pick {xs : List V} {us : List Value} (h : Vals xs us) : ∀ ix : List Nat, Vals (ix.filterMap (xs[·]?)) (ix.filterMap (us[·]?))
  | [] => .nil
  | i :: ix => by
    rcases vals_get h i with ⟨h1, h2⟩ | ⟨v, u, h1, h2, r⟩
    · rw [List.filterMap_cons_none h1, List.filterMap_cons_none h2]
      exact vals_pick h ix
    · rw [List.filterMap_cons_some h1, List.filterMap_cons_some h2]
      exact .cons r (vals_pick h ix)
theorem repL_get {K : PySem.W.Frag} {B : Hp} : ∀ {xs : List D} {vs : List V}, RepL K B xs vs [] → ∀ i : Nat, (xs[i]? = none ∧ vs[i]? = none) ∨ ∃ d v, xs[i]? = some d ∧ vs[i]? = some v ∧ Rep K B d v []
  | [], vs, h, i => by obtain ⟨rfl, _⟩ := h; exact .inl ⟨rfl, rfl⟩
  | x :: xs, vs, h, i => by
    obtain ⟨v, vs', f1, f2, rfl, hf, h3, h4⟩ := h
    have hf := hf.symm
    rw [List.append_eq_nil_iff] at hf
    obtain ⟨rfl, rfl⟩ := hf
    cases i with
    | zero => exact .inr ⟨_, _, rfl, rfl, h3⟩
    | succ i => exact repL_get h4 i
theorem repL_pick {K : PySem.W.Frag} {B : Hp} {xs : List D} {vs : List V} (h : RepL K B xs vs []) : ∀ ix : List Nat, RepL K B (ix.filterMap (xs[·]?)) (ix.filterMap (vs[·]?)) []
  | [] => ⟨rfl, rfl⟩
  | i :: ix => by
    rcases repL_get h i with ⟨h1, h2⟩ | ⟨v, u, h1, h2, r⟩
    · rw [List.filterMap_cons_none h1, List.filterMap_cons_none h2]
      exact repL_pick h ix
    · rw [List.filterMap_cons_some h1, List.filterMap_cons_some h2]
      exact ⟨_, _, [], [], rfl, rfl, r, repL_pick h ix⟩
def tSlS (K : PySem.W.Frag) (te : TE) (tl th ts : TO) : TE := fun σ H Q => te σ H fun x H1 => tl σ H1 fun l H2 => th σ H2 fun u H3 => ts σ H3 fun st H4 => ∃ a xs, x = .ref a ∧ SqL K H4 a xs ∧ st ≠ some 0 ∧ ∀ p, H4 p = none → Q (.ref p) (upd H4 p (.lst (pickL xs l u st)))
theorem pe_sliceS {X : Cx} {e : Expr} {lo hi st : Option Expr} {te : TE} {tl th ts : TO} {p2 pos : Pos} (he : PE X e te) (hl : PO X lo tl) (hu : PO X hi th) (hst : PO X st ts)
    (hs : ∀ v u, ∃ ops, subscripted (.Slice lo hi st p2) false v u = operate ops (getItem v u)) : PE X (.Subscript e (.Slice lo hi st p2) pos) (tSlS X.K te tl th ts) := by
  refine ⟨fun pins s σ H Q I h => ?_⟩
  refine Subscript_ (thn (he.run pins s σ H _ I h) fun v s1 ⟨x, H1, I1, r1, q1⟩ => ?_)
  refine wpAny_Slice (thn (hl.run pins s1 σ H1 _ I1 q1) fun vl s2 ⟨l, H2, I2, pl, q2⟩ => thn (hu.run pins s2 σ H2 _ I2 q2) fun vu s3 ⟨u, H3, I3, pu, q3⟩ => thn (hst.run pins s3 σ H3 _ I3 q3) fun vs s4 ⟨o, H4, I4, ps, q4⟩ => ?_)
  obtain ⟨a, xs, ex, hx, h0, q⟩ := q4
  subst ex
  cases r1
  have I5 : Inv X pins σ H4 { s4 with heap := s4.heap.push { cls := .type "slice", data := .fields #[vl, vu, vs] } } := I4.kept (t' := s4.toks) fun b ob q => Heap.get?_push_of_some _ q
  obtain ⟨its, r, ht, hz⟩ := I5.list hx
  have hlen := r.length
  show wpAny (model X.prog X.w) X.A (subscriptTail e (.Slice lo hi st p2) (.ref a) (.ref s4.heap.objs.size)) (EP X pins σ Q) X.xe { s4 with heap := s4.heap.push { cls := .type "slice", data := .fields #[vl, vu, vs] } }
  obtain ⟨ops, hops⟩ := hs (.ref a) (.ref s4.heap.objs.size)
  refine tail_any (ops := ops) ht.isList.typeIs (PySem.slot_list_getitem.lookup) ?_ hops
  refine wpAny_getItem_list_slice ht.isList (Heap.IsSliceOf.new _ vl vu vs) pl pu ps h0 ?_ (by rw [List.size_toArray]; omega)
  have e : slicePick its.toArray l u o = ((pickIx xs.length l u o).filterMap (its[·]?)).toArray := by
    unfold slicePick pickIx
    rw [List.size_toArray, ← hlen]
    congr 2
    funext i
    simp
  rw [e]
  refine ⟨.ref _, _, I5.laid (t' := s4.toks) (o := .lst (pickL xs l u o)) (fun b ob q => Heap.get?_push_of_some _ q) (Nat.le_refl _) ?_, rfl, q _ (I5.hok.fresh (Nat.le_refl _))⟩
  refine ⟨?_, _, 0, vals_pick r _, Heap.get?_push_size _ rfl⟩
  have h1 := slicePick_size_le its.toArray l u o
  rw [e, List.size_toArray, List.size_toArray] at h1
  have h2 := (vals_pick r (pickIx xs.length l u o)).length
  unfold pickL
  omega
/-- xs[lo:hi:st] of a list -/
def stepF (d : D) (lo hi st : Option Int) : Option D := match d with
  | .lst _ xs => if noOwnL xs = true ∧ st ≠ some 0 then some (.lst true (pickL xs lo hi st)) else none
  | _ => none
def stepR (g : Env → R Opd) (l h s : Env → R (Option Int)) : Env → R D := fun E => (g E).bind fun o E1 => (l E1).bind fun lo E2 => (h E2).bind fun hi E3 => (s E3).bind fun st E4 => match o.val E4 with
  | some d => match stepF d lo hi st with
    | some r => .ok r E4
    | none => .bad
  | none => .bad
section
variable {X : Cx} {W : WX} {S : List Nat} {e e1 e2 e3 c tg it : Expr} {es elts : List Expr} {f f1 f2 : Env → R D} {g g1 g2 g3 : Env → R Opd} {t t1 t2 t3 : Env → R Bool} {a : Env → R (List Opd)} {F : Env → Out} {pos pos' p' tpos p1 p2 p3 ap : Pos} {kk i : Nat} {x : Str} {rest : List Stmt}
theorem evr_step {lo hi st : Option Expr} {l h s : Env → R (Option Int)} (he : EvO X W e g) (hl : EvP X W lo l) (hh : EvP X W hi h) (hst : EvP X W st s) (hs : ∀ v u, ∃ ops, subscripted (.Slice lo hi st p2) false v u = operate ops (getItem v u) := by exact fun v u => ⟨_, by with_unfolding_all rfl⟩) :
    EvR X W (.Subscript e (.Slice lo hi st p2) pos) (stepR g l h s) := ⟨fun E σ B l0 fr H Q re cf af =>
  wE_of (pe_sliceS pE pO pO pO hs) (he.run E σ B l0 fr H _ re cf (After.first (β := V) (δ := V) af fun o E1 v B1 l1 fp1 H1 _ x1 re1 rv1 cf1 af1 =>
    hl.run E1 σ B1 l1 (fp1 ++ fr) H1 _ re1 (Cfg.perm cf1 (by walk_at "perm")) (After.next (β := V) (δ := Option Int) af1 fun lo E2 lo' B2 l2 fp2 H2 _ x2 re2 rv2 cf2 af2 => by
      obtain ⟨rfl, rfl⟩ := rv2
      exact hh.run E2 σ B2 l2 (fp1 ++ fr) H2 _ re2 cf2 (After.next (β := V) (δ := Option Int) af2 fun hi E3 hi' B3 l3 fp3 H3 _ x3 re3 rv3 cf3 af3 => by
        obtain ⟨rfl, rfl⟩ := rv3
        exact hst.run E3 σ B3 l3 (fp1 ++ fr) H3 _ re3 cf3 (After.next (β := V) (δ := Option Int) af3 fun st E4 st' B4 l4 fp4 H4 _ x4 re4 rv4 cf4 af4 => by
          obtain ⟨rfl, rfl⟩ := rv4
          cases hv : o.val E4 with
          | none => rw [hv] at af4; exact af4.elim
          | some d =>
            rw [hv] at af4
            dsimp only at af4
            cases hF : stepF d lo' hi' st' with
            | none => rw [hF] at af4; exact af4.elim
            | some r =>
              rw [hF] at af4
              obtain ⟨f1, r1, m1⟩ := (((rv1.mono x2).mono x3).mono x4).get re4 hv
              have cf5 : Cfg B4 (fp1 ++ (l4 ++ fr)) H4 := Cfg.perm cf4 (by walk_at "perm")
              unfold stepF at hF
              split at hF
              · split at hF
                · rename_i o' xs hn
                  cases hF
                  obtain ⟨p, vs, g, rfl, h1, h2, _⟩ := r1.isL cf5 fun ob m => by
                    have := m1 ob m
                    simp only [List.mem_append] at this ⊢
                    rcases this with h | h
                    · exact .inl h
                    · exact .inr (.inl h)
                  have n1 := h2.nil_of hn.1
                  have hL : RepL X.K B4 (pickL xs lo' hi' st') (pickL vs lo' hi' st') [] := by
                    unfold pickL
                    rw [n1.len]
                    exact repL_pick n1 _
                  refine ⟨p, vs, rfl, SqL.of h1, hn.2, fun t ht => ?_⟩
                  have rr : Rep X.K B4 (.lst true (pickL xs lo' hi' st')) (.ref t) [(t, .lst (pickL vs lo' hi' st'))] := ⟨t, pickL vs lo' hi' st', rfl, [], rfl, hL⟩
                  exact af4 (.ref t) B4 l4 _ _ (Ex.refl _) re4 rr (Cfg.new' (Cfg.dropL (a := fp1) cf5) ht)
                · cases hF
              · cases hF)))))⟩
theorem repL_rg {K : PySem.W.Frag} {B : Hp} (a : Int) : ∀ ns : List Nat, RepL K B (ns.map fun i : Nat => D.int (a + (i : Int))) (ns.map fun i : Nat => V.int (a + (i : Nat))) []
  | [] => ⟨rfl, rfl⟩
  | n :: ns => ⟨_, _, [], [], rfl, rfl, ⟨rfl, rfl⟩, repL_rg a ns⟩
theorem op1_rg1 {K : PySem.W.Frag} : Op1 K (fun v H Q => ∃ n, v = .int n ∧ RgOk 0 n ∧ ∀ q, H q = none → Q (.ref q) (upd H q (.lst (rgV 0 n)))) rg1D := ⟨fun B H L v1 f1 d1 r Q r1 m1 c hF k => by
  unfold rg1D at hF
  split at hF
  · split at hF
    · rename_i n hn
      cases hF
      obtain ⟨rfl, _⟩ := r1
      refine ⟨n, rfl, ⟨by omega, by omega, by omega, by omega, by omega⟩, fun q hq => ?_⟩
      exact k _ [(q, .lst (rgV 0 n))] B _ (Ex.refl _) ⟨q, rgV 0 n, rfl, [], by simp, repL_rg 0 _⟩ (Cfg.new' c hq)
    · cases hF
  · cases hF⟩
theorem op2_rg2 {K : PySem.W.Frag} : Op2 K (fun v u H Q => ∃ i j, v = .int i ∧ u = .int j ∧ RgOk i j ∧ ∀ q, H q = none → Q (.ref q) (upd H q (.lst (rgV i j)))) rg2D := ⟨fun B H L v1 v2 f1 f2 d1 d2 r Q r1 r2 m1 m2 c hF k => by
  unfold rg2D at hF
  split at hF
  · split at hF
    · rename_i a b hn
      cases hF
      obtain ⟨rfl, _⟩ := r1
      obtain ⟨rfl, _⟩ := r2
      refine ⟨a, b, rfl, rfl, ⟨by omega, by omega, by omega, by omega, by omega⟩, fun q hq => ?_⟩
      exact k _ [(q, .lst (rgV a b))] B _ (Ex.refl _) ⟨q, rgV a b, rfl, [], by simp, repL_rg a _⟩ (Cfg.new' c hq)
    · cases hF
  · cases hF⟩
theorem evr_listRg1 (hc : X.calm = true) (hg : Gl X "list") (hm : X.mg "list" = none) (hg2 : Gl X "range") (hm2 : X.mg "range" = none) (h : EvO X W e g)
    (na : starEach [.Call (.Name "range" p1) [e] [] p2] X.env = (false, eval (.Call (.Name "range" p1) [e] [] p2) X.env) :: starEach [] X.env := by rfl) (nb : starEach [e] X.env = (false, eval e X.env) :: starEach [] X.env := by rfl) :
    EvR X W (.Call (.Name "list" p') [.Call (.Name "range" p1) [e] [] p2] [] pos) (op1 rg1D g) := ⟨fun E σ B l fr H Q re cf af =>
  wE_of (pe_listRg hc hg hm (prg_1 hg2 hm2 pE nb) na) (wE_mono (one h op1_rg1 re cf af) fun v H1 ⟨n, a, b, c⟩ => ⟨n, a, b, c⟩)⟩
theorem evr_listRg2 (hc : X.calm = true) (hg : Gl X "list") (hm : X.mg "list" = none) (hg2 : Gl X "range") (hm2 : X.mg "range" = none) (h1 : EvO X W e1 g1) (h2 : EvO X W e2 g2)
    (na : starEach [.Call (.Name "range" p1) [e1, e2] [] p2] X.env = (false, eval (.Call (.Name "range" p1) [e1, e2] [] p2) X.env) :: starEach [] X.env := by rfl) (nb : starEach [e1, e2] X.env = (false, eval e1 X.env) :: starEach [e2] X.env := by rfl) (nc : starEach [e2] X.env = (false, eval e2 X.env) :: starEach [] X.env := by rfl) (hp : (backTo p2 (starEach [e2] X.env)).any (·.1) = false := by rfl) :
    EvR X W (.Call (.Name "list" p') [.Call (.Name "range" p1) [e1, e2] [] p2] [] pos) (op2 rg2D g1 g2) := ⟨fun E σ B l fr H Q re cf af =>
  wE_of (pe_listRg hc hg hm (prg_2 hg2 hm2 pE pE nb nc hp) na) (wE_mono (two h1 h2 op2_rg2 re cf af) fun v H1 q => wE_mono q fun u H2 ⟨i, j, a, b, c, d⟩ => ⟨i, j, a, b, c, d⟩)⟩
end
end DW
/-! DW18: defs with defaults. -/
namespace DW
open PySem L2 Evl QW
open PySem.Spec PyProof.Rows
local macro_rules | `(tactic| walk_at "perm") => `(tactic| (refine List.perm_iff_count.mpr fun _ => ?_; simp only [List.count_append, List.count_nil]; omega))
/-- a def with defaults: n values are written, the defaults behind the first j fill up -/
theorem callee_mkD {P : Program} {w : World} {K : PySem.W.Frag} {mg : Str → Option Value} {base : Heap} {x : Str} {st : Stmt} {N ps : List Str} {k : Nat} {sp : Sp} {dvs : List V} (F : At K mg x st dvs) (S : FnScope N ps (defScope st)) (n j : Nat) (hd : dvs ≠ []) (hn : n + (dvs.length - j) = ps.length)
    (hb : ∀ (T : Addr) (kV doc pm : Value) (an : Option Addr) (cdv ct : Value) (us its : List Value), us.length = n → its.length = dvs.length →
      ∃ k, bindArgs (PySem.W.fnOf x x (defArgs st) (defBody st) (defScope st) (.ref T) kV doc pm an cdv ct) ⟨us, []⟩ = PySem.seqItems? (.ref T) >>= k ∧ k (some its.toArray) = pure (ps.zip (us ++ its.drop j)))
    (len : ∀ vs H Q E, sp vs H Q E → vs.length = ps.length)
    (h : ∀ X : Cx, X.prog = P → X.w = w → X.K = K → X.mg = mg → X.base = base → Bd X N (defScope st) k → ∀ E : XK, Takes X (fun c d _ H => E c d H) → ∀ vs H Q, sp vs H Q E → wSs X (defBody st) { nx := fun _ H' => Q .non H', rt := Q } (start N vs) H) : Callee P w K mg base (k + 1) x (dvs.drop j) sp := by
  obtain ⟨f, fd, F, hm⟩ := F
  obtain ⟨ds, h1, h2⟩ := F.binds1 n j hd hn hb
  exact ⟨f, fd, ps, ds, fnOk_mk F S len h, hm, F.kp, h2, h1⟩
theorem callee_DD {P : Program} {w : World} {K : PySem.W.Frag} {mg : Str → Option Value} {base : Heap} {x : Str} {st : Stmt} {N ps : List Str} {k np : Nat} {f : Fn} {dvs : List V} (F : At K mg x st dvs) (S : FnScope N ps (defScope st)) (n j : Nat) (hd : dvs ≠ []) (hn' : n + (dvs.length - j) = ps.length)
    (hb : ∀ (T : Addr) (kV doc pm : Value) (an : Option Addr) (cdv ct : Value) (us its : List Value), us.length = n → its.length = dvs.length →
      ∃ k, bindArgs (PySem.W.fnOf x x (defArgs st) (defBody st) (defScope st) (.ref T) kV doc pm an cdv ct) ⟨us, []⟩ = PySem.seqItems? (.ref T) >>= k ∧ k (some its.toArray) = pure (ps.zip (us ++ its.drop j)))
    (hn : f.n = N.length) (hp : np = ps.length) (h : ∀ X : Cx, X.prog = P → X.w = w → X.K = K → X.mg = mg → X.base = base → Bd X N (defScope st) k → ∀ W, Takes X W → ExS X W f.S (defBody st) f.F) : Callee P w K mg base (k + 1) x (dvs.drop j) (spD np f K) :=
  callee_mkD F S n j hd hn' hb (fun vs H Q E sp => by obtain ⟨_, _, _, _, hl, _⟩ := sp; rw [hl, hp]) fun X e1 e2 e3 e4 e5 b E tk vs H Q sp => by
    subst e3
    exact run_body (W := fun c d _ H => E c d H) hn (h X e1 e2 rfl e4 e5 b _ tk) sp
end DW
/-! DW19: reckoning with what defs compute: no program in sight. -/
namespace DW
open PySem L2 Evl QW
/-- turns enough; no more is known of it -/
noncomputable def fuelP : { n : Nat // 1000000 ≤ n } := Classical.choice ⟨⟨1000000, Nat.le_refl _⟩⟩
noncomputable def fuelW : Nat := fuelP.1
theorem fuel_ge : 1000000 ≤ fuelW := fuelP.2
/-- what a call tells, its slots thrown away -/
def _root_.DW.Out.tel : Out → Option D
  | .ret d _ => some d
  | _ => none
def _root_.DW.Out.goes : Out → Bool
  | .nxt _ => true
  | _ => false
theorem tel_ret {d : D} {E : Env} : Out.tel (.ret d E) = some d := Eq.trans rfl rfl
theorem goes_nxt {E : Env} : Out.goes (.nxt E) = true := Eq.trans rfl rfl
def Tells (f : Fn) (ds : List D) (d : D) : Prop := (f.call ds).tel = some d
def Goes (f : Fn) (ds : List D) : Prop := (f.call ds).goes = true
def endE (f : Fn) (ds : List D) : Env := match f.call ds with
  | .ret _ E => E
  | .nxt E => E
  | _ => []
theorem Tells.eq {f : Fn} {ds : List D} {d : D} (h : Tells f ds d) : f.call ds = .ret d (endE f ds) := by
  unfold Tells at h
  unfold endE
  cases hc : f.call ds <;> rw [hc] at h <;> first | (cases h; done) | skip
  cases h
  rfl
theorem Goes.eq {f : Fn} {ds : List D} (h : Goes f ds) : f.call ds = .nxt (endE f ds) := by
  unfold Goes at h
  unfold endE
  cases hc : f.call ds <;> rw [hc] at h <;> first | rfl | cases h
theorem forD_ind {bind : D → Env → Option Env} {body : Env → Out} (I : Nat → Env → Prop) : ∀ {ds : List D} {E : Env} (k : Nat), I k E →
    (∀ i d E, ds[i]? = some d → I (k + i) E → ∃ E1 E2, bind d E = some E1 ∧ (body E1 = .nxt E2 ∨ body E1 = .cnt E2) ∧ I (k + i + 1) E2) → ∃ E', forD bind body ds E = .nxt E' ∧ I (k + ds.length) E'
  | [], E, k, h0, _ => ⟨E, rfl, h0⟩
  | d :: ds, E, k, h0, st => by
    obtain ⟨E1, E2, h1, h2, h3⟩ := st 0 d E rfl h0
    obtain ⟨E', h4, h5⟩ := forD_ind I (ds := ds) (k + 1) h3 fun i d' E' hd hi => by
      have := st (i + 1) d' E' (by simpa using hd) (by rw [show k + (i + 1) = k + 1 + i by omega]; exact hi)
      rw [show k + (i + 1) + 1 = k + 1 + i + 1 by omega] at this
      exact this
    refine ⟨E', ?_, by rw [show k + (d :: ds).length = k + 1 + ds.length by simp; omega]; exact h5⟩
    unfold forD
    rw [h1]
    rcases h2 with h2 | h2
    · simp only [h2]; exact h4
    · simp only [h2]; exact h4
theorem lcD_map {vs : List Nat} {bind : D → Env → Option Env} {fe : Env → R D} {E : Env} (r : D → D) : ∀ {ds : List D} {acc : List D}, (∀ d ∈ ds, ∃ E1 E3, bind d E = some E1 ∧ fe E1 = .ok (r d) E3 ∧ wipeE E3 vs = E) → acc.length + ds.length ≤ 100000 → lcD vs bind tYesD fe ds E acc = .ok (acc ++ ds.map r) E
  | [], acc, _, _ => by unfold lcD; rw [List.map_nil, List.append_nil]
  | d :: ds, acc, h, hl => by
    obtain ⟨E1, E3, h1, h2, h3⟩ := h d List.mem_cons_self
    have hl' : acc.length + (ds.length + 1) ≤ 100000 := hl
    unfold lcD
    rw [h1]
    simp only [tYesD, h2, if_pos (show acc.length < 100000 by omega), h3]
    rw [lcD_map r (fun d' m => h d' (List.mem_cons_of_mem _ m)) (by simp; omega)]
    simp
theorem noOwnL_all : ∀ ds : List D, noOwnL ds = ds.all noOwn
  | [] => rfl
  | d :: ds => by show (noOwn d && noOwnL ds) = _; rw [noOwnL_all ds]; rfl
theorem onR_congr {α : Type} {r r' : R α} {k : α → Env → Out} (h : r = r') : onR r k = onR r' k := by rw [h]
theorem bind_congr {α β : Type} {r r' : R α} {k : α → Env → R β} (h : r = r') : R.bind r k = R.bind r' k := by rw [h]
theorem thn_congr {o o' : Out} {k : Env → Out} (h : o = o') : Out.thn o k = Out.thn o' k := by rw [h]
theorem onR_ok {α : Type} {a : α} {E : Env} {k : α → Env → Out} : onR (.ok a E) k = k a E := Eq.trans rfl rfl
theorem thn_nxt {E : Env} {k : Env → Out} : Out.thn (.nxt E) k = k E := Eq.trans rfl rfl
theorem thn_ret {d : D} {E : Env} {k : Env → Out} : Out.thn (.ret d E) k = .ret d E := Eq.trans rfl rfl
theorem thn_brk {E : Env} {k : Env → Out} : Out.thn (.brk E) k = .brk E := Eq.trans rfl rfl
theorem thn_cnt {E : Env} {k : Env → Out} : Out.thn (.cnt E) k = .cnt E := Eq.trans rfl rfl
theorem thn_bad {k : Env → Out} : Out.thn .bad k = .bad := Eq.trans rfl rfl
theorem onR_bad {α : Type} {k : α → Env → Out} : onR .bad k = .bad := Eq.trans rfl rfl
theorem bind_bad {α β : Type} {k : α → Env → R β} : R.bind .bad k = .bad := Eq.trans rfl rfl
theorem log_small {j : Int} {n : Nat} (h0 : -(2 ^ 64) < j) (h1 : j < 2 ^ 64) (h : 64 ≤ n) : j.natAbs.log2 < n := by
  have : j.natAbs < 2 ^ 64 := by omega
  rcases Nat.eq_zero_or_pos j.natAbs with z | z
  · rw [z]; simp; omega
  · have := (Nat.log2_lt (by omega)).mpr this
    omega
theorem bind_ok' {α β : Type} {a : α} {E : Env} {k : α → Env → R β} : R.bind (.ok a E) k = k a E := Eq.trans rfl rfl
theorem val_tmp {d : D} {E : Env} : Opd.val E (.tmp d) = some d := Eq.trans rfl rfl
theorem val_slot {i : Nat} {E : Env} : Opd.val E (.slot i) = gt E i := Eq.trans rfl rfl
theorem fdivB_ok {j : Int} (h0 : 0 < j) (h1 : j < 2 ^ 64) : fdivB j = true := by
  unfold fdivB
  rw [decide_eq_true h0, decide_eq_true (log_small (by omega) h1 (by decide))]
  rfl
theorem mulB_a {i j : Int} (h0 : -(2 ^ 64) < i) (h1 : i < 2 ^ 64) : mulB i j = true := by
  unfold mulB
  rw [decide_eq_true h0, decide_eq_true h1]
  rfl
theorem mulB_b {i j : Int} (h0 : -(2 ^ 64) < j) (h1 : j < 2 ^ 64) : mulB i j = true := by
  unfold mulB
  rw [decide_eq_true h0, decide_eq_true h1]
  simp
/-! the parts, at slots -/
theorem ap_sSet {i : Nat} {f : Env → R D} {F : Env → Out} {E : Env} : sSet i f F E = onR (f E) fun d E1 => F (E1.set i (some d)) := Eq.trans rfl rfl
theorem ap_sRet {f : Env → R D} {E : Env} : sRet f E = onR (f E) fun d E1 => .ret d E1 := Eq.trans rfl rfl
theorem ap_sExpr {f : Env → R D} {F : Env → Out} {E : Env} : sExpr f F E = onR (f E) fun _ E1 => F E1 := Eq.trans rfl rfl
theorem ap_sIf {t : Env → R Bool} {Fa Fb F : Env → Out} {E : Env} : sIf t Fa Fb F E = onR (t E) fun b E1 => (if b = true then Fa E1 else Fb E1).thn F := Eq.trans rfl rfl
theorem ap_sAug {i : Nat} {op : D → D → Option D} {f : Env → R D} {F : Env → Out} {E : Env} : sAug i op f F E = match gt E i with
  | some a => if noOwn a = true then onR (f E) fun d E1 => (match op a d with
    | some r => F (E1.set i (some r))
    | none => .bad) else .bad
  | none => .bad := Eq.trans rfl rfl
theorem ap_sFor {src : Env → R (List D)} {bind : D → Env → Option Env} {body F : Env → Out} {E : Env} : sFor src bind body F E = onR (src E) fun ds E1 => (forD bind body ds E1).thn F := Eq.trans rfl rfl
theorem ap_sWhile {fuel : Nat} {t : Env → R Bool} {body F : Env → Out} {E : Env} : sWhile fuel t body F E = (whD t body fuel E).thn F := Eq.trans rfl rfl
theorem ap_sSetL {i : Nat} {f f2 : Env → R D} {F : Env → Out} {E : Env} : sSetL i f f2 F E = onR (f E) fun d E1 => match gt E1 i with
  | some (.lst true _) => onR (f2 E1) fun k E2 => match gt E2 i, k with
    | some (.lst true xs), .int j => match ixN xs.length j with
      | some q => F (E2.set i (some (.lst true (xs.set q d))))
      | none => .bad
    | _, _ => .bad
  | _ => .bad := Eq.trans rfl rfl
theorem ap_sSetD {i : Nat} {f f2 : Env → R D} {F : Env → Out} {E : Env} : sSetD i f f2 F E = onR (f E) fun d E1 => match gt E1 i with
  | some (.dct true _ _) => onR (f2 E1) fun k E2 => match gt E2 i, keyD k with
    | some (.dct true ks vs), some k => if ks.length < 100000 then F (E2.set i (some (.dct true (dputK ks k) (dputV ks vs k (frz d))))) else .bad
    | _, _ => .bad
  | _ => .bad := Eq.trans rfl rfl
theorem ap_sAugL {i : Nat} {h : Int → Int → Int} {f2 f : Env → R D} {F : Env → Out} {E : Env} : sAugL i h f2 f F E = match gt E i with
  | some (.lst true _) => onR (f2 E) fun k E1 => match gt E1 i, k with
    | some (.lst true xs), .int j => match ixN xs.length j with
      | some q => match xs[q]? with
        | some (.int a) => onR (f E1) fun d E2 => match gt E2 i, d with
          | some (.lst true ys), .int c => if ys.length = xs.length then F (E2.set i (some (.lst true (ys.set q (.int (h a c)))))) else .bad
          | _, _ => .bad
        | _ => .bad
      | none => .bad
    | _, _ => .bad
  | _ => .bad := Eq.trans rfl rfl
theorem ap_oR {f : Env → R D} {E : Env} : oR f E = (f E).bind fun d E1 => .ok (.tmp d) E1 := Eq.trans rfl rfl
theorem ap_oN {i : Nat} {E : Env} : oN i E = match gt E i with
  | some _ => .ok (.slot i) E
  | none => .bad := Eq.trans rfl rfl
theorem ap_oF {g : Env → R Opd} {E : Env} : oF g E = (g E).bind fun o E1 => match o with
  | .tmp d => .ok (.tmp (frz d)) E1
  | .slot i => .ok (.slot i) E1 := Eq.trans rfl rfl
theorem ap_rN {i : Nat} {E : Env} : rN i E = match gt E i with
  | some d => if noOwn d = true then .ok d E else .ok (frz d) (E.set i (some (frz d)))
  | none => .bad := Eq.trans rfl rfl
theorem ap_rC {d : D} {E : Env} : rC d E = .ok d E := Eq.trans rfl rfl
theorem ap_rF {f : Env → R D} {E : Env} : rF f E = (f E).bind fun d E1 => .ok (frz d) E1 := Eq.trans rfl rfl
theorem ap_aN  {E : Env} : aN  E = .ok [] E := Eq.trans rfl rfl
theorem ap_aC {g : Env → R Opd} {a : Env → R (List Opd)} {E : Env} : aC g a E = (g E).bind fun o E1 => (a E1).bind fun os E2 => .ok (o :: os) E2 := Eq.trans rfl rfl
theorem ap_op1 {F : D → Option D} {g1 : Env → R Opd} {E : Env} : op1 F g1 E = (g1 E).bind fun o1 E1 => match o1.val E1 with
  | some d1 => match F d1 with
    | some r => .ok r E1
    | none => .bad
  | none => .bad := Eq.trans rfl rfl
theorem ap_op2 {F : D → D → Option D} {g1 g2 : Env → R Opd} {E : Env} : op2 F g1 g2 E = (g1 E).bind fun o1 E1 => (g2 E1).bind fun o2 E2 => match o1.val E2, o2.val E2 with
  | some d1, some d2 => match F d1 d2 with
    | some r => .ok r E2
    | none => .bad
  | _, _ => .bad := Eq.trans rfl rfl
theorem ap_tO {g : Env → R Opd} {E : Env} : tO g E = (g E).bind fun o E1 => match o.val E1 with
  | some d => match truD d with
    | some b => .ok b E1
    | none => .bad
  | none => .bad := Eq.trans rfl rfl
theorem ap_tV {f : Env → R D} {E : Env} : tV f E = (f E).bind fun d E1 => match d with
  | .bl b => .ok b E1
  | _ => .bad := Eq.trans rfl rfl
theorem ap_tNotD {t : Env → R Bool} {E : Env} : tNotD t E = (t E).bind fun b E1 => .ok (!b) E1 := Eq.trans rfl rfl
theorem ap_tAndD {t u : Env → R Bool} {E : Env} : tAndD t u E = (t E).bind fun b E1 => if b = true then u E1 else .ok false E1 := Eq.trans rfl rfl
theorem ap_tOrD {t u : Env → R Bool} {E : Env} : tOrD t u E = (t E).bind fun b E1 => if b = true then .ok true E1 else u E1 := Eq.trans rfl rfl
theorem ap_rAndV {f1 f2 : Env → R D} {E : Env} : rAndV f1 f2 E = (f1 E).bind fun d E1 => match d with
  | .bl b => if b = true then f2 E1 else .ok (.bl false) E1
  | _ => .bad := Eq.trans rfl rfl
theorem ap_rOrV {f1 f2 : Env → R D} {E : Env} : rOrV f1 f2 E = (f1 E).bind fun d E1 => match d with
  | .bl b => if b = true then .ok (.bl true) E1 else f2 E1
  | _ => .bad := Eq.trans rfl rfl
theorem ap_rNotV {f1 : Env → R D} {E : Env} : rNotV f1 E = (f1 E).bind fun d E1 => match d with
  | .bl b => .ok (.bl (!b)) E1
  | _ => .bad := Eq.trans rfl rfl
theorem ap_rIfE {t : Env → R Bool} {f1 f2 : Env → R D} {E : Env} : rIfE t f1 f2 E = (t E).bind fun b E1 => if b = true then f1 E1 else f2 E1 := Eq.trans rfl rfl
theorem ap_lstR {a : Env → R (List Opd)} {E : Env} : lstR a E = (a E).bind (mkSeq (.lst true)) := Eq.trans rfl rfl
theorem ap_tupR {a : Env → R (List Opd)} {E : Env} : tupR a E = (a E).bind (mkSeq .tup) := Eq.trans rfl rfl
theorem ap_mApp {i : Nat} {f : Env → R D} {E : Env} : mApp i f E = match gt E i with
  | some (.lst true _) => (f E).bind fun d E1 => match gt E1 i with
    | some (.lst true xs) => if xs.length < 100000 then .ok .non (E1.set i (some (.lst true (xs ++ [d])))) else .bad
    | _ => .bad
  | _ => .bad := Eq.trans rfl rfl
theorem ap_mExt {i : Nat} {f : Env → R D} {E : Env} : mExt i f E = match gt E i with
  | some (.lst true _) => (f E).bind fun d E1 => match gt E1 i, d with
    | some (.lst true xs), .lst _ ys => if (noOwnL ys && decide (xs.length + ys.length ≤ 100000)) = true then .ok .non (E1.set i (some (.lst true (xs ++ ys)))) else .bad
    | _, _ => .bad
  | _ => .bad := Eq.trans rfl rfl
theorem ap_mPop {i : Nat} {E : Env} : mPop i E = match gt E i with
  | some (.lst true xs) => match xs[xs.length - 1]? with
    | some d => if noOwn d = true then .ok d (E.set i (some (.lst true xs.dropLast))) else .bad
    | none => .bad
  | _ => .bad := Eq.trans rfl rfl
theorem ap_callR {f : Fn} {dfl : List D} {a : Env → R (List Opd)} {E : Env} : callR f dfl a E = (a E).bind (callO f dfl) := Eq.trans rfl rfl
theorem ap_enumI {g : Env → R Opd} {E : Env} : enumI g E = (aC g aN E).bind fun os E1 => match os with
  | [.tmp d] => match srcD (frz d) with
    | some xs => .ok (pairsE 0 xs) E1
    | none => .bad
  | _ => .bad := Eq.trans rfl rfl
theorem ap_zipI2 {g1 g2 : Env → R Opd} {E : Env} : zipI2 g1 g2 E = (aC g1 (aC g2 aN) E).bind fun os E1 => match os with
  | [.tmp d1, .tmp d2] => match srcD (frz d1), srcD (frz d2) with
    | some xs, some ys => .ok (zip2D xs ys) E1
    | _, _ => .bad
  | _ => .bad := Eq.trans rfl rfl
theorem ap_zipI3 {g1 g2 g3 : Env → R Opd} {E : Env} : zipI3 g1 g2 g3 E = (aC g1 (aC g2 (aC g3 aN)) E).bind fun os E1 => match os with
  | [.tmp d1, .tmp d2, .tmp d3] => match srcD (frz d1), srcD (frz d2), srcD (frz d3) with
    | some xs, some ys, some zs => .ok (zip3D xs ys zs) E1
    | _, _, _ => .bad
  | _ => .bad := Eq.trans rfl rfl
theorem ap_lcR {vs : List Nat} {src : Env → R (List D)} {bind : D → Env → Option Env} {ft : Env → R Bool} {fe : Env → R D} {E : Env} : lcR vs src bind ft fe E = (src E).bind fun items E1 => (lcD vs bind ft fe items (wipeE E1 vs) []).bind fun acc E2 => .ok (.lst true acc) E2 := Eq.trans rfl rfl
theorem ap_m1S {F : D → D → Option D} {g1 g2 : Env → R Opd} {E : Env} : m1S F g1 g2 E = (g1 E).bind fun o1 E1 => match o1.val E1 with
  | some (.str z) => (g2 E1).bind fun o2 E2 => match o2.val E2 with
    | some d2 => match F (.str z) d2 with
      | some r => .ok r E2
      | none => .bad
    | none => .bad
  | _ => .bad := Eq.trans rfl rfl
theorem ap_iO {g : Env → R Opd} {E : Env} : iO g E = (g E).bind fun o E1 => match o with
  | .tmp d => match itemsD (frz d) with
    | some xs => .ok xs E1
    | none => .bad
  | .slot _ => .bad := Eq.trans rfl rfl
theorem ap_rng1 {a : Env → R (List Opd)} {E : Env} : rng1 a E = (a E).bind fun os E1 => match os with
  | [o] => match o.val E1 with
    | some (.int j) => if decide (-(2 ^ 62) ≤ j ∧ j < 2 ^ 62) = true then .ok (rangeL 0 j.toNat) E1 else .bad
    | _ => .bad
  | _ => .bad := Eq.trans rfl rfl
theorem ap_rng2 {a : Env → R (List Opd)} {E : Env} : rng2 a E = (a E).bind fun os E1 => match os with
  | [o, o'] => match o.val E1, o'.val E1 with
    | some (.int i), some (.int j) => if decide (-(2 ^ 62) ≤ i ∧ i < 2 ^ 62 ∧ -(2 ^ 62) ≤ j ∧ j < 2 ^ 62) = true then .ok (rangeL i (j - i).toNat) E1 else .bad
    | _, _ => .bad
  | _ => .bad := Eq.trans rfl rfl
theorem ap_rng3 {a : Env → R (List Opd)} {E : Env} : rng3 a E = (a E).bind fun os E1 => match os with
  | [o, o', o''] => match o.val E1, o'.val E1, o''.val E1 with
    | some (.int i), some (.int j), some (.int c) => if decide (c ≠ 0 ∧ c.natAbs < 1073741824 ∧ Builtin.Range.small i j c = true ∧ Builtin.Range.rangeSize i j c = (Builtin.Range.rangeSize i j c).toNat) = true then .ok (rangeC i c (Builtin.Range.rangeSize i j c).toNat) E1 else .bad
    | _, _, _ => .bad
  | _ => .bad := Eq.trans rfl rfl
theorem ap_sliceR {g : Env → R Opd} {l h : Env → R (Option Int)} {E : Env} : sliceR g l h E = (g E).bind fun o E1 => (l E1).bind fun lo E2 => (h E2).bind fun hi E3 => match o.val E3 with
  | some d => match sliceF d lo hi with
    | some r => .ok r E3
    | none => .bad
  | none => .bad := Eq.trans rfl rfl
theorem ap_pN  {E : Env} : pN  E = .ok none E := Eq.trans rfl rfl
theorem ap_pS {g : Env → R Opd} {E : Env} : pS g E = (g E).bind fun o E1 => match o.val E1 with
  | some (.int i) => .ok (some i) E1
  | _ => .bad := Eq.trans rfl rfl
theorem ap_stepR {g : Env → R Opd} {l h s : Env → R (Option Int)} {E : Env} : stepR g l h s E = (g E).bind fun o E1 => (l E1).bind fun lo E2 => (h E2).bind fun hi E3 => (s E3).bind fun st E4 => match o.val E4 with
  | some d => match stepF d lo hi st with
    | some r => .ok r E4
    | none => .bad
  | none => .bad := Eq.trans rfl rfl
theorem ap_tYesD  {E : Env} : tYesD  E = .ok true E := Eq.trans rfl rfl
theorem ap_mPopAt {i : Nat} {f : Env → R D} {E : Env} : mPopAt i f E = match gt E i with
  | some (.lst true _) => (f E).bind fun d E1 => match gt E1 i, d with
    | some (.lst true xs), .int j => if decide (0 ≤ j ∧ j < 2 ^ 63) = true then (match xs[j.toNat]? with
      | some d => if noOwn d = true then .ok d (E1.set i (some (.lst true (xs.eraseIdx j.toNat)))) else .bad
      | none => .bad) else .bad
    | _, _ => .bad
  | _ => .bad := Eq.trans rfl rfl
theorem ap_mRev {i : Nat} {E : Env} : mRev i E = match gt E i with
  | some (.lst true xs) => if noOwnL xs = true then .ok .non (E.set i (some (.lst true xs.reverse))) else .bad
  | _ => .bad := Eq.trans rfl rfl
theorem ap_mClr {i : Nat} {E : Env} : mClr i E = match gt E i with
  | some (.lst true xs) => .ok .non (E.set i (some (.lst true [])))
  | _ => .bad := Eq.trans rfl rfl
theorem ap_nil {E : Env} : sNil E = .nxt E := Eq.trans rfl rfl
theorem ap_brk {E : Env} : sBrk E = .brk E := Eq.trans rfl rfl
theorem ap_retN {E : Env} : sRetN E = .ret .non E := Eq.trans rfl rfl
theorem ap_bN {i : Nat} {d : D} {E : Env} : bN i d E = if i < E.length then some (E.set i (some d)) else none := Eq.trans rfl rfl
theorem ap_bT2 {b1 b2 : D → Env → Option Env} {a c : D} {E : Env} : bT2 b1 b2 (.tup [a, c]) E = (b1 a E).bind (b2 c) := Eq.trans rfl rfl
theorem gt_0 {d : D} {E : Env} : gt (some d :: E) 0 = some d := Eq.trans rfl rfl
theorem gt_s {d : Option D} {E : Env} {i : Nat} : gt (d :: E) (i + 1) = gt E i := by unfold gt; rw [List.getElem?_cons_succ]
/-! operators on what they are used for -/
theorem addD_i {i j : Int} : addD (.int i) (.int j) = some (.int (i + j)) := Eq.trans rfl rfl
theorem addD_s {x y : Str} (h : x.length + y.length ≤ 100000) : addD (.str x) (.str y) = some (.str (x ++ y)) := if_pos h
theorem addD_l {o p : Bool} {xs ys : List D} (h1 : noOwnL xs = true) (h2 : noOwnL ys = true) (h : xs.length + ys.length ≤ 100000) : addD (.lst o xs) (.lst p ys) = some (.lst true (xs ++ ys)) := by
  show (if (noOwnL xs && noOwnL ys) = true then (if xs.length + ys.length ≤ 100000 then some (D.lst true (xs ++ ys)) else none) else none) = _
  rw [h1, h2, Bool.and_self, if_pos rfl, if_pos h]
theorem augD_i {i j : Int} : augAddD (.int i) (.int j) = some (.int (i + j)) := Eq.trans rfl rfl
theorem augD_s {x y : Str} (h : x.length + y.length ≤ 100000) : augAddD (.str x) (.str y) = some (.str (x ++ y)) := if_pos h
theorem subD_i {i j : Int} : subD (.int i) (.int j) = some (.int (i - j)) := Eq.trans rfl rfl
theorem negD_i {i : Int} : negD (.int i) = some (.int (-i)) := Eq.trans rfl rfl
theorem modD_i {i j : Int} (h : 0 < j) : modD (.int i) (.int j) = some (.int (i % j)) := if_pos (decide_eq_true h)
theorem fdivD_i {i j : Int} (h0 : 0 < j) (h1 : j < 2 ^ 64) : fdivD (.int i) (.int j) = some (.int (i / j)) := if_pos (fdivB_ok h0 h1)
theorem mulD_a {i j : Int} (h0 : -(2 ^ 64) < i) (h1 : i < 2 ^ 64) : mulD (.int i) (.int j) = some (.int (i * j)) := if_pos (mulB_a h0 h1)
theorem mulD_b {i j : Int} (h0 : -(2 ^ 64) < j) (h1 : j < 2 ^ 64) : mulD (.int i) (.int j) = some (.int (i * j)) := if_pos (mulB_b h0 h1)
theorem eqD_i {i j : Int} : eqD (.int i) (.int j) = some (.bl (decide (i = j))) := by
  show (if (true && true) = true then some (D.bl (i == j)) else none) = _
  rw [if_pos (by rfl)]
  congr 2
theorem eqD_s {x y : Str} : eqD (.str x) (.str y) = some (.bl (decide (x = y))) := Eq.trans rfl rfl
theorem neD_i {i j : Int} : neD (.int i) (.int j) = some (.bl (!decide (i = j))) := by
  show (if (true && true) = true then some (D.bl (!(i == j))) else none) = _
  rw [if_pos (by rfl)]
  congr 2
theorem neD_s {x y : Str} : neD (.str x) (.str y) = some (.bl (!decide (x = y))) := Eq.trans rfl rfl
theorem ltD_i {i j : Int} : ltD (.int i) (.int j) = some (.bl (decide (i < j))) := Eq.trans rfl rfl
theorem leD_i {i j : Int} : leD (.int i) (.int j) = some (.bl (decide (i ≤ j))) := Eq.trans rfl rfl
theorem gtD_i {i j : Int} : gtD (.int i) (.int j) = some (.bl (decide (j < i))) := Eq.trans rfl rfl
theorem geD_i {i j : Int} : geD (.int i) (.int j) = some (.bl (decide (j ≤ i))) := Eq.trans rfl rfl
theorem idxD_l {o : Bool} {xs : List D} {i : Int} : idxD (.lst o xs) (.int i) = ownless (atI xs i) := Eq.trans rfl rfl
theorem idxD_t {xs : List D} {i : Int} : idxD (.tup xs) (.int i) = ownless (atI xs i) := Eq.trans rfl rfl
theorem idxD_c {ns : List Int} {i : Int} : idxD (.scr ns) (.int i) = (atI ns i).map .int := Eq.trans rfl rfl
theorem own_some {d : D} (h : noOwn d = true) : ownless (some d) = some d := if_pos h
theorem atI_0 {α : Type} {x : α} {xs : List α} : atI (x :: xs) 0 = some x := by simp [atI, ixN]
theorem atI_1 {α : Type} {x y : α} {xs : List α} : atI (x :: y :: xs) 1 = some y := by
  have : (1 : Int) < (xs.length : Int) + 1 + 1 := by omega
  simp [atI, ixN, this]
theorem atI_2 {α : Type} {x y z : α} {xs : List α} : atI (x :: y :: z :: xs) 2 = some z := by
  have : (2 : Int) < (xs.length : Int) + 1 + 1 + 1 := by omega
  simp [atI, ixN, this]
theorem no_int {i : Int} : noOwn (.int i) = true := Eq.trans rfl rfl
theorem no_str {z : Str} : noOwn (.str z) = true := Eq.trans rfl rfl
theorem no_bl {b : Bool} : noOwn (.bl b) = true := Eq.trans rfl rfl
theorem no_non : noOwn .non = true := Eq.trans rfl rfl
theorem no_tup {xs : List D} : noOwn (.tup xs) = noOwnL xs := Eq.trans rfl rfl
theorem no_lst {o : Bool} {xs : List D} : noOwn (.lst o xs) = (!o && noOwnL xs) := Eq.trans rfl rfl
theorem no_scr {ns : List Int} : noOwn (.scr ns) = true := Eq.trans rfl rfl
theorem no_ktp {ns : List Int} : noOwn (.ktp ns) = true := Eq.trans rfl rfl
theorem noL_0 : noOwnL [] = true := Eq.trans rfl rfl
theorem noL_s {d : D} {ds : List D} : noOwnL (d :: ds) = (noOwn d && noOwnL ds) := Eq.trans rfl rfl
theorem frz_int {i : Int} : frz (.int i) = .int i := Eq.trans rfl rfl
theorem frz_str {z : Str} : frz (.str z) = .str z := Eq.trans rfl rfl
theorem frz_bl {b : Bool} : frz (.bl b) = .bl b := Eq.trans rfl rfl
theorem frz_non : frz .non = .non := Eq.trans rfl rfl
theorem frz_tup {xs : List D} : frz (.tup xs) = .tup (frzL xs) := Eq.trans rfl rfl
theorem frz_lst {o : Bool} {xs : List D} : frz (.lst o xs) = .lst false (frzL xs) := Eq.trans rfl rfl
theorem frz_scr {ns : List Int} : frz (.scr ns) = .scr ns := Eq.trans rfl rfl
theorem frz_ktp {ns : List Int} : frz (.ktp ns) = .ktp ns := Eq.trans rfl rfl
theorem frzL_0 : frzL [] = [] := Eq.trans rfl rfl
theorem frzL_s {d : D} {ds : List D} : frzL (d :: ds) = frz d :: frzL ds := Eq.trans rfl rfl
theorem src_l {o : Bool} {xs : List D} (h : noOwnL xs = true) : srcD (.lst o xs) = some xs := if_pos h
theorem src_t {xs : List D} (h : noOwnL xs = true) : srcD (.tup xs) = some xs := if_pos h
theorem src_s {z : Str} : srcD (.str z) = some (z.cps.toList.map fun c => .str ⟨#[c]⟩) := Eq.trans rfl rfl
theorem src_k {ns : List Int} : srcD (.ktp ns) = some (ns.map .int) := Eq.trans rfl rfl
theorem it_l {o : Bool} {xs : List D} : itemsD (.lst o xs) = some xs := Eq.trans rfl rfl
theorem it_t {xs : List D} : itemsD (.tup xs) = some xs := Eq.trans rfl rfl
theorem it_s {z : Str} : itemsD (.str z) = some (z.cps.toList.map fun c => .str ⟨#[c]⟩) := Eq.trans rfl rfl
theorem it_k {ns : List Int} : itemsD (.ktp ns) = some (ns.map .int) := Eq.trans rfl rfl
theorem len_l {o : Bool} {xs : List D} : lenD (.lst o xs) = some (.int xs.length) := Eq.trans rfl rfl
theorem len_t {xs : List D} : lenD (.tup xs) = some (.int xs.length) := Eq.trans rfl rfl
theorem len_s {z : Str} (h : z.length ≤ 100000) : lenD (.str z) = some (.int z.length) := if_pos h
theorem len_c {ns : List Int} : lenD (.scr ns) = some (.int ns.length) := Eq.trans rfl rfl
theorem int_i {i : Int} : toIntD (.int i) = some (.int i) := Eq.trans rfl rfl
theorem int_b {b : Bool} : toIntD (.bl b) = some (.int (if b = true then 1 else 0)) := Eq.trans rfl rfl
theorem tabD_s {rows : List (Str × List Int)} {z : Str} {ns : List Int} (h : tlook rows z = some ns) : tabD rows (.str z) = some (.ktp ns) := by
  show (tlook rows z).map D.ktp = _
  rw [h]; rfl
theorem find_s {x y : Str} : findD (.str x) (.str y) = some (.int (Txt.find x y)) := Eq.trans rfl rfl
theorem tru_b {b : Bool} : truD (.bl b) = some b := Eq.trans rfl rfl
theorem isi_int {i : Int} : isiD "int" (.int i) = some (.bl true) := Eq.trans rfl rfl
theorem isi_intb {i : Int} : isiD "bool" (.int i) = some (.bl false) := Eq.trans rfl rfl
theorem isi_str {z : Str} : isiD "str" (.str z) = some (.bl true) := Eq.trans rfl rfl
/-! calls and displays, by steps -/
def fin2 (o : Out) (r : List (D × Option Nat)) (E2 : Env) : R D := match o with
  | .ret d Ec => .ok d (backOps Ec r 0 E2)
  | .nxt Ec => .ok .non (backOps Ec r 0 E2)
  | .exc c ns vs Ec => .exc c ns vs (backOps Ec r 0 E2)
  | _ => .bad
def finO (f : Fn) (dfl : List D) (t : Option (List (D × Option Nat) × Env)) : R D := match t with
  | some (r, E2) => if okOps f.S r 0 = true then fin2 (f.call (r.map (·.1) ++ dfl)) r E2 else .bad
  | none => .bad
theorem fin2_congr {o o' : Out} {r : List (D × Option Nat)} {E2 : Env} (h : o = o') : fin2 o r E2 = fin2 o' r E2 := by rw [h]
theorem callO_eq {f : Fn} {dfl : List D} {os : List Opd} {E : Env} : callO f dfl os E = finO f dfl (takeOps os E) := by
  unfold callO finO fin2
  rfl
theorem finO_some {f : Fn} {dfl : List D} {r : List (D × Option Nat)} {E2 : Env} : finO f dfl (some (r, E2)) = if okOps f.S r 0 = true then fin2 (f.call (r.map (·.1) ++ dfl)) r E2 else .bad := Eq.trans rfl rfl
theorem fin2_ret {d : D} {Ec E2 : Env} {r : List (D × Option Nat)} : fin2 (.ret d Ec) r E2 = .ok d (backOps Ec r 0 E2) := Eq.trans rfl rfl
theorem fin2_nxt {Ec E2 : Env} {r : List (D × Option Nat)} : fin2 (.nxt Ec) r E2 = .ok .non (backOps Ec r 0 E2) := Eq.trans rfl rfl
theorem take_nil {E : Env} : takeOps [] E = some ([], E) := Eq.trans rfl rfl
theorem take_tmp {d : D} {os : List Opd} {E : Env} : takeOps (.tmp d :: os) E = (takeOps os E).map fun r => ((d, none) :: r.1, r.2) := Eq.trans rfl rfl
def takeS (d? : Option D) (i : Nat) (os : List Opd) (E : Env) : Option (List (D × Option Nat) × Env) := match d? with
  | some d => if noOwn d = true then (takeOps os E).map fun r => ((d, none) :: r.1, r.2) else (takeOps os (E.set i none)).map fun r => ((d, some i) :: r.1, r.2)
  | none => none
theorem take_slot {i : Nat} {os : List Opd} {E : Env} : takeOps (.slot i :: os) E = takeS (gt E i) i os E := by
  show takeOps (.slot i :: os) E = _
  unfold takeS
  rw [takeOps] <;> cases gt E i <;> rfl
theorem takeS_some {d : D} {i : Nat} {os : List Opd} {E : Env} : takeS (some d) i os E = if noOwn d = true then (takeOps os E).map (fun r => ((d, none) :: r.1, r.2)) else (takeOps os (E.set i none)).map fun r => ((d, some i) :: r.1, r.2) := Eq.trans rfl rfl
theorem map_some' {α β : Type} {g : α → β} {a : α} : Option.map g (some a) = some (g a) := Eq.trans rfl rfl
theorem okO_nil {S : List Nat} {j : Nat} : okOps S [] j = true := Eq.trans rfl rfl
theorem okO_none {S : List Nat} {j : Nat} {d : D} {r : List (D × Option Nat)} : okOps S ((d, none) :: r) j = okOps S r (j + 1) := Eq.trans rfl rfl
theorem okO_some {S : List Nat} {j i : Nat} {d : D} {r : List (D × Option Nat)} : okOps S ((d, some i) :: r) j = (S.contains j && okOps S r (j + 1)) := Eq.trans rfl rfl
theorem back_nil {Ec E : Env} {j : Nat} : backOps Ec [] j E = E := Eq.trans (by unfold backOps; rfl) rfl
theorem back_none {Ec E : Env} {j : Nat} {d : D} {r : List (D × Option Nat)} : backOps Ec ((d, none) :: r) j E = backOps Ec r (j + 1) E := Eq.trans (by rw [backOps]) rfl
def backS (d? : Option D) (Ec : Env) (i : Nat) (r : List (D × Option Nat)) (j : Nat) (E : Env) : Env := match d? with
  | some d => backOps (Ec.set j none) r (j + 1) (E.set i (some d))
  | none => backOps Ec r (j + 1) E
theorem back_some {Ec E : Env} {j i : Nat} {d : D} {r : List (D × Option Nat)} : backOps Ec ((d, some i) :: r) j E = backS (gt Ec j) Ec i r j E := by
  unfold backS
  rw [backOps] <;> cases gt Ec j <;> rfl
theorem backS_some {Ec E : Env} {j i : Nat} {d : D} {r : List (D × Option Nat)} : backS (some d) Ec i r j E = backOps (Ec.set j none) r (j + 1) (E.set i (some d)) := Eq.trans rfl rfl
def mkS (mk : List D → D) (t : Option (List D)) (E : Env) : R D := match t with
  | some ds => if ds.length ≤ 100000 then .ok (mk ds) E else .bad
  | none => .bad
theorem mkSeq_eq {mk : List D → D} {os : List Opd} {E : Env} : mkSeq mk os E = mkS mk (tmps os) E := by
  unfold mkSeq mkS
  rfl
theorem mkS_some {mk : List D → D} {ds : List D} {E : Env} : mkS mk (some ds) E = if ds.length ≤ 100000 then .ok (mk ds) E else .bad := Eq.trans rfl rfl
theorem tmps_0 : tmps [] = some [] := Eq.trans rfl rfl
theorem tmps_s {d : D} {os : List Opd} : tmps (.tmp d :: os) = (tmps os).map (d :: ·) := Eq.trans rfl rfl
theorem wipe_0 {E : Env} : wipeE E [] = E := Eq.trans rfl rfl
theorem wipe_s {E : Env} {v : Nat} {vs : List Nat} : wipeE E (v :: vs) = (wipeE E vs).set v none := Eq.trans rfl rfl
/-! ### loops -/
def Nx (J : Env → Prop) (o : Out) : Prop := ∃ E, (o = .nxt E ∨ o = .cnt E) ∧ J E
theorem nx_nxt {J : Env → Prop} {E : Env} (h : J E) : Nx J (.nxt E) := ⟨E, .inl rfl, h⟩
theorem nx_eq {J : Env → Prop} {o : Out} {E : Env} (h : o = .nxt E) (j : J E) : Nx J o := ⟨E, .inl h, j⟩
theorem nx_cnt {J : Env → Prop} {E : Env} (h : J E) : Nx J (.cnt E) := ⟨E, .inr rfl, h⟩
section
variable {src : Env → R (List D)} {bind : D → Env → Option Env} {t : Env → R Bool} {body F : Env → Out} {E E1 E2 : Env} {ds : List D} {d : D} {J : Env → Prop} {f : Env → R D} {i : Nat} {xs xs0 : List D}
theorem for_run (hs : src E = .ok ds E1) (I : Nat → Env → Prop) (h0 : I 0 E1) (st : ∀ i d E, ds[i]? = some d → I i E → ∃ E2, bind d E = some E2 ∧ Nx (I (i + 1)) (body E2)) : ∃ E', I ds.length E' ∧ sFor src bind body F E = F E' := by
  obtain ⟨E', h1, h2⟩ := forD_ind (bind := bind) (body := body) I (ds := ds) (E := E1) 0 h0 fun i d E hd hi => by
    rw [Nat.zero_add] at hi
    obtain ⟨E2, k1, E3, k2, k3⟩ := st i d E hd hi
    exact ⟨E2, E3, k1, k2, by rw [Nat.zero_add]; exact k3⟩
  rw [Nat.zero_add] at h2
  refine ⟨E', h2, ?_⟩
  unfold sFor
  rw [hs]
  show (forD bind body ds E1).thn F = _
  rw [h1]
  rfl
theorem for_tel (hs : src E = .ok ds E1) (I : Nat → Env → Prop) (h0 : I 0 E1) (st : ∀ i d E, ds[i]? = some d → I i E → ∃ E2, bind d E = some E2 ∧ Nx (I (i + 1)) (body E2)) (fin : ∀ E', I ds.length E' → (F E').tel = some d) : (sFor src bind body F E).tel = some d := by
  obtain ⟨E', h, e⟩ := for_run (F := F) hs I h0 st
  rw [e]
  exact fin E' h
theorem for_goes (hs : src E = .ok ds E1) (I : Nat → Env → Prop) (h0 : I 0 E1) (st : ∀ i d E, ds[i]? = some d → I i E → ∃ E2, bind d E = some E2 ∧ Nx (I (i + 1)) (body E2)) (fin : ∀ E', I ds.length E' → (F E').goes = true) : (sFor src bind body F E).goes = true := by
  obtain ⟨E', h, e⟩ := for_run (F := F) hs I h0 st
  rw [e]
  exact fin E' h
theorem for_nx (hs : src E = .ok ds E1) (I : Nat → Env → Prop) (h0 : I 0 E1) (st : ∀ i d E, ds[i]? = some d → I i E → ∃ E2, bind d E = some E2 ∧ Nx (I (i + 1)) (body E2)) (fin : ∀ E', I ds.length E' → Nx J (F E')) : Nx J (sFor src bind body F E) := by
  obtain ⟨E', h, e⟩ := for_run (F := F) hs I h0 st
  rw [e]
  exact fin E' h
theorem whD_run (I : Nat → Env → Prop) (st : ∀ m E, I (m + 1) E → ∃ E2, t E = .ok true E2 ∧ Nx (I m) (body E2)) (fi : ∀ E, I 0 E → ∃ E2, t E = .ok false E2 ∧ J E2) : ∀ (m fuel : Nat) (E : Env), m < fuel → I m E → ∃ E', J E' ∧ whD t body fuel E = .nxt E'
  | _, 0, _, hf, _ => absurd hf (Nat.not_lt_zero _)
  | 0, fuel + 1, E, hf, h => by
    obtain ⟨E2, h1, h2⟩ := fi E h
    refine ⟨E2, h2, ?_⟩
    unfold whD
    rw [h1]
    rfl
  | m + 1, fuel + 1, E, hf, h => by
    obtain ⟨E2, h1, E3, h2, h3⟩ := st m E h
    obtain ⟨E', h4, h5⟩ := whD_run I st fi m fuel E3 (by omega) h3
    refine ⟨E', h4, ?_⟩
    unfold whD
    rw [h1]
    rcases h2 with h2 | h2
    · simp only [onR_ok, if_true, h2]; exact h5
    · simp only [onR_ok, if_true, h2]; exact h5
theorem wh_tel {fuel : Nat} (m : Nat) (I : Nat → Env → Prop) (hm : m < fuel) (h0 : I m E) (st : ∀ m E, I (m + 1) E → ∃ E2, t E = .ok true E2 ∧ Nx (I m) (body E2)) (fi : ∀ E, I 0 E → ∃ E2, t E = .ok false E2 ∧ (F E2).tel = some d) : (sWhile fuel t body F E).tel = some d := by
  obtain ⟨E', h, e⟩ := whD_run (J := fun E => (F E).tel = some d) I st fi m fuel E hm h0
  unfold sWhile
  rw [e]
  exact h
theorem wh_nx {fuel : Nat} (m : Nat) (I : Nat → Env → Prop) (hm : m < fuel) (h0 : I m E) (st : ∀ m E, I (m + 1) E → ∃ E2, t E = .ok true E2 ∧ Nx (I m) (body E2)) (fi : ∀ E, I 0 E → ∃ E2, t E = .ok false E2 ∧ Nx J (F E2)) : Nx J (sWhile fuel t body F E) := by
  obtain ⟨E', h, e⟩ := whD_run (J := fun E => Nx J (F E)) I st fi m fuel E hm h0
  unfold sWhile
  rw [e]
  exact h
theorem lc_map {vs : List Nat} {fe : Env → R D} (r : D → D) (hs : src E = .ok ds E1) (hE : wipeE E1 vs = E2) (h : ∀ d ∈ ds, ∃ E3 E4, bind d E2 = some E3 ∧ fe E3 = .ok (r d) E4 ∧ wipeE E4 vs = E2) (hl : ds.length ≤ 100000) : lcR vs src bind tYesD fe E = .ok (.lst true (ds.map r)) E2 := by
  unfold lcR
  rw [hs, R.bind_ok, hE, lcD_map r h (by simpa using hl)]
  rfl
theorem set_tel (h : f E = .ok d E1) {d' : D} (k : (F (E1.set i (some d))).tel = some d') : (sSet i f F E).tel = some d' := by
  unfold sSet
  rw [h]
  exact k
theorem set_goes (h : f E = .ok d E1) (k : (F (E1.set i (some d))).goes = true) : (sSet i f F E).goes = true := by
  unfold sSet
  rw [h]
  exact k
theorem set_nx (h : f E = .ok d E1) (k : Nx J (F (E1.set i (some d)))) : Nx J (sSet i f F E) := by
  unfold sSet
  rw [h]
  exact k
theorem ret_tel (h : f E = .ok d E1) : (sRet f E).tel = some d := by
  unfold sRet
  rw [h]
  rfl
theorem rF_ok (h : f E = .ok d E1) : rF f E = .ok (frz d) E1 := by
  unfold rF
  rw [h]
  rfl
theorem app_nx (hf : f E = .ok d E1) (h0 : gt E i = some (.lst true xs0)) (h1 : gt E1 i = some (.lst true xs)) (hl : xs.length < 100000) (k : Nx J (F (E1.set i (some (.lst true (xs ++ [d])))))) : Nx J (sExpr (mApp i f) F E) := by
  unfold sExpr mApp
  rw [h0]
  simp only []
  rw [hf, R.bind_ok, h1]
  simp only []
  rw [if_pos hl]
  exact k
end
theorem rng1_n {a : Env → R (List Opd)} {E E1 : Env} {o : Opd} {n : Nat} (h : a E = .ok [o] E1) (ho : o.val E1 = some (.int (n : Int))) (hn : n ≤ 1000000000) : rng1 a E = .ok (rangeL 0 n) E1 := by
  unfold rng1
  rw [h, R.bind_ok]
  simp only [ho]
  rw [if_pos (decide_eq_true ⟨by omega, by omega⟩), Int.toNat_natCast]
/-- a turn's end -/
def lp (o : Out) (k : Env → Out) : Out := match o with
  | .nxt E2 => k E2
  | .cnt E2 => k E2
  | .brk E2 => .nxt E2
  | o => o
theorem lp_congr {o o' : Out} {k : Env → Out} (h : o = o') : lp o k = lp o' k := by rw [h]
theorem lp_nxt {E : Env} {k : Env → Out} : lp (.nxt E) k = k E := Eq.trans rfl rfl
theorem lp_cnt {E : Env} {k : Env → Out} : lp (.cnt E) k = k E := Eq.trans rfl rfl
theorem lp_brk {E : Env} {k : Env → Out} : lp (.brk E) k = .nxt E := Eq.trans rfl rfl
theorem lp_ret {d : D} {E : Env} {k : Env → Out} : lp (.ret d E) k = .ret d E := Eq.trans rfl rfl
theorem forD_0 {bind : D → Env → Option Env} {body : Env → Out} {E : Env} : forD bind body [] E = .nxt E := Eq.trans rfl rfl
theorem forD_s {bind : D → Env → Option Env} {body : Env → Out} {E : Env} {d : D} {ds : List D} : forD bind body (d :: ds) E = match bind d E with
  | some E1 => lp (body E1) (forD bind body ds)
  | none => .bad := Eq.trans rfl rfl
theorem zip2_ints : ∀ xs ys : List Int, zip2D (xs.map .int) (ys.map .int) = List.zipWith (fun a b => D.tup [.int a, .int b]) xs ys
  | [], _ => by cases ‹List Int› <;> rfl
  | _ :: _, [] => rfl
  | x :: xs, y :: ys => by
    show D.tup [.int x, .int y] :: zip2D _ _ = _
    rw [zip2_ints xs ys]; rfl
theorem noL_ints : ∀ ns : List Int, noOwnL (ns.map D.int) = true
  | [] => rfl
  | n :: ns => noL_ints ns
theorem frzL_no' {ds : List D} (h : noOwnL ds = true) : frzL ds = ds := frzL_no ds h
end DW
/-! DW20: calls of defs, of classes, of methods, with places and names of arguments. -/
namespace DW
open PySem L2 Evl QW
open PySem.Spec PyProof.Rows
local macro_rules | `(tactic| walk_at "perm") => `(tactic| (refine List.perm_iff_count.mpr fun _ => ?_; simp only [List.count_append, List.count_nil]; omega))
/-- the values in the order of the parameters -/
def ordA {α : Type} (ix : List Nat) (xs : List α) : List α := ix.filterMap (xs[·]?)
structure EvK (X : Cx) (W : WX) (kws : List Keyword) (f : Env → R (List Opd)) : Prop where
  run : ∀ E σ B l fr H Q, RelEnv X.K B E σ l → Cfg B (l ++ fr) H → After X.K σ fr B W (OpsRep X.K σ) (f E) Q → wK X kws σ H Q
section
variable {X : Cx} {W : WX} {e : Expr} {kws : List Keyword} {g : Env → R Opd} {a : Env → R (List Opd)} {nm : Option Str} {kpos : Pos}
theorem evk_nil : EvK X W [] aN := ⟨fun E σ B l fr H Q re cf af => w_knil (af [] B l [] H (Ex.refl _) re ⟨rfl, rfl⟩ cf)⟩
theorem evk_cons (h1 : EvO X W e g) (h2 : EvK X W kws a) : EvK X W (⟨nm, e, kpos⟩ :: kws) (aC g a) := ⟨fun E σ B l fr H Q re cf af =>
  w_kcons (h1.run E σ B l fr H _ re cf (af.first fun o E1 v B1 l1 fp1 H1 _ x1 re1 rv1 cf1 af1 =>
    h2.run E1 σ B1 l1 (fp1 ++ fr) H1 _ re1 (Cfg.perm cf1 (by walk_at "perm")) (af1.next fun os E2 vs B2 l2 fp2 H2 _ x2 re2 rv2 cf2 af2 =>
      af2 (v :: vs) B2 l2 (fp1 ++ fp2) H2 (Ex.refl _) re2 ⟨v, vs, fp1, fp2, rfl, rfl, rv1.mono x2, rv2⟩ (Cfg.perm cf2 (by walk_at "perm")))))⟩
end
/-! ### running -/
section
variable {X : Cx} {W : WX} {k n np : Nat} {f C : Addr} {fd : FuncData} {ps ks : List Str} {sp : Sp} {g : List Value → List Value → List Value} {gV : List V → List V → List V} {pins : List (Addr × PySem.Obj)} {σ : L2.St} {H : Hp} {s : Shared} {Q : VK} {us ws : List Value} {vs zs : List V}
theorem run_S (F : FnOk X.prog X.w X.K X.mg X.base (L2.CX X.prog X.w) k f fd ps sp) (hr : Room k X.A) (hb : KBn X.K fd ps n ks g gV) (tk : Takes X W) (I : Inv X pins σ H s) (r : Vals vs us) (rz : Vals zs ws) (l1 : vs.length = n) (l2 : zs.length = ks.length)
    (h : sp (gV vs zs) H Q fun c d H' => W c d σ H') : wpAny (model X.prog X.w) X.A (call (.ref f) us (ks.zip ws)) (EP X pins σ Q) X.xe s := by
  have bd := hb.to s us ws I.kIn (r.length.symm.trans l1) (rz.length.symm.trans l2)
  have body := F.run X.A X.stack s H ⟨us, ks.zip ws⟩ (g us ws) (gV vs zs) Q _ hr I.env0 bd (hb.rel r rz) h
  refine wpAny_call (codeAny_mono body fun res s' z => ?_)
  match res, z with
  | .error e, z => exact passAt tk σ pins H s e s' I z
  | .ok (.ret u), z => exact I.after z
/-- a new instance, then __init__ -/
theorem run_MS (M : Mk X.K C f) (F : FnOk X.prog X.w X.K X.mg X.base (L2.CX X.prog X.w) k f fd ps sp) (hr : Room (k + 1) X.A) (hb : KBn X.K fd ps (n + 1) ks g gV) (tk : Takes X W) (I : Inv X pins σ H s) (r : Vals vs us) (rz : Vals zs ws) (l1 : vs.length = n) (l2 : zs.length = ks.length)
    (h : ∀ x dx, H x = none → H dx = none → dx ≠ x → sp (gV (.ref x :: vs) zs) (upd (upd H dx (.own x)) x (.ins C dx [])) (fun v H2 => v = .non ∧ Q (.ref x) H2) fun c d H' => W c d σ H') :
    wpAny (model X.prog X.w) X.A (call (.ref C) us (ks.zip ws)) (EP X pins σ Q) X.xe s := by
  have big : s.heap.objs.size ≤ s.heap.objs.size + 1 := Nat.le_succ _
  have q := h (s.heap.objs.size + 1) s.heap.objs.size (I.hok.fresh big) (I.hok.fresh (Nat.le_refl _)) (Nat.ne_of_lt (Nat.lt_succ_self _))
  have J := Inv.made (C := C) I
  have rr : Vals (V.ref (s.heap.objs.size + 1) :: vs) (Value.ref (s.heap.objs.size + 1) :: us) := .cons rfl r
  have bd := hb.to _ (Value.ref (s.heap.objs.size + 1) :: us) ws J.kIn (by rw [List.length_cons, ← r.length, l1]) (rz.length.symm.trans l2)
  have body := F.run _ X.stack _ _ ⟨Value.ref (s.heap.objs.size + 1) :: us, ks.zip ws⟩ _ _ _ _ (hr.make C us (ks.zip ws)) (J.env0.make C us (ks.zip ws)) bd (hb.rel rr rz) q
  refine wpAny_call (make_map I.kIn M.makes M.init (beq_iff_eq.mp M.fn) (codeAny_mono body fun res s' z => ?_))
  match res, z with
  | .error e, z => exact passAt tk σ pins _ _ e s' J z
  | .ok (.ret u), z =>
    obtain ⟨v, H', J2, rv, ev, q3⟩ := J.after z
    subst ev
    exact ⟨rv, V.ref (s.heap.objs.size + 1), H', J2, rfl, q3⟩
end
/-! ### the three forms of calls -/
/-- no star among the arguments -/
structure PlainA (X : Cx) (es : List Expr) (kws : List Keyword) (ks : List Str) (pos : Pos) : Prop where
  all : (backToKw pos (keywordEach kws X.env)).all (·.1.isSome) = true
  ks : (backToKw pos (keywordEach kws X.env)).filterMap (·.1) = ks
  pl : ((backTo pos (starEach es X.env)).any (·.1) || (backToKw pos (keywordEach kws X.env)).any (·.1.isNone)) = false
  st : ∀ e r, es = e :: r → starEach es X.env = (false, eval e X.env) :: starEach r X.env
/-- the arguments: n by their places, the others by their names -/
structure EvAK (X : Cx) (W : WX) (es : List Expr) (kws : List Keyword) (n : Nat) (ks : List Str) (pos : Pos) (f : Env → R (List Opd)) : Prop where
  pl : PlainA X es kws ks pos
  len : ALen f (n + ks.length)
  run : ∀ E σ B l fr H (fv : Value) (first : List Value) (pins : List (Addr × PySem.Obj)) (s : Shared) (Z : Value → Shared → Prop), Inv X pins σ H s → PySem.W.keepIn X.K fv = true → RelEnv X.K B E σ l → Cfg B (l ++ fr) H →
    After X.K σ fr B W (OpsRep X.K σ) (f E) (fun xs H2 => ∃ vs zs, xs = vs ++ zs ∧ vs.length = n ∧ zs.length = ks.length ∧ ∀ us ws s2, Inv X pins σ H2 s2 → Vals vs us → Vals zs ws → wpAny (model X.prog X.w) X.A (call fv (first ++ us) (ks.zip ws)) Z X.xe s2) →
    wpAny (model X.prog X.w) X.A (callWith pos fv first (backTo pos (starEach es X.env)) (backToKw pos (keywordEach kws X.env))) Z X.xe s
def aApp (a b : Env → R (List Opd)) : Env → R (List Opd) := fun E => (a E).bind fun os E1 => (b E1).bind fun qs E2 => .ok (os ++ qs) E2
theorem ops_app {K : PySem.W.Frag} {σ : L2.St} {B : Hp} : ∀ {os qs : List Opd} {vs ws : List V} {f g : List Ob}, OpsRep K σ B os vs f → OpsRep K σ B qs ws g → OpsRep K σ B (os ++ qs) (vs ++ ws) (f ++ g)
  | [], _, _, _, _, _, h, k => by obtain ⟨rfl, rfl⟩ := h; exact k
  | o :: os, qs, vs, ws, f, g, h, k => by
    obtain ⟨v, vs', f1, f2, rfl, rfl, h3, h4⟩ := h
    exact ⟨v, vs' ++ ws, f1, f2 ++ g, rfl, by simp, h3, ops_app h4 k⟩
section
variable {X : Cx} {W : WX} {n : Nat} {ks : List Str} {σ : L2.St} {H : Hp} {Q : VK} {e : Expr} {es : List Expr} {kws : List Keyword} {pos : Pos} {a b : Env → R (List Opd)}
theorem alen_app {a b : Env → R (List Opd)} {n m : Nat} (ha : ALen a n) (hb : ALen b m) : ALen (aApp a b) (n + m) := fun E os E' e => by
  unfold aApp at e
  cases h1 : a E with
  | bad => rw [h1] at e; cases e
  | exc c ns vs E1 => rw [h1] at e; cases e
  | ok os1 E1 =>
    rw [h1, R.bind_ok] at e
    cases h2 : b E1 with
    | bad => rw [h2] at e; cases e
    | exc c ns vs E1 => rw [h2] at e; cases e
    | ok os2 E2 =>
      rw [h2, R.bind_ok] at e
      cases e
      rw [List.length_append, ha _ _ _ h1, hb _ _ _ h2]
/-- no argument by its place -/
theorem evak_0 (pl : PlainA X [] kws ks pos) (h : EvK X W kws b) (hb : ALen b ks.length) : EvAK X W [] kws 0 ks pos b := ⟨pl, by rw [Nat.zero_add]; exact hb, fun E σ B l fr H fv first pins s Z I hk re cf af => by
  refine PySem.W.callWith_KW0 (h₀ := X.base) I.ok.mod.kin hk pl.all ?_ pl.pl
  refine thn (h.run E σ B l fr H (fun zs H2 => zs.length = ks.length ∧ ∀ ws s2, Inv X pins σ H2 s2 → Vals zs ws → wpAny (model X.prog X.w) X.A (call fv (first ++ []) (ks.zip ws)) Z X.xe s2) re cf (After.first (γ := List Opd) (δ := List V) (s := b E) (k := fun os E => .ok os E) (by
    cases hbE : b E with
    | bad => rw [hbE] at af; exact af
    | exc c ns vs E1 => rw [hbE] at af; exact af
    | ok os E1 => rw [hbE] at af; exact af) fun os E1 zs B1 l1 fp H1 hos x1 re1 rv1 cf1 af1 => ?_) pos pins s I) fun ws s2 z => ?_
  · obtain ⟨vs', zs', e1, h1, h2, q⟩ := af1 zs B1 l1 fp H1 (Ex.refl _) re1 rv1 cf1
    cases vs' with
    | cons _ _ => cases h1
    | nil =>
      rw [List.nil_append] at e1
      subst e1
      exact ⟨h2, fun ws s2 I2 rz => q [] ws s2 I2 .nil rz⟩
  · obtain ⟨zs, H2, I2, rz, l2, q⟩ := z
    rw [pl.ks]
    exact ⟨I2.kIn, q ws s2 I2 rz⟩⟩
/-- one at least -/
theorem evak_1 (pl : PlainA X (e :: es) kws ks pos) (h1 : EvA X W (e :: es) a) (h2 : EvK X W kws b) (ha : ALen a (e :: es).length) (hb : ALen b ks.length) : EvAK X W (e :: es) kws (e :: es).length ks pos (aApp a b) := ⟨pl, alen_app ha hb, fun E σ B l fr H fv first pins s Z I hk re cf af => by
  refine PySem.W.callWith_KW (h₀ := X.base) I.ok.mod.kin hk pl.all ?_ pl.pl (pl.st e es rfl)
  refine thn (h1.run E σ B l fr H (fun vs H1 => vs.length = (e :: es).length ∧ wK X kws σ H1 fun zs H2 => zs.length = ks.length ∧ ∀ us ws s2, Inv X pins σ H2 s2 → Vals vs us → Vals zs ws → wpAny (model X.prog X.w) X.A (call fv (first ++ us) (ks.zip ws)) Z X.xe s2) re cf
    (After.first (γ := List Opd) (δ := List V) af fun os E1 vs B1 l1 fp1 H1 ho x1 re1 rv1 cf1 af1 => ⟨by rw [← rv1.len]; exact ha E os E1 ho, h2.run E1 σ B1 l1 (fp1 ++ fr) H1 _ re1 (Cfg.perm cf1 (by walk_at "perm")) (After.next (γ := List Opd) (δ := List V) af1 fun qs E2 zs B2 l2 fp2 H2 hq x2 re2 rv2 cf2 af2 => ?_)⟩) pos pins s I) fun us s1 z => ?_
  · obtain ⟨vs', zs', e1, k1, k2, q⟩ := af2 (vs ++ zs) B2 l2 (fp1 ++ fp2) H2 (Ex.refl _) re2 (ops_app (rv1.mono x2) rv2) (Cfg.perm cf2 (by walk_at "perm"))
    have lv : vs.length = (e :: es).length := by rw [← rv1.len]; exact ha E os E1 ho
    obtain ⟨rfl, rfl⟩ := List.append_inj e1 (lv.trans k1.symm)
    exact ⟨k2, q⟩
  · obtain ⟨vs, H1, I1, r1, lv, q1⟩ := z
    refine thn (q1 pos pins s1 I1) fun ws s2 z => ?_
    obtain ⟨zs, H2, I2, rz, lz, q⟩ := z
    rw [pl.ks]
    exact ⟨I2.kIn, q us ws s2 I2 r1 rz⟩⟩
end
/-! ### what may be called -/
/-- a def's or a method's binding of n values and of the names ks: ix tells where each parameter's value stands among the values, those by name, the defaults -/
def BindW (K : PySem.W.Frag) (fd : FuncData) (ps : List Str) (n : Nat) (ks : List Str) (ix : List Nat) (dvs : List V) : Prop := ∃ its : List Value, KBn K fd ps n ks (fun us ws => ordA ix (us ++ ws ++ its)) (fun vs zs => ordA ix (vs ++ zs ++ dvs))
theorem ordA_vals {vs : List V} {us : List Value} (h : Vals vs us) (ix : List Nat) : Vals (ordA ix vs) (ordA ix us) := vals_pick h ix
/-- a def of the module, called so -/
structure CalF (P : Program) (w : World) (K : PySem.W.Frag) (mg : Str → Option Value) (base : Heap) (k : Nat) (x : Str) (n : Nat) (ks : List Str) (ix : List Nat) (dvs : List V) (sp : Sp) : Prop where
  ex : ∃ (f : Addr) (fd : FuncData) (ps : List Str), FnOk P w K mg base (L2.CX P w) k f fd ps sp ∧ mg x = some (.ref f) ∧ PySem.W.keepIn K (.ref f) = true ∧ BindW K fd ps n ks ix dvs
/-- a class of the module, called so: its __init__ keeps sp -/
structure CalC (P : Program) (w : World) (K : PySem.W.Frag) (mg : Str → Option Value) (base : Heap) (k : Nat) (x : Str) (n : Nat) (ks : List Str) (ix : List Nat) (dvs : List V) (sp : Sp) : Prop where
  ex : ∃ (f : Addr) (fd : FuncData) (ps : List Str), FnOk P w K mg base (L2.CX P w) k f fd ps sp ∧ mg x = some (.ref (He.ga K x)) ∧ Mk K (He.ga K x) f ∧ BindW K fd ps (n + 1) ks ix dvs
/-- a method of a class of the module, called so -/
structure CalM (P : Program) (w : World) (K : PySem.W.Frag) (mg : Str → Option Value) (base : Heap) (k : Nat) (c m : Str) (n : Nat) (ks : List Str) (ix : List Nat) (dvs : List V) (sp : Sp) : Prop where
  ex : ∃ (f : Addr) (fd : FuncData) (ps : List Str), FnOk P w K mg base (L2.CX P w) k f fd ps sp ∧ Cls K (He.ga K c) ∧ Meth K (He.ga K c) m f ∧ BindW K fd ps (n + 1) ks ix dvs
/-! ### handing over in the order of the parameters -/
theorem flat_set {α : Type} {c : List α} : ∀ {fs : List (List α)} {i : Nat}, fs[i]? = some c → (c ++ (fs.set i []).flatten).Perm fs.flatten
  | [], _, h => by simp at h
  | f :: fs, 0, h => by
    have h : f = c := by simpa using h
    subst h
    simp
  | f :: fs, i + 1, h => by
    have ih := flat_set (fs := fs) (i := i) (by simpa using h)
    rw [List.set_cons_succ, List.flatten_cons, List.flatten_cons, ← List.append_assoc]
    exact (List.perm_append_comm.append_right _).trans (by rw [List.append_assoc]; exact ih.append_left f)
theorem ord_set {α : Type} {ix : List Nat} {i : Nat} {fs : List α} {x : α} (h : i ∉ ix) : ordA ix (fs.set i x) = ordA ix fs := by
  unfold ordA
  induction ix with
  | nil => rfl
  | cons j ix ih =>
    have hj : i ≠ j := fun z => h (by rw [z]; exact List.mem_cons_self)
    rw [List.filterMap_cons, List.filterMap_cons, List.getElem?_set_ne hj, ih fun m => h (List.mem_cons_of_mem _ m)]
theorem ord_flat {α : Type} : ∀ {ix : List Nat} {fs : List (List α)}, ix.Nodup → ∃ q, ((ordA ix fs).flatten ++ q).Perm fs.flatten
  | [], fs, _ => ⟨fs.flatten, by unfold ordA; exact List.Perm.refl _⟩
  | i :: ix, fs, h => by
    obtain ⟨h1, h2⟩ := List.nodup_cons.mp h
    cases hc : fs[i]? with
    | none =>
      obtain ⟨q, p⟩ := ord_flat (fs := fs) h2
      exact ⟨q, by unfold ordA at p ⊢; rw [List.filterMap_cons, hc]; exact p⟩
    | some c =>
      obtain ⟨q, p⟩ := ord_flat (fs := fs.set i []) h2
      rw [ord_set h1] at p
      refine ⟨q, ?_⟩
      have e : ordA (i :: ix) fs = c :: ordA ix fs := by unfold ordA; rw [List.filterMap_cons, hc]
      rw [e, List.flatten_cons, List.append_assoc]
      exact (p.append_left c).trans (flat_set hc)
theorem repL_chunks {K : PySem.W.Frag} {B : Hp} : ∀ {ds : List D} {vs : List V} {f : List Ob}, RepL K B ds vs f → ∃ fs : List (List Ob), f = fs.flatten ∧ ∀ i : Nat, (ds[i]? = none ∧ vs[i]? = none ∧ fs[i]? = none) ∨ ∃ d v g, ds[i]? = some d ∧ vs[i]? = some v ∧ fs[i]? = some g ∧ Rep K B d v g
  | [], vs, f, h => by obtain ⟨rfl, rfl⟩ := h; exact ⟨[], rfl, fun i => .inl ⟨rfl, rfl, rfl⟩⟩
  | d :: ds, vs, f, h => by
    obtain ⟨v, vs', f1, f2, rfl, rfl, h3, h4⟩ := h
    obtain ⟨fs, rfl, hf⟩ := repL_chunks h4
    refine ⟨f1 :: fs, rfl, fun i => ?_⟩
    cases i with
    | zero => exact .inr ⟨d, v, f1, rfl, rfl, rfl, h3⟩
    | succ i => simpa using hf i
theorem repL_ord {K : PySem.W.Frag} {B : Hp} {ds : List D} {vs : List V} {f : List Ob} (ix : List Nat) (h : RepL K B ds vs f) (nd : ix.Nodup) : ∃ g q, RepL K B (ordA ix ds) (ordA ix vs) g ∧ (g ++ q).Perm f := by
  obtain ⟨fs, rfl, hf⟩ := repL_chunks h
  obtain ⟨q, p⟩ := ord_flat (fs := fs) nd
  refine ⟨_, q, ?_, p⟩
  clear p nd
  induction ix with
  | nil => exact ⟨rfl, rfl⟩
  | cons i ix ih =>
    unfold ordA at ih ⊢
    rw [List.filterMap_cons, List.filterMap_cons, List.filterMap_cons]
    rcases hf i with ⟨h1, h2, h3⟩ | ⟨d, v, g, h1, h2, h3, h4⟩
    · rw [h1, h2, h3]; exact ih
    · rw [h1, h2, h3]; exact ⟨v, _, g, _, rfl, rfl, h4, ih⟩
/-- the call: what is handed over, in the order of the parameters -/
def callW (f : Fn) (ix : List Nat) (dfl : List D) (os : List Opd) (E : Env) : R D := match takeOps os E with
  | some (r, E2) =>
    let r2 := ordA ix (r ++ dfl.map fun d => (d, none))
    if (okOps f.S r2 0) = true then (match f.call (r2.map (·.1)) with
      | .ret d Ec => .ok d (backOps Ec r2 0 E2)
      | .nxt Ec => .ok .non (backOps Ec r2 0 E2)
      | .exc c ns vs Ec => .exc c ns vs (backOps Ec r2 0 E2)
      | _ => .bad) else .bad
  | none => .bad
theorem ord_map {α β : Type} (h : α → β) (ix : List Nat) (xs : List α) : (ordA ix xs).map h = ordA ix (xs.map h) := by
  unfold ordA
  rw [List.map_filterMap]
  congr 1
  funext i
  rw [List.getElem?_map]
theorem ord_get {α β : Type} {xs : List α} {ys : List β} (hl : xs.length = ys.length) : ∀ {ix : List Nat} {j : Nat} {x : α}, (ordA ix xs)[j]? = some x → ∃ (i : Nat) (y : β), xs[i]? = some x ∧ ys[i]? = some y ∧ (ordA ix ys)[j]? = some y
  | [], j, x, h => by simp [ordA] at h
  | i :: ix, j, x, h => by
    unfold ordA at h ⊢
    rw [List.filterMap_cons] at h ⊢
    cases hx : xs[i]? with
    | none =>
      have hy : ys[i]? = none := by rw [List.getElem?_eq_none_iff] at hx ⊢; omega
      rw [hx] at h
      rw [hy]
      exact ord_get hl (ix := ix) h
    | some x0 =>
      obtain ⟨y, hy⟩ : ∃ y, ys[i]? = some y := by
        have := (List.getElem?_eq_some_iff.mp hx).1
        exact ⟨_, List.getElem?_eq_getElem (by omega)⟩
      rw [hx] at h
      rw [hy]
      cases j with
      | zero =>
        have h : x0 = x := by simpa using h
        subst h
        exact ⟨i, y, hx, hy, rfl⟩
      | succ j =>
        obtain ⟨i2, y2, h1, h2, h3⟩ := ord_get hl (ix := ix) (j := j) (show (ordA ix xs)[j]? = some x by unfold ordA; simpa using h)
        exact ⟨i2, y2, h1, h2, by unfold ordA at h3; simpa using h3⟩
theorem callW_ok {K : PySem.W.Frag} {σ : L2.St} {B : Hp} {f : Fn} {ix : List Nat} {dfl : List D} {os : List Opd} {E : Env} {vs dvs : List V} {fp l fr : List Ob} {H : Hp} {W : WX} {Q : VK} {np : Nat} (ho : OpsRep K σ B os vs fp) (re : RelEnv K B E σ l) (cf : Cfg B (fp ++ (l ++ fr)) H) (hl : (ordA ix (vs ++ dvs)).length = np) (nd : ix.Nodup) (hd : ∀ B, RepL K B dfl dvs [])
    (af : After K σ fr B W (Rep K) (callW f ix dfl os E) Q) : spD np f K (ordA ix (vs ++ dvs)) H Q (fun cls d H => W cls d σ H) := by
  unfold callW at af
  cases ht : takeOps os E with
  | none => rw [ht] at af; exact af.elim
  | some r0 =>
    obtain ⟨r, E2⟩ := r0
    rw [ht] at af
    dsimp only at af
    obtain ⟨r1, hr1⟩ : ∃ r1, r1 = r ++ dfl.map fun d => (d, none) := ⟨_, rfl⟩
    rw [← hr1] at af
    by_cases hk : okOps f.S (ordA ix r1) 0 = true
    · rw [if_pos hk] at af
      obtain ⟨lf, l', k1, k2, k3, k4⟩ := take_ok ho re ht
      have e1 : r1.map (·.1) = r.map (·.1) ++ dfl := by rw [hr1, List.map_append, List.map_map]; congr 1; exact List.map_id'' (fun _ => rfl) dfl
      have rl : RepL K B (r1.map (·.1)) (vs ++ dvs) lf := by rw [e1]; simpa using k1.app (hd B)
      have len1 : r1.length = (vs ++ dvs).length := by rw [← rl.len, List.length_map]
      obtain ⟨g, q, rl2, pm⟩ := repL_ord ix rl nd
      rw [← ord_map] at rl2
      refine ⟨_, B, g, q ++ (l' ++ fr), hl, rl2, Cfg.perm cf ?_, ?_⟩
      · refine List.perm_iff_count.mpr fun a => ?_
        have h1 := List.perm_iff_count.mp k3 a
        have h2 := List.perm_iff_count.mp pm a
        simp only [List.count_append, List.count_nil] at h1 h2 ⊢
        omega
      · have hb : ∀ {σc : L2.St}, (∀ i, i ∈ f.S → i < (ordA ix (vs ++ dvs)).length → σc[i]? = ((ordA ix (vs ++ dvs))[i]?).map some) → ∀ (j' : Nat) (d : D) (i : Nat), (ordA ix r1)[j']? = some (d, some i) → ∃ v, σc[0 + j']? = some (some v) ∧ σ[i]? = some (some v) := fun {σc} hp j' d i z => by
          obtain ⟨i0, v, h1, h2, h3⟩ := ord_get len1 z
          have hi0 : i0 < r.length := by
            by_cases c : i0 < r.length
            · exact c
            · rw [hr1, List.getElem?_append_right (by omega), List.getElem?_map] at h1
              cases hd0 : dfl[i0 - r.length]? with
              | none => rw [hd0] at h1; cases h1
              | some d0 => rw [hd0] at h1; cases h1
          rw [hr1, List.getElem?_append_left hi0] at h1
          obtain ⟨v2, h4, h5⟩ := k4 i0 d i h1
          rw [List.getElem?_append_left (List.getElem?_eq_some_iff.mp h4).1, h4] at h2
          obtain rfl : v2 = v := by injection h2
          refine ⟨v2, ?_, h5⟩
          have hm := ok_mem hk j' d i z
          rw [Nat.zero_add] at hm ⊢
          rw [hp j' hm (List.getElem?_eq_some_iff.mp h3).1, h3]
          rfl
        cases hc : f.call ((ordA ix r1).map (·.1)) with
        | ret d Ec =>
          rw [hc] at af
          intro v σc B' lc fp' H' x rc hp rv cf'
          obtain ⟨l'', g', q1, q2⟩ := back_ok (j := 0) rc (k2.mono x) (hb hp)
          refine af v B' l'' fp' H' x q1 rv (Cfg.dropL (a := g' ++ q) (Cfg.perm cf' ?_))
          refine List.perm_iff_count.mpr fun a => ?_
          have := List.perm_iff_count.mp q2 a
          simp only [List.count_append, List.count_nil] at this ⊢
          omega
        | nxt Ec =>
          rw [hc] at af
          intro σc B' lc H' x rc hp cf'
          obtain ⟨l'', g', q1, q2⟩ := back_ok (j := 0) rc (k2.mono x) (hb hp)
          refine af .non B' l'' [] H' x q1 ⟨rfl, rfl⟩ (Cfg.dropL (a := g' ++ q) (Cfg.perm cf' ?_))
          refine List.perm_iff_count.mpr fun a => ?_
          have := List.perm_iff_count.mp q2 a
          simp only [List.count_append, List.count_nil] at this ⊢
          omega
        | exc c ns vs' Ec =>
          rw [hc] at af
          intro cls dx σc B' lc H' x rc hp rx cf'
          obtain ⟨l'', g', q1, q2⟩ := back_ok (j := 0) rc (k2.mono x) (hb hp)
          refine af cls dx B' l'' H' x q1 rx (Cfg.dropL (a := g' ++ q) (Cfg.perm cf' ?_))
          refine List.perm_iff_count.mpr fun a => ?_
          have := List.perm_iff_count.mp q2 a
          simp only [List.count_append, List.count_nil] at this ⊢
          omega
        | brk Ec => rw [hc] at af; exact af.elim
        | cnt Ec => rw [hc] at af; exact af.elim
        | bad => rw [hc] at af; exact af.elim
    · rw [if_neg hk] at af; exact af.elim
def callWR (f : Fn) (ix : List Nat) (dfl : List D) (a : Env → R (List Opd)) : Env → R D := fun E => (a E).bind (callW f ix dfl)
theorem ordA_len {α : Type} {ix : List Nat} {xs : List α} (h : ix.all (· < xs.length) = true) : (ordA ix xs).length = ix.length := by
  unfold ordA
  induction ix with
  | nil => rfl
  | cons i ix ih =>
    rw [List.all_cons, Bool.and_eq_true] at h
    rw [List.filterMap_cons, List.getElem?_eq_getElem (of_decide_eq_true h.1), List.length_cons, List.length_cons, ih h.2]
section
variable {X : Cx} {W : WX} {k j n : Nat} {x : Str} {ks : List Str} {es : List Expr} {kws : List Keyword} {p pos : Pos} {a : Env → R (List Opd)} {f : Fn} {ix : List Nat} {dfl : List D} {dvs : List V} {Pr : World → PySem.W.Frag → (Str → Option Value) → Prop}
/-- a def of the module, called with places and names -/
theorem evr_callW (c : Cxt Pr X k) (C : CalF X.prog X.w X.K X.mg X.base j x n ks ix dvs (spD ix.length f X.K)) (hj : j ≤ k) (hg : Gl X x) (tk : Takes X W) (hd : ∀ B, RepL X.K B dfl dvs []) (hix : (ix.all (· < n + ks.length + dvs.length) && decide ix.Nodup) = true) (h : EvAK X W es kws n ks pos a) (hdb : (x == ("__debug__" : Str)) = false := by decide +kernel) :
    EvR X W (.Call (.Name x p) es kws pos) (callWR f ix dfl a) := ⟨fun E σ B l fr H Q re cf af => by
  obtain ⟨fa, fd, ps, F, hm, hk, its, hb⟩ := C.ex
  obtain ⟨hix1, hix2⟩ := Bool.and_eq_true_iff.mp hix
  intro pins s I
  refine PySem.wpAny_Call_Name_kw (ld_glob I hg hm ?_ hdb)
  refine h.run E σ B l fr H (.ref fa) [] pins s _ I hk re cf (After.first (γ := List Opd) (δ := List V) af fun os E1 xs B1 l1 fp1 H1 ho x1 re1 rv1 cf1 af1 => ?_)
  have lx : xs.length = n + ks.length := by rw [← rv1.len]; exact h.len E os E1 ho
  have l1 : (xs.take n).length = n := by rw [List.length_take]; omega
  have l2 : (xs.drop n).length = ks.length := by rw [List.length_drop]; omega
  refine ⟨xs.take n, xs.drop n, (List.take_append_drop n xs).symm, l1, l2, fun us ws s2 I2 ru rw' => ?_⟩
  refine run_S F (c.room.mono hj) hb tk I2 ru rw' l1 l2 ?_
  rw [List.take_append_drop]
  exact callW_ok rv1 re1 cf1 (ordA_len (by rw [List.length_append, lx]; exact hix1)) (of_decide_eq_true hix2) hd af1⟩
/-! a class's instance, made -/
def makeW (c : Str) (f : Fn) (ix : List Nat) (dfl : List D) (os : List Opd) (E : Env) : R D := match takeOps os E with
  | some (r, E2) =>
    let r2 := ordA ix (((D.ins true c [] [], none) :: r) ++ dfl.map fun d => (d, none))
    if (okOps f.S r2 0 && f.S.contains 0) = true then (match f.call (r2.map (·.1)) with
      | .ret .non Ec => (match gt Ec 0 with
        | some (.ins true c' ns vs) => if c' = c then .ok (.ins true c' ns vs) (backOps (Ec.set 0 none) r2 0 E2) else .bad
        | _ => .bad)
      | .nxt Ec => (match gt Ec 0 with
        | some (.ins true c' ns vs) => if c' = c then .ok (.ins true c' ns vs) (backOps (Ec.set 0 none) r2 0 E2) else .bad
        | _ => .bad)
      | .exc c ns vs Ec => .exc c ns vs (backOps Ec r2 0 E2)
      | _ => .bad) else .bad
  | none => .bad
end
theorem makeW_ok {K : PySem.W.Frag} {σ : L2.St} {B : Hp} {f : Fn} {c : Str} {ix : List Nat} {dfl : List D} {os : List Opd} {E : Env} {vs dvs : List V} {fp l fr : List Ob} {H : Hp} {W : WX} {Q : VK} {np : Nat} {x dx : Addr} (ho : OpsRep K σ B os vs fp) (re : RelEnv K B E σ l) (cf : Cfg B (fp ++ (l ++ fr)) H) (hx : H x = none) (hdx : H dx = none) (ne : dx ≠ x) (hpr : Pres K c ∧ isExc c = false)
    (hl : (ordA ix (V.ref x :: (vs ++ dvs))).length = np) (nd : ix.Nodup) (h0 : ix[0]? = some 0) (hd : ∀ B, RepL K B dfl dvs []) (af : After K σ fr B W (Rep K) (makeW c f ix dfl os E) Q) :
    spD np f K (ordA ix (V.ref x :: (vs ++ dvs))) (upd (upd H dx (.own x)) x (.ins (He.ga K c) dx [])) (fun v H2 => v = .non ∧ Q (.ref x) H2) (fun cls d H => W cls d σ H) := by
  unfold makeW at af
  cases ht : takeOps os E with
  | none => rw [ht] at af; exact af.elim
  | some r0 =>
    obtain ⟨r, E2⟩ := r0
    rw [ht] at af
    dsimp only at af
    obtain ⟨r1, hr1⟩ : ∃ r1, r1 = (D.ins true c [] [], (none : Option Nat)) :: r ++ dfl.map fun d => (d, none) := ⟨_, rfl⟩
    rw [← hr1] at af
    by_cases hk0 : (okOps f.S (ordA ix r1) 0 && f.S.contains 0) = true
    · rw [if_pos hk0] at af
      obtain ⟨hk, hs0⟩ := Bool.and_eq_true_iff.mp hk0
      have hs0 : 0 ∈ f.S := List.contains_iff_mem.mp hs0
      obtain ⟨lf, l', k1, k2, k3, k4⟩ := take_ok ho re ht
      have cfn : Cfg B (([(x, .ins (He.ga K c) dx [])] ++ [(dx, .own x)]) ++ (fp ++ (l ++ fr))) (upd (upd H dx (.own x)) x (.ins (He.ga K c) dx [])) := by
        have c1 := Cfg.new' (o := .own x) cf hdx
        have c2 := Cfg.new' (o := .ins (He.ga K c) dx []) c1 (by rw [upd_ne (Ne.symm ne)]; exact hx)
        exact c2
      have rs : Rep K B (.ins true c [] []) (V.ref x) ([(x, .ins (He.ga K c) dx [])] ++ [(dx, .own x)]) := ⟨x, dx, [], rfl, ⟨rfl, hpr⟩, by rw [if_pos rfl]; exact ⟨[], by simp, rfl, rfl⟩⟩
      have e1 : r1.map (·.1) = D.ins true c [] [] :: (r.map (·.1) ++ dfl) := by rw [hr1, List.map_append, List.map_map, List.map_cons, List.cons_append]; congr 2; exact List.map_id'' (fun _ => rfl) dfl
      have rl : RepL K B (r1.map (·.1)) (V.ref x :: (vs ++ dvs)) (([(x, .ins (He.ga K c) dx [])] ++ [(dx, .own x)]) ++ lf) := by
        rw [e1]
        exact ⟨V.ref x, vs ++ dvs, _, lf, rfl, rfl, rs, by simpa using k1.app (hd B)⟩
      have len1 : r1.length = (V.ref x :: (vs ++ dvs)).length := by rw [← rl.len, List.length_map]
      obtain ⟨g, q, rl2, pm⟩ := repL_ord ix rl nd
      rw [← ord_map] at rl2
      have v0 : (ordA ix (V.ref x :: (vs ++ dvs)))[0]? = some (V.ref x) := by
        cases ix with
        | nil => cases h0
        | cons i ix =>
          have h0 : i = 0 := by simpa using h0
          subst h0
          rfl
      have nz : 0 < (ordA ix (V.ref x :: (vs ++ dvs))).length := (List.getElem?_eq_some_iff.mp v0).1
      refine ⟨_, B, g, q ++ (l' ++ fr), hl, rl2, Cfg.perm cfn ?_, ?_⟩
      · refine List.perm_iff_count.mpr fun a => ?_
        have h1 := List.perm_iff_count.mp k3 a
        have h2 := List.perm_iff_count.mp pm a
        simp only [List.count_append, List.count_nil] at h1 h2 ⊢
        omega
      · have hb : ∀ {σc : L2.St}, (∀ i, i ∈ f.S → i < (ordA ix (V.ref x :: (vs ++ dvs))).length → σc[i]? = ((ordA ix (V.ref x :: (vs ++ dvs)))[i]?).map some) → ∀ (j' : Nat) (d : D) (i : Nat), (ordA ix r1)[j']? = some (d, some i) → ∃ v, σc[0 + j']? = some (some v) ∧ σ[i]? = some (some v) := fun {σc} hp j' d i z => by
          obtain ⟨i0, v, h1, h2, h3⟩ := ord_get len1 z
          cases i0 with
          | zero => rw [hr1] at h1; cases h1
          | succ i0 =>
          have hi0 : i0 < r.length := by
            by_cases c : i0 < r.length
            · exact c
            · rw [hr1, List.cons_append, List.getElem?_cons_succ, List.getElem?_append_right (by omega), List.getElem?_map] at h1
              cases hd0 : dfl[i0 - r.length]? with
              | none => rw [hd0] at h1; cases h1
              | some d0 => rw [hd0] at h1; cases h1
          rw [hr1, List.cons_append, List.getElem?_cons_succ, List.getElem?_append_left hi0] at h1
          obtain ⟨v2, h4, h5⟩ := k4 i0 d i h1
          rw [List.getElem?_cons_succ, List.getElem?_append_left (List.getElem?_eq_some_iff.mp h4).1, h4] at h2
          obtain rfl : v2 = v := by injection h2
          refine ⟨v2, ?_, h5⟩
          have hm := ok_mem hk j' d i z
          rw [Nat.zero_add] at hm ⊢
          rw [hp j' hm (List.getElem?_eq_some_iff.mp h3).1, h3]
          rfl
        have fin : ∀ {Ec : Env} {σc : L2.St} {B' : Hp} {lc : List Ob} {H' : Hp} {c' : Str} {ns : List Str} {ds : List D}, gt Ec 0 = some (.ins true c' ns ds) → Ex B B' → RelEnv K B' Ec σc lc → (∀ i, i ∈ f.S → i < (ordA ix (V.ref x :: (vs ++ dvs))).length → σc[i]? = ((ordA ix (V.ref x :: (vs ++ dvs)))[i]?).map some) →
            Cfg B' (lc ++ ((q ++ (l' ++ fr)))) H' → After K σ fr B W (Rep K) (.ok (.ins true c' ns ds) (backOps (Ec.set 0 none) (ordA ix r1) 0 E2)) Q → Q (.ref x) H' := fun {Ec σc B' lc H' c' ns ds} hg xx rc hp cf' af => by
          obtain ⟨w, g1, gg, g2, hw, rfl, hr, _, hs⟩ := rc.at (gt_some hg)
          have hσ : σc[0]? = some (some (V.ref x)) := by rw [hp 0 hs0 nz, v0]; rfl
          rw [hσ] at hw
          obtain rfl : V.ref x = w := by injection hw with hw; injection hw
          have rc' := hs (some (V.ref x))
          rw [set_same hσ] at rc'
          obtain ⟨l'', g', q1, q2⟩ := back_ok (j := 0) rc' (k2.mono xx) (hb hp)
          refine af (V.ref x) B' l'' gg H' xx q1 hr (Cfg.dropL (a := g' ++ q) (Cfg.perm cf' ?_))
          refine List.perm_iff_count.mpr fun a => ?_
          have := List.perm_iff_count.mp q2 a
          simp only [List.count_append, List.count_nil] at this ⊢
          omega
        cases hc : f.call ((ordA ix r1).map (·.1)) with
        | ret d Ec =>
          rw [hc] at af
          intro v σc B' lc fp' H' xx rc hp rv cf'
          cases d with
          | non =>
            obtain ⟨rfl, rfl⟩ := rv
            refine ⟨rfl, ?_⟩
            dsimp only at af
            split at af
            · rename_i c' ns ds hg
              split at af
              · exact fin hg xx rc hp (by simpa using cf') af
              · exact af.elim
            · exact af.elim
          | _ => exact af.elim
        | nxt Ec =>
          rw [hc] at af
          intro σc B' lc H' xx rc hp cf'
          refine ⟨rfl, ?_⟩
          dsimp only at af
          split at af
          · rename_i c' ns ds hg
            split at af
            · exact fin hg xx rc hp cf' af
            · exact af.elim
          · exact af.elim
        | exc c' ns vs' Ec =>
          rw [hc] at af
          intro cls dx' σc B' lc H' xx rc hp rx cf'
          obtain ⟨l'', g', q1, q2⟩ := back_ok (j := 0) rc (k2.mono xx) (hb hp)
          refine af cls dx' B' l'' H' xx q1 rx (Cfg.dropL (a := g' ++ q) (Cfg.perm cf' ?_))
          refine List.perm_iff_count.mpr fun a => ?_
          have := List.perm_iff_count.mp q2 a
          simp only [List.count_append, List.count_nil] at this ⊢
          omega
        | brk Ec => rw [hc] at af; exact af.elim
        | cnt Ec => rw [hc] at af; exact af.elim
        | bad => rw [hc] at af; exact af.elim
    · rw [if_neg hk0] at af; exact af.elim
def makeWR (c : Str) (f : Fn) (ix : List Nat) (dfl : List D) (a : Env → R (List Opd)) : Env → R D := fun E => (a E).bind (makeW c f ix dfl)
section
variable {X : Cx} {W : WX} {k j n : Nat} {x : Str} {ks : List Str} {es : List Expr} {kws : List Keyword} {p pos : Pos} {a : Env → R (List Opd)} {f : Fn} {ix : List Nat} {dfl : List D} {dvs : List V} {Pr : World → PySem.W.Frag → (Str → Option Value) → Prop}
/-- a class of the module, called -/
theorem evr_makeW (c : Cxt Pr X k) (pr : Pres X.K x) (C : CalC X.prog X.w X.K X.mg X.base j x n ks ix dvs (spD ix.length f X.K)) (hj : j + 1 ≤ k) (hg : Gl X x) (tk : Takes X W) (hd : ∀ B, RepL X.K B dfl dvs []) (hix : (ix.all (· < n + 1 + ks.length + dvs.length) && (decide ix.Nodup && decide (ix[0]? = some 0))) = true) (h : EvAK X W es kws n ks pos a) (he : isExc x = false := by decide +kernel) (hdb : (x == ("__debug__" : Str)) = false := by decide +kernel) :
    EvR X W (.Call (.Name x p) es kws pos) (makeWR x f ix dfl a) := ⟨fun E σ B l fr H Q re cf af => by
  obtain ⟨fa, fd, ps, F, hm, M, its, hb⟩ := C.ex
  obtain ⟨hix1, hix2⟩ := Bool.and_eq_true_iff.mp hix
  obtain ⟨hix2, hix3⟩ := Bool.and_eq_true_iff.mp hix2
  intro pins s I
  refine PySem.wpAny_Call_Name_kw (ld_glob I hg hm ?_ hdb)
  refine h.run E σ B l fr H (.ref (He.ga X.K x)) [] pins s _ I M.kp re cf (After.first (γ := List Opd) (δ := List V) af fun os E1 xs B1 l1 fp1 H1 ho x1 re1 rv1 cf1 af1 => ?_)
  have lx : xs.length = n + ks.length := by rw [← rv1.len]; exact h.len E os E1 ho
  have l1 : (xs.take n).length = n := by rw [List.length_take]; omega
  have l2 : (xs.drop n).length = ks.length := by rw [List.length_drop]; omega
  refine ⟨xs.take n, xs.drop n, (List.take_append_drop n xs).symm, l1, l2, fun us ws s2 I2 ru rw' => ?_⟩
  refine run_MS M F (c.room.mono hj) hb tk I2 ru rw' l1 l2 fun y dy hy hdy ne => ?_
  have e : V.ref y :: xs.take n ++ xs.drop n ++ dvs = V.ref y :: (xs ++ dvs) := by rw [List.cons_append, List.take_append_drop, List.cons_append]
  rw [e]
  exact makeW_ok rv1 re1 cf1 hy hdy ne ⟨pr, he⟩ (ordA_len (by rw [List.length_cons, List.length_append, lx, show n + ks.length + dvs.length + 1 = n + 1 + ks.length + dvs.length by omega]; exact hix1)) (of_decide_eq_true hix2) (of_decide_eq_true hix3) hd af1⟩
end
/-! ### methods -/
def insD (c m : Str) : D → Bool
  | .ins _ c' ns _ => decide (c' = c) && !ns.contains m
  | _ => false
def methR (c m : Str) (f : Fn) (ix : List Nat) (dfl : List D) (g : Env → R Opd) (a : Env → R (List Opd)) : Env → R D := fun E => (g E).bind fun o E1 => match o.val E1 with
  | some d => if insD c m d = true then (a E1).bind fun os E2 => callW f ix dfl (o :: os) E2 else .bad
  | none => .bad
theorem lookup_zip_none {α : Type} {m : Str} : ∀ {ns : List Str} {vs : List α}, ns.contains m = false → (ns.zip vs).lookup m = none
  | [], _, _ => rfl
  | _ :: _, [], _ => rfl
  | n :: ns, v :: vs, h => by
    rw [List.contains_cons, Bool.or_eq_false_iff] at h
    rw [List.zip_cons_cons, List.lookup_cons, h.1]
    exact lookup_zip_none h.2
theorem Rep.isI {K : PySem.W.Frag} {B H : Hp} {L f : List Ob} {v : V} {o : Bool} {c : Str} {ns : List Str} {ds : List D} (h : Rep K B (.ins o c ns ds) v f) (cf : Cfg B L H) (m : ∀ ob, ob ∈ f → ob ∈ L) : ∃ p dx vs g, v = .ref p ∧ H p = some (.ins (He.ga K c) dx (ns.zip vs)) ∧ ns.length = vs.length ∧ Pres K c ∧ isExc c = false ∧ RepL K B ds vs g ∧ ∀ ob, ob ∈ g → ob ∈ f := by
  obtain ⟨p, dx, vs, h1, h2, h3⟩ := h
  cases o with
  | true =>
    obtain ⟨g, rfl, h4⟩ := h3
    exact ⟨p, dx, vs, g, h1, cf.own p _ (m _ (by simp)), h2.1, h2.2.1, h2.2.2, h4, fun ob hb => List.mem_append_right _ hb⟩
  | false =>
    obtain ⟨h4, h5, rfl⟩ := h3
    exact ⟨p, dx, vs, [], h1, cf.ex _ _ h4, h2.1, h2.2.1, h2.2.2, h5, fun ob hb => nomatch hb⟩
section
variable {X : Cx} {W : WX} {k j n : Nat} {x m : Str} {ks : List Str} {o : Expr} {es : List Expr} {kws : List Keyword} {apos pos : Pos} {g : Env → R Opd} {a : Env → R (List Opd)} {f : Fn} {ix : List Nat} {dfl : List D} {dvs : List V} {Pr : World → PySem.W.Frag → (Str → Option Value) → Prop}
theorem evr_methW {pl : Sem Bool} (c : Cxt Pr X k) (C : CalM X.prog X.w X.K X.mg X.base j x m n ks ix dvs (spD ix.length f X.K)) (hj : j ≤ k) (tk : Takes X W) (hd : ∀ B, RepL X.K B dfl dvs []) (hix : (ix.all (· < n + 1 + ks.length + dvs.length) && decide ix.Nodup) = true) (ho : EvO X W o g) (h : EvAK X W es kws n ks pos a)
    (ht : eval (.Call (.Attribute o m apos) es kws pos) X.env = (do
      let ov ← eval o X.env
      standAt apos.atName
      let (f, first) ← holding [ov] (getMethod ov m pl)
      callWith pos f first (backTo pos (starEach es X.env)) (backToKw pos (keywordEach kws X.env))) := by rfl) :
    EvR X W (.Call (.Attribute o m apos) es kws pos) (methR x m f ix dfl g a) := ⟨fun E σ B l fr H Q re cf af => by
  obtain ⟨fa, fd, ps, F, cl, hm, its, hb⟩ := C.ex
  obtain ⟨hix1, hix2⟩ := Bool.and_eq_true_iff.mp hix
  intro pins s I
  refine PySem.W.methodCall_KW (pl := pl) (thn (ho.run E σ B l fr H (fun v H1 => ∃ p C dx fs, v = .ref p ∧ H1 p = some (.ins C dx fs) ∧ C = He.ga X.K x ∧ fs.lookup m = none ∧ ∀ s1, Inv X pins σ H1 s1 → wpAny (model X.prog X.w) X.A (callWith pos (.ref fa) [.ref p] (backTo pos (starEach es X.env)) (backToKw pos (keywordEach kws X.env))) (EP X pins σ Q) X.xe s1) re cf (After.first (γ := Opd) (δ := V) af fun o1 E1 v1 B1 l1 fp1 H1 _ x1 re1 rv1 cf1 af1 => ?_) pins s I) fun u s1 z => ?_) ht
  · try dsimp only at af1
    cases hv1 : o1.val E1 with
    | none => rw [hv1] at af1; exact af1.elim
    | some d1 =>
      rw [hv1] at af1
      dsimp only at af1
      by_cases hi : insD x m d1 = true
      · rw [if_pos hi] at af1
        obtain ⟨f1, r1, m1⟩ := rv1.get re1 hv1
        have mm : ∀ ob, ob ∈ f1 → ob ∈ fp1 ++ (l1 ++ fr) := fun ob hm => by
          have := m1 ob hm
          simp only [List.mem_append] at this ⊢
          rcases this with h | h
          · exact .inl h
          · exact .inr (.inl h)
        unfold insD at hi
        split at hi
        · rename_i o0 c' ns ds
          obtain ⟨h1, h2⟩ := Bool.and_eq_true_iff.mp hi
          have h1 := of_decide_eq_true h1
          subst h1
          have h2 : ns.contains m = false := by simpa using h2
          obtain ⟨p, dx, vs, g', rfl, hp, _⟩ := r1.isI cf1 mm
          refine ⟨p, _, dx, _, rfl, hp, rfl, lookup_zip_none h2, fun s1 I1 => ?_⟩
          refine h.run E1 σ B1 l1 (fp1 ++ fr) H1 (.ref fa) [.ref p] pins s1 _ I1 hm.kp re1 (Cfg.perm cf1 (by walk_at "perm")) (After.next (γ := List Opd) (δ := List V) af1 fun os E2 xs B2 l2 fp2 H2 ho2 x2 re2 rv2 cf2 af2 => ?_)
          have lx : xs.length = n + ks.length := by rw [← rv2.len]; exact h.len E1 os E2 ho2
          have l1' : (xs.take n).length = n := by rw [List.length_take]; omega
          have l2' : (xs.drop n).length = ks.length := by rw [List.length_drop]; omega
          refine ⟨xs.take n, xs.drop n, (List.take_append_drop n xs).symm, l1', l2', fun us ws s2 I2 ru rw' => ?_⟩
          refine run_S (us := .ref p :: us) (vs := .ref p :: xs.take n) F (c.room.mono hj) hb tk I2 (.cons rfl ru) rw' (by rw [List.length_cons, l1']) l2' ?_
          have e : V.ref p :: xs.take n ++ xs.drop n ++ dvs = (V.ref p :: xs) ++ dvs := by rw [List.cons_append, List.take_append_drop]
          rw [e]
          exact callW_ok (os := o1 :: os) ⟨_, xs, fp1, fp2, rfl, rfl, rv1.mono x2, rv2⟩ re2 (Cfg.perm cf2 (by walk_at "perm")) (ordA_len (by rw [List.length_append, List.length_cons, lx, show n + ks.length + 1 + dvs.length = n + 1 + ks.length + dvs.length by omega]; exact hix1)) (of_decide_eq_true hix2) hd af2
        · cases hi
      · rw [if_neg hi] at af1; exact af1.elim
  · obtain ⟨v, H1, I1, rv, p, C, dx, fs, rfl, hp, rfl, hl, q⟩ := z
    obtain rfl : u = Value.ref p := rv
    exact getmeth_ok I1 hp cl hm hl (q s1 I1)⟩
end
end DW
/-! DW21: attributes, isinstance of own classes. -/
namespace DW
open PySem L2 Evl QW
open PySem.Spec PyProof.Rows
local macro_rules | `(tactic| walk_at "perm") => `(tactic| (refine List.perm_iff_count.mpr fun _ => ?_; simp only [List.count_append, List.count_nil]; omega))
/-! ### attributes, read -/
/-- e.f -/
def fldD (f : Str) : D → Option D
  | .ins _ c ns vs => if (flds c).contains f = true then ownless ((ns.zip vs).lookup f) else none
  | .exn c ns vs => if (flds c).contains f = true then ownless ((ns.zip vs).lookup f) else none
  | _ => none
theorem lookup_rep {K : PySem.W.Frag} {B : Hp} {f : Str} : ∀ {ns : List Str} {ds : List D} {vs : List V} {g : List Ob} {d : D}, RepL K B ds vs g → (ns.zip ds).lookup f = some d → noOwn d = true → ∃ v, (ns.zip vs).lookup f = some v ∧ Rep K B d v []
  | [], _, _, _, _, _, e, _ => by simp at e
  | _ :: _, [], _, _, _, _, e, _ => by simp at e
  | n :: ns, d0 :: ds, vs, g, d, h, e, no => by
    obtain ⟨v, vs', f1, f2, rfl, rfl, h3, h4⟩ := h
    rw [List.zip_cons_cons, List.lookup_cons] at e ⊢
    cases hb : f == n with
    | true =>
      rw [hb] at e
      have e : d0 = d := by simpa using e
      subst e
      have z := h3.none no
      subst z
      exact ⟨v, rfl, h3⟩
    | false =>
      rw [hb] at e
      exact lookup_rep h4 e no
theorem xget_ok {X : Cx} {a C dd : Addr} {n : Str} {fs : List (Str × V)} {v : V} {pins : List (Addr × PySem.Obj)} {σ : L2.St} {H : Hp} {s : Shared} {A : Around} {Q : Value → Shared → Prop} {E : Value → Shared → Prop} (T : XfC X.K C) (hno : PySem.W.findIn X.K (.ref C) n = some none) (I : Inv X pins σ H s) (ha : H a = some (exO C (some dd) a)) (hd : H dd = some (.xd fs)) (hl : fs.lookup n = some v)
    (h : ∀ u s', Inv X pins σ H s' → RelV v u → Q u s') : wpAny (model X.prog X.w) A (getAttr (.ref a) n true) Q E s := by
  obtain ⟨⟨oe, ws, e1, z, e2⟩, _⟩ := (show ObjOk X.prog X.w H s.heap a (exO C (some dd) a) from I.hok a _ ha)
  obtain ⟨mA, hns, hr⟩ := (show ObjOk X.prog X.w H s.heap dd (.xd fs) from I.hok dd _ hd)
  obtain ⟨od, ho, hk⟩ := lookIn_ns hns
  obtain ⟨u, hu, ru⟩ := RelO.some_of (v := v) (o := mA n) (by rw [← hl]; exact hr n)
  have J : PySem.W.InstAt s.heap a oe C (some od) := ⟨e1, z.1, by unfold PySem.W.notCls; rw [e2] <;> rfl, by rw [z.2]; exact ho⟩
  exact HandSPX.exc_get I.kIn J T.ga T.gg T.exC (PySem.W.findObj_own T.hdC hno rfl (by rw [hk, hu])) (handed_of ru) (h u _ (I.tok _) ru)
/-- the two kinds of things that have attributes -/
def tAtt (K : PySem.W.Frag) (te : TE) (f : Str) : TE := fun σ H Q => te σ H fun x H1 => (∃ a C dx fs v, x = .ref a ∧ H1 a = some (.ins C dx fs) ∧ Cls K C ∧ NoAttr K C f ∧ fs.lookup f = some v ∧ Q v H1) ∨
  (∃ a C dd fs v, x = .ref a ∧ XfC K C ∧ NoAttr K C f ∧ H1 a = some (exO C (some dd) a) ∧ H1 dd = some (.xd fs) ∧ fs.lookup f = some v ∧ Q v H1)
theorem pe_att {X : Cx} {e : Expr} {f : Str} {te : TE} {pos : Pos} (he : PE X e te) (hb : attributeBase e f X.env (eval e X.env) = eval e X.env) : PE X (.Attribute e f pos) (tAtt X.K te f) := by
  refine ⟨fun pins s σ H Q I h => ?_⟩
  refine attr_of hb (thn (he.run pins s σ H _ I h) fun u s1 hh => ?_)
  obtain ⟨x, H1, I1, rx, hc⟩ := hh
  rcases hc with ⟨a, C, dx, fs, v, rfl, ea, c, n, l, q⟩ | ⟨a, C, dd, fs, v, rfl, T, n, ea, ed, l, q⟩
  · obtain rfl : u = Value.ref a := rx
    exact getattr_ok I1 ea c n l fun u' s2 I2 ru => ⟨v, H1, I2, ru, q⟩
  · obtain rfl : u = Value.ref a := rx
    exact xget_ok T n I1 ea ed l fun u' s2 I2 ru => ⟨v, H1, I2, ru, q⟩
section
variable {X : Cx} {W : WX} {e : Expr} {f : Str} {g : Env → R Opd} {pos : Pos}
theorem evr_fld (h1 : EvO X W e g) (hb : attributeBase e f X.env (eval e X.env) = eval e X.env := by rfl) : EvR X W (.Attribute e f pos) (op1 (fldD f) g) := ⟨fun E σ B l fr H Q re cf af => by
  refine wE_of (pe_att pE hb) (h1.run E σ B l fr H _ re cf (After.first (γ := Opd) (δ := V) af fun o1 E1 v1 B1 l1 fp1 H1 _ x1 re1 rv1 cf1 af1 => ?_))
  try dsimp only at af1
  cases hv1 : o1.val E1 with
  | none => rw [hv1] at af1; exact af1.elim
  | some d1 =>
    rw [hv1] at af1
    dsimp only at af1
    cases hF : fldD f d1 with
    | none => rw [hF] at af1; exact af1.elim
    | some r =>
      rw [hF] at af1
      obtain ⟨f1, r1, m1⟩ := rv1.get re1 hv1
      have mm : ∀ ob, ob ∈ f1 → ob ∈ fp1 ++ (l1 ++ fr) := fun ob hm => by
        have := m1 ob hm
        simp only [List.mem_append] at this ⊢
        rcases this with h | h
        · exact .inl h
        · exact .inr (.inl h)
      unfold fldD at hF
      split at hF
      · rename_i o c ns ds
        split at hF
        · rename_i hc
          obtain ⟨h1, h2⟩ := ownless_some hF
          obtain ⟨p, dx, vs, g', rfl, hp, _, pr, hx, rl, _⟩ := r1.isI cf1 mm
          obtain ⟨v, hv, rv⟩ := lookup_rep rl h1 h2
          exact .inl ⟨p, _, dx, _, v, rfl, hp, pr.cls hx, pr.fld hc, hv, af1 v B1 l1 [] H1 (Ex.refl _) re1 rv (Cfg.dropL cf1)⟩
        · cases hF
      · rename_i c ns ds
        split at hF
        · rename_i hc
          obtain ⟨h1, h2⟩ := ownless_some hF
          obtain ⟨⟨_, pr, hx⟩, a, dx, rfl, ha, hd⟩ := r1
          rcases hd with ⟨rfl, _⟩ | ⟨dd, vs, rfl, hdd, _, rl⟩
          · simp at h1
          · obtain ⟨v, hv, rv⟩ := lookup_rep rl h1 h2
            exact .inr ⟨a, _, dd, _, v, rfl, pr.exc hx, pr.fld hc, cf1.ex _ _ ha, cf1.ex _ _ hdd, hv, af1 v B1 l1 [] H1 (Ex.refl _) re1 rv (Cfg.dropL cf1)⟩
        · cases hF
      · cases hF⟩
end
/-! ### attributes, stored: self.f = e -/
def putNs (ns : List Str) (f : Str) : List Str := if ns.contains f = true then ns else ns ++ [f]
def putL {α : Type} : List Str → List α → Str → α → List α
  | n :: ns, x :: xs, f, v => if n = f then v :: xs else x :: putL ns xs f v
  | _, xs, _, v => xs ++ [v]
theorem putF_zip {f : Str} {v : V} : ∀ {ns : List Str} {vs : List V}, ns.length = vs.length → putF f v (ns.zip vs) = (putNs ns f).zip (putL ns vs f v) ∧ (putNs ns f).length = (putL ns vs f v).length
  | [], [], _ => ⟨rfl, rfl⟩
  | [], _ :: _, h => by cases h
  | _ :: _, [], h => by cases h
  | n :: ns, x :: vs, h => by
    obtain ⟨h1, h2⟩ := putF_zip (f := f) (v := v) (ns := ns) (vs := vs) (by simpa using h)
    rw [List.zip_cons_cons]
    unfold putF
    by_cases c : n = f
    · subst c
      rw [if_pos rfl]
      have e1 : putNs (n :: ns) n = n :: ns := by unfold putNs; rw [if_pos (by simp)]
      have e2 : putL (n :: ns) (x :: vs) n v = v :: vs := by unfold putL; rw [if_pos rfl]
      rw [e1, e2]
      exact ⟨rfl, by simpa using h⟩
    · rw [if_neg c, h1]
      have e1 : putNs (n :: ns) f = n :: putNs ns f := by
        unfold putNs
        have : (n :: ns).contains f = ns.contains f := by rw [List.contains_cons]; rw [show (f == n) = false from by simpa using Ne.symm c]; rfl
        rw [this]
        split <;> rfl
      have e2 : putL (n :: ns) (x :: vs) f v = x :: putL ns vs f v := by rw [putL, if_neg c]
      rw [e1, e2]
      exact ⟨rfl, by simpa using h2⟩
theorem putL_rep {K : PySem.W.Frag} {B : Hp} {f : Str} {d : D} {v : V} {fp : List Ob} (r : Rep K B d v fp) : ∀ {ns : List Str} {ds : List D} {vs : List V} {g : List Ob}, RepL K B ds vs g → ∃ g' q, RepL K B (putL ns ds f d) (putL ns vs f v) g' ∧ (g' ++ q).Perm (g ++ fp)
  | [], ds, vs, g, h => ⟨g ++ fp, [], by
      have : RepL K B [d] [v] fp := ⟨v, [], fp, [], rfl, by simp, r, rfl, rfl⟩
      have e1 : putL [] ds f d = ds ++ [d] := by unfold putL; rfl
      have e2 : putL [] vs f v = vs ++ [v] := by unfold putL; rfl
      rw [e1, e2]
      exact h.app this, by simp⟩
  | n :: ns, [], vs, g, h => by
    obtain ⟨rfl, rfl⟩ := h
    exact ⟨fp, [], ⟨v, [], fp, [], rfl, by simp, r, rfl, rfl⟩, by simp⟩
  | n :: ns, d0 :: ds, vs, g, h => by
    obtain ⟨v0, vs', f1, f2, rfl, rfl, h3, h4⟩ := h
    by_cases c : n = f
    · have e1 : putL (n :: ns) (d0 :: ds) f d = d :: ds := by rw [putL, if_pos c]
      have e2 : putL (n :: ns) (v0 :: vs') f v = v :: vs' := by rw [putL, if_pos c]
      rw [e1, e2]
      exact ⟨fp ++ f2, f1, ⟨v, vs', fp, f2, rfl, rfl, r, h4⟩, by walk_at "perm"⟩
    · have e1 : putL (n :: ns) (d0 :: ds) f d = d0 :: putL ns ds f d := by rw [putL, if_neg c]
      have e2 : putL (n :: ns) (v0 :: vs') f v = v0 :: putL ns vs' f v := by rw [putL, if_neg c]
      rw [e1, e2]
      obtain ⟨g', q, h5, h6⟩ := putL_rep r (ns := ns) h4
      refine ⟨f1 ++ g', q, ⟨v0, _, f1, g', rfl, rfl, h3, h5⟩, ?_⟩
      refine List.perm_iff_count.mpr fun a => ?_
      have := List.perm_iff_count.mp h6 a
      simp only [List.count_append, List.count_nil] at this ⊢
      omega
def sFld (i : Nat) (f : Str) (g : Env → R D) (F : Env → Out) : Env → Out := fun E => onR (g E) fun d E1 => match gt E1 i with
  | some (.ins true c ns vs) => if ((flds c).contains f && decide (ns.length < 1000)) = true then F (E1.set i (some (.ins true c (putNs ns f) (putL ns vs f d)))) else .bad
  | _ => .bad
section
variable {X : Cx} {W : WX} {S : List Nat} {e : Expr} {f x : Str} {i : Nat} {g : Env → R D} {F : Env → Out} {p1 pos' pos : Pos} {rest : List Stmt}
theorem exs_fld (n : Slot X i x) (h : EvR X W e g) (hF : ExS X W S rest F) (hs : swapsWith e (some (.Attribute (.Name x p1) f pos')) pos.line X.env = pure false := by rfl) :
    ExS X W S (.Assign [.Attribute (.Name x p1) f pos'] e pos :: rest) (sFld i f g F) := ⟨fun E σ B l fr H N re cf af =>
  wSs_of (pss_cons (ps_fld pE pE hs) pSs) (h.run E σ B l fr H _ re cf (AfterS.expr (α := D) (β := V) af fun d E1 v B1 l1 fp H1 _ x1 re1 rv1 cf1 af1 => by
    try dsimp only at af1
    split at af1
    · rename_i c ns ds hg
      split at af1
      · rename_i hc
        obtain ⟨hc1, hc2⟩ := ba2 hc
        have hc2 := of_decide_eq_true hc2
        obtain ⟨w, g1, gg, g2, hw, rfl, hr, hp, _⟩ := re1.at (gt_some hg)
        obtain ⟨p, dx, vs, rfl, ⟨hl, pr, hx⟩, h3⟩ := hr
        rw [if_pos rfl] at h3
        obtain ⟨g3, rfl, rl⟩ := h3
        obtain ⟨e1, e2⟩ := putF_zip (f := f) (v := v) hl
        obtain ⟨g4, q, rl2, pm⟩ := putL_rep (f := f) rv1 (ns := ns) rl
        have cfx : Cfg B1 ([(p, .ins (He.ga X.K c) dx (ns.zip vs))] ++ ((([(dx, .own p)] ++ g3) ++ (g1 ++ g2)) ++ (fp ++ fr))) H1 := Cfg.perm cf1 (by walk_at "perm")
        have hH : H1 p = some (.ins (He.ga X.K c) dx (ns.zip vs)) := cfx.own p _ (by simp)
        exact go (e_slot n hw) cfx fun H2 e3 c3 => by
          refine ⟨p, _, dx, _, rfl, e3 _ _ hH, pr.cls hx, pr.fld hc1, by rw [List.length_zip]; omega, ?_⟩
          rw [e1]
          have c4 := Cfg.upd (o' := .ins (He.ga X.K c) dx ((putNs ns f).zip (putL ns vs f v))) c3
          have r2 : Rep X.K B1 (.ins true c (putNs ns f) (putL ns ds f d)) (.ref p) ([(p, .ins (He.ga X.K c) dx ((putNs ns f).zip (putL ns vs f v)))] ++ [(dx, .own p)] ++ g4) := ⟨p, dx, putL ns vs f v, rfl, ⟨e2, pr, hx⟩, by rw [if_pos rfl]; exact ⟨g4, rfl, rl2⟩⟩
          have re2 := hp B1 _ _ _ (Ex.refl _) r2
          rw [set_same hw] at re2
          refine hF.run _ σ B1 _ fr _ N re2 (Cfg.dropL (a := q) (Cfg.perm c4 ?_)) (AfterS.up (Ex.refl _) Par.refl af1)
          refine List.perm_iff_count.mpr fun a => ?_
          have := List.perm_iff_count.mp pm a
          simp only [List.count_append, List.count_nil] at this ⊢
          omega
      · exact af1.elim
    · exact af1.elim))⟩
end
end DW
/-! DW22: isinstance. -/
namespace DW
open PySem PySem.W PySem.Spec PySem.Calls PyProof.Rows
section
variable {prog : Program} {w : World} {A : Around} {E : Value → Shared → Prop} {s : Shared} {K : Frag} {x C : Addr} {ob : PySem.Obj} {dx : Option PySem.Obj}
theorem fo_bind {nm : Str} {a b : Value} (k : (clsIn K C).isSome = true) (p : findIn K (.ref C) nm = some (some a)) (q : specialIn K a "__get__" = some (some b)) (r : takesIn K a = some true) : findObj K C dx nm = some (.bind b a) := by
  unfold findObj
  cases e : clsIn K C with
  | none => rw [e] at k; cases k
  | some cd => rw [Option.bind_some, p, Option.bind_some]; simp [q, r]
/-- an exception's __class__ -/
theorem xcls {Q : Option Value → Shared → Prop} (T : L2.XfC K C) (G : ClsG K C) (X : K.In s.heap) (I : InstAt s.heap x ob C dx) (h : Q (some (.ref C)) { s with toks := s.toks + 1 }) : wpAny (model prog w) A (getAttr? (.ref x) "__class__") Q E s := by
  have fo : findObj K C dx "__class__" = some (.bind (.builtin "getset_descriptor.__get__") (.builtin "object.__class__")) := fo_bind (by obtain ⟨cd, hc, _⟩ := any_some T.hdC; rw [hc]; rfl) G.ha G.hn G.ht
  obtain ⟨hp, g, d, t, os⟩ := s
  have l0 := I.type (M := model prog w)
  have l1 := looks_findIn (M := model prog w) X T.ga
  have l2 := looks_findIn (M := model prog w) X T.gg
  have l3 := looks_find (M := model prog w) X I fo
  have l4 : Looks (model prog w) hp (isInstance (.ref x) (.type "BaseException")) true := l0.andThen (looks_subIn X T.exC)
  have n2 : (Value.builtin "BaseException.__getattribute__" == Value.builtin "object.__getattribute__") = false := by decide +kernel
  have n1 : (onTheHeap (Value.ref C) && Value.builtin "BaseException.__getattribute__" == Value.builtin "object.__getattribute__") = false := by rw [n2]; rfl
  unfold getAttr? getAttrBy? getAttrBy
  refine wpAny_bind (wpAny_mkText (wpAny_bind (wpAny_attempt (wpAny_holding (wpAny_bind (l0.at (wpAny_bind (l1.at ?_))))))))
  show wpAny _ _ (if (onTheHeap (Value.ref C) && Value.builtin "BaseException.__getattribute__" == Value.builtin "object.__getattribute__") = true then _ else _) _ _ _
  rw [n1, if_neg Bool.false_ne_true]
  unfold getAttrByItsOwn hookBefore
  refine wpAny_bind ?_
  rw [if_pos (show onTheHeap (Value.ref C) = true from rfl)]
  refine l2.at (wpAny_bind (wpAny_attempt (wpAny_holding ?_)))
  unfold callGetattribute
  rw [show (false && onTheHeap (Value.builtin "BaseException.__getattribute__")) = false from rfl, if_neg Bool.false_ne_true]
  unfold boundAndCalled
  rw [PySem.F.excAttr_ValueError.ga.bind (.ref x)]
  refine wpAny_bind (wpAny_pure ?_)
  show wpAny _ _ (call (.builtin "BaseException.__getattribute__") [.ref x, .str "__class__" t]) _ _ _
  refine wpAny_call (codeAny_call_builtin PySem.F.excAttr_ValueError.ga.plain PySem.F.entry_bexc_ga (@check_slot (model prog w) _ _ ⟨hp, g, d, t + 1, os⟩ "BaseException.__getattribute__" "BaseException" "__getattribute__" (.ref x) [.str "__class__" t] [] _ (by decide +kernel) (by decide +kernel) l4 (PySem.F.args_bexc_ga (.ref x) (.str "__class__" t)) ?_))
  unfold Builtin.«object.__getattribute__»
  refine wpAny_bind (wpAny_of_eq (a := ((Value.ref x : Value), [Value.str "__class__" t])) (by first | rfl | (simp only [slotArgs]; rfl)) (wpAny_bind (wpAny_pure (wpAny_bind (l0.at (wpAny_bind (l3.at ?_)))))))
  show wpAny _ _ (holding [Value.builtin "object.__class__"] (call (.builtin "getset_descriptor.__get__") [.builtin "object.__class__", .ref x, .ref C]) >>= ret) _ _ _
  refine wpAny_bind (wpAny_holding (wpAny_call (class_get (s := ⟨hp, g, d, t + 1, os⟩) (ox := ob) (od := dx) X I G.hm (wpAny_pure ?_))))
  show wpAny _ _ (handedOut (.ref C)) _ _ _
  rw [handedOut_of (v := .ref C) rfl]
  first
    | exact wpAny_pure (wpAny_pure h)
    | exact wpAny_pure h
    | exact wpAny_pure (wpAny_bind (wpAny_pure (wpAny_pure h)))
theorem kitx_x (T : L2.XfC K C) (G : ClsG K C) : KitX K (.ref x) (.ref C) (fun h => InstAt h x ob C dx) where
  ty := fun _ _ _ I => I.type
  it := fun M h X _ => by
    obtain ⟨cd, hc, _⟩ := any_some T.hdC
    unfold clsIn at hc
    split at hc
    · rename_i ho
      intro A1 Q1 E1 s1 k q
      unfold isType loadHead
      exact wpAny_bind (wpAny_loadPart (k _ _ (X _ _ ho)) (wpAny_pure q))
    · cases hc
  ne := fun h tp dd its n sl X htp => by
    obtain ⟨cd, hc, _⟩ := any_some T.hdC
    cases b : (Value.ref C == Value.ref tp) with
    | false => rfl
    | true =>
      have e : C = tp := Value.ref.inj (beq_iff_eq.mp b)
      subst e
      unfold clsIn at hc
      split at hc
      · rename_i ho
        have z := (X _ _ ho).symm.trans htp
        cases z
      · cases hc
  ca := fun X I k => xcls T G X I k
end
open PySem L2 Evl QW
open PySem.Spec PyProof.Rows
/-- isinstance(x, c): also of an exception -/
def rIsD (K : PySem.W.Frag) : List V → Hp → VK → Prop := fun xs H Q => ∃ (x c : V) (t u : Value) (b : Bool), xs = [x, c] ∧ ClsV c u ∧ (TyX K H x t ∨ ∃ (a C : Addr) (dx : Option Addr), x = .ref a ∧ t = .ref C ∧ XfC K C ∧ ClsG K C ∧ H a = some (exO C dx a) ∧ (∀ d, dx = some d → ∃ fs, H d = some (.xd fs))) ∧ PySem.W.kitOne K t u = some b ∧ Q (.bl b) H
theorem call_isD {X : Cx} : CallR X (.builtin "isinstance") (rIsD X.K) := by
  intro pins s σ H xs us Q I r h
  obtain ⟨x, c, t, u, b, rfl, k, ty, e, q⟩ := h
  obtain ⟨u1, u2, rfl, r1, r2⟩ := vals2 r
  have e2 := k.eq r2
  subst e2
  rcases ty with ty | ⟨a, C, dx, rfl, rfl, T, G, ha, hd⟩
  · obtain ⟨P, Z, p, hx⟩ := kit_of I r1 ty
    exact PySem.W.kia_one Z I.kIn p e hx fun tk => ⟨.bl b, H, I.tok tk, rfl, q⟩
  · obtain rfl : u1 = Value.ref a := r1
    obtain ⟨⟨oe, ws, e1, z, e3⟩, _⟩ := (show ObjOk X.prog X.w H s.heap a (exO C dx a) from I.hok a _ ha)
    have J : ∃ od, PySem.W.InstAt s.heap a oe C od := by
      cases dx with
      | none => exact ⟨none, e1, z.1, by unfold PySem.W.notCls; rw [e3] <;> rfl, by rw [z.2]; trivial⟩
      | some d =>
        obtain ⟨fs, hf⟩ := hd d rfl
        obtain ⟨mA, hns, _⟩ := (show ObjOk X.prog X.w H s.heap d (.xd fs) from I.hok d _ hf)
        obtain ⟨od, ho, _⟩ := lookIn_ns hns
        exact ⟨some od, e1, z.1, by unfold PySem.W.notCls; rw [e3] <;> rfl, by rw [z.2]; exact ho⟩
    obtain ⟨od, J⟩ := J
    exact PySem.W.kia_one (kitx_x T G) I.kIn J e (fun z => nomatch z) fun tk => ⟨.bl b, H, I.tok tk, rfl, q⟩
/-- isinstance(d, C), C an own class -/
def isiO (C : Str) : D → Option D
  | .ins _ c _ _ => some (.bl (subB c C))
  | .exn c _ _ => some (.bl (subB c C))
  | d => match tyD d with
    | some t => if bltT.contains t = true then some (.bl false) else none
    | none => none
/-- isinstance(d, T), T built in -/
def isiX (T : String) : D → Option D
  | .ins _ c _ _ => some (.bl (subB c (Str.ofString T)))
  | .exn c _ _ => some (.bl (subB c (Str.ofString T)))
  | d => match tyD d with
    | some t => (L2.kitB t T).map .bl
    | none => none
theorem Rep.isX {K : PySem.W.Frag} {B H : Hp} {L f : List Ob} {v : V} {c : Str} {ns : List Str} {ds : List D} (r : Rep K B (.exn c ns ds) v f) (cf : Cfg B L H) : Pres K c ∧ ∃ (a C : Addr) (dx : Option Addr), v = .ref a ∧ Value.ref (He.ga K c) = .ref C ∧ XfC K C ∧ ClsG K C ∧ H a = some (exO C dx a) ∧ (∀ d, dx = some d → ∃ fs, H d = some (.xd fs)) := by
  obtain ⟨⟨_, pr, hx⟩, a, dx, rfl, ha, hd⟩ := r
  refine ⟨pr, a, _, dx, rfl, rfl, pr.exc hx, pr.g, cf.ex _ _ ha, fun d e => ?_⟩
  rcases hd with ⟨_, _, rfl⟩ | ⟨p, vs, rfl, hp, _⟩
  · cases e
  · cases e; exact ⟨_, cf.ex _ _ hp⟩
theorem Rep.tyI {K : PySem.W.Frag} {B H : Hp} {L f : List Ob} {v : V} {o : Bool} {c : Str} {ns : List Str} {ds : List D} (r : Rep K B (.ins o c ns ds) v f) (cf : Cfg B L H) (m : ∀ ob, ob ∈ f → ob ∈ L) : Pres K c ∧ TyX K H v (.ref (He.ga K c)) := by
  obtain ⟨p, dx, vs, g, rfl, hp, _, pr, hx, _⟩ := r.isI cf m
  exact ⟨pr, .base (.ins hp (pr.cls hx) pr.g.ha pr.g.hn pr.g.ht pr.g.hm)⟩
section
variable {X : Cx} {W : WX} {e : Expr} {g : Env → R Opd} {p' p2 pos : Pos}
theorem op1_isiO {C : Str} (t : Tgt X.K C) : Op1 X.K (fun v H Q => ∀ H2, Ex H H2 → rIsD X.K [v, .ref (He.ga X.K C)] H2 Q) (isiO C) := ⟨fun B H0 L v1 f1 d1 r Q r1 m1 c0 hF k H hx => by
  have c := Cfg.mono c0 hx
  have fin : ∀ b, r = .bl b → Q (.bl b) H := fun b e => k _ [] B H (Ex.refl _) (by rw [e]; exact ⟨rfl, rfl⟩) c
  unfold isiO at hF
  split at hF
  · obtain ⟨pr, ty⟩ := r1.tyI c m1
    cases hF
    exact ⟨v1, _, _, _, _, rfl, .own _, .inl ty, pr.kit t, fin _ rfl⟩
  · obtain ⟨pr, ty⟩ := r1.isX c
    cases hF
    exact ⟨v1, _, _, _, _, rfl, .own _, .inr ty, pr.kit t, fin _ rfl⟩
  · split at hF
    · rename_i u et
      split at hF
      · rename_i hb
        cases hF
        exact ⟨v1, _, _, _, _, rfl, .own _, .inl (tyD_ok et r1 c m1), t.kit hb, fin _ rfl⟩
      · cases hF
    · cases hF⟩
theorem op1_isiX {T : String} (hT : bltQ.contains T = true) : Op1 X.K (fun v H Q => ∀ H2, Ex H H2 → rIsD X.K [v, .ty T] H2 Q) (isiX T) := ⟨fun B H0 L v1 f1 d1 r Q r1 m1 c0 hF k H hx => by
  have c := Cfg.mono c0 hx
  have fin : ∀ b, r = .bl b → Q (.bl b) H := fun b e => k _ [] B H (Ex.refl _) (by rw [e]; exact ⟨rfl, rfl⟩) c
  unfold isiX at hF
  split at hF
  · obtain ⟨pr, ty⟩ := r1.tyI c m1
    cases hF
    exact ⟨v1, _, _, _, _, rfl, .ty _, .inl ty, pr.kitB hT, fin _ rfl⟩
  · obtain ⟨pr, ty⟩ := r1.isX c
    cases hF
    exact ⟨v1, _, _, _, _, rfl, .ty _, .inr ty, pr.kitB hT, fin _ rfl⟩
  · split at hF
    · rename_i u et
      simp only [Option.map_eq_some_iff] at hF
      obtain ⟨b, eb, hb⟩ := hF
      exact ⟨v1, _, _, _, b, rfl, .ty _, .inl (tyD_ok et r1 c m1), kit_ty eb, fin _ hb.symm⟩
    · cases hF⟩
theorem evr_isiO {C : Str} (t : Tgt X.K C) (hg : Gl X "isinstance") (hm : X.mg "isinstance" = none) (hy : Gl X C) (hmy : X.mg C = some (.ref (He.ga X.K C))) (h : EvO X W e g) (hdb : (C == ("__debug__" : Str)) = false := by decide +kernel)
    (he : starEach (e :: [.Name C p2]) X.env = (false, eval e X.env) :: starEach [.Name C p2] X.env := by rfl) (he2 : starEach [.Name C p2] X.env = (false, eval (.Name C p2) X.env) :: starEach [] X.env := by rfl) (hpl : (backTo pos (starEach [.Name C p2] X.env)).any (·.1) = false := by rfl) :
    EvR X W (.Call (.Name "isinstance" p') [e, .Name C p2] [] pos) (op1 (isiO C) g) := ⟨fun E σ B l fr H Q re cf af =>
  w_callB call_isD hg hm (by decide +kernel) (w_acons (wE_mono (one h (op1_isiO t) re cf af) fun v H1 q => w_acons (wE_of (pe_glob hy hmy (v := .ref (He.ga X.K C)) rfl hdb) (w_anil (Q := fun r H => rIsD X.K (v :: .ref (He.ga X.K C) :: r) H Q) (q H1 (Ex.refl _)))) he2) he) (by decide) (by decide) he hpl⟩
theorem evr_isiX {T : String} {y : Str} (hT : bltQ.contains T = true) (hg : Gl X "isinstance") (hm : X.mg "isinstance" = none) (hy : Gl X y) (hmy : X.mg y = none) (hv : bootBuiltins y = some (.type T)) (h : EvO X W e g) (hn : y ≠ "__name__" := by decide +kernel) (hdb : (y == ("__debug__" : Str)) = false := by decide +kernel)
    (he : starEach (e :: [.Name y p2]) X.env = (false, eval e X.env) :: starEach [.Name y p2] X.env := by rfl) (he2 : starEach [.Name y p2] X.env = (false, eval (.Name y p2) X.env) :: starEach [] X.env := by rfl) (hpl : (backTo pos (starEach [.Name y p2] X.env)).any (·.1) = false := by rfl) :
    EvR X W (.Call (.Name "isinstance" p') [e, .Name y p2] [] pos) (op1 (isiX T) g) := ⟨fun E σ B l fr H Q re cf af =>
  w_callB call_isD hg hm (by decide +kernel) (w_acons (wE_mono (one h (op1_isiX hT) re cf af) fun v H1 q => w_acons (go (e_ty hy hmy hv hn hdb) Cfg.start fun H2 x2 c2 => w_anil (Q := fun r H => rIsD X.K (v :: .ty T :: r) H Q) (q H2 x2)) he2) he) (by decide) (by decide) he hpl⟩
end
end DW
/-! DW23: raise. -/
namespace DW
open PySem L2 Evl QW
open PySem.Spec PyProof.Rows
local macro_rules | `(tactic| walk_at "perm") => `(tactic| (refine List.perm_iff_count.mpr fun _ => ?_; simp only [List.count_append, List.count_nil]; omega))
/-! ### what is told of a class that is raised -/
def rzB (K : PySem.W.Frag) (c : Str) : Bool := isExc c && (presB K c && (bndB K c && (PySem.W.keepIn K (.ref (He.ga K c)) && (decide (PySem.W.subIn K (.ref (He.ga K c)) (.type "BaseException") = some true) && decide (PySem.W.typeIn K (.ref (He.ga K c)) = some (.type "type"))))))
/-- without fields -/
def rz0B (K : PySem.W.Frag) (c : Str) : Bool := rzB K c && PySem.W.excIn K (He.ga K c) He.veBase "ValueError.__new__"
structure Rz (K : PySem.W.Frag) (c : Str) : Prop where
  ok : rzB K c = true
structure Rz0 (K : PySem.W.Frag) (c : Str) : Prop where
  ok : rz0B K c = true
theorem Rz0.rz {K : PySem.W.Frag} {c : Str} (h : Rz0 K c) : Rz K c := ⟨(ba2 h.ok).1⟩
section
variable {K : PySem.W.Frag} {c : Str}
theorem Rz.isx (h : Rz K c) : isExc c = true := (ba2 h.ok).1
theorem Rz.pres (h : Rz K c) : Pres K c := ⟨(ba2 (ba2 h.ok).2).1⟩
theorem Rz.bnd (h : Rz K c) : bndB K c = true := (ba2 (ba2 (ba2 h.ok).2).2).1
theorem Rz.keep (h : Rz K c) : PySem.W.keepIn K (.ref (He.ga K c)) = true := (ba2 (ba2 (ba2 (ba2 h.ok).2).2).2).1
theorem Rz.sub (h : Rz K c) : PySem.W.subIn K (.ref (He.ga K c)) (.type "BaseException") = some true := of_decide_eq_true (ba2 (ba2 (ba2 (ba2 (ba2 h.ok).2).2).2).2).1
theorem Rz.typ (h : Rz K c) : PySem.W.typeIn K (.ref (He.ga K c)) = some (.type "type") := of_decide_eq_true (ba2 (ba2 (ba2 (ba2 (ba2 h.ok).2).2).2).2).2
end
section
variable {X : Cx} {W : WX} {S : List Nat} {c x : Str} {p p2 pos : Pos} {rest : List Stmt}
theorem pmk0 (r : Rz0 X.K x) (hg : Gl X x) (hm : X.mg x = some (.ref (He.ga X.K x))) (hdb : (x == ("__debug__" : Str)) = false := by decide +kernel) : PMk X (.Call (.Name x p) [] [] p2) (fun _ H Q => Q (.ref (He.ga X.K x)) none H) := by
  intro pins s σ H Q I h
  refine wpAny_Call_Name_kw (ld_glob I hg hm ?_ hdb)
  refine PySem.W.callWith_K0 (first := []) I.kIn r.rz.keep ?_
  show wpAny _ _ (call (.ref (He.ga X.K x)) []) _ _ _
  obtain ⟨bm, N, nm, qn, bs, hdct, sn, sub, ab, col, dd, k0, k1, k2, k3, k5, mN, hC, hN, hni, T⟩ := exc_obj I.kIn (ba2 r.ok).2
  obtain ⟨hp, g, d, t, os⟩ := s
  refine wpAny_call_exc_subT F.excBase_ValueError T hC hN hni (fun h' e hm2 => ?_) (by show 0 ≤ sizeLine; exact Nat.zero_le _)
  exact mk_of I hm2 (raises_own r.rz.sub r.rz.typ) h (I.hok.gone hm2.new)
def sRz0 (c : Str) : Env → Out := fun E => .exc c [] [] E
theorem exs_rz0 (r : Rz0 X.K x) (hc : X.calm = true) (tk : Takes X W) (hg : Gl X x) (hm : X.mg x = some (.ref (He.ga X.K x))) (hdb : (x == ("__debug__" : Str)) = false := by decide +kernel) : ExS X W S (.Raise (some (.Call (.Name x p) [] [] p2)) none pos :: rest) (sRz0 x) := ⟨fun E σ B l fr H N re cf af =>
  s_of (ps_raise hc tk (pmk0 r hg hm hdb)) (af _ none σ B l H (Ex.refl _) re ⟨⟨rfl, r.rz.pres⟩, .inl ⟨rfl, rfl, rfl⟩⟩ Par.refl cf)⟩
end
/-! ### with a field -/
/-- the promise of such a class's __init__ -/
def spX (C : Addr) (f : Str) : Sp := fun vs H Q _ => ∃ (a : Addr) (y : V), vs = [.ref a, y] ∧ H a = some (exo a C none) ∧ ∀ dx, H dx = none → dx ≠ a → Q .non (upd (upd H dx (exd dx [(f, y)])) a (exo a C (some dx)))
def oexB (K : PySem.W.Frag) (C : Addr) : Bool := (match K.lookup C with
  | some ⟨.type "type", _, .cls cd, sl⟩ => (match cd.mro, sl.toList with
    | .ref C' :: bm, [_, _, _, _, some (.builtin n), _] => decide (C' = C) && (decide (n = "ValueError.__new__") && (PySem.HandSPX.refsVE bm && (cd.hasDict && !cd.hasDel)))
    | _, _ => false)
  | _ => false) && eqV2 (PySem.W.findIn K (.ref C) "__setattr__") (some (some (.builtin "object.__setattr__")))
theorem oexB_ok {K : PySem.W.Frag} {C : Addr} (h : oexB K C = true) (e : PySem.W.subIn K (.ref C) (.type "BaseException") = some true) (t : PySem.W.typeIn K (.ref C) = some (.type "type")) (k : PySem.W.keepIn K (.ref C) = true) : OexC K C := by
  obtain ⟨h1, h2⟩ := ba2 h
  refine ⟨?_, eqV2_ok h2, e, t, k⟩
  split at h1
  · rename_i dd cd sl ho
    split at h1
    · rename_i C' bm k0 k1 k2 k3 n k5 hm hs
      obtain ⟨g1, h1⟩ := ba2 h1
      obtain ⟨g2, h1⟩ := ba2 h1
      obtain ⟨g3, h1⟩ := ba2 h1
      obtain ⟨g4, g5⟩ := ba2 h1
      have g1 := of_decide_eq_true g1
      have g2 := of_decide_eq_true g2
      have g6 : cd.hasDel = false := by rw [Bool.not_eq_true'] at g5; exact g5
      clear g5
      subst g1 g2
      obtain ⟨nm, bs, mro, ns, qn, hd, sn, sub, ab, col, del⟩ := cd
      dsimp only at hm g4 g6
      subst hm g4 g6
      have hsl : sl = #[k0, k1, k2, k3, some (.builtin "ValueError.__new__"), k5] := by
        obtain ⟨l⟩ := sl
        simp only at hs
        rw [hs]
      subst hsl
      exact ⟨nm, qn, ns, bs, bm, sn, sub, ab, col, dd, k0, k1, k2, k3, k5, ho, g3⟩
    · cases h1
  · cases h1
/-- a raised class with one field f, its __init__ standing as written -/
def rz1B (K : PySem.W.Frag) (c f : Str) : Bool := rzB K c && (oexB K (He.ga K c) && (eqV2 (PySem.W.findIn K (.ref (He.ga K c)) f) (some none) && (eqV2 (PySem.W.findIn K (.ref (He.ga K c)) "__init__") (some (some (.ref (He.ma K (He.ga K c) "__init__")))) && decide (PySem.W.typeIn K (.ref (He.ma K (He.ga K c) "__init__")) = some (.type "function")))))
structure Rz1 (K : PySem.W.Frag) (c f : Str) : Prop where
  ok : rz1B K c f = true
theorem Rz1.rz {K : PySem.W.Frag} {c f : Str} (h : Rz1 K c f) : Rz K c := ⟨(ba2 h.ok).1⟩
theorem Rz1.oex {K : PySem.W.Frag} {c f : Str} (h : Rz1 K c f) : OexC K (He.ga K c) := oexB_ok (ba2 (ba2 h.ok).2).1 h.rz.sub h.rz.typ h.rz.keep
theorem Rz1.no {K : PySem.W.Frag} {c f : Str} (h : Rz1 K c f) : PySem.W.findIn K (.ref (He.ga K c)) f = some none := eqV2_ok (ba2 (ba2 (ba2 h.ok).2).2).1
theorem Rz1.init {K : PySem.W.Frag} {c f : Str} (h : Rz1 K c f) : PySem.W.findIn K (.ref (He.ga K c)) "__init__" = some (some (.ref (He.ma K (He.ga K c) "__init__"))) := eqV2_ok (ba2 (ba2 (ba2 (ba2 h.ok).2).2).2).1
theorem Rz1.fn {K : PySem.W.Frag} {c f : Str} (h : Rz1 K c f) : PySem.W.typeIn K (.ref (He.ma K (He.ga K c) "__init__")) = some (.type "function") := of_decide_eq_true (ba2 (ba2 (ba2 (ba2 h.ok).2).2).2).2
/-- a method stands there -/
def AtM (K : PySem.W.Frag) (c m qual : Str) (st : Stmt) (dvs : List V) : Prop := ∃ fd, FunD K m qual (defArgs st) (defBody st) (defScope st) dvs [] (He.ma K (He.ga K c) m) fd
/-- the __init__ of an exception with one field -/
theorem initX {P : Program} {w : World} {K : PySem.W.Frag} {mg : Str → Option Value} {base : Heap} {c qual f : Str} {st : Stmt} {CX : CXT} (F : AtM K c "__init__" qual st []) (z : Rz1 K c f) (S : FnScope ["self", f] ["self", f] (defScope st)) {p1 p2 p3 p4 : Pos}
    (hb : defBody st = [.Assign [.Attribute (.Name "self" p1) f p2] (.Name f p3) p4]) (hbd : ∀ (kV doc pm : Value) (an : Option Addr) (cdv ct : Value) (us : List Value), us.length = 2 → bindArgs (PySem.W.fnOf "__init__" qual (defArgs st) (defBody st) (defScope st) .none kV doc pm an cdv ct) ⟨us, []⟩ = pure ((["self", f] : List Str).zip us))
    (d1 : (f == ("__debug__" : Str)) = false) (d2 : (f == ("__classdict__" : Str)) = false) : ∃ fd, FnOk P w K mg base CX 1 (He.ma K (He.ga K c) "__init__") fd ["self", f] (spX (He.ga K c) f) ∧ Binds K fd ["self", f] [] := by
  obtain ⟨fd, F⟩ := F
  refine ⟨fd, ?_, F.bindsN (ps := ["self", f]) fun kV doc pm an cdv ct us hl => hbd kV doc pm an cdv ct us hl⟩
  refine F.ok S (fun vs H Q E h => by obtain ⟨_, _, rfl, _⟩ := h; rfl) fun cdv A outer s H vs Q E hr hsp => ?_
  obtain ⟨a, y, rfl, ha, q⟩ := hsp
  rw [hb]
  have v0 : Vis (defScope st) "self" := (S.par "self" List.mem_cons_self).elim .inl fun z => .inr (.inl z)
  have v1 : Vis (defScope st) f := (S.par f (List.mem_cons_of_mem _ List.mem_cons_self)).elim .inl fun z => .inr (.inl z)
  exact ⟨_, pss_one (ps_ost (pe_var (i := 0) rfl v0) (pe_var (i := 1) rfl v1 d1 d2)), y, rfl, .ref a, rfl, a, _, rfl, z.oex, z.no, .inl ⟨ha, fun dx n ne => q dx n ne⟩⟩
/-- all that raising such a class leans on -/
structure RzF (K : PySem.W.Frag) (mg : Str → Option Value) (c f : Str) : Prop where
  z : Rz1 K c f
  ex : ∀ (P : Program) (w : World) (base : Heap), ∃ fd, FnOk P w K mg base (L2.CX P w) 1 (He.ma K (He.ga K c) "__init__") fd ["self", f] (spX (He.ga K c) f) ∧ Binds K fd ["self", f] []
def sRz1 (c n : Str) (f : Env → R D) : Env → Out := fun E => onR (f E) fun d E1 => if noOwn d = true then .exc c [n] [d] E1 else .bad
section
variable {X : Cx} {W : WX} {S : List Nat} {x n : Str} {e : Expr} {f : Env → R D} {p p2 pos : Pos} {rest : List Stmt} {k : Nat} {Pr : World → PySem.W.Frag → (Str → Option Value) → Prop}
theorem exs_rz1 (c : Cxt Pr X k) (hk : 2 ≤ k) (r : RzF X.K X.mg x n) (tk : Takes X W) (hg : Gl X x) (hm : X.mg x = some (.ref (He.ga X.K x))) (h : EvR X W e f) (hdb : (x == ("__debug__" : Str)) = false := by decide +kernel)
    (he : starEach [e] X.env = (false, eval e X.env) :: starEach [] X.env := by rfl) (hpl : (backTo p2 (starEach [] X.env)).any (·.1) = false := by rfl) : ExS X W S (.Raise (some (.Call (.Name x p) [e] [] p2)) none pos :: rest) (sRz1 x n f) := ⟨fun E σ B l fr H N re cf af => by
  obtain ⟨fd, F1, hb⟩ := r.ex X.prog X.w X.base
  refine s_of (ps_raise c.calm tk (pmk_oex r.z.oex r.z.init r.z.fn F1 (c.room.mono hk) hb .nil passL hg hm pA hdb he hpl)) ?_
  refine w_acons (h.run E σ B l fr H _ re cf (AfterS.expr (α := D) (β := V) af fun d E1 v B1 l1 fp H1 _ x1 re1 rv1 cf1 af1 => ?_)) he
  try dsimp only at af1
  by_cases no : noOwn d = true
  · rw [if_pos no] at af1
    obtain rfl := rv1.none no
    refine w_anil ⟨by show 1 ≤ 1000; decide, fun a ha => ⟨a, v, rfl, upd_same, fun dx hdx ne => ⟨rfl, dx, [(n, v)], upd_same, by rw [upd_ne ne, upd_same], ?_, ?_⟩⟩⟩
    · rw [upd_ne ne] at hdx; exact hdx
    · rw [upd_ne ne] at hdx
      have eH : L2.upd (L2.del (L2.upd (L2.upd (L2.upd H1 a (exo a (He.ga X.K x) none)) dx (exd dx [(n, v)])) a (exo a (He.ga X.K x) (some dx))) a) dx (.xd [(n, v)]) = L2.upd H1 dx (.xd [(n, v)]) := by
        funext b
        by_cases hb : b = dx
        · subst hb; rw [upd_same, upd_same]
        · rw [upd_ne hb, upd_ne hb]
          by_cases hba : b = a
          · subst hba; rw [del_same, ha]
          · rw [del_ne hba, upd_ne hba, upd_ne hb, upd_ne hba]
      rw [eH]
      obtain ⟨B', x2, c2, hB⟩ := Cfg.seen (o := .xd [(n, v)]) cf1 hdx
      exact af1 _ _ σ B' l1 _ x2 (re1.mono x2) ⟨⟨rfl, r.z.rz.pres⟩, .inr ⟨dx, [v], rfl, hB, rfl, v, [], [], [], rfl, rfl, rv1.mono x2, rfl, rfl⟩⟩ Par.refl c2
  · rw [if_neg no] at af1; exact af1.elim⟩
end
end DW
/-! DW24: try: body, except X as n: y = n. -/
namespace DW
open PySem L2 Evl QW
open PySem.Spec PyProof.Rows
local macro_rules | `(tactic| walk_at "perm") => `(tactic| (refine List.perm_iff_count.mpr fun _ => ?_; simp only [List.count_append, List.count_nil]; omega))
section
variable {X : Cx} {pins : List (Addr × PySem.Obj)} {σ : L2.St} {H : Hp} {s : Shared}
/-- an exception that nobody holds becomes tracked -/
theorem track {a C : Addr} {dx : Option Addr} {oe : PySem.Obj} {ws : Array Value} (I : Inv X pins σ H s) (hn : H a = none) (h0 : X.s_0.heap.get? a = none) (ha : s.heap.get? a = some oe) (z : Zc (.ref C) dx oe) (hd : oe.data = .fields ws) (hp : ∀ p ∈ X.pn ++ pins, p.1 ≠ a) (hL : a ≠ X.env.locals) :
    Inv X pins σ (upd H a (exO C dx a)) s := by
  have new : ∀ H', ObjOk X.prog X.w H' s.heap a (exO C dx a) := fun H' => ⟨⟨oe, ws, ha, z, hd⟩, ⟨oe, ha⟩, fun h1 h2 q k => by obtain ⟨o, v, q1, q2⟩ := q; exact ⟨o, v, k o q1, q2⟩⟩
  have n0 : ∀ b o, X.s_0.heap.get? b = some o → b ≠ a := fun b o e q => by rw [q, h0] at e; cases e
  have nH : ∀ b o, H b = some o → b ≠ a := fun b o e q => by rw [q, hn] at e; cases e
  refine ⟨I.ok, I.os, I.bare, { I.base with
    free := fun b o e n hx => by rw [upd_ne (n0 b o e)]; exact I.base.free b o e n hx
    tups := fun b xs e => by have q := I.base.tups b xs e; rw [upd_ne (nH b _ q)]; exact q
    frzs := fun b o u e => by have q := I.base.frzs b o u e; rw [upd_ne (nH b _ q)]; exact q
    tbls := fun b ps e => by obtain ⟨m, q⟩ := I.base.tbls b ps e; exact ⟨m, by rw [upd_ne (nH b _ q)]; exact q⟩ },
    I.loc, I.cell, by rw [upd_ne (Ne.symm hL)]; exact I.free, fun x c e => ?_, fun p m => ?_, HOk.laidN I.hok (fun _ _ q => q) hn (new _), I.len⟩
  · have nc : c ≠ a := fun q => by
      obtain ⟨v, o, e1, e2⟩ := I.cell x c e
      rw [q, ha] at e1
      cases e1
      rw [hd] at e2
      cases e2
    rw [upd_ne nc]
    exact I.freeC x c e
  · obtain ⟨q1, q2, q3, q4, q5⟩ := I.pin p m
    exact ⟨q1, by rw [upd_ne (hp p m)]; exact q2, q3, q4, q5⟩
end
/-- what the clause wishes of an exception: slot i is n's, slot j is y's -/
def wKeep (K : PySem.W.Frag) (c : Value) (i j m : Nat) (Wout : WX) (D : Ends) : WX := fun cls d σ H => ∃ b, PySem.W.exmOne K cls c = some b ∧
  (b = true → ∃ C, cls = .ref C ∧ ∀ a, H a = none → σ.length = m → D.nx (((σ.set i (some (.ref a))).set j (some (.ref a))).set i none) (upd H a (exO C d a))) ∧ (b = false → Wout cls d σ H)
section
variable {X : Cx} {x n y : Str} {c : Value} {i j : Nat} {body : List Stmt} {np py pn2 pos pos' apos : Pos} {tb : WX → TS} {Wout : WX}
theorem ps_keep (hs : X.stack = X.env :: X.outer) (hf : X.env.frame = some X.env.locals) (hex : X.ex = []) (oi : Own X i n) (hln : X.env.kindOf n = some .local) (oj : Own X j y) (hc : Names X x c) (tk : Takes X Wout)
    (hb : ∀ (W : WX) (pn : List (Addr × PySem.Obj)) (xe : Value → Shared → Prop), Takes (X.tr pn xe) W → PassesOwn (model X.prog X.w) X.A X.env xe → PSs (X.tr pn xe) body (tb W)) (hsw : swapsWith (.Name n pn2) (some (.Name y py)) apos.line X.env = pure false := by rfl) :
    PS X (.Try body [.ExceptHandler (some (.Name x np)) (some n) [.Assign [.Name y py] (.Name n pn2) apos] pos'] [] [] pos) (fun D σ H => tb (wKeep X.K c i j X.N.length Wout D) D σ H) := by
  constructor
  intro pins s σ H D I h
  have ok := I.ok
  have fr : X.A.frames = some (X.env :: X.outer) := by rw [ok.frames, hs]
  let hl : List ExceptHandler := [.ExceptHandler (some (.Name x np)) (some n) [.Assign [.Name y py] (.Name n pn2) apos] pos']
  let xe' : Value → Shared → Prop := fun e s₁ => wpAny (model X.prog X.w) X.A (noteFrame e X.env) (fun _ s₂ => wpAny (model X.prog X.w) X.A (setFlight e none) (fun _ s₃ => wpAny (model X.prog X.w) X.A (handleBy e X.env hl) (SP X pins D) X.xe s₃) X.xe s₂) X.xe s₁
  have caught : Takes (X.tr (X.pn ++ pins) xe') (wKeep X.K c i j X.N.length Wout D) := by
    intro u s' xx
    obtain ⟨a, B, sI, pinsT, σ', H', cls, d, rfl, JT, nb, up, sky, na, os, ag, b, hb1, yes, no⟩ := xx
    have J : Inv X pins σ' H' sI := JT.ofTry ok
    have skyE : Sky B (X.env :: X.outer) a (Zc cls d) X.env.locals s'.heap := by rw [← hs]; exact sky
    show wpAny (model X.prog X.w) X.A (noteFrame (.ref a) X.env) _ _ _
    refine Sky.land Zc.steady fr hf skyE fun hA flA upA => ?_
    have B0 : B.get? a = none := flA.2.1
    have JA : Inv X pins σ' H' { s' with heap := hA } := J.landed nb flA.1 (up.trans upA) os ag
    obtain ⟨oA, vA, gA, zA, dA⟩ := flA.there
    have out : ∀ {h : Heap} {o : PySem.Obj} {vs : Array Value}, h.FunFrames B (X.env :: X.outer) → h.get? a = some o → o.data = .fields vs → a ∉ frs (X.env :: X.outer) := fun ff e dd m => by
      obtain ⟨_, o2, e2, bad⟩ := ff.mem m
      rw [e] at e2
      cases e2
      exact bad _ dd
    have nfr := out flA.2.2.1 gA dA
    have nL : a ≠ X.env.locals := fun q => nfr (List.mem_filterMap.mpr ⟨X.env, List.mem_cons_self, by rw [hf, q]⟩)
    have nF : a ∉ X.fs := fun m => by
      obtain ⟨e, he, q⟩ := List.mem_filterMap.mp m
      exact nfr (List.mem_filterMap.mpr ⟨e, List.mem_cons_of_mem _ he, q⟩)
    have new0 : X.s_0.heap.get? a = none := by
      cases e : X.s_0.heap.get? a with
      | none => rfl
      | some o =>
        obtain ⟨o', e'⟩ := J.base.there a o e (by rw [hex]; exact fun m => nomatch m)
        have q := nb a o' e' (by rw [hs]; exact nfr)
        rw [B0] at q
        cases q
    have npin : ∀ p ∈ X.pn ++ pins, p.1 ≠ a := fun p m q => by
      obtain ⟨q1, _⟩ := J.pin p m
      have r := nb p.1 p.2 q1 (by rw [hs, q]; exact nfr)
      rw [q, B0] at r
      cases r
    have SA := JA.suite gA dA na nL nF
    refine wpAny_handleBy_cons (codeAny_handlers_test ?_) (by intro q; cases q)
    have LT : PySem.W.Looks (model X.prog X.w) hA (typeOf (.ref a)) cls := fun A1 Q1 E1 s1 k q => wpAny_typeOf_ref (k _ _ gA) (by rw [zA.1]; exact q)
    have LM := PySem.W.exm_one (M := model X.prog X.w) JA.kIn LT hb1
    have named : ∀ {Q : Value → Shared → Prop} {E : Value → Shared → Prop}, Q c { s' with heap := hA } → wpAny (model X.prog X.w) (X.A.mark (some (.ref a))) (eval (.Name x np) X.env) Q E { s' with heap := hA } := fun q => by
      obtain ⟨g1, g2, g3 | ⟨g3, g4, g5⟩⟩ := hc
      · exact ld_glob (X := X.suite a ((a, oA) :: (X.pn ++ pins))) SA g1 g3 q g2
      · exact ld_blt (X := X.suite a ((a, oA) :: (X.pn ++ pins))) SA g1 g3 g4 q g5 g2
    refine named (LM.here ?_)
    cases b with
    | true =>
      obtain ⟨C, rfl, good⟩ := yes rfl
      refine codeAny_handlers_suite_as (HandSPX.lands_againZ flA fun hB flB upB => ?_)
      have JB : Inv X pins σ' H' { s' with heap := hB } := J.landed nb flB.1 ((up.trans upA).trans upB) os ag
      obtain ⟨oB, vB, gB, zB, dB⟩ := flB.there
      have SB := JB.suite gB dB na nL nF
      refine store_ok (X := X.suite a ((a, oB) :: (X.pn ++ pins))) (v := .ref a) SB oi.nd oi.s.n (.inl hln) rfl (fun s5 S5 => ?_) (.inr hln)
      have run : PSs (X.suite a ((a, oB) :: (X.pn ++ pins))) [.Assign [.Name y py] (.Name n pn2) apos] _ := pss_one (ps_set (i := j) oi.nd oj.s.n oj.l (pe_var (i := i) oi.s.n (.inl hln) oi.s.d oi.s.d2) hsw (.inl oj.f))
      have hi : i < σ'.length := by rw [J.len]; exact (List.getElem?_eq_some_iff.mp oi.s.n).1
      refine wpAny_mono (run.run [] s5 _ H' { nx := fun σ6 H6 => σ6 = (σ'.set i (some (.ref a))).set j (some (.ref a)) ∧ H6 = H', rt := fun _ _ => False, bk := fun _ _ => False, ct := fun _ _ => False } S5 ⟨.ref a, by rw [List.getElem?_set_self hi], rfl, rfl⟩) (fun f s6 sp => ?_) (fun _ _ q => False.elim q)
      cases f with
      | next =>
        obtain ⟨σ6, H6, S6, rfl, rfl⟩ := sp
        obtain ⟨e6, _⟩ := S6.pin (a, oB) (by simp)
        exact gone_ok (track (S6.unsuite ok) na new0 e6 zB dB npin nL) oi.nd oi.s.n hln fun s7 J7 => ⟨_, _, J7, good a na J.len⟩
      | brk => obtain ⟨_, _, _, q⟩ := sp; exact q.elim
      | cont => obtain ⟨_, _, _, q⟩ := sp; exact q.elim
      | ret u => obtain ⟨_, _, _, _, _, q⟩ := sp; exact q.elim
    | false =>
      show wpAny _ X.A (handleBy (.ref a) X.env []) _ _ _
      refine wpAny_handleBy_nil ?_
      obtain ⟨_, _, _, o2, v2, T, _, _, e2, z2, d2, f2, _⟩ := id flA
      have last : wpAny (model X.prog X.w) X.A (setFlight (.ref a) X.env.frame) (fun _ s4 => wpAny (model X.prog X.w) X.A (throw (.ref a) : Sem Flow) (SP X pins D) X.xe s4) X.xe { s' with heap := hA } := by
        rw [hf]
        exact HandSPX.setFlight_upZ flA fun hC heldC upC => wpAny_throw (tk _ _ ⟨a, B, sI, pins, σ', H', cls, d, rfl, J, nb, (up.trans upA).trans upC, .inr (.inr (by rw [hs]; exact heldC)), na, os, ag, no rfl⟩)
      unfold PySem.passOn
      refine wpAny_bind (wpAny_field e2 d2 f2 ?_)
      rw [if_neg (show ¬ ((Value.ref T == Value.none) = true) by simp)]
      first
        | exact wpAny_bind (wpAny_pure (wpAny_bind last))
        | exact wpAny_bind last
  refine wpAny_Try_except (wpAny_mono ((hb _ _ xe' caught PassesOwn.looking).run [] s σ H D (I.toTry _) h) (fun f s1 sp => ?_) (fun e s1 he => he))
  cases f with
  | next =>
    obtain ⟨σ1, H1, J1, q⟩ := sp
    exact wpAny_execs_nil ⟨σ1, H1, J1.ofTry ok, q⟩
  | brk =>
    obtain ⟨σ1, H1, J1, q⟩ := sp
    exact ⟨σ1, H1, J1.ofTry ok, q⟩
  | cont =>
    obtain ⟨σ1, H1, J1, q⟩ := sp
    exact ⟨σ1, H1, J1.ofTry ok, q⟩
  | ret u =>
    obtain ⟨v, σ1, H1, J1, r, q⟩ := sp
    exact ⟨v, σ1, H1, J1.ofTry ok, r, q⟩
end
/-! ### the body's context -/
def TrX (X X' : Cx) : Prop := ∃ pn xe, X' = X.tr pn xe ∧ PassesOwn (model X.prog X.w) X.A X.env xe
section
variable {X X' : Cx} {N : List Str} {sc : Scope} {k i : Nat} {x : Str} {Pr : World → PySem.W.Frag → (Str → Option Value) → Prop}
theorem _root_.QW.Bd.tr (b : Bd X N sc k) (t : TrX X X') : Bd X' N sc k := by
  obtain ⟨pn, xe, rfl, po⟩ := t
  exact ⟨b.n, b.sc, b.calm, b.fn, b.stk, b.frm, b.ex, b.room, po, b.nd⟩
theorem Cxt.tr (c : Cxt Pr X k) (t : TrX X X') : Cxt Pr X' k := by
  obtain ⟨pn, xe, rfl, po⟩ := t
  exact ⟨c.T, c.room, c.calm⟩
theorem _root_.QW.Slot.tr (o : Slot X i x) (t : TrX X X') : Slot X' i x := by
  obtain ⟨pn, xe, rfl, po⟩ := t
  exact ⟨o.n, o.v, o.d, o.d2⟩
theorem _root_.QW.Own.tr (o : Own X i x) (t : TrX X X') : Own X' i x := by
  obtain ⟨pn, xe, rfl, po⟩ := t
  exact ⟨⟨o.s.n, o.s.v, o.s.d, o.s.d2⟩, o.l, o.f, o.nd⟩
theorem gl_tr (g : Gl X x) (t : TrX X X') : Gl X' x := by
  obtain ⟨pn, xe, rfl, po⟩ := t
  exact g
end
/-- try: body, except x as n: y = n -/
def sTryK (x : Str) (i j : Nat) (Fb F : Env → Out) : Env → Out := fun E => match Fb E with
  | .exc c ns vs E1 => if (isExc c && (isExc x && allC.contains x)) = true then (if subB c x = true then F ((E1.set j (some (.exn c ns vs))).set i none) else .exc c ns vs E1) else .bad
  | .nxt E1 => F E1
  | o => o
section
variable {X : Cx} {W : WX} {S : List Nat} {N : List Str} {sc : Scope} {x n y : Str} {i j k : Nat} {body rest : List Stmt} {np py pn2 pos pos' apos : Pos} {Fb F : Env → Out} {Pr : World → PySem.W.Frag → (Str → Option Value) → Prop}
theorem rel_put {K : PySem.W.Frag} {B : Hp} {E : Env} {σ : L2.St} {l : List Ob} {j : Nat} {d : D} {v : V} (re : RelEnv K B E σ l) (hj : j < E.length) (r : Rep K B d v []) : ∃ l' g, RelEnv K B (E.set j (some d)) (σ.set j (some v)) l' ∧ (l' ++ g).Perm l := by
  obtain ⟨f1, f0, f2, rfl, hp⟩ := re.put hj
  exact ⟨_, f0, hp B d v [] (Ex.refl _) r, by walk_at "perm"⟩
theorem exs_tryK (b : Bd X N sc k) (oi : Own X i n) (hln : sc.names.lookup n = some .local) (oj : Own X j y) (hi : i ∉ S) (hj : j ∉ S) (hij : i ≠ j) (hg : Gl X x) (hm : X.mg x = some (.ref (He.ga X.K x))) (hbd : bndB X.K x = true) (tk : Takes X W)
    (hb : ∀ X', TrX X X' → ∀ W', Takes X' W' → ExS X' W' S body Fb) (hF : ExS X W S rest F) (hdb : (x == ("__debug__" : Str)) = false := by decide +kernel) (hsw : swapsWith (.Name n pn2) (some (.Name y py)) apos.line X.env = pure false := by rfl) :
    ExS X W S (.Try body [.ExceptHandler (some (.Name x np)) (some n) [.Assign [.Name y py] (.Name n pn2) apos] pos'] [] [] pos :: rest) (sTryK x i j Fb F) := ⟨fun E σ B l fr H N0 re cf af => by
  have hln' : X.env.kindOf n = some .local := by
    show X.env.scope.names.lookup n = some .local
    rw [b.sc]; exact hln
  refine s_of (ps_keep b.stk b.frm b.ex oi hln' oj ⟨hg, hdb, .inl hm⟩ tk (tb := fun W' D σ H => ∀ pn xe, Takes (X.tr pn xe) W' → PassesOwn (model X.prog X.w) X.A X.env xe → wSs (X.tr pn xe) body D σ H) (fun W' pn xe t po => ⟨fun pins s σ H D I h => h pn xe t po pins s I⟩) hsw) ?_
  intro pn xe t po
  refine (hb (X.tr pn xe) ⟨pn, xe, rfl, po⟩ _ t).run E σ B l fr H _ re cf ?_
  unfold sTryK at af
  cases ho : Fb E with
  | nxt E1 => rw [ho] at af; exact fun σ' B' l' H' x1 re1 p1 cf1 => hF.run E1 σ' B' l' fr H' N0 re1 cf1 (AfterS.up x1 p1 af)
  | brk E1 => rw [ho] at af; exact af
  | cnt E1 => rw [ho] at af; exact af
  | ret d E1 => rw [ho] at af; exact af
  | bad => rw [ho] at af; exact af.elim
  | exc c ns vs E1 =>
    rw [ho] at af
    intro cls dx σ' B' l' H' x1 re1 rx p1 cf1
    dsimp only at af
    by_cases hc : (isExc c && (isExc x && allC.contains x)) = true
    · rw [if_pos hc] at af
      obtain ⟨h1, h2⟩ := ba2 hc
      obtain ⟨h2, h3⟩ := ba2 h2
      obtain ⟨⟨hcls, pr⟩, hd⟩ := rx
      refine ⟨subB c x, by rw [hcls]; exact pr.exm h1 h2 hbd h3, fun hs => ?_, fun hs => ?_⟩
      · rw [if_pos hs] at af
        refine ⟨_, hcls, fun a ha hlen => ?_⟩
        obtain ⟨B2, x2, c2, hB⟩ := Cfg.seen (o := exO (He.ga X.K c) dx a) cf1 ha
        have rv : Rep X.K B2 (.exn c ns vs) (.ref a) [] := by
          refine ⟨⟨rfl, pr, h1⟩, a, dx, rfl, hB, ?_⟩
          rcases hd with ⟨h4, h5, h6⟩ | ⟨p, ws, h4, h5, h6, h7⟩
          · exact .inl ⟨h4, h5, h6⟩
          · exact .inr ⟨p, ws, h4, x2 _ _ h5, h6, h7.mono x2⟩
        have lj : j < E1.length := by rw [re1.len, hlen]; exact (List.getElem?_eq_some_iff.mp oj.s.n).1
        obtain ⟨l2, g2, re2, pm2⟩ := rel_put (re1.mono x2) lj rv
        obtain ⟨l3, g3, re3, pm3⟩ := rel_wipe1 (i := i) (s := none) re2
        have eσ : ((σ'.set i (some (V.ref a))).set j (some (V.ref a))).set i none = (σ'.set j (some (V.ref a))).set i none := by
          rw [List.set_comm _ _ hij, List.set_set]
        rw [eσ]
        refine hF.run _ _ B2 l3 fr _ N0 re3 (Cfg.dropL (a := g3 ++ g2) (Cfg.perm c2 ?_)) (AfterS.up (x1.trans x2) (p1.trans ((Par.set hj).trans (Par.set hi))) af)
        refine List.perm_iff_count.mpr fun a => ?_
        have h1 := List.perm_iff_count.mp pm2 a
        have h2 := List.perm_iff_count.mp pm3 a
        simp only [List.count_append, List.count_nil] at h1 h2 ⊢
        omega
      · rw [if_neg (by rw [hs]; exact Bool.false_ne_true)] at af
        exact af cls dx σ' B' l' H' x1 re1 ⟨⟨hcls, pr⟩, hd⟩ p1 cf1
    · rw [if_neg hc] at af; exact af.elim⟩
end
end DW
/-! DW25: len, truth, str, == of instances. -/
namespace DW
open PySem L2 Evl QW
open PySem.Spec PyProof.Rows
local macro_rules | `(tactic| walk_at "perm") => `(tactic| (refine List.perm_iff_count.mpr fun _ => ?_; simp only [List.count_append, List.count_nil]; omega))
section
variable {X : Cx} {k n : Nat} {f : Addr} {fd : FuncData} {ps ks : List Str} {sp : Sp} {g : List Value → List Value → List Value} {gV : List V → List V → List V} {pins : List (Addr × PySem.Obj)} {σ : L2.St} {H : Hp} {s : Shared} {Q : VK} {us ws : List Value} {vs zs : List V}
/-- a def runs, called by something of the machine's own -/
theorem run_A {A : Around} (hA : A.frames = X.A.frames) (F : FnOk X.prog X.w X.K X.mg X.base (L2.CX X.prog X.w) k f fd ps sp) (hr : Room k A) (hb : KBn X.K fd ps n ks g gV) (I : Inv X pins σ H s) (r : Vals vs us) (rz : Vals zs ws) (l1 : vs.length = n) (l2 : zs.length = ks.length)
    (h : sp (gV vs zs) H Q fun _ _ _ => False) : wpAny (model X.prog X.w) A (call (.ref f) us (ks.zip ws)) (EP X pins σ Q) X.xe s := by
  have e0 : Env0 X.prog X.w X.K X.mg X.base A X.stack s H := by
    have e := I.env0
    exact ⟨by rw [hA]; exact e.frames, e.mod, e.bs, e.bsz, e.funs, e.frf, e.hok, e.bare⟩
  have bd := hb.to s us ws I.kIn (r.length.symm.trans l1) (rz.length.symm.trans l2)
  have body := F.run A X.stack s H ⟨us, ks.zip ws⟩ (g us ws) (gV vs zs) Q _ hr e0 bd (hb.rel r rz) h
  refine wpAny_call (codeAny_mono body fun res s' z => ?_)
  match res, z with
  | .error e, z => exact passL pins σ H s e s' I z
  | .ok (.ret u), z => exact I.after z
end
/-- an instance of the class c, as the promise of its method is asked -/
def rOwn (K : PySem.W.Frag) (c : Str) (sp : Sp) (P : V → Hp → VK → Prop) : List V → Hp → VK → Prop := fun xs H Q => ∃ (a dx : Addr) (fs : List (Str × V)), xs = [.ref a] ∧ H a = some (.ins (He.ga K c) dx fs) ∧ sp [.ref a] H (fun v H' => P v H' Q) fun _ _ _ => False
def pLen : V → Hp → VK → Prop := fun v H Q => ∃ n, v = .int n ∧ 0 ≤ n ∧ n < 2 ^ 63 ∧ Q (.int n) H
section
variable {X : Cx} {j : Nat} {c : Str} {sp : Sp}
theorem call_own {A : Around} {pins : List (Addr × PySem.Obj)} {σ : L2.St} {H : Hp} {s : Shared} {a : Addr} {Q : VK} (hA : A.frames = X.A.frames) (C : CalM X.prog X.w X.K X.mg X.base j c m 0 [] [0] [] sp) (hr : Room j A) (I : Inv X pins σ H s) (h : sp [.ref a] H Q fun _ _ _ => False) :
    ∃ f, Meth X.K (He.ga X.K c) m f ∧ wpAny (model X.prog X.w) A (call (.ref f) [.ref a]) (EP X pins σ Q) X.xe s := by
  obtain ⟨f, fd, ps, F, cl, hm, its, hb⟩ := C.ex
  exact ⟨f, hm, run_A (us := [.ref a]) (ws := []) (vs := [.ref a]) (zs := []) hA F hr hb I (.cons rfl .nil) .nil rfl rfl h⟩
theorem cr_lenO (C : CalM X.prog X.w X.K X.mg X.base j c "__len__" 0 [] [0] [] sp) (hr : Room (j + 1) X.A) : CallR X (.builtin "len") (rOwn X.K c sp pLen) := by
  intro pins s σ H xs us Q I r h
  obtain ⟨a, dx, fs, rfl, ha, hs⟩ := h
  obtain ⟨u, rfl, ru⟩ := vals1 r
  obtain rfl : u = Value.ref a := ru
  obtain ⟨mA, J, _⟩ := ins_get I.hok ha
  obtain ⟨od, J, _⟩ := J.look
  obtain ⟨m, fr⟩ := I.fr
  obtain ⟨f, hm, run⟩ := call_own (A := X.A.in1) rfl C hr.in1 I hs
  refine PySem.W.len_K fr I.ok.mod.kin J hm.at_ hm.fn (thn run fun u s' z => ?_)
  obtain ⟨v, H', I', rv, n, rfl, h0, h1, q⟩ := z
  obtain ⟨t, rfl⟩ := (show ∃ t, u = Value.int n t from rv)
  exact ⟨⟨h0, h1⟩, .int n, H', I'.tok _, ⟨_, rfl⟩, q⟩
end
def insC (c : Str) : D → Bool
  | .ins _ c' _ _ => decide (c' = c)
  | _ => false
/-- a built-in that asks an instance's own method -/
def ownR (c : Str) (f : Fn) (P : D → Option D) (g : Env → R Opd) : Env → R D := fun E => (g E).bind fun o E1 => match o.val E1 with
  | some d => if insC c d = true then (match callW f [0] [] [o] E1 with
    | .ok d2 E2 => (match P d2 with
      | some r => .ok r E2
      | none => .bad)
    | _ => .bad) else .bad
  | none => .bad
structure OwnP (K : PySem.W.Frag) (PV : V → Hp → VK → Prop) (P : D → Option D) : Prop where
  run : ∀ (B H : Hp) (L fp : List Ob) (d r : D) (v : V) (Q : VK), P d = some r → Rep K B d v fp → Cfg B (fp ++ L) H → (∀ v', Rep K B r v' [] → Q v' H) → PV v H Q
section
variable {X : Cx} {W : WX} {k j : Nat} {c x : Str} {f : Fn} {PV : V → Hp → VK → Prop} {P : D → Option D} {e : Expr} {g : Env → R Opd} {p' pos : Pos}
theorem own_one (hP : OwnP X.K PV P) (h1 : EvO X W e g) {E : Env} {σ : L2.St} {B : Hp} {l fr : List Ob} {H : Hp} {Q : VK} (re : RelEnv X.K B E σ l) (cf : Cfg B (l ++ fr) H) (af : After X.K σ fr B W (Rep X.K) (ownR c f P g E) Q) :
    wE X e σ H fun v H1 => rOwn X.K c (spD 1 f X.K) PV [v] H1 Q := h1.run E σ B l fr H _ re cf (After.first (γ := Opd) (δ := V) af fun o1 E1 v1 B1 l1 fp1 H1 _ x1 re1 rv1 cf1 af1 => by
  try dsimp only at af1
  cases hv1 : o1.val E1 with
  | none => rw [hv1] at af1; exact af1.elim
  | some d1 =>
    rw [hv1] at af1
    dsimp only at af1
    by_cases hi : insC c d1 = true
    · rw [if_pos hi] at af1
      obtain ⟨f1, r1, m1⟩ := rv1.get re1 hv1
      have mm : ∀ ob, ob ∈ f1 → ob ∈ fp1 ++ (l1 ++ fr) := fun ob hm => by
        have := m1 ob hm
        simp only [List.mem_append] at this ⊢
        rcases this with h | h
        · exact .inl h
        · exact .inr (.inl h)
      unfold insC at hi
      split at hi
      · rename_i o0 c' ns ds
        have hi := of_decide_eq_true hi
        subst hi
        obtain ⟨p, dx, vs, g', rfl, hp, _⟩ := r1.isI cf1 mm
        refine ⟨p, dx, _, rfl, hp, ?_⟩
        have os1 : OpsRep X.K σ B1 [o1] [V.ref p] fp1 := ⟨_, [], fp1, [], rfl, by simp, rv1, rfl, rfl⟩
        refine callW_ok (f := f) (ix := [0]) (dfl := []) (dvs := []) (E := E1) (W := W0) (np := 1) os1 re1 cf1 rfl (by simp) (fun _ => ⟨rfl, rfl⟩) ?_
        cases hc : callW f [0] [] [o1] E1 with
        | bad => rw [hc] at af1; exact af1.elim
        | exc c ns vs E2 => rw [hc] at af1; exact af1.elim
        | ok d2 E2 =>
          rw [hc] at af1
          dsimp only at af1
          intro v B2 l2 fp H2 x2 re2 rv2 cf2
          cases hP2 : P d2 with
          | none => rw [hP2] at af1; exact af1.elim
          | some r =>
            rw [hP2] at af1
            exact hP.run B2 H2 (l2 ++ fr) fp d2 r v Q hP2 rv2 cf2 fun v' rv' => af1 v' B2 l2 [] H2 x2 re2 rv' (Cfg.dropL cf2)
      · cases hi
    · rw [if_neg hi] at af1; exact af1.elim)
def lenP : D → Option D
  | .int n => if decide (0 ≤ n ∧ n < 2 ^ 63) = true then some (.int n) else none
  | _ => none
theorem own_len : OwnP X.K pLen lenP := ⟨fun B H L fp d r v Q e rv cf q => by
  unfold lenP at e
  split at e
  · split at e
    · rename_i n h
      cases e
      obtain ⟨rfl, rfl⟩ := rv
      have h := of_decide_eq_true h
      exact ⟨n, rfl, h.1, h.2, q _ ⟨rfl, rfl⟩⟩
    · cases e
  · cases e⟩
theorem evr_ownB {id : String} {m : Str} {Pr : World → PySem.W.Frag → (Str → Option Value) → Prop} (cx : Cxt Pr X k) (C : CalM X.prog X.w X.K X.mg X.base j c m 0 [] [0] [] (spD 1 f X.K)) (hj : j + 1 ≤ k) (cr : CalM X.prog X.w X.K X.mg X.base j c m 0 [] [0] [] (spD 1 f X.K) → Room (j + 1) X.A → CallR X (.builtin id) (rOwn X.K c (spD 1 f X.K) PV)) (hP : OwnP X.K PV P)
    (hg : Gl X x) (hm : X.mg x = none) (hv : bootBuiltins x = some (.builtin id)) (h : EvO X W e g) (hn : x ≠ "__name__" := by decide +kernel) (hdb : (x == ("__debug__" : Str)) = false := by decide +kernel)
    (he : starEach [e] X.env = (false, eval e X.env) :: starEach [] X.env := by rfl) (hpl : (backTo pos (starEach [] X.env)).any (·.1) = false := by rfl) : EvR X W (.Call (.Name x p') [e] [] pos) (ownR c f P g) := ⟨fun E σ B l fr H Q re cf af =>
  w_callB (cr C (cx.room.mono hj)) hg hm hv (w_acons (wE_mono (own_one hP h re cf af) fun v H1 q => w_anil (Q := fun r H => rOwn X.K c (spD 1 f X.K) PV (v :: r) H Q) q) he) hn hdb he hpl⟩
theorem evr_ownT {T : String} {m : Str} {Pr : World → PySem.W.Frag → (Str → Option Value) → Prop} (cx : Cxt Pr X k) (C : CalM X.prog X.w X.K X.mg X.base j c m 0 [] [0] [] (spD 1 f X.K)) (hj : j + 1 ≤ k) (cr : CalM X.prog X.w X.K X.mg X.base j c m 0 [] [0] [] (spD 1 f X.K) → Room (j + 1) X.A → CallR X (.type T) (rOwn X.K c (spD 1 f X.K) PV)) (hP : OwnP X.K PV P)
    (hg : Gl X x) (hm : X.mg x = none) (hv : bootBuiltins x = some (.type T)) (h : EvO X W e g) (hn : x ≠ "__name__" := by decide +kernel) (hdb : (x == ("__debug__" : Str)) = false := by decide +kernel)
    (he : starEach [e] X.env = (false, eval e X.env) :: starEach [] X.env := by rfl) (hpl : (backTo pos (starEach [] X.env)).any (·.1) = false := by rfl) : EvR X W (.Call (.Name x p') [e] [] pos) (ownR c f P g) := ⟨fun E σ B l fr H Q re cf af =>
  w_callTy (cr C (cx.room.mono hj)) hg hm hv (w_acons (wE_mono (own_one hP h re cf af) fun v H1 q => w_anil (Q := fun r H => rOwn X.K c (spD 1 f X.K) PV (v :: r) H Q) q) he) hn hdb he hpl⟩
end
/-! ### truth, str -/
def pStr : V → Hp → VK → Prop := fun v H Q => ∃ z, v = .str z ∧ Q (.str z) H
def pTru : V → Hp → VK → Prop := fun v H Q => ∃ n, v = .int n ∧ 0 ≤ n ∧ n < 2 ^ 63 ∧ Q (.bl (n != 0)) H
section
variable {prog : Program} {w : World} {A : Around} {E : Value → Shared → Prop} {s : Shared} {K : PySem.W.Frag} {x C L f : Addr} {h₀ : Heap} {m : Str → Option Value} {ox : PySem.Obj} {od : Option PySem.Obj}
/-- the truth of an instance by its __len__ -/
theorem truthy_len {Q : Bool → Shared → Prop} (X : K.In s.heap) (I : PySem.W.InstAt s.heap x ox C od) (hs : PySem.W.findIn K (.ref C) "__bool__" = some none) (hl : PySem.W.findIn K (.ref C) "__len__" = some (some (.ref f))) (hf : PySem.W.isFn K (.ref f) = true)
    (h : wpAny (model prog w) A.in1 (call (.ref f) [.ref x]) (fun v s' => ∃ n t, v = .int n t ∧ 0 ≤ n ∧ n < 2 ^ 63 ∧ ∀ tk, Q (n != 0) { s' with toks := tk }) E s) : wpAny (model prog w) A (truthy (.ref x)) Q E s := by
  have key : wpAny (model prog w) A (runValue (.builtin "len" ⟨[.ref x], []⟩)) (fun v s' => ∃ n t, v = .int n t ∧ Q (n != 0) s') E s := by
    refine wpAny_runValue (codeAny_builtin entry_len ?_)
    rw [Around.under_plainId plain_len _]
    unfold Builtin.«len»
    refine wpAny_bind (m := oneArg "len" _) (wpAny_pure ?_)
    refine wpAny_bind (m := callSpecial? (.ref x) (Str.ofString "__len__")) (PySem.W.special_fn X I hl (beq_iff_eq.mp hf) (thn h fun v s' z => ?_))
    obtain ⟨n, t, rfl, h0, h1, q⟩ := z
    refine wpAny_bind (wpAny_holding (wpAny_pure (wpAny_bind (wpAny_letGo ?_))))
    show wpAny _ _ (if n < 0 then _ else _) _ _ _
    rw [if_neg (by omega)]
    show wpAny _ _ (if n ≥ 2 ^ 63 then _ else _) _ _ _
    rw [if_neg (by omega)]
    exact wpAny_bind (wpAny_mkInt (wpAny_pure ⟨n, _, rfl, q _⟩))
  unfold truthy
  refine wpAny_bind (m := callSpecial? (.ref x) (Str.ofString "__bool__")) (wpAny_bind (wpAny_bind (I.type.here ((PySem.W.looks_findIn X hs).here (wpAny_pure ?_)))))
  refine wpAny_bind (wpAny_bind (I.type.here ((PySem.W.looks_findIn X hl).here ?_)))
  refine wpAny_bind (thn key fun v s' z => ?_)
  obtain ⟨n, t, rfl, q⟩ := z
  exact wpAny_pure q
end
section
variable {X : Cx} {j : Nat} {c : Str} {sp : Sp}
theorem meets_bool_I {prog : Program} {w : World} (a : Addr) : MeetsIn prog w (Builtin.«bool.__new__» ⟨[.type "bool", .ref a], []⟩) (fun A R s => wpAny (model prog w) A.in1 (truthy (.ref a)) (fun b s' => R (.ok (.ret (.bool b))) s') (fun e s' => R (.error e) s') s) :=
  .of_wp fun A R s h => by
    obtain ⟨hp, g, d, tk, os⟩ := s
    have f1 := F.conv_sub_bool
    repeat (any_goals (first | assumption | (with_reducible refine wpAny_bind (thn h fun b s' q => ?_)) | wp_step))
    all_goals first | exact ⟨_, rfl, q⟩ | exact ⟨_, rfl, ‹_›⟩ | skip
theorem cr_boolO (hs : PySem.W.findIn X.K (.ref (He.ga X.K c)) "__bool__" = some none) (C : CalM X.prog X.w X.K X.mg X.base j c "__len__" 0 [] [0] [] sp) (hr : Room (j + 3) X.A) : CallR X (.type "bool") (rOwn X.K c sp pTru) := by
  intro pins s σ H xs us Q I r h
  obtain ⟨a, dx, fs, rfl, ha, hsp⟩ := h
  obtain ⟨u, rfl, ru⟩ := vals1 r
  obtain rfl : u = Value.ref a := ru
  obtain ⟨mA, J, _⟩ := ins_get I.hok ha
  obtain ⟨od, J, _⟩ := J.look
  obtain ⟨f, hm, run⟩ := call_own (A := X.A.in1.in1.in1) rfl C hr.in1.in1.in1 I hsp
  refine callType_newIn F.called_bool F.newNe_bool (F.typeCall_bool_1 _) (F.newCall_bool_1 _) (fun obj => F.args_object_init_2 obj _) F.entry_bool_new (meets_bool_I a) ?_
  refine truthy_len I.kIn J hs hm.at_ hm.fn (thn run fun u s' z => ?_)
  obtain ⟨v, H', I', rv, n, rfl, h0, h1, q⟩ := z
  obtain ⟨t, rfl⟩ := (show ∃ t, u = Value.int n t from rv)
  exact ⟨n, t, rfl, h0, h1, fun tk => ⟨rfl, .bl (n != 0), H', I'.tok _, rfl, q⟩⟩
theorem meets_str_I {prog : Program} {w : World} (a : Addr) : MeetsIn prog w (Builtin.«str.__new__» ⟨[.type "str", .ref a], []⟩) (fun A R s => wpAny (model prog w) A.in1 (Builtin.Str.strOf (.ref a)) (fun r s' => R (.ok (.ret r)) s') (fun e s' => R (.error e) s') s) := by
  refine .of_wp fun A R s h => ?_
  rw [str_new_tree]
  refine wpAny_bind (wpAny_pure (wpAny_bind (wpAny_of_eq isSubtype_str_str ?_)))
  exact wpAny_bind (thn h fun r s' q => wpAny_pure ⟨_, rfl, q⟩)
theorem cr_strO (C : CalM X.prog X.w X.K X.mg X.base j c "__str__" 0 [] [0] [] sp) (hr : Room (j + 3) X.A) : CallR X (.type "str") (rOwn X.K c sp pStr) := by
  intro pins s σ H xs us Q I r h
  obtain ⟨a, dx, fs, rfl, ha, hsp⟩ := h
  obtain ⟨u, rfl, ru⟩ := vals1 r
  obtain rfl : u = Value.ref a := ru
  obtain ⟨mA, J, _⟩ := ins_get I.hok ha
  obtain ⟨od, J, _⟩ := J.look
  obtain ⟨f, hm, run⟩ := call_own (A := X.A.in1.in1) rfl C (hr.in1.in1.mono (Nat.le_succ j)) I hsp
  refine callType_newIn F.called_str (by decide) (F.typeCall_str_1 _) (F.newCall_str_1 _) (fun obj => F.args_object_init_2 obj _) F.entry_str_new (meets_str_I a) ?_
  unfold Builtin.Str.strOf
  rw [if_neg (by rw [show Builtin.Str.isExactStr (.ref a) = false from rfl]; exact Bool.false_ne_true)]
  refine wpAny_bind (wpAny_cRoomFor hr.in1.in1.units0 ?_)
  refine wpAny_bind (m := callSpecial? (.ref a) (Str.ofString "__str__")) (PySem.W.special_fn I.kIn J hm.at_ (beq_iff_eq.mp hm.fn) (thn run fun u s' z => ?_))
  obtain ⟨v, H', I', rv, n, rfl, q⟩ := z
  obtain ⟨t, rfl⟩ := (show ∃ t, u = Value.str n t from rv)
  refine wpAny_bind (m := asStr? (.str n t)) (wpAny_pure (wpAny_pure ⟨?_, .str n, H', I', ⟨t, rfl⟩, q⟩))
  exact typeIs_str _ _ _
end
def truP : D → Option D
  | .int n => if decide (0 ≤ n ∧ n < 2 ^ 63) = true then some (.bl (n != 0)) else none
  | _ => none
def strP : D → Option D
  | .str z => some (.str z)
  | _ => none
theorem own_tru {K : PySem.W.Frag} : OwnP K pTru truP := ⟨fun B H L fp d r v Q e rv cf q => by
  unfold truP at e
  split at e
  · split at e
    · rename_i n h
      cases e
      obtain ⟨rfl, rfl⟩ := rv
      have h := of_decide_eq_true h
      exact ⟨n, rfl, h.1, h.2, q _ ⟨rfl, rfl⟩⟩
    · cases e
  · cases e⟩
theorem own_str {K : PySem.W.Frag} : OwnP K pStr strP := ⟨fun B H L fp d r v Q e rv cf q => by
  unfold strP at e
  split at e
  · cases e
    obtain ⟨rfl, rfl⟩ := rv
    exact ⟨_, rfl, q _ ⟨rfl, rfl⟩⟩
  · cases e⟩
end DW
/-! DW26: == and != of an instance with its own __eq__, on the left. -/
namespace DW
open PySem PySem.W PySem.Spec PySem.Calls PyProof.Rows
theorem one_bind (self : Value) : bindSpecial (.builtin "object.__ne__") self = pure (.builtin "object.__ne__", [self]) :=
  (Slot.of (T := "object") (name := "__ne__") (owner := "object") (n := "__ne__") (by rw [typeLookup_type, builtinLookup_eq_fast]; kernel_rfl) (by decide +kernel) (by decide +kernel) (by decide +kernel) (.inl (by decide +kernel)) (by rw [isSubtype_type]; kernel_rfl)).bind self
theorem one_plain : plainId "object.__ne__" = true := by decide +kernel
section
variable {prog : Program} {w : World} {A : Around} {E : Value → Shared → Prop} {s : Shared} {K : Frag} {x C f : Addr} {ox : PySem.Obj} {od : Option PySem.Obj} {b tb : Value}
theorem ifBound_B {M : Model} {name : Str} {id : String} {args : List Value} {Q : Option Value → Shared → Prop} (X : K.In s.heap) (I : InstAt s.heap x ox C od) (hs : findIn K (.ref C) name = some (some (.builtin id))) (hb : ∀ self, bindSpecial (.builtin id) self = pure (.builtin id, [self]))
    (h : wpAny M A (call (.builtin id) (.ref x :: args)) (fun v => Q (some v)) E s) : wpAny M A (callSpecialIfBound? (.ref x) name args) Q E s := by
  simp only [callSpecialIfBound?, bindSpecialIfBound?]
  refine wpAny_holding (wpAny_bind (wpAny_bind (wpAny_bind (I.type.here ((looks_findIn X hs).here (wpAny_bind (wpAny_askSetting (wpAny_ite ?_))))))))
  have last : wpAny M A (call (.builtin id) ([.ref x] ++ args) >>= fun v => pure (some v)) Q E s := wpAny_bind (wpAny_mono h (fun _ _ z => wpAny_pure z) fun _ _ z => z)
  rw [hb]
  split
  · exact wpAny_bind (wpAny_pure (wpAny_pure last))
  · exact wpAny_tryCatch (wpAny_bind (wpAny_pure (wpAny_pure last)))
/-- the own __eq__ gives a truth: != its contrary -/
theorem ne_own {Q : Value → Shared → Prop} (hu : A.units + 1 < cLine) (X : K.In s.heap) (I : InstAt s.heap x ox C od) (hb : Looks (model prog w) s.heap (typeOf b) tb) (hn : notFirst K C tb = true) (hm : mroIn K C (.type "object") = some true)
    (hs : findIn K (.ref C) "__eq__" = some (some (.ref f))) (hn2 : findIn K (.ref C) "__ne__" = some (some (.builtin "object.__ne__"))) (hf : isFn K (.ref f) = true)
    (h : wpAny (model prog w) A.in1 (call (.ref f) [.ref x, b]) (fun v s' => ∃ c, v = .bool c ∧ Q (.bool (!c)) s') E s) : wpAny (model prog w) A (richCompare .NotEq (.ref x) b) Q E s := by
  have one : wpAny (model prog w) A (tryCompare (.ref x) "__ne__" b) (fun r s' => ∃ v, r = some v ∧ Q v s') E s := by
    unfold tryCompare
    refine wpAny_bind (ifBound_B X I hn2 one_bind ?_)
    have sub : Looks (model prog w) s.heap (isInstance (.ref x) (.type "object")) true := I.type.andThen (looks_mroIn X hm)
    refine wpAny_call (codeAny_call_builtin one_plain F.cmpEntry_ne (check_slot F.cmpKind_ne F.cmpSplit_ne sub (F.cmpArgs_ne _ _) ?_))
    unfold Builtin.«object.__ne__»
    refine wpAny_bind (wpAny_of_eq (a := ((Value.ref x : Value), [b])) (by first | rfl | (simp only [slotArgs]; rfl)) ?_)
    refine wpAny_bind (wpAny_cRoomFor hu (wpAny_bind (ifBound_K X I hs hf (L2.thn h fun v s' z => ?_))))
    obtain ⟨c, rfl, q⟩ := z
    refine wpAny_bind (wpAny_truthy_bool ?_)
    exact wpAny_pure (wpAny_pure ⟨_, rfl, q⟩)
  unfold richCompare
  simp only [oneThing_ref]
  refine wpAny_holding (wpAny_bind (wpAny_cRoomFor (Nat.lt_of_succ_lt hu) (wpAny_bind (I.type.here (wpAny_bind (hb.here ?_))))))
  split
  · rename_i q
    have e : subIn K tb (.ref C) = some false := by
      rcases Bool.or_eq_true_iff.mp hn with e | e
      · rw [beq_iff_eq.mp e] at q; simp at q
      · exact beq_iff_eq.mp e
    refine wpAny_bind ((looks_subIn X e).here ?_)
    simp only [Bool.false_eq_true, if_false]
    refine wpAny_bind (L2.thn one fun r s' z => ?_)
    obtain ⟨v, rfl, q⟩ := z
    exact wpAny_pure q
  · refine wpAny_bind (wpAny_pure ?_)
    simp only [Bool.false_eq_true, if_false]
    refine wpAny_bind (L2.thn one fun r s' z => ?_)
    obtain ⟨v, rfl, q⟩ := z
    exact wpAny_pure q
end
open PySem L2 Evl QW
open PySem.Spec PyProof.Rows
local macro_rules | `(tactic| walk_at "perm") => `(tactic| (refine List.perm_iff_count.mpr fun _ => ?_; simp only [List.count_append, List.count_nil]; omega))
/-- == by the left one's own method -/
def rOwn2 (K : PySem.W.Frag) (c : Str) (sp : Sp) (neg : Bool) : R2 := fun x y H Q => ∃ (a dx : Addr) (fs : List (Str × V)) (t : Value), x = .ref a ∧ H a = some (.ins (He.ga K c) dx fs) ∧ TyX K H y t ∧ PySem.W.notFirst K (He.ga K c) t = true ∧
  sp [x, y] H (fun v H' => ∃ b, v = .bl b ∧ Q (.bl (b != neg)) H') fun _ _ _ => False
theorem sub_own {c1 c : Str} (h : ownC.contains c = true) (hne : c1 ≠ c) : subB c1 c = false := by
  have n0 : ¬ c = c1 := fun z => hne z.symm
  have h3 : c = "Map" ∨ c = "Wood" ∨ c = "House" := by simpa [ownC] using h
  have n1 : excUp.contains c = false := by rcases h3 with rfl | rfl | rfl <;> decide +kernel
  have n2 : ¬ c = "object" := by rcases h3 with rfl | rfl | rfl <;> decide +kernel
  unfold subB supers
  split
  · rw [List.contains_cons, n1]; simpa using n0
  · split
    · exact n1
    · simp [n0, n2]
theorem nf_of {K : PySem.W.Frag} {C : Addr} {t : Value} {b : Bool} (h : PySem.W.kitOne K t (.ref C) = some b) (hb : b = false ∨ t = .ref C) : PySem.W.notFirst K C t = true := by
  unfold PySem.W.notFirst
  rcases hb with rfl | rfl
  · unfold PySem.W.kitOne at h
    split at h
    · cases h
    · unfold PySem.W.kitCls at h
      dsimp only at h
      split at h
      · rw [h]; simp
      · cases h
  · simp
section
variable {X : Cx} {j : Nat} {c : Str} {sp : Sp}
theorem look_ty {pins : List (Addr × PySem.Obj)} {σ : L2.St} {H : Hp} {s : Shared} {y : V} {u t : Value} (I : Inv X pins σ H s) (r : RelV y u) (ty : TyX X.K H y t) : PySem.W.Looks (model X.prog X.w) s.heap (typeOf u) t := by
  obtain ⟨P, Z, p, _⟩ := kit_of I r ty
  exact Z.ty _ _ I.kIn p
theorem op_eqO (C : CalM X.prog X.w X.K X.mg X.base j c "__eq__" 1 [] [0, 1] [] sp) (hr : Room j X.A) : OpR X (compareOp .Eq) (rOwn2 X.K c sp false) := by
  intro pins s σ H x y v u Q I rx ry h
  obtain ⟨a, dx, fs, t, rfl, ha, ty, nf, hsp⟩ := h
  obtain rfl : v = Value.ref a := rx
  obtain ⟨mA, J, _⟩ := ins_get I.hok ha
  obtain ⟨od, J, _⟩ := J.look
  obtain ⟨m, fr⟩ := I.fr
  obtain ⟨f, fd, ps, F, cl, hm, its, hb⟩ := C.ex
  show wpAny (model X.prog X.w) X.A (richCompare .Eq (.ref a) u) (EP X pins σ Q) X.xe s
  refine PySem.W.cmp_K hr.units0 fr I.ok.mod.kin J (look_ty I ry ty) nf hm.at_ hm.fn (thn (run_A (us := [.ref a, u]) (ws := []) (vs := [.ref a, y]) (zs := []) rfl F hr hb I (.cons rfl (.cons ry .nil)) .nil rfl rfl hsp) fun w s' z => ?_)
  obtain ⟨v', H', I', rv, b, rfl, q⟩ := z
  obtain rfl : w = Value.bool b := rv
  exact ⟨.bl b, H', I', rfl, by simpa using q⟩
theorem op_neO (C : CalM X.prog X.w X.K X.mg X.base j c "__eq__" 1 [] [0, 1] [] sp) (hr : Room (j + 1) X.A) (g : ClsG X.K (He.ga X.K c)) (hne : PySem.W.findIn X.K (.ref (He.ga X.K c)) "__ne__" = some (some (.builtin "object.__ne__"))) : OpR X (compareOp .NotEq) (rOwn2 X.K c sp true) := by
  intro pins s σ H x y v u Q I rx ry h
  obtain ⟨a, dx, fs, t, rfl, ha, ty, nf, hsp⟩ := h
  obtain rfl : v = Value.ref a := rx
  obtain ⟨mA, J, _⟩ := ins_get I.hok ha
  obtain ⟨od, J, _⟩ := J.look
  obtain ⟨f, fd, ps, F, cl, hm, its, hb⟩ := C.ex
  show wpAny (model X.prog X.w) X.A (richCompare .NotEq (.ref a) u) (EP X pins σ Q) X.xe s
  refine ne_own (by have := hr.units; omega) I.kIn J (look_ty I ry ty) nf g.hm hm.at_ hne hm.fn (thn (run_A (A := X.A.in1) (us := [.ref a, u]) (ws := []) (vs := [.ref a, y]) (zs := []) rfl F hr.in1 hb I (.cons rfl (.cons ry .nil)) .nil rfl rfl hsp) fun w s' z => ?_)
  obtain ⟨v', H', I', rv, b, rfl, q⟩ := z
  obtain rfl : w = Value.bool b := rv
  exact ⟨b, rfl, .bl (!b), H', I', rfl, by simpa using q⟩
end
/-- what may stand on the right -/
def okT : D → Bool
  | .ins _ _ _ _ => true
  | d => match tyD d with
    | some t => bltT.contains t
    | none => false
def eqO (neg : Bool) (c : Str) (f : Fn) (g1 g2 : Env → R Opd) : Env → R D := fun E => (g1 E).bind fun o1 E1 => (g2 E1).bind fun o2 E2 => match o1.val E2, o2.val E2 with
  | some d1, some d2 => if (insC c d1 && okT d2) = true then (match callW f [0, 1] [] [o1, o2] E2 with
    | .ok (.bl b) E3 => .ok (.bl (b != neg)) E3
    | _ => .bad) else .bad
  | _, _ => .bad
section
variable {X : Cx} {W : WX} {j : Nat} {c : Str} {f : Fn} {neg : Bool} {e1 e2 : Expr} {g1 g2 : Env → R Opd} {p' pos : Pos}
theorem own_two (t : Tgt X.K c) (hown : ownC.contains c = true) (h1 : EvO X W e1 g1) (h2 : EvO X W e2 g2) {E : Env} {σ : L2.St} {B : Hp} {l fr : List Ob} {H : Hp} {Q : VK} (re : RelEnv X.K B E σ l) (cf : Cfg B (l ++ fr) H) (af : After X.K σ fr B W (Rep X.K) (eqO neg c f g1 g2 E) Q) :
    wE X e1 σ H fun x H1 => wE X e2 σ H1 fun y H2 => rOwn2 X.K c (spD 2 f X.K) neg x y H2 Q :=
  h1.run E σ B l fr H _ re cf (After.first (γ := Opd) (δ := V) af fun o1 E1 v1 B1 l1 fp1 H1 _ x1 re1 rv1 cf1 af1 =>
    h2.run E1 σ B1 l1 (fp1 ++ fr) H1 _ re1 (Cfg.perm cf1 (by walk_at "perm")) (After.next (γ := Opd) (δ := V) af1 fun o2 E2 v2 B2 l2 fp2 H2 _ x2 re2 rv2 cf2 af2 => by
      try dsimp only at af2
      cases hv1 : o1.val E2 with
      | none => rw [hv1] at af2; exact af2.elim
      | some d1 =>
        cases hv2 : o2.val E2 with
        | none => rw [hv1, hv2] at af2; exact af2.elim
        | some d2 =>
          rw [hv1, hv2] at af2
          dsimp only at af2
          by_cases hi : (insC c d1 && okT d2) = true
          · rw [if_pos hi] at af2
            obtain ⟨hi1, hi2⟩ := ba2 hi
            have rv1' := rv1.mono x2
            obtain ⟨f1, r1, m1⟩ := rv1'.get re2 hv1
            obtain ⟨f2, r2, m2⟩ := rv2.get re2 hv2
            have mm1 : ∀ ob, ob ∈ f1 → ob ∈ fp2 ++ (l2 ++ (fp1 ++ fr)) := fun ob hm => by
              have := m1 ob hm
              simp only [List.mem_append] at this ⊢
              rcases this with h | h
              · exact .inr (.inr (.inl h))
              · exact .inr (.inl h)
            have mm2 : ∀ ob, ob ∈ f2 → ob ∈ fp2 ++ (l2 ++ (fp1 ++ fr)) := fun ob hm => by
              have := m2 ob hm
              simp only [List.mem_append] at this ⊢
              rcases this with h | h
              · exact .inl h
              · exact .inr (.inl h)
            unfold insC at hi1
            split at hi1
            · rename_i o0 c' ns ds
              have hi1 := of_decide_eq_true hi1
              subst hi1
              obtain ⟨p, dx, vs, g', rfl, hp, _⟩ := r1.isI cf2 mm1
              have ht : ∃ t, TyX X.K H2 v2 t ∧ PySem.W.notFirst X.K (He.ga X.K c') t = true := by
                unfold okT at hi2
                split at hi2
                · rename_i o1 c1 ns1 ds1
                  obtain ⟨pr, ty⟩ := r2.tyI cf2 mm2
                  refine ⟨_, ty, ?_⟩
                  by_cases hc : c1 = c'
                  · subst hc; exact nf_of (pr.kit t) (.inr rfl)
                  · have e := pr.kit t
                    have : subB c1 c' = false := sub_own (by have hi1 := hown; exact hi1) hc
                    rw [this] at e
                    exact nf_of e (.inl rfl)
                · split at hi2
                  · rename_i u et
                    exact ⟨_, tyD_ok et r2 cf2 mm2, nf_of (t.kit hi2) (.inl rfl)⟩
                  · cases hi2
              obtain ⟨t', ty, nf⟩ := ht
              refine ⟨p, dx, _, t', rfl, hp, ty, nf, ?_⟩
              have os1 : OpsRep X.K σ B2 [o1, o2] [V.ref p, v2] (fp1 ++ fp2) := ⟨_, [v2], fp1, fp2, rfl, rfl, rv1', v2, [], fp2, [], rfl, by simp, rv2, rfl, rfl⟩
              refine callW_ok (f := f) (ix := [0, 1]) (dfl := []) (dvs := []) (E := E2) (W := W0) (np := 2) (l := l2) (fr := fr) os1 re2 (Cfg.perm cf2 (by walk_at "perm")) rfl (by simp) (fun _ => ⟨rfl, rfl⟩) ?_
              cases hc : callW f [0, 1] [] [o1, o2] E2 with
              | bad => rw [hc] at af2; exact af2.elim
              | exc c ns vs E3 => rw [hc] at af2; exact af2.elim
              | ok d3 E3 =>
                rw [hc] at af2
                intro v B3 l3 fp H3 x3 re3 rv3 cf3
                cases d3 with
                | bl b =>
                  obtain ⟨rfl, rfl⟩ := rv3
                  exact ⟨b, rfl, af2 _ B3 l3 [] H3 x3 re3 ⟨rfl, rfl⟩ cf3⟩
                | _ => exact af2.elim
            · cases hi1
          · rw [if_neg hi] at af2; exact af2.elim))
/-- what == and != of a class lean on -/
def eqcB (K : PySem.W.Frag) (c : Str) : Bool := eqV2 (PySem.W.findIn K (.ref (He.ga K c)) "__ne__") (some (some (.builtin "object.__ne__"))) && eqV2 (PySem.W.findIn K (.ref (He.ga K c)) "__bool__") (some none)
structure EqC (K : PySem.W.Frag) (c : Str) : Prop where
  ok : eqcB K c = true
theorem EqC.ne {K : PySem.W.Frag} {c : Str} (h : EqC K c) : PySem.W.findIn K (.ref (He.ga K c)) "__ne__" = some (some (.builtin "object.__ne__")) := eqV2_ok (ba2 h.ok).1
theorem EqC.nb {K : PySem.W.Frag} {c : Str} (h : EqC K c) : PySem.W.findIn K (.ref (He.ga K c)) "__bool__" = some none := eqV2_ok (ba2 h.ok).2
variable {k : Nat} {Pr : World → PySem.W.Frag → (Str → Option Value) → Prop}
theorem evr_eqO (cx : Cxt Pr X k) (C : CalM X.prog X.w X.K X.mg X.base j c "__eq__" 1 [] [0, 1] [] (spD 2 f X.K)) (hj : j ≤ k) (t : Tgt X.K c) (hown : ownC.contains c = true) (h1 : EvO X W e1 g1) (h2 : EvO X W e2 g2) (hm : behindInMarks .Eq e2 = false := by first | exact nobehind _ (by decide) (by decide) | rfl) :
    EvR X W (.Compare e1 [.Eq] [e2] pos) (eqO false c f g1 g2) := ⟨fun E σ B l fr H Q re cf af => wE_of (pe_cmpR (op_eqO C (cx.room.mono hj)) pE pE hm) (own_two t hown h1 h2 re cf af)⟩
theorem evr_neO (cx : Cxt Pr X k) (C : CalM X.prog X.w X.K X.mg X.base j c "__eq__" 1 [] [0, 1] [] (spD 2 f X.K)) (hj : j + 1 ≤ k) (t : Tgt X.K c) (hown : ownC.contains c = true) (pr : Pres X.K c) (q : EqC X.K c) (h1 : EvO X W e1 g1) (h2 : EvO X W e2 g2) (hm : behindInMarks .NotEq e2 = false := by first | exact nobehind _ (by decide) (by decide) | rfl) :
    EvR X W (.Compare e1 [.NotEq] [e2] pos) (eqO true c f g1 g2) := ⟨fun E σ B l fr H Q re cf af => wE_of (pe_cmpR (op_neO C (cx.room.mono hj) pr.g q.ne) pE pE hm) (own_two t hown h1 h2 re cf af)⟩
theorem tv_after {K : PySem.W.Frag} {σ : L2.St} {fr : List Ob} {B : Hp} {r : Env → R D} {E : Env} {Q : Bool → Hp → Prop} (af : After K σ fr B W BoRep (tV r E) Q) : After K σ fr B W (Rep K) (r E) (fun x H1 => ∃ c, x = .bl c ∧ Q c H1) :=
  After.first (β := Bool) (δ := V) af fun d E1 v B1 l1 fp H1 _ x1 re1 rv1 cf1 af1 => by
    split at af1
    · obtain ⟨rfl, rfl⟩ := rv1
      exact ⟨_, rfl, af1 _ B1 l1 [] H1 (Ex.refl _) re1 ⟨rfl, rfl⟩ cf1⟩
    · exact af1.elim
theorem evt_eqO (cx : Cxt Pr X k) (C : CalM X.prog X.w X.K X.mg X.base j c "__eq__" 1 [] [0, 1] [] (spD 2 f X.K)) (hj : j ≤ k) (t : Tgt X.K c) (hown : ownC.contains c = true) (h1 : EvO X W e1 g1) (h2 : EvO X W e2 g2) (hm : behindInMarks .Eq e2 = false := by first | exact nobehind _ (by decide) (by decide) | rfl) :
    EvT X W (.Compare e1 [.Eq] [e2] pos) (tV (eqO false c f g1 g2)) := ⟨fun E σ B l fr H Q re cf af => wT_of (pt_cmp (pc_R (op_eqO C (cx.room.mono hj)) pE pE) hm) (own_two t hown h1 h2 re cf (tv_after af))⟩
theorem evt_neO (cx : Cxt Pr X k) (C : CalM X.prog X.w X.K X.mg X.base j c "__eq__" 1 [] [0, 1] [] (spD 2 f X.K)) (hj : j + 1 ≤ k) (t : Tgt X.K c) (hown : ownC.contains c = true) (pr : Pres X.K c) (q : EqC X.K c) (h1 : EvO X W e1 g1) (h2 : EvO X W e2 g2) (hm : behindInMarks .NotEq e2 = false := by first | exact nobehind _ (by decide) (by decide) | rfl) :
    EvT X W (.Compare e1 [.NotEq] [e2] pos) (tV (eqO true c f g1 g2)) := ⟨fun E σ B l fr H Q re cf af => wT_of (pt_cmp (pc_R (op_neO C (cx.room.mono hj) pr.g q.ne) pE pE) hm) (own_two t hown h1 h2 re cf (tv_after af))⟩
end
end DW
/-! DW27: from a def's derivation to what may be called. -/
namespace DW
open PySem L2 Evl QW
open PySem.Spec PyProof.Rows
section
variable {P : Program} {w : World} {K : PySem.W.Frag} {mg : Str → Option Value} {base : Heap} {x c m qual : Str} {st : Stmt} {N ps ks : List Str} {k np n : Nat} {f : Fn} {ix : List Nat} {dvs : List V} {a : Addr} {fd : FuncData}
abbrev Deriv (P : Program) (w : World) (K : PySem.W.Frag) (mg : Str → Option Value) (base : Heap) (N : List Str) (st : Stmt) (k : Nat) (f : Fn) : Prop :=
  ∀ X : Cx, X.prog = P → X.w = w → X.K = K → X.mg = mg → X.base = base → Bd X N (defScope st) k → ∀ W, Takes X W → ExS X W f.S (defBody st) f.F
theorem fnOk_D (F : FunD K x qual (defArgs st) (defBody st) (defScope st) dvs [] a fd) (S : FnScope N ps (defScope st)) (hn : f.n = N.length) (hp : np = ps.length) (h : Deriv P w K mg base N st k f) : FnOk P w K mg base (L2.CX P w) (k + 1) a fd ps (spD np f K) :=
  fnOk_mk F S (fun vs H Q E sp => by obtain ⟨_, _, _, _, hl, _⟩ := sp; rw [hl, hp]) fun X e1 e2 e3 e4 e5 b E tk vs H Q sp => by
    subst e3
    exact run_body (W := fun c d _ H => E c d H) hn (h X e1 e2 rfl e4 e5 b _ tk) sp
/-- binding, no defaults -/
abbrev HB0 (x qual : Str) (st : Stmt) (ps : List Str) (n : Nat) (ks : List Str) (ix : List Nat) : Prop := ∀ (kV doc pm : Value) (an : Option Addr) (cdv ct : Value) (us ws : List Value), us.length = n → ws.length = ks.length →
  bindArgs (PySem.W.fnOf x qual (defArgs st) (defBody st) (defScope st) .none kV doc pm an cdv ct) ⟨us, ks.zip ws⟩ = pure (ps.zip (ordA ix (us ++ ws)))
abbrev HBD (x qual : Str) (st : Stmt) (ps : List Str) (m n : Nat) (ks : List Str) (ix : List Nat) : Prop := ∀ (T : Addr) (kV doc pm : Value) (an : Option Addr) (cdv ct : Value) (us ws its : List Value), us.length = n → ws.length = ks.length → its.length = m →
  ∃ k, bindArgs (PySem.W.fnOf x qual (defArgs st) (defBody st) (defScope st) (.ref T) kV doc pm an cdv ct) ⟨us, ks.zip ws⟩ = seqItems? (.ref T) >>= k ∧ k (some its.toArray) = pure (ps.zip (ordA ix (us ++ ws ++ its)))
theorem bind0 (F : FunD K x qual (defArgs st) (defBody st) (defScope st) [] [] a fd) (hb : HB0 x qual st ps n ks ix) : BindW K fd ps n ks ix [] := by
  obtain ⟨oc, od, dV, kV, doc, pm, an, cdv, ct, osl, rfl, lk, hcd, hD, hK⟩ := F.ex
  refine ⟨[], ⟨fun s us ws X l1 l2 => ?_, fun r1 r2 => ordA_vals ((r1.append r2).append .nil) ix⟩⟩
  rcases hD with ⟨_, rfl⟩ | ⟨e, _⟩
  · rw [List.append_nil]
    exact .of_eq (hb kV doc pm an cdv ct us ws l1 l2)
  · exact absurd rfl e
theorem bindD (F : FunD K x qual (defArgs st) (defBody st) (defScope st) dvs [] a fd) (hd : dvs ≠ []) (hb : HBD x qual st ps dvs.length n ks ix) : BindW K fd ps n ks ix dvs := by
  obtain ⟨oc, od, dV, kV, doc, pm, an, cdv, ct, osl, rfl, lk, hcd, hD, hK⟩ := F.ex
  rcases hD with ⟨e, _⟩ | ⟨_, T, o, its, m, rfl, lT, oT, rT⟩
  · exact absurd e hd
  · refine ⟨its, ⟨fun s us ws X l1 l2 => ?_, fun r1 r2 => ordA_vals ((r1.append r2).append rT) ix⟩⟩
    obtain ⟨k, e1, e2⟩ := hb T kV doc pm an cdv ct us ws its l1 l2 rT.length.symm
    refine BindsTo.of_looks fun M => ?_
    rw [e1]
    exact looks_items X lT oT (.of_pure e2)
theorem calF0 (F : At K mg x st []) (S : FnScope N ps (defScope st)) (hb : HB0 x x st ps n ks ix) (hn : f.n = N.length) (hp : np = ps.length) (h : Deriv P w K mg base N st k f) : CalF P w K mg base (k + 1) x n ks ix [] (spD np f K) := by
  obtain ⟨a, fd, F, hm⟩ := F
  exact ⟨a, fd, ps, fnOk_D F S hn hp h, hm, F.kp, bind0 F hb⟩
theorem calFD (F : At K mg x st dvs) (hd : dvs ≠ []) (S : FnScope N ps (defScope st)) (hb : HBD x x st ps dvs.length n ks ix) (hn : f.n = N.length) (hp : np = ps.length) (h : Deriv P w K mg base N st k f) : CalF P w K mg base (k + 1) x n ks ix dvs (spD np f K) := by
  obtain ⟨a, fd, F, hm⟩ := F
  exact ⟨a, fd, ps, fnOk_D F S hn hp h, hm, F.kp, bindD F hd hb⟩
theorem calM0 (F : AtM K c m qual st []) (cl : Cls K (He.ga K c)) (hm : Meth K (He.ga K c) m (He.ma K (He.ga K c) m)) (S : FnScope N ps (defScope st)) (hb : HB0 m qual st ps (n + 1) ks ix) (hn : f.n = N.length) (hp : np = ps.length) (h : Deriv P w K mg base N st k f) : CalM P w K mg base (k + 1) c m n ks ix [] (spD np f K) := by
  obtain ⟨fd, F⟩ := F
  exact ⟨_, fd, ps, fnOk_D F S hn hp h, cl, hm, bind0 F hb⟩
theorem calMD (F : AtM K c m qual st dvs) (hd : dvs ≠ []) (cl : Cls K (He.ga K c)) (hm : Meth K (He.ga K c) m (He.ma K (He.ga K c) m)) (S : FnScope N ps (defScope st)) (hb : HBD m qual st ps dvs.length (n + 1) ks ix) (hn : f.n = N.length) (hp : np = ps.length) (h : Deriv P w K mg base N st k f) : CalM P w K mg base (k + 1) c m n ks ix dvs (spD np f K) := by
  obtain ⟨fd, F⟩ := F
  exact ⟨_, fd, ps, fnOk_D F S hn hp h, cl, hm, bindD F hd hb⟩
theorem calC0 (F : AtM K c "__init__" qual st []) (M : Mk K (He.ga K c) (He.ma K (He.ga K c) "__init__")) (hg : mg c = some (.ref (He.ga K c))) (S : FnScope N ps (defScope st)) (hb : HB0 "__init__" qual st ps (n + 1) ks ix) (hn : f.n = N.length) (hp : np = ps.length) (h : Deriv P w K mg base N st k f) : CalC P w K mg base (k + 1) c n ks ix [] (spD np f K) := by
  obtain ⟨fd, F⟩ := F
  exact ⟨_, fd, ps, fnOk_D F S hn hp h, hg, M, bind0 F hb⟩
theorem calCD (F : AtM K c "__init__" qual st dvs) (hd : dvs ≠ []) (M : Mk K (He.ga K c) (He.ma K (He.ga K c) "__init__")) (hg : mg c = some (.ref (He.ga K c))) (S : FnScope N ps (defScope st)) (hb : HBD "__init__" qual st ps dvs.length (n + 1) ks ix) (hn : f.n = N.length) (hp : np = ps.length) (h : Deriv P w K mg base N st k f) : CalC P w K mg base (k + 1) c n ks ix dvs (spD np f K) := by
  obtain ⟨fd, F⟩ := F
  exact ⟨_, fd, ps, fnOk_D F S hn hp h, hg, M, bindD F hd hb⟩
end
/-! ### further facts of classes, by a Bool -/
/-- a class that is made -/
def mkB (K : PySem.W.Frag) (c : Str) : Bool := !isExc c && (presB K c && (bndB K c && (PySem.W.makesIn K (He.ga K c) && (eqV2 (PySem.W.findIn K (.ref (He.ga K c)) "__init__") (some (some (.ref (He.ma K (He.ga K c) "__init__")))) && (PySem.W.isFn K (.ref (He.ma K (He.ga K c) "__init__")) && PySem.W.keepIn K (.ref (He.ga K c)))))))
structure MkF (K : PySem.W.Frag) (c : Str) : Prop where
  ok : mkB K c = true
theorem MkF.pres {K : PySem.W.Frag} {c : Str} (h : MkF K c) : Pres K c := ⟨(ba2 (ba2 h.ok).2).1⟩
theorem MkF.isx {K : PySem.W.Frag} {c : Str} (h : MkF K c) : isExc c = false := by have := (ba2 h.ok).1; rwa [Bool.not_eq_true'] at this
theorem MkF.mkk {K : PySem.W.Frag} {c : Str} (h : MkF K c) : Mk K (He.ga K c) (He.ma K (He.ga K c) "__init__") := by
  have q := (ba2 (ba2 (ba2 h.ok).2).2).2
  exact ⟨(ba2 q).1, eqV2_ok (ba2 (ba2 q).2).1, (ba2 (ba2 (ba2 q).2).2).1, (ba2 (ba2 (ba2 q).2).2).2⟩
theorem MkF.cls {K : PySem.W.Frag} {c : Str} (h : MkF K c) : Cls K (He.ga K c) := h.pres.cls h.isx
/-- a method that stands in its class -/
def meB (K : PySem.W.Frag) (c m : Str) : Bool := eqV2 (PySem.W.findIn K (.ref (He.ga K c)) m) (some (some (.ref (He.ma K (He.ga K c) m)))) && (PySem.W.isFn K (.ref (He.ma K (He.ga K c) m)) && PySem.W.keepIn K (.ref (He.ma K (He.ga K c) m)))
theorem meB_ok {K : PySem.W.Frag} {c m : Str} (h : meB K c m = true) : Meth K (He.ga K c) m (He.ma K (He.ga K c) m) := ⟨eqV2_ok (ba2 h).1, (ba2 (ba2 h).2).1, (ba2 (ba2 h).2).2⟩
/-- a name of the module that is bound to an object -/
theorem bnd_mg {K : PySem.W.Frag} {h : Heap} {mg : Str → Option Value} (X : K.In h) (G : h.Ns mainGlobals mg) {C : Str} (b : bndB K C = true) : mg C = some (.ref (He.ga K C)) := PySem.W.mg_of X G (eqV2_ok b)
theorem rzF_mk {K : PySem.W.Frag} {mg : Str → Option Value} {c f qual : Str} {st : Stmt} (z : Rz1 K c f) (F : AtM K c "__init__" qual st []) (S : FnScope ["self", f] ["self", f] (defScope st)) {p1 p2 p3 p4 : Pos} (hb : defBody st = [.Assign [.Attribute (.Name "self" p1) f p2] (.Name f p3) p4])
    (hbd : HB0 "__init__" qual st ["self", f] 2 [] [0, 1]) (d1 : (f == ("__debug__" : Str)) = false) (d2 : (f == ("__classdict__" : Str)) = false) : RzF K mg c f :=
  ⟨z, fun P w base => initX F z S hb (fun kV doc pm an cdv ct us hl => by
    have q := hbd kV doc pm an cdv ct us [] hl rfl
    rw [List.append_nil] at q
    match us, hl with
    | [a, b], _ => exact q) d1 d2⟩
end DW
/-! DW28: targets of several names, chains, further built-ins. -/
namespace DW
open PySem L2 Evl QW
open PySem.Spec PyProof.Rows
local macro_rules | `(tactic| walk_at "perm") => `(tactic| (refine List.perm_iff_count.mpr fun _ => ?_; simp only [List.count_append, List.count_nil]; omega))
/-! ### targets -/
def bTs : List (D → Env → Option Env) → List D → Env → Option Env
  | [], [], E => some E
  | b :: bs, d :: ds, E => (b d E).bind (bTs bs ds)
  | _, _, _ => none
def bU (bs : List (D → Env → Option Env)) (d : D) (E : Env) : Option Env := match d with
  | .tup xs => bTs bs xs E
  | .lst false xs => bTs bs xs E
  | _ => none
structure TgsOk (X : Cx) (S : List Nat) (es : List Expr) (bs : List (D → Env → Option Env)) : Prop where
  ex : ∃ t, PGs X es t ∧ ∀ ds vs E E' σ B l fr H (Qs : L2.St → Hp → Prop), RepL X.K B ds vs [] → RelEnv X.K B E σ l → Cfg B (l ++ fr) H → bTs bs ds E = some E' → (∀ σ' l', RelEnv X.K B E' σ' l' → Par S σ σ' → Cfg B (l' ++ fr) H → Qs σ' H) → t vs σ H Qs
  len : bs.length = es.length
section
variable {X : Cx} {W : WX} {S : List Nat} {e e1 e2 e3 tg : Expr} {es : List Expr} {b : D → Env → Option Env} {bs : List (D → Env → Option Env)} {pos pos' : Pos} {F : Env → Out} {f : Env → R D} {rest : List Stmt}
theorem tgs_nil : TgsOk X S [] [] := ⟨⟨_, pgs_nil, fun ds vs E E' σ B l fr H Qs r re cf hb k => by
  cases ds with
  | nil => cases hb; exact ⟨r.1, k σ l re Par.refl cf⟩
  | cons _ _ => cases hb⟩, rfl⟩
theorem bTs_len : ∀ {bs : List (D → Env → Option Env)} {ds : List D} {E E' : Env}, bTs bs ds E = some E' → ds.length = bs.length
  | [], [], _, _, _ => rfl
  | [], _ :: _, _, _, h => by cases h
  | _ :: _, [], _, _, h => by cases h
  | b :: bs, d :: ds, E, E', h => by
    obtain ⟨E1, _, h2⟩ := Option.bind_eq_some_iff.mp h
    rw [List.length_cons, List.length_cons, bTs_len h2]
theorem tgs_cons (h : TgOk X S e b) (hs : TgsOk X S es bs) (hst : (assignEach (e :: es) X.env).map (·.2) = assign e X.env :: (assignEach es X.env).map (·.2) := by rfl) : TgsOk X S (e :: es) (b :: bs) := by
  obtain ⟨⟨t, pg, ht⟩, hl⟩ := hs
  refine ⟨⟨_, pgs_cons pG pg hst, fun ds vs E E' σ B l fr H Qs r re cf hb k => ?_⟩, by rw [List.length_cons, List.length_cons, hl]⟩
  cases ds with
  | nil => cases hb
  | cons d ds =>
    obtain ⟨v, vs', f1, f2, rfl, hf, r1, r2⟩ := r
    have hf := hf.symm
    rw [List.append_eq_nil_iff] at hf
    obtain ⟨rfl, rfl⟩ := hf
    obtain ⟨E1, hb1, hb2⟩ := Option.bind_eq_some_iff.mp hb
    exact ⟨v, vs', rfl, h.run d v E E1 σ B l fr H _ r1 re cf hb1 fun σ1 l1 re1 p1 cf1 => ht ds vs' E1 E' σ1 B l1 fr H Qs r2 re1 cf1 hb2 fun σ2 l2 re2 p2 cf2 => k σ2 l2 re2 (p1.trans p2) cf2⟩
theorem tg_U {kk : Nat} (hc : X.calm = true) (h : TgsOk X S es bs) (hn : (assignEach es X.env).length = bs.length := by rfl) (hst : (assignEach es X.env).findIdx? (·.1) = none := by rfl) : TgOk X S (.Tuple es kk pos) (bU bs) := ⟨fun d v E E' σ B l fr H Qs r re cf hb k => by
  obtain ⟨⟨t, pg, ht⟩, _⟩ := h
  unfold bU at hb
  split at hb
  · rename_i xs
    obtain ⟨p, vs, rfl, hp, rl⟩ := r
    exact wG_of (pg_tup hc pg hn hst) ⟨p, vs, rfl, SqT.of (cf.ex _ _ hp), by rw [← rl.len]; exact bTs_len hb, ht xs vs E E' σ B l fr H Qs rl re cf hb k⟩
  · rename_i xs
    obtain ⟨p, vs, rfl, h3⟩ := r
    rw [if_neg Bool.false_ne_true] at h3
    obtain ⟨hp, rl, _⟩ := h3
    exact wG_of (pg_unl hc pg hn hst) ⟨p, vs, rfl, SqL.of (cf.ex _ _ hp), by rw [← rl.len]; exact bTs_len hb, ht xs vs E E' σ B l fr H Qs rl re cf hb k⟩
  · cases hb⟩
def sAsgT (b : D → Env → Option Env) (f : Env → R D) (F : Env → Out) : Env → Out := fun E => onR (f E) fun d E1 => if noOwn d = true then (match b d E1 with
  | some E2 => F E2
  | none => .bad) else .bad
theorem exs_asgT (ht : TgOk X S tg b) (h : EvR X W e f) (hF : ExS X W S rest F) (hs : swapsWithSole [tg] e pos.line X.env = pure false := by rfl) (hw : swappedStores [tg] e X.env = pure none := by rfl) (h1 : (assignEach [tg] X.env).map (·.2) = [assign tg X.env] := by rfl) :
    ExS X W S (.Assign [tg] e pos :: rest) (sAsgT b f F) := ⟨fun E σ B l fr H N re cf af =>
  s_of (ps_asg pE pG hs hw h1) (h.run E σ B l fr H _ re cf (AfterS.expr (α := D) (β := V) af fun d E1 v B1 l1 fp H1 _ x1 re1 rv1 cf1 af1 => by
    try dsimp only at af1
    by_cases no : noOwn d = true
    · rw [if_pos no] at af1
      obtain rfl := rv1.none no
      cases hb : b d E1 with
      | none => rw [hb] at af1; exact af1.elim
      | some E2 =>
        rw [hb] at af1
        exact ht.run d v E1 E2 σ B1 l1 fr H1 _ rv1 re1 cf1 hb fun σ2 l2 re2 p2 cf2 => hF.run E2 σ2 B1 l2 fr H1 N re2 cf2 (AfterS.up (Ex.refl _) p2 af1)
    · rw [if_neg no] at af1; exact af1.elim))⟩
end
/-! ### <= of texts too -/
section
variable {X : Cx} {K : PySem.W.Frag}
def leXD : D → D → Option D
  | .int i, .int j => some (.bl (decide (i ≤ j)))
  | .str x, .str y => some (.bl (!decide (y.cps.toList < x.cps.toList)))
  | _, _ => none
def rLeX : R2 := fun x y H Q => rI0 (fun i j => .bl (decide (i ≤ j))) x y H Q ∨ (∃ i j, x = .str i ∧ y = .str j ∧ Q (.bl (!decide (j.cps.toList < i.cps.toList))) H)
theorem opr_leX : OpR X (compareOp .LtE) rLeX := op_le.or op_le_str
theorem op2_leX : Op2 K rLeX leXD := ⟨fun B H L v1 v2 f1 f2 d1 d2 r Q r1 r2 m1 m2 c hF k => by
  unfold leXD at hF
  split at hF
  · cases hF
    obtain ⟨rfl, _⟩ := r1
    obtain ⟨rfl, _⟩ := r2
    exact .inl ⟨_, _, rfl, rfl, k _ [] B H (Ex.refl _) ⟨rfl, rfl⟩ c⟩
  · cases hF
    obtain ⟨rfl, _⟩ := r1
    obtain ⟨rfl, _⟩ := r2
    exact .inr ⟨_, _, rfl, rfl, k _ [] B H (Ex.refl _) ⟨rfl, rfl⟩ c⟩
  · cases hF⟩
end
/-! ### a < b < c -/
def chainR (F1 F2 : D → D → Option D) (g1 g2 g3 : Env → R Opd) : Env → R D := fun E => (g1 E).bind fun o1 E1 => (g2 E1).bind fun o2 E2 => match o1.val E2, o2.val E2 with
  | some d1, some d2 => (match F1 d1 d2 with
    | some (.bl true) => (g3 E2).bind fun o3 E3 => (match o2.val E3, o3.val E3 with
      | some d2', some d3 => (match F2 d2' d3 with
        | some r => .ok r E3
        | none => .bad)
      | _, _ => .bad)
    | some (.bl false) => .ok (.bl false) E2
    | _ => .bad)
  | _, _ => .bad
section
variable {X : Cx} {W : WX} {e1 e2 e3 : Expr} {g1 g2 g3 : Env → R Opd} {pos : Pos} {F1 F2 : D → D → Option D} {rop1 rop2 : R2}
theorem chain3 (hs1 : Op2 X.K rop1 F1) (hs2 : Op2 X.K rop2 F2) (h1 : EvO X W e1 g1) (h2 : EvO X W e2 g2) (h3 : EvO X W e3 g3) {E : Env} {σ : L2.St} {B : Hp} {l fr : List Ob} {H : Hp} {Q : VK} (re : RelEnv X.K B E σ l) (cf : Cfg B (l ++ fr) H) (af : After X.K σ fr B W (Rep X.K) (chainR F1 F2 g1 g2 g3 E) Q) :
    tChain rop1 rop2 (wE X e1) (wE X e2) (wE X e3) σ H Q :=
  h1.run E σ B l fr H _ re cf (After.first (γ := Opd) (δ := V) af fun o1 E1 v1 B1 l1 fp1 H1 _ x1 re1 rv1 cf1 af1 =>
    h2.run E1 σ B1 l1 (fp1 ++ fr) H1 _ re1 (Cfg.perm cf1 (by walk_at "perm")) (After.next (γ := Opd) (δ := V) af1 fun o2 E2 v2 B2 l2 fp2 H2 _ x2 re2 rv2 cf2 af2 => by
      try dsimp only at af2
      cases hv1 : o1.val E2 with
      | none => rw [hv1] at af2; exact af2.elim
      | some d1 =>
        cases hv2 : o2.val E2 with
        | none => rw [hv1, hv2] at af2; exact af2.elim
        | some d2 =>
          rw [hv1, hv2] at af2
          dsimp only at af2
          have rv1' := rv1.mono x2
          obtain ⟨f1, r1, m1⟩ := rv1'.get re2 hv1
          obtain ⟨f2, r2, m2⟩ := rv2.get re2 hv2
          have mm1 : ∀ ob, ob ∈ f1 → ob ∈ fp2 ++ (l2 ++ (fp1 ++ fr)) := fun ob hm => by
            have := m1 ob hm
            simp only [List.mem_append] at this ⊢
            rcases this with h | h
            · exact .inr (.inr (.inl h))
            · exact .inr (.inl h)
          have mm2 : ∀ ob, ob ∈ f2 → ob ∈ fp2 ++ (l2 ++ (fp1 ++ fr)) := fun ob hm => by
            have := m2 ob hm
            simp only [List.mem_append] at this ⊢
            rcases this with h | h
            · exact .inl h
            · exact .inr (.inl h)
          cases hF : F1 d1 d2 with
          | none => rw [hF] at af2; exact af2.elim
          | some r =>
            rw [hF] at af2
            refine hs1.run B2 H2 _ v1 v2 f1 f2 d1 d2 r _ r1 r2 mm1 mm2 cf2 hF fun v fp B3 H3 x3 rv3 cf3 => ?_
            cases r with
            | bl b =>
              obtain ⟨rfl, rfl⟩ := rv3
              refine ⟨b, rfl, ?_⟩
              cases b with
              | false =>
                rw [if_neg Bool.false_ne_true]
                exact (After.up x3 af2) _ B3 l2 [] H3 (Ex.refl _) (re2.mono x3) ⟨rfl, rfl⟩ (Cfg.dropL (a := fp2 ++ fp1) (Cfg.perm cf3 (by walk_at "perm")))
              | true =>
                rw [if_pos rfl]
                have af3 := After.up x3 af2
                refine h3.run E2 σ B3 l2 (fp2 ++ fr) H3 _ (re2.mono x3) (Cfg.dropL (a := fp1) (Cfg.perm cf3 (by walk_at "perm"))) (After.next (γ := Opd) (δ := V) af3 fun o3 E3 v3 B4 l4 fp4 H4 _ x4 re4 rv4 cf4 af4 => ?_)
                try dsimp only at af4
                cases hv2' : o2.val E3 with
                | none => rw [hv2'] at af4; exact af4.elim
                | some d2' =>
                  cases hv3 : o3.val E3 with
                  | none => rw [hv2', hv3] at af4; exact af4.elim
                  | some d3 =>
                    rw [hv2', hv3] at af4
                    dsimp only at af4
                    obtain ⟨f2', r2', m2'⟩ := ((rv2.mono x3).mono x4).get re4 hv2'
                    obtain ⟨f3, r3, m3⟩ := rv4.get re4 hv3
                    have q2 : ∀ ob, ob ∈ f2' → ob ∈ fp4 ++ (l4 ++ (fp2 ++ fr)) := fun ob hm => by
                      have := m2' ob hm
                      simp only [List.mem_append] at this ⊢
                      rcases this with h | h
                      · exact .inr (.inr (.inl h))
                      · exact .inr (.inl h)
                    have q3 : ∀ ob, ob ∈ f3 → ob ∈ fp4 ++ (l4 ++ (fp2 ++ fr)) := fun ob hm => by
                      have := m3 ob hm
                      simp only [List.mem_append] at this ⊢
                      rcases this with h | h
                      · exact .inl h
                      · exact .inr (.inl h)
                    cases hG : F2 d2' d3 with
                    | none => rw [hG] at af4; exact af4.elim
                    | some r =>
                      rw [hG] at af4
                      exact hs2.run B4 H4 _ v2 v3 f2' f3 d2' d3 r _ r2' r3 q2 q3 cf4 hG fun v fp B5 H5 x5 rv5 cf5 => (After.up x5 af4) v B5 l4 fp H5 (Ex.refl _) (re4.mono x5) rv5 (Cfg.dropL (a := fp4 ++ fp2) (Cfg.perm cf5 (by walk_at "perm")))
            | _ => exact af2.elim))
theorem evr_chain {op1 op2 : CmpOp} (ho1 : OpR X (compareOp op1) rop1) (hs1 : Op2 X.K rop1 F1) (ho2 : OpR X (compareOp op2) rop2) (hs2 : Op2 X.K rop2 F2) (h1 : EvO X W e1 g1) (h2 : EvO X W e2 g2) (h3 : EvO X W e3 g3) (hm : lastMarks [op1, op2] [e2, e3] = false := by with_unfolding_all rfl) :
    EvR X W (.Compare e1 [op1, op2] [e2, e3] pos) (chainR F1 F2 g1 g2 g3) := ⟨fun E σ B l fr H Q re cf af => wE_of (pe_chain ho1 ho2 pE pE pE hm) (chain3 hs1 hs2 h1 h2 h3 re cf af)⟩
theorem evt_chain {op1 op2 : CmpOp} (ho1 : OpR X (compareOp op1) rop1) (hs1 : Op2 X.K rop1 F1) (ho2 : OpR X (compareOp op2) rop2) (hs2 : Op2 X.K rop2 F2) (h1 : EvO X W e1 g1) (h2 : EvO X W e2 g2) (h3 : EvO X W e3 g3) (hm : lastMarks [op1, op2] [e2, e3] = false := by with_unfolding_all rfl) :
    EvT X W (.Compare e1 [op1, op2] [e2, e3] pos) (tV (chainR F1 F2 g1 g2 g3)) := ⟨fun E σ B l fr H Q re cf af => wT_of (pt_chain ho1 ho2 pE pE pE hm) (chain3 hs1 hs2 h1 h2 h3 re cf (tv_after af))⟩
end
end DW
/-! DW29: all, any, dict of pairs, methods of lists and texts. -/
namespace DW
open PySem L2 Evl QW
open PySem.Spec PyProof.Rows
local macro_rules | `(tactic| walk_at "perm") => `(tactic| (refine List.perm_iff_count.mpr fun _ => ?_; simp only [List.count_append, List.count_nil]; omega))
def boolsD : List D → Option (List Bool)
  | [] => some []
  | .bl b :: ds => (boolsD ds).map (b :: ·)
  | _ => none
section
variable {K : PySem.W.Frag} {X : Cx}
theorem boolsD_map : ∀ bs : List Bool, boolsD (bs.map .bl) = some bs
  | [] => rfl
  | b :: bs => by show (boolsD (bs.map .bl)).map (b :: ·) = _; rw [boolsD_map bs]; rfl
theorem boolsD_eq : ∀ {ds : List D} {bs : List Bool}, boolsD ds = some bs → ds = bs.map .bl
  | [], bs, h => by cases h; rfl
  | d :: ds, bs, h => by
    cases d with
    | bl b =>
      obtain ⟨bs', h1, rfl⟩ := Option.map_eq_some_iff.mp (show (boolsD ds).map (b :: ·) = some bs from h)
      rw [boolsD_eq h1]; rfl
    | _ => cases h
theorem RepL.bools {B : Hp} : ∀ {bs : List Bool} {vs : List V} {f : List Ob}, RepL K B (bs.map .bl) vs f → vs = bs.map V.bl
  | [], _, _, h => h.1
  | b :: bs, vs, f, h => by
    obtain ⟨v, vs', f1, f2, rfl, _, h3, h4⟩ := h
    rw [RepL.bools h4, h3.1]; rfl
def seqBools : D → Option (List Bool)
  | .lst _ xs => boolsD xs
  | _ => none
theorem seqBools_ok {B H : Hp} {L f : List Ob} {v : V} {d : D} {bs : List Bool} (e : seqBools d = some bs) (h : Rep K B d v f) (c : Cfg B L H) (m : ∀ ob, ob ∈ f → ob ∈ L) : ∃ p, v = .ref p ∧ SqL K H p (bs.map V.bl) := by
  unfold seqBools at e
  split at e
  · obtain ⟨p, vs, g, rfl, h1, h2, _⟩ := h.isL c m
    have e2 := boolsD_eq e
    subst e2
    exact ⟨p, rfl, SqL.of (by rw [h1, h2.bools])⟩
  · cases e
def allD (d : D) : Option D := (seqBools d).map fun bs => .bl (bs.all id)
def anyD (d : D) : Option D := (seqBools d).map fun bs => .bl (bs.any id)
theorem op1_all : Op1 K (fun v H Q => rAll K [v] H Q) allD := ⟨fun B H L v1 f1 d1 r Q r1 m1 c hF k => by
  unfold allD at hF
  simp only [Option.map_eq_some_iff] at hF
  obtain ⟨bs, e, rfl⟩ := hF
  obtain ⟨p, rfl, hp⟩ := seqBools_ok e r1 c m1
  exact ⟨p, bs, rfl, hp, k _ [] B H (Ex.refl _) ⟨rfl, rfl⟩ c⟩⟩
theorem op1_any : Op1 K (fun v H Q => rAny K [v] H Q) anyD := ⟨fun B H L v1 f1 d1 r Q r1 m1 c hF k => by
  unfold anyD at hF
  simp only [Option.map_eq_some_iff] at hF
  obtain ⟨bs, e, rfl⟩ := hF
  obtain ⟨p, rfl, hp⟩ := seqBools_ok e r1 c m1
  exact ⟨p, bs, rfl, hp, k _ [] B H (Ex.refl _) ⟨rfl, rfl⟩ c⟩⟩
/-! ### dict([(k, v), ..]) -/
theorem paired_imp {α β : Type} {R S : α → β → Prop} (h : ∀ a b, R a b → S a b) : ∀ {xs : List α} {ys : List β}, Paired R xs ys → Paired S xs ys
  | _, _, .nil => .nil
  | _, _, .cons r t => .cons (h _ _ r) (paired_imp h t)
def pairsD : List D → Option (List Key × List D)
  | [] => some ([], [])
  | .tup [a, b] :: ds => match keyD a, pairsD ds with
    | some k, some r => if noOwn b = true then some (k :: r.1, b :: r.2) else none
    | _, _ => none
  | _ => none
theorem pairs_rep {B : Hp} : ∀ {xs : List D} {ks : List Key} {ds : List D} {vs : List V} {g : List Ob}, pairsD xs = some (ks, ds) → RepL K B xs vs g → ∃ (ps : List Addr) (us : List V), vs = ps.map V.ref ∧ Paired (fun p (kv : Key × V) => B p = some (.tup [kV kv.1, kv.2])) ps (ks.zip us) ∧ RepL K B ds us [] ∧ ks.length = us.length
  | [], ks, ds, vs, g, e, h => by
    cases e
    obtain ⟨rfl, _⟩ := h
    exact ⟨[], [], rfl, .nil, ⟨rfl, rfl⟩, rfl⟩
  | x :: xs, ks, ds, vs, g, e, h => by
    unfold pairsD at e
    split at e
    · rename_i heq
      cases heq
    · rename_i a b ds' heq
      injection heq with e1 e2
      subst e1 e2
      split at e
      · rename_i k r hk hr
        split at e
        · rename_i no
          cases e
          obtain ⟨v, vs', f1, f2, rfl, _, h3, h4⟩ := h
          obtain ⟨p, ws, rfl, hp, rl⟩ := h3
          obtain ⟨w1, ws1, g1, g2, rfl, _, ra, rl2⟩ := rl
          obtain ⟨w2, ws2, g3, g4, rfl, _, rb, rl3⟩ := rl2
          obtain ⟨rfl, _⟩ := rl3
          have e1 := keyD_rep hk ra
          subst e1
          have e2 := rb.none no
          subst e2
          obtain ⟨ps, us, rfl, hp2, rl4, hl⟩ := pairs_rep (ks := r.1) (ds := r.2) hr h4
          exact ⟨p :: ps, w2 :: us, rfl, .cons hp hp2, ⟨w2, us, [], [], rfl, rfl, rb, rl4⟩, by simpa using hl⟩
        · cases e
      · cases e
    · cases e
def dmrg : List Key → List D → List Key → List D → List Key × List D
  | ks, ds, k :: ks', d :: ds' => dmrg (dputK ks k) (dputV ks ds k d) ks' ds'
  | ks, ds, _, _ => (ks, ds)
theorem dmrg_rep {B : Hp} : ∀ {ks' : List Key} {ds' : List D} {us' : List V} {ks : List Key} {ds : List D} {us : List V}, RepL K B ds us [] → ks.length = us.length → RepL K B ds' us' [] → ks'.length = us'.length →
    ∃ ws, mergeK (ks.zip us) (ks'.zip us') = (dmrg ks ds ks' ds').1.zip ws ∧ (dmrg ks ds ks' ds').1.length = ws.length ∧ RepL K B (dmrg ks ds ks' ds').2 ws []
  | [], ds', us', ks, ds, us, h, hl, h', hl' => by
    cases us' with
    | nil => exact ⟨us, by unfold dmrg; rfl, by unfold dmrg; exact hl, by unfold dmrg; exact h⟩
    | cons _ _ => cases hl'
  | k :: ks', [], us', ks, ds, us, h, hl, h', hl' => by obtain ⟨rfl, _⟩ := h'; cases hl'
  | k :: ks', d :: ds', us', ks, ds, us, h, hl, h', hl' => by
    obtain ⟨v, vs', f1, f2, rfl, hf, h3, h4⟩ := h'
    have hf := hf.symm
    rw [List.append_eq_nil_iff] at hf
    obtain ⟨rfl, rfl⟩ := hf
    obtain ⟨us2, g, q, e1, e2, e3, e4⟩ := dput_rep (k := k) h3 h hl
    have hg : g = [] := (List.append_eq_nil_iff.mp (List.perm_nil.mp e4)).1
    subst hg
    have := dmrg_rep e3 e2 h4 (by simpa using hl')
    unfold dmrg
    show ∃ ws, mergeK (putK (ks.zip us) k v) (ks'.zip vs') = _ ∧ _
    rw [e1]
    exact this
def dictPD : D → Option D
  | .lst _ xs => match pairsD xs with
    | some (ks, ds) => some (.dct true (dmrg [] [] ks ds).1 (dmrg [] [] ks ds).2)
    | none => none
  | _ => none
theorem op1_dictP : Op1 K (fun v H Q => ∃ (a : Addr) (ps : List Addr) (kvs : List (Key × V)), [v] = [V.ref a] ∧ SqL K H a (ps.map V.ref) ∧ Paired (fun p kv => SqT K H p [kV kv.1, kv.2]) ps kvs ∧ ∀ p, H p = none → Q (.ref p) (upd H p (.dK (mergeK [] kvs)))) dictPD := ⟨fun B H L v1 f1 d1 r Q r1 m1 c hF k => by
  unfold dictPD at hF
  split at hF
  · rename_i o xs
    split at hF
    · rename_i ks ds e
      cases hF
      obtain ⟨p, vs, g, rfl, h1, h2, _⟩ := r1.isL c m1
      obtain ⟨ps, us, rfl, hp, rl, hl⟩ := pairs_rep e h2
      obtain ⟨ws, e1, e2, e3⟩ := dmrg_rep (K := K) (B := B) (ks := []) (ds := []) (us := []) ⟨rfl, rfl⟩ rfl rl hl
      refine ⟨p, ps, ks.zip us, rfl, SqL.of h1, paired_imp (fun _ _ q => SqT.of (c.ex _ _ q)) hp, fun a ha => ?_⟩
      have e1 : mergeK [] (ks.zip us) = _ := e1
      rw [e1]
      exact k (.ref a) ([(a, .dK ((dmrg [] [] ks ds).1.zip ws))]) B _ (Ex.refl _) ⟨a, ws, rfl, e2, by rw [if_pos rfl]; exact ⟨[], by simp, e3⟩⟩ (Cfg.new' c ha)
    · cases hF
  · cases hF⟩
end
end DW
/-! DW30: methods of lists, of texts. -/
namespace DW
open PySem L2 Evl QW
open PySem.Spec PyProof.Rows
local macro_rules | `(tactic| walk_at "perm") => `(tactic| (refine List.perm_iff_count.mpr fun _ => ?_; simp only [List.count_append, List.count_nil]; omega))
def m1L (F : D → D → Option D) (g1 g2 : Env → R Opd) : Env → R D := fun E => (g1 E).bind fun o1 E1 => match o1.val E1 with
  | some (.lst _ _) => (g2 E1).bind fun o2 E2 => match o1.val E2, o2.val E2 with
    | some d1, some d2 => match F d1 d2 with
      | some r => .ok r E2
      | none => .bad
    | _, _ => .bad
  | _ => .bad
section
variable {X : Cx} {W : WX} {e1 e2 : Expr} {g1 g2 : Env → R Opd} {ap pos : Pos} {K : PySem.W.Frag}
theorem evr_m1L {nm : Str} {id : String} {r : V → List V → Hp → VK → Prop} {F : D → D → Option D} (slot : PySem.Slot "list" nm id) (hty : typeOf (.builtin id) = pure (.type "method_descriptor")) (hm : MtR X id r) (ho : Op2 X.K (fun v u H Q => r v [u] H Q) F) (h1 : EvO X W e1 g1) (h2 : EvO X W e2 g2)
    (hbase : attributeBase e1 nm X.env (eval e1 X.env) = eval e1 X.env := by rfl)
    (hfew : ((backTo pos (starEach (e2 :: []) X.env)).all (fun x => !x.1) && (backToKw pos (keywordEach [] X.env)).all (fun x => x.1.isSome)
      && decide ((e2 :: []).length + ([] : List Keyword).length + (if ([] : List Keyword).isEmpty then 0 else 1) < 30)) = true := by rfl)
    (hline : (ap.endLine == pos.line) = true := by rfl) (hs : starEach (e2 :: []) X.env = (false, eval e2 X.env) :: starEach [] X.env := by rfl) (hplain : (backTo pos (starEach [] X.env)).any (·.1) = false := by rfl) :
    EvR X W (.Call (.Attribute e1 nm ap) [e2] [] pos) (m1L F g1 g2) := ⟨fun E σ B l fr H Q re cf af =>
  w_bm PySem.F.plainAttrs_list slot hty hm (h1.run E σ B l fr H _ re cf (After.first (β := V) (δ := V) af fun o1 E1 v1 B1 l1 fp1 H1 _ x1 re1 rv1 cf1 af1 => by
    split at af1
    · rename_i o xs hv1
      obtain ⟨f1, r1, m1⟩ := rv1.get re1 hv1
      have mm1 : ∀ ob, ob ∈ f1 → ob ∈ fp1 ++ (l1 ++ fr) := fun ob hm => by
        have := m1 ob hm
        simp only [List.mem_append] at this ⊢
        rcases this with h | h
        · exact .inl h
        · exact .inr (.inl h)
      obtain ⟨p, vs, gg, rfl, hp, _⟩ := r1.isL cf1 mm1
      refine ⟨.inl ⟨rfl, vs, SqL.of hp⟩, w_acons (h2.run E1 σ B1 l1 (fp1 ++ fr) H1 _ re1 (Cfg.perm cf1 (by walk_at "perm")) (After.next (β := V) (δ := V) af1 fun o2 E2 v2 B2 l2 fp2 H2 _ x2 re2 rv2 cf2 af2 => w_anil ?_)) hs⟩
      split at af2
      · rename_i d1 d2 hv1' hv2
        obtain ⟨f1', r1', m1'⟩ := (rv1.mono x2).get re2 hv1'
        obtain ⟨f2, r2, m2⟩ := rv2.get re2 hv2
        split at af2
        · rename_i rr hF
          refine ho.run B2 H2 (fp2 ++ (l2 ++ (fp1 ++ fr))) (.ref p) v2 f1' f2 d1 d2 rr Q r1' r2 (fun ob m => ?_) (fun ob m => ?_) cf2 hF fun v fp B3 H3 x3 r3 cf3 => af2 v (B3) l2 fp H3 x3 (re2.mono x3) r3 (Cfg.dropL (a := fp2 ++ fp1) (Cfg.perm cf3 (by walk_at "perm")))
          · have := m1' ob m
            simp only [List.mem_append] at this ⊢
            rcases this with h | h
            · exact .inr (.inr (.inl h))
            · exact .inr (.inl h)
          · have := m2 ob m
            simp only [List.mem_append] at this ⊢
            rcases this with h | h
            · exact .inl h
            · exact .inr (.inl h)
        · exact af2.elim
      · exact af2.elim
    · exact af1.elim)) hbase hfew hline hs hplain⟩
/-! list.index of data -/
def firstIx (d : D) : List D → Option Nat
  | [] => none
  | x :: xs => if eqB x d = true then some 0 else (firstIx d xs).map (· + 1)
theorem firstIx_ok {d : D} : ∀ {xs : List D} {j : Nat}, firstIx d xs = some j → (∃ z, xs[j]? = some z ∧ eqB z d = true) ∧ ∀ (m : Nat) (z : D), m < j → xs[m]? = some z → eqB z d = false
  | [], _, h => by cases h
  | x :: xs, j, h => by
    unfold firstIx at h
    split at h
    · rename_i e
      cases h
      exact ⟨⟨x, rfl, e⟩, fun m z hm => absurd hm (Nat.not_lt_zero _)⟩
    · rename_i e
      obtain ⟨i, h1, rfl⟩ := Option.map_eq_some_iff.mp h
      obtain ⟨⟨z, h2, h3⟩, h4⟩ := firstIx_ok h1
      refine ⟨⟨z, by simpa using h2, h3⟩, fun m z' hm hz => ?_⟩
      cases m with
      | zero =>
        have hz : x = z' := by simpa using hz
        subst hz
        exact Bool.eq_false_iff.mpr e
      | succ m => exact h4 m z' (by omega) (by simpa using hz)
def lindexD : D → D → Option D
  | .lst o xs, d => if (dd 8 (.lst o xs) && dd 7 d) = true then (firstIx d xs).map fun j => .int (j : Nat) else none
  | _, _ => none
theorem toPL_map : ∀ ds : List D, toPL ds = ds.map toP
  | [] => rfl
  | d :: ds => by show toP d :: toPL ds = _; rw [toPL_map ds]; rfl
theorem dd_up {n m : Nat} (h : n ≤ m) : ∀ {d : D}, dd n d = true → dd m d = true := by
  intro d
  induction n generalizing m d with
  | zero =>
    intro hd
    cases d <;> first | (cases m <;> exact hd) | (cases m <;> first | exact hd | cases hd)
  | succ n ih =>
    intro hd
    obtain ⟨m, rfl⟩ : ∃ m', m = m' + 1 := ⟨m - 1, by omega⟩
    cases d with
    | lst o xs => exact List.all_eq_true.mpr fun x hx => ih (by omega) (List.all_eq_true.mp hd x hx)
    | tup xs => exact List.all_eq_true.mpr fun x hx => ih (by omega) (List.all_eq_true.mp hd x hx)
    | _ => exact hd
theorem op2_lindex (hu : X.A.units + 65 < cLine) : Op2 X.K (fun v u H Q => rIndexD X.K v [u] H Q) lindexD := ⟨fun B H L v1 v2 f1 f2 d1 d2 r Q r1 r2 m1 m2 c hF k => by
  unfold lindexD at hF
  split at hF
  · rename_i o xs
    split at hF
    · rename_i hd
      obtain ⟨hd1, hd2⟩ := ba2 hd
      have hd2' := dd_up (by decide : 7 ≤ 8) hd2
      obtain ⟨j, hj, rfl⟩ := Option.map_eq_some_iff.mp hF
      obtain ⟨⟨z, hz, hzd⟩, hno⟩ := firstIx_ok hj
      have q1 := dp_of (.lst o xs) 8 v1 [] hd1 (r1.view c m1)
      have q2 := dp_of d2 8 v2 [] hd2' (r2.view c m2)
      obtain ⟨m, hm, hall⟩ := dd_lst hd1
      have hm : m = 7 := by omega
      subst hm
      obtain ⟨p, vs, rfl, _⟩ := r1
      refine ⟨p, v2, toP d2, toPL xs, j, toP z, rfl, rfl, q1, q2, shaped_of hd1, shaped_of hd2', by rw [toPL_map, List.getElem?_map, hz]; rfl, ?_, fun mm z' hmm hz' => ?_, k _ [] B H (Ex.refl _) ⟨rfl, rfl⟩ c⟩
      · rw [eqv_toP z d2 7 7 (hall z (List.mem_of_getElem? hz)) hd2]; exact hzd
      · rw [toPL_map, List.getElem?_map] at hz'
        cases hx : xs[mm]? with
        | none => rw [hx] at hz'; cases hz'
        | some x =>
          rw [hx] at hz'
          have hz' : toP x = z' := by simpa using hz'
          subst hz'
          rw [eqv_toP x d2 7 7 (hall x (List.mem_of_getElem? hx)) hd2]
          exact hno mm x hmm hx
    · cases hF
  · cases hF⟩
/-! list.count of truths, of numbers -/
def eqkB (k : Bool) : Value → Bool
  | .bool b => b == k
  | _ => false
def rCntB (K : PySem.W.Frag) : V → List V → Hp → VK → Prop := fun x xs H Q => ∃ (p : Addr) (bs : List Bool) (k : Bool), x = .ref p ∧ xs = [.bl k] ∧ SqL K H p (bs.map V.bl) ∧ Q (.int (bs.count k : Nat)) H
theorem bvals : ∀ {bs : List Bool} {its : List Value}, Vals (bs.map V.bl) its → its = bs.map Value.bool
  | [], _, .nil => rfl
  | b :: bs, _, .cons r t => by
    rw [bvals t]
    have r : _ = Value.bool b := r
    rw [r]; rfl
theorem bcount (k : Bool) : ∀ bs : List Bool, (bs.map Value.bool).countP (eqkB k) = bs.count k
  | [] => rfl
  | b :: bs => by
    rw [List.map_cons, List.countP_cons, List.count_cons, bcount k bs]
    rfl
theorem mt_lcountB : MtR X "list.count" (rCntB X.K) := by
  intro pins s σ H x xs v us Q I rx rxs h
  obtain ⟨p, bs, k, rfl, rfl, hs, q⟩ := h
  obtain rfl : v = Value.ref p := rx
  obtain ⟨u, rfl, ru⟩ := rxs.one
  obtain rfl : u = Value.bool k := ru
  obtain ⟨its, rv, pl, hlen⟩ := I.list hs
  obtain ⟨⟨cls, dd0, data, sl⟩, n, ho, hc, hdn, hd⟩ := pl
  dsimp only at hc hd
  subst hc hd
  have e := bvals rv
  subst e
  refine call_meets PySem.F.slot_list_count ⟨_, ho, rfl⟩ PySem.F.entry_list_count (PySem.F.args_list_count_2 _ _) (SeqAt.list_countAt p (bs.map Value.bool).toArray n dd0 sl (.bool k) (eqkB k)) ⟨ho, fun y hy => ?_, ?_⟩
  · have hy : y ∈ bs.map Value.bool := by simpa using hy
    obtain ⟨b, _, rfl⟩ := List.mem_map.mp hy
    exact eqAt_V (y := .bl b) (x := .bl k) rfl rfl rfl rfl
  · refine ⟨.int (bs.count k : Nat), H, I.tok _, ⟨s.toks, ?_⟩, q⟩
    rw [List.toList_toArray, bcount]
def rCntX (K : PySem.W.Frag) : V → List V → Hp → VK → Prop := fun x xs H Q => rCntB K x xs H Q ∨ rCntI K x xs H Q
theorem mt_lcountX : MtR X "list.count" (rCntX X.K) := fun pins s σ H x xs v us Q I rx rxs h => h.elim (fun h => mt_lcountB pins s σ H x xs v us Q I rx rxs h) fun h => mt_lcount pins s σ H x xs v us Q I rx rxs h
def lcountD : D → D → Option D
  | .lst _ xs, .bl k => (boolsD xs).map fun bs => .int (bs.count k : Nat)
  | .lst _ xs, .int k => (intsD xs).map fun ns => .int (ns.count k : Nat)
  | _, _ => none
theorem op2_lcount : Op2 K (fun v u H Q => rCntX K v [u] H Q) lcountD := ⟨fun B H L v1 v2 f1 f2 d1 d2 r Q r1 r2 m1 m2 c hF k => by
  unfold lcountD at hF
  split at hF
  · rename_i o xs b
    obtain ⟨bs, e, rfl⟩ := Option.map_eq_some_iff.mp hF
    obtain ⟨p, vs, g, rfl, h1, h2, _⟩ := r1.isL c m1
    have e2 := boolsD_eq e
    subst e2
    obtain ⟨rfl, _⟩ := r2
    exact .inl ⟨p, bs, b, rfl, rfl, SqL.of (by rw [h1, h2.bools]), k _ [] B H (Ex.refl _) ⟨rfl, rfl⟩ c⟩
  · rename_i o xs b
    obtain ⟨ns, e, rfl⟩ := Option.map_eq_some_iff.mp hF
    obtain ⟨p, vs, g, rfl, h1, h2, _⟩ := r1.isL c m1
    have e2 := intsD_eq e
    subst e2
    obtain ⟨rfl, _⟩ := r2
    exact .inr ⟨p, ns, b, rfl, rfl, SqL.of (by rw [h1, h2.ints]), k _ [] B H (Ex.refl _) ⟨rfl, rfl⟩ c⟩
  · cases hF⟩
/-! methods of texts -/
def splitD : D → D → Option D
  | .str a, .str b => if (decide (b.length ≠ 0) && decide (a.length + 2 ≤ 100000)) = true then some (.lst true ((Txt.split a b).map .str)) else none
  | _, _ => none
def startsD : D → D → Option D
  | .str a, .str b => some (.bl (Txt.startswith a b))
  | _, _ => none
def scountD : D → D → Option D
  | .str a, .str b => some (.int (Txt.count a b))
  | _, _ => none
theorem op2_split : Op2 K (fun v u H Q => ∃ a b, v = .str a ∧ [u] = [V.str b] ∧ (b.length == 0) = false ∧ a.length + 2 ≤ sizeLine ∧ rNewStrs (Txt.split a b) H Q) splitD := ⟨fun B H L v1 v2 f1 f2 d1 d2 r Q r1 r2 m1 m2 c hF k => by
  unfold splitD at hF
  split at hF
  · rename_i a b
    split at hF
    · rename_i hc
      cases hF
      obtain ⟨h1, h2⟩ := ba2 hc
      have h1 := of_decide_eq_true h1
      have h2 := of_decide_eq_true h2
      obtain ⟨rfl, _⟩ := r1
      obtain ⟨rfl, _⟩ := r2
      refine ⟨a, b, rfl, rfl, by simpa using h1, s2z h2, fun p hp => ?_⟩
      exact k (.ref p) [(p, .lst ((Txt.split a b).map V.str))] B _ (Ex.refl _) ⟨p, _, rfl, by rw [if_pos rfl]; exact ⟨[], by simp, repL_strs _⟩⟩ (Cfg.new' c hp)
    · cases hF
  · cases hF⟩
theorem op2_starts : Op2 K (fun v u H Q => ∃ a b, v = .str a ∧ [u] = [V.str b] ∧ Q (.bl (Txt.startswith a b)) H) startsD := ⟨fun B H L v1 v2 f1 f2 d1 d2 r Q r1 r2 m1 m2 c hF k => by
  unfold startsD at hF
  split at hF
  · cases hF
    obtain ⟨rfl, _⟩ := r1
    obtain ⟨rfl, _⟩ := r2
    exact ⟨_, _, rfl, rfl, k _ [] B H (Ex.refl _) ⟨rfl, rfl⟩ c⟩
  · cases hF⟩
theorem op2_scount : Op2 K (fun v u H Q => ∃ a b, v = .str a ∧ [u] = [V.str b] ∧ Q (.int (Txt.count a b)) H) scountD := ⟨fun B H L v1 v2 f1 f2 d1 d2 r Q r1 r2 m1 m2 c hF k => by
  unfold scountD at hF
  split at hF
  · cases hF
    obtain ⟨rfl, _⟩ := r1
    obtain ⟨rfl, _⟩ := r2
    exact ⟨_, _, rfl, rfl, k _ [] B H (Ex.refl _) ⟨rfl, rfl⟩ c⟩
  · cases hF⟩
end
end DW
/-! DW31: bool, str of an instance where the room is greater. -/
namespace DW
open PySem L2 Evl QW
open PySem.Spec PyProof.Rows
variable {X : Cx} {W : WX} {k j : Nat} {c x : Str} {f : Fn} {PV : V → Hp → VK → Prop} {P : D → Option D} {e : Expr} {g : Env → R Opd} {p' pos : Pos}
theorem evr_ownT3 {T : String} {m : Str} {Pr : World → PySem.W.Frag → (Str → Option Value) → Prop} (cx : Cxt Pr X k) (C : CalM X.prog X.w X.K X.mg X.base j c m 0 [] [0] [] (spD 1 f X.K)) (hj : j + 3 ≤ k) (cr : CalM X.prog X.w X.K X.mg X.base j c m 0 [] [0] [] (spD 1 f X.K) → Room (j + 3) X.A → CallR X (.type T) (rOwn X.K c (spD 1 f X.K) PV)) (hP : OwnP X.K PV P)
    (hg : Gl X x) (hm : X.mg x = none) (hv : bootBuiltins x = some (.type T)) (h : EvO X W e g) (hn : x ≠ "__name__" := by decide +kernel) (hdb : (x == ("__debug__" : Str)) = false := by decide +kernel)
    (he : starEach [e] X.env = (false, eval e X.env) :: starEach [] X.env := by rfl) (hpl : (backTo pos (starEach [] X.env)).any (·.1) = false := by rfl) : EvR X W (.Call (.Name x p') [e] [] pos) (ownR c f P g) := ⟨fun E σ B l fr H Q re cf af =>
  w_callTy (cr C (cx.room.mono hj)) hg hm hv (w_acons (wE_mono (own_one hP h re cf af) fun v H1 q => w_anil (Q := fun r H => rOwn X.K c (spD 1 f X.K) PV (v :: r) H Q) q) he) hn hdb he hpl⟩
theorem sw_b {N : List Str} {sc : Scope} {kb : Nat} {v : Expr} {y : Str} {py : Pos} {l : Nat} (b : Bd X N sc kb) (h : swapsWith v (some (.Name y py)) l {X.env with scope := sc} = pure true) : swapsWith v (some (.Name y py)) l X.env = pure true :=
  (congrArg (swapsWith v (some (.Name y py)) l) (show X.env = {X.env with scope := sc} by rw [← b.sc])).trans h
/-! ### one of the values written down: [a, b][i], as what is handed on -/
local macro_rules | `(tactic| walk_at "perm") => `(tactic| (refine List.perm_iff_count.mpr fun _ => ?_; simp only [List.count_append, List.count_nil]; omega))
theorem OpsRep.at {K : PySem.W.Frag} {σ : L2.St} {B : Hp} : ∀ {os : List Opd} {vs : List V} {fp : List Ob} {j : Nat} {o : Opd}, OpsRep K σ B os vs fp → os[j]? = some o → ∃ v f, vs[j]? = some v ∧ OpRep K σ B o v f ∧ (∀ ob, ob ∈ f → ob ∈ fp)
  | [], _, _, _, _, _, e => by simp at e
  | o0 :: os, vs, fp, 0, o, h, e => by
    obtain ⟨v, vs', f1, f2, rfl, rfl, h3, _⟩ := h
    rw [List.getElem?_cons_zero] at e
    cases e
    exact ⟨v, f1, rfl, h3, fun ob m => List.mem_append_left _ m⟩
  | o0 :: os, vs, fp, j + 1, o, h, e => by
    obtain ⟨v, vs', f1, f2, rfl, rfl, _, h4⟩ := h
    rw [List.getElem?_cons_succ] at e
    obtain ⟨u, f, h5, h6, h7⟩ := OpsRep.at h4 e
    exact ⟨u, f, by rw [List.getElem?_cons_succ]; exact h5, h6, fun ob m => List.mem_append_right _ (h7 ob m)⟩
def selO (a : Env → R (List Opd)) (g : Env → R Opd) : Env → R Opd := fun E => (a E).bind fun os E1 => if os.length ≤ 100000 then (g E1).bind fun o2 E2 => match o2.val E2 with
  | some (.int i) => match atI os i with
    | some (.slot j) => .ok (.slot j) E2
    | some (.tmp d) => if noOwn d = true then .ok (.tmp d) E2 else .bad
    | none => .bad
  | _ => .bad else .bad
theorem evo_sel {es : List Expr} {e2 : Expr} {a : Env → R (List Opd)} {p1 : Pos} (hu : X.A.units + 1 < cLine) (h1 : EvA X W es a) (h2 : EvO X W e2 g) (hp : PlainIx e2 := by exact fun _ _ => rfl) : EvO X W (.Subscript (.List es p1) e2 pos) (selO a g) := ⟨fun E σ B l fr H Q re cf af =>
  w_ix (ix_any hu) (w_lst' (h1.run E σ B l fr H _ re cf (After.first (β := V) (δ := List V) af fun os E1 vs B1 l1 fp1 H1 ho x1 re1 rv1 cf1 af1 => by
    by_cases hz : os.length ≤ 100000
    · rw [if_pos hz] at af1
      refine ⟨s2z (by rw [← rv1.len]; exact hz), fun p hp => ?_⟩
      have cf2 : Cfg B1 ([(p, HO.lst vs)] ++ (fp1 ++ (l1 ++ fr))) (upd H1 p (.lst vs)) := Cfg.new' cf1 hp
      refine h2.run E1 σ B1 l1 (([(p, HO.lst vs)] ++ fp1) ++ fr) _ _ re1 (Cfg.perm cf2 (by walk_at "perm")) (After.next (β := V) af1 fun o2 E2 v2 B2 l2 fp2 H2 _ x2 re2 rv2 cf3 af2 => ?_)
      try dsimp only at af2
      cases hv2 : o2.val E2 with
      | none => rw [hv2] at af2; exact af2.elim
      | some d2 =>
        rw [hv2] at af2
        obtain ⟨f2, r2, m2⟩ := rv2.get re2 hv2
        cases d2 with
        | int i =>
          dsimp only at af2
          obtain ⟨rfl, _⟩ := r2
          cases hi : atI os i with
          | none => rw [hi] at af2; exact af2.elim
          | some oj =>
            rw [hi] at af2
            have hvs : ∃ v f, atI vs i = some v ∧ OpRep X.K σ B2 oj v f ∧ (∀ ob, ob ∈ f → ob ∈ fp1) := by
              unfold atI at hi ⊢
              rw [← rv1.len]
              cases hx : ixN os.length i with
              | none => rw [hx] at hi; cases hi
              | some j =>
                rw [hx] at hi
                obtain ⟨v, f, h5, h6, h7⟩ := OpsRep.at rv1 (show os[j]? = some oj from hi)
                exact ⟨v, f, h5, h6.mono x2, h7⟩
            obtain ⟨v, f, h5, h6, h7⟩ := hvs
            have hl : H2 p = some (.lst vs) := cf3.own p _ (by simp)
            have cf4 : Cfg B2 (l2 ++ fr) H2 := Cfg.dropL (a := fp2 ++ ([(p, HO.lst vs)] ++ fp1)) (Cfg.perm cf3 (by walk_at "perm"))
            refine .inl (.inl ⟨p, vs, i, v, rfl, rfl, SqL.of hl, h5, ?_⟩)
            cases oj with
            | slot j =>
              obtain ⟨h8, rfl⟩ := h6
              exact af2 v B2 l2 [] H2 (Ex.refl _) re2 ⟨h8, rfl⟩ cf4
            | tmp d =>
              dsimp only at af2
              by_cases no : noOwn d = true
              · rw [if_pos no] at af2
                have h6 : Rep X.K B2 d v f := h6
                obtain rfl := h6.none no
                exact af2 v B2 l2 [] H2 (Ex.refl _) re2 h6 cf4
              · rw [if_neg no] at af2; exact af2.elim
        | _ => exact af2.elim
    · rw [if_neg hz] at af1; exact af1.elim))) hp⟩
/-! ### a call that only looks at what it is handed, and tells no object -/
theorem Cfg.lend {B B' B2 H H2 : Hp} {a l x : List Ob} (c : Cfg B (a ++ l) H) (st : ∀ p o, (p, o) ∈ a → B' p = some o) (e1 : Ex B B') (e2 : Ex B' B2) (c2 : Cfg B2 (x ++ l) H2) : Cfg B (a ++ l) H2 :=
  ⟨(e1.trans e2).trans c2.ex, fun p o m => (List.mem_append.mp m).elim (fun h => c2.ex p o (e2 p o (st p o h))) fun h => c2.own p o (List.mem_append_right _ h), c.fr, c.nd⟩
def valsO (E : Env) : List Opd → Option (List D)
  | [] => some []
  | o :: os => match o.val E, valsO E os with
    | some d, some ds => some (d :: ds)
    | _, _ => none
theorem vals_ok {K : PySem.W.Frag} {σ : L2.St} {B B' : Hp} {E : Env} {l : List Ob} (re : RelEnv K B E σ l) (e : Ex B B') : ∀ {os : List Opd} {vs : List V} {fp : List Ob} {ds : List D}, OpsRep K σ B os vs fp → valsO E os = some ds → (∀ p o, (p, o) ∈ fp ++ l → B' p = some o) → RepL K B' (ds.map frz) vs []
  | [], vs, fp, ds, h, hv, _ => by
    cases hv
    obtain ⟨rfl, rfl⟩ := h
    exact ⟨rfl, rfl⟩
  | o :: os, vs, fp, ds, h, hv, st => by
    obtain ⟨v, vs', f1, f2, rfl, rfl, h3, h4⟩ := h
    unfold valsO at hv
    cases hd : o.val E with
    | none => rw [hd] at hv; cases hv
    | some d =>
      cases hds : valsO E os with
      | none => rw [hd, hds] at hv; cases hv
      | some ds' =>
        rw [hd, hds] at hv
        cases hv
        obtain ⟨f, r, m⟩ := h3.get re hd
        have r' : Rep K B' (frz d) v [] := r.frz e fun p o hm => st p o (by
          have := m _ hm
          simp only [List.mem_append] at this ⊢
          rcases this with z | z
          · exact .inl (.inl z)
          · exact .inr z)
        exact ⟨v, vs', [], [], rfl, rfl, r', vals_ok re e h4 hds fun p o hm => st p o (by
          simp only [List.mem_append] at hm ⊢
          rcases hm with z | z
          · exact .inl (.inr z)
          · exact .inr z)⟩
def scal : D → Bool
  | .int _ => true
  | .str _ => true
  | .bl _ => true
  | .non => true
  | _ => false
theorem scal_rep {K : PySem.W.Frag} {B B' : Hp} {d : D} {v : V} {f : List Ob} (h : scal d = true) (r : Rep K B d v f) : Rep K B' d v [] := by
  cases d <;> first | (exact ⟨r.1, rfl⟩) | cases h
def callOB (f : Fn) (dfl : List D) (os : List Opd) (E : Env) : R D := match valsO E os with
  | some ds => (match f.call (ds.map frz ++ dfl) with
      | .ret d _ => if scal d = true then .ok d E else .bad
      | .nxt _ => .ok .non E
      | _ => .bad)
  | none => .bad
def callB (f : Fn) (dfl : List D) (a : Env → R (List Opd)) : Env → R D := fun E => (a E).bind (callOB f dfl)
theorem callB_ok {K : PySem.W.Frag} {σ : L2.St} {B : Hp} {f : Fn} {dfl : List D} {os : List Opd} {E : Env} {vs dvs : List V} {fp l fr : List Ob} {H : Hp} {W : WX} {Q : VK} {np : Nat} (ho : OpsRep K σ B os vs fp) (re : RelEnv K B E σ l) (cf : Cfg B (fp ++ (l ++ fr)) H) (hl : (vs ++ dvs).length = np) (hd : ∀ B, RepL K B dfl dvs [])
    (af : After K σ fr B W (Rep K) (callOB f dfl os E) Q) : spD np f K (vs ++ dvs) H Q (fun cls d H => W cls d σ H) := by
  unfold callOB at af
  cases hv : valsO E os with
  | none => rw [hv] at af; exact af.elim
  | some ds =>
    rw [hv] at af
    dsimp only at af
    have cf1 : Cfg B ((fp ++ l) ++ fr) H := Cfg.perm cf (by walk_at "perm")
    obtain ⟨B', e, c2, st⟩ := Cfg.keepL (a := fp ++ l) cf1
    have rl := vals_ok re e ho hv st
    refine ⟨ds.map frz ++ dfl, B', [], fr, hl, by simpa using rl.app (hd B'), c2, ?_⟩
    cases hc : f.call (ds.map frz ++ dfl) with
    | ret d Ec =>
      rw [hc] at af
      dsimp only at af
      by_cases hs : scal d = true
      · rw [if_pos hs] at af
        intro v σc B2 lc fp2 H2 x rc hp rv cf2
        have c3 : Cfg B ((fp ++ l) ++ fr) H2 := Cfg.lend cf1 st e x (x := fp2 ++ lc) (Cfg.perm cf2 (by walk_at "perm"))
        exact af v B l [] H2 (Ex.refl _) re (scal_rep hs rv) (Cfg.dropL (a := fp) (Cfg.perm c3 (by walk_at "perm")))
      · rw [if_neg hs] at af; exact af.elim
    | nxt Ec =>
      rw [hc] at af
      intro σc B2 lc H2 x rc hp cf2
      have c3 : Cfg B ((fp ++ l) ++ fr) H2 := Cfg.lend cf1 st e x (x := lc) cf2
      exact af .non B l [] H2 (Ex.refl _) re ⟨rfl, rfl⟩ (Cfg.dropL (a := fp) (Cfg.perm c3 (by walk_at "perm")))
    | exc c ns vs' Ec => rw [hc] at af; exact af.elim
    | brk Ec => rw [hc] at af; exact af.elim
    | cnt Ec => rw [hc] at af; exact af.elim
    | bad => rw [hc] at af; exact af.elim
theorem evr_callB {es : List Expr} {a : Env → R (List Opd)} {np : Nat} {dfl : List D} {dvs : List V} {p pos : Pos} {Pr : World → PySem.W.Frag → (Str → Option Value) → Prop} (c : Cxt Pr X k) (C : Callee X.prog X.w X.K X.mg X.base j x dvs (spD np f X.K)) (hj : j ≤ k) (hg : Gl X x) (tk : Takes X W) (hd : ∀ B, RepL X.K B dfl dvs []) (hl : (e :: es).length + dvs.length = np) (h : EvA X W (e :: es) a)
    (hal : ALen a (e :: es).length) (hdb : (x == ("__debug__" : Str)) = false := by decide +kernel)
    (he : starEach (e :: es) X.env = (false, eval e X.env) :: starEach es X.env := by rfl) (hpl : (backTo pos (starEach es X.env)).any (·.1) = false := by rfl) : EvR X W (.Call (.Name x p) (e :: es) [] pos) (callB f dfl a) := ⟨fun E σ B l fr H Q re cf af => by
  obtain ⟨fa, fd, ps, ds, F, hm, hk, hb, hdv⟩ := C.ex
  refine wE_of (pe_callSD F (c.room.mono hj) hg hm hk hb hdv (fun σ => passAt tk σ) pA hdb he hpl) ?_
  refine h.run E σ B l fr H _ re cf (After.first (β := V) (δ := List V) af fun os E1 vs B1 l1 fp1 H1 ho x1 re1 rv1 cf1 af1 => ?_)
  have len : os.length = vs.length := rv1.len
  exact callB_ok rv1 re1 cf1 (by rw [List.length_append, ← len, hal E os E1 ho]; exact hl) hd af1⟩
end DW
/-! DW32: reckoning further: makings, methods, fields, targets. -/
namespace DW
open PySem L2 Evl QW
/-- what a def tells, and what stands in its first slot then -/
def Tels1 (f : Fn) (ds : List D) (d x : D) : Prop := ∃ Ec : List (Option D), f.call ds = .ret d Ec ∧ Ec[0]? = some (some x)
theorem ap_callB {f : Fn} {dfl : List D} {a : Env → R (List Opd)} {E : Env} : callB f dfl a E = (a E).bind (callOB f dfl) := Eq.trans rfl rfl
def finB2 (o : Out) (E : Env) : R D := match o with
  | .ret d _ => if scal d = true then .ok d E else .bad
  | .nxt _ => .ok .non E
  | _ => .bad
def finB (f : Fn) (dfl : List D) (t : Option (List D)) (E : Env) : R D := match t with
  | some ds => finB2 (f.call (ds.map frz ++ dfl)) E
  | none => .bad
theorem callOB_eq {f : Fn} {dfl : List D} {os : List Opd} {E : Env} : callOB f dfl os E = finB f dfl (valsO E os) E := by
  unfold callOB finB finB2
  rfl
theorem finB_some {f : Fn} {dfl ds : List D} {E : Env} : finB f dfl (some ds) E = finB2 (f.call (ds.map frz ++ dfl)) E := Eq.trans rfl rfl
theorem finB2_congr {o o' : Out} {E : Env} (h : o = o') : finB2 o E = finB2 o' E := by rw [h]
theorem finB2_ret {d : D} {Ec E : Env} : finB2 (.ret d Ec) E = if scal d = true then .ok d E else .bad := Eq.trans rfl rfl
theorem finB2_nxt {Ec E : Env} : finB2 (.nxt Ec) E = .ok .non E := Eq.trans rfl rfl
theorem vals_0 {E : Env} : valsO E [] = some [] := Eq.trans rfl rfl
def valS (a : Option D) (b : Option (List D)) : Option (List D) := match a, b with
  | some d, some ds => some (d :: ds)
  | _, _ => none
theorem vals_s {E : Env} {o : Opd} {os : List Opd} : valsO E (o :: os) = valS (o.val E) (valsO E os) := by
  rw [valsO]; rfl
theorem valS_some {d : D} {ds : List D} : valS (some d) (some ds) = some (d :: ds) := Eq.trans rfl rfl
theorem scal_int {i : Int} : scal (.int i) = true := Eq.trans rfl rfl
theorem scal_bl {b : Bool} : scal (.bl b) = true := Eq.trans rfl rfl
theorem scal_str {z : Str} : scal (.str z) = true := Eq.trans rfl rfl
theorem scal_non : scal .non = true := Eq.trans rfl rfl
theorem ap_selO {a : Env → R (List Opd)} {g : Env → R Opd} {E : Env} : selO a g E = (a E).bind fun os E1 => if os.length ≤ 100000 then (g E1).bind fun o2 E2 => match o2.val E2 with
  | some (.int i) => match atI os i with
    | some (.slot j) => .ok (.slot j) E2
    | some (.tmp d) => if noOwn d = true then .ok (.tmp d) E2 else .bad
    | none => .bad
  | _ => .bad else .bad := Eq.trans rfl rfl
theorem ap_aApp {a b : Env → R (List Opd)} {E : Env} : aApp a b E = (a E).bind fun os E1 => (b E1).bind fun qs E2 => .ok (os ++ qs) E2 := Eq.trans rfl rfl
/-! calls by names -/
def finX (f : Fn) (r2 : List (D × Option Nat)) (E2 : Env) : R D := if okOps f.S r2 0 = true then fin2 (f.call (r2.map (·.1))) r2 E2 else .bad
def finW (f : Fn) (ix : List Nat) (dfl : List D) (t : Option (List (D × Option Nat) × Env)) : R D := match t with
  | some (r, E2) => finX f (ordA ix (r ++ dfl.map fun d => (d, none))) E2
  | none => .bad
theorem callW_eq {f : Fn} {ix : List Nat} {dfl : List D} {os : List Opd} {E : Env} : callW f ix dfl os E = finW f ix dfl (takeOps os E) := by
  unfold callW finW finX fin2
  rfl
theorem finW_some {f : Fn} {ix : List Nat} {dfl : List D} {r : List (D × Option Nat)} {E2 : Env} : finW f ix dfl (some (r, E2)) = finX f (ordA ix (r ++ dfl.map fun d => (d, none))) E2 := Eq.trans rfl rfl
theorem finX_eq {f : Fn} {r2 : List (D × Option Nat)} {E2 : Env} : finX f r2 E2 = if okOps f.S r2 0 = true then fin2 (f.call (r2.map (·.1))) r2 E2 else .bad := Eq.trans rfl rfl
theorem ap_callWR {f : Fn} {ix : List Nat} {dfl : List D} {a : Env → R (List Opd)} {E : Env} : callWR f ix dfl a E = (a E).bind (callW f ix dfl) := Eq.trans rfl rfl
theorem ap_makeWR {c : Str} {f : Fn} {ix : List Nat} {dfl : List D} {a : Env → R (List Opd)} {E : Env} : makeWR c f ix dfl a E = (a E).bind (makeW c f ix dfl) := Eq.trans rfl rfl
def fin4 (c : Str) (x : Option D) (Ec : Env) (r2 : List (D × Option Nat)) (E2 : Env) : R D := match x with
  | some (.ins true c' ns vs) => if c' = c then .ok (.ins true c' ns vs) (backOps (Ec.set 0 none) r2 0 E2) else .bad
  | _ => .bad
def fin3 (c : Str) (o : Out) (r2 : List (D × Option Nat)) (E2 : Env) : R D := match o with
  | .ret .non Ec => fin4 c (gt Ec 0) Ec r2 E2
  | .nxt Ec => fin4 c (gt Ec 0) Ec r2 E2
  | .exc c ns vs Ec => .exc c ns vs (backOps Ec r2 0 E2)
  | _ => .bad
def finMX (c : Str) (f : Fn) (r2 : List (D × Option Nat)) (E2 : Env) : R D := if (okOps f.S r2 0 && f.S.contains 0) = true then fin3 c (f.call (r2.map (·.1))) r2 E2 else .bad
def finM (c : Str) (f : Fn) (ix : List Nat) (dfl : List D) (t : Option (List (D × Option Nat) × Env)) : R D := match t with
  | some (r, E2) => finMX c f (ordA ix (((D.ins true c [] [], none) :: r) ++ dfl.map fun d => (d, none))) E2
  | none => .bad
theorem makeW_eq {c : Str} {f : Fn} {ix : List Nat} {dfl : List D} {os : List Opd} {E : Env} : makeW c f ix dfl os E = finM c f ix dfl (takeOps os E) := by
  unfold makeW finM finMX fin3 fin4
  rfl
theorem finM_some {c : Str} {f : Fn} {ix : List Nat} {dfl : List D} {r : List (D × Option Nat)} {E2 : Env} : finM c f ix dfl (some (r, E2)) = finMX c f (ordA ix (((D.ins true c [] [], none) :: r) ++ dfl.map fun d => (d, none))) E2 := Eq.trans rfl rfl
theorem finMX_eq {c : Str} {f : Fn} {r2 : List (D × Option Nat)} {E2 : Env} : finMX c f r2 E2 = if (okOps f.S r2 0 && f.S.contains 0) = true then fin3 c (f.call (r2.map (·.1))) r2 E2 else .bad := Eq.trans rfl rfl
theorem fin3_congr {c : Str} {o o' : Out} {r : List (D × Option Nat)} {E2 : Env} (h : o = o') : fin3 c o r E2 = fin3 c o' r E2 := by rw [h]
theorem fin3_nxt {c : Str} {Ec E2 : Env} {r2 : List (D × Option Nat)} : fin3 c (.nxt Ec) r2 E2 = fin4 c (gt Ec 0) Ec r2 E2 := Eq.trans rfl rfl
theorem fin3_exc {c c' : Str} {ns : List Str} {vs : List D} {Ec E2 : Env} {r2 : List (D × Option Nat)} : fin3 c (.exc c' ns vs Ec) r2 E2 = .exc c' ns vs (backOps Ec r2 0 E2) := Eq.trans rfl rfl
theorem fin2_exc {c' : Str} {ns : List Str} {vs : List D} {Ec E2 : Env} {r2 : List (D × Option Nat)} : fin2 (.exc c' ns vs Ec) r2 E2 = .exc c' ns vs (backOps Ec r2 0 E2) := Eq.trans rfl rfl
theorem fin4_some {c c' : Str} {ns : List Str} {vs : List D} {Ec E2 : Env} {r2 : List (D × Option Nat)} : fin4 c (some (.ins true c' ns vs)) Ec r2 E2 = if c' = c then .ok (.ins true c' ns vs) (backOps (Ec.set 0 none) r2 0 E2) else .bad := Eq.trans rfl rfl
theorem ap_methR {c m : Str} {f : Fn} {ix : List Nat} {dfl : List D} {g : Env → R Opd} {a : Env → R (List Opd)} {E : Env} : methR c m f ix dfl g a E = (g E).bind fun o E1 => match o.val E1 with
  | some d => if insD c m d = true then (a E1).bind fun os E2 => callW f ix dfl (o :: os) E2 else .bad
  | none => .bad := Eq.trans rfl rfl
def ownS2 (x : Option D) (E : Env) : R D := match x with
  | some r => .ok r E
  | none => .bad
def ownS (P : D → Option D) (r : R D) : R D := match r with
    | .ok d2 E2 => ownS2 (P d2) E2
    | _ => .bad
theorem ap_ownR {c : Str} {f : Fn} {P : D → Option D} {g : Env → R Opd} {E : Env} : ownR c f P g E = (g E).bind fun o E1 => match o.val E1 with
  | some d => if insC c d = true then ownS P (callW f [0] [] [o] E1) else .bad
  | none => .bad := by
  unfold ownR ownS ownS2
  rfl
theorem ownS_ok {P : D → Option D} {d : D} {E : Env} : ownS P (.ok d E) = ownS2 (P d) E := Eq.trans rfl rfl
theorem ownS2_some {d : D} {E : Env} : ownS2 (some d) E = .ok d E := Eq.trans rfl rfl
theorem lenP_n {n : Nat} (h : n ≤ 1000000000) : lenP (.int (n : Int)) = some (.int (n : Int)) := by
  unfold lenP
  dsimp only
  rw [if_pos (decide_eq_true (p := 0 ≤ (n : Int) ∧ (n : Int) < 2 ^ 63) ⟨by omega, by omega⟩)]
theorem truP_n {n : Nat} (h : n ≤ 1000000000) : truP (.int (n : Int)) = some (.bl (!decide (n = 0))) := by
  unfold truP
  dsimp only
  rw [if_pos (decide_eq_true (p := 0 ≤ (n : Int) ∧ (n : Int) < 2 ^ 63) ⟨by omega, by omega⟩)]
  cases n with
  | zero => rfl
  | succ m =>
    have : ((m + 1 : Nat) : Int) ≠ 0 := by omega
    simp [bne]
    omega
theorem strP_s {z : Str} : strP (.str z) = some (.str z) := Eq.trans rfl rfl
/-! fields -/
theorem fldD_i {f c : Str} {o : Bool} {ns : List Str} {vs : List D} : fldD f (.ins o c ns vs) = if (flds c).contains f = true then ownless ((ns.zip vs).lookup f) else none := Eq.trans rfl rfl
theorem fldD_x {f c : Str} {ns : List Str} {vs : List D} : fldD f (.exn c ns vs) = if (flds c).contains f = true then ownless ((ns.zip vs).lookup f) else none := Eq.trans rfl rfl
theorem ap_sFld {i : Nat} {f : Str} {g : Env → R D} {F : Env → Out} {E : Env} : sFld i f g F E = onR (g E) fun d E1 => match gt E1 i with
  | some (.ins true c ns vs) => if ((flds c).contains f && decide (ns.length < 1000)) = true then F (E1.set i (some (.ins true c (putNs ns f) (putL ns vs f d)))) else .bad
  | _ => .bad := Eq.trans rfl rfl
theorem insD_i {c m c' : Str} {o : Bool} {ns : List Str} {vs : List D} : insD c m (.ins o c' ns vs) = (decide (c' = c) && !ns.contains m) := Eq.trans rfl rfl
theorem insC_i {c c' : Str} {o : Bool} {ns : List Str} {vs : List D} : insC c (.ins o c' ns vs) = decide (c' = c) := Eq.trans rfl rfl
/-! types -/
theorem isx_int {i : Int} : isiX "int" (.int i) = some (.bl true) := Eq.trans rfl rfl
theorem isx_intb {i : Int} : isiX "bool" (.int i) = some (.bl false) := Eq.trans rfl rfl
theorem isx_str {z : Str} : isiX "str" (.str z) = some (.bl true) := Eq.trans rfl rfl
theorem isx_lst {o : Bool} {xs : List D} : isiX "list" (.lst o xs) = some (.bl true) := Eq.trans rfl rfl
theorem isx_tup {xs : List D} : isiX "tuple" (.tup xs) = some (.bl true) := Eq.trans rfl rfl
theorem isx_tupl {xs : List D} : isiX "list" (.tup xs) = some (.bl false) := Eq.trans rfl rfl
theorem isx_lstt {o : Bool} {xs : List D} : isiX "tuple" (.lst o xs) = some (.bl false) := Eq.trans rfl rfl
/-! targets -/
theorem ap_sAsgT {b : D → Env → Option Env} {f : Env → R D} {F : Env → Out} {E : Env} : sAsgT b f F E = onR (f E) fun d E1 => if noOwn d = true then (match b d E1 with
  | some E2 => F E2
  | none => .bad) else .bad := Eq.trans rfl rfl
theorem bU_t {bs : List (D → Env → Option Env)} {xs : List D} {E : Env} : bU bs (.tup xs) E = bTs bs xs E := Eq.trans rfl rfl
theorem bU_l {bs : List (D → Env → Option Env)} {xs : List D} {E : Env} : bU bs (.lst false xs) E = bTs bs xs E := Eq.trans rfl rfl
theorem bTs_0 {E : Env} : bTs [] [] E = some E := Eq.trans rfl rfl
theorem bTs_s {b : D → Env → Option Env} {bs : List (D → Env → Option Env)} {d : D} {ds : List D} {E : Env} : bTs (b :: bs) (d :: ds) E = (b d E).bind (bTs bs ds) := Eq.trans rfl rfl
theorem rz0_ap {c : Str} {E : Env} : sRz0 c E = .exc c [] [] E := Eq.trans rfl rfl
theorem rz1_ap {c n : Str} {f : Env → R D} {E : Env} : sRz1 c n f E = onR (f E) fun d E1 => if noOwn d = true then .exc c [n] [d] E1 else .bad := Eq.trans rfl rfl
theorem thn_exc {c : Str} {ns : List Str} {vs : List D} {E : Env} {k : Env → Out} : Out.thn (.exc c ns vs E) k = .exc c ns vs E := Eq.trans rfl rfl
theorem bind_exc {α β : Type} {c : Str} {ns : List Str} {vs : List D} {E : Env} {k : α → Env → R β} : R.bind (.exc c ns vs E) k = .exc c ns vs E := Eq.trans rfl rfl
theorem onR_exc {α : Type} {c : Str} {ns : List Str} {vs : List D} {E : Env} {k : α → Env → Out} : onR (.exc c ns vs E) k = .exc c ns vs E := Eq.trans rfl rfl
theorem lp_exc {c : Str} {ns : List Str} {vs : List D} {E : Env} {k : Env → Out} : lp (.exc c ns vs E) k = .exc c ns vs E := Eq.trans rfl rfl
theorem gt_set0 {E : Env} {x : Option D} {j : Nat} : gt (E.set 0 x) (j + 1) = gt E (j + 1) := by
  unfold gt
  rw [List.getElem?_set]
  simp
end DW
/-! DW33: a text's slice with a step. -/
namespace DW
open PySem L2 Evl QW
open PySem.Spec PyProof.Rows
local macro_rules | `(tactic| walk_at "perm") => `(tactic| (refine List.perm_iff_count.mpr fun _ => ?_; simp only [List.count_append, List.count_nil]; omega))
def stepT (z : Str) (lo hi : Option Int) (k : Int) : Str := ⟨((Builtin.Str.strSliceIndices lo hi k z.length).filterMap (z.cps[·]?)).toArray⟩
def tSlT (te : TE) (tl th ts : TO) : TE := fun σ H Q => te σ H fun x H1 => tl σ H1 fun l H2 => th σ H2 fun u H3 => ts σ H3 fun st H4 => ∃ z k, x = .str z ∧ z.length ≤ sizeLine ∧ st = some k ∧ k ≠ 0 ∧ k ≠ 1 ∧ Q (.str (stepT z l u k)) H4
theorem stepT_len (z : Str) (lo hi : Option Int) (k : Int) (h : k ≠ 0) : (stepT z lo hi k).length ≤ z.length := by
  show (((Builtin.Str.strSliceIndices lo hi k z.length).filterMap (z.cps[·]?)).toArray).size ≤ _
  rw [List.size_toArray]
  exact Nat.le_trans (List.length_filterMap_le _ _) (PySem.sliceIndicesBy_le lo hi k h z.length)
theorem pe_sliceT {X : Cx} {e : Expr} {lo hi st : Option Expr} {te : TE} {tl th ts : TO} {p2 pos : Pos} (he : PE X e te) (hl : PO X lo tl) (hu : PO X hi th) (hst : PO X st ts)
    (hs : ∀ v u, ∃ ops, subscripted (.Slice lo hi st p2) false v u = operate ops (getItem v u)) : PE X (.Subscript e (.Slice lo hi st p2) pos) (tSlT te tl th ts) := by
  refine ⟨fun pins s σ H Q I h => ?_⟩
  refine Subscript_ (thn (he.run pins s σ H _ I h) fun v s1 ⟨x, H1, I1, r1, q1⟩ => ?_)
  refine wpAny_Slice (thn (hl.run pins s1 σ H1 _ I1 q1) fun vl s2 ⟨l, H2, I2, pl, q2⟩ => thn (hu.run pins s2 σ H2 _ I2 q2) fun vu s3 ⟨u, H3, I3, pu, q3⟩ => thn (hst.run pins s3 σ H3 _ I3 q3) fun vs s4 ⟨o, H4, I4, ps, q4⟩ => ?_)
  obtain ⟨z, k, ex, hz, ek, k0, k1, q⟩ := q4
  subst ex
  subst ek
  obtain ⟨t, rfl⟩ := r1
  have I5 : Inv X pins σ H4 { s4 with heap := s4.heap.push { cls := .type "slice", data := .fields #[vl, vu, vs] } } := I4.kept (t' := s4.toks) fun b ob q => Heap.get?_push_of_some _ q
  show wpAny (model X.prog X.w) X.A (subscriptTail e (.Slice lo hi st p2) (.str z t) (.ref s4.heap.objs.size)) (EP X pins σ Q) X.xe { s4 with heap := s4.heap.push { cls := .type "slice", data := .fields #[vl, vu, vs] } }
  obtain ⟨ops, hops⟩ := hs (.str z t) (.ref s4.heap.objs.size)
  refine tail_any (ops := ops) (typeIs_str _ _ _) (F.slot_str_getitem.lookup) ?_ hops
  obtain ⟨os, hos, hcs, hds⟩ := Heap.IsSliceOf.new s4.heap vl vu vs
  obtain ⟨l', rfl, rfl⟩ := IsPart.raw pl
  obtain ⟨u', rfl, rfl⟩ := IsPart.raw pu
  obtain ⟨o', rfl, eo⟩ := IsPart.raw ps
  refine wpAny_getItem_str_slice (l := l') (u := u') (st := o') ⟨os, hos, hcs, hds⟩ (by rw [eo]; simpa using k0) ?_
  unfold sliceMade
  rw [eo]
  have hl := stepT_len z (l'.map (·.1)) (u'.map (·.1)) k k0
  have hc : (((some k : Option Int).getD 1 == 1) && ((slicePicked z l' u' o').length == z.length)) = false := by
    simp [k1]
  rw [hc, if_neg Bool.false_ne_true]
  have e : (⟨((slicePicked z l' u' o').filterMap (z.cps[·]?)).toArray⟩ : Str) = stepT z (l'.map (·.1)) (u'.map (·.1)) k := by
    unfold stepT slicePicked
    rw [eo]
    rfl
  rw [e]
  exact ⟨Nat.le_trans hl hz, .str _, H4, I5.tok _, ⟨_, rfl⟩, q⟩
def stepTR (g : Env → R Opd) (l h s : Env → R (Option Int)) : Env → R D := fun E => (g E).bind fun o E1 => (l E1).bind fun lo E2 => (h E2).bind fun hi E3 => (s E3).bind fun st E4 => match o.val E4, st with
  | some (.str z), some k => if decide (z.length ≤ 100000 ∧ k ≠ 0 ∧ k ≠ 1) = true then .ok (.str (stepT z lo hi k)) E4 else .bad
  | _, _ => .bad
theorem evr_stepT {X : Cx} {W : WX} {e : Expr} {g : Env → R Opd} {p2 pos : Pos} {lo hi st : Option Expr} {l h s : Env → R (Option Int)} (he : EvO X W e g) (hl : EvP X W lo l) (hh : EvP X W hi h) (hst : EvP X W st s) (hs : ∀ v u, ∃ ops, subscripted (.Slice lo hi st p2) false v u = operate ops (getItem v u) := by exact fun v u => ⟨_, by with_unfolding_all rfl⟩) :
    EvR X W (.Subscript e (.Slice lo hi st p2) pos) (stepTR g l h s) := ⟨fun E σ B l0 fr H Q re cf af =>
  wE_of (pe_sliceT pE pO pO pO hs) (he.run E σ B l0 fr H _ re cf (After.first (β := V) (δ := V) af fun o E1 v B1 l1 fp1 H1 _ x1 re1 rv1 cf1 af1 =>
    hl.run E1 σ B1 l1 (fp1 ++ fr) H1 _ re1 (Cfg.perm cf1 (by walk_at "perm")) (After.next (β := V) (δ := Option Int) af1 fun lo E2 lo' B2 l2 fp2 H2 _ x2 re2 rv2 cf2 af2 => by
      obtain ⟨rfl, rfl⟩ := rv2
      exact hh.run E2 σ B2 l2 (fp1 ++ fr) H2 _ re2 cf2 (After.next (β := V) (δ := Option Int) af2 fun hi E3 hi' B3 l3 fp3 H3 _ x3 re3 rv3 cf3 af3 => by
        obtain ⟨rfl, rfl⟩ := rv3
        exact hst.run E3 σ B3 l3 (fp1 ++ fr) H3 _ re3 cf3 (After.next (β := V) (δ := Option Int) af3 fun st E4 st' B4 l4 fp4 H4 _ x4 re4 rv4 cf4 af4 => by
          obtain ⟨rfl, rfl⟩ := rv4
          cases hv : o.val E4 with
          | none => rw [hv] at af4; exact af4.elim
          | some d =>
            rw [hv] at af4
            cases d with
            | str z =>
              cases st' with
              | none => exact af4.elim
              | some k =>
                dsimp only at af4
                by_cases hc : (z.length ≤ 100000 ∧ k ≠ 0 ∧ k ≠ 1)
                · rw [if_pos (decide_eq_true hc)] at af4
                  obtain ⟨f1, r1, m1⟩ := (((rv1.mono x2).mono x3).mono x4).get re4 hv
                  obtain ⟨rfl, _⟩ := r1
                  have cf5 : Cfg B4 (l4 ++ fr) H4 := Cfg.dropL (a := fp1) (Cfg.perm cf4 (by walk_at "perm"))
                  exact ⟨z, _, rfl, s2z hc.1, rfl, hc.2.1, hc.2.2, af4 _ B4 l4 [] H4 (Ex.refl _) re4 ⟨rfl, rfl⟩ cf5⟩
                · rw [if_neg (by simpa using hc)] at af4; exact af4.elim
            | _ => cases st' <;> exact af4.elim)))))⟩
end DW
/-! DW34: int(text, 3). -/
namespace DW
open PySem L2 Evl QW
open PySem.Spec PyProof.Rows
namespace T3
open PySem.NumText PySem.Calls
def Dg (c : Nat) : Prop := 48 ≤ c ∧ c ≤ 50
theorem Dg.hx {c : Nat} (h : Dg c) : Hx.IsHex c := .inl ⟨h.1, Nat.le_trans h.2 (by decide)⟩
theorem Dg.hv {c : Nat} (h : Dg c) : Hx.hv c = c - 48 := if_pos (Nat.le_trans h.2 (by decide))
def num3 (l : List Nat) : Nat := l.foldl (fun a c => a * 3 + (c - 48)) 0
theorem one3 {ds : Array Nat} {b : Bool} {c : Nat} (g : Dg c) : PySem.NumText.step 3 (ds, b) c = some (ds.push (c - 48), true) := by
  have g1 := g.1
  have g2 := g.2
  unfold PySem.NumText.step
  rw [if_neg (by rw [beq_iff_eq]; omega), Hx.digit_hex g.hx, g.hv]
  exact if_pos (by omega)
theorem all3 : ∀ (l : List Nat) (ds : Array Nat), (∀ c, c ∈ l → Dg c) → l.foldlM (PySem.NumText.step 3) (ds, true) = some (l.foldl (fun acc c => acc.push (c - 48)) ds, true)
  | [], _, _ => rfl
  | c :: l, ds, g => by
    rw [List.foldlM_cons, one3 (g c List.mem_cons_self)]
    show l.foldlM (PySem.NumText.step 3) (ds.push (c - 48), true) = _
    exact all3 l _ fun d m => g d (List.mem_cons_of_mem _ m)
theorem digs3 {l : List Nat} (g : ∀ c, c ∈ l → Dg c) (ne : l ≠ []) : digits? 3 l = some (l.foldl (fun acc c => acc.push (c - 48)) #[]) := by
  cases l with
  | nil => exact absurd rfl ne
  | cons c l =>
    unfold digits?
    rw [List.foldlM_cons, one3 (g c List.mem_cons_self)]
    show (l.foldlM (PySem.NumText.step 3) ((#[] : Array Nat).push (c - 48), true)).bind _ = _
    rw [all3 l _ fun d m => g d (List.mem_cons_of_mem _ m)]
    rfl
theorem sum3 : ∀ (l : List Nat) (ds : Array Nat), (l.foldl (fun acc c => acc.push (c - 48)) ds).foldl (fun a d => a * 3 + d) 0 = l.foldl (fun a c => a * 3 + (c - 48)) (ds.foldl (fun a d => a * 3 + d) 0)
  | [], _ => rfl
  | c :: l, ds => by
    rw [List.foldl_cons, sum3 l, List.foldl_cons]
    congr 1
    simp
theorem Dg.three {c : Nat} (h : Dg c) : c = 48 ∨ c = 49 ∨ c = 50 := by
  have := h.1
  have := h.2
  omega
theorem base3 {l : List Nat} (g : ∀ c, c ∈ l → Dg c) : based 3 l = (3, false, l) := by
  match l, g with
  | [], _ => rfl
  | [a], g => rcases (g a List.mem_cons_self).three with rfl | rfl | rfl <;> rfl
  | a :: c :: r, g =>
    have hc := (g c (List.mem_cons_of_mem _ List.mem_cons_self)).three
    rcases (g a List.mem_cons_self).three with rfl | rfl | rfl <;> rcases hc with rfl | rfl | rfl <;> rfl
theorem read3 {l : List Nat} (g : ∀ c, c ∈ l → Dg c) (ne : l ≠ []) : (int_private% "readNumeral") 0 3 l = (int_private% "Numeral.value") ((num3 l : Nat) : Int) := by
  have gh : ∀ c ∈ l, Hx.IsHex c := fun c m => (g c m).hx
  have gr : ∀ c ∈ l.reverse, Hx.IsHex c := fun c m => gh c (List.mem_reverse.mp m)
  refine (readNumeral_eq 0 3 l).trans ?_
  rw [Hx.dropB gh, Hx.signH gh]
  show judge 0 false (based 3 l).1 (based 3 l).2.1 (digits? (based 3 l).1 (((based 3 l).2.2.reverse.dropWhile blank).reverse)) = _
  rw [base3 g]
  show judge 0 false 3 false (digits? 3 ((l.reverse.dropWhile blank).reverse)) = _
  rw [Hx.dropB gr, List.reverse_reverse, digs3 g ne]
  show (int_private% "Numeral.value") (((l.foldl (fun acc c => acc.push (c - 48)) (#[] : Array Nat)).foldl (fun a d => a * 3 + d) 0 : Nat) : Int) = _
  have z0 : (#[] : Array Nat).foldl (fun a d => a * 3 + d) 0 = 0 := by first | rfl | simp
  rw [sum3, z0] <;> rfl
theorem gives3 {x : PySem.Str} {u t : Tok} (size : x.length ≤ 640) (g : ∀ c, c ∈ x.cps.toList → Dg c) (ne : x.cps.toList ≠ []) :
    Gives (Builtin.«int.__new__» ⟨[.type "int", .str x u, .int 3 t], []⟩) (.int ((num3 x.cps.toList : Nat) : Int)) :=
  .of_wp fun M A E s Q hQ => by
    obtain ⟨hp, gl, dp, tk, os⟩ := s
    have c1 := F.conv_sub_int
    have c2 := F.madeHere_int
    have c3 : typeOf (.str x u) = pure (.type "str") := rfl
    obtain ⟨s1, s2⟩ := Hx.seen_hex (x := x) fun c m => (g c m).hx
    have k1 : (numSeenOf x).length ≤ 640 := by rw [s2, Array.length_toList]; exact size
    have k2 : (int_private% "readNumeral") 0 3 (numSeenOf x) = (int_private% "Numeral.value") ((num3 x.cps.toList : Nat) : Int) := by rw [s2]; exact read3 g ne
    have k3 : ((numSeenOf x).length == (numTextOf x).length) = true := by rw [s1, s2]; exact beq_self_eq_true _
    have kk := Hx.Hid.mk (And.intro k1 (And.intro k2 k3))
    clear k1 k2 k3 s1 s2 size ne g
    repeat (any_goals (first
      | assumption
      | ((with_reducible show wpAny _ _ ((int_private% "intFromText") _ _ _) _ _ _); refine Hx.wp_textB kk.out.1 kk.out.2.1 kk.out.2.2 ?_)
      | wp_step))
    all_goals first | exact ⟨_, rfl, hQ⟩ | skip
theorem call3 {prog : Program} {w : World} {A : Around} {E : Value → Shared → Prop} {s : Shared} {Q : Value → Shared → Prop} {x : PySem.Str} {u t : Tok} (size : x.length ≤ 640) (g : ∀ c, c ∈ x.cps.toList → Dg c) (ne : x.cps.toList ≠ [])
    (q : Q (.int ((num3 x.cps.toList : Nat) : Int) s.toks) { s with toks := s.toks + 1 }) : wpAny (model prog w) A (call (.type "int") [.str x u, .int 3 t]) Q E s :=
  callType_new F.called_int F.newNe_int (Hx.typeCall_int_2 _ _) (Hx.newCall_int_2 _ _) (fun obj => F.initArgs_range_2 obj _ _) F.entry_int_new (gives3 size g ne).meets (show (Made.int ((num3 x.cps.toList : Nat) : Int)).post _ s from ⟨rfl, q⟩)
end T3
theorem call_int_base {X : Cx} : CallR X (.type "int") (fun xs H Q => ∃ x : Str, xs = [.str x, .int 3] ∧ x.length ≤ 640 ∧ (∀ c, c ∈ x.cps.toList → T3.Dg c) ∧ x.cps.toList ≠ [] ∧ Q (.int ((T3.num3 x.cps.toList : Nat) : Int)) H) := by
  intro pins s σ H xs us Q I r h
  obtain ⟨x, rfl, hl, hg, hn, q⟩ := h
  obtain ⟨u, w', rfl, r1, r2⟩ := vals2 r
  obtain ⟨t1, rfl⟩ := r1
  obtain ⟨t2, rfl⟩ := r2
  exact T3.call3 hl hg hn ⟨.int _, H, I.tok _, ⟨_, rfl⟩, q⟩
def int3D : D → D → Option D
  | .str x, .int k => if k = 3 ∧ x.length ≤ 640 ∧ x.cps.toList ≠ [] ∧ (x.cps.toList.all fun c => decide (48 ≤ c ∧ c ≤ 50)) = true then some (.int ((T3.num3 x.cps.toList : Nat) : Int)) else none
  | _, _ => none
theorem op2_int3 {K : PySem.W.Frag} : Op2 K (fun v u H Q => ∃ x : Str, [v, u] = [V.str x, .int 3] ∧ x.length ≤ 640 ∧ (∀ c, c ∈ x.cps.toList → T3.Dg c) ∧ x.cps.toList ≠ [] ∧ Q (.int ((T3.num3 x.cps.toList : Nat) : Int)) H) int3D := ⟨fun B H L v1 v2 f1 f2 d1 d2 r Q r1 r2 m1 m2 c hF k => by
  unfold int3D at hF
  split at hF
  · rename_i x i
    by_cases h : i = 3 ∧ x.length ≤ 640 ∧ x.cps.toList ≠ [] ∧ (x.cps.toList.all fun c => decide (48 ≤ c ∧ c ≤ 50)) = true
    · rw [if_pos h] at hF
      cases hF
      obtain ⟨rfl, h2, h3, h4⟩ := h
      obtain ⟨rfl, _⟩ := r1
      obtain ⟨rfl, _⟩ := r2
      refine ⟨x, rfl, h2, fun c m => ?_, h3, k _ [] B H (Ex.refl _) ⟨rfl, rfl⟩ c⟩
      have := List.all_eq_true.mp h4 c m
      exact of_decide_eq_true (p := 48 ≤ c ∧ c ≤ 50) this
    · rw [if_neg h] at hF; cases hF
  · cases hF⟩
end DW
/-! DW35: a def called within an except suite, which lets nothing out: try: body, except X as n: y = g(n). -/
namespace DW
open PySem PySem.Spec PyProof.Rows L2 HotX QW
open L2H (RoomH)
section
variable {P : Program} {w : World} {K : PySem.W.Frag} {mg : Str → Option Value} {base : Heap} {CX : CXT} {k : Nat} {f : Addr} {N ps : List Str} {sp : Sp}
/-- what a def promises, whatever is handled -/
structure FnQ (P : Program) (w : World) (K : PySem.W.Frag) (mg : Str → Option Value) (base : Heap) (CX : CXT) (k : Nat) (f : Addr) (fd : FuncData) (ps : List Str) (sp : Sp) : Prop where
  len : ∀ vs H Q E, sp vs H Q E → vs.length = ps.length
  go : ∀ (A : Around) (out : List PySem.Env) (s : Shared) (H : Hp) (ag : Args) (us : List Value) (vs : List V) (Q : VK) (E : XK), RoomH k A → Env0 P w K mg base A out s H → BindsTo s fd ag (ps.zip us) → Vals vs us → sp vs H Q E → codeAny (model P w) A (.call (.ref f) ag) (CR CX out P w H s Q E) s
def cxQ (CX : CXT) (P : Program) (w : World) (K : PySem.W.Frag) (mg : Str → Option Value) (base : Heap) (N : List Str) (qual : Str) (scope : Scope) (f : Addr) (cd : Value) (A : Around) (out : List PySem.Env) (s : Shared) (H : Hp) (E : XK) : Cx :=
  { cxOf CX P w K mg base N qual scope f cd A out s H E with calm := false }
theorem startQ {qual : Str} {scope : Scope} {cd : Value} {A : Around} {out : List PySem.Env} {s s1 : Shared} {H : Hp} {E : XK} {us : List Value} {vs : List V} (S : FnScope N ps scope) (e0 : Env0 P w K mg base A out s H) (hl : vs.length = ps.length) (r : Vals vs us)
    (x : InCallC s s.heap.objs.size (bindL (envOfC qual scope s.heap.objs.size f cd).kindOf (ps.zip us) fun _ => none) (cellsFrom (s.heap.objs.size + 1) scope.names []) (bindC (envOfC qual scope s.heap.objs.size f cd).kindOf (ps.zip us) fun _ => none) s1) : Inv (cxQ CX P w K mg base N qual scope f cd A out s H E) [] (L2.start N vs) H s1 := by
  have e1 : Env0 P w K mg base { A with handled := none } out s H := ⟨e0.frames, e0.mod, e0.bs, e0.bsz, e0.funs, e0.frf, e0.hok, e0.bare⟩
  have I := inv_start (CX := CX) (E := E) S (A := { A with handled := none }) rfl e1 hl r x
  have o := I.ok
  exact ⟨⟨o.mod, o.kind, o.glob, o.blt, o.above, o.inj, o.has, o.cab, (fun z => nomatch z), o.frames, o.stk, o.exf, o.bs, o.bsz, o.noex, o.exfs, o.funs, o.frf⟩, I.os, I.bare, I.base, I.loc, I.cell, I.free, I.freeC, I.pin, I.hok, I.len⟩
theorem fnQ_mk {name qual : Str} {pa : Arguments} {bd : List Stmt} {sc : Scope} {dV kV doc pm cdv ct oc : Value} {an od : Option Addr} {osl : Array (Option Value)} (lk : K.lookup f = some ⟨oc, od, .func (PySem.W.fnOf name qual pa bd sc dV kV doc pm an cdv ct), osl⟩) (hcd : PySem.W.codeIn K cdv qual = true) (S : FnScope N ps sc) (ln : ∀ vs H Q E, sp vs H Q E → vs.length = ps.length)
    (hbd : ∀ (A : Around) (out : List PySem.Env) (s : Shared) (H : Hp) (vs : List V) (Q : VK) (E : XK), RoomH k (A.deeper (envOfC qual sc s.heap.objs.size f cdv)) → sp vs H Q E → ∃ t, PSs (cxQ CX P w K mg base N qual sc f cdv A out s H E) bd t ∧ t { nx := fun _ H' => Q .non H', rt := Q } (L2.start N vs) H) :
    FnQ P w K mg base CX (k + 1) f (PySem.W.fnOf name qual pa bd sc dV kV doc pm an cdv ct) ps sp := ⟨ln, fun A out s H ag us vs Q E rm e0 bt rv hs => by
  have kx : K.In s.heap := e0.mod.kin.keeps fun b o e => (e0.bs b o e).1
  refine codeAny_call_function rm.depth (kx _ _ lk) rfl S.co S.gen rfl (PySem.W.codeRec_of kx hcd) (bt _ _ _ _ (wpAny_newFunctionEnv_cells S.kind (fun ⟨n, v⟩ hy => (S.par n (List.of_mem_zip hy).1).elim Or.inl fun q => .inr ⟨q, PySem.W.cellsFrom_some _ _ _ (.inl q)⟩) fun env he s1 x => ?_))
  subst he
  have nl : s1.heap.NoLimit := (e0.mod.nolimit.keeps fun b o e => (e0.bs b o e).1 : s.heap.NoLimit).keeps x.toInCall.keep
  obtain ⟨t, ht, hq⟩ := hbd A out s H vs Q E (rm.deeper _) hs
  refine ⟨nl, codeAny_func (wpAny_mono (ht.run [] s1 (L2.start N vs) H _ (startQ S e0 (ln _ _ _ _ hs) rv x) hq) (fun fl s2 z => ?_) fun _ _ z => z)⟩
  cases fl with
  | ret u => obtain ⟨v, σ2, H2, J, r2, q⟩ := z; exact ⟨v, H2, J.os, J.bare, J.base, J.hok, r2, q⟩
  | next => obtain ⟨σ2, H2, J, q⟩ := z; exact ⟨.non, H2, J.os, J.bare, J.base, J.hok, rfl, q⟩
  | brk => exact z.elim fun _ z => z.elim fun _ z => z.2.elim
  | cont => exact z.elim fun _ z => z.elim fun _ z => z.2.elim⟩
end
section
variable {X : Cx} {CX : CXT} {k : Nat} {f : Addr} {fd : FuncData} {ps : List Str} {sp : Sp} {E : L2.St → XK} {x : Str} {q pos : Pos} {e : Expr} {es : List Expr} {t : TA}
theorem FnQ.mono {j : Nat} (F : FnQ X.prog X.w X.K X.mg X.base CX j f fd ps sp) (h : j ≤ k) : FnQ X.prog X.w X.K X.mg X.base CX k f fd ps sp := ⟨F.len, fun A out s H ag us vs Q E hr => F.go A out s H ag us vs Q E (hr.mono h)⟩
theorem pe_callQ (F : FnQ X.prog X.w X.K X.mg X.base CX k f fd ps sp) (hr : RoomH k X.A) (hg : Gl X x) (hm : X.mg x = some (.ref f)) (hk : PySem.W.keepIn X.K (.ref f) = true) (hb : Binds X.K fd ps []) (hx : ∀ σ, PassesAt CX X σ (E σ)) (ha : PA X (e :: es) t)
    (hdb : (x == ("__debug__" : Str)) = false := by decide) (he : starEach (e :: es) X.env = (false, eval e X.env) :: starEach es X.env := by rfl) (hpl : (backTo pos (starEach es X.env)).any (·.1) = false := by rfl) : PE X (.Call (.Name x q) (e :: es) [] pos) (tCallS sp E t) := ⟨fun pins s σ H Q I h => by
  refine wpAny_Call_Name_kw (ld_glob I hg hm (PySem.W.callWith_K (h₀ := X.base) I.ok.mod.kin hk (thn (ha.run pos pins s σ H _ I h) fun us s1 ⟨vs, H1, I1, r, q⟩ => ⟨I1.kIn, ?_⟩) he hpl) hdb)
  have b := hb s1 us I1.kIn (by rw [List.append_nil, ← r.length]; exact F.len _ _ _ _ q)
  rw [List.append_nil] at b
  refine wpAny_call (codeAny_mono (F.go X.A X.stack s1 H1 ⟨us, []⟩ us vs Q (E σ) hr I1.env0 b r q) fun z s' hq => ?_)
  cases z with
  | error u => exact hx σ pins H1 s1 u s' I1 hq
  | ok fl => cases fl with
    | ret u => exact I1.after hq
    | _ => exact hq.elim⟩
end
section
variable {X : Cx} {pins : List (Addr × PySem.Obj)} {σ : L2.St} {H : Hp} {s : Shared}
theorem suiteQ (I : Inv X pins σ H s) (a : Addr) : Inv (X.suite a (X.pn ++ pins)) [] σ H s :=
  ⟨I.ok.suite _ _, I.os, I.bare, I.base, I.loc, I.cell, I.free, I.freeC, fun p hp => I.pin p (by rw [List.append_nil] at hp; exact hp), I.hok, I.len⟩
theorem unsuiteQ {a : Addr} {pn' : List (Addr × PySem.Obj)} (I : Inv (X.suite a (X.pn ++ pins)) pn' σ H s) (ok : X.Ok) : Inv X pins σ H s :=
  ⟨ok, I.os, I.bare, I.base, I.loc, I.cell, I.free, I.freeC, fun p hp => I.pin p (List.mem_append_left _ hp), I.hok, I.len⟩
end
/-- what the clause wishes of an exception: slot i is n's while the suite runs -/
def wSu (K : PySem.W.Frag) (c : Value) (i m : Nat) (ts : TS) (Wout : WX) (D : Ends) : WX := fun cls d σ H => ∃ b, PySem.W.exmOne K cls c = some b ∧
  (b = true → ∃ C, cls = .ref C ∧ ∀ a, H a = none → σ.length = m → ts { nx := fun σ6 H6 => D.nx (σ6.set i none) H6, rt := fun _ _ => False, bk := fun _ _ => False, ct := fun _ _ => False } (σ.set i (some (.ref a))) (upd H a (exO C d a))) ∧ (b = false → Wout cls d σ H)
section
variable {X : Cx} {x n : Str} {c : Value} {i : Nat} {body suite : List Stmt} {b₀ : Stmt} {np pos pos' : Pos} {tb : WX → TS} {ts : TS} {Wout : WX}
theorem ps_su (hs : X.stack = X.env :: X.outer) (hf : X.env.frame = some X.env.locals) (hex : X.ex = []) (oi : Own X i n) (hln : X.env.kindOf n = some .local) (hc : Names X x c) (tk : Takes X Wout)
    (hb : ∀ (W : WX) (pn : List (Addr × PySem.Obj)) (xe : Value → Shared → Prop), Takes (X.tr pn xe) W → PassesOwn (model X.prog X.w) X.A X.env xe → PSs (X.tr pn xe) body (tb W))
    (hsu : ∀ (a : Addr) (pn : List (Addr × PySem.Obj)), PSs (X.suite a pn) (b₀ :: suite) ts) :
    PS X (.Try body [.ExceptHandler (some (.Name x np)) (some n) (b₀ :: suite) pos'] [] [] pos) (fun D σ H => tb (wSu X.K c i X.N.length ts Wout D) D σ H) := by
  constructor
  intro pins s σ H D I h
  have ok := I.ok
  have fr : X.A.frames = some (X.env :: X.outer) := by rw [ok.frames, hs]
  let hl : List ExceptHandler := [.ExceptHandler (some (.Name x np)) (some n) (b₀ :: suite) pos']
  let xe' : Value → Shared → Prop := fun e s₁ => wpAny (model X.prog X.w) X.A (noteFrame e X.env) (fun _ s₂ => wpAny (model X.prog X.w) X.A (setFlight e none) (fun _ s₃ => wpAny (model X.prog X.w) X.A (handleBy e X.env hl) (SP X pins D) X.xe s₃) X.xe s₂) X.xe s₁
  have caught : Takes (X.tr (X.pn ++ pins) xe') (wSu X.K c i X.N.length ts Wout D) := by
    intro u s' xx
    obtain ⟨a, B, sI, pinsT, σ', H', cls, d, rfl, JT, nb, up, sky, na, os, ag, b, hb1, yes, no⟩ := xx
    have J : Inv X pins σ' H' sI := JT.ofTry ok
    have skyE : Sky B (X.env :: X.outer) a (Zc cls d) X.env.locals s'.heap := by rw [← hs]; exact sky
    show wpAny (model X.prog X.w) X.A (noteFrame (.ref a) X.env) _ _ _
    refine Sky.land Zc.steady fr hf skyE fun hA flA upA => ?_
    have B0 : B.get? a = none := flA.2.1
    have JA : Inv X pins σ' H' { s' with heap := hA } := J.landed nb flA.1 (up.trans upA) os ag
    obtain ⟨oA, vA, gA, zA, dA⟩ := flA.there
    have out : ∀ {h : Heap} {o : PySem.Obj} {vs : Array Value}, h.FunFrames B (X.env :: X.outer) → h.get? a = some o → o.data = .fields vs → a ∉ frs (X.env :: X.outer) := fun ff e dd m => by
      obtain ⟨_, o2, e2, bad⟩ := ff.mem m
      rw [e] at e2
      cases e2
      exact bad _ dd
    have nfr := out flA.2.2.1 gA dA
    have nL : a ≠ X.env.locals := fun q => nfr (List.mem_filterMap.mpr ⟨X.env, List.mem_cons_self, by rw [hf, q]⟩)
    have nF : a ∉ X.fs := fun m => by
      obtain ⟨e, he, q⟩ := List.mem_filterMap.mp m
      exact nfr (List.mem_filterMap.mpr ⟨e, List.mem_cons_of_mem _ he, q⟩)
    have new0 : X.s_0.heap.get? a = none := by
      cases e : X.s_0.heap.get? a with
      | none => rfl
      | some o =>
        obtain ⟨o', e'⟩ := J.base.there a o e (by rw [hex]; exact fun m => nomatch m)
        have q := nb a o' e' (by rw [hs]; exact nfr)
        rw [B0] at q
        cases q
    have npin : ∀ p ∈ X.pn ++ pins, p.1 ≠ a := fun p m q => by
      obtain ⟨q1, _⟩ := J.pin p m
      have r := nb p.1 p.2 q1 (by rw [hs, q]; exact nfr)
      rw [q, B0] at r
      cases r
    have SA := JA.suite gA dA na nL nF
    refine wpAny_handleBy_cons (codeAny_handlers_test ?_) (by intro q; cases q)
    have LT : PySem.W.Looks (model X.prog X.w) hA (typeOf (.ref a)) cls := fun A1 Q1 E1 s1 k q => wpAny_typeOf_ref (k _ _ gA) (by rw [zA.1]; exact q)
    have LM := PySem.W.exm_one (M := model X.prog X.w) JA.kIn LT hb1
    have named : ∀ {Q : Value → Shared → Prop} {E : Value → Shared → Prop}, Q c { s' with heap := hA } → wpAny (model X.prog X.w) (X.A.mark (some (.ref a))) (eval (.Name x np) X.env) Q E { s' with heap := hA } := fun q => by
      obtain ⟨g1, g2, g3 | ⟨g3, g4, g5⟩⟩ := hc
      · exact ld_glob (X := X.suite a ((a, oA) :: (X.pn ++ pins))) SA g1 g3 q g2
      · exact ld_blt (X := X.suite a ((a, oA) :: (X.pn ++ pins))) SA g1 g3 g4 q g5 g2
    refine named (LM.here ?_)
    cases b with
    | true =>
      obtain ⟨C, rfl, good⟩ := yes rfl
      refine codeAny_handlers_suite_as (HandSPX.lands_againZ flA fun hB flB upB => ?_)
      have JB : Inv X pins σ' H' { s' with heap := hB } := J.landed nb flB.1 ((up.trans upA).trans upB) os ag
      obtain ⟨oB, vB, gB, zB, dB⟩ := flB.there
      have JT := track JB na new0 gB zB dB npin nL
      refine store_ok (X := X.suite a (X.pn ++ pins)) (v := .ref a) (suiteQ JT a) oi.nd oi.s.n (.inl hln) rfl (fun s5 S5 => ?_) (.inr hln)
      refine wpAny_mono ((hsu a (X.pn ++ pins)).run [] s5 _ _ _ S5 (good a na J.len)) (fun f s6 sp => ?_) (fun _ _ q => False.elim q)
      cases f with
      | next =>
        obtain ⟨σ6, H6, S6, q⟩ := sp
        exact gone_ok (unsuiteQ S6 ok) oi.nd oi.s.n hln fun s7 J7 => ⟨_, _, J7, q⟩
      | brk => obtain ⟨_, _, _, q⟩ := sp; exact q.elim
      | cont => obtain ⟨_, _, _, q⟩ := sp; exact q.elim
      | ret u => obtain ⟨_, _, _, _, _, q⟩ := sp; exact q.elim
    | false =>
      show wpAny _ X.A (handleBy (.ref a) X.env []) _ _ _
      refine wpAny_handleBy_nil ?_
      obtain ⟨_, _, _, o2, v2, T, _, _, e2, z2, d2, f2, _⟩ := id flA
      have last : wpAny (model X.prog X.w) X.A (setFlight (.ref a) X.env.frame) (fun _ s4 => wpAny (model X.prog X.w) X.A (throw (.ref a) : Sem Flow) (SP X pins D) X.xe s4) X.xe { s' with heap := hA } := by
        rw [hf]
        exact HandSPX.setFlight_upZ flA fun hC heldC upC => wpAny_throw (tk _ _ ⟨a, B, sI, pins, σ', H', cls, d, rfl, J, nb, (up.trans upA).trans upC, .inr (.inr (by rw [hs]; exact heldC)), na, os, ag, no rfl⟩)
      unfold PySem.passOn
      refine wpAny_bind (wpAny_field e2 d2 f2 ?_)
      rw [if_neg (show ¬ ((Value.ref T == Value.none) = true) by simp)]
      first
        | exact wpAny_bind (wpAny_pure (wpAny_bind last))
        | exact wpAny_bind last
  refine wpAny_Try_except (wpAny_mono ((hb _ _ xe' caught PassesOwn.looking).run [] s σ H D (I.toTry _) h) (fun f s1 sp => ?_) (fun e s1 he => he))
  cases f with
  | next =>
    obtain ⟨σ1, H1, J1, q⟩ := sp
    exact wpAny_execs_nil ⟨σ1, H1, J1.ofTry ok, q⟩
  | brk =>
    obtain ⟨σ1, H1, J1, q⟩ := sp
    exact ⟨σ1, H1, J1.ofTry ok, q⟩
  | cont =>
    obtain ⟨σ1, H1, J1, q⟩ := sp
    exact ⟨σ1, H1, J1.ofTry ok, q⟩
  | ret u =>
    obtain ⟨v, σ1, H1, J1, r, q⟩ := sp
    exact ⟨v, σ1, H1, J1.ofTry ok, r, q⟩
end
end DW
/-! DW36: the rules on top: calls in an except suite; a try whose body raises nothing. -/
namespace DW
open PySem L2 Evl QW
open PySem.Spec PyProof.Rows
open L2H (RoomH)
local macro_rules | `(tactic| walk_at "perm") => `(tactic| (refine List.perm_iff_count.mpr fun _ => ?_; simp only [List.count_append, List.count_nil]; omega))
structure BdQ (X : Cx) (N : List Str) (sc : Scope) (k : Nat) : Prop where
  n : X.N = N
  sc : X.env.scope = sc
  fn : ∀ x, X.fn x = true
  room : RoomH k X.A
  po : PassesOwn (model X.prog X.w) X.A X.env X.xe
  nd : X.N.Nodup
structure CxtQ (Pr : World → PySem.W.Frag → (Str → Option Value) → Prop) (X : Cx) (k : Nat) : Prop where
  T : Pr X.w X.K X.mg
  room : RoomH k X.A
section
variable {Pr : World → PySem.W.Frag → (Str → Option Value) → Prop} {X X' : Cx} {N : List Str} {sc : Scope} {k i : Nat} {x : Str}
theorem CxtQ.u (c : CxtQ Pr X k) : X.A.units + 64 < cLine := by have := c.room.un; omega
theorem CxtQ.u1 (c : CxtQ Pr X k) : X.A.units + 1 < cLine := by have := c.room.un; omega
theorem CxtQ.u65 (c : CxtQ Pr X k) : X.A.units + 65 < cLine := by have := c.room.un; omega
theorem BdQ.own (b : BdQ X N sc k) (h : N[i]? = some x) (hl : Loc sc x) (d : (x == ("__debug__" : Str)) = false := by decide +kernel) (d2 : (x == ("__classdict__" : Str)) = false := by decide +kernel) : Own X i x :=
  have hv : Loc X.env.scope x := by rw [b.sc]; exact hl
  ⟨⟨by rw [b.n]; exact h, hv.elim Or.inl fun z => .inr (.inl z), d, d2⟩, hv, b.fn x, b.nd⟩
theorem BdQ.gl (b : BdQ X N sc k) (h : sc.names.lookup x = some .globalImplicit) : Gl X x := by
  show X.env.scope.names.lookup x = _
  rw [b.sc]; exact h
/-- an except suite's context -/
def SuX (X X' : Cx) : Prop := ∃ a pn, X' = X.suite a pn
theorem ownSu (o : Own X i x) (t : SuX X X') : Own X' i x := by
  obtain ⟨a, pn, rfl⟩ := t
  exact ⟨⟨o.s.n, o.s.v, o.s.d, o.s.d2⟩, o.l, o.f, o.nd⟩
theorem glSu (g : Gl X x) (t : SuX X X') : Gl X' x := by
  obtain ⟨a, pn, rfl⟩ := t
  exact g
theorem cxSu (c : Cxt Pr X k) (t : SuX X X') : CxtQ Pr X' k := by
  obtain ⟨a, pn, rfl⟩ := t
  exact ⟨c.T, ⟨c.room.dp, c.room.un⟩⟩
end
structure CalleeQ (P : Program) (w : World) (K : PySem.W.Frag) (mg : Str → Option Value) (base : Heap) (k : Nat) (x : Str) (sp : Sp) : Prop where
  ex : ∃ (f : Addr) (fd : FuncData) (ps : List Str), FnQ P w K mg base (L2.CX P w) k f fd ps sp ∧ mg x = some (.ref f) ∧ PySem.W.keepIn K (.ref f) = true ∧ Binds K fd ps []
section
variable {P : Program} {w : World} {K : PySem.W.Frag} {mg : Str → Option Value} {base : Heap} {x : Str} {st : Stmt} {N ps : List Str} {k np : Nat} {f : Fn}
theorem calleeQ_D (F : At K mg x st []) (S : FnScope N ps (defScope st)) (hb : ∀ (kV doc pm : Value) (an : Option Addr) (cdv ct : Value) (us : List Value), us.length = ps.length → bindArgs (PySem.W.fnOf x x (defArgs st) (defBody st) (defScope st) .none kV doc pm an cdv ct) ⟨us, []⟩ = pure (ps.zip us))
    (hn : f.n = N.length) (hp : np = ps.length) (h : ∀ X : Cx, X.prog = P → X.w = w → X.K = K → X.mg = mg → X.base = base → BdQ X N (defScope st) k → ∀ W, Takes X W → ExS X W f.S (defBody st) f.F) : CalleeQ P w K mg base (k + 1) x (spD np f K) := by
  obtain ⟨fa, fd, F, hm⟩ := F
  refine ⟨fa, fd, ps, ?_, hm, F.kp, F.bindsN hb⟩
  obtain ⟨oc, od, dV, kV, doc, pm, an, cdv, ct, osl, rfl, lk, hcd, _, _⟩ := F.ex
  refine fnQ_mk lk hcd S (fun vs H Q E sp => by obtain ⟨_, _, _, _, hl, _⟩ := sp; rw [hl, hp]) fun A out s H vs Q E rm hsp => ⟨_, pSs, ?_⟩
  exact run_body (X := cxQ (L2.CX P w) P w K mg base N x (defScope st) fa cdv A out s H E) (W := fun c d _ H => E c d H) hn (h _ rfl rfl rfl rfl rfl ⟨rfl, rfl, fun _ => rfl, rm, passes_of rfl, S.nd⟩ _ (takes_of rfl rfl rfl rfl)) hsp
end
section
variable {X : Cx} {W : WX} {e : Expr} {es : List Expr} {a : Env → R (List Opd)} {x : Str} {k j np : Nat} {f : Fn} {p pos : Pos}
theorem evr_callQ {Pr : World → PySem.W.Frag → (Str → Option Value) → Prop} (c : CxtQ Pr X k) (C : CalleeQ X.prog X.w X.K X.mg X.base j x (spD np f X.K)) (hj : j ≤ k) (hg : Gl X x) (tk : Takes X W) (hl : (e :: es).length = np) (h : EvA X W (e :: es) a) (hal : ALen a (e :: es).length) (hdb : (x == ("__debug__" : Str)) = false := by decide +kernel)
    (he : starEach (e :: es) X.env = (false, eval e X.env) :: starEach es X.env := by rfl) (hpl : (backTo pos (starEach es X.env)).any (·.1) = false := by rfl) : EvR X W (.Call (.Name x p) (e :: es) [] pos) (callR f [] a) := ⟨fun E σ B l fr H Q re cf af => by
  obtain ⟨fa, fd, ps, F, hm, hk, hb⟩ := C.ex
  refine wE_of (pe_callQ F (c.room.mono hj) hg hm hk hb (fun σ => passAt tk σ) pA hdb he hpl) ?_
  refine h.run E σ B l fr H _ re cf (After.first (β := V) (δ := List V) af fun os E1 vs B1 l1 fp1 H1 ho x1 re1 rv1 cf1 af1 => ?_)
  have len : os.length = vs.length := rv1.len
  have z := call_ok (np := np) (dfl := []) (dvs := []) rv1 re1 cf1 (by rw [List.append_nil, ← len, hal E os E1 ho]; exact hl) (fun _ => nodfl) af1
  rw [List.append_nil] at z
  exact z⟩
end
/-- try: body, except x as n: suite; the suite runs to its end -/
def sTryS (x : Str) (i : Nat) (Fb Fs F : Env → Out) : Env → Out := fun E => match Fb E with
  | .exc c ns vs E1 => if (isExc c && (isExc x && allC.contains x)) = true then (if subB c x = true then (match Fs (E1.set i (some (.exn c ns vs))) with
    | .nxt E2 => F (E2.set i none)
    | _ => .bad) else .exc c ns vs E1) else .bad
  | .nxt E1 => F E1
  | o => o
section
variable {X : Cx} {W : WX} {S : List Nat} {N : List Str} {sc : Scope} {x n : Str} {i k : Nat} {body suite rest : List Stmt} {b₀ : Stmt} {np pos pos' : Pos} {Fb Fs F : Env → Out}
theorem exs_tryS (b : Bd X N sc k) (oi : Own X i n) (hln : sc.names.lookup n = some .local) (hi : i ∉ S) (hg : Gl X x) (hm : X.mg x = some (.ref (He.ga X.K x))) (hbd : bndB X.K x = true) (tk : Takes X W)
    (hb : ∀ X', TrX X X' → ∀ W', Takes X' W' → ExS X' W' S body Fb) (hsu : ∀ X', SuX X X' → ∀ W', Takes X' W' → ExS X' W' S (b₀ :: suite) Fs) (hF : ExS X W S rest F) (hdb : (x == ("__debug__" : Str)) = false := by decide +kernel) :
    ExS X W S (.Try body [.ExceptHandler (some (.Name x np)) (some n) (b₀ :: suite) pos'] [] [] pos :: rest) (sTryS x i Fb Fs F) := ⟨fun E σ B l fr H N0 re cf af => by
  have hln' : X.env.kindOf n = some .local := by
    show X.env.scope.names.lookup n = some .local
    rw [b.sc]; exact hln
  refine s_of (ps_su b.stk b.frm b.ex oi hln' ⟨hg, hdb, .inl hm⟩ tk (tb := fun W' D σ H => ∀ pn xe, Takes (X.tr pn xe) W' → PassesOwn (model X.prog X.w) X.A X.env xe → wSs (X.tr pn xe) body D σ H) (ts := fun D σ H => ∀ a pn, wSs (X.suite a pn) (b₀ :: suite) D σ H) (fun W' pn xe t po => ⟨fun pins s σ H D I h => h pn xe t po pins s I⟩) (fun a pn => ⟨fun pins s σ H D I h => h a pn pins s I⟩)) ?_
  intro pn xe t po
  refine (hb (X.tr pn xe) ⟨pn, xe, rfl, po⟩ _ t).run E σ B l fr H _ re cf ?_
  unfold sTryS at af
  cases ho : Fb E with
  | nxt E1 => rw [ho] at af; exact fun σ' B' l' H' x1 re1 p1 cf1 => hF.run E1 σ' B' l' fr H' N0 re1 cf1 (AfterS.up x1 p1 af)
  | brk E1 => rw [ho] at af; exact af
  | cnt E1 => rw [ho] at af; exact af
  | ret d E1 => rw [ho] at af; exact af
  | bad => rw [ho] at af; exact af.elim
  | exc c ns vs E1 =>
    rw [ho] at af
    intro cls dx σ' B' l' H' x1 re1 rx p1 cf1
    dsimp only at af
    by_cases hc : (isExc c && (isExc x && allC.contains x)) = true
    · rw [if_pos hc] at af
      obtain ⟨h1, h2⟩ := ba2 hc
      obtain ⟨h2, h3⟩ := ba2 h2
      obtain ⟨⟨hcls, pr⟩, hd⟩ := rx
      refine ⟨subB c x, by rw [hcls]; exact pr.exm h1 h2 hbd h3, fun hs => ?_, fun hs => ?_⟩
      · rw [if_pos hs] at af
        refine ⟨_, hcls, fun a ha hlen a2 pn2 => ?_⟩
        obtain ⟨B2, x2, c2, hB⟩ := Cfg.seen (o := exO (He.ga X.K c) dx a) cf1 ha
        have rv : Rep X.K B2 (.exn c ns vs) (.ref a) [] := by
          refine ⟨⟨rfl, pr, h1⟩, a, dx, rfl, hB, ?_⟩
          rcases hd with ⟨h4, h5, h6⟩ | ⟨p, ws, h4, h5, h6, h7⟩
          · exact .inl ⟨h4, h5, h6⟩
          · exact .inr ⟨p, ws, h4, x2 _ _ h5, h6, h7.mono x2⟩
        have li : i < E1.length := by rw [re1.len, hlen]; exact (List.getElem?_eq_some_iff.mp oi.s.n).1
        obtain ⟨l2, g2, re2, pm2⟩ := rel_put (re1.mono x2) li rv
        have cf2 : Cfg B2 (l2 ++ fr) (upd H' a (exO (He.ga X.K c) dx a)) := Cfg.dropL (a := g2) (Cfg.perm c2 (by
          refine List.perm_iff_count.mpr fun a => ?_
          have h1 := List.perm_iff_count.mp pm2 a
          simp only [List.count_append] at h1 ⊢
          omega))
        refine (hsu (X.suite a2 pn2) ⟨a2, pn2, rfl⟩ (fun _ _ _ _ => False) (fun u s' z => by obtain ⟨_, _, _, _, _, _, _, _, _, _, _, _, _, _, _, _, q⟩ := z; exact q.elim)).run _ _ B2 l2 fr _ _ re2 cf2 ?_
        cases hf : Fs (E1.set i (some (.exn c ns vs))) with
        | nxt E2 =>
          rw [hf] at af
          intro σ3 B3 l3 H3 x3 re3 p3 cf3
          obtain ⟨l4, g4, re4, pm4⟩ := rel_wipe1 (i := i) (s := none) re3
          refine hF.run _ _ B3 l4 fr _ N0 re4 (Cfg.dropL (a := g4) (Cfg.perm cf3 ?_)) (AfterS.up ((x1.trans x2).trans x3) (((p1.trans (Par.set hi)).trans p3).trans (Par.set hi)) af)
          refine List.perm_iff_count.mpr fun a => ?_
          have h2 := List.perm_iff_count.mp pm4 a
          simp only [List.count_append] at h2 ⊢
          omega
        | brk E2 => rw [hf] at af; exact af.elim
        | cnt E2 => rw [hf] at af; exact af.elim
        | ret d E2 => rw [hf] at af; exact af.elim
        | bad => rw [hf] at af; exact af.elim
        | exc c' ns' vs' E2 => rw [hf] at af; exact af.elim
      · rw [if_neg (by rw [hs]; exact Bool.false_ne_true)] at af
        exact af cls dx σ' B' l' H' x1 re1 ⟨⟨hcls, pr⟩, hd⟩ p1 cf1
    · rw [if_neg hc] at af; exact af.elim⟩
end
/-- try: body, that raises nothing -/
def sTryN (Fb F : Env → Out) : Env → Out := fun E => match Fb E with
  | .exc _ _ _ _ => .bad
  | .nxt E1 => F E1
  | o => o
section
variable {X : Cx} {W : WX} {S : List Nat} {N : List Str} {sc : Scope} {k : Nat} {body rest : List Stmt} {h0 : ExceptHandler} {hs : List ExceptHandler} {pos : Pos} {tb : TS} {Fb F : Env → Out}
theorem takes_no {X : Cx} : Takes X (fun _ _ _ _ => False) := fun u s' z => by
  obtain ⟨_, _, _, _, _, _, _, _, _, _, _, _, _, _, _, _, q⟩ := z
  exact q.elim
theorem ps_tryN (hb : ∀ (pn : List (Addr × PySem.Obj)) (xe : Value → Shared → Prop), PassesOwn (model X.prog X.w) X.A X.env xe → PSs (X.tr pn xe) body tb) : PS X (.Try body (h0 :: hs) [] [] pos) tb := by
  constructor
  intro pins s σ H D I h
  have ok := I.ok
  let xe' : Value → Shared → Prop := fun e s₁ => wpAny (model X.prog X.w) X.A (noteFrame e X.env) (fun _ s₂ => wpAny (model X.prog X.w) X.A (setFlight e none) (fun _ s₃ => wpAny (model X.prog X.w) X.A (handleBy e X.env (h0 :: hs)) (SP X pins D) X.xe s₃) X.xe s₂) X.xe s₁
  refine wpAny_Try_except (wpAny_mono ((hb _ xe' PassesOwn.looking).run [] s σ H D (I.toTry _) h) (fun f s1 sp => ?_) (fun e s1 he => he))
  cases f with
  | next => obtain ⟨σ1, H1, J1, q⟩ := sp; exact wpAny_execs_nil ⟨σ1, H1, J1.ofTry ok, q⟩
  | brk => obtain ⟨σ1, H1, J1, q⟩ := sp; exact ⟨σ1, H1, J1.ofTry ok, q⟩
  | cont => obtain ⟨σ1, H1, J1, q⟩ := sp; exact ⟨σ1, H1, J1.ofTry ok, q⟩
  | ret u => obtain ⟨v, σ1, H1, J1, r, q⟩ := sp; exact ⟨v, σ1, H1, J1.ofTry ok, r, q⟩
theorem exs_tryN (hb : ∀ X', TrX X X' → ∀ W', Takes X' W' → ExS X' W' S body Fb) (hF : ExS X W S rest F) : ExS X W S (.Try body (h0 :: hs) [] [] pos :: rest) (sTryN Fb F) := ⟨fun E σ B l fr H N0 re cf af => by
  refine s_of (ps_tryN (tb := fun D σ H => ∀ pn xe, PassesOwn (model X.prog X.w) X.A X.env xe → wSs (X.tr pn xe) body D σ H) (fun pn xe po => ⟨fun pins s σ H D I h => h pn xe po pins s I⟩)) ?_
  intro pn xe po
  refine (hb (X.tr pn xe) ⟨pn, xe, rfl, po⟩ _ takes_no).run E σ B l fr H _ re cf ?_
  unfold sTryN at af
  cases ho : Fb E with
  | nxt E1 => rw [ho] at af; exact fun σ' B' l' H' x1 re1 p1 cf1 => hF.run E1 σ' B' l' fr H' N0 re1 cf1 (AfterS.up x1 p1 af)
  | brk E1 => rw [ho] at af; exact af
  | cnt E1 => rw [ho] at af; exact af
  | ret d E1 => rw [ho] at af; exact af
  | bad => rw [ho] at af; exact af.elim
  | exc c ns vs E1 => rw [ho] at af; exact af.elim⟩
end
theorem ap_sTryN {Fb F : Env → Out} {E : Env} : sTryN Fb F E = match Fb E with
  | .exc _ _ _ _ => .bad
  | .nxt E1 => F E1
  | o => o := Eq.trans rfl rfl
end DW
namespace FN
open PySem L2 Evl QW DW
noncomputable def F_l_at : DW.Env → Out :=
  sIf (tV (op2 ltD (oN 1) (oR (op1 lenD (oN 0))))) (sRet (op2 idxD (oN 0) (oN 1))) (sNil) <|
  sRet (op2 addD (oR (op2 mulD (oR (rC (.int 3))) (oN 1))) (oR (rC (.int 1))))
noncomputable def fn_l_at : Fn := ⟨2, [0, 1], F_l_at⟩
end FN
namespace FN
open PySem L2 Evl QW DW
noncomputable def F_l_sums : DW.Env → Out :=
  sSet 1 (lstR (aC (oR (rC (.int 1))) (aN))) <|
  sFor (rng2 (aC (oR (rC (.int 1))) (aC (oR (op2 addD (oN 0) (oR (rC (.int 1))))) (aN)))) (bN 2) (sExpr (mApp 1 (op1 sumD (oR (lcR [3] (rng1 (aC (oN 2) (aN))) (bN 3) (tYesD) (op2 mulD (oR (op2 idxD (oN 1) (oN 3))) (oR (op2 idxD (oN 1) (oR (op2 subD (oR (op2 subD (oN 2) (oR (rC (.int 1))))) (oN 3)))))))))) <|
  sNil) <|
  sRet (rN 1)
noncomputable def fn_l_sums : Fn := ⟨4, [0], F_l_sums⟩
end FN
namespace FN
open PySem L2 Evl QW DW
noncomputable def F_l_threes : DW.Env → Out :=
  sSet 1 (rC (.int 1)) <|
  sFor (rng1 (aC (oN 0) (aN))) (bN 2) (sSet 1 (op2 mulD (oN 1) (oR (rC (.int 3)))) <|
  sNil) <|
  sRet (rN 1)
noncomputable def fn_l_threes : Fn := ⟨3, [0], F_l_threes⟩
end FN
namespace FN
open PySem L2 Evl QW DW
noncomputable def F_l_whole : DW.Env → Out :=
  sRet (rAndV (op1 (isiX "int") (oN 0)) (rNotV (op1 (isiX "bool") (oN 0))))
noncomputable def fn_l_whole : Fn := ⟨1, [0], F_l_whole⟩
end FN
namespace FN
open PySem L2 Evl QW DW
noncomputable def F_l_no_count : DW.Env → Out :=
  sSet 1 (op2 modD (oR (op2 fdivD (oN 0) (oR (rC (.int 9))))) (oR (op2 powD (oR (rC (.int 10))) (oR (rC (.int 60)))))) <|
  sRet (op2 idxD (oF (oR (lstR (aC (oR (op2 subD (oR (op2 subD (oR (rC (.int 0))) (oR (rC (.int 1))))) (oN 1))) (aC (oR (op2 addD (oR (rC (.int 61))) (oN 1))) (aC (oR (rC (.bl true))) (aC (oR (rC .non)) (aC (oR (rC (.str "7"))) (aC (oR (rF (lstR (aC (oR (rC (.int 7))) (aN))))) (aC (oR (rF (tupR (aC (oR (rC (.int 7))) (aN))))) (aC (oR (rC (.int 61))) (aC (oR (rC (.bl false))) (aN))))))))))))) (oR (op2 modD (oN 0) (oR (rC (.int 9))))))
noncomputable def fn_l_no_count : Fn := ⟨2, [0], F_l_no_count⟩
end FN
namespace FN
open PySem L2 Evl QW DW
noncomputable def F_is_whole : DW.Env → Out :=
  sRet (rAndV (op1 (isiX "int") (oN 0)) (rNotV (op1 (isiX "bool") (oN 0))))
noncomputable def fn_is_whole : Fn := ⟨1, [0], F_is_whole⟩
end FN
namespace FN
open PySem L2 Evl QW DW
noncomputable def F_look_count : DW.Env → Out :=
  sIf (tOrD (tNotD (tO (oR (callR fn_is_whole [] (aC (oN 0) (aN)))))) (tOrD (tV (op2 ltD (oN 0) (oN 1))) (tV (op2 gtD (oN 0) (oN 2))))) (sRz0 "NoCount") (sNil) <|
  sNil
noncomputable def fn_look_count : Fn := ⟨3, [0, 1, 2], F_look_count⟩
end FN
namespace FN
open PySem L2 Evl QW DW
noncomputable def F_words_of : DW.Env → Out :=
  sSet 1 (rC (.int 1)) <|
  sFor (rng1 (aC (oN 0) (aN))) (bN 2) (sSet 1 (op2 fdivD (oR (op2 mulD (oR (op2 mulD (oN 1) (oR (rC (.int 2))))) (oR (op2 addD (oR (op2 mulD (oR (rC (.int 2))) (oN 2))) (oR (rC (.int 1))))))) (oR (op2 addD (oN 2) (oR (rC (.int 2)))))) <|
  sNil) <|
  sRet (rN 1)
noncomputable def fn_words_of : Fn := ⟨3, [0], F_words_of⟩
end FN
namespace FN
open PySem L2 Evl QW DW
noncomputable def F_count_words : DW.Env → Out :=
  sExpr (callR fn_look_count [] (aC (oN 0) (aC (oR (rC (.int 0))) (aC (oR (rC (.int 60))) (aN))))) <|
  sRet (callR fn_words_of [] (aC (oN 0) (aN)))
noncomputable def fn_count_words : Fn := ⟨1, [0], F_count_words⟩
end FN
namespace FN
open PySem L2 Evl QW DW
noncomputable def F_threes : DW.Env → Out :=
  sSet 1 (rC (.int 1)) <|
  sFor (rng1 (aC (oN 0) (aN))) (bN 2) (sAug 1 augMulD (rC (.int 3)) <|
  sNil) <|
  sRet (rN 1)
noncomputable def fn_threes : Fn := ⟨3, [0], F_threes⟩
end FN
namespace FN
open PySem L2 Evl QW DW
noncomputable def F_count_woods : DW.Env → Out :=
  sSet 1 (callR fn_count_words [] (aC (oN 0) (aN))) <|
  sRet (op2 mulD (oR (callR fn_threes [] (aC (oN 0) (aN)))) (oN 1))
noncomputable def fn_count_woods : Fn := ⟨2, [0], F_count_woods⟩
end FN
namespace FN
open PySem L2 Evl QW DW
noncomputable def F_count_mixed : DW.Env → Out :=
  sRet (op2 mulD (oR (callR fn_count_words [] (aC (oN 0) (aN)))) (oR (callR fn_words_of [] (aC (oR (op2 addD (oN 0) (oR (rC (.int 1))))) (aN)))))
noncomputable def fn_count_mixed : Fn := ⟨1, [0], F_count_mixed⟩
end FN
namespace FN
open PySem L2 Evl QW DW
noncomputable def F_count_maps : DW.Env → Out :=
  sRet (op2 fdivD (oR (op2 mulD (oR (rC (.int 2))) (oR (callR fn_count_woods [] (aC (oN 0) (aN)))))) (oR (op2 addD (oN 0) (oR (rC (.int 2))))))
noncomputable def fn_count_maps : Fn := ⟨1, [0], F_count_maps⟩
end FN
namespace FN
open PySem L2 Evl QW DW
noncomputable def F_l_class : DW.Env → Out :=
  sSet 1 (lstR (aC (oR (op1 (isiO "Bare") (oN 0))) (aC (oR (op1 (isiO "Bridge") (oN 0))) (aC (oR (op1 (isiO "Loop") (oN 0))) (aN))))) <|
  sSet 1 (op2 addD (oN 1) (oR (lstR (aC (oR (op1 (isiO "NoBall") (oN 0))) (aC (oR (op1 (isiO "NoCount") (oN 0))) (aC (oR (op1 (isiO "NoDeed") (oN 0))) (aN))))))) <|
  sSet 1 (op2 addD (oN 1) (oR (lstR (aC (oR (op1 (isiO "NoEnd") (oN 0))) (aC (oR (op1 (isiO "NoJumps") (oN 0))) (aC (oR (op1 (isiO "NoMark") (oN 0))) (aN))))))) <|
  sSet 1 (op2 addD (oN 1) (oR (lstR (aC (oR (op1 (isiO "NoName") (oN 0))) (aC (oR (op1 (isiO "NoNumber") (oN 0))) (aC (oR (op1 (isiO "NoText") (oN 0))) (aN))))))) <|
  sSet 1 (op2 addD (oN 1) (oR (lstR (aC (oR (op1 (isiO "NoTie") (oN 0))) (aC (oR (op1 (isiO "NoTurns") (oN 0))) (aC (oR (op1 (isiO "NoWay") (oN 0))) (aN))))))) <|
  sSet 1 (op2 addD (oN 1) (oR (lstR (aC (oR (op1 (isiO "NoWhole") (oN 0))) (aC (oR (op1 (isiO "NoWord") (oN 0))) (aC (oR (op1 (isiO "NotFour") (oN 0))) (aN))))))) <|
  sSet 1 (op2 addD (oN 1) (oR (lstR (aC (oR (op1 (isiO "NotTree") (oN 0))) (aN))))) <|
  sIf (tOrD (tNotD (tO (oR (op1 (isiO "QuadError") (oN 0))))) (tOrD (tNotD (tO (oR (op1 (isiX "ValueError") (oN 0))))) (tV (op2 neD (oR (m1L lcountD (oN 1) (oR (rC (.bl true))))) (oR (rC (.int 1))))))) (sRet (rC (.str ""))) (sNil) <|
  sSet 2 (lstR (aC (oR (rC (.str "Bare"))) (aC (oR (rC (.str "Bridge"))) (aC (oR (rC (.str "Loop"))) (aC (oR (rC (.str "NoBall"))) (aC (oR (rC (.str "NoCount"))) (aC (oR (rC (.str "NoDeed"))) (aC (oR (rC (.str "NoEnd"))) (aC (oR (rC (.str "NoJumps"))) (aC (oR (rC (.str "NoMark"))) (aC (oR (rC (.str "NoName"))) (aN)))))))))))) <|
  sSet 2 (op2 addD (oN 2) (oR (lstR (aC (oR (rC (.str "NoNumber"))) (aC (oR (rC (.str "NoText"))) (aC (oR (rC (.str "NoTie"))) (aC (oR (rC (.str "NoTurns"))) (aC (oR (rC (.str "NoWay"))) (aC (oR (rC (.str "NoWhole"))) (aC (oR (rC (.str "NoWord"))) (aC (oR (rC (.str "NotFour"))) (aC (oR (rC (.str "NotTree"))) (aN))))))))))))) <|
  sRet (op2 idxD (oN 2) (oR (m1L lindexD (oN 1) (oR (rC (.bl true))))))
noncomputable def fn_l_class : Fn := ⟨3, [0], F_l_class⟩
end FN
namespace FN
open PySem L2 Evl QW DW
noncomputable def F_l_asked_2 : DW.Env → Out :=
  sSet 2 (rC .non) <|
  sTryS "QuadError" 3 (sIf (tV (op2 eqD (oN 0) (oR (rC (.int 0))))) (sSet 2 (callR fn_count_words [] (aC (oN 1) (aN))) <|
  sNil) (sIf (tV (op2 eqD (oN 0) (oR (rC (.int 1))))) (sSet 2 (callR fn_count_woods [] (aC (oN 1) (aN))) <|
  sNil) (sIf (tV (op2 eqD (oN 0) (oR (rC (.int 2))))) (sSet 2 (callR fn_count_mixed [] (aC (oN 1) (aN))) <|
  sNil) (sSet 2 (callR fn_count_maps [] (aC (oN 1) (aN))) <|
  sNil) <|
  sNil) <|
  sNil) <|
  sNil) (sSet 2 (callR fn_l_class [] (aC (oN 3) (aN))) sNil) <|
  sRet (rN 2)
noncomputable def fn_l_asked_2 : Fn := ⟨4, [0, 1], F_l_asked_2⟩
end FN
namespace FN
open PySem L2 Evl QW DW
noncomputable def F_l_right_6 : DW.Env → Out :=
  sSet 2 (lcR [3] (rng1 (aC (oR (rC (.int 4))) (aN))) (bN 3) (tYesD) (rF (callR fn_l_asked_2 [] (aC (oN 3) (aC (oN 0) (aN)))))) <|
  sIf (tV (op2 neD (oR (lcR [4] (iO (oR (rN 2))) (bN 4) (tNotD (tO (oR (callR fn_l_whole [] (aC (oN 4) (aN)))))) (rN 4))) (oR (lstR (aN))))) (sRet (rC (.bl false))) (sNil) <|
  sIf (tOrD (tV (op2 neD (oR (sliceR (oN 2) (pN) (pS (oR (rC (.int 2)))))) (oR (lstR (aC (oR (rF (op2 idxD (oN 1) (oN 0)))) (aC (oR (op2 mulD (oR (op2 idxD (oN 1) (oN 0))) (oR (callR fn_l_threes [] (aC (oN 0) (aN)))))) (aN))))))) (tV (op2 neD (oR (op2 idxD (oN 2) (oR (rC (.int 2))))) (oR (op2 mulD (oR (op2 idxD (oN 1) (oN 0))) (oR (op2 idxD (oN 1) (oR (op2 addD (oN 0) (oR (rC (.int 1)))))))))))) (sRet (rC (.bl false))) (sNil) <|
  sIf (tV (op2 neD (oN 2) (oR (lstR (aC (oR (rF (callWR fn_count_words [0] [] (aC (oN 0) (aN))))) (aC (oR (rF (callWR fn_count_woods [0] [] (aC (oN 0) (aN))))) (aC (oR (rF (callWR fn_count_mixed [0] [] (aC (oN 0) (aN))))) (aC (oR (rF (callWR fn_count_maps [0] [] (aC (oN 0) (aN))))) (aN))))))))) (sRet (rC (.bl false))) (sNil) <|
  sRet (op2 eqD (oR (op2 mulD (oR (op2 idxD (oN 2) (oR (rC (.int 3))))) (oR (op2 addD (oN 0) (oR (rC (.int 2))))))) (oR (op2 mulD (oR (rC (.int 2))) (oR (op2 idxD (oN 2) (oR (rC (.int 1))))))))
noncomputable def fn_l_right_6 : Fn := ⟨5, [0, 1], F_l_right_6⟩
end FN
namespace FN
open PySem L2 Evl QW DW
noncomputable def F_law_13 : DW.Env → Out :=
  sSet 1 (callR fn_l_sums [] (aC (oR (rC (.int 61))) (aN))) <|
  sSet 2 (op2 modD (oR (callR fn_l_at [] (aC (oN 0) (aC (oR (rC (.int 0))) (aN))))) (oR (rC (.int 61)))) <|
  sFor (rng1 (aC (oR (rC (.int 61))) (aN))) (bN 3) (sIf (tNotD (tO (oR (callR fn_l_right_6 [] (aC (oR (op2 modD (oR (op2 addD (oN 2) (oR (op2 mulD (oR (rC (.int 7))) (oN 3))))) (oR (rC (.int 61))))) (aC (oN 1) (aN))))))) (sRet (rC (.bl false))) (sNil) <|
  sNil) <|
  sFor (iO (oR (op2 addD (oR (sliceR (oN 0) (pN) (pS (oR (rC (.int 12)))))) (oR (lstR (aC (oR (rC (.int 4))) (aN))))))) (bN 4) (sSet 5 (callR fn_l_no_count [] (aC (oN 4) (aN))) <|
  sFor (rng1 (aC (oR (rC (.int 2))) (aN))) (bN 3) (sIf (tV (op2 neD (oR (lcR [6] (rng1 (aC (oR (rC (.int 4))) (aN))) (bN 6) (tYesD) (rF (callR fn_l_asked_2 [] (aC (oN 6) (aC (oN 5) (aN))))))) (oR (op2 mulD (oR (lstR (aC (oR (rC (.str "NoCount"))) (aN)))) (oR (rC (.int 4))))))) (sRet (rC (.bl false))) (sNil) <|
  sNil) <|
  sNil) <|
  sRet (rAndV (callR fn_l_right_6 [] (aC (oN 2) (aC (oN 1) (aN)))) (callR fn_l_right_6 [] (aC (oR (rC (.int 60))) (aC (oN 1) (aN)))))
noncomputable def fn_law_13 : Fn := ⟨7, [0], F_law_13⟩
end FN
/-! P0: texts of brackets. -/
namespace FN
open PySem L2 Evl QW DW
def cp (b : Bool) : Nat := if b = true then 40 else 41
/-- the rest of a word, h brackets open -/
def Wd : List Bool → Nat → Prop
  | [], h => h = 0
  | true :: t, h => Wd t (h + 1)
  | false :: t, h => 0 < h ∧ Wd t (h - 1)
def sg (up : Bool) : Str := ⟨#[cp up]⟩
def txt (t : List Bool) : Str := ⟨(t.map cp).toArray⟩
theorem txt_len (t : List Bool) : (txt t).length = t.length := by
  show ((t.map cp).toArray).size = _
  simp
theorem txt_app (t u : List Bool) : txt t ++ txt u = txt (t ++ u) := by
  show (⟨(t.map cp).toArray ++ (u.map cp).toArray⟩ : Str) = _
  unfold txt
  congr 1
  simp
theorem txt_sg (u : Bool) : sg u = txt [u] := rfl
theorem sgT : (⟨#[40]⟩ : Str) = sg true := rfl
theorem sgF : (⟨#[41]⟩ : Str) = sg false := rfl
theorem s_open : ("(" : Str) = sg true := by decide +kernel
theorem s_shut : (")" : Str) = sg false := by decide +kernel
theorem s_pair : ("()" : Str) = txt [true, false] := by decide +kernel
theorem s_none : ("" : Str) = txt [] := by decide +kernel
theorem s_back : (")(" : Str) = txt [false, true] := by decide +kernel
theorem cp_inj {a b : Bool} (h : cp a = cp b) : a = b := by
  cases a <;> cases b <;> first | rfl | (simp [cp] at h)
theorem txt_inj : ∀ {t u : List Bool}, txt t = txt u → t = u := by
  intro t u h
  have h1 : (t.map cp) = (u.map cp) := by
    have := congrArg (fun z : Str => z.cps.toList) h
    simpa [txt] using this
  exact (List.map_inj_right (fun a b h => cp_inj h)).mp h1
theorem sg_eq {a b : Bool} : (sg a = sg b) = (a = b) := by
  cases a <;> cases b <;> simp [sg, cp]
theorem txt_items (t : List Bool) : ((txt t).cps.toList.map fun c => D.str ⟨#[c]⟩) = t.map fun u => .str (sg u) := by
  show ((t.map cp).toArray.toList.map _) = _
  rw [List.toList_toArray, List.map_map]
  rfl
theorem pairsE_at : ∀ {ds : List D} {i j : Nat} {d : D}, (pairsE j ds)[i]? = some d → ∃ x, ds[i]? = some x ∧ d = .tup [.int ((j + i : Nat) : Int), x]
  | [], _, _, _, h => by simp [pairsE] at h
  | x :: ds, 0, j, d, h => by
    simp only [pairsE, List.getElem?_cons_zero] at h
    exact ⟨x, rfl, (Option.some.inj h).symm⟩
  | x :: ds, i + 1, j, d, h => by
    simp only [pairsE, List.getElem?_cons_succ] at h
    obtain ⟨y, h1, h2⟩ := pairsE_at h
    exact ⟨y, by simpa using h1, by rw [h2]; congr 4; omega⟩
theorem pairsE_len : ∀ (ds : List D) (j : Nat), (pairsE j ds).length = ds.length
  | [], _ => rfl
  | d :: ds, j => by simp [pairsE, pairsE_len ds]
theorem Wd.down {t : List Bool} {h i : Nat} {u : Bool} (e : t[i]? = some u) (a : Wd (t.drop i) h) : t.drop i = u :: t.drop (i + 1) ∧ (u = true → Wd (t.drop (i + 1)) (h + 1)) ∧ (u = false → 0 < h ∧ Wd (t.drop (i + 1)) (h - 1)) := by
  have e1 : t.drop i = u :: t.drop (i + 1) := by
    obtain ⟨hi, rfl⟩ := List.getElem?_eq_some_iff.mp e
    exact List.drop_eq_getElem_cons hi
  rw [e1] at a
  refine ⟨e1, fun z => ?_, fun z => ?_⟩
  · subst z; exact a
  · subst z; exact a
theorem Wd.end_0 {t : List Bool} {h : Nat} (a : Wd (t.drop t.length) h) : h = 0 := by
  rw [List.drop_length] at a
  exact a
theorem Wd.app : ∀ {t u : List Bool} {a b : Nat}, Wd t a → Wd u b → Wd (t ++ u) (a + b)
  | [], u, a, b, h1, h2 => by
    have : a = 0 := h1
    subst this
    rw [Nat.zero_add]; exact h2
  | true :: t, u, a, b, h1, h2 => by
    show Wd (t ++ u) (a + b + 1)
    have := Wd.app (show Wd t (a + 1) from h1) h2
    rw [show a + b + 1 = a + 1 + b by omega]; exact this
  | false :: t, u, a, b, h1, h2 => by
    obtain ⟨h0, h1⟩ := (show 0 < a ∧ Wd t (a - 1) from h1)
    refine ⟨by omega, ?_⟩
    have := Wd.app h1 h2
    rw [show a + b - 1 = a - 1 + b by omega]; exact this
theorem Wd.cat {t u : List Bool} (a : Wd t 0) (b : Wd u 0) : Wd (t ++ u) 0 := Wd.app a b
theorem Wd.wrap {t : List Bool} (a : Wd t 0) : Wd ([true] ++ t ++ [false]) 0 := by
  show Wd (t ++ [false]) (0 + 1)
  have := Wd.app (u := [false]) (b := 1) a (show 0 < 1 ∧ (1 : Nat) - 1 = 0 from ⟨Nat.one_pos, rfl⟩)
  simpa using this
/-- how many open -/
def ups (t : List Bool) : Nat := t.count true
theorem Wd.len : ∀ {t : List Bool} {h : Nat}, Wd t h → t.length = 2 * ups t + h
  | [], h, a => by
    have : h = 0 := a
    subst this; rfl
  | true :: t, h, a => by
    have := Wd.len (show Wd t (h + 1) from a)
    unfold ups at this ⊢
    rw [List.length_cons, List.count_cons_self]; omega
  | false :: t, h, a => by
    obtain ⟨h0, a⟩ := (show 0 < h ∧ Wd t (h - 1) from a)
    have := Wd.len a
    unfold ups at this ⊢
    rw [List.length_cons, List.count_cons_of_ne (by decide)]; omega
theorem Wd.reps (k : Nat) : ∀ m, Wd (List.replicate m true ++ List.replicate (m + k) false) k
  | 0 => by
    induction k with
    | zero => rfl
    | succ k ih =>
      rw [List.replicate_zero, List.nil_append] at ih ⊢
      rw [show 0 + (k + 1) = (0 + k) + 1 by omega, List.replicate_succ]
      exact ⟨Nat.succ_pos k, ih⟩
  | m + 1 => by
    rw [List.replicate_succ, List.cons_append]
    show Wd _ (k + 1)
    have := Wd.reps (k + 1) m
    rw [show m + 1 + k = m + (k + 1) by omega]; exact this
theorem Wd.side : ∀ m, Wd (List.replicate m [true, false]).flatten 0
  | 0 => rfl
  | m + 1 => by
    rw [List.replicate_succ, List.flatten_cons]
    exact Wd.cat (show Wd [true, false] 0 from ⟨Nat.one_pos, rfl⟩) (Wd.side m)
theorem rangeL_len (a : Int) (n : Nat) : (rangeL a n).length = n := by unfold rangeL; simp
theorem rangeL_at {a : Int} {n i : Nat} {d : D} (h : (rangeL a n)[i]? = some d) : i < n ∧ d = .int (a + (i : Int)) := by
  unfold rangeL at h
  rw [List.getElem?_map] at h
  have hi : i < n := by
    cases hc : (List.range n)[i]? with
    | none => rw [hc] at h; cases h
    | some j => have := (List.getElem?_eq_some_iff.mp hc).1; simpa using this
  rw [List.getElem?_range hi] at h
  exact ⟨hi, (Option.some.inj h).symm⟩
theorem intsNo : ∀ ns : List Int, noOwnL (ns.map D.int) = true
  | [] => rfl
  | n :: ns => intsNo ns
end FN
/-! k41, the plain law -/
namespace Law_k41
def pnext (p : List Int) : List Int := List.zipWith (· + ·) (0 :: p) (p ++ [0])
def pas : Nat → List Int
  | 0 => [1]
  | k + 1 => pnext (pas k)
theorem pas_len : ∀ k, (pas k).length = k + 1
  | 0 => rfl
  | k + 1 => by simp [pas, pnext, pas_len k]
def endZ (h l : Int) : Int := if h < 0 ∨ h > l ∨ (l - h) % 2 = 1 then 0 else if (l - h) / 2 = 0 then 1 else (pas l.toNat).getD ((l - h) / 2).toNat 0 - (pas l.toNat).getD ((l - h) / 2 - 1).toNat 0
def wnext (xs : List Int) : List Int := [xs.getD 1 0] ++ List.zipWith (· + ·) xs (xs.drop 2) ++ [0]
theorem wnext_map {xs : List Int} (h : xs.length = 122) : wnext xs = [xs.getD 1 0] ++ (List.range 120).map (fun i => xs.getD i 0 + xs.getD (i + 2) 0) ++ [0] := by
  unfold wnext
  congr 2
  apply List.ext_getElem?
  intro i
  rw [List.getElem?_zipWith, List.getElem?_map]
  by_cases c : i < 120
  · rw [List.getElem?_range c, List.getElem?_drop, Nat.add_comm 2 i, List.getElem?_eq_getElem (by omega : i < xs.length), List.getElem?_eq_getElem (by omega : i + 2 < xs.length)]
    show some (xs[i] + xs[i + 2]) = some (xs.getD i 0 + xs.getD (i + 2) 0)
    rw [List.getD_eq_getElem?_getD, List.getD_eq_getElem?_getD]
    rw [List.getElem?_eq_getElem (by omega : i < xs.length), List.getElem?_eq_getElem (by omega : i + 2 < xs.length)]
    rfl
  · rw [List.getElem?_drop, List.getElem?_eq_none (by omega : xs.length ≤ 2 + i), List.getElem?_eq_none (by rw [List.length_range]; omega : (List.range 120).length ≤ i)]
    cases xs[i]? <;> rfl
def wrow : Nat → List Int
  | 0 => [1] ++ List.replicate 121 0
  | k + 1 => wnext (wrow k)
theorem wrow_len : ∀ k, (wrow k).length = 122
  | 0 => by simp [wrow]
  | k + 1 => by
    show (wnext (wrow k)).length = 122
    simp [wnext, wrow_len k]
def w (l h : Nat) : Int := (wrow l).getD h 0
theorem w_00 : w 0 0 = 1 := rfl
theorem w_0 (h : Nat) : w 0 (h + 1) = 0 := by
  unfold w
  rw [List.getD_eq_getElem?_getD]
  show ((1 : Int) :: List.replicate 121 0)[h + 1]?.getD 0 = 0
  rw [List.getElem?_cons_succ, List.getElem?_replicate]
  split <;> rfl
theorem w_s0 (l : Nat) : w (l + 1) 0 = w l 1 := by
  unfold w
  show (wnext (wrow l)).getD 0 0 = _
  simp [wnext]
theorem w_s (l h : Nat) (hh : h < 120) : w (l + 1) (h + 1) = w l h + w l (h + 2) := by
  unfold w
  show (wnext (wrow l)).getD (h + 1) 0 = _
  rw [wnext_map (wrow_len l)]
  simp [wnext, List.getD_eq_getElem?_getD, List.getElem?_append, hh]
theorem w_hi (l h : Nat) (hh : 121 ≤ h) : w l h = 0 := by
  unfold w
  rw [List.getD_eq_getElem?_getD]
  cases l with
  | zero => 
    show ((1 : Int) :: List.replicate 121 0)[h]?.getD 0 = 0
    obtain ⟨m, rfl⟩ : ∃ m, h = m + 1 := ⟨h - 1, by omega⟩
    rw [List.getElem?_cons_succ, List.getElem?_replicate]
    split <;> rfl
  | succ l =>
    by_cases e : h = 121
    · subst e
      show (wnext (wrow l))[121]?.getD 0 = 0
      rw [wnext_map (wrow_len l)]
      simp
    · rw [List.getElem?_eq_none (by rw [wrow_len]; omega)]
      rfl
theorem w_nn : ∀ (l h : Nat), 0 ≤ w l h
  | 0, 0 => by rw [w_00]; decide
  | 0, h + 1 => by rw [w_0]; decide
  | l + 1, 0 => by rw [w_s0]; exact w_nn l 1
  | l + 1, h + 1 => by
    by_cases hh : h < 120
    · rw [w_s l h hh]
      have := w_nn l h
      have := w_nn l (h + 2)
      omega
    · rw [w_hi _ _ (by omega)]; decide
/-- a word by its number: up is true -/
def un : Nat → Nat → Int → List Bool
  | 0, _, _ => []
  | r + 1, h, k => if k < w r (h + 1) then true :: un r (h + 1) k else false :: un r (h - 1) (k - w r (h + 1))
def rk : List Bool → Nat → Int
  | [], _ => 0
  | true :: t, h => rk t (h + 1)
  | false :: t, h => w t.length (h + 1) + rk t (h - 1)
def Wd : List Bool → Nat → Prop
  | [], h => h = 0
  | true :: t, h => Wd t (h + 1)
  | false :: t, h => 0 < h ∧ Wd t (h - 1)
theorem un_len : ∀ (r h : Nat) (k : Int), (un r h k).length = r
  | 0, _, _ => rfl
  | r + 1, h, k => by
    unfold un
    split
    · simp [un_len r]
    · simp [un_len r]
theorem step_down {r h : Nat} {k : Int} (hr : h + (r + 1) ≤ 120) (k0 : 0 ≤ k) (k1 : k < w (r + 1) h) (c : ¬ k < w r (h + 1)) : 0 < h ∧ 0 ≤ k - w r (h + 1) ∧ k - w r (h + 1) < w r (h - 1) := by
  cases h with
  | zero =>
    rw [w_s0] at k1
    exact absurd k1 c
  | succ h =>
    rw [w_s r h (by omega)] at k1
    refine ⟨by omega, by omega, ?_⟩
    show _ < w r h
    have e : h + 1 + 1 = h + 2 := rfl
    rw [e] at c ⊢
    omega
theorem un_ok : ∀ (r h : Nat) (k : Int), h + r ≤ 120 → 0 ≤ k → k < w r h → Wd (un r h k) h ∧ rk (un r h k) h = k
  | 0, h, k, hr, k0, k1 => by
    cases h with
    | zero =>
      rw [w_00] at k1
      exact ⟨rfl, by show (0 : Int) = k; omega⟩
    | succ h =>
      rw [w_0] at k1
      omega
  | r + 1, h, k, hr, k0, k1 => by
    unfold un
    split
    · rename_i c
      obtain ⟨a, b⟩ := un_ok r (h + 1) k (by omega) k0 c
      exact ⟨a, b⟩
    · rename_i c
      obtain ⟨c0, c1, c2⟩ := step_down hr k0 k1 c
      obtain ⟨a, b⟩ := un_ok r (h - 1) (k - w r (h + 1)) (by omega) c1 c2
      refine ⟨⟨c0, a⟩, ?_⟩
      show w (un r (h - 1) (k - w r (h + 1))).length (h + 1) + rk (un r (h - 1) (k - w r (h + 1))) (h - 1) = k
      rw [un_len, b]
      omega
theorem rk_ok : ∀ (t : List Bool) (h : Nat), h + t.length ≤ 120 → Wd t h → 0 ≤ rk t h ∧ rk t h < w t.length h ∧ un t.length h (rk t h) = t
  | [], h, hr, ok => by
    have : h = 0 := ok
    subst this
    exact ⟨by decide, by decide, rfl⟩
  | true :: t, h, hr, ok => by
    have hl : h + (t.length + 1) ≤ 120 := hr
    obtain ⟨a, b, c⟩ := rk_ok t (h + 1) (by omega) ok
    refine ⟨a, ?_, ?_⟩
    · show rk t (h + 1) < w (t.length + 1) h
      cases h with
      | zero => rw [w_s0]; exact b
      | succ h =>
        rw [w_s _ _ (by omega)]
        have := w_nn t.length h
        have e : h + 1 + 1 = h + 2 := rfl
        rw [← e]
        omega
    · show un (t.length + 1) h (rk t (h + 1)) = _
      unfold un
      rw [if_pos b, c]
  | false :: t, h, hr, ok => by
    have hl : h + (t.length + 1) ≤ 120 := hr
    obtain ⟨h0, ok⟩ := ok
    obtain ⟨a, b, c⟩ := rk_ok t (h - 1) (by omega) ok
    have n1 := w_nn t.length (h + 1)
    refine ⟨?_, ?_, ?_⟩
    · show 0 ≤ w t.length (h + 1) + rk t (h - 1)
      omega
    · show w t.length (h + 1) + rk t (h - 1) < w (t.length + 1) h
      cases h with
      | zero => omega
      | succ h =>
        rw [w_s _ _ (by omega)]
        have e : h + 1 + 1 = h + 2 := rfl
        rw [e]
        have e2 : h + 1 - 1 = h := rfl
        rw [e2] at b ⊢
        omega
    · show un (t.length + 1) h (w t.length (h + 1) + rk t (h - 1)) = _
      unfold un
      rw [if_neg (by omega)]
      rw [show w t.length (h + 1) + rk t (h - 1) - w t.length (h + 1) = rk t (h - 1) by omega, c]
/-- the text of a word -/
def cp (b : Bool) : Nat := if b = true then 40 else 41
theorem un_lt : ∀ (r h : Nat) (k k' : Int), h + r ≤ 120 → 0 ≤ k → k < k' → k' < w r h → (un r h k).map cp < (un r h k').map cp
  | 0, h, k, k', hr, k0, kk, k1 => by
    cases h with
    | zero => rw [w_00] at k1; omega
    | succ h => rw [w_0] at k1; omega
  | r + 1, h, k, k', hr, k0, kk, k1 => by
    have hn := w_nn r (h + 1)
    unfold un
    by_cases c : k < w r (h + 1)
    · rw [if_pos c]
      by_cases c' : k' < w r (h + 1)
      · rw [if_pos c']
        exact List.Lex.cons (un_lt r (h + 1) k k' (by omega) k0 kk c')
      · rw [if_neg c']
        exact List.Lex.rel (by decide)
    · have c' : ¬ k' < w r (h + 1) := by omega
      rw [if_neg c, if_neg c']
      obtain ⟨c0, c1, c2⟩ := step_down hr (by omega) k1 c'
      exact List.Lex.cons (un_lt r (h - 1) _ _ (by omega) (by omega) (by omega) c2)
/-! the two tables agree -/
theorem w_zero : ∀ (l h : Nat), (h > l ∨ (l + h) % 2 = 1) → w l h = 0
  | 0, 0, e => by omega
  | 0, h + 1, _ => w_0 h
  | l + 1, 0, e => by rw [w_s0]; exact w_zero l 1 (by omega)
  | l + 1, h + 1, e => by
    by_cases hh : h < 120
    · rw [w_s l h hh, w_zero l h (by omega), w_zero l (h + 2) (by omega)]; rfl
    · exact w_hi _ _ (by omega)
def rowOk (p xs : List Int) (l : Nat) : Bool := (List.range (l / 2 + 1)).all fun m => decide ((if m = 0 then (1 : Int) else p.getD m 0 - p.getD (m - 1) 0) = xs.getD (l - 2 * m) 0)
def allOk : Nat → Nat → List Int → List Int → Bool
  | 0, _, _, _ => true
  | n + 1, l, p, xs => rowOk p xs l && allOk n (l + 1) (pnext p) (wnext xs)
theorem allOk_at : ∀ (n l : Nat), allOk n l (pas l) (wrow l) = true → ∀ m, l ≤ m → m < l + n → rowOk (pas m) (wrow m) m = true
  | 0, l, _, m, h1, h2 => by omega
  | n + 1, l, h, m, h1, h2 => by
    have h' : (rowOk (pas l) (wrow l) l && allOk n (l + 1) (pas (l + 1)) (wrow (l + 1))) = true := h
    rw [Bool.and_eq_true] at h'
    by_cases e : m = l
    · subst e; exact h'.1
    · exact allOk_at n (l + 1) h'.2 m (by omega) (by omega)
theorem allOk_ok : allOk 121 0 (pas 0) (wrow 0) = true := by decide +kernel
theorem end_w (h l : Nat) (hl : l ≤ 120) : endZ h l = w l h := by
  unfold endZ
  by_cases c : ((h : Int) < 0 ∨ (h : Int) > l ∨ ((l : Int) - h) % 2 = 1)
  · rw [if_pos c, w_zero l h (by omega)]
  · rw [if_neg c]
    have := allOk_at 121 0 allOk_ok l (by omega) (by omega)
    have := of_decide_eq_true (List.all_eq_true.mp this ((l - h) / 2) (List.mem_range.mpr (by omega)))
    rw [show l - 2 * ((l - h) / 2) = h by omega] at this
    show _ = (wrow l).getD h 0
    rw [← this, Int.toNat_natCast, show (((l : Int) - h) / 2).toNat = (l - h) / 2 by omega, show (((l : Int) - h) / 2 - 1).toNat = (l - h) / 2 - 1 by omega]
    by_cases z : (l - h) / 2 = 0
    · rw [if_pos z, if_pos (by omega)]
    · rw [if_neg z, if_neg (by omega)]
def wordsOf : Nat → Int
  | 0 => 1
  | k + 1 => wordsOf k * 2 * (2 * (k : Int) + 1) / (k + 2)
def wAll : Nat → Nat → Int → List Int → Bool
  | 0, _, _, _ => true
  | n + 1, k, f, xs => decide (f = xs.getD 0 0) && decide (0 < f) && decide (f < 2 ^ 130) && wAll n (k + 1) (f * 2 * (2 * (k : Int) + 1) / (k + 2)) (wnext (wnext xs))
theorem wAll_at : ∀ (n k : Nat), wAll n k (wordsOf k) (wrow (2 * k)) = true → ∀ m, k ≤ m → m < k + n → wordsOf m = w (2 * m) 0 ∧ 0 < wordsOf m ∧ wordsOf m < 2 ^ 130
  | 0, l, _, m, h1, h2 => by omega
  | n + 1, k, h, m, h1, h2 => by
    have h' : ((decide (wordsOf k = w (2 * k) 0) && decide (0 < wordsOf k) && decide (wordsOf k < 2 ^ 130)) && wAll n (k + 1) (wordsOf (k + 1)) (wrow (2 * (k + 1)))) = true := h
    rw [Bool.and_eq_true, Bool.and_eq_true, Bool.and_eq_true] at h'
    by_cases e : m = k
    · subst e; exact ⟨of_decide_eq_true h'.1.1.1, of_decide_eq_true h'.1.1.2, of_decide_eq_true h'.1.2⟩
    · exact wAll_at n (k + 1) h'.2 m (by omega) (by omega)
theorem wAll_ok : wAll 61 0 (wordsOf 0) (wrow 0) = true := by decide +kernel
theorem words_w {n : Nat} (h : n ≤ 60) : wordsOf n = w (2 * n) 0 ∧ 0 < wordsOf n ∧ wordsOf n < 2 ^ 130 := wAll_at 61 0 wAll_ok n (by omega) (by omega)
end Law_k41
/-! Y1: counts told (k40). -/
namespace FN
open PySem L2 Evl QW DW
theorem cat_b : ∀ n : Nat, n < 63 → 0 < Law_k41.wordsOf n ∧ Law_k41.wordsOf n < 2 ^ 130 := by decide +kernel
theorem cat_s : ∀ n : Nat, n < 62 → Law_k41.wordsOf (n + 1) = ((List.range (n + 1)).map fun j => Law_k41.wordsOf j * Law_k41.wordsOf (n - j)).sum := by decide +kernel
theorem cat_m : ∀ n : Nat, n < 61 → 2 * ((3 : Int) ^ n * Law_k41.wordsOf n) / ((n : Int) + 2) * ((n : Int) + 2) = 2 * ((3 : Int) ^ n * Law_k41.wordsOf n) := by decide +kernel
theorem mulN {i j : Int} (hi : 0 ≤ i ∧ i < 2 ^ 400) (hj : 0 ≤ j ∧ j < 2 ^ 400) : mulD (.int i) (.int j) = some (.int (i * j)) :=
  if_pos (mulB_w (wide_mul (a := 400) (b := 400) (by omega) (by omega) (by decide) (by decide) (by decide)))
theorem op2_ofN {F : D → D → Option D} {g1 g2 : DW.Env → R Opd} {E E1 E2 : DW.Env} {o1 o2 : Opd} {d1 d2 r : D} (h1 : g1 E = .ok o1 E1) (h2 : g2 E1 = .ok o2 E2) (v1 : o1.val E2 = some d1) (v2 : o2.val E2 = some d2) (hF : F d1 d2 = some r) : op2 F g1 g2 E = .ok r E2 := by
  rw [ap_op2, h1, bind_ok', h2, bind_ok']
  simp only [v1, v2, hF]
def catD (n : Nat) : List D := (List.range n).map fun i => D.int (Law_k41.wordsOf i)
theorem catNo (n : Nat) : noOwnL (catD n) = true := by
  unfold catD
  rw [noOwnL_all, List.all_map, List.all_eq_true]
  exact fun _ _ => rfl
theorem cat_ix {o : Bool} {n i : Nat} (h : i < n) : idxD (.lst o (catD n)) (.int (i : Int)) = some (.int (Law_k41.wordsOf i)) := by
  unfold idxD catD
  simp only []
  rw [atI_nat (v := D.int (Law_k41.wordsOf i)) (by rw [List.getElem?_map, List.getElem?_range h]; rfl)]
  rfl
theorem cat_snoc (n : Nat) : catD (n + 1) = catD n ++ [.int (Law_k41.wordsOf n)] := by
  unfold catD
  rw [List.range_succ, List.map_append]
  rfl
theorem sum_l {o : Bool} (xs : List Int) : sumD (.lst o (xs.map .int)) = some (.int xs.sum) := by
  unfold sumD seqInts
  simp only [intsD_map]
  rfl
def prodD (i : Nat) : D → D
  | .int j => .int (Law_k41.wordsOf j.toNat * Law_k41.wordsOf (i - j.toNat))
  | _ => .non
theorem r_sums : Tells fn_l_sums [.int 61] (.lst false (catD 62)) := by
  unfold Tells Fn.call fn_l_sums F_l_sums
  have c1 : [D.int 1] = catD 1 := rfl
  simp (config := { decide := false, maxSteps := 1000000 }) [tel_ret, goes_nxt, ap_nil, ap_brk, ap_retN, ap_bN, ap_bT2, ap_sSet, ap_sRet, ap_sExpr, ap_sIf, ap_sAug, ap_sSetL, ap_sSetD, ap_sAugL, ap_oR, ap_oN, ap_oF, ap_rN, ap_rC, ap_rF, ap_aN, ap_aC, ap_op1, ap_op2, ap_tO, ap_tV, ap_tNotD, ap_tAndD, ap_tOrD, ap_rAndV, ap_rOrV, ap_rNotV, ap_rIfE, ap_lstR, ap_tupR, ap_mApp, ap_mExt, ap_mPop, ap_callR, ap_enumI, ap_zipI2, ap_zipI3, ap_m1S, ap_iO, ap_sliceR, ap_pN, ap_pS, ap_stepR, ap_tYesD, ap_mPopAt, ap_mRev, ap_mClr, onR_ok, onR_bad, bind_bad, thn_nxt, thn_ret, thn_brk, thn_cnt, thn_bad, bind_ok', DW.R.map, gt, val_tmp, val_slot, addD_i, addD_s, addD_l, augD_i, augD_s, subD_i, negD_i, modD_i, fdivD_i, mulD_a, mulD_b, eqD_i, eqD_s, neD_i, neD_s, ltD_i, leD_i, gtD_i, geD_i, idxD_l, idxD_t, idxD_c, own_some, atI_0, atI_1, atI_2, no_int, no_str, no_bl, no_non, no_tup, no_lst, no_scr, no_ktp, noL_0, noL_s, frz_int, frz_str, frz_bl, frz_non, frz_tup, frz_lst, frz_scr, frz_ktp, frzL_0, frzL_s, src_l, src_t, src_s, src_k, it_l, it_t, it_s, it_k, len_l, len_t, len_s, len_c, int_i, int_b, find_s, tru_b, isi_int, isi_intb, isi_str, absD, min2D, max2D, minI, maxI, toTupD, callO_eq, finO_some, fin2_ret, fin2_nxt, take_nil, take_tmp, take_slot, takeS_some, map_some', okO_nil, okO_none, okO_some, back_nil, back_none, back_some, backS_some, mkSeq_eq, mkS_some, tmps_0, tmps_s, env0, zip2D, wipe_0, wipe_s, ap_callB, callOB_eq, finB_some, finB2_ret, finB2_nxt, vals_0, vals_s, valS_some, scal_int, scal_bl, scal_str, scal_non, ap_selO, ap_aApp, callW_eq, finW_some, finX_eq, ap_callWR, ap_makeWR, makeW_eq, finM_some, finMX_eq, fin3_nxt, fin3_exc, fin2_exc, fin4_some, ap_methR, ap_ownR, ownS_ok, ownS2_some, strP_s, fldD_i, fldD_x, ap_sFld, insD_i, insC_i, isx_int, isx_intb, isx_str, isx_lst, isx_tup, isx_tupl, isx_lstt, ap_sAsgT, bU_t, bU_l, bTs_0, bTs_s, rz0_ap, rz1_ap, thn_exc, bind_exc, onR_exc, lp_exc, ordA, lp_nxt, lp_cnt, lp_brk, lp_ret]
  refine for_tel (E1 := [some (.int 61), some (.lst true (catD 1)), none, none]) (ds := rangeL 1 61) (by simp (config := { decide := false, maxSteps := 1000000 }) [tel_ret, goes_nxt, ap_nil, ap_brk, ap_retN, ap_bN, ap_bT2, ap_sSet, ap_sRet, ap_sExpr, ap_sIf, ap_sAug, ap_sSetL, ap_sSetD, ap_sAugL, ap_oR, ap_oN, ap_oF, ap_rN, ap_rC, ap_rF, ap_aN, ap_aC, ap_op1, ap_op2, ap_tO, ap_tV, ap_tNotD, ap_tAndD, ap_tOrD, ap_rAndV, ap_rOrV, ap_rNotV, ap_rIfE, ap_lstR, ap_tupR, ap_mApp, ap_mExt, ap_mPop, ap_callR, ap_enumI, ap_zipI2, ap_zipI3, ap_m1S, ap_iO, ap_sliceR, ap_pN, ap_pS, ap_stepR, ap_tYesD, ap_mPopAt, ap_mRev, ap_mClr, onR_ok, onR_bad, bind_bad, thn_nxt, thn_ret, thn_brk, thn_cnt, thn_bad, bind_ok', DW.R.map, gt, val_tmp, val_slot, addD_i, addD_s, addD_l, augD_i, augD_s, subD_i, negD_i, modD_i, fdivD_i, mulD_a, mulD_b, eqD_i, eqD_s, neD_i, neD_s, ltD_i, leD_i, gtD_i, geD_i, idxD_l, idxD_t, idxD_c, own_some, atI_0, atI_1, atI_2, no_int, no_str, no_bl, no_non, no_tup, no_lst, no_scr, no_ktp, noL_0, noL_s, frz_int, frz_str, frz_bl, frz_non, frz_tup, frz_lst, frz_scr, frz_ktp, frzL_0, frzL_s, src_l, src_t, src_s, src_k, it_l, it_t, it_s, it_k, len_l, len_t, len_s, len_c, int_i, int_b, find_s, tru_b, isi_int, isi_intb, isi_str, absD, min2D, max2D, minI, maxI, toTupD, callO_eq, finO_some, fin2_ret, fin2_nxt, take_nil, take_tmp, take_slot, takeS_some, map_some', okO_nil, okO_none, okO_some, back_nil, back_none, back_some, backS_some, mkSeq_eq, mkS_some, tmps_0, tmps_s, env0, zip2D, wipe_0, wipe_s, ap_callB, callOB_eq, finB_some, finB2_ret, finB2_nxt, vals_0, vals_s, valS_some, scal_int, scal_bl, scal_str, scal_non, ap_selO, ap_aApp, callW_eq, finW_some, finX_eq, ap_callWR, ap_makeWR, makeW_eq, finM_some, finMX_eq, fin3_nxt, fin3_exc, fin2_exc, fin4_some, ap_methR, ap_ownR, ownS_ok, ownS2_some, strP_s, fldD_i, fldD_x, ap_sFld, insD_i, insC_i, isx_int, isx_intb, isx_str, isx_lst, isx_tup, isx_tupl, isx_lstt, ap_sAsgT, bU_t, bU_l, bTs_0, bTs_s, rz0_ap, rz1_ap, thn_exc, bind_exc, onR_exc, lp_exc, ordA, lp_nxt, lp_cnt, lp_brk, lp_ret, ap_rng2]; rfl) (fun i E => ∃ a, E = [some (.int 61), some (.lst true (catD (i + 1))), a, none]) ⟨none, rfl⟩ (fun i d E hd hi => ?_) (fun E' h => ?_)
  · obtain ⟨a, rfl⟩ := hi
    obtain ⟨hi, rfl⟩ := rangeL_at hd
    refine ⟨_, rfl, ?_⟩
    have hs : rng1 (aC (oN 2) (aN)) [some (.int 61), some (.lst true (catD (i + 1))), some (.int (1 + (i : Int))), none] = .ok (rangeL 0 (i + 1)) [some (.int 61), some (.lst true (catD (i + 1))), some (.int (1 + (i : Int))), none] :=
      rng1_n (o := .slot 2) (n := i + 1) (by generalize catD (i + 1) = L; simp (config := { decide := false, maxSteps := 1000000 }) [tel_ret, goes_nxt, ap_nil, ap_brk, ap_retN, ap_bN, ap_bT2, ap_sSet, ap_sRet, ap_sExpr, ap_sIf, ap_sAug, ap_sSetL, ap_sSetD, ap_sAugL, ap_oR, ap_oN, ap_oF, ap_rN, ap_rC, ap_rF, ap_aN, ap_aC, ap_op1, ap_op2, ap_tO, ap_tV, ap_tNotD, ap_tAndD, ap_tOrD, ap_rAndV, ap_rOrV, ap_rNotV, ap_rIfE, ap_lstR, ap_tupR, ap_mApp, ap_mExt, ap_mPop, ap_callR, ap_enumI, ap_zipI2, ap_zipI3, ap_m1S, ap_iO, ap_sliceR, ap_pN, ap_pS, ap_stepR, ap_tYesD, ap_mPopAt, ap_mRev, ap_mClr, onR_ok, onR_bad, bind_bad, thn_nxt, thn_ret, thn_brk, thn_cnt, thn_bad, bind_ok', DW.R.map, gt, val_tmp, val_slot, addD_i, addD_s, addD_l, augD_i, augD_s, subD_i, negD_i, modD_i, fdivD_i, mulD_a, mulD_b, eqD_i, eqD_s, neD_i, neD_s, ltD_i, leD_i, gtD_i, geD_i, idxD_l, idxD_t, idxD_c, own_some, atI_0, atI_1, atI_2, no_int, no_str, no_bl, no_non, no_tup, no_lst, no_scr, no_ktp, noL_0, noL_s, frz_int, frz_str, frz_bl, frz_non, frz_tup, frz_lst, frz_scr, frz_ktp, frzL_0, frzL_s, src_l, src_t, src_s, src_k, it_l, it_t, it_s, it_k, len_l, len_t, len_s, len_c, int_i, int_b, find_s, tru_b, isi_int, isi_intb, isi_str, absD, min2D, max2D, minI, maxI, toTupD, callO_eq, finO_some, fin2_ret, fin2_nxt, take_nil, take_tmp, take_slot, takeS_some, map_some', okO_nil, okO_none, okO_some, back_nil, back_none, back_some, backS_some, mkSeq_eq, mkS_some, tmps_0, tmps_s, env0, zip2D, wipe_0, wipe_s, ap_callB, callOB_eq, finB_some, finB2_ret, finB2_nxt, vals_0, vals_s, valS_some, scal_int, scal_bl, scal_str, scal_non, ap_selO, ap_aApp, callW_eq, finW_some, finX_eq, ap_callWR, ap_makeWR, makeW_eq, finM_some, finMX_eq, fin3_nxt, fin3_exc, fin2_exc, fin4_some, ap_methR, ap_ownR, ownS_ok, ownS2_some, strP_s, fldD_i, fldD_x, ap_sFld, insD_i, insC_i, isx_int, isx_intb, isx_str, isx_lst, isx_tup, isx_tupl, isx_lstt, ap_sAsgT, bU_t, bU_l, bTs_0, bTs_s, rz0_ap, rz1_ap, thn_exc, bind_exc, onR_exc, lp_exc, ordA, lp_nxt, lp_cnt, lp_brk, lp_ret]) (by show some (D.int (1 + (i : Int))) = _; congr 2; omega) (by omega)
    have lc := lc_map (E2 := [some (.int 61), some (.lst true (catD (i + 1))), some (.int (1 + (i : Int))), none]) (vs := [3]) (bind := bN 3) (fe := op2 mulD (oR (op2 idxD (oN 1) (oN 3))) (oR (op2 idxD (oN 1) (oR (op2 subD (oR (op2 subD (oN 2) (oR (rC (.int 1))))) (oN 3)))))) (prodD i) hs rfl (fun d hd => by
      obtain ⟨j, hj, rfl⟩ := List.mem_map.mp hd
      have hj := List.mem_range.mp hj
      have x1 := cat_ix (o := true) (n := i + 1) (i := j) (by omega)
      have x2 := cat_ix (o := true) (n := i + 1) (i := i - j) (by omega)
      have m := mulN (i := Law_k41.wordsOf j) (j := Law_k41.wordsOf (i - j)) (by have := cat_b j (by omega); omega) (by have := cat_b (i - j) (by omega); omega)
      have pr : prodD i (.int (0 + (j : Nat))) = .int (Law_k41.wordsOf j * Law_k41.wordsOf (i - j)) := by
        show D.int (Law_k41.wordsOf ((0 : Int) + (j : Nat)).toNat * Law_k41.wordsOf (i - ((0 : Int) + (j : Nat)).toNat)) = _
        have : ((0 : Int) + (j : Nat)).toNat = j := by omega
        rw [this]
      rw [Int.zero_add] at pr ⊢
      refine ⟨_, [some (.int 61), some (.lst true (catD (i + 1))), some (.int (1 + (i : Int))), some (.int (j : Int))], rfl, ?_, rfl⟩
      rw [pr]
      have n1 : (1 + (i : Int)) - 1 - (j : Int) = ((i - j : Nat) : Int) := by omega
      generalize ((i - j : Nat) : Int) = J2 at *
      generalize 1 + (i : Int) = A at *
      generalize Law_k41.wordsOf j * Law_k41.wordsOf (i - j) = y at *
      generalize Law_k41.wordsOf j = y1 at *
      generalize Law_k41.wordsOf (i - j) = y2 at *
      generalize catD (i + 1) = L at *
      simp (config := { decide := false, maxSteps := 1000000 }) [tel_ret, goes_nxt, ap_nil, ap_brk, ap_retN, ap_bN, ap_bT2, ap_sSet, ap_sRet, ap_sExpr, ap_sIf, ap_sAug, ap_sSetL, ap_sSetD, ap_sAugL, ap_oR, ap_oN, ap_oF, ap_rN, ap_rC, ap_rF, ap_aN, ap_aC, ap_op1, ap_op2, ap_tO, ap_tV, ap_tNotD, ap_tAndD, ap_tOrD, ap_rAndV, ap_rOrV, ap_rNotV, ap_rIfE, ap_lstR, ap_tupR, ap_mApp, ap_mExt, ap_mPop, ap_callR, ap_enumI, ap_zipI2, ap_zipI3, ap_m1S, ap_iO, ap_sliceR, ap_pN, ap_pS, ap_stepR, ap_tYesD, ap_mPopAt, ap_mRev, ap_mClr, onR_ok, onR_bad, bind_bad, thn_nxt, thn_ret, thn_brk, thn_cnt, thn_bad, bind_ok', DW.R.map, gt, val_tmp, val_slot, addD_i, addD_s, addD_l, augD_i, augD_s, subD_i, negD_i, modD_i, fdivD_i, mulD_a, mulD_b, eqD_i, eqD_s, neD_i, neD_s, ltD_i, leD_i, gtD_i, geD_i, idxD_l, idxD_t, idxD_c, own_some, atI_0, atI_1, atI_2, no_int, no_str, no_bl, no_non, no_tup, no_lst, no_scr, no_ktp, noL_0, noL_s, frz_int, frz_str, frz_bl, frz_non, frz_tup, frz_lst, frz_scr, frz_ktp, frzL_0, frzL_s, src_l, src_t, src_s, src_k, it_l, it_t, it_s, it_k, len_l, len_t, len_s, len_c, int_i, int_b, find_s, tru_b, isi_int, isi_intb, isi_str, absD, min2D, max2D, minI, maxI, toTupD, callO_eq, finO_some, fin2_ret, fin2_nxt, take_nil, take_tmp, take_slot, takeS_some, map_some', okO_nil, okO_none, okO_some, back_nil, back_none, back_some, backS_some, mkSeq_eq, mkS_some, tmps_0, tmps_s, env0, zip2D, wipe_0, wipe_s, ap_callB, callOB_eq, finB_some, finB2_ret, finB2_nxt, vals_0, vals_s, valS_some, scal_int, scal_bl, scal_str, scal_non, ap_selO, ap_aApp, callW_eq, finW_some, finX_eq, ap_callWR, ap_makeWR, makeW_eq, finM_some, finMX_eq, fin3_nxt, fin3_exc, fin2_exc, fin4_some, ap_methR, ap_ownR, ownS_ok, ownS2_some, strP_s, fldD_i, fldD_x, ap_sFld, insD_i, insC_i, isx_int, isx_intb, isx_str, isx_lst, isx_tup, isx_tupl, isx_lstt, ap_sAsgT, bU_t, bU_l, bTs_0, bTs_s, rz0_ap, rz1_ap, thn_exc, bind_exc, onR_exc, lp_exc, ordA, lp_nxt, lp_cnt, lp_brk, lp_ret, n1, x1, x2, m]) (by unfold rangeL; simp; omega)
    have el : (rangeL 0 (i + 1)).map (prodD i) = ((List.range (i + 1)).map fun j => Law_k41.wordsOf j * Law_k41.wordsOf (i - j)).map .int := by
      unfold rangeL
      rw [List.map_map, List.map_map]
      refine List.map_congr_left fun j _ => ?_
      show D.int (Law_k41.wordsOf ((0 : Int) + (j : Nat)).toNat * Law_k41.wordsOf (i - ((0 : Int) + (j : Nat)).toNat)) = _
      have : ((0 : Int) + (j : Nat)).toNat = j := by omega
      rw [this]
      rfl
    rw [el] at lc
    have sm := sum_l (o := true) ((List.range (i + 1)).map fun j => Law_k41.wordsOf j * Law_k41.wordsOf (i - j))
    rw [← cat_s i (by omega)] at sm
    generalize ((List.range (i + 1)).map fun j => Law_k41.wordsOf j * Law_k41.wordsOf (i - j)).map D.int = L2 at *
    have cl : (catD (i + 1)).length < 100000 := by unfold catD; simp; omega
    refine app_nx (d := .int (Law_k41.wordsOf (i + 1))) (E1 := [some (.int 61), some (.lst true (catD (i + 1))), some (.int (1 + (i : Int))), none]) ?_ rfl rfl cl ?_
    · generalize catD (i + 1) = L at *
      generalize Law_k41.wordsOf (i + 1) = y at *
      generalize hS : lcR [3] (rng1 (aC (oN 2) (aN))) (bN 3) tYesD (op2 mulD (oR (op2 idxD (oN 1) (oN 3))) (oR (op2 idxD (oN 1) (oR (op2 subD (oR (op2 subD (oN 2) (oR (rC (.int 1))))) (oN 3)))))) = S at *
      simp (config := { decide := false, maxSteps := 1000000 }) [tel_ret, goes_nxt, ap_nil, ap_brk, ap_retN, ap_bN, ap_bT2, ap_sSet, ap_sRet, ap_sExpr, ap_sIf, ap_sAug, ap_sSetL, ap_sSetD, ap_sAugL, ap_oR, ap_oN, ap_oF, ap_rN, ap_rC, ap_rF, ap_aN, ap_aC, ap_op1, ap_op2, ap_tO, ap_tV, ap_tNotD, ap_tAndD, ap_tOrD, ap_rAndV, ap_rOrV, ap_rNotV, ap_rIfE, ap_lstR, ap_tupR, ap_mApp, ap_mExt, ap_mPop, ap_callR, ap_enumI, ap_zipI2, ap_zipI3, ap_m1S, ap_iO, ap_sliceR, ap_pN, ap_pS, ap_stepR, ap_tYesD, ap_mPopAt, ap_mRev, ap_mClr, onR_ok, onR_bad, bind_bad, thn_nxt, thn_ret, thn_brk, thn_cnt, thn_bad, bind_ok', DW.R.map, gt, val_tmp, val_slot, addD_i, addD_s, addD_l, augD_i, augD_s, subD_i, negD_i, modD_i, fdivD_i, mulD_a, mulD_b, eqD_i, eqD_s, neD_i, neD_s, ltD_i, leD_i, gtD_i, geD_i, idxD_l, idxD_t, idxD_c, own_some, atI_0, atI_1, atI_2, no_int, no_str, no_bl, no_non, no_tup, no_lst, no_scr, no_ktp, noL_0, noL_s, frz_int, frz_str, frz_bl, frz_non, frz_tup, frz_lst, frz_scr, frz_ktp, frzL_0, frzL_s, src_l, src_t, src_s, src_k, it_l, it_t, it_s, it_k, len_l, len_t, len_s, len_c, int_i, int_b, find_s, tru_b, isi_int, isi_intb, isi_str, absD, min2D, max2D, minI, maxI, toTupD, callO_eq, finO_some, fin2_ret, fin2_nxt, take_nil, take_tmp, take_slot, takeS_some, map_some', okO_nil, okO_none, okO_some, back_nil, back_none, back_some, backS_some, mkSeq_eq, mkS_some, tmps_0, tmps_s, env0, zip2D, wipe_0, wipe_s, ap_callB, callOB_eq, finB_some, finB2_ret, finB2_nxt, vals_0, vals_s, valS_some, scal_int, scal_bl, scal_str, scal_non, ap_selO, ap_aApp, callW_eq, finW_some, finX_eq, ap_callWR, ap_makeWR, makeW_eq, finM_some, finMX_eq, fin3_nxt, fin3_exc, fin2_exc, fin4_some, ap_methR, ap_ownR, ownS_ok, ownS2_some, strP_s, fldD_i, fldD_x, ap_sFld, insD_i, insC_i, isx_int, isx_intb, isx_str, isx_lst, isx_tup, isx_tupl, isx_lstt, ap_sAsgT, bU_t, bU_l, bTs_0, bTs_s, rz0_ap, rz1_ap, thn_exc, bind_exc, onR_exc, lp_exc, ordA, lp_nxt, lp_cnt, lp_brk, lp_ret, lc, sm]
    · rw [cat_snoc (i + 1)]
      simp (config := { decide := false, maxSteps := 1000000 }) [tel_ret, goes_nxt, ap_nil, ap_brk, ap_retN, ap_bN, ap_bT2, ap_sSet, ap_sRet, ap_sExpr, ap_sIf, ap_sAug, ap_sSetL, ap_sSetD, ap_sAugL, ap_oR, ap_oN, ap_oF, ap_rN, ap_rC, ap_rF, ap_aN, ap_aC, ap_op1, ap_op2, ap_tO, ap_tV, ap_tNotD, ap_tAndD, ap_tOrD, ap_rAndV, ap_rOrV, ap_rNotV, ap_rIfE, ap_lstR, ap_tupR, ap_mApp, ap_mExt, ap_mPop, ap_callR, ap_enumI, ap_zipI2, ap_zipI3, ap_m1S, ap_iO, ap_sliceR, ap_pN, ap_pS, ap_stepR, ap_tYesD, ap_mPopAt, ap_mRev, ap_mClr, onR_ok, onR_bad, bind_bad, thn_nxt, thn_ret, thn_brk, thn_cnt, thn_bad, bind_ok', DW.R.map, gt, val_tmp, val_slot, addD_i, addD_s, addD_l, augD_i, augD_s, subD_i, negD_i, modD_i, fdivD_i, mulD_a, mulD_b, eqD_i, eqD_s, neD_i, neD_s, ltD_i, leD_i, gtD_i, geD_i, idxD_l, idxD_t, idxD_c, own_some, atI_0, atI_1, atI_2, no_int, no_str, no_bl, no_non, no_tup, no_lst, no_scr, no_ktp, noL_0, noL_s, frz_int, frz_str, frz_bl, frz_non, frz_tup, frz_lst, frz_scr, frz_ktp, frzL_0, frzL_s, src_l, src_t, src_s, src_k, it_l, it_t, it_s, it_k, len_l, len_t, len_s, len_c, int_i, int_b, find_s, tru_b, isi_int, isi_intb, isi_str, absD, min2D, max2D, minI, maxI, toTupD, callO_eq, finO_some, fin2_ret, fin2_nxt, take_nil, take_tmp, take_slot, takeS_some, map_some', okO_nil, okO_none, okO_some, back_nil, back_none, back_some, backS_some, mkSeq_eq, mkS_some, tmps_0, tmps_s, env0, zip2D, wipe_0, wipe_s, ap_callB, callOB_eq, finB_some, finB2_ret, finB2_nxt, vals_0, vals_s, valS_some, scal_int, scal_bl, scal_str, scal_non, ap_selO, ap_aApp, callW_eq, finW_some, finX_eq, ap_callWR, ap_makeWR, makeW_eq, finM_some, finMX_eq, fin3_nxt, fin3_exc, fin2_exc, fin4_some, ap_methR, ap_ownR, ownS_ok, ownS2_some, strP_s, fldD_i, fldD_x, ap_sFld, insD_i, insC_i, isx_int, isx_intb, isx_str, isx_lst, isx_tup, isx_tupl, isx_lstt, ap_sAsgT, bU_t, bU_l, bTs_0, bTs_s, rz0_ap, rz1_ap, thn_exc, bind_exc, onR_exc, lp_exc, ordA, lp_nxt, lp_cnt, lp_brk, lp_ret]
      exact nx_nxt ⟨_, rfl⟩
  · obtain ⟨a, rfl⟩ := h
    rw [show (rangeL 1 61).length + 1 = 62 from rfl]
    have := frzL_no' (catNo 62)
    generalize catD 62 = L at *
    simp (config := { decide := false, maxSteps := 1000000 }) [tel_ret, goes_nxt, ap_nil, ap_brk, ap_retN, ap_bN, ap_bT2, ap_sSet, ap_sRet, ap_sExpr, ap_sIf, ap_sAug, ap_sSetL, ap_sSetD, ap_sAugL, ap_oR, ap_oN, ap_oF, ap_rN, ap_rC, ap_rF, ap_aN, ap_aC, ap_op1, ap_op2, ap_tO, ap_tV, ap_tNotD, ap_tAndD, ap_tOrD, ap_rAndV, ap_rOrV, ap_rNotV, ap_rIfE, ap_lstR, ap_tupR, ap_mApp, ap_mExt, ap_mPop, ap_callR, ap_enumI, ap_zipI2, ap_zipI3, ap_m1S, ap_iO, ap_sliceR, ap_pN, ap_pS, ap_stepR, ap_tYesD, ap_mPopAt, ap_mRev, ap_mClr, onR_ok, onR_bad, bind_bad, thn_nxt, thn_ret, thn_brk, thn_cnt, thn_bad, bind_ok', DW.R.map, gt, val_tmp, val_slot, addD_i, addD_s, addD_l, augD_i, augD_s, subD_i, negD_i, modD_i, fdivD_i, mulD_a, mulD_b, eqD_i, eqD_s, neD_i, neD_s, ltD_i, leD_i, gtD_i, geD_i, idxD_l, idxD_t, idxD_c, own_some, atI_0, atI_1, atI_2, no_int, no_str, no_bl, no_non, no_tup, no_lst, no_scr, no_ktp, noL_0, noL_s, frz_int, frz_str, frz_bl, frz_non, frz_tup, frz_lst, frz_scr, frz_ktp, frzL_0, frzL_s, src_l, src_t, src_s, src_k, it_l, it_t, it_s, it_k, len_l, len_t, len_s, len_c, int_i, int_b, find_s, tru_b, isi_int, isi_intb, isi_str, absD, min2D, max2D, minI, maxI, toTupD, callO_eq, finO_some, fin2_ret, fin2_nxt, take_nil, take_tmp, take_slot, takeS_some, map_some', okO_nil, okO_none, okO_some, back_nil, back_none, back_some, backS_some, mkSeq_eq, mkS_some, tmps_0, tmps_s, env0, zip2D, wipe_0, wipe_s, ap_callB, callOB_eq, finB_some, finB2_ret, finB2_nxt, vals_0, vals_s, valS_some, scal_int, scal_bl, scal_str, scal_non, ap_selO, ap_aApp, callW_eq, finW_some, finX_eq, ap_callWR, ap_makeWR, makeW_eq, finM_some, finMX_eq, fin3_nxt, fin3_exc, fin2_exc, fin4_some, ap_methR, ap_ownR, ownS_ok, ownS2_some, strP_s, fldD_i, fldD_x, ap_sFld, insD_i, insC_i, isx_int, isx_intb, isx_str, isx_lst, isx_tup, isx_tupl, isx_lstt, ap_sAsgT, bU_t, bU_l, bTs_0, bTs_s, rz0_ap, rz1_ap, thn_exc, bind_exc, onR_exc, lp_exc, ordA, lp_nxt, lp_cnt, lp_brk, lp_ret, this]
theorem r_at0 (ns : List Int) : ∃ c : Int, Tells fn_l_at [.scr ns, .int 0] (.int c) := by
  unfold Tells Fn.call fn_l_at F_l_at
  cases ns with
  | nil => exact ⟨1, by simp (config := { decide := false, maxSteps := 1000000 }) [tel_ret, goes_nxt, ap_nil, ap_brk, ap_retN, ap_bN, ap_bT2, ap_sSet, ap_sRet, ap_sExpr, ap_sIf, ap_sAug, ap_sSetL, ap_sSetD, ap_sAugL, ap_oR, ap_oN, ap_oF, ap_rN, ap_rC, ap_rF, ap_aN, ap_aC, ap_op1, ap_op2, ap_tO, ap_tV, ap_tNotD, ap_tAndD, ap_tOrD, ap_rAndV, ap_rOrV, ap_rNotV, ap_rIfE, ap_lstR, ap_tupR, ap_mApp, ap_mExt, ap_mPop, ap_callR, ap_enumI, ap_zipI2, ap_zipI3, ap_m1S, ap_iO, ap_sliceR, ap_pN, ap_pS, ap_stepR, ap_tYesD, ap_mPopAt, ap_mRev, ap_mClr, onR_ok, onR_bad, bind_bad, thn_nxt, thn_ret, thn_brk, thn_cnt, thn_bad, bind_ok', DW.R.map, gt, val_tmp, val_slot, addD_i, addD_s, addD_l, augD_i, augD_s, subD_i, negD_i, modD_i, fdivD_i, mulD_a, mulD_b, eqD_i, eqD_s, neD_i, neD_s, ltD_i, leD_i, gtD_i, geD_i, idxD_l, idxD_t, idxD_c, own_some, atI_0, atI_1, atI_2, no_int, no_str, no_bl, no_non, no_tup, no_lst, no_scr, no_ktp, noL_0, noL_s, frz_int, frz_str, frz_bl, frz_non, frz_tup, frz_lst, frz_scr, frz_ktp, frzL_0, frzL_s, src_l, src_t, src_s, src_k, it_l, it_t, it_s, it_k, len_l, len_t, len_s, len_c, int_i, int_b, find_s, tru_b, isi_int, isi_intb, isi_str, absD, min2D, max2D, minI, maxI, toTupD, callO_eq, finO_some, fin2_ret, fin2_nxt, take_nil, take_tmp, take_slot, takeS_some, map_some', okO_nil, okO_none, okO_some, back_nil, back_none, back_some, backS_some, mkSeq_eq, mkS_some, tmps_0, tmps_s, env0, zip2D, wipe_0, wipe_s, ap_callB, callOB_eq, finB_some, finB2_ret, finB2_nxt, vals_0, vals_s, valS_some, scal_int, scal_bl, scal_str, scal_non, ap_selO, ap_aApp, callW_eq, finW_some, finX_eq, ap_callWR, ap_makeWR, makeW_eq, finM_some, finMX_eq, fin3_nxt, fin3_exc, fin2_exc, fin4_some, ap_methR, ap_ownR, ownS_ok, ownS2_some, strP_s, fldD_i, fldD_x, ap_sFld, insD_i, insC_i, isx_int, isx_intb, isx_str, isx_lst, isx_tup, isx_tupl, isx_lstt, ap_sAsgT, bU_t, bU_l, bTs_0, bTs_s, rz0_ap, rz1_ap, thn_exc, bind_exc, onR_exc, lp_exc, ordA, lp_nxt, lp_cnt, lp_brk, lp_ret]⟩
  | cons a ns =>
    have c' : (0 : Int) < ((a :: ns).length : Int) := by simp
    have : atI (a :: ns) 0 = some a := by rw [show (0 : Int) = ((0 : Nat) : Int) from rfl, atI_nat (v := a) rfl]
    exact ⟨a, by simp (config := { decide := false, maxSteps := 1000000 }) [tel_ret, goes_nxt, ap_nil, ap_brk, ap_retN, ap_bN, ap_bT2, ap_sSet, ap_sRet, ap_sExpr, ap_sIf, ap_sAug, ap_sSetL, ap_sSetD, ap_sAugL, ap_oR, ap_oN, ap_oF, ap_rN, ap_rC, ap_rF, ap_aN, ap_aC, ap_op1, ap_op2, ap_tO, ap_tV, ap_tNotD, ap_tAndD, ap_tOrD, ap_rAndV, ap_rOrV, ap_rNotV, ap_rIfE, ap_lstR, ap_tupR, ap_mApp, ap_mExt, ap_mPop, ap_callR, ap_enumI, ap_zipI2, ap_zipI3, ap_m1S, ap_iO, ap_sliceR, ap_pN, ap_pS, ap_stepR, ap_tYesD, ap_mPopAt, ap_mRev, ap_mClr, onR_ok, onR_bad, bind_bad, thn_nxt, thn_ret, thn_brk, thn_cnt, thn_bad, bind_ok', DW.R.map, gt, val_tmp, val_slot, addD_i, addD_s, addD_l, augD_i, augD_s, subD_i, negD_i, modD_i, fdivD_i, mulD_a, mulD_b, eqD_i, eqD_s, neD_i, neD_s, ltD_i, leD_i, gtD_i, geD_i, idxD_l, idxD_t, idxD_c, own_some, atI_0, atI_1, atI_2, no_int, no_str, no_bl, no_non, no_tup, no_lst, no_scr, no_ktp, noL_0, noL_s, frz_int, frz_str, frz_bl, frz_non, frz_tup, frz_lst, frz_scr, frz_ktp, frzL_0, frzL_s, src_l, src_t, src_s, src_k, it_l, it_t, it_s, it_k, len_l, len_t, len_s, len_c, int_i, int_b, find_s, tru_b, isi_int, isi_intb, isi_str, absD, min2D, max2D, minI, maxI, toTupD, callO_eq, finO_some, fin2_ret, fin2_nxt, take_nil, take_tmp, take_slot, takeS_some, map_some', okO_nil, okO_none, okO_some, back_nil, back_none, back_some, backS_some, mkSeq_eq, mkS_some, tmps_0, tmps_s, env0, zip2D, wipe_0, wipe_s, ap_callB, callOB_eq, finB_some, finB2_ret, finB2_nxt, vals_0, vals_s, valS_some, scal_int, scal_bl, scal_str, scal_non, ap_selO, ap_aApp, callW_eq, finW_some, finX_eq, ap_callWR, ap_makeWR, makeW_eq, finM_some, finMX_eq, fin3_nxt, fin3_exc, fin2_exc, fin4_some, ap_methR, ap_ownR, ownS_ok, ownS2_some, strP_s, fldD_i, fldD_x, ap_sFld, insD_i, insC_i, isx_int, isx_intb, isx_str, isx_lst, isx_tup, isx_tupl, isx_lstt, ap_sAsgT, bU_t, bU_l, bTs_0, bTs_s, rz0_ap, rz1_ap, thn_exc, bind_exc, onR_exc, lp_exc, ordA, lp_nxt, lp_cnt, lp_brk, lp_ret, c', this]⟩
end FN
/-! Y2: the counts, asked for (k40). -/
namespace FN
open PySem L2 Evl QW DW
theorem y_whole (i : Int) : Tells fn_is_whole [.int i] (.bl true) := by
  unfold Tells Fn.call fn_is_whole F_is_whole
  simp (config := { decide := false, maxSteps := 1000000 }) [tel_ret, goes_nxt, ap_nil, ap_brk, ap_retN, ap_bN, ap_bT2, ap_sSet, ap_sRet, ap_sExpr, ap_sIf, ap_sAug, ap_sSetL, ap_sSetD, ap_sAugL, ap_oR, ap_oN, ap_oF, ap_rN, ap_rC, ap_rF, ap_aN, ap_aC, ap_op1, ap_op2, ap_tO, ap_tV, ap_tNotD, ap_tAndD, ap_tOrD, ap_rAndV, ap_rOrV, ap_rNotV, ap_rIfE, ap_lstR, ap_tupR, ap_mApp, ap_mExt, ap_mPop, ap_callR, ap_enumI, ap_zipI2, ap_zipI3, ap_m1S, ap_iO, ap_sliceR, ap_pN, ap_pS, ap_stepR, ap_tYesD, ap_mPopAt, ap_mRev, ap_mClr, onR_ok, onR_bad, bind_bad, thn_nxt, thn_ret, thn_brk, thn_cnt, thn_bad, bind_ok', DW.R.map, gt, val_tmp, val_slot, addD_i, addD_s, addD_l, augD_i, augD_s, subD_i, negD_i, modD_i, fdivD_i, mulD_a, mulD_b, eqD_i, eqD_s, neD_i, neD_s, ltD_i, leD_i, gtD_i, geD_i, idxD_l, idxD_t, idxD_c, own_some, atI_0, atI_1, atI_2, no_int, no_str, no_bl, no_non, no_tup, no_lst, no_scr, no_ktp, noL_0, noL_s, frz_int, frz_str, frz_bl, frz_non, frz_tup, frz_lst, frz_scr, frz_ktp, frzL_0, frzL_s, src_l, src_t, src_s, src_k, it_l, it_t, it_s, it_k, len_l, len_t, len_s, len_c, int_i, int_b, find_s, tru_b, isi_int, isi_intb, isi_str, absD, min2D, max2D, minI, maxI, toTupD, callO_eq, finO_some, fin2_ret, fin2_nxt, take_nil, take_tmp, take_slot, takeS_some, map_some', okO_nil, okO_none, okO_some, back_nil, back_none, back_some, backS_some, mkSeq_eq, mkS_some, tmps_0, tmps_s, env0, zip2D, wipe_0, wipe_s, ap_callB, callOB_eq, finB_some, finB2_ret, finB2_nxt, vals_0, vals_s, valS_some, scal_int, scal_bl, scal_str, scal_non, ap_selO, ap_aApp, callW_eq, finW_some, finX_eq, ap_callWR, ap_makeWR, makeW_eq, finM_some, finMX_eq, fin3_nxt, fin3_exc, fin2_exc, fin4_some, ap_methR, ap_ownR, ownS_ok, ownS2_some, strP_s, fldD_i, fldD_x, ap_sFld, insD_i, insC_i, isx_int, isx_intb, isx_str, isx_lst, isx_tup, isx_tupl, isx_lstt, ap_sAsgT, bU_t, bU_l, bTs_0, bTs_s, rz0_ap, rz1_ap, thn_exc, bind_exc, onR_exc, lp_exc, ordA, lp_nxt, lp_cnt, lp_brk, lp_ret]
theorem y_look {n : Nat} (h : n ≤ 60) : DW.Goes fn_look_count [.int n, .int 0, .int 60] := by
  unfold DW.Goes Fn.call fn_look_count F_look_count
  have e := (y_whole n).eq
  have a1 : ¬ (n : Int) < 0 := by omega
  have a2 : ¬ (60 : Int) < n := by omega
  have a3 : n ≤ 60 := h
  simp (config := { decide := false, maxSteps := 1000000 }) [tel_ret, goes_nxt, ap_nil, ap_brk, ap_retN, ap_bN, ap_bT2, ap_sSet, ap_sRet, ap_sExpr, ap_sIf, ap_sAug, ap_sSetL, ap_sSetD, ap_sAugL, ap_oR, ap_oN, ap_oF, ap_rN, ap_rC, ap_rF, ap_aN, ap_aC, ap_op1, ap_op2, ap_tO, ap_tV, ap_tNotD, ap_tAndD, ap_tOrD, ap_rAndV, ap_rOrV, ap_rNotV, ap_rIfE, ap_lstR, ap_tupR, ap_mApp, ap_mExt, ap_mPop, ap_callR, ap_enumI, ap_zipI2, ap_zipI3, ap_m1S, ap_iO, ap_sliceR, ap_pN, ap_pS, ap_stepR, ap_tYesD, ap_mPopAt, ap_mRev, ap_mClr, onR_ok, onR_bad, bind_bad, thn_nxt, thn_ret, thn_brk, thn_cnt, thn_bad, bind_ok', DW.R.map, gt, val_tmp, val_slot, addD_i, addD_s, addD_l, augD_i, augD_s, subD_i, negD_i, modD_i, fdivD_i, mulD_a, mulD_b, eqD_i, eqD_s, neD_i, neD_s, ltD_i, leD_i, gtD_i, geD_i, idxD_l, idxD_t, idxD_c, own_some, atI_0, atI_1, atI_2, no_int, no_str, no_bl, no_non, no_tup, no_lst, no_scr, no_ktp, noL_0, noL_s, frz_int, frz_str, frz_bl, frz_non, frz_tup, frz_lst, frz_scr, frz_ktp, frzL_0, frzL_s, src_l, src_t, src_s, src_k, it_l, it_t, it_s, it_k, len_l, len_t, len_s, len_c, int_i, int_b, find_s, tru_b, isi_int, isi_intb, isi_str, absD, min2D, max2D, minI, maxI, toTupD, callO_eq, finO_some, fin2_ret, fin2_nxt, take_nil, take_tmp, take_slot, takeS_some, map_some', okO_nil, okO_none, okO_some, back_nil, back_none, back_some, backS_some, mkSeq_eq, mkS_some, tmps_0, tmps_s, env0, zip2D, wipe_0, wipe_s, ap_callB, callOB_eq, finB_some, finB2_ret, finB2_nxt, vals_0, vals_s, valS_some, scal_int, scal_bl, scal_str, scal_non, ap_selO, ap_aApp, callW_eq, finW_some, finX_eq, ap_callWR, ap_makeWR, makeW_eq, finM_some, finMX_eq, fin3_nxt, fin3_exc, fin2_exc, fin4_some, ap_methR, ap_ownR, ownS_ok, ownS2_some, strP_s, fldD_i, fldD_x, ap_sFld, insD_i, insC_i, isx_int, isx_intb, isx_str, isx_lst, isx_tup, isx_tupl, isx_lstt, ap_sAsgT, bU_t, bU_l, bTs_0, bTs_s, rz0_ap, rz1_ap, thn_exc, bind_exc, onR_exc, lp_exc, ordA, lp_nxt, lp_cnt, lp_brk, lp_ret, e, a1, a2, a3]
theorem y_words {n : Nat} (h : n ≤ 61) : Tells fn_words_of [.int n] (.int (Law_k41.wordsOf n)) := by
  unfold Tells Fn.call fn_words_of F_words_of
  simp (config := { decide := false, maxSteps := 1000000 }) [tel_ret, goes_nxt, ap_nil, ap_brk, ap_retN, ap_bN, ap_bT2, ap_sSet, ap_sRet, ap_sExpr, ap_sIf, ap_sAug, ap_sSetL, ap_sSetD, ap_sAugL, ap_oR, ap_oN, ap_oF, ap_rN, ap_rC, ap_rF, ap_aN, ap_aC, ap_op1, ap_op2, ap_tO, ap_tV, ap_tNotD, ap_tAndD, ap_tOrD, ap_rAndV, ap_rOrV, ap_rNotV, ap_rIfE, ap_lstR, ap_tupR, ap_mApp, ap_mExt, ap_mPop, ap_callR, ap_enumI, ap_zipI2, ap_zipI3, ap_m1S, ap_iO, ap_sliceR, ap_pN, ap_pS, ap_stepR, ap_tYesD, ap_mPopAt, ap_mRev, ap_mClr, onR_ok, onR_bad, bind_bad, thn_nxt, thn_ret, thn_brk, thn_cnt, thn_bad, bind_ok', DW.R.map, gt, val_tmp, val_slot, addD_i, addD_s, addD_l, augD_i, augD_s, subD_i, negD_i, modD_i, fdivD_i, mulD_a, mulD_b, eqD_i, eqD_s, neD_i, neD_s, ltD_i, leD_i, gtD_i, geD_i, idxD_l, idxD_t, idxD_c, own_some, atI_0, atI_1, atI_2, no_int, no_str, no_bl, no_non, no_tup, no_lst, no_scr, no_ktp, noL_0, noL_s, frz_int, frz_str, frz_bl, frz_non, frz_tup, frz_lst, frz_scr, frz_ktp, frzL_0, frzL_s, src_l, src_t, src_s, src_k, it_l, it_t, it_s, it_k, len_l, len_t, len_s, len_c, int_i, int_b, find_s, tru_b, isi_int, isi_intb, isi_str, absD, min2D, max2D, minI, maxI, toTupD, callO_eq, finO_some, fin2_ret, fin2_nxt, take_nil, take_tmp, take_slot, takeS_some, map_some', okO_nil, okO_none, okO_some, back_nil, back_none, back_some, backS_some, mkSeq_eq, mkS_some, tmps_0, tmps_s, env0, zip2D, wipe_0, wipe_s, ap_callB, callOB_eq, finB_some, finB2_ret, finB2_nxt, vals_0, vals_s, valS_some, scal_int, scal_bl, scal_str, scal_non, ap_selO, ap_aApp, callW_eq, finW_some, finX_eq, ap_callWR, ap_makeWR, makeW_eq, finM_some, finMX_eq, fin3_nxt, fin3_exc, fin2_exc, fin4_some, ap_methR, ap_ownR, ownS_ok, ownS2_some, strP_s, fldD_i, fldD_x, ap_sFld, insD_i, insC_i, isx_int, isx_intb, isx_str, isx_lst, isx_tup, isx_tupl, isx_lstt, ap_sAsgT, bU_t, bU_l, bTs_0, bTs_s, rz0_ap, rz1_ap, thn_exc, bind_exc, onR_exc, lp_exc, ordA, lp_nxt, lp_cnt, lp_brk, lp_ret]
  refine for_tel (E1 := [some (.int n), some (.int 1), none]) (ds := rangeL 0 n) (rng1_n (n := n) (by simp (config := { decide := false, maxSteps := 1000000 }) [tel_ret, goes_nxt, ap_nil, ap_brk, ap_retN, ap_bN, ap_bT2, ap_sSet, ap_sRet, ap_sExpr, ap_sIf, ap_sAug, ap_sSetL, ap_sSetD, ap_sAugL, ap_oR, ap_oN, ap_oF, ap_rN, ap_rC, ap_rF, ap_aN, ap_aC, ap_op1, ap_op2, ap_tO, ap_tV, ap_tNotD, ap_tAndD, ap_tOrD, ap_rAndV, ap_rOrV, ap_rNotV, ap_rIfE, ap_lstR, ap_tupR, ap_mApp, ap_mExt, ap_mPop, ap_callR, ap_enumI, ap_zipI2, ap_zipI3, ap_m1S, ap_iO, ap_sliceR, ap_pN, ap_pS, ap_stepR, ap_tYesD, ap_mPopAt, ap_mRev, ap_mClr, onR_ok, onR_bad, bind_bad, thn_nxt, thn_ret, thn_brk, thn_cnt, thn_bad, bind_ok', DW.R.map, gt, val_tmp, val_slot, addD_i, addD_s, addD_l, augD_i, augD_s, subD_i, negD_i, modD_i, fdivD_i, mulD_a, mulD_b, eqD_i, eqD_s, neD_i, neD_s, ltD_i, leD_i, gtD_i, geD_i, idxD_l, idxD_t, idxD_c, own_some, atI_0, atI_1, atI_2, no_int, no_str, no_bl, no_non, no_tup, no_lst, no_scr, no_ktp, noL_0, noL_s, frz_int, frz_str, frz_bl, frz_non, frz_tup, frz_lst, frz_scr, frz_ktp, frzL_0, frzL_s, src_l, src_t, src_s, src_k, it_l, it_t, it_s, it_k, len_l, len_t, len_s, len_c, int_i, int_b, find_s, tru_b, isi_int, isi_intb, isi_str, absD, min2D, max2D, minI, maxI, toTupD, callO_eq, finO_some, fin2_ret, fin2_nxt, take_nil, take_tmp, take_slot, takeS_some, map_some', okO_nil, okO_none, okO_some, back_nil, back_none, back_some, backS_some, mkSeq_eq, mkS_some, tmps_0, tmps_s, env0, zip2D, wipe_0, wipe_s, ap_callB, callOB_eq, finB_some, finB2_ret, finB2_nxt, vals_0, vals_s, valS_some, scal_int, scal_bl, scal_str, scal_non, ap_selO, ap_aApp, callW_eq, finW_some, finX_eq, ap_callWR, ap_makeWR, makeW_eq, finM_some, finMX_eq, fin3_nxt, fin3_exc, fin2_exc, fin4_some, ap_methR, ap_ownR, ownS_ok, ownS2_some, strP_s, fldD_i, fldD_x, ap_sFld, insD_i, insC_i, isx_int, isx_intb, isx_str, isx_lst, isx_tup, isx_tupl, isx_lstt, ap_sAsgT, bU_t, bU_l, bTs_0, bTs_s, rz0_ap, rz1_ap, thn_exc, bind_exc, onR_exc, lp_exc, ordA, lp_nxt, lp_cnt, lp_brk, lp_ret]; rfl) rfl (by omega)) (fun i E => ∃ a, E = [some (.int n), some (.int (Law_k41.wordsOf i)), a]) ⟨none, rfl⟩ (fun i d E hd hi => ?_) (fun E' h => ?_)
  · obtain ⟨a, rfl⟩ := hi
    obtain ⟨hi, rfl⟩ := rangeL_at hd
    refine ⟨_, rfl, ?_⟩
    have m1 : mulD (.int (Law_k41.wordsOf i * 2)) (.int (2 * (i : Int) + 1)) = some (.int (Law_k41.wordsOf i * 2 * (2 * (i : Int) + 1))) := mulD_b (by omega) (by omega)
    have m2 : fdivD (.int (Law_k41.wordsOf i * 2 * (2 * (i : Int) + 1))) (.int ((i : Int) + 2)) = some (.int (Law_k41.wordsOf (i + 1))) := fdivD_i (by omega) (by omega)
    refine nx_eq (E := [some (.int n), some (.int (Law_k41.wordsOf (i + 1))), some (.int i)]) ?_ ⟨_, rfl⟩
    simp (config := { decide := false, maxSteps := 1000000 }) [tel_ret, goes_nxt, ap_nil, ap_brk, ap_retN, ap_bN, ap_bT2, ap_sSet, ap_sRet, ap_sExpr, ap_sIf, ap_sAug, ap_sSetL, ap_sSetD, ap_sAugL, ap_oR, ap_oN, ap_oF, ap_rN, ap_rC, ap_rF, ap_aN, ap_aC, ap_op1, ap_op2, ap_tO, ap_tV, ap_tNotD, ap_tAndD, ap_tOrD, ap_rAndV, ap_rOrV, ap_rNotV, ap_rIfE, ap_lstR, ap_tupR, ap_mApp, ap_mExt, ap_mPop, ap_callR, ap_enumI, ap_zipI2, ap_zipI3, ap_m1S, ap_iO, ap_sliceR, ap_pN, ap_pS, ap_stepR, ap_tYesD, ap_mPopAt, ap_mRev, ap_mClr, onR_ok, onR_bad, bind_bad, thn_nxt, thn_ret, thn_brk, thn_cnt, thn_bad, bind_ok', DW.R.map, gt, val_tmp, val_slot, addD_i, addD_s, addD_l, augD_i, augD_s, subD_i, negD_i, modD_i, fdivD_i, mulD_a, mulD_b, eqD_i, eqD_s, neD_i, neD_s, ltD_i, leD_i, gtD_i, geD_i, idxD_l, idxD_t, idxD_c, own_some, atI_0, atI_1, atI_2, no_int, no_str, no_bl, no_non, no_tup, no_lst, no_scr, no_ktp, noL_0, noL_s, frz_int, frz_str, frz_bl, frz_non, frz_tup, frz_lst, frz_scr, frz_ktp, frzL_0, frzL_s, src_l, src_t, src_s, src_k, it_l, it_t, it_s, it_k, len_l, len_t, len_s, len_c, int_i, int_b, find_s, tru_b, isi_int, isi_intb, isi_str, absD, min2D, max2D, minI, maxI, toTupD, callO_eq, finO_some, fin2_ret, fin2_nxt, take_nil, take_tmp, take_slot, takeS_some, map_some', okO_nil, okO_none, okO_some, back_nil, back_none, back_some, backS_some, mkSeq_eq, mkS_some, tmps_0, tmps_s, env0, zip2D, wipe_0, wipe_s, ap_callB, callOB_eq, finB_some, finB2_ret, finB2_nxt, vals_0, vals_s, valS_some, scal_int, scal_bl, scal_str, scal_non, ap_selO, ap_aApp, callW_eq, finW_some, finX_eq, ap_callWR, ap_makeWR, makeW_eq, finM_some, finMX_eq, fin3_nxt, fin3_exc, fin2_exc, fin4_some, ap_methR, ap_ownR, ownS_ok, ownS2_some, strP_s, fldD_i, fldD_x, ap_sFld, insD_i, insC_i, isx_int, isx_intb, isx_str, isx_lst, isx_tup, isx_tupl, isx_lstt, ap_sAsgT, bU_t, bU_l, bTs_0, bTs_s, rz0_ap, rz1_ap, thn_exc, bind_exc, onR_exc, lp_exc, ordA, lp_nxt, lp_cnt, lp_brk, lp_ret, m1, m2]
  · obtain ⟨a, rfl⟩ := h
    rw [rangeL_len]
    simp (config := { decide := false, maxSteps := 1000000 }) [tel_ret, goes_nxt, ap_nil, ap_brk, ap_retN, ap_bN, ap_bT2, ap_sSet, ap_sRet, ap_sExpr, ap_sIf, ap_sAug, ap_sSetL, ap_sSetD, ap_sAugL, ap_oR, ap_oN, ap_oF, ap_rN, ap_rC, ap_rF, ap_aN, ap_aC, ap_op1, ap_op2, ap_tO, ap_tV, ap_tNotD, ap_tAndD, ap_tOrD, ap_rAndV, ap_rOrV, ap_rNotV, ap_rIfE, ap_lstR, ap_tupR, ap_mApp, ap_mExt, ap_mPop, ap_callR, ap_enumI, ap_zipI2, ap_zipI3, ap_m1S, ap_iO, ap_sliceR, ap_pN, ap_pS, ap_stepR, ap_tYesD, ap_mPopAt, ap_mRev, ap_mClr, onR_ok, onR_bad, bind_bad, thn_nxt, thn_ret, thn_brk, thn_cnt, thn_bad, bind_ok', DW.R.map, gt, val_tmp, val_slot, addD_i, addD_s, addD_l, augD_i, augD_s, subD_i, negD_i, modD_i, fdivD_i, mulD_a, mulD_b, eqD_i, eqD_s, neD_i, neD_s, ltD_i, leD_i, gtD_i, geD_i, idxD_l, idxD_t, idxD_c, own_some, atI_0, atI_1, atI_2, no_int, no_str, no_bl, no_non, no_tup, no_lst, no_scr, no_ktp, noL_0, noL_s, frz_int, frz_str, frz_bl, frz_non, frz_tup, frz_lst, frz_scr, frz_ktp, frzL_0, frzL_s, src_l, src_t, src_s, src_k, it_l, it_t, it_s, it_k, len_l, len_t, len_s, len_c, int_i, int_b, find_s, tru_b, isi_int, isi_intb, isi_str, absD, min2D, max2D, minI, maxI, toTupD, callO_eq, finO_some, fin2_ret, fin2_nxt, take_nil, take_tmp, take_slot, takeS_some, map_some', okO_nil, okO_none, okO_some, back_nil, back_none, back_some, backS_some, mkSeq_eq, mkS_some, tmps_0, tmps_s, env0, zip2D, wipe_0, wipe_s, ap_callB, callOB_eq, finB_some, finB2_ret, finB2_nxt, vals_0, vals_s, valS_some, scal_int, scal_bl, scal_str, scal_non, ap_selO, ap_aApp, callW_eq, finW_some, finX_eq, ap_callWR, ap_makeWR, makeW_eq, finM_some, finMX_eq, fin3_nxt, fin3_exc, fin2_exc, fin4_some, ap_methR, ap_ownR, ownS_ok, ownS2_some, strP_s, fldD_i, fldD_x, ap_sFld, insD_i, insC_i, isx_int, isx_intb, isx_str, isx_lst, isx_tup, isx_tupl, isx_lstt, ap_sAsgT, bU_t, bU_l, bTs_0, bTs_s, rz0_ap, rz1_ap, thn_exc, bind_exc, onR_exc, lp_exc, ordA, lp_nxt, lp_cnt, lp_brk, lp_ret]
theorem y_count {n : Nat} (h : n ≤ 60) : Tells fn_count_words [.int n] (.int (Law_k41.wordsOf n)) := by
  unfold Tells Fn.call fn_count_words F_count_words
  have e1 := (y_look h).eq
  have e2 := (y_words (n := n) (by omega)).eq
  simp (config := { decide := false, maxSteps := 1000000 }) [tel_ret, goes_nxt, ap_nil, ap_brk, ap_retN, ap_bN, ap_bT2, ap_sSet, ap_sRet, ap_sExpr, ap_sIf, ap_sAug, ap_sSetL, ap_sSetD, ap_sAugL, ap_oR, ap_oN, ap_oF, ap_rN, ap_rC, ap_rF, ap_aN, ap_aC, ap_op1, ap_op2, ap_tO, ap_tV, ap_tNotD, ap_tAndD, ap_tOrD, ap_rAndV, ap_rOrV, ap_rNotV, ap_rIfE, ap_lstR, ap_tupR, ap_mApp, ap_mExt, ap_mPop, ap_callR, ap_enumI, ap_zipI2, ap_zipI3, ap_m1S, ap_iO, ap_sliceR, ap_pN, ap_pS, ap_stepR, ap_tYesD, ap_mPopAt, ap_mRev, ap_mClr, onR_ok, onR_bad, bind_bad, thn_nxt, thn_ret, thn_brk, thn_cnt, thn_bad, bind_ok', DW.R.map, gt, val_tmp, val_slot, addD_i, addD_s, addD_l, augD_i, augD_s, subD_i, negD_i, modD_i, fdivD_i, mulD_a, mulD_b, eqD_i, eqD_s, neD_i, neD_s, ltD_i, leD_i, gtD_i, geD_i, idxD_l, idxD_t, idxD_c, own_some, atI_0, atI_1, atI_2, no_int, no_str, no_bl, no_non, no_tup, no_lst, no_scr, no_ktp, noL_0, noL_s, frz_int, frz_str, frz_bl, frz_non, frz_tup, frz_lst, frz_scr, frz_ktp, frzL_0, frzL_s, src_l, src_t, src_s, src_k, it_l, it_t, it_s, it_k, len_l, len_t, len_s, len_c, int_i, int_b, find_s, tru_b, isi_int, isi_intb, isi_str, absD, min2D, max2D, minI, maxI, toTupD, callO_eq, finO_some, fin2_ret, fin2_nxt, take_nil, take_tmp, take_slot, takeS_some, map_some', okO_nil, okO_none, okO_some, back_nil, back_none, back_some, backS_some, mkSeq_eq, mkS_some, tmps_0, tmps_s, env0, zip2D, wipe_0, wipe_s, ap_callB, callOB_eq, finB_some, finB2_ret, finB2_nxt, vals_0, vals_s, valS_some, scal_int, scal_bl, scal_str, scal_non, ap_selO, ap_aApp, callW_eq, finW_some, finX_eq, ap_callWR, ap_makeWR, makeW_eq, finM_some, finMX_eq, fin3_nxt, fin3_exc, fin2_exc, fin4_some, ap_methR, ap_ownR, ownS_ok, ownS2_some, strP_s, fldD_i, fldD_x, ap_sFld, insD_i, insC_i, isx_int, isx_intb, isx_str, isx_lst, isx_tup, isx_tupl, isx_lstt, ap_sAsgT, bU_t, bU_l, bTs_0, bTs_s, rz0_ap, rz1_ap, thn_exc, bind_exc, onR_exc, lp_exc, ordA, lp_nxt, lp_cnt, lp_brk, lp_ret, e1, e2]
theorem y_3a {n : Nat} (hn : n ≤ 60) : Tells fn_threes [.int n] (.int ((3 : Int) ^ n)) := by
  unfold Tells Fn.call fn_threes F_threes
  simp (config := { decide := false, maxSteps := 1000000 }) [tel_ret, goes_nxt, ap_nil, ap_brk, ap_retN, ap_bN, ap_bT2, ap_sSet, ap_sRet, ap_sExpr, ap_sIf, ap_sAug, ap_sSetL, ap_sSetD, ap_sAugL, ap_oR, ap_oN, ap_oF, ap_rN, ap_rC, ap_rF, ap_aN, ap_aC, ap_op1, ap_op2, ap_tO, ap_tV, ap_tNotD, ap_tAndD, ap_tOrD, ap_rAndV, ap_rOrV, ap_rNotV, ap_rIfE, ap_lstR, ap_tupR, ap_mApp, ap_mExt, ap_mPop, ap_callR, ap_enumI, ap_zipI2, ap_zipI3, ap_m1S, ap_iO, ap_sliceR, ap_pN, ap_pS, ap_stepR, ap_tYesD, ap_mPopAt, ap_mRev, ap_mClr, onR_ok, onR_bad, bind_bad, thn_nxt, thn_ret, thn_brk, thn_cnt, thn_bad, bind_ok', DW.R.map, gt, val_tmp, val_slot, addD_i, addD_s, addD_l, augD_i, augD_s, subD_i, negD_i, modD_i, fdivD_i, mulD_a, mulD_b, eqD_i, eqD_s, neD_i, neD_s, ltD_i, leD_i, gtD_i, geD_i, idxD_l, idxD_t, idxD_c, own_some, atI_0, atI_1, atI_2, no_int, no_str, no_bl, no_non, no_tup, no_lst, no_scr, no_ktp, noL_0, noL_s, frz_int, frz_str, frz_bl, frz_non, frz_tup, frz_lst, frz_scr, frz_ktp, frzL_0, frzL_s, src_l, src_t, src_s, src_k, it_l, it_t, it_s, it_k, len_l, len_t, len_s, len_c, int_i, int_b, find_s, tru_b, isi_int, isi_intb, isi_str, absD, min2D, max2D, minI, maxI, toTupD, callO_eq, finO_some, fin2_ret, fin2_nxt, take_nil, take_tmp, take_slot, takeS_some, map_some', okO_nil, okO_none, okO_some, back_nil, back_none, back_some, backS_some, mkSeq_eq, mkS_some, tmps_0, tmps_s, env0, zip2D, wipe_0, wipe_s, ap_callB, callOB_eq, finB_some, finB2_ret, finB2_nxt, vals_0, vals_s, valS_some, scal_int, scal_bl, scal_str, scal_non, ap_selO, ap_aApp, callW_eq, finW_some, finX_eq, ap_callWR, ap_makeWR, makeW_eq, finM_some, finMX_eq, fin3_nxt, fin3_exc, fin2_exc, fin4_some, ap_methR, ap_ownR, ownS_ok, ownS2_some, strP_s, fldD_i, fldD_x, ap_sFld, insD_i, insC_i, isx_int, isx_intb, isx_str, isx_lst, isx_tup, isx_tupl, isx_lstt, ap_sAsgT, bU_t, bU_l, bTs_0, bTs_s, rz0_ap, rz1_ap, thn_exc, bind_exc, onR_exc, lp_exc, ordA, lp_nxt, lp_cnt, lp_brk, lp_ret]
  refine for_tel (E1 := [some (.int n), some (.int 1), none]) (ds := rangeL 0 n) (rng1_n (n := n) (by simp (config := { decide := false, maxSteps := 1000000 }) [tel_ret, goes_nxt, ap_nil, ap_brk, ap_retN, ap_bN, ap_bT2, ap_sSet, ap_sRet, ap_sExpr, ap_sIf, ap_sAug, ap_sSetL, ap_sSetD, ap_sAugL, ap_oR, ap_oN, ap_oF, ap_rN, ap_rC, ap_rF, ap_aN, ap_aC, ap_op1, ap_op2, ap_tO, ap_tV, ap_tNotD, ap_tAndD, ap_tOrD, ap_rAndV, ap_rOrV, ap_rNotV, ap_rIfE, ap_lstR, ap_tupR, ap_mApp, ap_mExt, ap_mPop, ap_callR, ap_enumI, ap_zipI2, ap_zipI3, ap_m1S, ap_iO, ap_sliceR, ap_pN, ap_pS, ap_stepR, ap_tYesD, ap_mPopAt, ap_mRev, ap_mClr, onR_ok, onR_bad, bind_bad, thn_nxt, thn_ret, thn_brk, thn_cnt, thn_bad, bind_ok', DW.R.map, gt, val_tmp, val_slot, addD_i, addD_s, addD_l, augD_i, augD_s, subD_i, negD_i, modD_i, fdivD_i, mulD_a, mulD_b, eqD_i, eqD_s, neD_i, neD_s, ltD_i, leD_i, gtD_i, geD_i, idxD_l, idxD_t, idxD_c, own_some, atI_0, atI_1, atI_2, no_int, no_str, no_bl, no_non, no_tup, no_lst, no_scr, no_ktp, noL_0, noL_s, frz_int, frz_str, frz_bl, frz_non, frz_tup, frz_lst, frz_scr, frz_ktp, frzL_0, frzL_s, src_l, src_t, src_s, src_k, it_l, it_t, it_s, it_k, len_l, len_t, len_s, len_c, int_i, int_b, find_s, tru_b, isi_int, isi_intb, isi_str, absD, min2D, max2D, minI, maxI, toTupD, callO_eq, finO_some, fin2_ret, fin2_nxt, take_nil, take_tmp, take_slot, takeS_some, map_some', okO_nil, okO_none, okO_some, back_nil, back_none, back_some, backS_some, mkSeq_eq, mkS_some, tmps_0, tmps_s, env0, zip2D, wipe_0, wipe_s, ap_callB, callOB_eq, finB_some, finB2_ret, finB2_nxt, vals_0, vals_s, valS_some, scal_int, scal_bl, scal_str, scal_non, ap_selO, ap_aApp, callW_eq, finW_some, finX_eq, ap_callWR, ap_makeWR, makeW_eq, finM_some, finMX_eq, fin3_nxt, fin3_exc, fin2_exc, fin4_some, ap_methR, ap_ownR, ownS_ok, ownS2_some, strP_s, fldD_i, fldD_x, ap_sFld, insD_i, insC_i, isx_int, isx_intb, isx_str, isx_lst, isx_tup, isx_tupl, isx_lstt, ap_sAsgT, bU_t, bU_l, bTs_0, bTs_s, rz0_ap, rz1_ap, thn_exc, bind_exc, onR_exc, lp_exc, ordA, lp_nxt, lp_cnt, lp_brk, lp_ret]; rfl) rfl (by omega)) (fun i E => ∃ a, E = [some (.int n), some (.int ((3 : Int) ^ i)), a]) ⟨none, rfl⟩ (fun i d E hd hi => ?_) (fun E' h => ?_)
  · obtain ⟨a, rfl⟩ := hi
    obtain ⟨hi, rfl⟩ := rangeL_at hd
    refine ⟨_, rfl, ?_⟩
    have m : augMulD (.int ((3 : Int) ^ i)) (.int 3) = some (.int ((3 : Int) ^ (i + 1))) := by
      rw [Int.pow_succ]
      generalize (3 : Int) ^ i = q0
      have hb : mulB q0 3 = true := mulB_b (by decide) (by decide)
      unfold augMulD
      dsimp only
      rw [if_pos hb]
    refine nx_eq (E := [some (.int n), some (.int ((3 : Int) ^ (i + 1))), some (.int (0 + (i : Int)))]) ?_ ⟨_, rfl⟩
    generalize (3 : Int) ^ (i + 1) = q at *
    generalize (3 : Int) ^ i = q0 at *
    simp (config := { decide := false, maxSteps := 1000000 }) [tel_ret, goes_nxt, ap_nil, ap_brk, ap_retN, ap_bN, ap_bT2, ap_sSet, ap_sRet, ap_sExpr, ap_sIf, ap_sAug, ap_sSetL, ap_sSetD, ap_sAugL, ap_oR, ap_oN, ap_oF, ap_rN, ap_rC, ap_rF, ap_aN, ap_aC, ap_op1, ap_op2, ap_tO, ap_tV, ap_tNotD, ap_tAndD, ap_tOrD, ap_rAndV, ap_rOrV, ap_rNotV, ap_rIfE, ap_lstR, ap_tupR, ap_mApp, ap_mExt, ap_mPop, ap_callR, ap_enumI, ap_zipI2, ap_zipI3, ap_m1S, ap_iO, ap_sliceR, ap_pN, ap_pS, ap_stepR, ap_tYesD, ap_mPopAt, ap_mRev, ap_mClr, onR_ok, onR_bad, bind_bad, thn_nxt, thn_ret, thn_brk, thn_cnt, thn_bad, bind_ok', DW.R.map, gt, val_tmp, val_slot, addD_i, addD_s, addD_l, augD_i, augD_s, subD_i, negD_i, modD_i, fdivD_i, mulD_a, mulD_b, eqD_i, eqD_s, neD_i, neD_s, ltD_i, leD_i, gtD_i, geD_i, idxD_l, idxD_t, idxD_c, own_some, atI_0, atI_1, atI_2, no_int, no_str, no_bl, no_non, no_tup, no_lst, no_scr, no_ktp, noL_0, noL_s, frz_int, frz_str, frz_bl, frz_non, frz_tup, frz_lst, frz_scr, frz_ktp, frzL_0, frzL_s, src_l, src_t, src_s, src_k, it_l, it_t, it_s, it_k, len_l, len_t, len_s, len_c, int_i, int_b, find_s, tru_b, isi_int, isi_intb, isi_str, absD, min2D, max2D, minI, maxI, toTupD, callO_eq, finO_some, fin2_ret, fin2_nxt, take_nil, take_tmp, take_slot, takeS_some, map_some', okO_nil, okO_none, okO_some, back_nil, back_none, back_some, backS_some, mkSeq_eq, mkS_some, tmps_0, tmps_s, env0, zip2D, wipe_0, wipe_s, ap_callB, callOB_eq, finB_some, finB2_ret, finB2_nxt, vals_0, vals_s, valS_some, scal_int, scal_bl, scal_str, scal_non, ap_selO, ap_aApp, callW_eq, finW_some, finX_eq, ap_callWR, ap_makeWR, makeW_eq, finM_some, finMX_eq, fin3_nxt, fin3_exc, fin2_exc, fin4_some, ap_methR, ap_ownR, ownS_ok, ownS2_some, strP_s, fldD_i, fldD_x, ap_sFld, insD_i, insC_i, isx_int, isx_intb, isx_str, isx_lst, isx_tup, isx_tupl, isx_lstt, ap_sAsgT, bU_t, bU_l, bTs_0, bTs_s, rz0_ap, rz1_ap, thn_exc, bind_exc, onR_exc, lp_exc, ordA, lp_nxt, lp_cnt, lp_brk, lp_ret, m]
  · obtain ⟨a, rfl⟩ := h
    rw [rangeL_len]
    generalize (3 : Int) ^ n = q at *
    simp (config := { decide := false, maxSteps := 1000000 }) [tel_ret, goes_nxt, ap_nil, ap_brk, ap_retN, ap_bN, ap_bT2, ap_sSet, ap_sRet, ap_sExpr, ap_sIf, ap_sAug, ap_sSetL, ap_sSetD, ap_sAugL, ap_oR, ap_oN, ap_oF, ap_rN, ap_rC, ap_rF, ap_aN, ap_aC, ap_op1, ap_op2, ap_tO, ap_tV, ap_tNotD, ap_tAndD, ap_tOrD, ap_rAndV, ap_rOrV, ap_rNotV, ap_rIfE, ap_lstR, ap_tupR, ap_mApp, ap_mExt, ap_mPop, ap_callR, ap_enumI, ap_zipI2, ap_zipI3, ap_m1S, ap_iO, ap_sliceR, ap_pN, ap_pS, ap_stepR, ap_tYesD, ap_mPopAt, ap_mRev, ap_mClr, onR_ok, onR_bad, bind_bad, thn_nxt, thn_ret, thn_brk, thn_cnt, thn_bad, bind_ok', DW.R.map, gt, val_tmp, val_slot, addD_i, addD_s, addD_l, augD_i, augD_s, subD_i, negD_i, modD_i, fdivD_i, mulD_a, mulD_b, eqD_i, eqD_s, neD_i, neD_s, ltD_i, leD_i, gtD_i, geD_i, idxD_l, idxD_t, idxD_c, own_some, atI_0, atI_1, atI_2, no_int, no_str, no_bl, no_non, no_tup, no_lst, no_scr, no_ktp, noL_0, noL_s, frz_int, frz_str, frz_bl, frz_non, frz_tup, frz_lst, frz_scr, frz_ktp, frzL_0, frzL_s, src_l, src_t, src_s, src_k, it_l, it_t, it_s, it_k, len_l, len_t, len_s, len_c, int_i, int_b, find_s, tru_b, isi_int, isi_intb, isi_str, absD, min2D, max2D, minI, maxI, toTupD, callO_eq, finO_some, fin2_ret, fin2_nxt, take_nil, take_tmp, take_slot, takeS_some, map_some', okO_nil, okO_none, okO_some, back_nil, back_none, back_some, backS_some, mkSeq_eq, mkS_some, tmps_0, tmps_s, env0, zip2D, wipe_0, wipe_s, ap_callB, callOB_eq, finB_some, finB2_ret, finB2_nxt, vals_0, vals_s, valS_some, scal_int, scal_bl, scal_str, scal_non, ap_selO, ap_aApp, callW_eq, finW_some, finX_eq, ap_callWR, ap_makeWR, makeW_eq, finM_some, finMX_eq, fin3_nxt, fin3_exc, fin2_exc, fin4_some, ap_methR, ap_ownR, ownS_ok, ownS2_some, strP_s, fldD_i, fldD_x, ap_sFld, insD_i, insC_i, isx_int, isx_intb, isx_str, isx_lst, isx_tup, isx_tupl, isx_lstt, ap_sAsgT, bU_t, bU_l, bTs_0, bTs_s, rz0_ap, rz1_ap, thn_exc, bind_exc, onR_exc, lp_exc, ordA, lp_nxt, lp_cnt, lp_brk, lp_ret]
theorem y_3b {n : Nat} (hn : n ≤ 60) : Tells fn_l_threes [.int n] (.int ((3 : Int) ^ n)) := by
  unfold Tells Fn.call fn_l_threes F_l_threes
  simp (config := { decide := false, maxSteps := 1000000 }) [tel_ret, goes_nxt, ap_nil, ap_brk, ap_retN, ap_bN, ap_bT2, ap_sSet, ap_sRet, ap_sExpr, ap_sIf, ap_sAug, ap_sSetL, ap_sSetD, ap_sAugL, ap_oR, ap_oN, ap_oF, ap_rN, ap_rC, ap_rF, ap_aN, ap_aC, ap_op1, ap_op2, ap_tO, ap_tV, ap_tNotD, ap_tAndD, ap_tOrD, ap_rAndV, ap_rOrV, ap_rNotV, ap_rIfE, ap_lstR, ap_tupR, ap_mApp, ap_mExt, ap_mPop, ap_callR, ap_enumI, ap_zipI2, ap_zipI3, ap_m1S, ap_iO, ap_sliceR, ap_pN, ap_pS, ap_stepR, ap_tYesD, ap_mPopAt, ap_mRev, ap_mClr, onR_ok, onR_bad, bind_bad, thn_nxt, thn_ret, thn_brk, thn_cnt, thn_bad, bind_ok', DW.R.map, gt, val_tmp, val_slot, addD_i, addD_s, addD_l, augD_i, augD_s, subD_i, negD_i, modD_i, fdivD_i, mulD_a, mulD_b, eqD_i, eqD_s, neD_i, neD_s, ltD_i, leD_i, gtD_i, geD_i, idxD_l, idxD_t, idxD_c, own_some, atI_0, atI_1, atI_2, no_int, no_str, no_bl, no_non, no_tup, no_lst, no_scr, no_ktp, noL_0, noL_s, frz_int, frz_str, frz_bl, frz_non, frz_tup, frz_lst, frz_scr, frz_ktp, frzL_0, frzL_s, src_l, src_t, src_s, src_k, it_l, it_t, it_s, it_k, len_l, len_t, len_s, len_c, int_i, int_b, find_s, tru_b, isi_int, isi_intb, isi_str, absD, min2D, max2D, minI, maxI, toTupD, callO_eq, finO_some, fin2_ret, fin2_nxt, take_nil, take_tmp, take_slot, takeS_some, map_some', okO_nil, okO_none, okO_some, back_nil, back_none, back_some, backS_some, mkSeq_eq, mkS_some, tmps_0, tmps_s, env0, zip2D, wipe_0, wipe_s, ap_callB, callOB_eq, finB_some, finB2_ret, finB2_nxt, vals_0, vals_s, valS_some, scal_int, scal_bl, scal_str, scal_non, ap_selO, ap_aApp, callW_eq, finW_some, finX_eq, ap_callWR, ap_makeWR, makeW_eq, finM_some, finMX_eq, fin3_nxt, fin3_exc, fin2_exc, fin4_some, ap_methR, ap_ownR, ownS_ok, ownS2_some, strP_s, fldD_i, fldD_x, ap_sFld, insD_i, insC_i, isx_int, isx_intb, isx_str, isx_lst, isx_tup, isx_tupl, isx_lstt, ap_sAsgT, bU_t, bU_l, bTs_0, bTs_s, rz0_ap, rz1_ap, thn_exc, bind_exc, onR_exc, lp_exc, ordA, lp_nxt, lp_cnt, lp_brk, lp_ret]
  refine for_tel (E1 := [some (.int n), some (.int 1), none]) (ds := rangeL 0 n) (rng1_n (n := n) (by simp (config := { decide := false, maxSteps := 1000000 }) [tel_ret, goes_nxt, ap_nil, ap_brk, ap_retN, ap_bN, ap_bT2, ap_sSet, ap_sRet, ap_sExpr, ap_sIf, ap_sAug, ap_sSetL, ap_sSetD, ap_sAugL, ap_oR, ap_oN, ap_oF, ap_rN, ap_rC, ap_rF, ap_aN, ap_aC, ap_op1, ap_op2, ap_tO, ap_tV, ap_tNotD, ap_tAndD, ap_tOrD, ap_rAndV, ap_rOrV, ap_rNotV, ap_rIfE, ap_lstR, ap_tupR, ap_mApp, ap_mExt, ap_mPop, ap_callR, ap_enumI, ap_zipI2, ap_zipI3, ap_m1S, ap_iO, ap_sliceR, ap_pN, ap_pS, ap_stepR, ap_tYesD, ap_mPopAt, ap_mRev, ap_mClr, onR_ok, onR_bad, bind_bad, thn_nxt, thn_ret, thn_brk, thn_cnt, thn_bad, bind_ok', DW.R.map, gt, val_tmp, val_slot, addD_i, addD_s, addD_l, augD_i, augD_s, subD_i, negD_i, modD_i, fdivD_i, mulD_a, mulD_b, eqD_i, eqD_s, neD_i, neD_s, ltD_i, leD_i, gtD_i, geD_i, idxD_l, idxD_t, idxD_c, own_some, atI_0, atI_1, atI_2, no_int, no_str, no_bl, no_non, no_tup, no_lst, no_scr, no_ktp, noL_0, noL_s, frz_int, frz_str, frz_bl, frz_non, frz_tup, frz_lst, frz_scr, frz_ktp, frzL_0, frzL_s, src_l, src_t, src_s, src_k, it_l, it_t, it_s, it_k, len_l, len_t, len_s, len_c, int_i, int_b, find_s, tru_b, isi_int, isi_intb, isi_str, absD, min2D, max2D, minI, maxI, toTupD, callO_eq, finO_some, fin2_ret, fin2_nxt, take_nil, take_tmp, take_slot, takeS_some, map_some', okO_nil, okO_none, okO_some, back_nil, back_none, back_some, backS_some, mkSeq_eq, mkS_some, tmps_0, tmps_s, env0, zip2D, wipe_0, wipe_s, ap_callB, callOB_eq, finB_some, finB2_ret, finB2_nxt, vals_0, vals_s, valS_some, scal_int, scal_bl, scal_str, scal_non, ap_selO, ap_aApp, callW_eq, finW_some, finX_eq, ap_callWR, ap_makeWR, makeW_eq, finM_some, finMX_eq, fin3_nxt, fin3_exc, fin2_exc, fin4_some, ap_methR, ap_ownR, ownS_ok, ownS2_some, strP_s, fldD_i, fldD_x, ap_sFld, insD_i, insC_i, isx_int, isx_intb, isx_str, isx_lst, isx_tup, isx_tupl, isx_lstt, ap_sAsgT, bU_t, bU_l, bTs_0, bTs_s, rz0_ap, rz1_ap, thn_exc, bind_exc, onR_exc, lp_exc, ordA, lp_nxt, lp_cnt, lp_brk, lp_ret]; rfl) rfl (by omega)) (fun i E => ∃ a, E = [some (.int n), some (.int ((3 : Int) ^ i)), a]) ⟨none, rfl⟩ (fun i d E hd hi => ?_) (fun E' h => ?_)
  · obtain ⟨a, rfl⟩ := hi
    obtain ⟨hi, rfl⟩ := rangeL_at hd
    refine ⟨_, rfl, ?_⟩
    have m : mulD (.int ((3 : Int) ^ i)) (.int 3) = some (.int ((3 : Int) ^ (i + 1))) := by
      rw [Int.pow_succ]
      generalize (3 : Int) ^ i = q0
      exact mulD_b (by decide) (by decide)
    refine nx_eq (E := [some (.int n), some (.int ((3 : Int) ^ (i + 1))), some (.int (0 + (i : Int)))]) ?_ ⟨_, rfl⟩
    generalize (3 : Int) ^ (i + 1) = q at *
    generalize (3 : Int) ^ i = q0 at *
    have z : op2 mulD (oN 1) (oR (rC (.int 3))) [some (.int n), some (.int q0), some (.int (0 + (i : Int)))] = .ok (.int q) [some (.int n), some (.int q0), some (.int (0 + (i : Int)))] := op2_ofN (E1 := [some (.int n), some (.int q0), some (.int (0 + (i : Int)))]) (o1 := .slot 1) (o2 := .tmp (.int 3)) rfl rfl rfl rfl m
    show sSet 1 _ sNil [some (.int n), some (.int q0), some (.int (0 + (i : Int)))] = _
    rw [ap_sSet, z, onR_ok]
    rfl
  · obtain ⟨a, rfl⟩ := h
    rw [rangeL_len]
    generalize (3 : Int) ^ n = q at *
    simp (config := { decide := false, maxSteps := 1000000 }) [tel_ret, goes_nxt, ap_nil, ap_brk, ap_retN, ap_bN, ap_bT2, ap_sSet, ap_sRet, ap_sExpr, ap_sIf, ap_sAug, ap_sSetL, ap_sSetD, ap_sAugL, ap_oR, ap_oN, ap_oF, ap_rN, ap_rC, ap_rF, ap_aN, ap_aC, ap_op1, ap_op2, ap_tO, ap_tV, ap_tNotD, ap_tAndD, ap_tOrD, ap_rAndV, ap_rOrV, ap_rNotV, ap_rIfE, ap_lstR, ap_tupR, ap_mApp, ap_mExt, ap_mPop, ap_callR, ap_enumI, ap_zipI2, ap_zipI3, ap_m1S, ap_iO, ap_sliceR, ap_pN, ap_pS, ap_stepR, ap_tYesD, ap_mPopAt, ap_mRev, ap_mClr, onR_ok, onR_bad, bind_bad, thn_nxt, thn_ret, thn_brk, thn_cnt, thn_bad, bind_ok', DW.R.map, gt, val_tmp, val_slot, addD_i, addD_s, addD_l, augD_i, augD_s, subD_i, negD_i, modD_i, fdivD_i, mulD_a, mulD_b, eqD_i, eqD_s, neD_i, neD_s, ltD_i, leD_i, gtD_i, geD_i, idxD_l, idxD_t, idxD_c, own_some, atI_0, atI_1, atI_2, no_int, no_str, no_bl, no_non, no_tup, no_lst, no_scr, no_ktp, noL_0, noL_s, frz_int, frz_str, frz_bl, frz_non, frz_tup, frz_lst, frz_scr, frz_ktp, frzL_0, frzL_s, src_l, src_t, src_s, src_k, it_l, it_t, it_s, it_k, len_l, len_t, len_s, len_c, int_i, int_b, find_s, tru_b, isi_int, isi_intb, isi_str, absD, min2D, max2D, minI, maxI, toTupD, callO_eq, finO_some, fin2_ret, fin2_nxt, take_nil, take_tmp, take_slot, takeS_some, map_some', okO_nil, okO_none, okO_some, back_nil, back_none, back_some, backS_some, mkSeq_eq, mkS_some, tmps_0, tmps_s, env0, zip2D, wipe_0, wipe_s, ap_callB, callOB_eq, finB_some, finB2_ret, finB2_nxt, vals_0, vals_s, valS_some, scal_int, scal_bl, scal_str, scal_non, ap_selO, ap_aApp, callW_eq, finW_some, finX_eq, ap_callWR, ap_makeWR, makeW_eq, finM_some, finMX_eq, fin3_nxt, fin3_exc, fin2_exc, fin4_some, ap_methR, ap_ownR, ownS_ok, ownS2_some, strP_s, fldD_i, fldD_x, ap_sFld, insD_i, insC_i, isx_int, isx_intb, isx_str, isx_lst, isx_tup, isx_tupl, isx_lstt, ap_sAsgT, bU_t, bU_l, bTs_0, bTs_s, rz0_ap, rz1_ap, thn_exc, bind_exc, onR_exc, lp_exc, ordA, lp_nxt, lp_cnt, lp_brk, lp_ret]
theorem y_p3 {n : Nat} (hn : n ≤ 60) : 0 < (3 : Int) ^ n ∧ (3 : Int) ^ n < 2 ^ 100 := by
  refine ⟨Int.pow_pos (by decide), ?_⟩
  have h1 : (3 : Nat) ^ n ≤ 3 ^ 60 := Nat.pow_le_pow_right (by decide) hn
  have h2 : (3 : Nat) ^ 60 < 2 ^ 100 := by decide
  have : (3 : Nat) ^ n < 2 ^ 100 := Nat.lt_of_le_of_lt h1 h2
  exact_mod_cast this
/-- the four counts -/
def cv (n : Nat) : Nat → Int
  | 0 => Law_k41.wordsOf n
  | 1 => (3 : Int) ^ n * Law_k41.wordsOf n
  | 2 => Law_k41.wordsOf n * Law_k41.wordsOf (n + 1)
  | _ => 2 * ((3 : Int) ^ n * Law_k41.wordsOf n) / ((n : Int) + 2)
theorem y_woods {n : Nat} (hn : n ≤ 60) : Tells fn_count_woods [.int n] (.int (cv n 1)) := by
  unfold Tells Fn.call fn_count_woods F_count_woods cv
  have e1 := (y_count hn).eq
  have e2 := (y_3a hn).eq
  have h3 := y_p3 hn
  have hw := cat_b n (by omega)
  generalize (3 : Int) ^ n = q at *
  generalize Law_k41.wordsOf n = q0 at *
  have m : mulD (.int q) (.int q0) = some (.int (q * q0)) := mulN (by omega) (by omega)
  clear h3 hw
  have e3 : op2 mulD (oR (callR fn_threes [] (aC (oN 0) (aN)))) (oN 1) [some (.int n), some (.int q0)] = .ok (.int (q * q0)) [some (.int n), some (.int q0)] :=
    op2_ofN (E1 := [some (.int n), some (.int q0)]) (o1 := .tmp (.int q)) (o2 := .slot 1) (by simp (config := { decide := false, maxSteps := 1000000 }) [tel_ret, goes_nxt, ap_nil, ap_brk, ap_retN, ap_bN, ap_bT2, ap_sSet, ap_sRet, ap_sExpr, ap_sIf, ap_sAug, ap_sSetL, ap_sSetD, ap_sAugL, ap_oR, ap_oN, ap_oF, ap_rN, ap_rC, ap_rF, ap_aN, ap_aC, ap_op1, ap_op2, ap_tO, ap_tV, ap_tNotD, ap_tAndD, ap_tOrD, ap_rAndV, ap_rOrV, ap_rNotV, ap_rIfE, ap_lstR, ap_tupR, ap_mApp, ap_mExt, ap_mPop, ap_callR, ap_enumI, ap_zipI2, ap_zipI3, ap_m1S, ap_iO, ap_sliceR, ap_pN, ap_pS, ap_stepR, ap_tYesD, ap_mPopAt, ap_mRev, ap_mClr, onR_ok, onR_bad, bind_bad, thn_nxt, thn_ret, thn_brk, thn_cnt, thn_bad, bind_ok', DW.R.map, gt, val_tmp, val_slot, addD_i, addD_s, addD_l, augD_i, augD_s, subD_i, negD_i, modD_i, fdivD_i, mulD_a, mulD_b, eqD_i, eqD_s, neD_i, neD_s, ltD_i, leD_i, gtD_i, geD_i, idxD_l, idxD_t, idxD_c, own_some, atI_0, atI_1, atI_2, no_int, no_str, no_bl, no_non, no_tup, no_lst, no_scr, no_ktp, noL_0, noL_s, frz_int, frz_str, frz_bl, frz_non, frz_tup, frz_lst, frz_scr, frz_ktp, frzL_0, frzL_s, src_l, src_t, src_s, src_k, it_l, it_t, it_s, it_k, len_l, len_t, len_s, len_c, int_i, int_b, find_s, tru_b, isi_int, isi_intb, isi_str, absD, min2D, max2D, minI, maxI, toTupD, callO_eq, finO_some, fin2_ret, fin2_nxt, take_nil, take_tmp, take_slot, takeS_some, map_some', okO_nil, okO_none, okO_some, back_nil, back_none, back_some, backS_some, mkSeq_eq, mkS_some, tmps_0, tmps_s, env0, zip2D, wipe_0, wipe_s, ap_callB, callOB_eq, finB_some, finB2_ret, finB2_nxt, vals_0, vals_s, valS_some, scal_int, scal_bl, scal_str, scal_non, ap_selO, ap_aApp, callW_eq, finW_some, finX_eq, ap_callWR, ap_makeWR, makeW_eq, finM_some, finMX_eq, fin3_nxt, fin3_exc, fin2_exc, fin4_some, ap_methR, ap_ownR, ownS_ok, ownS2_some, strP_s, fldD_i, fldD_x, ap_sFld, insD_i, insC_i, isx_int, isx_intb, isx_str, isx_lst, isx_tup, isx_tupl, isx_lstt, ap_sAsgT, bU_t, bU_l, bTs_0, bTs_s, rz0_ap, rz1_ap, thn_exc, bind_exc, onR_exc, lp_exc, ordA, lp_nxt, lp_cnt, lp_brk, lp_ret, e2]) (by simp (config := { decide := false, maxSteps := 1000000 }) [tel_ret, goes_nxt, ap_nil, ap_brk, ap_retN, ap_bN, ap_bT2, ap_sSet, ap_sRet, ap_sExpr, ap_sIf, ap_sAug, ap_sSetL, ap_sSetD, ap_sAugL, ap_oR, ap_oN, ap_oF, ap_rN, ap_rC, ap_rF, ap_aN, ap_aC, ap_op1, ap_op2, ap_tO, ap_tV, ap_tNotD, ap_tAndD, ap_tOrD, ap_rAndV, ap_rOrV, ap_rNotV, ap_rIfE, ap_lstR, ap_tupR, ap_mApp, ap_mExt, ap_mPop, ap_callR, ap_enumI, ap_zipI2, ap_zipI3, ap_m1S, ap_iO, ap_sliceR, ap_pN, ap_pS, ap_stepR, ap_tYesD, ap_mPopAt, ap_mRev, ap_mClr, onR_ok, onR_bad, bind_bad, thn_nxt, thn_ret, thn_brk, thn_cnt, thn_bad, bind_ok', DW.R.map, gt, val_tmp, val_slot, addD_i, addD_s, addD_l, augD_i, augD_s, subD_i, negD_i, modD_i, fdivD_i, mulD_a, mulD_b, eqD_i, eqD_s, neD_i, neD_s, ltD_i, leD_i, gtD_i, geD_i, idxD_l, idxD_t, idxD_c, own_some, atI_0, atI_1, atI_2, no_int, no_str, no_bl, no_non, no_tup, no_lst, no_scr, no_ktp, noL_0, noL_s, frz_int, frz_str, frz_bl, frz_non, frz_tup, frz_lst, frz_scr, frz_ktp, frzL_0, frzL_s, src_l, src_t, src_s, src_k, it_l, it_t, it_s, it_k, len_l, len_t, len_s, len_c, int_i, int_b, find_s, tru_b, isi_int, isi_intb, isi_str, absD, min2D, max2D, minI, maxI, toTupD, callO_eq, finO_some, fin2_ret, fin2_nxt, take_nil, take_tmp, take_slot, takeS_some, map_some', okO_nil, okO_none, okO_some, back_nil, back_none, back_some, backS_some, mkSeq_eq, mkS_some, tmps_0, tmps_s, env0, zip2D, wipe_0, wipe_s, ap_callB, callOB_eq, finB_some, finB2_ret, finB2_nxt, vals_0, vals_s, valS_some, scal_int, scal_bl, scal_str, scal_non, ap_selO, ap_aApp, callW_eq, finW_some, finX_eq, ap_callWR, ap_makeWR, makeW_eq, finM_some, finMX_eq, fin3_nxt, fin3_exc, fin2_exc, fin4_some, ap_methR, ap_ownR, ownS_ok, ownS2_some, strP_s, fldD_i, fldD_x, ap_sFld, insD_i, insC_i, isx_int, isx_intb, isx_str, isx_lst, isx_tup, isx_tupl, isx_lstt, ap_sAsgT, bU_t, bU_l, bTs_0, bTs_s, rz0_ap, rz1_ap, thn_exc, bind_exc, onR_exc, lp_exc, ordA, lp_nxt, lp_cnt, lp_brk, lp_ret]) rfl rfl m
  have e4 : callR fn_count_words [] (aC (oN 0) (aN)) [some (.int n), none] = .ok (.int q0) [some (.int n), none] := by simp (config := { decide := false, maxSteps := 1000000 }) [tel_ret, goes_nxt, ap_nil, ap_brk, ap_retN, ap_bN, ap_bT2, ap_sSet, ap_sRet, ap_sExpr, ap_sIf, ap_sAug, ap_sSetL, ap_sSetD, ap_sAugL, ap_oR, ap_oN, ap_oF, ap_rN, ap_rC, ap_rF, ap_aN, ap_aC, ap_op1, ap_op2, ap_tO, ap_tV, ap_tNotD, ap_tAndD, ap_tOrD, ap_rAndV, ap_rOrV, ap_rNotV, ap_rIfE, ap_lstR, ap_tupR, ap_mApp, ap_mExt, ap_mPop, ap_callR, ap_enumI, ap_zipI2, ap_zipI3, ap_m1S, ap_iO, ap_sliceR, ap_pN, ap_pS, ap_stepR, ap_tYesD, ap_mPopAt, ap_mRev, ap_mClr, onR_ok, onR_bad, bind_bad, thn_nxt, thn_ret, thn_brk, thn_cnt, thn_bad, bind_ok', DW.R.map, gt, val_tmp, val_slot, addD_i, addD_s, addD_l, augD_i, augD_s, subD_i, negD_i, modD_i, fdivD_i, mulD_a, mulD_b, eqD_i, eqD_s, neD_i, neD_s, ltD_i, leD_i, gtD_i, geD_i, idxD_l, idxD_t, idxD_c, own_some, atI_0, atI_1, atI_2, no_int, no_str, no_bl, no_non, no_tup, no_lst, no_scr, no_ktp, noL_0, noL_s, frz_int, frz_str, frz_bl, frz_non, frz_tup, frz_lst, frz_scr, frz_ktp, frzL_0, frzL_s, src_l, src_t, src_s, src_k, it_l, it_t, it_s, it_k, len_l, len_t, len_s, len_c, int_i, int_b, find_s, tru_b, isi_int, isi_intb, isi_str, absD, min2D, max2D, minI, maxI, toTupD, callO_eq, finO_some, fin2_ret, fin2_nxt, take_nil, take_tmp, take_slot, takeS_some, map_some', okO_nil, okO_none, okO_some, back_nil, back_none, back_some, backS_some, mkSeq_eq, mkS_some, tmps_0, tmps_s, env0, zip2D, wipe_0, wipe_s, ap_callB, callOB_eq, finB_some, finB2_ret, finB2_nxt, vals_0, vals_s, valS_some, scal_int, scal_bl, scal_str, scal_non, ap_selO, ap_aApp, callW_eq, finW_some, finX_eq, ap_callWR, ap_makeWR, makeW_eq, finM_some, finMX_eq, fin3_nxt, fin3_exc, fin2_exc, fin4_some, ap_methR, ap_ownR, ownS_ok, ownS2_some, strP_s, fldD_i, fldD_x, ap_sFld, insD_i, insC_i, isx_int, isx_intb, isx_str, isx_lst, isx_tup, isx_tupl, isx_lstt, ap_sAsgT, bU_t, bU_l, bTs_0, bTs_s, rz0_ap, rz1_ap, thn_exc, bind_exc, onR_exc, lp_exc, ordA, lp_nxt, lp_cnt, lp_brk, lp_ret, e1]
  show (sSet 1 (callR fn_count_words [] (aC (oN 0) (aN))) (sRet (op2 mulD (oR (callR fn_threes [] (aC (oN 0) (aN)))) (oN 1))) [some (.int n), none]).tel = _
  exact set_tel e4 (ret_tel e3)
theorem y_mixed {n : Nat} (hn : n ≤ 60) : Tells fn_count_mixed [.int n] (.int (cv n 2)) := by
  unfold Tells Fn.call fn_count_mixed F_count_mixed cv
  have e1 := (y_count hn).eq
  have e2 := (y_words (n := n + 1) (by omega)).eq
  have h1 := cat_b n (by omega)
  have h2 := cat_b (n + 1) (by omega)
  have ec : ((n + 1 : Nat) : Int) = (n : Int) + 1 := by omega
  rw [ec] at e2
  generalize Law_k41.wordsOf (n + 1) = q at *
  generalize Law_k41.wordsOf n = q0 at *
  have m : mulD (.int q0) (.int q) = some (.int (q0 * q)) := mulN (by omega) (by omega)
  clear h1 h2
  refine ret_tel (E1 := [some (.int n)]) (op2_ofN (E1 := [some (.int n)]) (o1 := .tmp (.int q0)) (o2 := .tmp (.int q)) (by simp (config := { decide := false, maxSteps := 1000000 }) [tel_ret, goes_nxt, ap_nil, ap_brk, ap_retN, ap_bN, ap_bT2, ap_sSet, ap_sRet, ap_sExpr, ap_sIf, ap_sAug, ap_sSetL, ap_sSetD, ap_sAugL, ap_oR, ap_oN, ap_oF, ap_rN, ap_rC, ap_rF, ap_aN, ap_aC, ap_op1, ap_op2, ap_tO, ap_tV, ap_tNotD, ap_tAndD, ap_tOrD, ap_rAndV, ap_rOrV, ap_rNotV, ap_rIfE, ap_lstR, ap_tupR, ap_mApp, ap_mExt, ap_mPop, ap_callR, ap_enumI, ap_zipI2, ap_zipI3, ap_m1S, ap_iO, ap_sliceR, ap_pN, ap_pS, ap_stepR, ap_tYesD, ap_mPopAt, ap_mRev, ap_mClr, onR_ok, onR_bad, bind_bad, thn_nxt, thn_ret, thn_brk, thn_cnt, thn_bad, bind_ok', DW.R.map, gt, val_tmp, val_slot, addD_i, addD_s, addD_l, augD_i, augD_s, subD_i, negD_i, modD_i, fdivD_i, mulD_a, mulD_b, eqD_i, eqD_s, neD_i, neD_s, ltD_i, leD_i, gtD_i, geD_i, idxD_l, idxD_t, idxD_c, own_some, atI_0, atI_1, atI_2, no_int, no_str, no_bl, no_non, no_tup, no_lst, no_scr, no_ktp, noL_0, noL_s, frz_int, frz_str, frz_bl, frz_non, frz_tup, frz_lst, frz_scr, frz_ktp, frzL_0, frzL_s, src_l, src_t, src_s, src_k, it_l, it_t, it_s, it_k, len_l, len_t, len_s, len_c, int_i, int_b, find_s, tru_b, isi_int, isi_intb, isi_str, absD, min2D, max2D, minI, maxI, toTupD, callO_eq, finO_some, fin2_ret, fin2_nxt, take_nil, take_tmp, take_slot, takeS_some, map_some', okO_nil, okO_none, okO_some, back_nil, back_none, back_some, backS_some, mkSeq_eq, mkS_some, tmps_0, tmps_s, env0, zip2D, wipe_0, wipe_s, ap_callB, callOB_eq, finB_some, finB2_ret, finB2_nxt, vals_0, vals_s, valS_some, scal_int, scal_bl, scal_str, scal_non, ap_selO, ap_aApp, callW_eq, finW_some, finX_eq, ap_callWR, ap_makeWR, makeW_eq, finM_some, finMX_eq, fin3_nxt, fin3_exc, fin2_exc, fin4_some, ap_methR, ap_ownR, ownS_ok, ownS2_some, strP_s, fldD_i, fldD_x, ap_sFld, insD_i, insC_i, isx_int, isx_intb, isx_str, isx_lst, isx_tup, isx_tupl, isx_lstt, ap_sAsgT, bU_t, bU_l, bTs_0, bTs_s, rz0_ap, rz1_ap, thn_exc, bind_exc, onR_exc, lp_exc, ordA, lp_nxt, lp_cnt, lp_brk, lp_ret, e1]) (by simp (config := { decide := false, maxSteps := 1000000 }) [tel_ret, goes_nxt, ap_nil, ap_brk, ap_retN, ap_bN, ap_bT2, ap_sSet, ap_sRet, ap_sExpr, ap_sIf, ap_sAug, ap_sSetL, ap_sSetD, ap_sAugL, ap_oR, ap_oN, ap_oF, ap_rN, ap_rC, ap_rF, ap_aN, ap_aC, ap_op1, ap_op2, ap_tO, ap_tV, ap_tNotD, ap_tAndD, ap_tOrD, ap_rAndV, ap_rOrV, ap_rNotV, ap_rIfE, ap_lstR, ap_tupR, ap_mApp, ap_mExt, ap_mPop, ap_callR, ap_enumI, ap_zipI2, ap_zipI3, ap_m1S, ap_iO, ap_sliceR, ap_pN, ap_pS, ap_stepR, ap_tYesD, ap_mPopAt, ap_mRev, ap_mClr, onR_ok, onR_bad, bind_bad, thn_nxt, thn_ret, thn_brk, thn_cnt, thn_bad, bind_ok', DW.R.map, gt, val_tmp, val_slot, addD_i, addD_s, addD_l, augD_i, augD_s, subD_i, negD_i, modD_i, fdivD_i, mulD_a, mulD_b, eqD_i, eqD_s, neD_i, neD_s, ltD_i, leD_i, gtD_i, geD_i, idxD_l, idxD_t, idxD_c, own_some, atI_0, atI_1, atI_2, no_int, no_str, no_bl, no_non, no_tup, no_lst, no_scr, no_ktp, noL_0, noL_s, frz_int, frz_str, frz_bl, frz_non, frz_tup, frz_lst, frz_scr, frz_ktp, frzL_0, frzL_s, src_l, src_t, src_s, src_k, it_l, it_t, it_s, it_k, len_l, len_t, len_s, len_c, int_i, int_b, find_s, tru_b, isi_int, isi_intb, isi_str, absD, min2D, max2D, minI, maxI, toTupD, callO_eq, finO_some, fin2_ret, fin2_nxt, take_nil, take_tmp, take_slot, takeS_some, map_some', okO_nil, okO_none, okO_some, back_nil, back_none, back_some, backS_some, mkSeq_eq, mkS_some, tmps_0, tmps_s, env0, zip2D, wipe_0, wipe_s, ap_callB, callOB_eq, finB_some, finB2_ret, finB2_nxt, vals_0, vals_s, valS_some, scal_int, scal_bl, scal_str, scal_non, ap_selO, ap_aApp, callW_eq, finW_some, finX_eq, ap_callWR, ap_makeWR, makeW_eq, finM_some, finMX_eq, fin3_nxt, fin3_exc, fin2_exc, fin4_some, ap_methR, ap_ownR, ownS_ok, ownS2_some, strP_s, fldD_i, fldD_x, ap_sFld, insD_i, insC_i, isx_int, isx_intb, isx_str, isx_lst, isx_tup, isx_tupl, isx_lstt, ap_sAsgT, bU_t, bU_l, bTs_0, bTs_s, rz0_ap, rz1_ap, thn_exc, bind_exc, onR_exc, lp_exc, ordA, lp_nxt, lp_cnt, lp_brk, lp_ret, e2]) rfl rfl m)
theorem y_maps {n : Nat} (hn : n ≤ 60) : Tells fn_count_maps [.int n] (.int (cv n 3)) := by
  unfold Tells Fn.call fn_count_maps F_count_maps
  have e1 := (y_woods hn).eq
  have ev : cv n 3 = 2 * cv n 1 / ((n : Int) + 2) := rfl
  rw [ev]
  generalize cv n 1 = q at *
  have m : mulD (.int 2) (.int q) = some (.int (2 * q)) := mulD_a (by decide) (by decide)
  have d : fdivD (.int (2 * q)) (.int ((n : Int) + 2)) = some (.int (2 * q / ((n : Int) + 2))) := fdivD_i (by omega) (by omega)
  have f1 : op2 mulD (oR (rC (.int 2))) (oR (callR fn_count_woods [] (aC (oN 0) (aN)))) [some (.int n)] = .ok (.int (2 * q)) [some (.int n)] :=
    op2_ofN (E1 := [some (.int n)]) (o1 := .tmp (.int 2)) (o2 := .tmp (.int q)) (by simp (config := { decide := false, maxSteps := 1000000 }) [tel_ret, goes_nxt, ap_nil, ap_brk, ap_retN, ap_bN, ap_bT2, ap_sSet, ap_sRet, ap_sExpr, ap_sIf, ap_sAug, ap_sSetL, ap_sSetD, ap_sAugL, ap_oR, ap_oN, ap_oF, ap_rN, ap_rC, ap_rF, ap_aN, ap_aC, ap_op1, ap_op2, ap_tO, ap_tV, ap_tNotD, ap_tAndD, ap_tOrD, ap_rAndV, ap_rOrV, ap_rNotV, ap_rIfE, ap_lstR, ap_tupR, ap_mApp, ap_mExt, ap_mPop, ap_callR, ap_enumI, ap_zipI2, ap_zipI3, ap_m1S, ap_iO, ap_sliceR, ap_pN, ap_pS, ap_stepR, ap_tYesD, ap_mPopAt, ap_mRev, ap_mClr, onR_ok, onR_bad, bind_bad, thn_nxt, thn_ret, thn_brk, thn_cnt, thn_bad, bind_ok', DW.R.map, gt, val_tmp, val_slot, addD_i, addD_s, addD_l, augD_i, augD_s, subD_i, negD_i, modD_i, fdivD_i, mulD_a, mulD_b, eqD_i, eqD_s, neD_i, neD_s, ltD_i, leD_i, gtD_i, geD_i, idxD_l, idxD_t, idxD_c, own_some, atI_0, atI_1, atI_2, no_int, no_str, no_bl, no_non, no_tup, no_lst, no_scr, no_ktp, noL_0, noL_s, frz_int, frz_str, frz_bl, frz_non, frz_tup, frz_lst, frz_scr, frz_ktp, frzL_0, frzL_s, src_l, src_t, src_s, src_k, it_l, it_t, it_s, it_k, len_l, len_t, len_s, len_c, int_i, int_b, find_s, tru_b, isi_int, isi_intb, isi_str, absD, min2D, max2D, minI, maxI, toTupD, callO_eq, finO_some, fin2_ret, fin2_nxt, take_nil, take_tmp, take_slot, takeS_some, map_some', okO_nil, okO_none, okO_some, back_nil, back_none, back_some, backS_some, mkSeq_eq, mkS_some, tmps_0, tmps_s, env0, zip2D, wipe_0, wipe_s, ap_callB, callOB_eq, finB_some, finB2_ret, finB2_nxt, vals_0, vals_s, valS_some, scal_int, scal_bl, scal_str, scal_non, ap_selO, ap_aApp, callW_eq, finW_some, finX_eq, ap_callWR, ap_makeWR, makeW_eq, finM_some, finMX_eq, fin3_nxt, fin3_exc, fin2_exc, fin4_some, ap_methR, ap_ownR, ownS_ok, ownS2_some, strP_s, fldD_i, fldD_x, ap_sFld, insD_i, insC_i, isx_int, isx_intb, isx_str, isx_lst, isx_tup, isx_tupl, isx_lstt, ap_sAsgT, bU_t, bU_l, bTs_0, bTs_s, rz0_ap, rz1_ap, thn_exc, bind_exc, onR_exc, lp_exc, ordA, lp_nxt, lp_cnt, lp_brk, lp_ret]) (by simp (config := { decide := false, maxSteps := 1000000 }) [tel_ret, goes_nxt, ap_nil, ap_brk, ap_retN, ap_bN, ap_bT2, ap_sSet, ap_sRet, ap_sExpr, ap_sIf, ap_sAug, ap_sSetL, ap_sSetD, ap_sAugL, ap_oR, ap_oN, ap_oF, ap_rN, ap_rC, ap_rF, ap_aN, ap_aC, ap_op1, ap_op2, ap_tO, ap_tV, ap_tNotD, ap_tAndD, ap_tOrD, ap_rAndV, ap_rOrV, ap_rNotV, ap_rIfE, ap_lstR, ap_tupR, ap_mApp, ap_mExt, ap_mPop, ap_callR, ap_enumI, ap_zipI2, ap_zipI3, ap_m1S, ap_iO, ap_sliceR, ap_pN, ap_pS, ap_stepR, ap_tYesD, ap_mPopAt, ap_mRev, ap_mClr, onR_ok, onR_bad, bind_bad, thn_nxt, thn_ret, thn_brk, thn_cnt, thn_bad, bind_ok', DW.R.map, gt, val_tmp, val_slot, addD_i, addD_s, addD_l, augD_i, augD_s, subD_i, negD_i, modD_i, fdivD_i, mulD_a, mulD_b, eqD_i, eqD_s, neD_i, neD_s, ltD_i, leD_i, gtD_i, geD_i, idxD_l, idxD_t, idxD_c, own_some, atI_0, atI_1, atI_2, no_int, no_str, no_bl, no_non, no_tup, no_lst, no_scr, no_ktp, noL_0, noL_s, frz_int, frz_str, frz_bl, frz_non, frz_tup, frz_lst, frz_scr, frz_ktp, frzL_0, frzL_s, src_l, src_t, src_s, src_k, it_l, it_t, it_s, it_k, len_l, len_t, len_s, len_c, int_i, int_b, find_s, tru_b, isi_int, isi_intb, isi_str, absD, min2D, max2D, minI, maxI, toTupD, callO_eq, finO_some, fin2_ret, fin2_nxt, take_nil, take_tmp, take_slot, takeS_some, map_some', okO_nil, okO_none, okO_some, back_nil, back_none, back_some, backS_some, mkSeq_eq, mkS_some, tmps_0, tmps_s, env0, zip2D, wipe_0, wipe_s, ap_callB, callOB_eq, finB_some, finB2_ret, finB2_nxt, vals_0, vals_s, valS_some, scal_int, scal_bl, scal_str, scal_non, ap_selO, ap_aApp, callW_eq, finW_some, finX_eq, ap_callWR, ap_makeWR, makeW_eq, finM_some, finMX_eq, fin3_nxt, fin3_exc, fin2_exc, fin4_some, ap_methR, ap_ownR, ownS_ok, ownS2_some, strP_s, fldD_i, fldD_x, ap_sFld, insD_i, insC_i, isx_int, isx_intb, isx_str, isx_lst, isx_tup, isx_tupl, isx_lstt, ap_sAsgT, bU_t, bU_l, bTs_0, bTs_s, rz0_ap, rz1_ap, thn_exc, bind_exc, onR_exc, lp_exc, ordA, lp_nxt, lp_cnt, lp_brk, lp_ret, e1]) rfl rfl m
  generalize 2 * q = q2 at *
  show (sRet (op2 fdivD (oR (op2 mulD (oR (rC (.int 2))) (oR (callR fn_count_woods [] (aC (oN 0) (aN)))))) (oR (op2 addD (oN 0) (oR (rC (.int 2)))))) [some (.int n)]).tel = _
  refine ret_tel (E1 := [some (.int n)]) (op2_ofN (E1 := [some (.int n)]) (o1 := .tmp (.int q2)) (o2 := .tmp (.int ((n : Int) + 2))) (by rw [ap_oR, f1, bind_ok']) (by simp (config := { decide := false, maxSteps := 1000000 }) [tel_ret, goes_nxt, ap_nil, ap_brk, ap_retN, ap_bN, ap_bT2, ap_sSet, ap_sRet, ap_sExpr, ap_sIf, ap_sAug, ap_sSetL, ap_sSetD, ap_sAugL, ap_oR, ap_oN, ap_oF, ap_rN, ap_rC, ap_rF, ap_aN, ap_aC, ap_op1, ap_op2, ap_tO, ap_tV, ap_tNotD, ap_tAndD, ap_tOrD, ap_rAndV, ap_rOrV, ap_rNotV, ap_rIfE, ap_lstR, ap_tupR, ap_mApp, ap_mExt, ap_mPop, ap_callR, ap_enumI, ap_zipI2, ap_zipI3, ap_m1S, ap_iO, ap_sliceR, ap_pN, ap_pS, ap_stepR, ap_tYesD, ap_mPopAt, ap_mRev, ap_mClr, onR_ok, onR_bad, bind_bad, thn_nxt, thn_ret, thn_brk, thn_cnt, thn_bad, bind_ok', DW.R.map, gt, val_tmp, val_slot, addD_i, addD_s, addD_l, augD_i, augD_s, subD_i, negD_i, modD_i, fdivD_i, mulD_a, mulD_b, eqD_i, eqD_s, neD_i, neD_s, ltD_i, leD_i, gtD_i, geD_i, idxD_l, idxD_t, idxD_c, own_some, atI_0, atI_1, atI_2, no_int, no_str, no_bl, no_non, no_tup, no_lst, no_scr, no_ktp, noL_0, noL_s, frz_int, frz_str, frz_bl, frz_non, frz_tup, frz_lst, frz_scr, frz_ktp, frzL_0, frzL_s, src_l, src_t, src_s, src_k, it_l, it_t, it_s, it_k, len_l, len_t, len_s, len_c, int_i, int_b, find_s, tru_b, isi_int, isi_intb, isi_str, absD, min2D, max2D, minI, maxI, toTupD, callO_eq, finO_some, fin2_ret, fin2_nxt, take_nil, take_tmp, take_slot, takeS_some, map_some', okO_nil, okO_none, okO_some, back_nil, back_none, back_some, backS_some, mkSeq_eq, mkS_some, tmps_0, tmps_s, env0, zip2D, wipe_0, wipe_s, ap_callB, callOB_eq, finB_some, finB2_ret, finB2_nxt, vals_0, vals_s, valS_some, scal_int, scal_bl, scal_str, scal_non, ap_selO, ap_aApp, callW_eq, finW_some, finX_eq, ap_callWR, ap_makeWR, makeW_eq, finM_some, finMX_eq, fin3_nxt, fin3_exc, fin2_exc, fin4_some, ap_methR, ap_ownR, ownS_ok, ownS2_some, strP_s, fldD_i, fldD_x, ap_sFld, insD_i, insC_i, isx_int, isx_intb, isx_str, isx_lst, isx_tup, isx_tupl, isx_lstt, ap_sAsgT, bU_t, bU_l, bTs_0, bTs_s, rz0_ap, rz1_ap, thn_exc, bind_exc, onR_exc, lp_exc, ordA, lp_nxt, lp_cnt, lp_brk, lp_ret]) rfl rfl d)
theorem tryS_nxt {x : Str} {i : Nat} {Fb Fs F : DW.Env → Out} {E E1 : DW.Env} (h : Fb E = .nxt E1) : sTryS x i Fb Fs F E = F E1 := by
  unfold sTryS
  rw [h]
theorem tryS_exc {x : Str} {i : Nat} {Fb Fs F : DW.Env → Out} {E E1 E2 : DW.Env} {c : Str} {ns : List Str} {vs : List D} (h : Fb E = .exc c ns vs E1) (h1 : (isExc c && (isExc x && allC.contains x)) = true) (h2 : subB c x = true) (h3 : Fs (E1.set i (some (.exn c ns vs))) = .nxt E2) : sTryS x i Fb Fs F E = F (E2.set i none) := by
  unfold sTryS
  rw [h]
  dsimp only
  rw [if_pos h1, if_pos h2, h3]
theorem y_ask {n w : Nat} (hn : n ≤ 60) (hw : w < 4) : Tells fn_l_asked_2 [.int w, .int n] (.int (cv n w)) := by
  unfold Tells Fn.call fn_l_asked_2 F_l_asked_2
  simp (config := { decide := false, maxSteps := 1000000 }) [tel_ret, goes_nxt, ap_nil, ap_brk, ap_retN, ap_bN, ap_bT2, ap_sSet, ap_sRet, ap_sExpr, ap_sIf, ap_sAug, ap_sSetL, ap_sSetD, ap_sAugL, ap_oR, ap_oN, ap_oF, ap_rN, ap_rC, ap_rF, ap_aN, ap_aC, ap_op1, ap_op2, ap_tO, ap_tV, ap_tNotD, ap_tAndD, ap_tOrD, ap_rAndV, ap_rOrV, ap_rNotV, ap_rIfE, ap_lstR, ap_tupR, ap_mApp, ap_mExt, ap_mPop, ap_callR, ap_enumI, ap_zipI2, ap_zipI3, ap_m1S, ap_iO, ap_sliceR, ap_pN, ap_pS, ap_stepR, ap_tYesD, ap_mPopAt, ap_mRev, ap_mClr, onR_ok, onR_bad, bind_bad, thn_nxt, thn_ret, thn_brk, thn_cnt, thn_bad, bind_ok', DW.R.map, gt, val_tmp, val_slot, addD_i, addD_s, addD_l, augD_i, augD_s, subD_i, negD_i, modD_i, fdivD_i, mulD_a, mulD_b, eqD_i, eqD_s, neD_i, neD_s, ltD_i, leD_i, gtD_i, geD_i, idxD_l, idxD_t, idxD_c, own_some, atI_0, atI_1, atI_2, no_int, no_str, no_bl, no_non, no_tup, no_lst, no_scr, no_ktp, noL_0, noL_s, frz_int, frz_str, frz_bl, frz_non, frz_tup, frz_lst, frz_scr, frz_ktp, frzL_0, frzL_s, src_l, src_t, src_s, src_k, it_l, it_t, it_s, it_k, len_l, len_t, len_s, len_c, int_i, int_b, find_s, tru_b, isi_int, isi_intb, isi_str, absD, min2D, max2D, minI, maxI, toTupD, callO_eq, finO_some, fin2_ret, fin2_nxt, take_nil, take_tmp, take_slot, takeS_some, map_some', okO_nil, okO_none, okO_some, back_nil, back_none, back_some, backS_some, mkSeq_eq, mkS_some, tmps_0, tmps_s, env0, zip2D, wipe_0, wipe_s, ap_callB, callOB_eq, finB_some, finB2_ret, finB2_nxt, vals_0, vals_s, valS_some, scal_int, scal_bl, scal_str, scal_non, ap_selO, ap_aApp, callW_eq, finW_some, finX_eq, ap_callWR, ap_makeWR, makeW_eq, finM_some, finMX_eq, fin3_nxt, fin3_exc, fin2_exc, fin4_some, ap_methR, ap_ownR, ownS_ok, ownS2_some, strP_s, fldD_i, fldD_x, ap_sFld, insD_i, insC_i, isx_int, isx_intb, isx_str, isx_lst, isx_tup, isx_tupl, isx_lstt, ap_sAsgT, bU_t, bU_l, bTs_0, bTs_s, rz0_ap, rz1_ap, thn_exc, bind_exc, onR_exc, lp_exc, ordA, lp_nxt, lp_cnt, lp_brk, lp_ret]
  have e0 := (y_count hn).eq
  have e1 := (y_woods hn).eq
  have e2 := (y_mixed hn).eq
  have e3 := (y_maps hn).eq
  have e0 : fn_count_words.call [.int n] = .ret (.int (cv n 0)) _ := e0
  generalize hc : cv n = C at *
  have : w = 0 ∨ w = 1 ∨ w = 2 ∨ w = 3 := by omega
  rcases this with rfl | rfl | rfl | rfl
  · rw [tryS_nxt (E1 := [some (.int 0), some (.int n), some (.int (C 0)), none]) (by simp (config := { decide := false, maxSteps := 1000000 }) [tel_ret, goes_nxt, ap_nil, ap_brk, ap_retN, ap_bN, ap_bT2, ap_sSet, ap_sRet, ap_sExpr, ap_sIf, ap_sAug, ap_sSetL, ap_sSetD, ap_sAugL, ap_oR, ap_oN, ap_oF, ap_rN, ap_rC, ap_rF, ap_aN, ap_aC, ap_op1, ap_op2, ap_tO, ap_tV, ap_tNotD, ap_tAndD, ap_tOrD, ap_rAndV, ap_rOrV, ap_rNotV, ap_rIfE, ap_lstR, ap_tupR, ap_mApp, ap_mExt, ap_mPop, ap_callR, ap_enumI, ap_zipI2, ap_zipI3, ap_m1S, ap_iO, ap_sliceR, ap_pN, ap_pS, ap_stepR, ap_tYesD, ap_mPopAt, ap_mRev, ap_mClr, onR_ok, onR_bad, bind_bad, thn_nxt, thn_ret, thn_brk, thn_cnt, thn_bad, bind_ok', DW.R.map, gt, val_tmp, val_slot, addD_i, addD_s, addD_l, augD_i, augD_s, subD_i, negD_i, modD_i, fdivD_i, mulD_a, mulD_b, eqD_i, eqD_s, neD_i, neD_s, ltD_i, leD_i, gtD_i, geD_i, idxD_l, idxD_t, idxD_c, own_some, atI_0, atI_1, atI_2, no_int, no_str, no_bl, no_non, no_tup, no_lst, no_scr, no_ktp, noL_0, noL_s, frz_int, frz_str, frz_bl, frz_non, frz_tup, frz_lst, frz_scr, frz_ktp, frzL_0, frzL_s, src_l, src_t, src_s, src_k, it_l, it_t, it_s, it_k, len_l, len_t, len_s, len_c, int_i, int_b, find_s, tru_b, isi_int, isi_intb, isi_str, absD, min2D, max2D, minI, maxI, toTupD, callO_eq, finO_some, fin2_ret, fin2_nxt, take_nil, take_tmp, take_slot, takeS_some, map_some', okO_nil, okO_none, okO_some, back_nil, back_none, back_some, backS_some, mkSeq_eq, mkS_some, tmps_0, tmps_s, env0, zip2D, wipe_0, wipe_s, ap_callB, callOB_eq, finB_some, finB2_ret, finB2_nxt, vals_0, vals_s, valS_some, scal_int, scal_bl, scal_str, scal_non, ap_selO, ap_aApp, callW_eq, finW_some, finX_eq, ap_callWR, ap_makeWR, makeW_eq, finM_some, finMX_eq, fin3_nxt, fin3_exc, fin2_exc, fin4_some, ap_methR, ap_ownR, ownS_ok, ownS2_some, strP_s, fldD_i, fldD_x, ap_sFld, insD_i, insC_i, isx_int, isx_intb, isx_str, isx_lst, isx_tup, isx_tupl, isx_lstt, ap_sAsgT, bU_t, bU_l, bTs_0, bTs_s, rz0_ap, rz1_ap, thn_exc, bind_exc, onR_exc, lp_exc, ordA, lp_nxt, lp_cnt, lp_brk, lp_ret, e0])]
    simp (config := { decide := false, maxSteps := 1000000 }) [tel_ret, goes_nxt, ap_nil, ap_brk, ap_retN, ap_bN, ap_bT2, ap_sSet, ap_sRet, ap_sExpr, ap_sIf, ap_sAug, ap_sSetL, ap_sSetD, ap_sAugL, ap_oR, ap_oN, ap_oF, ap_rN, ap_rC, ap_rF, ap_aN, ap_aC, ap_op1, ap_op2, ap_tO, ap_tV, ap_tNotD, ap_tAndD, ap_tOrD, ap_rAndV, ap_rOrV, ap_rNotV, ap_rIfE, ap_lstR, ap_tupR, ap_mApp, ap_mExt, ap_mPop, ap_callR, ap_enumI, ap_zipI2, ap_zipI3, ap_m1S, ap_iO, ap_sliceR, ap_pN, ap_pS, ap_stepR, ap_tYesD, ap_mPopAt, ap_mRev, ap_mClr, onR_ok, onR_bad, bind_bad, thn_nxt, thn_ret, thn_brk, thn_cnt, thn_bad, bind_ok', DW.R.map, gt, val_tmp, val_slot, addD_i, addD_s, addD_l, augD_i, augD_s, subD_i, negD_i, modD_i, fdivD_i, mulD_a, mulD_b, eqD_i, eqD_s, neD_i, neD_s, ltD_i, leD_i, gtD_i, geD_i, idxD_l, idxD_t, idxD_c, own_some, atI_0, atI_1, atI_2, no_int, no_str, no_bl, no_non, no_tup, no_lst, no_scr, no_ktp, noL_0, noL_s, frz_int, frz_str, frz_bl, frz_non, frz_tup, frz_lst, frz_scr, frz_ktp, frzL_0, frzL_s, src_l, src_t, src_s, src_k, it_l, it_t, it_s, it_k, len_l, len_t, len_s, len_c, int_i, int_b, find_s, tru_b, isi_int, isi_intb, isi_str, absD, min2D, max2D, minI, maxI, toTupD, callO_eq, finO_some, fin2_ret, fin2_nxt, take_nil, take_tmp, take_slot, takeS_some, map_some', okO_nil, okO_none, okO_some, back_nil, back_none, back_some, backS_some, mkSeq_eq, mkS_some, tmps_0, tmps_s, env0, zip2D, wipe_0, wipe_s, ap_callB, callOB_eq, finB_some, finB2_ret, finB2_nxt, vals_0, vals_s, valS_some, scal_int, scal_bl, scal_str, scal_non, ap_selO, ap_aApp, callW_eq, finW_some, finX_eq, ap_callWR, ap_makeWR, makeW_eq, finM_some, finMX_eq, fin3_nxt, fin3_exc, fin2_exc, fin4_some, ap_methR, ap_ownR, ownS_ok, ownS2_some, strP_s, fldD_i, fldD_x, ap_sFld, insD_i, insC_i, isx_int, isx_intb, isx_str, isx_lst, isx_tup, isx_tupl, isx_lstt, ap_sAsgT, bU_t, bU_l, bTs_0, bTs_s, rz0_ap, rz1_ap, thn_exc, bind_exc, onR_exc, lp_exc, ordA, lp_nxt, lp_cnt, lp_brk, lp_ret]
  · rw [tryS_nxt (E1 := [some (.int 1), some (.int n), some (.int (C 1)), none]) (by simp (config := { decide := false, maxSteps := 1000000 }) [tel_ret, goes_nxt, ap_nil, ap_brk, ap_retN, ap_bN, ap_bT2, ap_sSet, ap_sRet, ap_sExpr, ap_sIf, ap_sAug, ap_sSetL, ap_sSetD, ap_sAugL, ap_oR, ap_oN, ap_oF, ap_rN, ap_rC, ap_rF, ap_aN, ap_aC, ap_op1, ap_op2, ap_tO, ap_tV, ap_tNotD, ap_tAndD, ap_tOrD, ap_rAndV, ap_rOrV, ap_rNotV, ap_rIfE, ap_lstR, ap_tupR, ap_mApp, ap_mExt, ap_mPop, ap_callR, ap_enumI, ap_zipI2, ap_zipI3, ap_m1S, ap_iO, ap_sliceR, ap_pN, ap_pS, ap_stepR, ap_tYesD, ap_mPopAt, ap_mRev, ap_mClr, onR_ok, onR_bad, bind_bad, thn_nxt, thn_ret, thn_brk, thn_cnt, thn_bad, bind_ok', DW.R.map, gt, val_tmp, val_slot, addD_i, addD_s, addD_l, augD_i, augD_s, subD_i, negD_i, modD_i, fdivD_i, mulD_a, mulD_b, eqD_i, eqD_s, neD_i, neD_s, ltD_i, leD_i, gtD_i, geD_i, idxD_l, idxD_t, idxD_c, own_some, atI_0, atI_1, atI_2, no_int, no_str, no_bl, no_non, no_tup, no_lst, no_scr, no_ktp, noL_0, noL_s, frz_int, frz_str, frz_bl, frz_non, frz_tup, frz_lst, frz_scr, frz_ktp, frzL_0, frzL_s, src_l, src_t, src_s, src_k, it_l, it_t, it_s, it_k, len_l, len_t, len_s, len_c, int_i, int_b, find_s, tru_b, isi_int, isi_intb, isi_str, absD, min2D, max2D, minI, maxI, toTupD, callO_eq, finO_some, fin2_ret, fin2_nxt, take_nil, take_tmp, take_slot, takeS_some, map_some', okO_nil, okO_none, okO_some, back_nil, back_none, back_some, backS_some, mkSeq_eq, mkS_some, tmps_0, tmps_s, env0, zip2D, wipe_0, wipe_s, ap_callB, callOB_eq, finB_some, finB2_ret, finB2_nxt, vals_0, vals_s, valS_some, scal_int, scal_bl, scal_str, scal_non, ap_selO, ap_aApp, callW_eq, finW_some, finX_eq, ap_callWR, ap_makeWR, makeW_eq, finM_some, finMX_eq, fin3_nxt, fin3_exc, fin2_exc, fin4_some, ap_methR, ap_ownR, ownS_ok, ownS2_some, strP_s, fldD_i, fldD_x, ap_sFld, insD_i, insC_i, isx_int, isx_intb, isx_str, isx_lst, isx_tup, isx_tupl, isx_lstt, ap_sAsgT, bU_t, bU_l, bTs_0, bTs_s, rz0_ap, rz1_ap, thn_exc, bind_exc, onR_exc, lp_exc, ordA, lp_nxt, lp_cnt, lp_brk, lp_ret, e1])]
    simp (config := { decide := false, maxSteps := 1000000 }) [tel_ret, goes_nxt, ap_nil, ap_brk, ap_retN, ap_bN, ap_bT2, ap_sSet, ap_sRet, ap_sExpr, ap_sIf, ap_sAug, ap_sSetL, ap_sSetD, ap_sAugL, ap_oR, ap_oN, ap_oF, ap_rN, ap_rC, ap_rF, ap_aN, ap_aC, ap_op1, ap_op2, ap_tO, ap_tV, ap_tNotD, ap_tAndD, ap_tOrD, ap_rAndV, ap_rOrV, ap_rNotV, ap_rIfE, ap_lstR, ap_tupR, ap_mApp, ap_mExt, ap_mPop, ap_callR, ap_enumI, ap_zipI2, ap_zipI3, ap_m1S, ap_iO, ap_sliceR, ap_pN, ap_pS, ap_stepR, ap_tYesD, ap_mPopAt, ap_mRev, ap_mClr, onR_ok, onR_bad, bind_bad, thn_nxt, thn_ret, thn_brk, thn_cnt, thn_bad, bind_ok', DW.R.map, gt, val_tmp, val_slot, addD_i, addD_s, addD_l, augD_i, augD_s, subD_i, negD_i, modD_i, fdivD_i, mulD_a, mulD_b, eqD_i, eqD_s, neD_i, neD_s, ltD_i, leD_i, gtD_i, geD_i, idxD_l, idxD_t, idxD_c, own_some, atI_0, atI_1, atI_2, no_int, no_str, no_bl, no_non, no_tup, no_lst, no_scr, no_ktp, noL_0, noL_s, frz_int, frz_str, frz_bl, frz_non, frz_tup, frz_lst, frz_scr, frz_ktp, frzL_0, frzL_s, src_l, src_t, src_s, src_k, it_l, it_t, it_s, it_k, len_l, len_t, len_s, len_c, int_i, int_b, find_s, tru_b, isi_int, isi_intb, isi_str, absD, min2D, max2D, minI, maxI, toTupD, callO_eq, finO_some, fin2_ret, fin2_nxt, take_nil, take_tmp, take_slot, takeS_some, map_some', okO_nil, okO_none, okO_some, back_nil, back_none, back_some, backS_some, mkSeq_eq, mkS_some, tmps_0, tmps_s, env0, zip2D, wipe_0, wipe_s, ap_callB, callOB_eq, finB_some, finB2_ret, finB2_nxt, vals_0, vals_s, valS_some, scal_int, scal_bl, scal_str, scal_non, ap_selO, ap_aApp, callW_eq, finW_some, finX_eq, ap_callWR, ap_makeWR, makeW_eq, finM_some, finMX_eq, fin3_nxt, fin3_exc, fin2_exc, fin4_some, ap_methR, ap_ownR, ownS_ok, ownS2_some, strP_s, fldD_i, fldD_x, ap_sFld, insD_i, insC_i, isx_int, isx_intb, isx_str, isx_lst, isx_tup, isx_tupl, isx_lstt, ap_sAsgT, bU_t, bU_l, bTs_0, bTs_s, rz0_ap, rz1_ap, thn_exc, bind_exc, onR_exc, lp_exc, ordA, lp_nxt, lp_cnt, lp_brk, lp_ret]
  · rw [tryS_nxt (E1 := [some (.int 2), some (.int n), some (.int (C 2)), none]) (by simp (config := { decide := false, maxSteps := 1000000 }) [tel_ret, goes_nxt, ap_nil, ap_brk, ap_retN, ap_bN, ap_bT2, ap_sSet, ap_sRet, ap_sExpr, ap_sIf, ap_sAug, ap_sSetL, ap_sSetD, ap_sAugL, ap_oR, ap_oN, ap_oF, ap_rN, ap_rC, ap_rF, ap_aN, ap_aC, ap_op1, ap_op2, ap_tO, ap_tV, ap_tNotD, ap_tAndD, ap_tOrD, ap_rAndV, ap_rOrV, ap_rNotV, ap_rIfE, ap_lstR, ap_tupR, ap_mApp, ap_mExt, ap_mPop, ap_callR, ap_enumI, ap_zipI2, ap_zipI3, ap_m1S, ap_iO, ap_sliceR, ap_pN, ap_pS, ap_stepR, ap_tYesD, ap_mPopAt, ap_mRev, ap_mClr, onR_ok, onR_bad, bind_bad, thn_nxt, thn_ret, thn_brk, thn_cnt, thn_bad, bind_ok', DW.R.map, gt, val_tmp, val_slot, addD_i, addD_s, addD_l, augD_i, augD_s, subD_i, negD_i, modD_i, fdivD_i, mulD_a, mulD_b, eqD_i, eqD_s, neD_i, neD_s, ltD_i, leD_i, gtD_i, geD_i, idxD_l, idxD_t, idxD_c, own_some, atI_0, atI_1, atI_2, no_int, no_str, no_bl, no_non, no_tup, no_lst, no_scr, no_ktp, noL_0, noL_s, frz_int, frz_str, frz_bl, frz_non, frz_tup, frz_lst, frz_scr, frz_ktp, frzL_0, frzL_s, src_l, src_t, src_s, src_k, it_l, it_t, it_s, it_k, len_l, len_t, len_s, len_c, int_i, int_b, find_s, tru_b, isi_int, isi_intb, isi_str, absD, min2D, max2D, minI, maxI, toTupD, callO_eq, finO_some, fin2_ret, fin2_nxt, take_nil, take_tmp, take_slot, takeS_some, map_some', okO_nil, okO_none, okO_some, back_nil, back_none, back_some, backS_some, mkSeq_eq, mkS_some, tmps_0, tmps_s, env0, zip2D, wipe_0, wipe_s, ap_callB, callOB_eq, finB_some, finB2_ret, finB2_nxt, vals_0, vals_s, valS_some, scal_int, scal_bl, scal_str, scal_non, ap_selO, ap_aApp, callW_eq, finW_some, finX_eq, ap_callWR, ap_makeWR, makeW_eq, finM_some, finMX_eq, fin3_nxt, fin3_exc, fin2_exc, fin4_some, ap_methR, ap_ownR, ownS_ok, ownS2_some, strP_s, fldD_i, fldD_x, ap_sFld, insD_i, insC_i, isx_int, isx_intb, isx_str, isx_lst, isx_tup, isx_tupl, isx_lstt, ap_sAsgT, bU_t, bU_l, bTs_0, bTs_s, rz0_ap, rz1_ap, thn_exc, bind_exc, onR_exc, lp_exc, ordA, lp_nxt, lp_cnt, lp_brk, lp_ret, e2])]
    simp (config := { decide := false, maxSteps := 1000000 }) [tel_ret, goes_nxt, ap_nil, ap_brk, ap_retN, ap_bN, ap_bT2, ap_sSet, ap_sRet, ap_sExpr, ap_sIf, ap_sAug, ap_sSetL, ap_sSetD, ap_sAugL, ap_oR, ap_oN, ap_oF, ap_rN, ap_rC, ap_rF, ap_aN, ap_aC, ap_op1, ap_op2, ap_tO, ap_tV, ap_tNotD, ap_tAndD, ap_tOrD, ap_rAndV, ap_rOrV, ap_rNotV, ap_rIfE, ap_lstR, ap_tupR, ap_mApp, ap_mExt, ap_mPop, ap_callR, ap_enumI, ap_zipI2, ap_zipI3, ap_m1S, ap_iO, ap_sliceR, ap_pN, ap_pS, ap_stepR, ap_tYesD, ap_mPopAt, ap_mRev, ap_mClr, onR_ok, onR_bad, bind_bad, thn_nxt, thn_ret, thn_brk, thn_cnt, thn_bad, bind_ok', DW.R.map, gt, val_tmp, val_slot, addD_i, addD_s, addD_l, augD_i, augD_s, subD_i, negD_i, modD_i, fdivD_i, mulD_a, mulD_b, eqD_i, eqD_s, neD_i, neD_s, ltD_i, leD_i, gtD_i, geD_i, idxD_l, idxD_t, idxD_c, own_some, atI_0, atI_1, atI_2, no_int, no_str, no_bl, no_non, no_tup, no_lst, no_scr, no_ktp, noL_0, noL_s, frz_int, frz_str, frz_bl, frz_non, frz_tup, frz_lst, frz_scr, frz_ktp, frzL_0, frzL_s, src_l, src_t, src_s, src_k, it_l, it_t, it_s, it_k, len_l, len_t, len_s, len_c, int_i, int_b, find_s, tru_b, isi_int, isi_intb, isi_str, absD, min2D, max2D, minI, maxI, toTupD, callO_eq, finO_some, fin2_ret, fin2_nxt, take_nil, take_tmp, take_slot, takeS_some, map_some', okO_nil, okO_none, okO_some, back_nil, back_none, back_some, backS_some, mkSeq_eq, mkS_some, tmps_0, tmps_s, env0, zip2D, wipe_0, wipe_s, ap_callB, callOB_eq, finB_some, finB2_ret, finB2_nxt, vals_0, vals_s, valS_some, scal_int, scal_bl, scal_str, scal_non, ap_selO, ap_aApp, callW_eq, finW_some, finX_eq, ap_callWR, ap_makeWR, makeW_eq, finM_some, finMX_eq, fin3_nxt, fin3_exc, fin2_exc, fin4_some, ap_methR, ap_ownR, ownS_ok, ownS2_some, strP_s, fldD_i, fldD_x, ap_sFld, insD_i, insC_i, isx_int, isx_intb, isx_str, isx_lst, isx_tup, isx_tupl, isx_lstt, ap_sAsgT, bU_t, bU_l, bTs_0, bTs_s, rz0_ap, rz1_ap, thn_exc, bind_exc, onR_exc, lp_exc, ordA, lp_nxt, lp_cnt, lp_brk, lp_ret]
  · rw [tryS_nxt (E1 := [some (.int 3), some (.int n), some (.int (C 3)), none]) (by simp (config := { decide := false, maxSteps := 1000000 }) [tel_ret, goes_nxt, ap_nil, ap_brk, ap_retN, ap_bN, ap_bT2, ap_sSet, ap_sRet, ap_sExpr, ap_sIf, ap_sAug, ap_sSetL, ap_sSetD, ap_sAugL, ap_oR, ap_oN, ap_oF, ap_rN, ap_rC, ap_rF, ap_aN, ap_aC, ap_op1, ap_op2, ap_tO, ap_tV, ap_tNotD, ap_tAndD, ap_tOrD, ap_rAndV, ap_rOrV, ap_rNotV, ap_rIfE, ap_lstR, ap_tupR, ap_mApp, ap_mExt, ap_mPop, ap_callR, ap_enumI, ap_zipI2, ap_zipI3, ap_m1S, ap_iO, ap_sliceR, ap_pN, ap_pS, ap_stepR, ap_tYesD, ap_mPopAt, ap_mRev, ap_mClr, onR_ok, onR_bad, bind_bad, thn_nxt, thn_ret, thn_brk, thn_cnt, thn_bad, bind_ok', DW.R.map, gt, val_tmp, val_slot, addD_i, addD_s, addD_l, augD_i, augD_s, subD_i, negD_i, modD_i, fdivD_i, mulD_a, mulD_b, eqD_i, eqD_s, neD_i, neD_s, ltD_i, leD_i, gtD_i, geD_i, idxD_l, idxD_t, idxD_c, own_some, atI_0, atI_1, atI_2, no_int, no_str, no_bl, no_non, no_tup, no_lst, no_scr, no_ktp, noL_0, noL_s, frz_int, frz_str, frz_bl, frz_non, frz_tup, frz_lst, frz_scr, frz_ktp, frzL_0, frzL_s, src_l, src_t, src_s, src_k, it_l, it_t, it_s, it_k, len_l, len_t, len_s, len_c, int_i, int_b, find_s, tru_b, isi_int, isi_intb, isi_str, absD, min2D, max2D, minI, maxI, toTupD, callO_eq, finO_some, fin2_ret, fin2_nxt, take_nil, take_tmp, take_slot, takeS_some, map_some', okO_nil, okO_none, okO_some, back_nil, back_none, back_some, backS_some, mkSeq_eq, mkS_some, tmps_0, tmps_s, env0, zip2D, wipe_0, wipe_s, ap_callB, callOB_eq, finB_some, finB2_ret, finB2_nxt, vals_0, vals_s, valS_some, scal_int, scal_bl, scal_str, scal_non, ap_selO, ap_aApp, callW_eq, finW_some, finX_eq, ap_callWR, ap_makeWR, makeW_eq, finM_some, finMX_eq, fin3_nxt, fin3_exc, fin2_exc, fin4_some, ap_methR, ap_ownR, ownS_ok, ownS2_some, strP_s, fldD_i, fldD_x, ap_sFld, insD_i, insC_i, isx_int, isx_intb, isx_str, isx_lst, isx_tup, isx_tupl, isx_lstt, ap_sAsgT, bU_t, bU_l, bTs_0, bTs_s, rz0_ap, rz1_ap, thn_exc, bind_exc, onR_exc, lp_exc, ordA, lp_nxt, lp_cnt, lp_brk, lp_ret, e3])]
    simp (config := { decide := false, maxSteps := 1000000 }) [tel_ret, goes_nxt, ap_nil, ap_brk, ap_retN, ap_bN, ap_bT2, ap_sSet, ap_sRet, ap_sExpr, ap_sIf, ap_sAug, ap_sSetL, ap_sSetD, ap_sAugL, ap_oR, ap_oN, ap_oF, ap_rN, ap_rC, ap_rF, ap_aN, ap_aC, ap_op1, ap_op2, ap_tO, ap_tV, ap_tNotD, ap_tAndD, ap_tOrD, ap_rAndV, ap_rOrV, ap_rNotV, ap_rIfE, ap_lstR, ap_tupR, ap_mApp, ap_mExt, ap_mPop, ap_callR, ap_enumI, ap_zipI2, ap_zipI3, ap_m1S, ap_iO, ap_sliceR, ap_pN, ap_pS, ap_stepR, ap_tYesD, ap_mPopAt, ap_mRev, ap_mClr, onR_ok, onR_bad, bind_bad, thn_nxt, thn_ret, thn_brk, thn_cnt, thn_bad, bind_ok', DW.R.map, gt, val_tmp, val_slot, addD_i, addD_s, addD_l, augD_i, augD_s, subD_i, negD_i, modD_i, fdivD_i, mulD_a, mulD_b, eqD_i, eqD_s, neD_i, neD_s, ltD_i, leD_i, gtD_i, geD_i, idxD_l, idxD_t, idxD_c, own_some, atI_0, atI_1, atI_2, no_int, no_str, no_bl, no_non, no_tup, no_lst, no_scr, no_ktp, noL_0, noL_s, frz_int, frz_str, frz_bl, frz_non, frz_tup, frz_lst, frz_scr, frz_ktp, frzL_0, frzL_s, src_l, src_t, src_s, src_k, it_l, it_t, it_s, it_k, len_l, len_t, len_s, len_c, int_i, int_b, find_s, tru_b, isi_int, isi_intb, isi_str, absD, min2D, max2D, minI, maxI, toTupD, callO_eq, finO_some, fin2_ret, fin2_nxt, take_nil, take_tmp, take_slot, takeS_some, map_some', okO_nil, okO_none, okO_some, back_nil, back_none, back_some, backS_some, mkSeq_eq, mkS_some, tmps_0, tmps_s, env0, zip2D, wipe_0, wipe_s, ap_callB, callOB_eq, finB_some, finB2_ret, finB2_nxt, vals_0, vals_s, valS_some, scal_int, scal_bl, scal_str, scal_non, ap_selO, ap_aApp, callW_eq, finW_some, finX_eq, ap_callWR, ap_makeWR, makeW_eq, finM_some, finMX_eq, fin3_nxt, fin3_exc, fin2_exc, fin4_some, ap_methR, ap_ownR, ownS_ok, ownS2_some, strP_s, fldD_i, fldD_x, ap_sFld, insD_i, insC_i, isx_int, isx_intb, isx_str, isx_lst, isx_tup, isx_tupl, isx_lstt, ap_sAsgT, bU_t, bU_l, bTs_0, bTs_s, rz0_ap, rz1_ap, thn_exc, bind_exc, onR_exc, lp_exc, ordA, lp_nxt, lp_cnt, lp_brk, lp_ret]
end FN
/-! Y3: what is no count is refused (k40). -/
namespace FN
open PySem L2 Evl QW DW
def ncD : D := .exn "NoCount" [] []
theorem nc_Bare : isiO "Bare" ncD = some (.bl false) := congrArg (fun b => some (D.bl b)) (show subB "NoCount" "Bare" = false by decide +kernel)
theorem nc_Bridge : isiO "Bridge" ncD = some (.bl false) := congrArg (fun b => some (D.bl b)) (show subB "NoCount" "Bridge" = false by decide +kernel)
theorem nc_Loop : isiO "Loop" ncD = some (.bl false) := congrArg (fun b => some (D.bl b)) (show subB "NoCount" "Loop" = false by decide +kernel)
theorem nc_NoBall : isiO "NoBall" ncD = some (.bl false) := congrArg (fun b => some (D.bl b)) (show subB "NoCount" "NoBall" = false by decide +kernel)
theorem nc_NoCount : isiO "NoCount" ncD = some (.bl true) := congrArg (fun b => some (D.bl b)) (show subB "NoCount" "NoCount" = true by decide +kernel)
theorem nc_NoDeed : isiO "NoDeed" ncD = some (.bl false) := congrArg (fun b => some (D.bl b)) (show subB "NoCount" "NoDeed" = false by decide +kernel)
theorem nc_NoEnd : isiO "NoEnd" ncD = some (.bl false) := congrArg (fun b => some (D.bl b)) (show subB "NoCount" "NoEnd" = false by decide +kernel)
theorem nc_NoJumps : isiO "NoJumps" ncD = some (.bl false) := congrArg (fun b => some (D.bl b)) (show subB "NoCount" "NoJumps" = false by decide +kernel)
theorem nc_NoMark : isiO "NoMark" ncD = some (.bl false) := congrArg (fun b => some (D.bl b)) (show subB "NoCount" "NoMark" = false by decide +kernel)
theorem nc_NoName : isiO "NoName" ncD = some (.bl false) := congrArg (fun b => some (D.bl b)) (show subB "NoCount" "NoName" = false by decide +kernel)
theorem nc_NoNumber : isiO "NoNumber" ncD = some (.bl false) := congrArg (fun b => some (D.bl b)) (show subB "NoCount" "NoNumber" = false by decide +kernel)
theorem nc_NoText : isiO "NoText" ncD = some (.bl false) := congrArg (fun b => some (D.bl b)) (show subB "NoCount" "NoText" = false by decide +kernel)
theorem nc_NoTie : isiO "NoTie" ncD = some (.bl false) := congrArg (fun b => some (D.bl b)) (show subB "NoCount" "NoTie" = false by decide +kernel)
theorem nc_NoTurns : isiO "NoTurns" ncD = some (.bl false) := congrArg (fun b => some (D.bl b)) (show subB "NoCount" "NoTurns" = false by decide +kernel)
theorem nc_NoWay : isiO "NoWay" ncD = some (.bl false) := congrArg (fun b => some (D.bl b)) (show subB "NoCount" "NoWay" = false by decide +kernel)
theorem nc_NoWhole : isiO "NoWhole" ncD = some (.bl false) := congrArg (fun b => some (D.bl b)) (show subB "NoCount" "NoWhole" = false by decide +kernel)
theorem nc_NoWord : isiO "NoWord" ncD = some (.bl false) := congrArg (fun b => some (D.bl b)) (show subB "NoCount" "NoWord" = false by decide +kernel)
theorem nc_NotFour : isiO "NotFour" ncD = some (.bl false) := congrArg (fun b => some (D.bl b)) (show subB "NoCount" "NotFour" = false by decide +kernel)
theorem nc_NotTree : isiO "NotTree" ncD = some (.bl false) := congrArg (fun b => some (D.bl b)) (show subB "NoCount" "NotTree" = false by decide +kernel)
theorem nc_QuadError : isiO "QuadError" ncD = some (.bl true) := congrArg (fun b => some (D.bl b)) (show subB "NoCount" "QuadError" = true by decide +kernel)
theorem nc_Val : isiX "ValueError" ncD = some (.bl true) := congrArg (fun b => some (D.bl b)) (show subB "NoCount" (Str.ofString "ValueError") = true by decide +kernel)
theorem nc_ct : lcountD (.lst true [.bl false, .bl false, .bl false, .bl false, .bl true, .bl false, .bl false, .bl false, .bl false, .bl false, .bl false, .bl false, .bl false, .bl false, .bl false, .bl false, .bl false, .bl false, .bl false]) (.bl true) = some (.int 1) := rfl
theorem nc_ix : lindexD (.lst true [.bl false, .bl false, .bl false, .bl false, .bl true, .bl false, .bl false, .bl false, .bl false, .bl false, .bl false, .bl false, .bl false, .bl false, .bl false, .bl false, .bl false, .bl false, .bl false]) (.bl true) = some (.int 4) := rfl
theorem nc_at : atI ([.str "Bare", .str "Bridge", .str "Loop", .str "NoBall", .str "NoCount", .str "NoDeed", .str "NoEnd", .str "NoJumps", .str "NoMark", .str "NoName", .str "NoNumber", .str "NoText", .str "NoTie", .str "NoTurns", .str "NoWay", .str "NoWhole", .str "NoWord", .str "NotFour", .str "NotTree"] : List D) 4 = some (.str "NoCount") := rfl
theorem nc_no : noOwn ncD = true := rfl
theorem m1L_ap {F : D → D → Option D} {g1 g2 : DW.Env → R Opd} {E : DW.Env} : m1L F g1 g2 E = (g1 E).bind fun o1 E1 => match o1.val E1 with
  | some (.lst _ _) => (g2 E1).bind fun o2 E2 => match o1.val E2, o2.val E2 with
    | some d1, some d2 => match F d1 d2 with
      | some r => .ok r E2
      | none => .bad
    | _, _ => .bad
  | _ => .bad := Eq.trans rfl rfl
theorem y_class : Tells fn_l_class [ncD] (.str "NoCount") := by
  unfold Tells Fn.call fn_l_class F_l_class
  simp (config := { decide := false, maxSteps := 1000000 }) [tel_ret, goes_nxt, ap_nil, ap_brk, ap_retN, ap_bN, ap_bT2, ap_sSet, ap_sRet, ap_sExpr, ap_sIf, ap_sAug, ap_sSetL, ap_sSetD, ap_sAugL, ap_oR, ap_oN, ap_oF, ap_rN, ap_rC, ap_rF, ap_aN, ap_aC, ap_op1, ap_op2, ap_tO, ap_tV, ap_tNotD, ap_tAndD, ap_tOrD, ap_rAndV, ap_rOrV, ap_rNotV, ap_rIfE, ap_lstR, ap_tupR, ap_mApp, ap_mExt, ap_mPop, ap_callR, ap_enumI, ap_zipI2, ap_zipI3, ap_m1S, ap_iO, ap_sliceR, ap_pN, ap_pS, ap_stepR, ap_tYesD, ap_mPopAt, ap_mRev, ap_mClr, onR_ok, onR_bad, bind_bad, thn_nxt, thn_ret, thn_brk, thn_cnt, thn_bad, bind_ok', DW.R.map, gt, val_tmp, val_slot, addD_i, addD_s, addD_l, augD_i, augD_s, subD_i, negD_i, modD_i, fdivD_i, mulD_a, mulD_b, eqD_i, eqD_s, neD_i, neD_s, ltD_i, leD_i, gtD_i, geD_i, idxD_l, idxD_t, idxD_c, own_some, atI_0, atI_1, atI_2, no_int, no_str, no_bl, no_non, no_tup, no_lst, no_scr, no_ktp, noL_0, noL_s, frz_int, frz_str, frz_bl, frz_non, frz_tup, frz_lst, frz_scr, frz_ktp, frzL_0, frzL_s, src_l, src_t, src_s, src_k, it_l, it_t, it_s, it_k, len_l, len_t, len_s, len_c, int_i, int_b, find_s, tru_b, isi_int, isi_intb, isi_str, absD, min2D, max2D, minI, maxI, toTupD, callO_eq, finO_some, fin2_ret, fin2_nxt, take_nil, take_tmp, take_slot, takeS_some, map_some', okO_nil, okO_none, okO_some, back_nil, back_none, back_some, backS_some, mkSeq_eq, mkS_some, tmps_0, tmps_s, env0, zip2D, wipe_0, wipe_s, ap_callB, callOB_eq, finB_some, finB2_ret, finB2_nxt, vals_0, vals_s, valS_some, scal_int, scal_bl, scal_str, scal_non, ap_selO, ap_aApp, callW_eq, finW_some, finX_eq, ap_callWR, ap_makeWR, makeW_eq, finM_some, finMX_eq, fin3_nxt, fin3_exc, fin2_exc, fin4_some, ap_methR, ap_ownR, ownS_ok, ownS2_some, strP_s, fldD_i, fldD_x, ap_sFld, insD_i, insC_i, isx_int, isx_intb, isx_str, isx_lst, isx_tup, isx_tupl, isx_lstt, ap_sAsgT, bU_t, bU_l, bTs_0, bTs_s, rz0_ap, rz1_ap, thn_exc, bind_exc, onR_exc, lp_exc, ordA, lp_nxt, lp_cnt, lp_brk, lp_ret, nc_no, nc_Bare, nc_Bridge, nc_Loop, nc_NoBall, nc_NoCount, nc_NoDeed, nc_NoEnd, nc_NoJumps, nc_NoMark, nc_NoName, nc_NoNumber, nc_NoText, nc_NoTie, nc_NoTurns, nc_NoWay, nc_NoWhole, nc_NoWord, nc_NotFour, nc_NotTree, nc_QuadError, nc_Val, m1L_ap, nc_ct, nc_ix, nc_at]
/-- what is no count -/
def OddC (d : D) : Prop := noOwn d = true ∧ ∃ E, fn_look_count.call [d, .int 0, .int 60] = .exc "NoCount" [] [] E
theorem odd_i {k : Int} (h : k < 0 ∨ 60 < k) : OddC (.int k) := by
  refine ⟨rfl, [some (.int k), some (.int 0), some (.int 60)], ?_⟩
  unfold Fn.call fn_look_count F_look_count
  have e := (y_whole k).eq
  by_cases a : k < 0
  · simp (config := { decide := false, maxSteps := 1000000 }) [tel_ret, goes_nxt, ap_nil, ap_brk, ap_retN, ap_bN, ap_bT2, ap_sSet, ap_sRet, ap_sExpr, ap_sIf, ap_sAug, ap_sSetL, ap_sSetD, ap_sAugL, ap_oR, ap_oN, ap_oF, ap_rN, ap_rC, ap_rF, ap_aN, ap_aC, ap_op1, ap_op2, ap_tO, ap_tV, ap_tNotD, ap_tAndD, ap_tOrD, ap_rAndV, ap_rOrV, ap_rNotV, ap_rIfE, ap_lstR, ap_tupR, ap_mApp, ap_mExt, ap_mPop, ap_callR, ap_enumI, ap_zipI2, ap_zipI3, ap_m1S, ap_iO, ap_sliceR, ap_pN, ap_pS, ap_stepR, ap_tYesD, ap_mPopAt, ap_mRev, ap_mClr, onR_ok, onR_bad, bind_bad, thn_nxt, thn_ret, thn_brk, thn_cnt, thn_bad, bind_ok', DW.R.map, gt, val_tmp, val_slot, addD_i, addD_s, addD_l, augD_i, augD_s, subD_i, negD_i, modD_i, fdivD_i, mulD_a, mulD_b, eqD_i, eqD_s, neD_i, neD_s, ltD_i, leD_i, gtD_i, geD_i, idxD_l, idxD_t, idxD_c, own_some, atI_0, atI_1, atI_2, no_int, no_str, no_bl, no_non, no_tup, no_lst, no_scr, no_ktp, noL_0, noL_s, frz_int, frz_str, frz_bl, frz_non, frz_tup, frz_lst, frz_scr, frz_ktp, frzL_0, frzL_s, src_l, src_t, src_s, src_k, it_l, it_t, it_s, it_k, len_l, len_t, len_s, len_c, int_i, int_b, find_s, tru_b, isi_int, isi_intb, isi_str, absD, min2D, max2D, minI, maxI, toTupD, callO_eq, finO_some, fin2_ret, fin2_nxt, take_nil, take_tmp, take_slot, takeS_some, map_some', okO_nil, okO_none, okO_some, back_nil, back_none, back_some, backS_some, mkSeq_eq, mkS_some, tmps_0, tmps_s, env0, zip2D, wipe_0, wipe_s, ap_callB, callOB_eq, finB_some, finB2_ret, finB2_nxt, vals_0, vals_s, valS_some, scal_int, scal_bl, scal_str, scal_non, ap_selO, ap_aApp, callW_eq, finW_some, finX_eq, ap_callWR, ap_makeWR, makeW_eq, finM_some, finMX_eq, fin3_nxt, fin3_exc, fin2_exc, fin4_some, ap_methR, ap_ownR, ownS_ok, ownS2_some, strP_s, fldD_i, fldD_x, ap_sFld, insD_i, insC_i, isx_int, isx_intb, isx_str, isx_lst, isx_tup, isx_tupl, isx_lstt, ap_sAsgT, bU_t, bU_l, bTs_0, bTs_s, rz0_ap, rz1_ap, thn_exc, bind_exc, onR_exc, lp_exc, ordA, lp_nxt, lp_cnt, lp_brk, lp_ret, e, a]
  · have b : 60 < k := by omega
    simp (config := { decide := false, maxSteps := 1000000 }) [tel_ret, goes_nxt, ap_nil, ap_brk, ap_retN, ap_bN, ap_bT2, ap_sSet, ap_sRet, ap_sExpr, ap_sIf, ap_sAug, ap_sSetL, ap_sSetD, ap_sAugL, ap_oR, ap_oN, ap_oF, ap_rN, ap_rC, ap_rF, ap_aN, ap_aC, ap_op1, ap_op2, ap_tO, ap_tV, ap_tNotD, ap_tAndD, ap_tOrD, ap_rAndV, ap_rOrV, ap_rNotV, ap_rIfE, ap_lstR, ap_tupR, ap_mApp, ap_mExt, ap_mPop, ap_callR, ap_enumI, ap_zipI2, ap_zipI3, ap_m1S, ap_iO, ap_sliceR, ap_pN, ap_pS, ap_stepR, ap_tYesD, ap_mPopAt, ap_mRev, ap_mClr, onR_ok, onR_bad, bind_bad, thn_nxt, thn_ret, thn_brk, thn_cnt, thn_bad, bind_ok', DW.R.map, gt, val_tmp, val_slot, addD_i, addD_s, addD_l, augD_i, augD_s, subD_i, negD_i, modD_i, fdivD_i, mulD_a, mulD_b, eqD_i, eqD_s, neD_i, neD_s, ltD_i, leD_i, gtD_i, geD_i, idxD_l, idxD_t, idxD_c, own_some, atI_0, atI_1, atI_2, no_int, no_str, no_bl, no_non, no_tup, no_lst, no_scr, no_ktp, noL_0, noL_s, frz_int, frz_str, frz_bl, frz_non, frz_tup, frz_lst, frz_scr, frz_ktp, frzL_0, frzL_s, src_l, src_t, src_s, src_k, it_l, it_t, it_s, it_k, len_l, len_t, len_s, len_c, int_i, int_b, find_s, tru_b, isi_int, isi_intb, isi_str, absD, min2D, max2D, minI, maxI, toTupD, callO_eq, finO_some, fin2_ret, fin2_nxt, take_nil, take_tmp, take_slot, takeS_some, map_some', okO_nil, okO_none, okO_some, back_nil, back_none, back_some, backS_some, mkSeq_eq, mkS_some, tmps_0, tmps_s, env0, zip2D, wipe_0, wipe_s, ap_callB, callOB_eq, finB_some, finB2_ret, finB2_nxt, vals_0, vals_s, valS_some, scal_int, scal_bl, scal_str, scal_non, ap_selO, ap_aApp, callW_eq, finW_some, finX_eq, ap_callWR, ap_makeWR, makeW_eq, finM_some, finMX_eq, fin3_nxt, fin3_exc, fin2_exc, fin4_some, ap_methR, ap_ownR, ownS_ok, ownS2_some, strP_s, fldD_i, fldD_x, ap_sFld, insD_i, insC_i, isx_int, isx_intb, isx_str, isx_lst, isx_tup, isx_tupl, isx_lstt, ap_sAsgT, bU_t, bU_l, bTs_0, bTs_s, rz0_ap, rz1_ap, thn_exc, bind_exc, onR_exc, lp_exc, ordA, lp_nxt, lp_cnt, lp_brk, lp_ret, e, a, b]
theorem odd_of {d : D} (h : noOwn d = true) (hi : isiX "int" d = some (.bl false)) (hf : frz d = d) : OddC d := by
  refine ⟨h, [some d, some (.int 0), some (.int 60)], ?_⟩
  have e : Tells fn_is_whole [d] (.bl false) := by
    unfold Tells Fn.call fn_is_whole F_is_whole
    simp (config := { decide := false, maxSteps := 1000000 }) [tel_ret, goes_nxt, ap_nil, ap_brk, ap_retN, ap_bN, ap_bT2, ap_sSet, ap_sRet, ap_sExpr, ap_sIf, ap_sAug, ap_sSetL, ap_sSetD, ap_sAugL, ap_oR, ap_oN, ap_oF, ap_rN, ap_rC, ap_rF, ap_aN, ap_aC, ap_op1, ap_op2, ap_tO, ap_tV, ap_tNotD, ap_tAndD, ap_tOrD, ap_rAndV, ap_rOrV, ap_rNotV, ap_rIfE, ap_lstR, ap_tupR, ap_mApp, ap_mExt, ap_mPop, ap_callR, ap_enumI, ap_zipI2, ap_zipI3, ap_m1S, ap_iO, ap_sliceR, ap_pN, ap_pS, ap_stepR, ap_tYesD, ap_mPopAt, ap_mRev, ap_mClr, onR_ok, onR_bad, bind_bad, thn_nxt, thn_ret, thn_brk, thn_cnt, thn_bad, bind_ok', DW.R.map, gt, val_tmp, val_slot, addD_i, addD_s, addD_l, augD_i, augD_s, subD_i, negD_i, modD_i, fdivD_i, mulD_a, mulD_b, eqD_i, eqD_s, neD_i, neD_s, ltD_i, leD_i, gtD_i, geD_i, idxD_l, idxD_t, idxD_c, own_some, atI_0, atI_1, atI_2, no_int, no_str, no_bl, no_non, no_tup, no_lst, no_scr, no_ktp, noL_0, noL_s, frz_int, frz_str, frz_bl, frz_non, frz_tup, frz_lst, frz_scr, frz_ktp, frzL_0, frzL_s, src_l, src_t, src_s, src_k, it_l, it_t, it_s, it_k, len_l, len_t, len_s, len_c, int_i, int_b, find_s, tru_b, isi_int, isi_intb, isi_str, absD, min2D, max2D, minI, maxI, toTupD, callO_eq, finO_some, fin2_ret, fin2_nxt, take_nil, take_tmp, take_slot, takeS_some, map_some', okO_nil, okO_none, okO_some, back_nil, back_none, back_some, backS_some, mkSeq_eq, mkS_some, tmps_0, tmps_s, env0, zip2D, wipe_0, wipe_s, ap_callB, callOB_eq, finB_some, finB2_ret, finB2_nxt, vals_0, vals_s, valS_some, scal_int, scal_bl, scal_str, scal_non, ap_selO, ap_aApp, callW_eq, finW_some, finX_eq, ap_callWR, ap_makeWR, makeW_eq, finM_some, finMX_eq, fin3_nxt, fin3_exc, fin2_exc, fin4_some, ap_methR, ap_ownR, ownS_ok, ownS2_some, strP_s, fldD_i, fldD_x, ap_sFld, insD_i, insC_i, isx_int, isx_intb, isx_str, isx_lst, isx_tup, isx_tupl, isx_lstt, ap_sAsgT, bU_t, bU_l, bTs_0, bTs_s, rz0_ap, rz1_ap, thn_exc, bind_exc, onR_exc, lp_exc, ordA, lp_nxt, lp_cnt, lp_brk, lp_ret, hi]
  unfold Fn.call fn_look_count F_look_count
  have e := e.eq
  simp (config := { decide := false, maxSteps := 1000000 }) [tel_ret, goes_nxt, ap_nil, ap_brk, ap_retN, ap_bN, ap_bT2, ap_sSet, ap_sRet, ap_sExpr, ap_sIf, ap_sAug, ap_sSetL, ap_sSetD, ap_sAugL, ap_oR, ap_oN, ap_oF, ap_rN, ap_rC, ap_rF, ap_aN, ap_aC, ap_op1, ap_op2, ap_tO, ap_tV, ap_tNotD, ap_tAndD, ap_tOrD, ap_rAndV, ap_rOrV, ap_rNotV, ap_rIfE, ap_lstR, ap_tupR, ap_mApp, ap_mExt, ap_mPop, ap_callR, ap_enumI, ap_zipI2, ap_zipI3, ap_m1S, ap_iO, ap_sliceR, ap_pN, ap_pS, ap_stepR, ap_tYesD, ap_mPopAt, ap_mRev, ap_mClr, onR_ok, onR_bad, bind_bad, thn_nxt, thn_ret, thn_brk, thn_cnt, thn_bad, bind_ok', DW.R.map, gt, val_tmp, val_slot, addD_i, addD_s, addD_l, augD_i, augD_s, subD_i, negD_i, modD_i, fdivD_i, mulD_a, mulD_b, eqD_i, eqD_s, neD_i, neD_s, ltD_i, leD_i, gtD_i, geD_i, idxD_l, idxD_t, idxD_c, own_some, atI_0, atI_1, atI_2, no_int, no_str, no_bl, no_non, no_tup, no_lst, no_scr, no_ktp, noL_0, noL_s, frz_int, frz_str, frz_bl, frz_non, frz_tup, frz_lst, frz_scr, frz_ktp, frzL_0, frzL_s, src_l, src_t, src_s, src_k, it_l, it_t, it_s, it_k, len_l, len_t, len_s, len_c, int_i, int_b, find_s, tru_b, isi_int, isi_intb, isi_str, absD, min2D, max2D, minI, maxI, toTupD, callO_eq, finO_some, fin2_ret, fin2_nxt, take_nil, take_tmp, take_slot, takeS_some, map_some', okO_nil, okO_none, okO_some, back_nil, back_none, back_some, backS_some, mkSeq_eq, mkS_some, tmps_0, tmps_s, env0, zip2D, wipe_0, wipe_s, ap_callB, callOB_eq, finB_some, finB2_ret, finB2_nxt, vals_0, vals_s, valS_some, scal_int, scal_bl, scal_str, scal_non, ap_selO, ap_aApp, callW_eq, finW_some, finX_eq, ap_callWR, ap_makeWR, makeW_eq, finM_some, finMX_eq, fin3_nxt, fin3_exc, fin2_exc, fin4_some, ap_methR, ap_ownR, ownS_ok, ownS2_some, strP_s, fldD_i, fldD_x, ap_sFld, insD_i, insC_i, isx_int, isx_intb, isx_str, isx_lst, isx_tup, isx_tupl, isx_lstt, ap_sAsgT, bU_t, bU_l, bTs_0, bTs_s, rz0_ap, rz1_ap, thn_exc, bind_exc, onR_exc, lp_exc, ordA, lp_nxt, lp_cnt, lp_brk, lp_ret, e, h]
theorem odd_b (b : Bool) : OddC (.bl b) := by
  refine ⟨rfl, [some (.bl b), some (.int 0), some (.int 60)], ?_⟩
  have h1 : isiX "int" (.bl b) = some (.bl true) := rfl
  have h2 : isiX "bool" (.bl b) = some (.bl true) := rfl
  have e : Tells fn_is_whole [.bl b] (.bl false) := by
    unfold Tells Fn.call fn_is_whole F_is_whole
    simp (config := { decide := false, maxSteps := 1000000 }) [tel_ret, goes_nxt, ap_nil, ap_brk, ap_retN, ap_bN, ap_bT2, ap_sSet, ap_sRet, ap_sExpr, ap_sIf, ap_sAug, ap_sSetL, ap_sSetD, ap_sAugL, ap_oR, ap_oN, ap_oF, ap_rN, ap_rC, ap_rF, ap_aN, ap_aC, ap_op1, ap_op2, ap_tO, ap_tV, ap_tNotD, ap_tAndD, ap_tOrD, ap_rAndV, ap_rOrV, ap_rNotV, ap_rIfE, ap_lstR, ap_tupR, ap_mApp, ap_mExt, ap_mPop, ap_callR, ap_enumI, ap_zipI2, ap_zipI3, ap_m1S, ap_iO, ap_sliceR, ap_pN, ap_pS, ap_stepR, ap_tYesD, ap_mPopAt, ap_mRev, ap_mClr, onR_ok, onR_bad, bind_bad, thn_nxt, thn_ret, thn_brk, thn_cnt, thn_bad, bind_ok', DW.R.map, gt, val_tmp, val_slot, addD_i, addD_s, addD_l, augD_i, augD_s, subD_i, negD_i, modD_i, fdivD_i, mulD_a, mulD_b, eqD_i, eqD_s, neD_i, neD_s, ltD_i, leD_i, gtD_i, geD_i, idxD_l, idxD_t, idxD_c, own_some, atI_0, atI_1, atI_2, no_int, no_str, no_bl, no_non, no_tup, no_lst, no_scr, no_ktp, noL_0, noL_s, frz_int, frz_str, frz_bl, frz_non, frz_tup, frz_lst, frz_scr, frz_ktp, frzL_0, frzL_s, src_l, src_t, src_s, src_k, it_l, it_t, it_s, it_k, len_l, len_t, len_s, len_c, int_i, int_b, find_s, tru_b, isi_int, isi_intb, isi_str, absD, min2D, max2D, minI, maxI, toTupD, callO_eq, finO_some, fin2_ret, fin2_nxt, take_nil, take_tmp, take_slot, takeS_some, map_some', okO_nil, okO_none, okO_some, back_nil, back_none, back_some, backS_some, mkSeq_eq, mkS_some, tmps_0, tmps_s, env0, zip2D, wipe_0, wipe_s, ap_callB, callOB_eq, finB_some, finB2_ret, finB2_nxt, vals_0, vals_s, valS_some, scal_int, scal_bl, scal_str, scal_non, ap_selO, ap_aApp, callW_eq, finW_some, finX_eq, ap_callWR, ap_makeWR, makeW_eq, finM_some, finMX_eq, fin3_nxt, fin3_exc, fin2_exc, fin4_some, ap_methR, ap_ownR, ownS_ok, ownS2_some, strP_s, fldD_i, fldD_x, ap_sFld, insD_i, insC_i, isx_int, isx_intb, isx_str, isx_lst, isx_tup, isx_tupl, isx_lstt, ap_sAsgT, bU_t, bU_l, bTs_0, bTs_s, rz0_ap, rz1_ap, thn_exc, bind_exc, onR_exc, lp_exc, ordA, lp_nxt, lp_cnt, lp_brk, lp_ret, h1, h2]
  unfold Fn.call fn_look_count F_look_count
  have e := e.eq
  simp (config := { decide := false, maxSteps := 1000000 }) [tel_ret, goes_nxt, ap_nil, ap_brk, ap_retN, ap_bN, ap_bT2, ap_sSet, ap_sRet, ap_sExpr, ap_sIf, ap_sAug, ap_sSetL, ap_sSetD, ap_sAugL, ap_oR, ap_oN, ap_oF, ap_rN, ap_rC, ap_rF, ap_aN, ap_aC, ap_op1, ap_op2, ap_tO, ap_tV, ap_tNotD, ap_tAndD, ap_tOrD, ap_rAndV, ap_rOrV, ap_rNotV, ap_rIfE, ap_lstR, ap_tupR, ap_mApp, ap_mExt, ap_mPop, ap_callR, ap_enumI, ap_zipI2, ap_zipI3, ap_m1S, ap_iO, ap_sliceR, ap_pN, ap_pS, ap_stepR, ap_tYesD, ap_mPopAt, ap_mRev, ap_mClr, onR_ok, onR_bad, bind_bad, thn_nxt, thn_ret, thn_brk, thn_cnt, thn_bad, bind_ok', DW.R.map, gt, val_tmp, val_slot, addD_i, addD_s, addD_l, augD_i, augD_s, subD_i, negD_i, modD_i, fdivD_i, mulD_a, mulD_b, eqD_i, eqD_s, neD_i, neD_s, ltD_i, leD_i, gtD_i, geD_i, idxD_l, idxD_t, idxD_c, own_some, atI_0, atI_1, atI_2, no_int, no_str, no_bl, no_non, no_tup, no_lst, no_scr, no_ktp, noL_0, noL_s, frz_int, frz_str, frz_bl, frz_non, frz_tup, frz_lst, frz_scr, frz_ktp, frzL_0, frzL_s, src_l, src_t, src_s, src_k, it_l, it_t, it_s, it_k, len_l, len_t, len_s, len_c, int_i, int_b, find_s, tru_b, isi_int, isi_intb, isi_str, absD, min2D, max2D, minI, maxI, toTupD, callO_eq, finO_some, fin2_ret, fin2_nxt, take_nil, take_tmp, take_slot, takeS_some, map_some', okO_nil, okO_none, okO_some, back_nil, back_none, back_some, backS_some, mkSeq_eq, mkS_some, tmps_0, tmps_s, env0, zip2D, wipe_0, wipe_s, ap_callB, callOB_eq, finB_some, finB2_ret, finB2_nxt, vals_0, vals_s, valS_some, scal_int, scal_bl, scal_str, scal_non, ap_selO, ap_aApp, callW_eq, finW_some, finX_eq, ap_callWR, ap_makeWR, makeW_eq, finM_some, finMX_eq, fin3_nxt, fin3_exc, fin2_exc, fin4_some, ap_methR, ap_ownR, ownS_ok, ownS2_some, strP_s, fldD_i, fldD_x, ap_sFld, insD_i, insC_i, isx_int, isx_intb, isx_str, isx_lst, isx_tup, isx_tupl, isx_lstt, ap_sAsgT, bU_t, bU_l, bTs_0, bTs_s, rz0_ap, rz1_ap, thn_exc, bind_exc, onR_exc, lp_exc, ordA, lp_nxt, lp_cnt, lp_brk, lp_ret, e]
theorem odd_ask {d : D} {w : Nat} (h : OddC d) (hw : w < 4) : Tells fn_l_asked_2 [.int w, d] (.str "NoCount") := by
  obtain ⟨no, E, e⟩ := h
  have e0 : fn_count_words.call [d] = .exc "NoCount" [] [] [some d] := by
    unfold Fn.call fn_count_words F_count_words
    simp (config := { decide := false, maxSteps := 1000000 }) [tel_ret, goes_nxt, ap_nil, ap_brk, ap_retN, ap_bN, ap_bT2, ap_sSet, ap_sRet, ap_sExpr, ap_sIf, ap_sAug, ap_sSetL, ap_sSetD, ap_sAugL, ap_oR, ap_oN, ap_oF, ap_rN, ap_rC, ap_rF, ap_aN, ap_aC, ap_op1, ap_op2, ap_tO, ap_tV, ap_tNotD, ap_tAndD, ap_tOrD, ap_rAndV, ap_rOrV, ap_rNotV, ap_rIfE, ap_lstR, ap_tupR, ap_mApp, ap_mExt, ap_mPop, ap_callR, ap_enumI, ap_zipI2, ap_zipI3, ap_m1S, ap_iO, ap_sliceR, ap_pN, ap_pS, ap_stepR, ap_tYesD, ap_mPopAt, ap_mRev, ap_mClr, onR_ok, onR_bad, bind_bad, thn_nxt, thn_ret, thn_brk, thn_cnt, thn_bad, bind_ok', DW.R.map, gt, val_tmp, val_slot, addD_i, addD_s, addD_l, augD_i, augD_s, subD_i, negD_i, modD_i, fdivD_i, mulD_a, mulD_b, eqD_i, eqD_s, neD_i, neD_s, ltD_i, leD_i, gtD_i, geD_i, idxD_l, idxD_t, idxD_c, own_some, atI_0, atI_1, atI_2, no_int, no_str, no_bl, no_non, no_tup, no_lst, no_scr, no_ktp, noL_0, noL_s, frz_int, frz_str, frz_bl, frz_non, frz_tup, frz_lst, frz_scr, frz_ktp, frzL_0, frzL_s, src_l, src_t, src_s, src_k, it_l, it_t, it_s, it_k, len_l, len_t, len_s, len_c, int_i, int_b, find_s, tru_b, isi_int, isi_intb, isi_str, absD, min2D, max2D, minI, maxI, toTupD, callO_eq, finO_some, fin2_ret, fin2_nxt, take_nil, take_tmp, take_slot, takeS_some, map_some', okO_nil, okO_none, okO_some, back_nil, back_none, back_some, backS_some, mkSeq_eq, mkS_some, tmps_0, tmps_s, env0, zip2D, wipe_0, wipe_s, ap_callB, callOB_eq, finB_some, finB2_ret, finB2_nxt, vals_0, vals_s, valS_some, scal_int, scal_bl, scal_str, scal_non, ap_selO, ap_aApp, callW_eq, finW_some, finX_eq, ap_callWR, ap_makeWR, makeW_eq, finM_some, finMX_eq, fin3_nxt, fin3_exc, fin2_exc, fin4_some, ap_methR, ap_ownR, ownS_ok, ownS2_some, strP_s, fldD_i, fldD_x, ap_sFld, insD_i, insC_i, isx_int, isx_intb, isx_str, isx_lst, isx_tup, isx_tupl, isx_lstt, ap_sAsgT, bU_t, bU_l, bTs_0, bTs_s, rz0_ap, rz1_ap, thn_exc, bind_exc, onR_exc, lp_exc, ordA, lp_nxt, lp_cnt, lp_brk, lp_ret, e, no]
  have e1 : fn_count_woods.call [d] = .exc "NoCount" [] [] [some d, none] := by
    unfold Fn.call fn_count_woods F_count_woods
    simp (config := { decide := false, maxSteps := 1000000 }) [tel_ret, goes_nxt, ap_nil, ap_brk, ap_retN, ap_bN, ap_bT2, ap_sSet, ap_sRet, ap_sExpr, ap_sIf, ap_sAug, ap_sSetL, ap_sSetD, ap_sAugL, ap_oR, ap_oN, ap_oF, ap_rN, ap_rC, ap_rF, ap_aN, ap_aC, ap_op1, ap_op2, ap_tO, ap_tV, ap_tNotD, ap_tAndD, ap_tOrD, ap_rAndV, ap_rOrV, ap_rNotV, ap_rIfE, ap_lstR, ap_tupR, ap_mApp, ap_mExt, ap_mPop, ap_callR, ap_enumI, ap_zipI2, ap_zipI3, ap_m1S, ap_iO, ap_sliceR, ap_pN, ap_pS, ap_stepR, ap_tYesD, ap_mPopAt, ap_mRev, ap_mClr, onR_ok, onR_bad, bind_bad, thn_nxt, thn_ret, thn_brk, thn_cnt, thn_bad, bind_ok', DW.R.map, gt, val_tmp, val_slot, addD_i, addD_s, addD_l, augD_i, augD_s, subD_i, negD_i, modD_i, fdivD_i, mulD_a, mulD_b, eqD_i, eqD_s, neD_i, neD_s, ltD_i, leD_i, gtD_i, geD_i, idxD_l, idxD_t, idxD_c, own_some, atI_0, atI_1, atI_2, no_int, no_str, no_bl, no_non, no_tup, no_lst, no_scr, no_ktp, noL_0, noL_s, frz_int, frz_str, frz_bl, frz_non, frz_tup, frz_lst, frz_scr, frz_ktp, frzL_0, frzL_s, src_l, src_t, src_s, src_k, it_l, it_t, it_s, it_k, len_l, len_t, len_s, len_c, int_i, int_b, find_s, tru_b, isi_int, isi_intb, isi_str, absD, min2D, max2D, minI, maxI, toTupD, callO_eq, finO_some, fin2_ret, fin2_nxt, take_nil, take_tmp, take_slot, takeS_some, map_some', okO_nil, okO_none, okO_some, back_nil, back_none, back_some, backS_some, mkSeq_eq, mkS_some, tmps_0, tmps_s, env0, zip2D, wipe_0, wipe_s, ap_callB, callOB_eq, finB_some, finB2_ret, finB2_nxt, vals_0, vals_s, valS_some, scal_int, scal_bl, scal_str, scal_non, ap_selO, ap_aApp, callW_eq, finW_some, finX_eq, ap_callWR, ap_makeWR, makeW_eq, finM_some, finMX_eq, fin3_nxt, fin3_exc, fin2_exc, fin4_some, ap_methR, ap_ownR, ownS_ok, ownS2_some, strP_s, fldD_i, fldD_x, ap_sFld, insD_i, insC_i, isx_int, isx_intb, isx_str, isx_lst, isx_tup, isx_tupl, isx_lstt, ap_sAsgT, bU_t, bU_l, bTs_0, bTs_s, rz0_ap, rz1_ap, thn_exc, bind_exc, onR_exc, lp_exc, ordA, lp_nxt, lp_cnt, lp_brk, lp_ret, e0, no]
  have e2 : fn_count_mixed.call [d] = .exc "NoCount" [] [] [some d] := by
    unfold Fn.call fn_count_mixed F_count_mixed
    simp (config := { decide := false, maxSteps := 1000000 }) [tel_ret, goes_nxt, ap_nil, ap_brk, ap_retN, ap_bN, ap_bT2, ap_sSet, ap_sRet, ap_sExpr, ap_sIf, ap_sAug, ap_sSetL, ap_sSetD, ap_sAugL, ap_oR, ap_oN, ap_oF, ap_rN, ap_rC, ap_rF, ap_aN, ap_aC, ap_op1, ap_op2, ap_tO, ap_tV, ap_tNotD, ap_tAndD, ap_tOrD, ap_rAndV, ap_rOrV, ap_rNotV, ap_rIfE, ap_lstR, ap_tupR, ap_mApp, ap_mExt, ap_mPop, ap_callR, ap_enumI, ap_zipI2, ap_zipI3, ap_m1S, ap_iO, ap_sliceR, ap_pN, ap_pS, ap_stepR, ap_tYesD, ap_mPopAt, ap_mRev, ap_mClr, onR_ok, onR_bad, bind_bad, thn_nxt, thn_ret, thn_brk, thn_cnt, thn_bad, bind_ok', DW.R.map, gt, val_tmp, val_slot, addD_i, addD_s, addD_l, augD_i, augD_s, subD_i, negD_i, modD_i, fdivD_i, mulD_a, mulD_b, eqD_i, eqD_s, neD_i, neD_s, ltD_i, leD_i, gtD_i, geD_i, idxD_l, idxD_t, idxD_c, own_some, atI_0, atI_1, atI_2, no_int, no_str, no_bl, no_non, no_tup, no_lst, no_scr, no_ktp, noL_0, noL_s, frz_int, frz_str, frz_bl, frz_non, frz_tup, frz_lst, frz_scr, frz_ktp, frzL_0, frzL_s, src_l, src_t, src_s, src_k, it_l, it_t, it_s, it_k, len_l, len_t, len_s, len_c, int_i, int_b, find_s, tru_b, isi_int, isi_intb, isi_str, absD, min2D, max2D, minI, maxI, toTupD, callO_eq, finO_some, fin2_ret, fin2_nxt, take_nil, take_tmp, take_slot, takeS_some, map_some', okO_nil, okO_none, okO_some, back_nil, back_none, back_some, backS_some, mkSeq_eq, mkS_some, tmps_0, tmps_s, env0, zip2D, wipe_0, wipe_s, ap_callB, callOB_eq, finB_some, finB2_ret, finB2_nxt, vals_0, vals_s, valS_some, scal_int, scal_bl, scal_str, scal_non, ap_selO, ap_aApp, callW_eq, finW_some, finX_eq, ap_callWR, ap_makeWR, makeW_eq, finM_some, finMX_eq, fin3_nxt, fin3_exc, fin2_exc, fin4_some, ap_methR, ap_ownR, ownS_ok, ownS2_some, strP_s, fldD_i, fldD_x, ap_sFld, insD_i, insC_i, isx_int, isx_intb, isx_str, isx_lst, isx_tup, isx_tupl, isx_lstt, ap_sAsgT, bU_t, bU_l, bTs_0, bTs_s, rz0_ap, rz1_ap, thn_exc, bind_exc, onR_exc, lp_exc, ordA, lp_nxt, lp_cnt, lp_brk, lp_ret, e0, no]
  have e3 : fn_count_maps.call [d] = .exc "NoCount" [] [] [some d] := by
    unfold Fn.call fn_count_maps F_count_maps
    simp (config := { decide := false, maxSteps := 1000000 }) [tel_ret, goes_nxt, ap_nil, ap_brk, ap_retN, ap_bN, ap_bT2, ap_sSet, ap_sRet, ap_sExpr, ap_sIf, ap_sAug, ap_sSetL, ap_sSetD, ap_sAugL, ap_oR, ap_oN, ap_oF, ap_rN, ap_rC, ap_rF, ap_aN, ap_aC, ap_op1, ap_op2, ap_tO, ap_tV, ap_tNotD, ap_tAndD, ap_tOrD, ap_rAndV, ap_rOrV, ap_rNotV, ap_rIfE, ap_lstR, ap_tupR, ap_mApp, ap_mExt, ap_mPop, ap_callR, ap_enumI, ap_zipI2, ap_zipI3, ap_m1S, ap_iO, ap_sliceR, ap_pN, ap_pS, ap_stepR, ap_tYesD, ap_mPopAt, ap_mRev, ap_mClr, onR_ok, onR_bad, bind_bad, thn_nxt, thn_ret, thn_brk, thn_cnt, thn_bad, bind_ok', DW.R.map, gt, val_tmp, val_slot, addD_i, addD_s, addD_l, augD_i, augD_s, subD_i, negD_i, modD_i, fdivD_i, mulD_a, mulD_b, eqD_i, eqD_s, neD_i, neD_s, ltD_i, leD_i, gtD_i, geD_i, idxD_l, idxD_t, idxD_c, own_some, atI_0, atI_1, atI_2, no_int, no_str, no_bl, no_non, no_tup, no_lst, no_scr, no_ktp, noL_0, noL_s, frz_int, frz_str, frz_bl, frz_non, frz_tup, frz_lst, frz_scr, frz_ktp, frzL_0, frzL_s, src_l, src_t, src_s, src_k, it_l, it_t, it_s, it_k, len_l, len_t, len_s, len_c, int_i, int_b, find_s, tru_b, isi_int, isi_intb, isi_str, absD, min2D, max2D, minI, maxI, toTupD, callO_eq, finO_some, fin2_ret, fin2_nxt, take_nil, take_tmp, take_slot, takeS_some, map_some', okO_nil, okO_none, okO_some, back_nil, back_none, back_some, backS_some, mkSeq_eq, mkS_some, tmps_0, tmps_s, env0, zip2D, wipe_0, wipe_s, ap_callB, callOB_eq, finB_some, finB2_ret, finB2_nxt, vals_0, vals_s, valS_some, scal_int, scal_bl, scal_str, scal_non, ap_selO, ap_aApp, callW_eq, finW_some, finX_eq, ap_callWR, ap_makeWR, makeW_eq, finM_some, finMX_eq, fin3_nxt, fin3_exc, fin2_exc, fin4_some, ap_methR, ap_ownR, ownS_ok, ownS2_some, strP_s, fldD_i, fldD_x, ap_sFld, insD_i, insC_i, isx_int, isx_intb, isx_str, isx_lst, isx_tup, isx_tupl, isx_lstt, ap_sAsgT, bU_t, bU_l, bTs_0, bTs_s, rz0_ap, rz1_ap, thn_exc, bind_exc, onR_exc, lp_exc, ordA, lp_nxt, lp_cnt, lp_brk, lp_ret, e1, no]
  have c := y_class.eq
  unfold Tells Fn.call fn_l_asked_2 F_l_asked_2
  simp (config := { decide := false, maxSteps := 1000000 }) [tel_ret, goes_nxt, ap_nil, ap_brk, ap_retN, ap_bN, ap_bT2, ap_sSet, ap_sRet, ap_sExpr, ap_sIf, ap_sAug, ap_sSetL, ap_sSetD, ap_sAugL, ap_oR, ap_oN, ap_oF, ap_rN, ap_rC, ap_rF, ap_aN, ap_aC, ap_op1, ap_op2, ap_tO, ap_tV, ap_tNotD, ap_tAndD, ap_tOrD, ap_rAndV, ap_rOrV, ap_rNotV, ap_rIfE, ap_lstR, ap_tupR, ap_mApp, ap_mExt, ap_mPop, ap_callR, ap_enumI, ap_zipI2, ap_zipI3, ap_m1S, ap_iO, ap_sliceR, ap_pN, ap_pS, ap_stepR, ap_tYesD, ap_mPopAt, ap_mRev, ap_mClr, onR_ok, onR_bad, bind_bad, thn_nxt, thn_ret, thn_brk, thn_cnt, thn_bad, bind_ok', DW.R.map, gt, val_tmp, val_slot, addD_i, addD_s, addD_l, augD_i, augD_s, subD_i, negD_i, modD_i, fdivD_i, mulD_a, mulD_b, eqD_i, eqD_s, neD_i, neD_s, ltD_i, leD_i, gtD_i, geD_i, idxD_l, idxD_t, idxD_c, own_some, atI_0, atI_1, atI_2, no_int, no_str, no_bl, no_non, no_tup, no_lst, no_scr, no_ktp, noL_0, noL_s, frz_int, frz_str, frz_bl, frz_non, frz_tup, frz_lst, frz_scr, frz_ktp, frzL_0, frzL_s, src_l, src_t, src_s, src_k, it_l, it_t, it_s, it_k, len_l, len_t, len_s, len_c, int_i, int_b, find_s, tru_b, isi_int, isi_intb, isi_str, absD, min2D, max2D, minI, maxI, toTupD, callO_eq, finO_some, fin2_ret, fin2_nxt, take_nil, take_tmp, take_slot, takeS_some, map_some', okO_nil, okO_none, okO_some, back_nil, back_none, back_some, backS_some, mkSeq_eq, mkS_some, tmps_0, tmps_s, env0, zip2D, wipe_0, wipe_s, ap_callB, callOB_eq, finB_some, finB2_ret, finB2_nxt, vals_0, vals_s, valS_some, scal_int, scal_bl, scal_str, scal_non, ap_selO, ap_aApp, callW_eq, finW_some, finX_eq, ap_callWR, ap_makeWR, makeW_eq, finM_some, finMX_eq, fin3_nxt, fin3_exc, fin2_exc, fin4_some, ap_methR, ap_ownR, ownS_ok, ownS2_some, strP_s, fldD_i, fldD_x, ap_sFld, insD_i, insC_i, isx_int, isx_intb, isx_str, isx_lst, isx_tup, isx_tupl, isx_lstt, ap_sAsgT, bU_t, bU_l, bTs_0, bTs_s, rz0_ap, rz1_ap, thn_exc, bind_exc, onR_exc, lp_exc, ordA, lp_nxt, lp_cnt, lp_brk, lp_ret]
  have key : ∀ (wi : Int) (Fb : DW.Env → Out), Fb [some (.int wi), some d, some .non, none] = .exc "NoCount" [] [] [some (.int wi), some d, some .non, none] → (sTryS "QuadError" 3 Fb (sSet 2 (callR fn_l_class [] (aC (oN 3) aN)) sNil) (sRet (rN 2)) [some (.int wi), some d, some .non, none]).tel = some (.str "NoCount") := fun wi Fb hb => by
    rw [tryS_exc hb (by decide +kernel) (by decide +kernel) (E2 := [some (.int wi), some d, some (.str "NoCount"), some ncD]) (by
      show sSet 2 _ sNil [some (.int wi), some d, some .non, some ncD] = _
      have n1 := nc_no
      generalize ncD = X at *
      simp (config := { decide := false, maxSteps := 1000000 }) [tel_ret, goes_nxt, ap_nil, ap_brk, ap_retN, ap_bN, ap_bT2, ap_sSet, ap_sRet, ap_sExpr, ap_sIf, ap_sAug, ap_sSetL, ap_sSetD, ap_sAugL, ap_oR, ap_oN, ap_oF, ap_rN, ap_rC, ap_rF, ap_aN, ap_aC, ap_op1, ap_op2, ap_tO, ap_tV, ap_tNotD, ap_tAndD, ap_tOrD, ap_rAndV, ap_rOrV, ap_rNotV, ap_rIfE, ap_lstR, ap_tupR, ap_mApp, ap_mExt, ap_mPop, ap_callR, ap_enumI, ap_zipI2, ap_zipI3, ap_m1S, ap_iO, ap_sliceR, ap_pN, ap_pS, ap_stepR, ap_tYesD, ap_mPopAt, ap_mRev, ap_mClr, onR_ok, onR_bad, bind_bad, thn_nxt, thn_ret, thn_brk, thn_cnt, thn_bad, bind_ok', DW.R.map, gt, val_tmp, val_slot, addD_i, addD_s, addD_l, augD_i, augD_s, subD_i, negD_i, modD_i, fdivD_i, mulD_a, mulD_b, eqD_i, eqD_s, neD_i, neD_s, ltD_i, leD_i, gtD_i, geD_i, idxD_l, idxD_t, idxD_c, own_some, atI_0, atI_1, atI_2, no_int, no_str, no_bl, no_non, no_tup, no_lst, no_scr, no_ktp, noL_0, noL_s, frz_int, frz_str, frz_bl, frz_non, frz_tup, frz_lst, frz_scr, frz_ktp, frzL_0, frzL_s, src_l, src_t, src_s, src_k, it_l, it_t, it_s, it_k, len_l, len_t, len_s, len_c, int_i, int_b, find_s, tru_b, isi_int, isi_intb, isi_str, absD, min2D, max2D, minI, maxI, toTupD, callO_eq, finO_some, fin2_ret, fin2_nxt, take_nil, take_tmp, take_slot, takeS_some, map_some', okO_nil, okO_none, okO_some, back_nil, back_none, back_some, backS_some, mkSeq_eq, mkS_some, tmps_0, tmps_s, env0, zip2D, wipe_0, wipe_s, ap_callB, callOB_eq, finB_some, finB2_ret, finB2_nxt, vals_0, vals_s, valS_some, scal_int, scal_bl, scal_str, scal_non, ap_selO, ap_aApp, callW_eq, finW_some, finX_eq, ap_callWR, ap_makeWR, makeW_eq, finM_some, finMX_eq, fin3_nxt, fin3_exc, fin2_exc, fin4_some, ap_methR, ap_ownR, ownS_ok, ownS2_some, strP_s, fldD_i, fldD_x, ap_sFld, insD_i, insC_i, isx_int, isx_intb, isx_str, isx_lst, isx_tup, isx_tupl, isx_lstt, ap_sAsgT, bU_t, bU_l, bTs_0, bTs_s, rz0_ap, rz1_ap, thn_exc, bind_exc, onR_exc, lp_exc, ordA, lp_nxt, lp_cnt, lp_brk, lp_ret, c, n1])]
    simp (config := { decide := false, maxSteps := 1000000 }) [tel_ret, goes_nxt, ap_nil, ap_brk, ap_retN, ap_bN, ap_bT2, ap_sSet, ap_sRet, ap_sExpr, ap_sIf, ap_sAug, ap_sSetL, ap_sSetD, ap_sAugL, ap_oR, ap_oN, ap_oF, ap_rN, ap_rC, ap_rF, ap_aN, ap_aC, ap_op1, ap_op2, ap_tO, ap_tV, ap_tNotD, ap_tAndD, ap_tOrD, ap_rAndV, ap_rOrV, ap_rNotV, ap_rIfE, ap_lstR, ap_tupR, ap_mApp, ap_mExt, ap_mPop, ap_callR, ap_enumI, ap_zipI2, ap_zipI3, ap_m1S, ap_iO, ap_sliceR, ap_pN, ap_pS, ap_stepR, ap_tYesD, ap_mPopAt, ap_mRev, ap_mClr, onR_ok, onR_bad, bind_bad, thn_nxt, thn_ret, thn_brk, thn_cnt, thn_bad, bind_ok', DW.R.map, gt, val_tmp, val_slot, addD_i, addD_s, addD_l, augD_i, augD_s, subD_i, negD_i, modD_i, fdivD_i, mulD_a, mulD_b, eqD_i, eqD_s, neD_i, neD_s, ltD_i, leD_i, gtD_i, geD_i, idxD_l, idxD_t, idxD_c, own_some, atI_0, atI_1, atI_2, no_int, no_str, no_bl, no_non, no_tup, no_lst, no_scr, no_ktp, noL_0, noL_s, frz_int, frz_str, frz_bl, frz_non, frz_tup, frz_lst, frz_scr, frz_ktp, frzL_0, frzL_s, src_l, src_t, src_s, src_k, it_l, it_t, it_s, it_k, len_l, len_t, len_s, len_c, int_i, int_b, find_s, tru_b, isi_int, isi_intb, isi_str, absD, min2D, max2D, minI, maxI, toTupD, callO_eq, finO_some, fin2_ret, fin2_nxt, take_nil, take_tmp, take_slot, takeS_some, map_some', okO_nil, okO_none, okO_some, back_nil, back_none, back_some, backS_some, mkSeq_eq, mkS_some, tmps_0, tmps_s, env0, zip2D, wipe_0, wipe_s, ap_callB, callOB_eq, finB_some, finB2_ret, finB2_nxt, vals_0, vals_s, valS_some, scal_int, scal_bl, scal_str, scal_non, ap_selO, ap_aApp, callW_eq, finW_some, finX_eq, ap_callWR, ap_makeWR, makeW_eq, finM_some, finMX_eq, fin3_nxt, fin3_exc, fin2_exc, fin4_some, ap_methR, ap_ownR, ownS_ok, ownS2_some, strP_s, fldD_i, fldD_x, ap_sFld, insD_i, insC_i, isx_int, isx_intb, isx_str, isx_lst, isx_tup, isx_tupl, isx_lstt, ap_sAsgT, bU_t, bU_l, bTs_0, bTs_s, rz0_ap, rz1_ap, thn_exc, bind_exc, onR_exc, lp_exc, ordA, lp_nxt, lp_cnt, lp_brk, lp_ret]
  have : w = 0 ∨ w = 1 ∨ w = 2 ∨ w = 3 := by omega
  rcases this with rfl | rfl | rfl | rfl
  · exact key 0 _ (by simp (config := { decide := false, maxSteps := 1000000 }) [tel_ret, goes_nxt, ap_nil, ap_brk, ap_retN, ap_bN, ap_bT2, ap_sSet, ap_sRet, ap_sExpr, ap_sIf, ap_sAug, ap_sSetL, ap_sSetD, ap_sAugL, ap_oR, ap_oN, ap_oF, ap_rN, ap_rC, ap_rF, ap_aN, ap_aC, ap_op1, ap_op2, ap_tO, ap_tV, ap_tNotD, ap_tAndD, ap_tOrD, ap_rAndV, ap_rOrV, ap_rNotV, ap_rIfE, ap_lstR, ap_tupR, ap_mApp, ap_mExt, ap_mPop, ap_callR, ap_enumI, ap_zipI2, ap_zipI3, ap_m1S, ap_iO, ap_sliceR, ap_pN, ap_pS, ap_stepR, ap_tYesD, ap_mPopAt, ap_mRev, ap_mClr, onR_ok, onR_bad, bind_bad, thn_nxt, thn_ret, thn_brk, thn_cnt, thn_bad, bind_ok', DW.R.map, gt, val_tmp, val_slot, addD_i, addD_s, addD_l, augD_i, augD_s, subD_i, negD_i, modD_i, fdivD_i, mulD_a, mulD_b, eqD_i, eqD_s, neD_i, neD_s, ltD_i, leD_i, gtD_i, geD_i, idxD_l, idxD_t, idxD_c, own_some, atI_0, atI_1, atI_2, no_int, no_str, no_bl, no_non, no_tup, no_lst, no_scr, no_ktp, noL_0, noL_s, frz_int, frz_str, frz_bl, frz_non, frz_tup, frz_lst, frz_scr, frz_ktp, frzL_0, frzL_s, src_l, src_t, src_s, src_k, it_l, it_t, it_s, it_k, len_l, len_t, len_s, len_c, int_i, int_b, find_s, tru_b, isi_int, isi_intb, isi_str, absD, min2D, max2D, minI, maxI, toTupD, callO_eq, finO_some, fin2_ret, fin2_nxt, take_nil, take_tmp, take_slot, takeS_some, map_some', okO_nil, okO_none, okO_some, back_nil, back_none, back_some, backS_some, mkSeq_eq, mkS_some, tmps_0, tmps_s, env0, zip2D, wipe_0, wipe_s, ap_callB, callOB_eq, finB_some, finB2_ret, finB2_nxt, vals_0, vals_s, valS_some, scal_int, scal_bl, scal_str, scal_non, ap_selO, ap_aApp, callW_eq, finW_some, finX_eq, ap_callWR, ap_makeWR, makeW_eq, finM_some, finMX_eq, fin3_nxt, fin3_exc, fin2_exc, fin4_some, ap_methR, ap_ownR, ownS_ok, ownS2_some, strP_s, fldD_i, fldD_x, ap_sFld, insD_i, insC_i, isx_int, isx_intb, isx_str, isx_lst, isx_tup, isx_tupl, isx_lstt, ap_sAsgT, bU_t, bU_l, bTs_0, bTs_s, rz0_ap, rz1_ap, thn_exc, bind_exc, onR_exc, lp_exc, ordA, lp_nxt, lp_cnt, lp_brk, lp_ret, e0, no])
  · exact key 1 _ (by simp (config := { decide := false, maxSteps := 1000000 }) [tel_ret, goes_nxt, ap_nil, ap_brk, ap_retN, ap_bN, ap_bT2, ap_sSet, ap_sRet, ap_sExpr, ap_sIf, ap_sAug, ap_sSetL, ap_sSetD, ap_sAugL, ap_oR, ap_oN, ap_oF, ap_rN, ap_rC, ap_rF, ap_aN, ap_aC, ap_op1, ap_op2, ap_tO, ap_tV, ap_tNotD, ap_tAndD, ap_tOrD, ap_rAndV, ap_rOrV, ap_rNotV, ap_rIfE, ap_lstR, ap_tupR, ap_mApp, ap_mExt, ap_mPop, ap_callR, ap_enumI, ap_zipI2, ap_zipI3, ap_m1S, ap_iO, ap_sliceR, ap_pN, ap_pS, ap_stepR, ap_tYesD, ap_mPopAt, ap_mRev, ap_mClr, onR_ok, onR_bad, bind_bad, thn_nxt, thn_ret, thn_brk, thn_cnt, thn_bad, bind_ok', DW.R.map, gt, val_tmp, val_slot, addD_i, addD_s, addD_l, augD_i, augD_s, subD_i, negD_i, modD_i, fdivD_i, mulD_a, mulD_b, eqD_i, eqD_s, neD_i, neD_s, ltD_i, leD_i, gtD_i, geD_i, idxD_l, idxD_t, idxD_c, own_some, atI_0, atI_1, atI_2, no_int, no_str, no_bl, no_non, no_tup, no_lst, no_scr, no_ktp, noL_0, noL_s, frz_int, frz_str, frz_bl, frz_non, frz_tup, frz_lst, frz_scr, frz_ktp, frzL_0, frzL_s, src_l, src_t, src_s, src_k, it_l, it_t, it_s, it_k, len_l, len_t, len_s, len_c, int_i, int_b, find_s, tru_b, isi_int, isi_intb, isi_str, absD, min2D, max2D, minI, maxI, toTupD, callO_eq, finO_some, fin2_ret, fin2_nxt, take_nil, take_tmp, take_slot, takeS_some, map_some', okO_nil, okO_none, okO_some, back_nil, back_none, back_some, backS_some, mkSeq_eq, mkS_some, tmps_0, tmps_s, env0, zip2D, wipe_0, wipe_s, ap_callB, callOB_eq, finB_some, finB2_ret, finB2_nxt, vals_0, vals_s, valS_some, scal_int, scal_bl, scal_str, scal_non, ap_selO, ap_aApp, callW_eq, finW_some, finX_eq, ap_callWR, ap_makeWR, makeW_eq, finM_some, finMX_eq, fin3_nxt, fin3_exc, fin2_exc, fin4_some, ap_methR, ap_ownR, ownS_ok, ownS2_some, strP_s, fldD_i, fldD_x, ap_sFld, insD_i, insC_i, isx_int, isx_intb, isx_str, isx_lst, isx_tup, isx_tupl, isx_lstt, ap_sAsgT, bU_t, bU_l, bTs_0, bTs_s, rz0_ap, rz1_ap, thn_exc, bind_exc, onR_exc, lp_exc, ordA, lp_nxt, lp_cnt, lp_brk, lp_ret, e1, no])
  · exact key 2 _ (by simp (config := { decide := false, maxSteps := 1000000 }) [tel_ret, goes_nxt, ap_nil, ap_brk, ap_retN, ap_bN, ap_bT2, ap_sSet, ap_sRet, ap_sExpr, ap_sIf, ap_sAug, ap_sSetL, ap_sSetD, ap_sAugL, ap_oR, ap_oN, ap_oF, ap_rN, ap_rC, ap_rF, ap_aN, ap_aC, ap_op1, ap_op2, ap_tO, ap_tV, ap_tNotD, ap_tAndD, ap_tOrD, ap_rAndV, ap_rOrV, ap_rNotV, ap_rIfE, ap_lstR, ap_tupR, ap_mApp, ap_mExt, ap_mPop, ap_callR, ap_enumI, ap_zipI2, ap_zipI3, ap_m1S, ap_iO, ap_sliceR, ap_pN, ap_pS, ap_stepR, ap_tYesD, ap_mPopAt, ap_mRev, ap_mClr, onR_ok, onR_bad, bind_bad, thn_nxt, thn_ret, thn_brk, thn_cnt, thn_bad, bind_ok', DW.R.map, gt, val_tmp, val_slot, addD_i, addD_s, addD_l, augD_i, augD_s, subD_i, negD_i, modD_i, fdivD_i, mulD_a, mulD_b, eqD_i, eqD_s, neD_i, neD_s, ltD_i, leD_i, gtD_i, geD_i, idxD_l, idxD_t, idxD_c, own_some, atI_0, atI_1, atI_2, no_int, no_str, no_bl, no_non, no_tup, no_lst, no_scr, no_ktp, noL_0, noL_s, frz_int, frz_str, frz_bl, frz_non, frz_tup, frz_lst, frz_scr, frz_ktp, frzL_0, frzL_s, src_l, src_t, src_s, src_k, it_l, it_t, it_s, it_k, len_l, len_t, len_s, len_c, int_i, int_b, find_s, tru_b, isi_int, isi_intb, isi_str, absD, min2D, max2D, minI, maxI, toTupD, callO_eq, finO_some, fin2_ret, fin2_nxt, take_nil, take_tmp, take_slot, takeS_some, map_some', okO_nil, okO_none, okO_some, back_nil, back_none, back_some, backS_some, mkSeq_eq, mkS_some, tmps_0, tmps_s, env0, zip2D, wipe_0, wipe_s, ap_callB, callOB_eq, finB_some, finB2_ret, finB2_nxt, vals_0, vals_s, valS_some, scal_int, scal_bl, scal_str, scal_non, ap_selO, ap_aApp, callW_eq, finW_some, finX_eq, ap_callWR, ap_makeWR, makeW_eq, finM_some, finMX_eq, fin3_nxt, fin3_exc, fin2_exc, fin4_some, ap_methR, ap_ownR, ownS_ok, ownS2_some, strP_s, fldD_i, fldD_x, ap_sFld, insD_i, insC_i, isx_int, isx_intb, isx_str, isx_lst, isx_tup, isx_tupl, isx_lstt, ap_sAsgT, bU_t, bU_l, bTs_0, bTs_s, rz0_ap, rz1_ap, thn_exc, bind_exc, onR_exc, lp_exc, ordA, lp_nxt, lp_cnt, lp_brk, lp_ret, e2, no])
  · exact key 3 _ (by simp (config := { decide := false, maxSteps := 1000000 }) [tel_ret, goes_nxt, ap_nil, ap_brk, ap_retN, ap_bN, ap_bT2, ap_sSet, ap_sRet, ap_sExpr, ap_sIf, ap_sAug, ap_sSetL, ap_sSetD, ap_sAugL, ap_oR, ap_oN, ap_oF, ap_rN, ap_rC, ap_rF, ap_aN, ap_aC, ap_op1, ap_op2, ap_tO, ap_tV, ap_tNotD, ap_tAndD, ap_tOrD, ap_rAndV, ap_rOrV, ap_rNotV, ap_rIfE, ap_lstR, ap_tupR, ap_mApp, ap_mExt, ap_mPop, ap_callR, ap_enumI, ap_zipI2, ap_zipI3, ap_m1S, ap_iO, ap_sliceR, ap_pN, ap_pS, ap_stepR, ap_tYesD, ap_mPopAt, ap_mRev, ap_mClr, onR_ok, onR_bad, bind_bad, thn_nxt, thn_ret, thn_brk, thn_cnt, thn_bad, bind_ok', DW.R.map, gt, val_tmp, val_slot, addD_i, addD_s, addD_l, augD_i, augD_s, subD_i, negD_i, modD_i, fdivD_i, mulD_a, mulD_b, eqD_i, eqD_s, neD_i, neD_s, ltD_i, leD_i, gtD_i, geD_i, idxD_l, idxD_t, idxD_c, own_some, atI_0, atI_1, atI_2, no_int, no_str, no_bl, no_non, no_tup, no_lst, no_scr, no_ktp, noL_0, noL_s, frz_int, frz_str, frz_bl, frz_non, frz_tup, frz_lst, frz_scr, frz_ktp, frzL_0, frzL_s, src_l, src_t, src_s, src_k, it_l, it_t, it_s, it_k, len_l, len_t, len_s, len_c, int_i, int_b, find_s, tru_b, isi_int, isi_intb, isi_str, absD, min2D, max2D, minI, maxI, toTupD, callO_eq, finO_some, fin2_ret, fin2_nxt, take_nil, take_tmp, take_slot, takeS_some, map_some', okO_nil, okO_none, okO_some, back_nil, back_none, back_some, backS_some, mkSeq_eq, mkS_some, tmps_0, tmps_s, env0, zip2D, wipe_0, wipe_s, ap_callB, callOB_eq, finB_some, finB2_ret, finB2_nxt, vals_0, vals_s, valS_some, scal_int, scal_bl, scal_str, scal_non, ap_selO, ap_aApp, callW_eq, finW_some, finX_eq, ap_callWR, ap_makeWR, makeW_eq, finM_some, finMX_eq, fin3_nxt, fin3_exc, fin2_exc, fin4_some, ap_methR, ap_ownR, ownS_ok, ownS2_some, strP_s, fldD_i, fldD_x, ap_sFld, insD_i, insC_i, isx_int, isx_intb, isx_str, isx_lst, isx_tup, isx_tupl, isx_lstt, ap_sAsgT, bU_t, bU_l, bTs_0, bTs_s, rz0_ap, rz1_ap, thn_exc, bind_exc, onR_exc, lp_exc, ordA, lp_nxt, lp_cnt, lp_brk, lp_ret, e3, no])
end FN
/-! Y4: one count asked right, the law k40. -/
namespace FN
open PySem L2 Evl QW DW
theorem lcD_nonY {vs : List Nat} {bind : D → DW.Env → Option DW.Env} {ft : DW.Env → R Bool} {fe : DW.Env → R D} {E2 : DW.Env} : ∀ {ds : List D}, (∀ d ∈ ds, ∃ E3 E4, bind d E2 = some E3 ∧ ft E3 = .ok false E4 ∧ wipeE E4 vs = E2) → ∀ acc, lcD vs bind ft fe ds E2 acc = .ok acc E2
  | [], _, _ => rfl
  | d :: ds, h, acc => by
    obtain ⟨E3, E4, h1, h2, h3⟩ := h d List.mem_cons_self
    unfold lcD
    simp only [h1, h2, h3]
    exact lcD_nonY (fun d m => h d (List.mem_cons_of_mem _ m)) acc
theorem lc_nonY {vs : List Nat} {src : DW.Env → R (List D)} {bind : D → DW.Env → Option DW.Env} {ft : DW.Env → R Bool} {fe : DW.Env → R D} {E E1 E2 : DW.Env} {ds : List D} (hs : src E = .ok ds E1) (hE : wipeE E1 vs = E2) (h : ∀ d ∈ ds, ∃ E3 E4, bind d E2 = some E3 ∧ ft E3 = .ok false E4 ∧ wipeE E4 vs = E2) : lcR vs src bind ft fe E = .ok (.lst true []) E2 := by
  unfold lcR
  rw [hs, R.bind_ok, hE, lcD_nonY h []]
  rfl
theorem y_whole2 (i : Int) : Tells fn_l_whole [.int i] (.bl true) := by
  unfold Tells Fn.call fn_l_whole F_l_whole
  simp (config := { decide := false, maxSteps := 1000000 }) [tel_ret, goes_nxt, ap_nil, ap_brk, ap_retN, ap_bN, ap_bT2, ap_sSet, ap_sRet, ap_sExpr, ap_sIf, ap_sAug, ap_sSetL, ap_sSetD, ap_sAugL, ap_oR, ap_oN, ap_oF, ap_rN, ap_rC, ap_rF, ap_aN, ap_aC, ap_op1, ap_op2, ap_tO, ap_tV, ap_tNotD, ap_tAndD, ap_tOrD, ap_rAndV, ap_rOrV, ap_rNotV, ap_rIfE, ap_lstR, ap_tupR, ap_mApp, ap_mExt, ap_mPop, ap_callR, ap_enumI, ap_zipI2, ap_zipI3, ap_m1S, ap_iO, ap_sliceR, ap_pN, ap_pS, ap_stepR, ap_tYesD, ap_mPopAt, ap_mRev, ap_mClr, onR_ok, onR_bad, bind_bad, thn_nxt, thn_ret, thn_brk, thn_cnt, thn_bad, bind_ok', DW.R.map, gt, val_tmp, val_slot, addD_i, addD_s, addD_l, augD_i, augD_s, subD_i, negD_i, modD_i, fdivD_i, mulD_a, mulD_b, eqD_i, eqD_s, neD_i, neD_s, ltD_i, leD_i, gtD_i, geD_i, idxD_l, idxD_t, idxD_c, own_some, atI_0, atI_1, atI_2, no_int, no_str, no_bl, no_non, no_tup, no_lst, no_scr, no_ktp, noL_0, noL_s, frz_int, frz_str, frz_bl, frz_non, frz_tup, frz_lst, frz_scr, frz_ktp, frzL_0, frzL_s, src_l, src_t, src_s, src_k, it_l, it_t, it_s, it_k, len_l, len_t, len_s, len_c, int_i, int_b, find_s, tru_b, isi_int, isi_intb, isi_str, absD, min2D, max2D, minI, maxI, toTupD, callO_eq, finO_some, fin2_ret, fin2_nxt, take_nil, take_tmp, take_slot, takeS_some, map_some', okO_nil, okO_none, okO_some, back_nil, back_none, back_some, backS_some, mkSeq_eq, mkS_some, tmps_0, tmps_s, env0, zip2D, wipe_0, wipe_s, ap_callB, callOB_eq, finB_some, finB2_ret, finB2_nxt, vals_0, vals_s, valS_some, scal_int, scal_bl, scal_str, scal_non, ap_selO, ap_aApp, callW_eq, finW_some, finX_eq, ap_callWR, ap_makeWR, makeW_eq, finM_some, finMX_eq, fin3_nxt, fin3_exc, fin2_exc, fin4_some, ap_methR, ap_ownR, ownS_ok, ownS2_some, strP_s, fldD_i, fldD_x, ap_sFld, insD_i, insC_i, isx_int, isx_intb, isx_str, isx_lst, isx_tup, isx_tupl, isx_lstt, ap_sAsgT, bU_t, bU_l, bTs_0, bTs_s, rz0_ap, rz1_ap, thn_exc, bind_exc, onR_exc, lp_exc, ordA, lp_nxt, lp_cnt, lp_brk, lp_ret]
theorem dd_y {o : Bool} {n : Nat} {ns : List Int} : dd (n + 1) (.lst o (ns.map .int)) = true := by
  show (ns.map D.int).all (dd n) = true
  rw [List.all_map, List.all_eq_true]
  intro x _
  cases n <;> rfl
theorem eqBL_y : ∀ a : List Int, eqBL (a.map .int) (a.map .int) = true
  | [] => rfl
  | a :: as => by
    rw [List.map_cons, eqBL, eqBL_y as, eqB]
    simp
theorem ne_y {o p : Bool} (a : List Int) : neD (.lst o (a.map .int)) (.lst p (a.map .int)) = some (.bl false) := by
  show (if (dd 8 (D.lst o (a.map .int)) && dd 8 (D.lst p (a.map .int))) = true then some (D.bl (!eqBL (a.map .int) (a.map .int))) else none) = _
  rw [dd_y, dd_y, eqBL_y]
  rfl
def dueC : D := .lst false (catD 62)
theorem dueNo : noOwn dueC = true := by
  show (!false && noOwnL _) = true
  rw [catNo]; rfl
theorem due_ix {n : Nat} (h : n < 62) : idxD dueC (.int (n : Int)) = some (.int (Law_k41.wordsOf n)) := cat_ix h
theorem S_asked : fn_l_asked_2.S = [0, 1] := Eq.trans rfl rfl
theorem S_right6 : fn_l_right_6.S = [0, 1] := Eq.trans rfl rfl
def askD (n : Nat) : D → D
  | .int w => .int (cv n w.toNat)
  | _ => .non
theorem r_right6 {n : Nat} (hn : n ≤ 60) : Tells fn_l_right_6 [.int n, dueC] (.bl true) := by
  have W0 := cat_b n (by omega)
  have W1 := cat_b (n + 1) (by omega)
  have h3 := y_p3 hn
  have i0 := due_ix (n := n) (by omega)
  have i1 := due_ix (n := n + 1) (by omega)
  have ec : ((n + 1 : Nat) : Int) = (n : Int) + 1 := by omega
  rw [ec] at i1
  have t3 := (y_3b hn).eq
  have m1 : mulD (.int (cv n 0)) (.int ((3 : Int) ^ n)) = some (.int (cv n 1)) := by
    have : cv n 1 = cv n 0 * (3 : Int) ^ n := Int.mul_comm _ _
    rw [this]
    show mulD (.int (Law_k41.wordsOf n)) _ = some (.int (Law_k41.wordsOf n * _))
    generalize Law_k41.wordsOf n = a at *
    generalize (3 : Int) ^ n = b at *
    exact mulN (by omega) (by omega)
  have m2 : mulD (.int (cv n 0)) (.int (Law_k41.wordsOf (n + 1))) = some (.int (cv n 2)) := by
    show mulD (.int (Law_k41.wordsOf n)) _ = some (.int (Law_k41.wordsOf n * Law_k41.wordsOf (n + 1)))
    generalize Law_k41.wordsOf n = a at *
    generalize Law_k41.wordsOf (n + 1) = b at *
    exact mulN (by omega) (by omega)
  have m3 : mulD (.int (cv n 3)) (.int ((n : Int) + 2)) = some (.int (2 * cv n 1)) := by
    have := cat_m n (by omega)
    have e : cv n 3 * ((n : Int) + 2) = 2 * cv n 1 := this
    rw [← e]
    generalize cv n 3 = a at *
    exact mulD_b (by omega) (by omega)
  have m4 : mulD (.int 2) (.int (cv n 1)) = some (.int (2 * cv n 1)) := mulD_a (by decide) (by decide)
  have a := fun w (hw : w < 4) => (y_ask (n := n) (w := w) hn hw).eq
  have c0 := (y_count hn).eq
  have c1 := (y_woods hn).eq
  have c2 := (y_mixed hn).eq
  have c3 := (y_maps hn).eq
  have i0 : idxD dueC (.int (n : Int)) = some (.int (cv n 0)) := i0
  have c0 : fn_count_words.call [.int n] = .ret (.int (cv n 0)) _ := c0
  have lc := lc_map (E := [some (.int n), some dueC, none, none, none]) (E1 := [some (.int n), some dueC, none, none, none]) (E2 := [some (.int n), some dueC, none, none, none]) (vs := [3]) (src := rng1 (aC (oR (rC (.int 4))) (aN))) (bind := bN 3) (fe := rF (callR fn_l_asked_2 [] (aC (oN 3) (aC (oN 0) (aN))))) (ds := rangeL 0 4) (askD n) (rng1_n (E := [some (.int n), some dueC, none, none, none]) (o := .tmp (.int ((4 : Nat) : Int))) (n := 4) (by generalize dueC = DU; simp (config := { decide := false, maxSteps := 1000000 }) [tel_ret, goes_nxt, ap_nil, ap_brk, ap_retN, ap_bN, ap_bT2, ap_sSet, ap_sRet, ap_sExpr, ap_sIf, ap_sAug, ap_sSetL, ap_sSetD, ap_sAugL, ap_oR, ap_oN, ap_oF, ap_rN, ap_rC, ap_rF, ap_aN, ap_aC, ap_op1, ap_op2, ap_tO, ap_tV, ap_tNotD, ap_tAndD, ap_tOrD, ap_rAndV, ap_rOrV, ap_rNotV, ap_rIfE, ap_lstR, ap_tupR, ap_mApp, ap_mExt, ap_mPop, ap_callR, ap_enumI, ap_zipI2, ap_zipI3, ap_m1S, ap_iO, ap_sliceR, ap_pN, ap_pS, ap_stepR, ap_tYesD, ap_mPopAt, ap_mRev, ap_mClr, onR_ok, onR_bad, bind_bad, thn_nxt, thn_ret, thn_brk, thn_cnt, thn_bad, bind_ok', DW.R.map, gt, val_tmp, val_slot, addD_i, addD_s, addD_l, augD_i, augD_s, subD_i, negD_i, modD_i, fdivD_i, mulD_a, mulD_b, eqD_i, eqD_s, neD_i, neD_s, ltD_i, leD_i, gtD_i, geD_i, idxD_l, idxD_t, idxD_c, own_some, atI_0, atI_1, atI_2, no_int, no_str, no_bl, no_non, no_tup, no_lst, no_scr, no_ktp, noL_0, noL_s, frz_int, frz_str, frz_bl, frz_non, frz_tup, frz_lst, frz_scr, frz_ktp, frzL_0, frzL_s, src_l, src_t, src_s, src_k, it_l, it_t, it_s, it_k, len_l, len_t, len_s, len_c, int_i, int_b, find_s, tru_b, isi_int, isi_intb, isi_str, absD, min2D, max2D, minI, maxI, toTupD, callO_eq, finO_some, fin2_ret, fin2_nxt, take_nil, take_tmp, take_slot, takeS_some, map_some', okO_nil, okO_none, okO_some, back_nil, back_none, back_some, backS_some, mkSeq_eq, mkS_some, tmps_0, tmps_s, env0, zip2D, wipe_0, wipe_s, ap_callB, callOB_eq, finB_some, finB2_ret, finB2_nxt, vals_0, vals_s, valS_some, scal_int, scal_bl, scal_str, scal_non, ap_selO, ap_aApp, callW_eq, finW_some, finX_eq, ap_callWR, ap_makeWR, makeW_eq, finM_some, finMX_eq, fin3_nxt, fin3_exc, fin2_exc, fin4_some, ap_methR, ap_ownR, ownS_ok, ownS2_some, strP_s, fldD_i, fldD_x, ap_sFld, insD_i, insC_i, isx_int, isx_intb, isx_str, isx_lst, isx_tup, isx_tupl, isx_lstt, ap_sAsgT, bU_t, bU_l, bTs_0, bTs_s, rz0_ap, rz1_ap, thn_exc, bind_exc, onR_exc, lp_exc, ordA, lp_nxt, lp_cnt, lp_brk, lp_ret]) rfl (by decide)) rfl (fun d hd => by
    obtain ⟨j, hj, rfl⟩ := List.mem_map.mp hd
    have hj := List.mem_range.mp hj
    have e := (y_ask (n := n) (w := j) hn hj).eq
    have ad : askD n (.int (0 + (j : Nat))) = .int (cv n j) := by
      show D.int (cv n ((0 : Int) + (j : Nat)).toNat) = _
      have : ((0 : Int) + (j : Nat)).toNat = j := by omega
      rw [this]
    rw [Int.zero_add] at ad ⊢
    refine ⟨_, [some (.int n), some dueC, none, some (.int (j : Int)), none], rfl, ?_, rfl⟩
    rw [ad]
    generalize cv n j = y at *
    generalize dueC = DU at *
    simp (config := { decide := false, maxSteps := 1000000 }) [tel_ret, goes_nxt, ap_nil, ap_brk, ap_retN, ap_bN, ap_bT2, ap_sSet, ap_sRet, ap_sExpr, ap_sIf, ap_sAug, ap_sSetL, ap_sSetD, ap_sAugL, ap_oR, ap_oN, ap_oF, ap_rN, ap_rC, ap_rF, ap_aN, ap_aC, ap_op1, ap_op2, ap_tO, ap_tV, ap_tNotD, ap_tAndD, ap_tOrD, ap_rAndV, ap_rOrV, ap_rNotV, ap_rIfE, ap_lstR, ap_tupR, ap_mApp, ap_mExt, ap_mPop, ap_callR, ap_enumI, ap_zipI2, ap_zipI3, ap_m1S, ap_iO, ap_sliceR, ap_pN, ap_pS, ap_stepR, ap_tYesD, ap_mPopAt, ap_mRev, ap_mClr, onR_ok, onR_bad, bind_bad, thn_nxt, thn_ret, thn_brk, thn_cnt, thn_bad, bind_ok', DW.R.map, gt, val_tmp, val_slot, addD_i, addD_s, addD_l, augD_i, augD_s, subD_i, negD_i, modD_i, fdivD_i, mulD_a, mulD_b, eqD_i, eqD_s, neD_i, neD_s, ltD_i, leD_i, gtD_i, geD_i, idxD_l, idxD_t, idxD_c, own_some, atI_0, atI_1, atI_2, no_int, no_str, no_bl, no_non, no_tup, no_lst, no_scr, no_ktp, noL_0, noL_s, frz_int, frz_str, frz_bl, frz_non, frz_tup, frz_lst, frz_scr, frz_ktp, frzL_0, frzL_s, src_l, src_t, src_s, src_k, it_l, it_t, it_s, it_k, len_l, len_t, len_s, len_c, int_i, int_b, find_s, tru_b, isi_int, isi_intb, isi_str, absD, min2D, max2D, minI, maxI, toTupD, callO_eq, finO_some, fin2_ret, fin2_nxt, take_nil, take_tmp, take_slot, takeS_some, map_some', okO_nil, okO_none, okO_some, back_nil, back_none, back_some, backS_some, mkSeq_eq, mkS_some, tmps_0, tmps_s, env0, zip2D, wipe_0, wipe_s, ap_callB, callOB_eq, finB_some, finB2_ret, finB2_nxt, vals_0, vals_s, valS_some, scal_int, scal_bl, scal_str, scal_non, ap_selO, ap_aApp, callW_eq, finW_some, finX_eq, ap_callWR, ap_makeWR, makeW_eq, finM_some, finMX_eq, fin3_nxt, fin3_exc, fin2_exc, fin4_some, ap_methR, ap_ownR, ownS_ok, ownS2_some, strP_s, fldD_i, fldD_x, ap_sFld, insD_i, insC_i, isx_int, isx_intb, isx_str, isx_lst, isx_tup, isx_tupl, isx_lstt, ap_sAsgT, bU_t, bU_l, bTs_0, bTs_s, rz0_ap, rz1_ap, thn_exc, bind_exc, onR_exc, lp_exc, ordA, lp_nxt, lp_cnt, lp_brk, lp_ret, e]) (by decide)
  have el : (rangeL 0 4).map (askD n) = [cv n 0, cv n 1, cv n 2, cv n 3].map .int := rfl
  rw [el] at lc
  have hfz : frzL ([cv n 0, cv n 1, cv n 2, cv n 3].map D.int) = [cv n 0, cv n 1, cv n 2, cv n 3].map .int := frzL_no' (intsNo _)
  have lc2 := lc_nonY (vs := [4]) (src := iO (oR (rN 2))) (bind := bN 4) (ft := tNotD (tO (oR (callR fn_l_whole [] (aC (oN 4) (aN)))))) (fe := rN 4) (E := [some (.int n), some dueC, some (.lst true ([cv n 0, cv n 1, cv n 2, cv n 3].map .int)), none, none]) (E1 := [some (.int n), some dueC, some (.lst false ([cv n 0, cv n 1, cv n 2, cv n 3].map .int)), none, none]) (E2 := [some (.int n), some dueC, some (.lst false ([cv n 0, cv n 1, cv n 2, cv n 3].map .int)), none, none]) (ds := [cv n 0, cv n 1, cv n 2, cv n 3].map .int)
    (by generalize [cv n 0, cv n 1, cv n 2, cv n 3].map D.int = L at *; generalize dueC = DU at *; simp (config := { decide := false, maxSteps := 1000000 }) [tel_ret, goes_nxt, ap_nil, ap_brk, ap_retN, ap_bN, ap_bT2, ap_sSet, ap_sRet, ap_sExpr, ap_sIf, ap_sAug, ap_sSetL, ap_sSetD, ap_sAugL, ap_oR, ap_oN, ap_oF, ap_rN, ap_rC, ap_rF, ap_aN, ap_aC, ap_op1, ap_op2, ap_tO, ap_tV, ap_tNotD, ap_tAndD, ap_tOrD, ap_rAndV, ap_rOrV, ap_rNotV, ap_rIfE, ap_lstR, ap_tupR, ap_mApp, ap_mExt, ap_mPop, ap_callR, ap_enumI, ap_zipI2, ap_zipI3, ap_m1S, ap_iO, ap_sliceR, ap_pN, ap_pS, ap_stepR, ap_tYesD, ap_mPopAt, ap_mRev, ap_mClr, onR_ok, onR_bad, bind_bad, thn_nxt, thn_ret, thn_brk, thn_cnt, thn_bad, bind_ok', DW.R.map, gt, val_tmp, val_slot, addD_i, addD_s, addD_l, augD_i, augD_s, subD_i, negD_i, modD_i, fdivD_i, mulD_a, mulD_b, eqD_i, eqD_s, neD_i, neD_s, ltD_i, leD_i, gtD_i, geD_i, idxD_l, idxD_t, idxD_c, own_some, atI_0, atI_1, atI_2, no_int, no_str, no_bl, no_non, no_tup, no_lst, no_scr, no_ktp, noL_0, noL_s, frz_int, frz_str, frz_bl, frz_non, frz_tup, frz_lst, frz_scr, frz_ktp, frzL_0, frzL_s, src_l, src_t, src_s, src_k, it_l, it_t, it_s, it_k, len_l, len_t, len_s, len_c, int_i, int_b, find_s, tru_b, isi_int, isi_intb, isi_str, absD, min2D, max2D, minI, maxI, toTupD, callO_eq, finO_some, fin2_ret, fin2_nxt, take_nil, take_tmp, take_slot, takeS_some, map_some', okO_nil, okO_none, okO_some, back_nil, back_none, back_some, backS_some, mkSeq_eq, mkS_some, tmps_0, tmps_s, env0, zip2D, wipe_0, wipe_s, ap_callB, callOB_eq, finB_some, finB2_ret, finB2_nxt, vals_0, vals_s, valS_some, scal_int, scal_bl, scal_str, scal_non, ap_selO, ap_aApp, callW_eq, finW_some, finX_eq, ap_callWR, ap_makeWR, makeW_eq, finM_some, finMX_eq, fin3_nxt, fin3_exc, fin2_exc, fin4_some, ap_methR, ap_ownR, ownS_ok, ownS2_some, strP_s, fldD_i, fldD_x, ap_sFld, insD_i, insC_i, isx_int, isx_intb, isx_str, isx_lst, isx_tup, isx_tupl, isx_lstt, ap_sAsgT, bU_t, bU_l, bTs_0, bTs_s, rz0_ap, rz1_ap, thn_exc, bind_exc, onR_exc, lp_exc, ordA, lp_nxt, lp_cnt, lp_brk, lp_ret, hfz]) rfl (fun d hd => by
      obtain ⟨x, hx, rfl⟩ := List.mem_map.mp hd
      have w1 := (y_whole2 x).eq
      refine ⟨_, [some (.int n), some dueC, some (.lst false ([cv n 0, cv n 1, cv n 2, cv n 3].map .int)), none, some (.int x)], rfl, ?_, rfl⟩
      generalize [cv n 0, cv n 1, cv n 2, cv n 3].map D.int = L at *
      generalize dueC = DU at *
      simp (config := { decide := false, maxSteps := 1000000 }) [tel_ret, goes_nxt, ap_nil, ap_brk, ap_retN, ap_bN, ap_bT2, ap_sSet, ap_sRet, ap_sExpr, ap_sIf, ap_sAug, ap_sSetL, ap_sSetD, ap_sAugL, ap_oR, ap_oN, ap_oF, ap_rN, ap_rC, ap_rF, ap_aN, ap_aC, ap_op1, ap_op2, ap_tO, ap_tV, ap_tNotD, ap_tAndD, ap_tOrD, ap_rAndV, ap_rOrV, ap_rNotV, ap_rIfE, ap_lstR, ap_tupR, ap_mApp, ap_mExt, ap_mPop, ap_callR, ap_enumI, ap_zipI2, ap_zipI3, ap_m1S, ap_iO, ap_sliceR, ap_pN, ap_pS, ap_stepR, ap_tYesD, ap_mPopAt, ap_mRev, ap_mClr, onR_ok, onR_bad, bind_bad, thn_nxt, thn_ret, thn_brk, thn_cnt, thn_bad, bind_ok', DW.R.map, gt, val_tmp, val_slot, addD_i, addD_s, addD_l, augD_i, augD_s, subD_i, negD_i, modD_i, fdivD_i, mulD_a, mulD_b, eqD_i, eqD_s, neD_i, neD_s, ltD_i, leD_i, gtD_i, geD_i, idxD_l, idxD_t, idxD_c, own_some, atI_0, atI_1, atI_2, no_int, no_str, no_bl, no_non, no_tup, no_lst, no_scr, no_ktp, noL_0, noL_s, frz_int, frz_str, frz_bl, frz_non, frz_tup, frz_lst, frz_scr, frz_ktp, frzL_0, frzL_s, src_l, src_t, src_s, src_k, it_l, it_t, it_s, it_k, len_l, len_t, len_s, len_c, int_i, int_b, find_s, tru_b, isi_int, isi_intb, isi_str, absD, min2D, max2D, minI, maxI, toTupD, callO_eq, finO_some, fin2_ret, fin2_nxt, take_nil, take_tmp, take_slot, takeS_some, map_some', okO_nil, okO_none, okO_some, back_nil, back_none, back_some, backS_some, mkSeq_eq, mkS_some, tmps_0, tmps_s, env0, zip2D, wipe_0, wipe_s, ap_callB, callOB_eq, finB_some, finB2_ret, finB2_nxt, vals_0, vals_s, valS_some, scal_int, scal_bl, scal_str, scal_non, ap_selO, ap_aApp, callW_eq, finW_some, finX_eq, ap_callWR, ap_makeWR, makeW_eq, finM_some, finMX_eq, fin3_nxt, fin3_exc, fin2_exc, fin4_some, ap_methR, ap_ownR, ownS_ok, ownS2_some, strP_s, fldD_i, fldD_x, ap_sFld, insD_i, insC_i, isx_int, isx_intb, isx_str, isx_lst, isx_tup, isx_tupl, isx_lstt, ap_sAsgT, bU_t, bU_l, bTs_0, bTs_s, rz0_ap, rz1_ap, thn_exc, bind_exc, onR_exc, lp_exc, ordA, lp_nxt, lp_cnt, lp_brk, lp_ret, w1])
  have sl : sliceF (.lst false ([cv n 0, cv n 1, cv n 2, cv n 3].map .int)) none (some 2) = some (.lst true ([cv n 0, cv n 1].map .int)) := rfl
  have n1 := ne_y (o := true) (p := true) [cv n 0, cv n 1]
  have n2 := ne_y (o := false) (p := true) [cv n 0, cv n 1, cv n 2, cv n 3]
  have n3 : neD (.int (cv n 2)) (.int (cv n 2)) = some (.bl false) := by rw [neD_i]; simp
  have n4 : eqD (.int (2 * cv n 1)) (.int (2 * cv n 1)) = some (.bl true) := by rw [eqD_i]; simp
  have n5 : eqD (.lst true []) (.lst true []) = some (.bl true) := rfl
  have n6 : neD (.lst true []) (.lst true []) = some (.bl false) := rfl
  have x1 : ∀ o, idxD (.lst o ([cv n 0, cv n 1, cv n 2, cv n 3].map .int)) (.int 2) = some (.int (cv n 2)) := fun _ => rfl
  have x2 : ∀ o, idxD (.lst o ([cv n 0, cv n 1, cv n 2, cv n 3].map .int)) (.int 3) = some (.int (cv n 3)) := fun _ => rfl
  have x3 : ∀ o, idxD (.lst o ([cv n 0, cv n 1, cv n 2, cv n 3].map .int)) (.int 1) = some (.int (cv n 1)) := fun _ => rfl
  have dn := dueNo
  have s0 : [cv n 0, cv n 1, cv n 2, cv n 3].map D.int = [.int (cv n 0), .int (cv n 1), .int (cv n 2), .int (cv n 3)] := rfl
  have s1 : [cv n 0, cv n 1].map D.int = [.int (cv n 0), .int (cv n 1)] := rfl
  unfold Tells Fn.call
  show (sSet 2 (lcR [3] (rng1 (aC (oR (rC (.int 4))) (aN))) (bN 3) tYesD (rF (callR fn_l_asked_2 [] (aC (oN 3) (aC (oN 0) (aN)))))) _ [some (.int n), some dueC, none, none, none]).tel = _
  refine set_tel lc ?_
  clear lc hfz a W0 W1 h3 el
  rw [s0] at lc2 sl n2 x1 x2 x3 ⊢
  rw [s1] at sl n1
  clear s0 s1
  generalize hS : lcR [4] (iO (oR (rN 2))) (bN 4) (tNotD (tO (oR (callR fn_l_whole [] (aC (oN 4) (aN)))))) (rN 4) = S at *
  generalize cv n 0 = C0 at *
  generalize 2 * cv n 1 = Z at *
  generalize cv n 1 = C1 at *
  generalize cv n 2 = C2 at *
  generalize cv n 3 = C3 at *
  generalize (3 : Int) ^ n = q at *
  generalize Law_k41.wordsOf (n + 1) = V at *
  generalize dueC = DU at *
  generalize hL : [D.int C0, D.int C1, D.int C2, D.int C3] = L at *
  generalize hL2 : [D.int C0, D.int C1] = L2 at *
  have ll : L.length ≤ 100000 := by rw [← hL]; simp
  have ll2 : L2.length ≤ 100000 := by rw [← hL2]; simp
  simp (config := { decide := false, maxSteps := 1000000 }) [tel_ret, goes_nxt, ap_nil, ap_brk, ap_retN, ap_bN, ap_bT2, ap_sSet, ap_sRet, ap_sExpr, ap_sIf, ap_sAug, ap_sSetL, ap_sSetD, ap_sAugL, ap_oR, ap_oN, ap_oF, ap_rN, ap_rC, ap_rF, ap_aN, ap_aC, ap_op1, ap_op2, ap_tO, ap_tV, ap_tNotD, ap_tAndD, ap_tOrD, ap_rAndV, ap_rOrV, ap_rNotV, ap_rIfE, ap_lstR, ap_tupR, ap_mApp, ap_mExt, ap_mPop, ap_callR, ap_enumI, ap_zipI2, ap_zipI3, ap_m1S, ap_iO, ap_sliceR, ap_pN, ap_pS, ap_stepR, ap_tYesD, ap_mPopAt, ap_mRev, ap_mClr, onR_ok, onR_bad, bind_bad, thn_nxt, thn_ret, thn_brk, thn_cnt, thn_bad, bind_ok', DW.R.map, gt, val_tmp, val_slot, addD_i, addD_s, addD_l, augD_i, augD_s, subD_i, negD_i, modD_i, fdivD_i, mulD_a, mulD_b, eqD_i, eqD_s, neD_i, neD_s, ltD_i, leD_i, gtD_i, geD_i, idxD_l, idxD_t, idxD_c, own_some, atI_0, atI_1, atI_2, no_int, no_str, no_bl, no_non, no_tup, no_lst, no_scr, no_ktp, noL_0, noL_s, frz_int, frz_str, frz_bl, frz_non, frz_tup, frz_lst, frz_scr, frz_ktp, frzL_0, frzL_s, src_l, src_t, src_s, src_k, it_l, it_t, it_s, it_k, len_l, len_t, len_s, len_c, int_i, int_b, find_s, tru_b, isi_int, isi_intb, isi_str, absD, min2D, max2D, minI, maxI, toTupD, callO_eq, finO_some, fin2_ret, fin2_nxt, take_nil, take_tmp, take_slot, takeS_some, map_some', okO_nil, okO_none, okO_some, back_nil, back_none, back_some, backS_some, mkSeq_eq, mkS_some, tmps_0, tmps_s, env0, zip2D, wipe_0, wipe_s, ap_callB, callOB_eq, finB_some, finB2_ret, finB2_nxt, vals_0, vals_s, valS_some, scal_int, scal_bl, scal_str, scal_non, ap_selO, ap_aApp, callW_eq, finW_some, finX_eq, ap_callWR, ap_makeWR, makeW_eq, finM_some, finMX_eq, fin3_nxt, fin3_exc, fin2_exc, fin4_some, ap_methR, ap_ownR, ownS_ok, ownS2_some, strP_s, fldD_i, fldD_x, ap_sFld, insD_i, insC_i, isx_int, isx_intb, isx_str, isx_lst, isx_tup, isx_tupl, isx_lstt, ap_sAsgT, bU_t, bU_l, bTs_0, bTs_s, rz0_ap, rz1_ap, thn_exc, bind_exc, onR_exc, lp_exc, ordA, lp_nxt, lp_cnt, lp_brk, lp_ret, hS, lc2, n5, n6, sl, i0, i1, t3, m1, m2, m3, m4, c0, c1, c2, c3, n1, n2, n3, n4, x1, x2, x3, dn, hL, hL2, ll, ll2, -neD_i, -eqD_i]
theorem oddAll (c : Int) : ∃ d, OddC d ∧ frz d = d ∧ Tells fn_l_no_count [.int c] d := by
  obtain ⟨g, hg, hl⟩ : ∃ g : Int, c / 9 % 1000000000000000000000000000000000000000000000000000000000000 = g ∧ 0 ≤ g := ⟨_, rfl, Int.emod_nonneg _ (by decide)⟩
  have p60 : powD (.int 10) (.int 60) = some (.int 1000000000000000000000000000000000000000000000000000000000000) := by
    show (if powB 10 60 = true then some (D.int ((10 : Int) ^ Int.toNat 60)) else none) = _
    rw [if_pos (by decide +kernel)]
    congr 1
  have md : ∀ z : Int, modD (.int z) (.int 1000000000000000000000000000000000000000000000000000000000000) = some (.int (z % 1000000000000000000000000000000000000000000000000000000000000)) := fun z => modD_i (by decide)
  have r0 := Int.emod_nonneg c (b := 9) (by decide)
  have r1 := Int.emod_lt_of_pos c (b := 9) (by decide)
  have key : ∀ (k : Nat) (d : D), c % 9 = (k : Int) → ownless (atI [D.int (-1 - g), D.int (61 + g), D.bl true, D.non, D.str "7", D.lst false [D.int 7], D.tup [D.int 7], D.int 61, D.bl false] (k : Int)) = some d → Tells fn_l_no_count [.int c] d := fun k d e h => by
    unfold Tells Fn.call fn_l_no_count F_l_no_count
    have ix : ∀ o, idxD (.lst o [D.int (-1 - g), D.int (61 + g), D.bl true, D.non, D.str "7", D.lst false [D.int 7], D.tup [D.int 7], D.int 61, D.bl false]) (.int (k : Int)) = some d := fun _ => h
    have fd : fdivD (.int c) (.int 9) = some (.int (c / 9)) := fdivD_i (by decide) (by decide)
    simp (config := { decide := false, maxSteps := 1000000 }) [tel_ret, goes_nxt, ap_nil, ap_brk, ap_retN, ap_bN, ap_bT2, ap_sSet, ap_sRet, ap_sExpr, ap_sIf, ap_sAug, ap_sSetL, ap_sSetD, ap_sAugL, ap_oR, ap_oN, ap_oF, ap_rN, ap_rC, ap_rF, ap_aN, ap_aC, ap_op1, ap_op2, ap_tO, ap_tV, ap_tNotD, ap_tAndD, ap_tOrD, ap_rAndV, ap_rOrV, ap_rNotV, ap_rIfE, ap_lstR, ap_tupR, ap_mApp, ap_mExt, ap_mPop, ap_callR, ap_enumI, ap_zipI2, ap_zipI3, ap_m1S, ap_iO, ap_sliceR, ap_pN, ap_pS, ap_stepR, ap_tYesD, ap_mPopAt, ap_mRev, ap_mClr, onR_ok, onR_bad, bind_bad, thn_nxt, thn_ret, thn_brk, thn_cnt, thn_bad, bind_ok', DW.R.map, gt, val_tmp, val_slot, addD_i, addD_s, addD_l, augD_i, augD_s, subD_i, negD_i, modD_i, fdivD_i, mulD_a, mulD_b, eqD_i, eqD_s, neD_i, neD_s, ltD_i, leD_i, gtD_i, geD_i, idxD_l, idxD_t, idxD_c, own_some, atI_0, atI_1, atI_2, no_int, no_str, no_bl, no_non, no_tup, no_lst, no_scr, no_ktp, noL_0, noL_s, frz_int, frz_str, frz_bl, frz_non, frz_tup, frz_lst, frz_scr, frz_ktp, frzL_0, frzL_s, src_l, src_t, src_s, src_k, it_l, it_t, it_s, it_k, len_l, len_t, len_s, len_c, int_i, int_b, find_s, tru_b, isi_int, isi_intb, isi_str, absD, min2D, max2D, minI, maxI, toTupD, callO_eq, finO_some, fin2_ret, fin2_nxt, take_nil, take_tmp, take_slot, takeS_some, map_some', okO_nil, okO_none, okO_some, back_nil, back_none, back_some, backS_some, mkSeq_eq, mkS_some, tmps_0, tmps_s, env0, zip2D, wipe_0, wipe_s, ap_callB, callOB_eq, finB_some, finB2_ret, finB2_nxt, vals_0, vals_s, valS_some, scal_int, scal_bl, scal_str, scal_non, ap_selO, ap_aApp, callW_eq, finW_some, finX_eq, ap_callWR, ap_makeWR, makeW_eq, finM_some, finMX_eq, fin3_nxt, fin3_exc, fin2_exc, fin4_some, ap_methR, ap_ownR, ownS_ok, ownS2_some, strP_s, fldD_i, fldD_x, ap_sFld, insD_i, insC_i, isx_int, isx_intb, isx_str, isx_lst, isx_tup, isx_tupl, isx_lstt, ap_sAsgT, bU_t, bU_l, bTs_0, bTs_s, rz0_ap, rz1_ap, thn_exc, bind_exc, onR_exc, lp_exc, ordA, lp_nxt, lp_cnt, lp_brk, lp_ret, p60, md, fd, hg, e, ix]
  have : c % 9 = 0 ∨ c % 9 = 1 ∨ c % 9 = 2 ∨ c % 9 = 3 ∨ c % 9 = 4 ∨ c % 9 = 5 ∨ c % 9 = 6 ∨ c % 9 = 7 ∨ c % 9 = 8 := by omega
  rcases this with h | h | h | h | h | h | h | h | h
  · exact ⟨_, odd_i (.inl (by omega)), rfl, key 0 _ h rfl⟩
  · exact ⟨_, odd_i (.inr (by omega)), rfl, key 1 _ h rfl⟩
  · exact ⟨_, odd_b true, rfl, key 2 _ h rfl⟩
  · exact ⟨_, odd_of rfl rfl rfl, rfl, key 3 .non h rfl⟩
  · exact ⟨_, odd_of rfl rfl rfl, rfl, key 4 (.str "7") h rfl⟩
  · exact ⟨_, odd_of rfl rfl rfl, rfl, key 5 (.lst false [.int 7]) h rfl⟩
  · exact ⟨_, odd_of rfl rfl rfl, rfl, key 6 (.tup [.int 7]) h rfl⟩
  · exact ⟨_, odd_i (.inr (by decide)), rfl, key 7 (.int 61) h rfl⟩
  · exact ⟨_, odd_b false, rfl, key 8 _ h rfl⟩
end FN
/-! Y5: the law k40. -/
namespace FN
open PySem L2 Evl QW DW
theorem S_nocount : fn_l_no_count.S = [0] := Eq.trans rfl rfl
noncomputable def askR : DW.Env → R D := lcR [6] (rng1 (aC (oR (rC (.int 4))) (aN))) (bN 6) (tYesD) (rF (callR fn_l_asked_2 [] (aC (oN 6) (aC (oN 5) (aN)))))
theorem ask_ok {d : D} (h : OddC d) {x0 x1 x2 x3 x4 : Option D} : askR [x0, x1, x2, x3, x4, some d, none] = .ok (.lst true (List.replicate 4 (.str "NoCount"))) [x0, x1, x2, x3, x4, some d, none] := by
  refine (lc_map (E1 := [x0, x1, x2, x3, x4, some d, none]) (E2 := [x0, x1, x2, x3, x4, some d, none]) (ds := rangeL 0 4) (fun _ => .str "NoCount") (rng1_n (E := [x0, x1, x2, x3, x4, some d, none]) (o := .tmp (.int ((4 : Nat) : Int))) (n := 4) (by simp (config := { decide := false, maxSteps := 1000000 }) [tel_ret, goes_nxt, ap_nil, ap_brk, ap_retN, ap_bN, ap_bT2, ap_sSet, ap_sRet, ap_sExpr, ap_sIf, ap_sAug, ap_sSetL, ap_sSetD, ap_sAugL, ap_oR, ap_oN, ap_oF, ap_rN, ap_rC, ap_rF, ap_aN, ap_aC, ap_op1, ap_op2, ap_tO, ap_tV, ap_tNotD, ap_tAndD, ap_tOrD, ap_rAndV, ap_rOrV, ap_rNotV, ap_rIfE, ap_lstR, ap_tupR, ap_mApp, ap_mExt, ap_mPop, ap_callR, ap_enumI, ap_zipI2, ap_zipI3, ap_m1S, ap_iO, ap_sliceR, ap_pN, ap_pS, ap_stepR, ap_tYesD, ap_mPopAt, ap_mRev, ap_mClr, onR_ok, onR_bad, bind_bad, thn_nxt, thn_ret, thn_brk, thn_cnt, thn_bad, bind_ok', DW.R.map, gt, val_tmp, val_slot, addD_i, addD_s, addD_l, augD_i, augD_s, subD_i, negD_i, modD_i, fdivD_i, mulD_a, mulD_b, eqD_i, eqD_s, neD_i, neD_s, ltD_i, leD_i, gtD_i, geD_i, idxD_l, idxD_t, idxD_c, own_some, atI_0, atI_1, atI_2, no_int, no_str, no_bl, no_non, no_tup, no_lst, no_scr, no_ktp, noL_0, noL_s, frz_int, frz_str, frz_bl, frz_non, frz_tup, frz_lst, frz_scr, frz_ktp, frzL_0, frzL_s, src_l, src_t, src_s, src_k, it_l, it_t, it_s, it_k, len_l, len_t, len_s, len_c, int_i, int_b, find_s, tru_b, isi_int, isi_intb, isi_str, absD, min2D, max2D, minI, maxI, toTupD, callO_eq, finO_some, fin2_ret, fin2_nxt, take_nil, take_tmp, take_slot, takeS_some, map_some', okO_nil, okO_none, okO_some, back_nil, back_none, back_some, backS_some, mkSeq_eq, mkS_some, tmps_0, tmps_s, env0, zip2D, wipe_0, wipe_s, ap_callB, callOB_eq, finB_some, finB2_ret, finB2_nxt, vals_0, vals_s, valS_some, scal_int, scal_bl, scal_str, scal_non, ap_selO, ap_aApp, callW_eq, finW_some, finX_eq, ap_callWR, ap_makeWR, makeW_eq, finM_some, finMX_eq, fin3_nxt, fin3_exc, fin2_exc, fin4_some, ap_methR, ap_ownR, ownS_ok, ownS2_some, strP_s, fldD_i, fldD_x, ap_sFld, insD_i, insC_i, isx_int, isx_intb, isx_str, isx_lst, isx_tup, isx_tupl, isx_lstt, ap_sAsgT, bU_t, bU_l, bTs_0, bTs_s, rz0_ap, rz1_ap, thn_exc, bind_exc, onR_exc, lp_exc, ordA, lp_nxt, lp_cnt, lp_brk, lp_ret]) rfl (by decide)) rfl (fun e he => ?_) (by decide)).trans ?_
  · obtain ⟨j, hj, rfl⟩ := List.mem_map.mp he
    have hj := List.mem_range.mp hj
    have e := (odd_ask (w := j) h hj).eq
    have no := h.1
    rw [Int.zero_add]
    refine ⟨_, [x0, x1, x2, x3, x4, some d, some (.int (j : Int))], rfl, ?_, rfl⟩
    simp (config := { decide := false, maxSteps := 1000000 }) [tel_ret, goes_nxt, ap_nil, ap_brk, ap_retN, ap_bN, ap_bT2, ap_sSet, ap_sRet, ap_sExpr, ap_sIf, ap_sAug, ap_sSetL, ap_sSetD, ap_sAugL, ap_oR, ap_oN, ap_oF, ap_rN, ap_rC, ap_rF, ap_aN, ap_aC, ap_op1, ap_op2, ap_tO, ap_tV, ap_tNotD, ap_tAndD, ap_tOrD, ap_rAndV, ap_rOrV, ap_rNotV, ap_rIfE, ap_lstR, ap_tupR, ap_mApp, ap_mExt, ap_mPop, ap_callR, ap_enumI, ap_zipI2, ap_zipI3, ap_m1S, ap_iO, ap_sliceR, ap_pN, ap_pS, ap_stepR, ap_tYesD, ap_mPopAt, ap_mRev, ap_mClr, onR_ok, onR_bad, bind_bad, thn_nxt, thn_ret, thn_brk, thn_cnt, thn_bad, bind_ok', DW.R.map, gt, val_tmp, val_slot, addD_i, addD_s, addD_l, augD_i, augD_s, subD_i, negD_i, modD_i, fdivD_i, mulD_a, mulD_b, eqD_i, eqD_s, neD_i, neD_s, ltD_i, leD_i, gtD_i, geD_i, idxD_l, idxD_t, idxD_c, own_some, atI_0, atI_1, atI_2, no_int, no_str, no_bl, no_non, no_tup, no_lst, no_scr, no_ktp, noL_0, noL_s, frz_int, frz_str, frz_bl, frz_non, frz_tup, frz_lst, frz_scr, frz_ktp, frzL_0, frzL_s, src_l, src_t, src_s, src_k, it_l, it_t, it_s, it_k, len_l, len_t, len_s, len_c, int_i, int_b, find_s, tru_b, isi_int, isi_intb, isi_str, absD, min2D, max2D, minI, maxI, toTupD, callO_eq, finO_some, fin2_ret, fin2_nxt, take_nil, take_tmp, take_slot, takeS_some, map_some', okO_nil, okO_none, okO_some, back_nil, back_none, back_some, backS_some, mkSeq_eq, mkS_some, tmps_0, tmps_s, env0, zip2D, wipe_0, wipe_s, ap_callB, callOB_eq, finB_some, finB2_ret, finB2_nxt, vals_0, vals_s, valS_some, scal_int, scal_bl, scal_str, scal_non, ap_selO, ap_aApp, callW_eq, finW_some, finX_eq, ap_callWR, ap_makeWR, makeW_eq, finM_some, finMX_eq, fin3_nxt, fin3_exc, fin2_exc, fin4_some, ap_methR, ap_ownR, ownS_ok, ownS2_some, strP_s, fldD_i, fldD_x, ap_sFld, insD_i, insC_i, isx_int, isx_intb, isx_str, isx_lst, isx_tup, isx_tupl, isx_lstt, ap_sAsgT, bU_t, bU_l, bTs_0, bTs_s, rz0_ap, rz1_ap, thn_exc, bind_exc, onR_exc, lp_exc, ordA, lp_nxt, lp_cnt, lp_brk, lp_ret, e, no]
  · rfl
theorem no4 : neD (.lst true (List.replicate 4 (.str "NoCount"))) (.lst true (List.replicate 4 (.str "NoCount"))) = some (.bl false) := by
  have h1 : dd 8 (.lst true (List.replicate 4 (.str "NoCount"))) = true := by decide +kernel
  have h2 : eqBL (List.replicate 4 (.str "NoCount")) (List.replicate 4 (.str "NoCount")) = true := by decide +kernel
  show (if (dd 8 (D.lst true (List.replicate 4 (.str "NoCount"))) && dd 8 (D.lst true (List.replicate 4 (.str "NoCount")))) = true then some (D.bl (!eqBL (List.replicate 4 (.str "NoCount")) (List.replicate 4 (.str "NoCount")))) else none) = _
  rw [h1, h2]
  rfl
theorem mul4 : mulD (.lst true [.str "NoCount"]) (.int 4) = some (.lst true (List.replicate 4 (.str "NoCount"))) := rfl
noncomputable def oddB : DW.Env → Out := sIf (tV (op2 neD (oR askR) (oR (op2 mulD (oR (lstR (aC (oR (rC (.str "NoCount"))) (aN)))) (oR (rC (.int 4))))))) (sRet (rC (.bl false))) (sNil) <| sNil
theorem oddB_ok {d : D} (h : OddC d) {x0 x1 x2 x3 x4 : Option D} : oddB [x0, x1, x2, x3, x4, some d, none] = .nxt [x0, x1, x2, x3, x4, some d, none] := by
  have e := ask_ok h (x0 := x0) (x1 := x1) (x2 := x2) (x3 := x3) (x4 := x4)
  have m := mul4
  have n := no4
  unfold oddB
  generalize List.replicate 4 (D.str "NoCount") = L at *
  simp (config := { decide := false, maxSteps := 1000000 }) [tel_ret, goes_nxt, ap_nil, ap_brk, ap_retN, ap_bN, ap_bT2, ap_sSet, ap_sRet, ap_sExpr, ap_sIf, ap_sAug, ap_sSetL, ap_sSetD, ap_sAugL, ap_oR, ap_oN, ap_oF, ap_rN, ap_rC, ap_rF, ap_aN, ap_aC, ap_op1, ap_op2, ap_tO, ap_tV, ap_tNotD, ap_tAndD, ap_tOrD, ap_rAndV, ap_rOrV, ap_rNotV, ap_rIfE, ap_lstR, ap_tupR, ap_mApp, ap_mExt, ap_mPop, ap_callR, ap_enumI, ap_zipI2, ap_zipI3, ap_m1S, ap_iO, ap_sliceR, ap_pN, ap_pS, ap_stepR, ap_tYesD, ap_mPopAt, ap_mRev, ap_mClr, onR_ok, onR_bad, bind_bad, thn_nxt, thn_ret, thn_brk, thn_cnt, thn_bad, bind_ok', DW.R.map, gt, val_tmp, val_slot, addD_i, addD_s, addD_l, augD_i, augD_s, subD_i, negD_i, modD_i, fdivD_i, mulD_a, mulD_b, eqD_i, eqD_s, neD_i, neD_s, ltD_i, leD_i, gtD_i, geD_i, idxD_l, idxD_t, idxD_c, own_some, atI_0, atI_1, atI_2, no_int, no_str, no_bl, no_non, no_tup, no_lst, no_scr, no_ktp, noL_0, noL_s, frz_int, frz_str, frz_bl, frz_non, frz_tup, frz_lst, frz_scr, frz_ktp, frzL_0, frzL_s, src_l, src_t, src_s, src_k, it_l, it_t, it_s, it_k, len_l, len_t, len_s, len_c, int_i, int_b, find_s, tru_b, isi_int, isi_intb, isi_str, absD, min2D, max2D, minI, maxI, toTupD, callO_eq, finO_some, fin2_ret, fin2_nxt, take_nil, take_tmp, take_slot, takeS_some, map_some', okO_nil, okO_none, okO_some, back_nil, back_none, back_some, backS_some, mkSeq_eq, mkS_some, tmps_0, tmps_s, env0, zip2D, wipe_0, wipe_s, ap_callB, callOB_eq, finB_some, finB2_ret, finB2_nxt, vals_0, vals_s, valS_some, scal_int, scal_bl, scal_str, scal_non, ap_selO, ap_aApp, callW_eq, finW_some, finX_eq, ap_callWR, ap_makeWR, makeW_eq, finM_some, finMX_eq, fin3_nxt, fin3_exc, fin2_exc, fin4_some, ap_methR, ap_ownR, ownS_ok, ownS2_some, strP_s, fldD_i, fldD_x, ap_sFld, insD_i, insC_i, isx_int, isx_intb, isx_str, isx_lst, isx_tup, isx_tupl, isx_lstt, ap_sAsgT, bU_t, bU_l, bTs_0, bTs_s, rz0_ap, rz1_ap, thn_exc, bind_exc, onR_exc, lp_exc, ordA, lp_nxt, lp_cnt, lp_brk, lp_ret, e, m, n]
theorem law40_eq : F_law_13 = sSet 1 (callR fn_l_sums [] (aC (oR (rC (.int 61))) (aN))) (sSet 2 (op2 modD (oR (callR fn_l_at [] (aC (oN 0) (aC (oR (rC (.int 0))) (aN))))) (oR (rC (.int 61)))) (sFor (rng1 (aC (oR (rC (.int 61))) (aN))) (bN 3) (sIf (tNotD (tO (oR (callR fn_l_right_6 [] (aC (oR (op2 modD (oR (op2 addD (oN 2) (oR (op2 mulD (oR (rC (.int 7))) (oN 3))))) (oR (rC (.int 61))))) (aC (oN 1) (aN))))))) (sRet (rC (.bl false))) (sNil) <| sNil)
  (sFor (iO (oR (op2 addD (oR (sliceR (oN 0) (pN) (pS (oR (rC (.int 12)))))) (oR (lstR (aC (oR (rC (.int 4))) (aN))))))) (bN 4) (sSet 5 (callR fn_l_no_count [] (aC (oN 4) (aN))) <| sFor (rng1 (aC (oR (rC (.int 2))) (aN))) (bN 3) oddB <| sNil)
  (sRet (rAndV (callR fn_l_right_6 [] (aC (oN 2) (aC (oN 1) (aN)))) (callR fn_l_right_6 [] (aC (oR (rC (.int 60))) (aC (oN 1) (aN)))))))))  := rfl
theorem r_law (ns : List Int) : Tells fn_law_13 [.scr ns] (.bl true) := by
  obtain ⟨c, hc⟩ := r_at0 ns
  have h0 := r_sums.eq
  have hc := hc.eq
  have f0 := Int.emod_nonneg c (b := 61) (by decide)
  have f1 := Int.emod_lt_of_pos c (b := 61) (by decide)
  obtain ⟨f, hf⟩ := Int.eq_ofNat_of_zero_le f0
  have md : modD (.int c) (.int 61) = some (.int (f : Int)) := by rw [modD_i (by decide), hf]
  have dn := dueNo
  have h0 : fn_l_sums.call [.int 61] = .ret dueC _ := h0
  unfold Tells Fn.call fn_law_13
  dsimp only
  rw [law40_eq]
  refine set_tel (E1 := [some (.scr ns), none, none, none, none, none, none]) (d := dueC) (by simp (config := { decide := false, maxSteps := 1000000 }) [tel_ret, goes_nxt, ap_nil, ap_brk, ap_retN, ap_bN, ap_bT2, ap_sSet, ap_sRet, ap_sExpr, ap_sIf, ap_sAug, ap_sSetL, ap_sSetD, ap_sAugL, ap_oR, ap_oN, ap_oF, ap_rN, ap_rC, ap_rF, ap_aN, ap_aC, ap_op1, ap_op2, ap_tO, ap_tV, ap_tNotD, ap_tAndD, ap_tOrD, ap_rAndV, ap_rOrV, ap_rNotV, ap_rIfE, ap_lstR, ap_tupR, ap_mApp, ap_mExt, ap_mPop, ap_callR, ap_enumI, ap_zipI2, ap_zipI3, ap_m1S, ap_iO, ap_sliceR, ap_pN, ap_pS, ap_stepR, ap_tYesD, ap_mPopAt, ap_mRev, ap_mClr, onR_ok, onR_bad, bind_bad, thn_nxt, thn_ret, thn_brk, thn_cnt, thn_bad, bind_ok', DW.R.map, gt, val_tmp, val_slot, addD_i, addD_s, addD_l, augD_i, augD_s, subD_i, negD_i, modD_i, fdivD_i, mulD_a, mulD_b, eqD_i, eqD_s, neD_i, neD_s, ltD_i, leD_i, gtD_i, geD_i, idxD_l, idxD_t, idxD_c, own_some, atI_0, atI_1, atI_2, no_int, no_str, no_bl, no_non, no_tup, no_lst, no_scr, no_ktp, noL_0, noL_s, frz_int, frz_str, frz_bl, frz_non, frz_tup, frz_lst, frz_scr, frz_ktp, frzL_0, frzL_s, src_l, src_t, src_s, src_k, it_l, it_t, it_s, it_k, len_l, len_t, len_s, len_c, int_i, int_b, find_s, tru_b, isi_int, isi_intb, isi_str, absD, min2D, max2D, minI, maxI, toTupD, callO_eq, finO_some, fin2_ret, fin2_nxt, take_nil, take_tmp, take_slot, takeS_some, map_some', okO_nil, okO_none, okO_some, back_nil, back_none, back_some, backS_some, mkSeq_eq, mkS_some, tmps_0, tmps_s, env0, zip2D, wipe_0, wipe_s, ap_callB, callOB_eq, finB_some, finB2_ret, finB2_nxt, vals_0, vals_s, valS_some, scal_int, scal_bl, scal_str, scal_non, ap_selO, ap_aApp, callW_eq, finW_some, finX_eq, ap_callWR, ap_makeWR, makeW_eq, finM_some, finMX_eq, fin3_nxt, fin3_exc, fin2_exc, fin4_some, ap_methR, ap_ownR, ownS_ok, ownS2_some, strP_s, fldD_i, fldD_x, ap_sFld, insD_i, insC_i, isx_int, isx_intb, isx_str, isx_lst, isx_tup, isx_tupl, isx_lstt, ap_sAsgT, bU_t, bU_l, bTs_0, bTs_s, rz0_ap, rz1_ap, thn_exc, bind_exc, onR_exc, lp_exc, ordA, lp_nxt, lp_cnt, lp_brk, lp_ret, h0]) ?_
  refine set_tel (E1 := [some (.scr ns), some dueC, none, none, none, none, none]) (d := .int f) (by generalize dueC = DU at *; simp (config := { decide := false, maxSteps := 1000000 }) [tel_ret, goes_nxt, ap_nil, ap_brk, ap_retN, ap_bN, ap_bT2, ap_sSet, ap_sRet, ap_sExpr, ap_sIf, ap_sAug, ap_sSetL, ap_sSetD, ap_sAugL, ap_oR, ap_oN, ap_oF, ap_rN, ap_rC, ap_rF, ap_aN, ap_aC, ap_op1, ap_op2, ap_tO, ap_tV, ap_tNotD, ap_tAndD, ap_tOrD, ap_rAndV, ap_rOrV, ap_rNotV, ap_rIfE, ap_lstR, ap_tupR, ap_mApp, ap_mExt, ap_mPop, ap_callR, ap_enumI, ap_zipI2, ap_zipI3, ap_m1S, ap_iO, ap_sliceR, ap_pN, ap_pS, ap_stepR, ap_tYesD, ap_mPopAt, ap_mRev, ap_mClr, onR_ok, onR_bad, bind_bad, thn_nxt, thn_ret, thn_brk, thn_cnt, thn_bad, bind_ok', DW.R.map, gt, val_tmp, val_slot, addD_i, addD_s, addD_l, augD_i, augD_s, subD_i, negD_i, modD_i, fdivD_i, mulD_a, mulD_b, eqD_i, eqD_s, neD_i, neD_s, ltD_i, leD_i, gtD_i, geD_i, idxD_l, idxD_t, idxD_c, own_some, atI_0, atI_1, atI_2, no_int, no_str, no_bl, no_non, no_tup, no_lst, no_scr, no_ktp, noL_0, noL_s, frz_int, frz_str, frz_bl, frz_non, frz_tup, frz_lst, frz_scr, frz_ktp, frzL_0, frzL_s, src_l, src_t, src_s, src_k, it_l, it_t, it_s, it_k, len_l, len_t, len_s, len_c, int_i, int_b, find_s, tru_b, isi_int, isi_intb, isi_str, absD, min2D, max2D, minI, maxI, toTupD, callO_eq, finO_some, fin2_ret, fin2_nxt, take_nil, take_tmp, take_slot, takeS_some, map_some', okO_nil, okO_none, okO_some, back_nil, back_none, back_some, backS_some, mkSeq_eq, mkS_some, tmps_0, tmps_s, env0, zip2D, wipe_0, wipe_s, ap_callB, callOB_eq, finB_some, finB2_ret, finB2_nxt, vals_0, vals_s, valS_some, scal_int, scal_bl, scal_str, scal_non, ap_selO, ap_aApp, callW_eq, finW_some, finX_eq, ap_callWR, ap_makeWR, makeW_eq, finM_some, finMX_eq, fin3_nxt, fin3_exc, fin2_exc, fin4_some, ap_methR, ap_ownR, ownS_ok, ownS2_some, strP_s, fldD_i, fldD_x, ap_sFld, insD_i, insC_i, isx_int, isx_intb, isx_str, isx_lst, isx_tup, isx_tupl, isx_lstt, ap_sAsgT, bU_t, bU_l, bTs_0, bTs_s, rz0_ap, rz1_ap, thn_exc, bind_exc, onR_exc, lp_exc, ordA, lp_nxt, lp_cnt, lp_brk, lp_ret, hc, md]) ?_
  refine for_tel (E1 := [some (.scr ns), some dueC, some (.int f), none, none, none, none]) (ds := rangeL 0 61) (rng1_n (E := [some (.scr ns), some dueC, some (.int f), none, none, none, none]) (o := .tmp (.int ((61 : Nat) : Int))) (n := 61) (by generalize dueC = DU; simp (config := { decide := false, maxSteps := 1000000 }) [tel_ret, goes_nxt, ap_nil, ap_brk, ap_retN, ap_bN, ap_bT2, ap_sSet, ap_sRet, ap_sExpr, ap_sIf, ap_sAug, ap_sSetL, ap_sSetD, ap_sAugL, ap_oR, ap_oN, ap_oF, ap_rN, ap_rC, ap_rF, ap_aN, ap_aC, ap_op1, ap_op2, ap_tO, ap_tV, ap_tNotD, ap_tAndD, ap_tOrD, ap_rAndV, ap_rOrV, ap_rNotV, ap_rIfE, ap_lstR, ap_tupR, ap_mApp, ap_mExt, ap_mPop, ap_callR, ap_enumI, ap_zipI2, ap_zipI3, ap_m1S, ap_iO, ap_sliceR, ap_pN, ap_pS, ap_stepR, ap_tYesD, ap_mPopAt, ap_mRev, ap_mClr, onR_ok, onR_bad, bind_bad, thn_nxt, thn_ret, thn_brk, thn_cnt, thn_bad, bind_ok', DW.R.map, gt, val_tmp, val_slot, addD_i, addD_s, addD_l, augD_i, augD_s, subD_i, negD_i, modD_i, fdivD_i, mulD_a, mulD_b, eqD_i, eqD_s, neD_i, neD_s, ltD_i, leD_i, gtD_i, geD_i, idxD_l, idxD_t, idxD_c, own_some, atI_0, atI_1, atI_2, no_int, no_str, no_bl, no_non, no_tup, no_lst, no_scr, no_ktp, noL_0, noL_s, frz_int, frz_str, frz_bl, frz_non, frz_tup, frz_lst, frz_scr, frz_ktp, frzL_0, frzL_s, src_l, src_t, src_s, src_k, it_l, it_t, it_s, it_k, len_l, len_t, len_s, len_c, int_i, int_b, find_s, tru_b, isi_int, isi_intb, isi_str, absD, min2D, max2D, minI, maxI, toTupD, callO_eq, finO_some, fin2_ret, fin2_nxt, take_nil, take_tmp, take_slot, takeS_some, map_some', okO_nil, okO_none, okO_some, back_nil, back_none, back_some, backS_some, mkSeq_eq, mkS_some, tmps_0, tmps_s, env0, zip2D, wipe_0, wipe_s, ap_callB, callOB_eq, finB_some, finB2_ret, finB2_nxt, vals_0, vals_s, valS_some, scal_int, scal_bl, scal_str, scal_non, ap_selO, ap_aApp, callW_eq, finW_some, finX_eq, ap_callWR, ap_makeWR, makeW_eq, finM_some, finMX_eq, fin3_nxt, fin3_exc, fin2_exc, fin4_some, ap_methR, ap_ownR, ownS_ok, ownS2_some, strP_s, fldD_i, fldD_x, ap_sFld, insD_i, insC_i, isx_int, isx_intb, isx_str, isx_lst, isx_tup, isx_tupl, isx_lstt, ap_sAsgT, bU_t, bU_l, bTs_0, bTs_s, rz0_ap, rz1_ap, thn_exc, bind_exc, onR_exc, lp_exc, ordA, lp_nxt, lp_cnt, lp_brk, lp_ret]) rfl (by decide)) (fun i E => ∃ a, E = [some (.scr ns), some dueC, some (.int f), a, none, none, none]) ⟨none, rfl⟩ (fun i d E hd hi => ?_) (fun E' h => ?_)
  · obtain ⟨a, rfl⟩ := hi
    obtain ⟨hi, rfl⟩ := rangeL_at hd
    refine ⟨_, rfl, ?_⟩
    obtain ⟨J, hJ, hJ2⟩ : ∃ J : Nat, (f + 7 * i) % 61 = J ∧ J ≤ 60 := ⟨_, rfl, by omega⟩
    obtain ⟨I0, hI⟩ : ∃ I0 : Int, (0 : Int) + (i : Int) = I0 := ⟨_, rfl⟩
    have m3 : ((f : Int) + 7 * I0) % 61 = (J : Int) := by omega
    have e := (r_right6 hJ2).eq
    have m2 : modD (.int ((f : Int) + 7 * I0)) (.int 61) = some (.int (J : Int)) := by rw [modD_i (by decide), m3]
    have m1 : mulD (.int 7) (.int I0) = some (.int (7 * I0)) := mulD_a (by decide) (by decide)
    rw [hI]
    clear hJ hJ2 hI m3 hd hi
    refine nx_eq (E := [some (.scr ns), some dueC, some (.int f), some (.int I0), none, none, none]) ?_ ⟨_, rfl⟩
    generalize (J : Int) = Jv at *
    generalize dueC = DU at *
    simp (config := { decide := false, maxSteps := 1000000 }) [tel_ret, goes_nxt, ap_nil, ap_brk, ap_retN, ap_bN, ap_bT2, ap_sSet, ap_sRet, ap_sExpr, ap_sIf, ap_sAug, ap_sSetL, ap_sSetD, ap_sAugL, ap_oR, ap_oN, ap_oF, ap_rN, ap_rC, ap_rF, ap_aN, ap_aC, ap_op1, ap_op2, ap_tO, ap_tV, ap_tNotD, ap_tAndD, ap_tOrD, ap_rAndV, ap_rOrV, ap_rNotV, ap_rIfE, ap_lstR, ap_tupR, ap_mApp, ap_mExt, ap_mPop, ap_callR, ap_enumI, ap_zipI2, ap_zipI3, ap_m1S, ap_iO, ap_sliceR, ap_pN, ap_pS, ap_stepR, ap_tYesD, ap_mPopAt, ap_mRev, ap_mClr, onR_ok, onR_bad, bind_bad, thn_nxt, thn_ret, thn_brk, thn_cnt, thn_bad, bind_ok', DW.R.map, gt, val_tmp, val_slot, addD_i, addD_s, addD_l, augD_i, augD_s, subD_i, negD_i, modD_i, fdivD_i, mulD_a, mulD_b, eqD_i, eqD_s, neD_i, neD_s, ltD_i, leD_i, gtD_i, geD_i, idxD_l, idxD_t, idxD_c, own_some, atI_0, atI_1, atI_2, no_int, no_str, no_bl, no_non, no_tup, no_lst, no_scr, no_ktp, noL_0, noL_s, frz_int, frz_str, frz_bl, frz_non, frz_tup, frz_lst, frz_scr, frz_ktp, frzL_0, frzL_s, src_l, src_t, src_s, src_k, it_l, it_t, it_s, it_k, len_l, len_t, len_s, len_c, int_i, int_b, find_s, tru_b, isi_int, isi_intb, isi_str, absD, min2D, max2D, minI, maxI, toTupD, callO_eq, finO_some, fin2_ret, fin2_nxt, take_nil, take_tmp, take_slot, takeS_some, map_some', okO_nil, okO_none, okO_some, back_nil, back_none, back_some, backS_some, mkSeq_eq, mkS_some, tmps_0, tmps_s, env0, zip2D, wipe_0, wipe_s, ap_callB, callOB_eq, finB_some, finB2_ret, finB2_nxt, vals_0, vals_s, valS_some, scal_int, scal_bl, scal_str, scal_non, ap_selO, ap_aApp, callW_eq, finW_some, finX_eq, ap_callWR, ap_makeWR, makeW_eq, finM_some, finMX_eq, fin3_nxt, fin3_exc, fin2_exc, fin4_some, ap_methR, ap_ownR, ownS_ok, ownS2_some, strP_s, fldD_i, fldD_x, ap_sFld, insD_i, insC_i, isx_int, isx_intb, isx_str, isx_lst, isx_tup, isx_tupl, isx_lstt, ap_sAsgT, bU_t, bU_l, bTs_0, bTs_s, rz0_ap, rz1_ap, thn_exc, bind_exc, onR_exc, lp_exc, ordA, lp_nxt, lp_cnt, lp_brk, lp_ret, m1, m2, e, dn]
  · obtain ⟨a, rfl⟩ := h
    have hs : ∃ cs : List Int, iO (oR (op2 addD (oR (sliceR (oN 0) (pN) (pS (oR (rC (.int 12)))))) (oR (lstR (aC (oR (rC (.int 4))) (aN)))))) [some (.scr ns), some dueC, some (.int f), a, none, none, none] = .ok (cs.map .int) [some (.scr ns), some dueC, some (.int f), a, none, none, none] := by
      have s1 : sliceF (.scr ns) none (some 12) = some (.lst true ((cutD ns none (some 12)).map .int)) := rfl
      have cl : (cutD ns none (some 12)).length ≤ 12 := by
        unfold cutD
        rw [List.length_take]
        have : HT.sIx ns.length ns.length (some 12) ≤ 12 := by
          unfold HT.sIx
          simp
          omega
        omega
      generalize cutD ns none (some 12) = cs at *
      have a1 : addD (.lst true (cs.map .int)) (.lst true [.int 4]) = some (.lst true ((cs ++ [4]).map .int)) := (addD_l (intsNo _) rfl (by simp; omega)).trans (by simp)
      refine ⟨cs ++ [4], ?_⟩
      have fz : frzL ((cs ++ [4]).map D.int) = (cs ++ [4]).map D.int := frzL_no' (intsNo _)
      generalize dueC = DU at *
      generalize (cs ++ [4]).map D.int = L1 at *
      generalize cs.map D.int = L0 at *
      simp (config := { decide := false, maxSteps := 1000000 }) [tel_ret, goes_nxt, ap_nil, ap_brk, ap_retN, ap_bN, ap_bT2, ap_sSet, ap_sRet, ap_sExpr, ap_sIf, ap_sAug, ap_sSetL, ap_sSetD, ap_sAugL, ap_oR, ap_oN, ap_oF, ap_rN, ap_rC, ap_rF, ap_aN, ap_aC, ap_op1, ap_op2, ap_tO, ap_tV, ap_tNotD, ap_tAndD, ap_tOrD, ap_rAndV, ap_rOrV, ap_rNotV, ap_rIfE, ap_lstR, ap_tupR, ap_mApp, ap_mExt, ap_mPop, ap_callR, ap_enumI, ap_zipI2, ap_zipI3, ap_m1S, ap_iO, ap_sliceR, ap_pN, ap_pS, ap_stepR, ap_tYesD, ap_mPopAt, ap_mRev, ap_mClr, onR_ok, onR_bad, bind_bad, thn_nxt, thn_ret, thn_brk, thn_cnt, thn_bad, bind_ok', DW.R.map, gt, val_tmp, val_slot, addD_i, addD_s, addD_l, augD_i, augD_s, subD_i, negD_i, modD_i, fdivD_i, mulD_a, mulD_b, eqD_i, eqD_s, neD_i, neD_s, ltD_i, leD_i, gtD_i, geD_i, idxD_l, idxD_t, idxD_c, own_some, atI_0, atI_1, atI_2, no_int, no_str, no_bl, no_non, no_tup, no_lst, no_scr, no_ktp, noL_0, noL_s, frz_int, frz_str, frz_bl, frz_non, frz_tup, frz_lst, frz_scr, frz_ktp, frzL_0, frzL_s, src_l, src_t, src_s, src_k, it_l, it_t, it_s, it_k, len_l, len_t, len_s, len_c, int_i, int_b, find_s, tru_b, isi_int, isi_intb, isi_str, absD, min2D, max2D, minI, maxI, toTupD, callO_eq, finO_some, fin2_ret, fin2_nxt, take_nil, take_tmp, take_slot, takeS_some, map_some', okO_nil, okO_none, okO_some, back_nil, back_none, back_some, backS_some, mkSeq_eq, mkS_some, tmps_0, tmps_s, env0, zip2D, wipe_0, wipe_s, ap_callB, callOB_eq, finB_some, finB2_ret, finB2_nxt, vals_0, vals_s, valS_some, scal_int, scal_bl, scal_str, scal_non, ap_selO, ap_aApp, callW_eq, finW_some, finX_eq, ap_callWR, ap_makeWR, makeW_eq, finM_some, finMX_eq, fin3_nxt, fin3_exc, fin2_exc, fin4_some, ap_methR, ap_ownR, ownS_ok, ownS2_some, strP_s, fldD_i, fldD_x, ap_sFld, insD_i, insC_i, isx_int, isx_intb, isx_str, isx_lst, isx_tup, isx_tupl, isx_lstt, ap_sAsgT, bU_t, bU_l, bTs_0, bTs_s, rz0_ap, rz1_ap, thn_exc, bind_exc, onR_exc, lp_exc, ordA, lp_nxt, lp_cnt, lp_brk, lp_ret, ap_sliceR, ap_pN, ap_pS, s1, a1, fz]
    obtain ⟨cs, hs⟩ := hs
    refine for_tel hs (fun i E => ∃ a b c, E = [some (.scr ns), some dueC, some (.int f), a, b, c, none]) ⟨_, _, _, rfl⟩ (fun i d E hd hi => ?_) (fun E' h => ?_)
    · obtain ⟨a, b, c, rfl⟩ := hi
      rw [List.getElem?_map] at hd
      cases hq : cs[i]? with
      | none => rw [hq] at hd; cases hd
      | some z =>
        rw [hq] at hd
        obtain rfl := Option.some.inj hd
        refine ⟨_, rfl, ?_⟩
        obtain ⟨d, od, fz, nc⟩ := oddAll z
        have nc := nc.eq
        refine set_nx (d := d) (E1 := [some (.scr ns), some dueC, some (.int f), a, some (.int z), c, none]) (by generalize dueC = DU at *; simp (config := { decide := false, maxSteps := 1000000 }) [tel_ret, goes_nxt, ap_nil, ap_brk, ap_retN, ap_bN, ap_bT2, ap_sSet, ap_sRet, ap_sExpr, ap_sIf, ap_sAug, ap_sSetL, ap_sSetD, ap_sAugL, ap_oR, ap_oN, ap_oF, ap_rN, ap_rC, ap_rF, ap_aN, ap_aC, ap_op1, ap_op2, ap_tO, ap_tV, ap_tNotD, ap_tAndD, ap_tOrD, ap_rAndV, ap_rOrV, ap_rNotV, ap_rIfE, ap_lstR, ap_tupR, ap_mApp, ap_mExt, ap_mPop, ap_callR, ap_enumI, ap_zipI2, ap_zipI3, ap_m1S, ap_iO, ap_sliceR, ap_pN, ap_pS, ap_stepR, ap_tYesD, ap_mPopAt, ap_mRev, ap_mClr, onR_ok, onR_bad, bind_bad, thn_nxt, thn_ret, thn_brk, thn_cnt, thn_bad, bind_ok', DW.R.map, gt, val_tmp, val_slot, addD_i, addD_s, addD_l, augD_i, augD_s, subD_i, negD_i, modD_i, fdivD_i, mulD_a, mulD_b, eqD_i, eqD_s, neD_i, neD_s, ltD_i, leD_i, gtD_i, geD_i, idxD_l, idxD_t, idxD_c, own_some, atI_0, atI_1, atI_2, no_int, no_str, no_bl, no_non, no_tup, no_lst, no_scr, no_ktp, noL_0, noL_s, frz_int, frz_str, frz_bl, frz_non, frz_tup, frz_lst, frz_scr, frz_ktp, frzL_0, frzL_s, src_l, src_t, src_s, src_k, it_l, it_t, it_s, it_k, len_l, len_t, len_s, len_c, int_i, int_b, find_s, tru_b, isi_int, isi_intb, isi_str, absD, min2D, max2D, minI, maxI, toTupD, callO_eq, finO_some, fin2_ret, fin2_nxt, take_nil, take_tmp, take_slot, takeS_some, map_some', okO_nil, okO_none, okO_some, back_nil, back_none, back_some, backS_some, mkSeq_eq, mkS_some, tmps_0, tmps_s, env0, zip2D, wipe_0, wipe_s, ap_callB, callOB_eq, finB_some, finB2_ret, finB2_nxt, vals_0, vals_s, valS_some, scal_int, scal_bl, scal_str, scal_non, ap_selO, ap_aApp, callW_eq, finW_some, finX_eq, ap_callWR, ap_makeWR, makeW_eq, finM_some, finMX_eq, fin3_nxt, fin3_exc, fin2_exc, fin4_some, ap_methR, ap_ownR, ownS_ok, ownS2_some, strP_s, fldD_i, fldD_x, ap_sFld, insD_i, insC_i, isx_int, isx_intb, isx_str, isx_lst, isx_tup, isx_tupl, isx_lstt, ap_sAsgT, bU_t, bU_l, bTs_0, bTs_s, rz0_ap, rz1_ap, thn_exc, bind_exc, onR_exc, lp_exc, ordA, lp_nxt, lp_cnt, lp_brk, lp_ret, nc]) ?_
        refine for_nx (E1 := [some (.scr ns), some dueC, some (.int f), a, some (.int z), some d, none]) (ds := rangeL 0 2) (rng1_n (E := [some (.scr ns), some dueC, some (.int f), a, some (.int z), some d, none]) (o := .tmp (.int ((2 : Nat) : Int))) (n := 2) (by generalize dueC = DU; simp (config := { decide := false, maxSteps := 1000000 }) [tel_ret, goes_nxt, ap_nil, ap_brk, ap_retN, ap_bN, ap_bT2, ap_sSet, ap_sRet, ap_sExpr, ap_sIf, ap_sAug, ap_sSetL, ap_sSetD, ap_sAugL, ap_oR, ap_oN, ap_oF, ap_rN, ap_rC, ap_rF, ap_aN, ap_aC, ap_op1, ap_op2, ap_tO, ap_tV, ap_tNotD, ap_tAndD, ap_tOrD, ap_rAndV, ap_rOrV, ap_rNotV, ap_rIfE, ap_lstR, ap_tupR, ap_mApp, ap_mExt, ap_mPop, ap_callR, ap_enumI, ap_zipI2, ap_zipI3, ap_m1S, ap_iO, ap_sliceR, ap_pN, ap_pS, ap_stepR, ap_tYesD, ap_mPopAt, ap_mRev, ap_mClr, onR_ok, onR_bad, bind_bad, thn_nxt, thn_ret, thn_brk, thn_cnt, thn_bad, bind_ok', DW.R.map, gt, val_tmp, val_slot, addD_i, addD_s, addD_l, augD_i, augD_s, subD_i, negD_i, modD_i, fdivD_i, mulD_a, mulD_b, eqD_i, eqD_s, neD_i, neD_s, ltD_i, leD_i, gtD_i, geD_i, idxD_l, idxD_t, idxD_c, own_some, atI_0, atI_1, atI_2, no_int, no_str, no_bl, no_non, no_tup, no_lst, no_scr, no_ktp, noL_0, noL_s, frz_int, frz_str, frz_bl, frz_non, frz_tup, frz_lst, frz_scr, frz_ktp, frzL_0, frzL_s, src_l, src_t, src_s, src_k, it_l, it_t, it_s, it_k, len_l, len_t, len_s, len_c, int_i, int_b, find_s, tru_b, isi_int, isi_intb, isi_str, absD, min2D, max2D, minI, maxI, toTupD, callO_eq, finO_some, fin2_ret, fin2_nxt, take_nil, take_tmp, take_slot, takeS_some, map_some', okO_nil, okO_none, okO_some, back_nil, back_none, back_some, backS_some, mkSeq_eq, mkS_some, tmps_0, tmps_s, env0, zip2D, wipe_0, wipe_s, ap_callB, callOB_eq, finB_some, finB2_ret, finB2_nxt, vals_0, vals_s, valS_some, scal_int, scal_bl, scal_str, scal_non, ap_selO, ap_aApp, callW_eq, finW_some, finX_eq, ap_callWR, ap_makeWR, makeW_eq, finM_some, finMX_eq, fin3_nxt, fin3_exc, fin2_exc, fin4_some, ap_methR, ap_ownR, ownS_ok, ownS2_some, strP_s, fldD_i, fldD_x, ap_sFld, insD_i, insC_i, isx_int, isx_intb, isx_str, isx_lst, isx_tup, isx_tupl, isx_lstt, ap_sAsgT, bU_t, bU_l, bTs_0, bTs_s, rz0_ap, rz1_ap, thn_exc, bind_exc, onR_exc, lp_exc, ordA, lp_nxt, lp_cnt, lp_brk, lp_ret]) rfl (by decide)) (fun i E => ∃ a, E = [some (.scr ns), some dueC, some (.int f), a, some (.int z), some d, none]) ⟨a, rfl⟩ (fun i d' E hd hi => ?_) (fun E' h => ?_)
        · obtain ⟨a, rfl⟩ := hi
          obtain ⟨hi, rfl⟩ := rangeL_at hd
          exact ⟨_, rfl, nx_eq (oddB_ok od) ⟨_, rfl⟩⟩
        · obtain ⟨a, rfl⟩ := h
          exact nx_nxt ⟨_, _, _, rfl⟩
    · obtain ⟨a, b, c, rfl⟩ := h
      have e1 := (r_right6 (n := f) (by omega)).eq
      have e2 := (r_right6 (n := 60) (by omega)).eq
      have e2 : fn_l_right_6.call [.int 60, dueC] = .ret (.bl true) _ := e2
      generalize dueC = DU at *
      simp (config := { decide := false, maxSteps := 1000000 }) [tel_ret, goes_nxt, ap_nil, ap_brk, ap_retN, ap_bN, ap_bT2, ap_sSet, ap_sRet, ap_sExpr, ap_sIf, ap_sAug, ap_sSetL, ap_sSetD, ap_sAugL, ap_oR, ap_oN, ap_oF, ap_rN, ap_rC, ap_rF, ap_aN, ap_aC, ap_op1, ap_op2, ap_tO, ap_tV, ap_tNotD, ap_tAndD, ap_tOrD, ap_rAndV, ap_rOrV, ap_rNotV, ap_rIfE, ap_lstR, ap_tupR, ap_mApp, ap_mExt, ap_mPop, ap_callR, ap_enumI, ap_zipI2, ap_zipI3, ap_m1S, ap_iO, ap_sliceR, ap_pN, ap_pS, ap_stepR, ap_tYesD, ap_mPopAt, ap_mRev, ap_mClr, onR_ok, onR_bad, bind_bad, thn_nxt, thn_ret, thn_brk, thn_cnt, thn_bad, bind_ok', DW.R.map, gt, val_tmp, val_slot, addD_i, addD_s, addD_l, augD_i, augD_s, subD_i, negD_i, modD_i, fdivD_i, mulD_a, mulD_b, eqD_i, eqD_s, neD_i, neD_s, ltD_i, leD_i, gtD_i, geD_i, idxD_l, idxD_t, idxD_c, own_some, atI_0, atI_1, atI_2, no_int, no_str, no_bl, no_non, no_tup, no_lst, no_scr, no_ktp, noL_0, noL_s, frz_int, frz_str, frz_bl, frz_non, frz_tup, frz_lst, frz_scr, frz_ktp, frzL_0, frzL_s, src_l, src_t, src_s, src_k, it_l, it_t, it_s, it_k, len_l, len_t, len_s, len_c, int_i, int_b, find_s, tru_b, isi_int, isi_intb, isi_str, absD, min2D, max2D, minI, maxI, toTupD, callO_eq, finO_some, fin2_ret, fin2_nxt, take_nil, take_tmp, take_slot, takeS_some, map_some', okO_nil, okO_none, okO_some, back_nil, back_none, back_some, backS_some, mkSeq_eq, mkS_some, tmps_0, tmps_s, env0, zip2D, wipe_0, wipe_s, ap_callB, callOB_eq, finB_some, finB2_ret, finB2_nxt, vals_0, vals_s, valS_some, scal_int, scal_bl, scal_str, scal_non, ap_selO, ap_aApp, callW_eq, finW_some, finX_eq, ap_callWR, ap_makeWR, makeW_eq, finM_some, finMX_eq, fin3_nxt, fin3_exc, fin2_exc, fin4_some, ap_methR, ap_ownR, ownS_ok, ownS2_some, strP_s, fldD_i, fldD_x, ap_sFld, insD_i, insC_i, isx_int, isx_intb, isx_str, isx_lst, isx_tup, isx_tupl, isx_lstt, ap_sAsgT, bU_t, bU_l, bTs_0, bTs_s, rz0_ap, rz1_ap, thn_exc, bind_exc, onR_exc, lp_exc, ordA, lp_nxt, lp_cnt, lp_brk, lp_ret, e1, e2, dn]
end FN
namespace Law_k40
open PySem L2 Evl QW DW FN
def top (i : Nat) : Stmt := PySem.Challenge.pw_quadwoods_k40_counts_told.main.body.getD i (.Pass ⟨0, 0, 0, 0⟩)
def inClass (st : Stmt) (j : Nat) : Stmt := match st with
  | .ClassDef _ _ _ body _ _ _ _ _ _ _ => body.getD j (.Pass ⟨0, 0, 0, 0⟩)
  | _ => .Pass ⟨0, 0, 0, 0⟩
-- statements of methods and of exceptions' __init__
abbrev s_l_sums : Stmt := top 36
abbrev s_l_at : Stmt := top 33
abbrev s_l_no_count : Stmt := top 38
abbrev s_is_whole : Stmt := top 22
abbrev s_look_count : Stmt := top 25
abbrev s_words_of : Stmt := top 26
abbrev s_count_words : Stmt := top 28
abbrev s_l_class : Stmt := top 37
abbrev s_threes : Stmt := top 27
abbrev s_count_woods : Stmt := top 29
abbrev s_count_mixed : Stmt := top 31
abbrev s_count_maps : Stmt := top 30
abbrev s_l_asked : Stmt := top 39
abbrev s_l_whole : Stmt := top 34
abbrev s_l_threes : Stmt := top 35
abbrev s_l_right : Stmt := top 40
abbrev s_law : Stmt := top 41
/-- what the top leaves -/
structure Prog (w : World) (K : PySem.W.Frag) (mg : Str → Option Value) : Prop where
  b_ValueError : mg "ValueError" = none
  b_bool : mg "bool" = none
  b_int : mg "int" = none
  b_isinstance : mg "isinstance" = none
  b_len : mg "len" = none
  b_range : mg "range" = none
  b_sum : mg "sum" = none
  c_MOST_TIES : ∃ t, mg "MOST_TIES" = some (.int 60 t)
  f_l_sums : At K mg "_law_sums" s_l_sums []
  f_l_at : At K mg "_law_at" s_l_at []
  f_l_no_count : At K mg "_law_no_count" s_l_no_count []
  f_is_whole : At K mg "is_whole" s_is_whole []
  f_look_count : At K mg "look_count" s_look_count []
  f_words_of : At K mg "words_of" s_words_of []
  f_count_words : At K mg "count_words" s_count_words []
  f_l_class : At K mg "_law_class" s_l_class []
  f_threes : At K mg "threes" s_threes []
  f_count_woods : At K mg "count_woods" s_count_woods []
  f_count_mixed : At K mg "count_mixed" s_count_mixed []
  f_count_maps : At K mg "count_maps" s_count_maps []
  f_l_asked : At K mg "_law_asked" s_l_asked []
  f_l_whole : At K mg "_law_whole" s_l_whole []
  f_l_threes : At K mg "_law_threes" s_l_threes []
  f_l_right : At K mg "_law_right" s_l_right []
  f_law : At K mg "law" s_law []
  g_Bare : mg "Bare" = some (.ref (He.ga K "Bare"))
  g_Bridge : mg "Bridge" = some (.ref (He.ga K "Bridge"))
  g_Loop : mg "Loop" = some (.ref (He.ga K "Loop"))
  g_NoBall : mg "NoBall" = some (.ref (He.ga K "NoBall"))
  g_NoCount : mg "NoCount" = some (.ref (He.ga K "NoCount"))
  g_NoDeed : mg "NoDeed" = some (.ref (He.ga K "NoDeed"))
  g_NoEnd : mg "NoEnd" = some (.ref (He.ga K "NoEnd"))
  g_NoJumps : mg "NoJumps" = some (.ref (He.ga K "NoJumps"))
  g_NoMark : mg "NoMark" = some (.ref (He.ga K "NoMark"))
  g_NoName : mg "NoName" = some (.ref (He.ga K "NoName"))
  g_NoNumber : mg "NoNumber" = some (.ref (He.ga K "NoNumber"))
  g_NoText : mg "NoText" = some (.ref (He.ga K "NoText"))
  g_NoTie : mg "NoTie" = some (.ref (He.ga K "NoTie"))
  g_NoTurns : mg "NoTurns" = some (.ref (He.ga K "NoTurns"))
  g_NoWay : mg "NoWay" = some (.ref (He.ga K "NoWay"))
  g_NoWhole : mg "NoWhole" = some (.ref (He.ga K "NoWhole"))
  g_NoWord : mg "NoWord" = some (.ref (He.ga K "NoWord"))
  g_NotFour : mg "NotFour" = some (.ref (He.ga K "NotFour"))
  g_NotTree : mg "NotTree" = some (.ref (He.ga K "NotTree"))
  g_QuadError : mg "QuadError" = some (.ref (He.ga K "QuadError"))
  t_Bare : Tgt K "Bare"
  t_Bridge : Tgt K "Bridge"
  t_Loop : Tgt K "Loop"
  t_NoBall : Tgt K "NoBall"
  t_NoCount : Tgt K "NoCount"
  t_NoDeed : Tgt K "NoDeed"
  t_NoEnd : Tgt K "NoEnd"
  t_NoJumps : Tgt K "NoJumps"
  t_NoMark : Tgt K "NoMark"
  t_NoName : Tgt K "NoName"
  t_NoNumber : Tgt K "NoNumber"
  t_NoText : Tgt K "NoText"
  t_NoTie : Tgt K "NoTie"
  t_NoTurns : Tgt K "NoTurns"
  t_NoWay : Tgt K "NoWay"
  t_NoWhole : Tgt K "NoWhole"
  t_NoWord : Tgt K "NoWord"
  t_NotFour : Tgt K "NotFour"
  t_NotTree : Tgt K "NotTree"
  t_QuadError : Tgt K "QuadError"
  bd_QuadError : bndB K "QuadError" = true
  r_NoCount : Rz0 K "NoCount"
abbrev N_l_sums : List Str := ["_law_most", "_law_found", "_law_size", "_law_at_here"]
theorem sc_l_sums : FnScope N_l_sums ["_law_most"] (defScope s_l_sums) := ⟨rfl, rfl, rfl, by decide +kernel, rfl, by decide +kernel, by decide +kernel⟩
theorem dv_l_sums {X : Cx} {W : WX} (T : Prog X.w X.K X.mg) (b : Bd X N_l_sums (defScope s_l_sums) 0) (tk : Takes X W) : ExS X W [0] (defBody s_l_sums) F_l_sums := by
    have c : Cxt Prog X 0 := ⟨T, b.room, b.calm⟩
    have n0 : Own X 0 "_law_most" := b.own rfl (by unfold L2.Loc; decide +kernel)
    have n1 : Own X 1 "_law_found" := b.own rfl (by unfold L2.Loc; decide +kernel)
    have n2 : Own X 2 "_law_size" := b.own rfl (by unfold L2.Loc; decide +kernel)
    have g_range : Gl X "range" := b.gl (by decide +kernel)
    have g_sum : Gl X "sum" := b.gl (by decide +kernel)
    show ExS X W [0] (defBody s_l_sums) F_l_sums
    unfold F_l_sums
    exact (exs_set n1 (by decide) (evr_lst (eva_cons (EvR.o evr_int) eva_nil))
  (exs_for b (evi_range2 g_range c.T.b_range (eva_cons (EvR.o evr_int) (eva_cons (EvR.o (evr_bin opr_add op2_add (evo_name n0.s) (EvR.o evr_int))) eva_nil))) (tg_name n2 (by decide))
   (exs_expr (evr_app n1.s (evr_cb1 (cr_sum c.calm) op1_sum g_sum c.T.b_sum (by decide +kernel) (EvR.o (evr_lc b [("_law_at_here", 3)] ⟨rfl, by decide +kernel, by decide +kernel, by decide +kernel, by decide +kernel⟩ (evi_range1 g_range c.T.b_range (eva_cons (evo_name n2.s) eva_nil)) (tgb_name b rfl (by decide +kernel) (by decide)) (fun X' bl => by have c := c.blk bl; exact (evr_bin opr_mul op2_mul (EvR.o (evr_ix (ix_any c.u1) op2_idx (evo_name (Blk.slot bl b (i := 1) (x := "_law_found") rfl (by unfold L2.Vis; decide +kernel))) (evo_name (Blk.slot bl b (i := 3) (x := "_law_at_here") rfl (by unfold L2.Vis; decide +kernel))))) (EvR.o (evr_ix (ix_any c.u1) op2_idx (evo_name (Blk.slot bl b (i := 1) (x := "_law_found") rfl (by unfold L2.Vis; decide +kernel))) (EvR.o (evr_bin op_sub op2_sub (EvR.o (evr_bin op_sub op2_sub (evo_name (Blk.slot bl b (i := 2) (x := "_law_size") rfl (by unfold L2.Vis; decide +kernel))) (EvR.o evr_int))) (evo_name (Blk.slot bl b (i := 3) (x := "_law_at_here") rfl (by unfold L2.Vis; decide +kernel)))))))))))))
  exs_nil)
  (exs_ret (evr_name n1.s))))
theorem ok_l_sums {P : Program} {w : World} {K : PySem.W.Frag} {mg : Str → Option Value} {base : Heap} (T : Prog w K mg) : Callee P w K mg base 1 "_law_sums" [] (spD 1 fn_l_sums K) :=
  callee_D T.f_l_sums sc_l_sums (fun _ _ _ _ _ _ us hl => match us, hl with | [_], _ => rfl) rfl rfl <| fun X e1 e2 e3 e4 e5 b W tk => by
    subst e1 e2 e3 e4 e5
    unfold fn_l_sums
    dsimp only
    exact dv_l_sums T b tk
abbrev N_l_at : List Str := ["_law_script", "_law_k"]
theorem sc_l_at : FnScope N_l_at ["_law_script", "_law_k"] (defScope s_l_at) := ⟨rfl, rfl, rfl, by decide +kernel, rfl, by decide +kernel, by decide +kernel⟩
theorem dv_l_at {X : Cx} {W : WX} (T : Prog X.w X.K X.mg) (b : Bd X N_l_at (defScope s_l_at) 0) (tk : Takes X W) : ExS X W [0, 1] (defBody s_l_at) F_l_at := by
    have c : Cxt Prog X 0 := ⟨T, b.room, b.calm⟩
    have n0 : Own X 0 "_law_script" := b.own rfl (by unfold L2.Loc; decide +kernel)
    have n1 : Own X 1 "_law_k" := b.own rfl (by unfold L2.Loc; decide +kernel)
    have g_len : Gl X "len" := b.gl (by decide +kernel)
    show ExS X W [0, 1] (defBody s_l_at) F_l_at
    unfold F_l_at
    exact (exs_if (evt_cmp opr_lt op2_lt (evo_name n1.s) (EvR.o (evr_cb1 cr_len op1_len g_len c.T.b_len (by decide +kernel) (evo_name n0.s)))) (exs_ret (evr_ix (ix_any c.u1) op2_idx (evo_name n0.s) (evo_name n1.s))) exs_nil
  (exs_ret (evr_bin opr_add op2_add (EvR.o (evr_bin opr_mul op2_mul (EvR.o evr_int) (evo_name n1.s))) (EvR.o evr_int))))
theorem ok_l_at {P : Program} {w : World} {K : PySem.W.Frag} {mg : Str → Option Value} {base : Heap} (T : Prog w K mg) : Callee P w K mg base 1 "_law_at" [] (spD 2 fn_l_at K) :=
  callee_D T.f_l_at sc_l_at (fun _ _ _ _ _ _ us hl => match us, hl with | [_, _], _ => rfl) rfl rfl <| fun X e1 e2 e3 e4 e5 b W tk => by
    subst e1 e2 e3 e4 e5
    unfold fn_l_at
    dsimp only
    exact dv_l_at T b tk
abbrev N_l_no_count : List Str := ["_law_cell", "_law_far"]
theorem sc_l_no_count : FnScope N_l_no_count ["_law_cell"] (defScope s_l_no_count) := ⟨rfl, rfl, rfl, by decide +kernel, rfl, by decide +kernel, by decide +kernel⟩
theorem dv_l_no_count {X : Cx} {W : WX} (T : Prog X.w X.K X.mg) (b : Bd X N_l_no_count (defScope s_l_no_count) 0) (tk : Takes X W) : ExS X W [0] (defBody s_l_no_count) F_l_no_count := by
    have c : Cxt Prog X 0 := ⟨T, b.room, b.calm⟩
    have n0 : Own X 0 "_law_cell" := b.own rfl (by unfold L2.Loc; decide +kernel)
    have n1 : Own X 1 "_law_far" := b.own rfl (by unfold L2.Loc; decide +kernel)
    show ExS X W [0] (defBody s_l_no_count) F_l_no_count
    unfold F_l_no_count
    exact (exs_set n1 (by decide) (evr_bin op_mod op2_mod (EvR.o (evr_bin op_fdivW op2_fdiv (evo_name n0.s) (EvR.o evr_int))) (EvR.o (evr_bin opr_pow op2_pow (EvR.o evr_int) (EvR.o evr_int))))
  (exs_ret (evr_ix (ix_any c.u1) op2_idx (evo_frz (EvR.o (evr_lst (eva_cons (EvR.o (evr_bin op_sub op2_sub (EvR.o (evr_bin op_sub op2_sub (EvR.o evr_int) (EvR.o evr_int))) (evo_name n1.s))) (eva_cons (EvR.o (evr_bin opr_add op2_add (EvR.o evr_int) (evo_name n1.s))) (eva_cons (EvR.o evr_bl) (eva_cons (EvR.o evr_non) (eva_cons (EvR.o evr_str) (eva_cons (EvR.o (evr_frz (evr_lst (eva_cons (EvR.o evr_int) eva_nil)))) (eva_cons (EvR.o (evr_frz (evr_tup (eva_cons (EvR.o evr_int) eva_nil)))) (eva_cons (EvR.o evr_int) (eva_cons (EvR.o evr_bl) eva_nil)))))))))))) (EvR.o (evr_bin op_mod op2_mod (evo_name n0.s) (EvR.o evr_int))))))
theorem ok_l_no_count {P : Program} {w : World} {K : PySem.W.Frag} {mg : Str → Option Value} {base : Heap} (T : Prog w K mg) : Callee P w K mg base 1 "_law_no_count" [] (spD 1 fn_l_no_count K) :=
  callee_D T.f_l_no_count sc_l_no_count (fun _ _ _ _ _ _ us hl => match us, hl with | [_], _ => rfl) rfl rfl <| fun X e1 e2 e3 e4 e5 b W tk => by
    subst e1 e2 e3 e4 e5
    unfold fn_l_no_count
    dsimp only
    exact dv_l_no_count T b tk
abbrev N_is_whole : List Str := ["thing"]
theorem sc_is_whole : FnScope N_is_whole ["thing"] (defScope s_is_whole) := ⟨rfl, rfl, rfl, by decide +kernel, rfl, by decide +kernel, by decide +kernel⟩
theorem dv_is_whole {X : Cx} {W : WX} (T : Prog X.w X.K X.mg) (b : Bd X N_is_whole (defScope s_is_whole) 0) (tk : Takes X W) : ExS X W [0] (defBody s_is_whole) F_is_whole := by
    have c : Cxt Prog X 0 := ⟨T, b.room, b.calm⟩
    have n0 : Own X 0 "thing" := b.own rfl (by unfold L2.Loc; decide +kernel)
    have g_bool : Gl X "bool" := b.gl (by decide +kernel)
    have g_int : Gl X "int" := b.gl (by decide +kernel)
    have g_isinstance : Gl X "isinstance" := b.gl (by decide +kernel)
    show ExS X W [0] (defBody s_is_whole) F_is_whole
    unfold F_is_whole
    exact (exs_ret (evr_and (evr_isiX (by decide +kernel) g_isinstance c.T.b_isinstance g_int c.T.b_int (by decide +kernel) (evo_name n0.s)) (evr_not (evr_isiX (by decide +kernel) g_isinstance c.T.b_isinstance g_bool c.T.b_bool (by decide +kernel) (evo_name n0.s)))))
theorem ok_is_whole {P : Program} {w : World} {K : PySem.W.Frag} {mg : Str → Option Value} {base : Heap} (T : Prog w K mg) : Callee P w K mg base 1 "is_whole" [] (spD 1 fn_is_whole K) :=
  callee_D T.f_is_whole sc_is_whole (fun _ _ _ _ _ _ us hl => match us, hl with | [_], _ => rfl) rfl rfl <| fun X e1 e2 e3 e4 e5 b W tk => by
    subst e1 e2 e3 e4 e5
    unfold fn_is_whole
    dsimp only
    exact dv_is_whole T b tk
abbrev N_look_count : List Str := ["n", "least", "most"]
theorem sc_look_count : FnScope N_look_count ["n", "least", "most"] (defScope s_look_count) := ⟨rfl, rfl, rfl, by decide +kernel, rfl, by decide +kernel, by decide +kernel⟩
theorem dv_look_count {X : Cx} {W : WX} (T : Prog X.w X.K X.mg) (b : Bd X N_look_count (defScope s_look_count) 1) (tk : Takes X W) : ExS X W [0, 1, 2] (defBody s_look_count) F_look_count := by
    have c : Cxt Prog X 1 := ⟨T, b.room, b.calm⟩
    have n0 : Own X 0 "n" := b.own rfl (by unfold L2.Loc; decide +kernel)
    have n1 : Own X 1 "least" := b.own rfl (by unfold L2.Loc; decide +kernel)
    have n2 : Own X 2 "most" := b.own rfl (by unfold L2.Loc; decide +kernel)
    have g_NoCount : Gl X "NoCount" := b.gl (by decide +kernel)
    have g_is_whole : Gl X "is_whole" := b.gl (by decide +kernel)
    show ExS X W [0, 1, 2] (defBody s_look_count) F_look_count
    unfold F_look_count
    exact (exs_if (evt_or3 (evt_not (evt_of (EvR.o (evr_call' c (ok_is_whole c.T) (by decide) g_is_whole tk (fun _ => nodfl) rfl (eva_cons (evo_name n0.s) eva_nil) (alen_cons alen_nil))))) (evt_cmp opr_lt op2_lt (evo_name n0.s) (evo_name n1.s)) (evt_cmp op_gt op2_gt (evo_name n0.s) (evo_name n2.s))) (exs_rz0 c.T.r_NoCount c.calm tk g_NoCount c.T.g_NoCount) exs_nil
  exs_nil)
theorem ok_look_count {P : Program} {w : World} {K : PySem.W.Frag} {mg : Str → Option Value} {base : Heap} (T : Prog w K mg) : Callee P w K mg base 2 "look_count" [] (spD 3 fn_look_count K) :=
  callee_D T.f_look_count sc_look_count (fun _ _ _ _ _ _ us hl => match us, hl with | [_, _, _], _ => rfl) rfl rfl <| fun X e1 e2 e3 e4 e5 b W tk => by
    subst e1 e2 e3 e4 e5
    unfold fn_look_count
    dsimp only
    exact dv_look_count T b tk
abbrev N_words_of : List Str := ["n", "found", "k"]
theorem sc_words_of : FnScope N_words_of ["n"] (defScope s_words_of) := ⟨rfl, rfl, rfl, by decide +kernel, rfl, by decide +kernel, by decide +kernel⟩
theorem dv_words_of {X : Cx} {W : WX} (T : Prog X.w X.K X.mg) (b : Bd X N_words_of (defScope s_words_of) 0) (tk : Takes X W) : ExS X W [0] (defBody s_words_of) F_words_of := by
    have c : Cxt Prog X 0 := ⟨T, b.room, b.calm⟩
    have n0 : Own X 0 "n" := b.own rfl (by unfold L2.Loc; decide +kernel)
    have n1 : Own X 1 "found" := b.own rfl (by unfold L2.Loc; decide +kernel)
    have n2 : Own X 2 "k" := b.own rfl (by unfold L2.Loc; decide +kernel)
    have g_range : Gl X "range" := b.gl (by decide +kernel)
    show ExS X W [0] (defBody s_words_of) F_words_of
    unfold F_words_of
    exact (exs_set n1 (by decide) evr_int
  (exs_for b (evi_range1 g_range c.T.b_range (eva_cons (evo_name n0.s) eva_nil)) (tg_name n2 (by decide))
   (exs_set n1 (by decide) (evr_bin op_fdivW op2_fdiv (EvR.o (evr_bin opr_mul op2_mul (EvR.o (evr_bin opr_mul op2_mul (evo_name n1.s) (EvR.o evr_int))) (EvR.o (evr_bin opr_add op2_add (EvR.o (evr_bin opr_mul op2_mul (EvR.o evr_int) (evo_name n2.s))) (EvR.o evr_int))))) (EvR.o (evr_bin opr_add op2_add (evo_name n2.s) (EvR.o evr_int))))
  exs_nil)
  (exs_ret (evr_name n1.s))))
theorem ok_words_of {P : Program} {w : World} {K : PySem.W.Frag} {mg : Str → Option Value} {base : Heap} (T : Prog w K mg) : Callee P w K mg base 1 "words_of" [] (spD 1 fn_words_of K) :=
  callee_D T.f_words_of sc_words_of (fun _ _ _ _ _ _ us hl => match us, hl with | [_], _ => rfl) rfl rfl <| fun X e1 e2 e3 e4 e5 b W tk => by
    subst e1 e2 e3 e4 e5
    unfold fn_words_of
    dsimp only
    exact dv_words_of T b tk
abbrev N_count_words : List Str := ["n"]
theorem sc_count_words : FnScope N_count_words ["n"] (defScope s_count_words) := ⟨rfl, rfl, rfl, by decide +kernel, rfl, by decide +kernel, by decide +kernel⟩
theorem dv_count_words {X : Cx} {W : WX} (T : Prog X.w X.K X.mg) (b : Bd X N_count_words (defScope s_count_words) 2) (tk : Takes X W) : ExS X W [0] (defBody s_count_words) F_count_words := by
    have c : Cxt Prog X 2 := ⟨T, b.room, b.calm⟩
    have n0 : Own X 0 "n" := b.own rfl (by unfold L2.Loc; decide +kernel)
    have g_MOST_TIES : Gl X "MOST_TIES" := b.gl (by decide +kernel)
    have g_look_count : Gl X "look_count" := b.gl (by decide +kernel)
    have g_words_of : Gl X "words_of" := b.gl (by decide +kernel)
    show ExS X W [0] (defBody s_count_words) F_count_words
    unfold F_count_words
    exact (exs_expr (evr_call' c (ok_look_count c.T) (by decide) g_look_count tk (fun _ => nodfl) rfl (eva_cons (evo_name n0.s) (eva_cons (EvR.o evr_int) (eva_cons (EvR.o (evr_glI g_MOST_TIES c.T.c_MOST_TIES)) eva_nil))) (alen_cons (alen_cons (alen_cons alen_nil))))
  (exs_ret (evr_call' c (ok_words_of c.T) (by decide) g_words_of tk (fun _ => nodfl) rfl (eva_cons (evo_name n0.s) eva_nil) (alen_cons alen_nil))))
theorem ok_count_words {P : Program} {w : World} {K : PySem.W.Frag} {mg : Str → Option Value} {base : Heap} (T : Prog w K mg) : Callee P w K mg base 3 "count_words" [] (spD 1 fn_count_words K) :=
  callee_D T.f_count_words sc_count_words (fun _ _ _ _ _ _ us hl => match us, hl with | [_], _ => rfl) rfl rfl <| fun X e1 e2 e3 e4 e5 b W tk => by
    subst e1 e2 e3 e4 e5
    unfold fn_count_words
    dsimp only
    exact dv_count_words T b tk
abbrev N_l_class : List Str := ["_law_error", "_law_got", "_law_words"]
theorem sc_l_class : FnScope N_l_class ["_law_error"] (defScope s_l_class) := ⟨rfl, rfl, rfl, by decide +kernel, rfl, by decide +kernel, by decide +kernel⟩
theorem dv_l_class {X : Cx} {W : WX} (T : Prog X.w X.K X.mg) (b : Bd X N_l_class (defScope s_l_class) 0) (tk : Takes X W) : ExS X W [0] (defBody s_l_class) F_l_class := by
    have c : Cxt Prog X 0 := ⟨T, b.room, b.calm⟩
    have n0 : Own X 0 "_law_error" := b.own rfl (by unfold L2.Loc; decide +kernel)
    have n1 : Own X 1 "_law_got" := b.own rfl (by unfold L2.Loc; decide +kernel)
    have n2 : Own X 2 "_law_words" := b.own rfl (by unfold L2.Loc; decide +kernel)
    have g_Bare : Gl X "Bare" := b.gl (by decide +kernel)
    have g_Bridge : Gl X "Bridge" := b.gl (by decide +kernel)
    have g_Loop : Gl X "Loop" := b.gl (by decide +kernel)
    have g_NoBall : Gl X "NoBall" := b.gl (by decide +kernel)
    have g_NoCount : Gl X "NoCount" := b.gl (by decide +kernel)
    have g_NoDeed : Gl X "NoDeed" := b.gl (by decide +kernel)
    have g_NoEnd : Gl X "NoEnd" := b.gl (by decide +kernel)
    have g_NoJumps : Gl X "NoJumps" := b.gl (by decide +kernel)
    have g_NoMark : Gl X "NoMark" := b.gl (by decide +kernel)
    have g_NoName : Gl X "NoName" := b.gl (by decide +kernel)
    have g_NoNumber : Gl X "NoNumber" := b.gl (by decide +kernel)
    have g_NoText : Gl X "NoText" := b.gl (by decide +kernel)
    have g_NoTie : Gl X "NoTie" := b.gl (by decide +kernel)
    have g_NoTurns : Gl X "NoTurns" := b.gl (by decide +kernel)
    have g_NoWay : Gl X "NoWay" := b.gl (by decide +kernel)
    have g_NoWhole : Gl X "NoWhole" := b.gl (by decide +kernel)
    have g_NoWord : Gl X "NoWord" := b.gl (by decide +kernel)
    have g_NotFour : Gl X "NotFour" := b.gl (by decide +kernel)
    have g_NotTree : Gl X "NotTree" := b.gl (by decide +kernel)
    have g_QuadError : Gl X "QuadError" := b.gl (by decide +kernel)
    have g_ValueError : Gl X "ValueError" := b.gl (by decide +kernel)
    have g_isinstance : Gl X "isinstance" := b.gl (by decide +kernel)
    show ExS X W [0] (defBody s_l_class) F_l_class
    unfold F_l_class
    exact (exs_set n1 (by decide) (evr_lst (eva_cons (EvR.o (evr_isiO c.T.t_Bare g_isinstance c.T.b_isinstance g_Bare c.T.g_Bare (evo_name n0.s))) (eva_cons (EvR.o (evr_isiO c.T.t_Bridge g_isinstance c.T.b_isinstance g_Bridge c.T.g_Bridge (evo_name n0.s))) (eva_cons (EvR.o (evr_isiO c.T.t_Loop g_isinstance c.T.b_isinstance g_Loop c.T.g_Loop (evo_name n0.s))) eva_nil))))
  (exs_set n1 (by decide) (evr_bin opr_add op2_add (evo_name n1.s) (EvR.o (evr_lst (eva_cons (EvR.o (evr_isiO c.T.t_NoBall g_isinstance c.T.b_isinstance g_NoBall c.T.g_NoBall (evo_name n0.s))) (eva_cons (EvR.o (evr_isiO c.T.t_NoCount g_isinstance c.T.b_isinstance g_NoCount c.T.g_NoCount (evo_name n0.s))) (eva_cons (EvR.o (evr_isiO c.T.t_NoDeed g_isinstance c.T.b_isinstance g_NoDeed c.T.g_NoDeed (evo_name n0.s))) eva_nil))))))
  (exs_set n1 (by decide) (evr_bin opr_add op2_add (evo_name n1.s) (EvR.o (evr_lst (eva_cons (EvR.o (evr_isiO c.T.t_NoEnd g_isinstance c.T.b_isinstance g_NoEnd c.T.g_NoEnd (evo_name n0.s))) (eva_cons (EvR.o (evr_isiO c.T.t_NoJumps g_isinstance c.T.b_isinstance g_NoJumps c.T.g_NoJumps (evo_name n0.s))) (eva_cons (EvR.o (evr_isiO c.T.t_NoMark g_isinstance c.T.b_isinstance g_NoMark c.T.g_NoMark (evo_name n0.s))) eva_nil))))))
  (exs_set n1 (by decide) (evr_bin opr_add op2_add (evo_name n1.s) (EvR.o (evr_lst (eva_cons (EvR.o (evr_isiO c.T.t_NoName g_isinstance c.T.b_isinstance g_NoName c.T.g_NoName (evo_name n0.s))) (eva_cons (EvR.o (evr_isiO c.T.t_NoNumber g_isinstance c.T.b_isinstance g_NoNumber c.T.g_NoNumber (evo_name n0.s))) (eva_cons (EvR.o (evr_isiO c.T.t_NoText g_isinstance c.T.b_isinstance g_NoText c.T.g_NoText (evo_name n0.s))) eva_nil))))))
  (exs_set n1 (by decide) (evr_bin opr_add op2_add (evo_name n1.s) (EvR.o (evr_lst (eva_cons (EvR.o (evr_isiO c.T.t_NoTie g_isinstance c.T.b_isinstance g_NoTie c.T.g_NoTie (evo_name n0.s))) (eva_cons (EvR.o (evr_isiO c.T.t_NoTurns g_isinstance c.T.b_isinstance g_NoTurns c.T.g_NoTurns (evo_name n0.s))) (eva_cons (EvR.o (evr_isiO c.T.t_NoWay g_isinstance c.T.b_isinstance g_NoWay c.T.g_NoWay (evo_name n0.s))) eva_nil))))))
  (exs_set n1 (by decide) (evr_bin opr_add op2_add (evo_name n1.s) (EvR.o (evr_lst (eva_cons (EvR.o (evr_isiO c.T.t_NoWhole g_isinstance c.T.b_isinstance g_NoWhole c.T.g_NoWhole (evo_name n0.s))) (eva_cons (EvR.o (evr_isiO c.T.t_NoWord g_isinstance c.T.b_isinstance g_NoWord c.T.g_NoWord (evo_name n0.s))) (eva_cons (EvR.o (evr_isiO c.T.t_NotFour g_isinstance c.T.b_isinstance g_NotFour c.T.g_NotFour (evo_name n0.s))) eva_nil))))))
  (exs_set n1 (by decide) (evr_bin opr_add op2_add (evo_name n1.s) (EvR.o (evr_lst (eva_cons (EvR.o (evr_isiO c.T.t_NotTree g_isinstance c.T.b_isinstance g_NotTree c.T.g_NotTree (evo_name n0.s))) eva_nil))))
  (exs_if (evt_or3 (evt_not (evt_of (EvR.o (evr_isiO c.T.t_QuadError g_isinstance c.T.b_isinstance g_QuadError c.T.g_QuadError (evo_name n0.s))))) (evt_not (evt_of (EvR.o (evr_isiX (by decide +kernel) g_isinstance c.T.b_isinstance g_ValueError c.T.b_ValueError (by decide +kernel) (evo_name n0.s))))) (evt_cmp (opr_ne c.u) op2_ne (EvR.o (evr_m1L PySem.F.slot_list_count PySem.F.type_list_count mt_lcountX op2_lcount (evo_name n1.s) (EvR.o evr_bl))) (EvR.o evr_int))) (exs_ret evr_str) exs_nil
  (exs_set n2 (by decide) (evr_lst (eva_cons (EvR.o evr_str) (eva_cons (EvR.o evr_str) (eva_cons (EvR.o evr_str) (eva_cons (EvR.o evr_str) (eva_cons (EvR.o evr_str) (eva_cons (EvR.o evr_str) (eva_cons (EvR.o evr_str) (eva_cons (EvR.o evr_str) (eva_cons (EvR.o evr_str) (eva_cons (EvR.o evr_str) eva_nil)))))))))))
  (exs_set n2 (by decide) (evr_bin opr_add op2_add (evo_name n2.s) (EvR.o (evr_lst (eva_cons (EvR.o evr_str) (eva_cons (EvR.o evr_str) (eva_cons (EvR.o evr_str) (eva_cons (EvR.o evr_str) (eva_cons (EvR.o evr_str) (eva_cons (EvR.o evr_str) (eva_cons (EvR.o evr_str) (eva_cons (EvR.o evr_str) (eva_cons (EvR.o evr_str) eva_nil))))))))))))
  (exs_ret (evr_ix (ix_any c.u1) op2_idx (evo_name n2.s) (EvR.o (evr_m1L PySem.F.slot_list_index PySem.F.type_list_index (mt_indexD c.u65) (op2_lindex c.u65) (evo_name n1.s) (EvR.o evr_bl)))))))))))))))
theorem ok_l_class {P : Program} {w : World} {K : PySem.W.Frag} {mg : Str → Option Value} {base : Heap} (T : Prog w K mg) : Callee P w K mg base 1 "_law_class" [] (spD 1 fn_l_class K) :=
  callee_D T.f_l_class sc_l_class (fun _ _ _ _ _ _ us hl => match us, hl with | [_], _ => rfl) rfl rfl <| fun X e1 e2 e3 e4 e5 b W tk => by
    subst e1 e2 e3 e4 e5
    unfold fn_l_class
    dsimp only
    exact dv_l_class T b tk
theorem dvq_l_class {X : Cx} {W : WX} (T : Prog X.w X.K X.mg) (b : BdQ X N_l_class (defScope s_l_class) 0) (tk : Takes X W) : ExS X W [0] (defBody s_l_class) F_l_class := by
    have c : CxtQ Prog X 0 := ⟨T, b.room⟩
    have n0 : Own X 0 "_law_error" := b.own rfl (by unfold L2.Loc; decide +kernel)
    have n1 : Own X 1 "_law_got" := b.own rfl (by unfold L2.Loc; decide +kernel)
    have n2 : Own X 2 "_law_words" := b.own rfl (by unfold L2.Loc; decide +kernel)
    have g_Bare : Gl X "Bare" := b.gl (by decide +kernel)
    have g_Bridge : Gl X "Bridge" := b.gl (by decide +kernel)
    have g_Loop : Gl X "Loop" := b.gl (by decide +kernel)
    have g_NoBall : Gl X "NoBall" := b.gl (by decide +kernel)
    have g_NoCount : Gl X "NoCount" := b.gl (by decide +kernel)
    have g_NoDeed : Gl X "NoDeed" := b.gl (by decide +kernel)
    have g_NoEnd : Gl X "NoEnd" := b.gl (by decide +kernel)
    have g_NoJumps : Gl X "NoJumps" := b.gl (by decide +kernel)
    have g_NoMark : Gl X "NoMark" := b.gl (by decide +kernel)
    have g_NoName : Gl X "NoName" := b.gl (by decide +kernel)
    have g_NoNumber : Gl X "NoNumber" := b.gl (by decide +kernel)
    have g_NoText : Gl X "NoText" := b.gl (by decide +kernel)
    have g_NoTie : Gl X "NoTie" := b.gl (by decide +kernel)
    have g_NoTurns : Gl X "NoTurns" := b.gl (by decide +kernel)
    have g_NoWay : Gl X "NoWay" := b.gl (by decide +kernel)
    have g_NoWhole : Gl X "NoWhole" := b.gl (by decide +kernel)
    have g_NoWord : Gl X "NoWord" := b.gl (by decide +kernel)
    have g_NotFour : Gl X "NotFour" := b.gl (by decide +kernel)
    have g_NotTree : Gl X "NotTree" := b.gl (by decide +kernel)
    have g_QuadError : Gl X "QuadError" := b.gl (by decide +kernel)
    have g_ValueError : Gl X "ValueError" := b.gl (by decide +kernel)
    have g_isinstance : Gl X "isinstance" := b.gl (by decide +kernel)
    show ExS X W [0] (defBody s_l_class) F_l_class
    unfold F_l_class
    exact (exs_set n1 (by decide) (evr_lst (eva_cons (EvR.o (evr_isiO c.T.t_Bare g_isinstance c.T.b_isinstance g_Bare c.T.g_Bare (evo_name n0.s))) (eva_cons (EvR.o (evr_isiO c.T.t_Bridge g_isinstance c.T.b_isinstance g_Bridge c.T.g_Bridge (evo_name n0.s))) (eva_cons (EvR.o (evr_isiO c.T.t_Loop g_isinstance c.T.b_isinstance g_Loop c.T.g_Loop (evo_name n0.s))) eva_nil))))
  (exs_set n1 (by decide) (evr_bin opr_add op2_add (evo_name n1.s) (EvR.o (evr_lst (eva_cons (EvR.o (evr_isiO c.T.t_NoBall g_isinstance c.T.b_isinstance g_NoBall c.T.g_NoBall (evo_name n0.s))) (eva_cons (EvR.o (evr_isiO c.T.t_NoCount g_isinstance c.T.b_isinstance g_NoCount c.T.g_NoCount (evo_name n0.s))) (eva_cons (EvR.o (evr_isiO c.T.t_NoDeed g_isinstance c.T.b_isinstance g_NoDeed c.T.g_NoDeed (evo_name n0.s))) eva_nil))))))
  (exs_set n1 (by decide) (evr_bin opr_add op2_add (evo_name n1.s) (EvR.o (evr_lst (eva_cons (EvR.o (evr_isiO c.T.t_NoEnd g_isinstance c.T.b_isinstance g_NoEnd c.T.g_NoEnd (evo_name n0.s))) (eva_cons (EvR.o (evr_isiO c.T.t_NoJumps g_isinstance c.T.b_isinstance g_NoJumps c.T.g_NoJumps (evo_name n0.s))) (eva_cons (EvR.o (evr_isiO c.T.t_NoMark g_isinstance c.T.b_isinstance g_NoMark c.T.g_NoMark (evo_name n0.s))) eva_nil))))))
  (exs_set n1 (by decide) (evr_bin opr_add op2_add (evo_name n1.s) (EvR.o (evr_lst (eva_cons (EvR.o (evr_isiO c.T.t_NoName g_isinstance c.T.b_isinstance g_NoName c.T.g_NoName (evo_name n0.s))) (eva_cons (EvR.o (evr_isiO c.T.t_NoNumber g_isinstance c.T.b_isinstance g_NoNumber c.T.g_NoNumber (evo_name n0.s))) (eva_cons (EvR.o (evr_isiO c.T.t_NoText g_isinstance c.T.b_isinstance g_NoText c.T.g_NoText (evo_name n0.s))) eva_nil))))))
  (exs_set n1 (by decide) (evr_bin opr_add op2_add (evo_name n1.s) (EvR.o (evr_lst (eva_cons (EvR.o (evr_isiO c.T.t_NoTie g_isinstance c.T.b_isinstance g_NoTie c.T.g_NoTie (evo_name n0.s))) (eva_cons (EvR.o (evr_isiO c.T.t_NoTurns g_isinstance c.T.b_isinstance g_NoTurns c.T.g_NoTurns (evo_name n0.s))) (eva_cons (EvR.o (evr_isiO c.T.t_NoWay g_isinstance c.T.b_isinstance g_NoWay c.T.g_NoWay (evo_name n0.s))) eva_nil))))))
  (exs_set n1 (by decide) (evr_bin opr_add op2_add (evo_name n1.s) (EvR.o (evr_lst (eva_cons (EvR.o (evr_isiO c.T.t_NoWhole g_isinstance c.T.b_isinstance g_NoWhole c.T.g_NoWhole (evo_name n0.s))) (eva_cons (EvR.o (evr_isiO c.T.t_NoWord g_isinstance c.T.b_isinstance g_NoWord c.T.g_NoWord (evo_name n0.s))) (eva_cons (EvR.o (evr_isiO c.T.t_NotFour g_isinstance c.T.b_isinstance g_NotFour c.T.g_NotFour (evo_name n0.s))) eva_nil))))))
  (exs_set n1 (by decide) (evr_bin opr_add op2_add (evo_name n1.s) (EvR.o (evr_lst (eva_cons (EvR.o (evr_isiO c.T.t_NotTree g_isinstance c.T.b_isinstance g_NotTree c.T.g_NotTree (evo_name n0.s))) eva_nil))))
  (exs_if (evt_or3 (evt_not (evt_of (EvR.o (evr_isiO c.T.t_QuadError g_isinstance c.T.b_isinstance g_QuadError c.T.g_QuadError (evo_name n0.s))))) (evt_not (evt_of (EvR.o (evr_isiX (by decide +kernel) g_isinstance c.T.b_isinstance g_ValueError c.T.b_ValueError (by decide +kernel) (evo_name n0.s))))) (evt_cmp (opr_ne c.u) op2_ne (EvR.o (evr_m1L PySem.F.slot_list_count PySem.F.type_list_count mt_lcountX op2_lcount (evo_name n1.s) (EvR.o evr_bl))) (EvR.o evr_int))) (exs_ret evr_str) exs_nil
  (exs_set n2 (by decide) (evr_lst (eva_cons (EvR.o evr_str) (eva_cons (EvR.o evr_str) (eva_cons (EvR.o evr_str) (eva_cons (EvR.o evr_str) (eva_cons (EvR.o evr_str) (eva_cons (EvR.o evr_str) (eva_cons (EvR.o evr_str) (eva_cons (EvR.o evr_str) (eva_cons (EvR.o evr_str) (eva_cons (EvR.o evr_str) eva_nil)))))))))))
  (exs_set n2 (by decide) (evr_bin opr_add op2_add (evo_name n2.s) (EvR.o (evr_lst (eva_cons (EvR.o evr_str) (eva_cons (EvR.o evr_str) (eva_cons (EvR.o evr_str) (eva_cons (EvR.o evr_str) (eva_cons (EvR.o evr_str) (eva_cons (EvR.o evr_str) (eva_cons (EvR.o evr_str) (eva_cons (EvR.o evr_str) (eva_cons (EvR.o evr_str) eva_nil))))))))))))
  (exs_ret (evr_ix (ix_any c.u1) op2_idx (evo_name n2.s) (EvR.o (evr_m1L PySem.F.slot_list_index PySem.F.type_list_index (mt_indexD c.u65) (op2_lindex c.u65) (evo_name n1.s) (EvR.o evr_bl)))))))))))))))
theorem okq_l_class {P : Program} {w : World} {K : PySem.W.Frag} {mg : Str → Option Value} {base : Heap} (T : Prog w K mg) : CalleeQ P w K mg base 1 "_law_class" (spD 1 fn_l_class K) :=
  calleeQ_D T.f_l_class sc_l_class (fun _ _ _ _ _ _ us hl => match us, hl with | [_], _ => rfl) rfl rfl <| fun X e1 e2 e3 e4 e5 b W tk => by
    subst e1 e2 e3 e4 e5
    unfold fn_l_class
    dsimp only
    exact dvq_l_class T b tk
abbrev N_threes : List Str := ["n", "found", "k"]
theorem sc_threes : FnScope N_threes ["n"] (defScope s_threes) := ⟨rfl, rfl, rfl, by decide +kernel, rfl, by decide +kernel, by decide +kernel⟩
theorem dv_threes {X : Cx} {W : WX} (T : Prog X.w X.K X.mg) (b : Bd X N_threes (defScope s_threes) 0) (tk : Takes X W) : ExS X W [0] (defBody s_threes) F_threes := by
    have c : Cxt Prog X 0 := ⟨T, b.room, b.calm⟩
    have n0 : Own X 0 "n" := b.own rfl (by unfold L2.Loc; decide +kernel)
    have n1 : Own X 1 "found" := b.own rfl (by unfold L2.Loc; decide +kernel)
    have n2 : Own X 2 "k" := b.own rfl (by unfold L2.Loc; decide +kernel)
    have g_range : Gl X "range" := b.gl (by decide +kernel)
    show ExS X W [0] (defBody s_threes) F_threes
    unfold F_threes
    exact (exs_set n1 (by decide) evr_int
  (exs_for b (evi_range1 g_range c.T.b_range (eva_cons (evo_name n0.s) eva_nil)) (tg_name n2 (by decide))
   (exs_aug n1 (by decide) ip_mul op2_augMul evr_int
  exs_nil)
  (exs_ret (evr_name n1.s))))
theorem ok_threes {P : Program} {w : World} {K : PySem.W.Frag} {mg : Str → Option Value} {base : Heap} (T : Prog w K mg) : Callee P w K mg base 1 "threes" [] (spD 1 fn_threes K) :=
  callee_D T.f_threes sc_threes (fun _ _ _ _ _ _ us hl => match us, hl with | [_], _ => rfl) rfl rfl <| fun X e1 e2 e3 e4 e5 b W tk => by
    subst e1 e2 e3 e4 e5
    unfold fn_threes
    dsimp only
    exact dv_threes T b tk
abbrev N_count_woods : List Str := ["n", "many"]
theorem sc_count_woods : FnScope N_count_woods ["n"] (defScope s_count_woods) := ⟨rfl, rfl, rfl, by decide +kernel, rfl, by decide +kernel, by decide +kernel⟩
theorem dv_count_woods {X : Cx} {W : WX} (T : Prog X.w X.K X.mg) (b : Bd X N_count_woods (defScope s_count_woods) 3) (tk : Takes X W) : ExS X W [0] (defBody s_count_woods) F_count_woods := by
    have c : Cxt Prog X 3 := ⟨T, b.room, b.calm⟩
    have n0 : Own X 0 "n" := b.own rfl (by unfold L2.Loc; decide +kernel)
    have n1 : Own X 1 "many" := b.own rfl (by unfold L2.Loc; decide +kernel)
    have g_count_words : Gl X "count_words" := b.gl (by decide +kernel)
    have g_threes : Gl X "threes" := b.gl (by decide +kernel)
    show ExS X W [0] (defBody s_count_woods) F_count_woods
    unfold F_count_woods
    exact (exs_set n1 (by decide) (evr_call' c (ok_count_words c.T) (by decide) g_count_words tk (fun _ => nodfl) rfl (eva_cons (evo_name n0.s) eva_nil) (alen_cons alen_nil))
  (exs_ret (evr_bin opr_mul op2_mul (EvR.o (evr_call' c (ok_threes c.T) (by decide) g_threes tk (fun _ => nodfl) rfl (eva_cons (evo_name n0.s) eva_nil) (alen_cons alen_nil))) (evo_name n1.s))))
theorem ok_count_woods {P : Program} {w : World} {K : PySem.W.Frag} {mg : Str → Option Value} {base : Heap} (T : Prog w K mg) : Callee P w K mg base 4 "count_woods" [] (spD 1 fn_count_woods K) :=
  callee_D T.f_count_woods sc_count_woods (fun _ _ _ _ _ _ us hl => match us, hl with | [_], _ => rfl) rfl rfl <| fun X e1 e2 e3 e4 e5 b W tk => by
    subst e1 e2 e3 e4 e5
    unfold fn_count_woods
    dsimp only
    exact dv_count_woods T b tk
abbrev N_count_mixed : List Str := ["n"]
theorem sc_count_mixed : FnScope N_count_mixed ["n"] (defScope s_count_mixed) := ⟨rfl, rfl, rfl, by decide +kernel, rfl, by decide +kernel, by decide +kernel⟩
theorem dv_count_mixed {X : Cx} {W : WX} (T : Prog X.w X.K X.mg) (b : Bd X N_count_mixed (defScope s_count_mixed) 3) (tk : Takes X W) : ExS X W [0] (defBody s_count_mixed) F_count_mixed := by
    have c : Cxt Prog X 3 := ⟨T, b.room, b.calm⟩
    have n0 : Own X 0 "n" := b.own rfl (by unfold L2.Loc; decide +kernel)
    have g_count_words : Gl X "count_words" := b.gl (by decide +kernel)
    have g_words_of : Gl X "words_of" := b.gl (by decide +kernel)
    show ExS X W [0] (defBody s_count_mixed) F_count_mixed
    unfold F_count_mixed
    exact (exs_ret (evr_bin opr_mul op2_mul (EvR.o (evr_call' c (ok_count_words c.T) (by decide) g_count_words tk (fun _ => nodfl) rfl (eva_cons (evo_name n0.s) eva_nil) (alen_cons alen_nil))) (EvR.o (evr_call' c (ok_words_of c.T) (by decide) g_words_of tk (fun _ => nodfl) rfl (eva_cons (EvR.o (evr_bin opr_add op2_add (evo_name n0.s) (EvR.o evr_int))) eva_nil) (alen_cons alen_nil)))))
theorem ok_count_mixed {P : Program} {w : World} {K : PySem.W.Frag} {mg : Str → Option Value} {base : Heap} (T : Prog w K mg) : Callee P w K mg base 4 "count_mixed" [] (spD 1 fn_count_mixed K) :=
  callee_D T.f_count_mixed sc_count_mixed (fun _ _ _ _ _ _ us hl => match us, hl with | [_], _ => rfl) rfl rfl <| fun X e1 e2 e3 e4 e5 b W tk => by
    subst e1 e2 e3 e4 e5
    unfold fn_count_mixed
    dsimp only
    exact dv_count_mixed T b tk
abbrev N_count_maps : List Str := ["n"]
theorem sc_count_maps : FnScope N_count_maps ["n"] (defScope s_count_maps) := ⟨rfl, rfl, rfl, by decide +kernel, rfl, by decide +kernel, by decide +kernel⟩
theorem dv_count_maps {X : Cx} {W : WX} (T : Prog X.w X.K X.mg) (b : Bd X N_count_maps (defScope s_count_maps) 4) (tk : Takes X W) : ExS X W [0] (defBody s_count_maps) F_count_maps := by
    have c : Cxt Prog X 4 := ⟨T, b.room, b.calm⟩
    have n0 : Own X 0 "n" := b.own rfl (by unfold L2.Loc; decide +kernel)
    have g_count_woods : Gl X "count_woods" := b.gl (by decide +kernel)
    show ExS X W [0] (defBody s_count_maps) F_count_maps
    unfold F_count_maps
    exact (exs_ret (evr_bin op_fdivW op2_fdiv (EvR.o (evr_bin opr_mul op2_mul (EvR.o evr_int) (EvR.o (evr_call' c (ok_count_woods c.T) (by decide) g_count_woods tk (fun _ => nodfl) rfl (eva_cons (evo_name n0.s) eva_nil) (alen_cons alen_nil))))) (EvR.o (evr_bin opr_add op2_add (evo_name n0.s) (EvR.o evr_int)))))
theorem ok_count_maps {P : Program} {w : World} {K : PySem.W.Frag} {mg : Str → Option Value} {base : Heap} (T : Prog w K mg) : Callee P w K mg base 5 "count_maps" [] (spD 1 fn_count_maps K) :=
  callee_D T.f_count_maps sc_count_maps (fun _ _ _ _ _ _ us hl => match us, hl with | [_], _ => rfl) rfl rfl <| fun X e1 e2 e3 e4 e5 b W tk => by
    subst e1 e2 e3 e4 e5
    unfold fn_count_maps
    dsimp only
    exact dv_count_maps T b tk
abbrev N_l_asked : List Str := ["_law_which", "_law_size", "_law_told", "e"]
theorem sc_l_asked : FnScope N_l_asked ["_law_which", "_law_size"] (defScope s_l_asked) := ⟨rfl, rfl, rfl, by decide +kernel, rfl, by decide +kernel, by decide +kernel⟩
theorem dv_l_asked {X : Cx} {W : WX} (T : Prog X.w X.K X.mg) (b : Bd X N_l_asked (defScope s_l_asked) 5) (tk : Takes X W) : ExS X W [0, 1] (defBody s_l_asked) F_l_asked_2 := by
    have c : Cxt Prog X 5 := ⟨T, b.room, b.calm⟩
    have n0 : Own X 0 "_law_which" := b.own rfl (by unfold L2.Loc; decide +kernel)
    have n1 : Own X 1 "_law_size" := b.own rfl (by unfold L2.Loc; decide +kernel)
    have n2 : Own X 2 "_law_told" := b.own rfl (by unfold L2.Loc; decide +kernel)
    have n3 : Own X 3 "e" := b.own rfl (by unfold L2.Loc; decide +kernel)
    have g_QuadError : Gl X "QuadError" := b.gl (by decide +kernel)
    have g__law_class : Gl X "_law_class" := b.gl (by decide +kernel)
    have g_count_maps : Gl X "count_maps" := b.gl (by decide +kernel)
    have g_count_mixed : Gl X "count_mixed" := b.gl (by decide +kernel)
    have g_count_woods : Gl X "count_woods" := b.gl (by decide +kernel)
    have g_count_words : Gl X "count_words" := b.gl (by decide +kernel)
    show ExS X W [0, 1] (defBody s_l_asked) F_l_asked_2
    unfold F_l_asked_2
    exact (exs_set n2 (by decide) evr_non
  (exs_tryS b n3 (by decide +kernel) (by decide) g_QuadError c.T.g_QuadError c.T.bd_QuadError tk (fun X' tr W tk => by have b := b.tr tr; have c := c.tr tr; have n0 := n0.tr tr; have n1 := n1.tr tr; have n2 := n2.tr tr; have n3 := n3.tr tr; have g_QuadError := gl_tr g_QuadError tr; have g__law_class := gl_tr g__law_class tr; have g_count_maps := gl_tr g_count_maps tr; have g_count_mixed := gl_tr g_count_mixed tr; have g_count_woods := gl_tr g_count_woods tr; have g_count_words := gl_tr g_count_words tr; exact (exs_if (evt_cmp (opr_eq c.u) op2_eq (evo_name n0.s) (EvR.o evr_int)) (exs_set n2 (by decide) (evr_call' c (ok_count_words c.T) (by decide) g_count_words tk (fun _ => nodfl) rfl (eva_cons (evo_name n1.s) eva_nil) (alen_cons alen_nil))
  exs_nil) (exs_if (evt_cmp (opr_eq c.u) op2_eq (evo_name n0.s) (EvR.o evr_int)) (exs_set n2 (by decide) (evr_call' c (ok_count_woods c.T) (by decide) g_count_woods tk (fun _ => nodfl) rfl (eva_cons (evo_name n1.s) eva_nil) (alen_cons alen_nil))
  exs_nil) (exs_if (evt_cmp (opr_eq c.u) op2_eq (evo_name n0.s) (EvR.o evr_int)) (exs_set n2 (by decide) (evr_call' c (ok_count_mixed c.T) (by decide) g_count_mixed tk (fun _ => nodfl) rfl (eva_cons (evo_name n1.s) eva_nil) (alen_cons alen_nil))
  exs_nil) (exs_set n2 (by decide) (evr_call' c (ok_count_maps c.T) (by decide) g_count_maps tk (fun _ => nodfl) rfl (eva_cons (evo_name n1.s) eva_nil) (alen_cons alen_nil))
  exs_nil)
  exs_nil)
  exs_nil)
  exs_nil)) (fun X' tr W tk => by have c := cxSu c tr; have n0 := ownSu n0 tr; have n1 := ownSu n1 tr; have n2 := ownSu n2 tr; have n3 := ownSu n3 tr; have g_QuadError := glSu g_QuadError tr; have g__law_class := glSu g__law_class tr; have g_count_maps := glSu g_count_maps tr; have g_count_mixed := glSu g_count_mixed tr; have g_count_woods := glSu g_count_woods tr; have g_count_words := glSu g_count_words tr; exact (exs_set n2 (by decide) (evr_callQ c (okq_l_class c.T) (by decide) g__law_class tk rfl (eva_cons (evo_name n3.s) eva_nil) (alen_cons alen_nil)) exs_nil))
  (exs_ret (evr_name n2.s))))
theorem ok_l_asked {P : Program} {w : World} {K : PySem.W.Frag} {mg : Str → Option Value} {base : Heap} (T : Prog w K mg) : Callee P w K mg base 6 "_law_asked" [] (spD 2 fn_l_asked_2 K) :=
  callee_D T.f_l_asked sc_l_asked (fun _ _ _ _ _ _ us hl => match us, hl with | [_, _], _ => rfl) rfl rfl <| fun X e1 e2 e3 e4 e5 b W tk => by
    subst e1 e2 e3 e4 e5
    unfold fn_l_asked_2
    dsimp only
    exact dv_l_asked T b tk
abbrev N_l_whole : List Str := ["_law_found"]
theorem sc_l_whole : FnScope N_l_whole ["_law_found"] (defScope s_l_whole) := ⟨rfl, rfl, rfl, by decide +kernel, rfl, by decide +kernel, by decide +kernel⟩
theorem dv_l_whole {X : Cx} {W : WX} (T : Prog X.w X.K X.mg) (b : Bd X N_l_whole (defScope s_l_whole) 0) (tk : Takes X W) : ExS X W [0] (defBody s_l_whole) F_l_whole := by
    have c : Cxt Prog X 0 := ⟨T, b.room, b.calm⟩
    have n0 : Own X 0 "_law_found" := b.own rfl (by unfold L2.Loc; decide +kernel)
    have g_bool : Gl X "bool" := b.gl (by decide +kernel)
    have g_int : Gl X "int" := b.gl (by decide +kernel)
    have g_isinstance : Gl X "isinstance" := b.gl (by decide +kernel)
    show ExS X W [0] (defBody s_l_whole) F_l_whole
    unfold F_l_whole
    exact (exs_ret (evr_and (evr_isiX (by decide +kernel) g_isinstance c.T.b_isinstance g_int c.T.b_int (by decide +kernel) (evo_name n0.s)) (evr_not (evr_isiX (by decide +kernel) g_isinstance c.T.b_isinstance g_bool c.T.b_bool (by decide +kernel) (evo_name n0.s)))))
theorem ok_l_whole {P : Program} {w : World} {K : PySem.W.Frag} {mg : Str → Option Value} {base : Heap} (T : Prog w K mg) : Callee P w K mg base 1 "_law_whole" [] (spD 1 fn_l_whole K) :=
  callee_D T.f_l_whole sc_l_whole (fun _ _ _ _ _ _ us hl => match us, hl with | [_], _ => rfl) rfl rfl <| fun X e1 e2 e3 e4 e5 b W tk => by
    subst e1 e2 e3 e4 e5
    unfold fn_l_whole
    dsimp only
    exact dv_l_whole T b tk
abbrev N_l_threes : List Str := ["_law_size", "_law_found", "_law_turn"]
theorem sc_l_threes : FnScope N_l_threes ["_law_size"] (defScope s_l_threes) := ⟨rfl, rfl, rfl, by decide +kernel, rfl, by decide +kernel, by decide +kernel⟩
theorem dv_l_threes {X : Cx} {W : WX} (T : Prog X.w X.K X.mg) (b : Bd X N_l_threes (defScope s_l_threes) 0) (tk : Takes X W) : ExS X W [0] (defBody s_l_threes) F_l_threes := by
    have c : Cxt Prog X 0 := ⟨T, b.room, b.calm⟩
    have n0 : Own X 0 "_law_size" := b.own rfl (by unfold L2.Loc; decide +kernel)
    have n1 : Own X 1 "_law_found" := b.own rfl (by unfold L2.Loc; decide +kernel)
    have n2 : Own X 2 "_law_turn" := b.own rfl (by unfold L2.Loc; decide +kernel)
    have g_range : Gl X "range" := b.gl (by decide +kernel)
    show ExS X W [0] (defBody s_l_threes) F_l_threes
    unfold F_l_threes
    exact (exs_set n1 (by decide) evr_int
  (exs_for b (evi_range1 g_range c.T.b_range (eva_cons (evo_name n0.s) eva_nil)) (tg_name n2 (by decide))
   (exs_set n1 (by decide) (evr_bin opr_mul op2_mul (evo_name n1.s) (EvR.o evr_int))
  exs_nil)
  (exs_ret (evr_name n1.s))))
theorem ok_l_threes {P : Program} {w : World} {K : PySem.W.Frag} {mg : Str → Option Value} {base : Heap} (T : Prog w K mg) : Callee P w K mg base 1 "_law_threes" [] (spD 1 fn_l_threes K) :=
  callee_D T.f_l_threes sc_l_threes (fun _ _ _ _ _ _ us hl => match us, hl with | [_], _ => rfl) rfl rfl <| fun X e1 e2 e3 e4 e5 b W tk => by
    subst e1 e2 e3 e4 e5
    unfold fn_l_threes
    dsimp only
    exact dv_l_threes T b tk
theorem cal_F_count_maps_0_n {P : Program} {w : World} {K : PySem.W.Frag} {mg : Str → Option Value} {base : Heap} (T : Prog w K mg) : CalF P w K mg base 5 "count_maps" 0 ["n"] [0] [] (spD 1 fn_count_maps K) :=
  calF0 T.f_count_maps sc_count_maps (fun _ _ _ _ _ _ us ws h1 h2 => match us, ws, h1, h2 with | [], [_], _, _ => rfl) rfl rfl <| fun X e1 e2 e3 e4 e5 b W tk => by
    subst e1 e2 e3 e4 e5
    exact dv_count_maps T b tk
theorem cal_F_count_mixed_0_n {P : Program} {w : World} {K : PySem.W.Frag} {mg : Str → Option Value} {base : Heap} (T : Prog w K mg) : CalF P w K mg base 4 "count_mixed" 0 ["n"] [0] [] (spD 1 fn_count_mixed K) :=
  calF0 T.f_count_mixed sc_count_mixed (fun _ _ _ _ _ _ us ws h1 h2 => match us, ws, h1, h2 with | [], [_], _, _ => rfl) rfl rfl <| fun X e1 e2 e3 e4 e5 b W tk => by
    subst e1 e2 e3 e4 e5
    exact dv_count_mixed T b tk
theorem cal_F_count_woods_0_n {P : Program} {w : World} {K : PySem.W.Frag} {mg : Str → Option Value} {base : Heap} (T : Prog w K mg) : CalF P w K mg base 4 "count_woods" 0 ["n"] [0] [] (spD 1 fn_count_woods K) :=
  calF0 T.f_count_woods sc_count_woods (fun _ _ _ _ _ _ us ws h1 h2 => match us, ws, h1, h2 with | [], [_], _, _ => rfl) rfl rfl <| fun X e1 e2 e3 e4 e5 b W tk => by
    subst e1 e2 e3 e4 e5
    exact dv_count_woods T b tk
theorem cal_F_count_words_0_n {P : Program} {w : World} {K : PySem.W.Frag} {mg : Str → Option Value} {base : Heap} (T : Prog w K mg) : CalF P w K mg base 3 "count_words" 0 ["n"] [0] [] (spD 1 fn_count_words K) :=
  calF0 T.f_count_words sc_count_words (fun _ _ _ _ _ _ us ws h1 h2 => match us, ws, h1, h2 with | [], [_], _, _ => rfl) rfl rfl <| fun X e1 e2 e3 e4 e5 b W tk => by
    subst e1 e2 e3 e4 e5
    exact dv_count_words T b tk
abbrev N_l_right : List Str := ["_law_size", "_law_due", "_law_told", "_law_which", "_law_one"]
theorem sc_l_right : FnScope N_l_right ["_law_size", "_law_due"] (defScope s_l_right) := ⟨rfl, rfl, rfl, by decide +kernel, rfl, by decide +kernel, by decide +kernel⟩
theorem dv_l_right {X : Cx} {W : WX} (T : Prog X.w X.K X.mg) (b : Bd X N_l_right (defScope s_l_right) 6) (tk : Takes X W) : ExS X W [0, 1] (defBody s_l_right) F_l_right_6 := by
    have c : Cxt Prog X 6 := ⟨T, b.room, b.calm⟩
    have n0 : Own X 0 "_law_size" := b.own rfl (by unfold L2.Loc; decide +kernel)
    have n1 : Own X 1 "_law_due" := b.own rfl (by unfold L2.Loc; decide +kernel)
    have n2 : Own X 2 "_law_told" := b.own rfl (by unfold L2.Loc; decide +kernel)
    have g__law_threes : Gl X "_law_threes" := b.gl (by decide +kernel)
    have g_count_maps : Gl X "count_maps" := b.gl (by decide +kernel)
    have g_count_mixed : Gl X "count_mixed" := b.gl (by decide +kernel)
    have g_count_woods : Gl X "count_woods" := b.gl (by decide +kernel)
    have g_count_words : Gl X "count_words" := b.gl (by decide +kernel)
    have g_range : Gl X "range" := b.gl (by decide +kernel)
    show ExS X W [0, 1] (defBody s_l_right) F_l_right_6
    unfold F_l_right_6
    exact (exs_lc b [("_law_which", 3)] n2 (by decide) (by decide +kernel) (sw_b b (by rfl)) ⟨rfl, by decide +kernel, by decide +kernel, by decide +kernel, by decide +kernel⟩ (evi_range1 g_range c.T.b_range (eva_cons (EvR.o evr_int) eva_nil)) (tgb_name b rfl (by decide +kernel) (by decide)) (fun X' bl => by have c := c.blk bl; exact (evr_frz (evr_call' c (ok_l_asked c.T) (by decide) (Blk.gl (x := "_law_asked") bl b (by decide +kernel)) takes0 (fun _ => nodfl) rfl (eva_cons (evo_name (Blk.slot bl b (i := 3) (x := "_law_which") rfl (by unfold L2.Vis; decide +kernel))) (eva_cons (evo_name (Blk.slot bl b (i := 0) (x := "_law_size") rfl (by unfold L2.Vis; decide +kernel))) eva_nil)) (alen_cons (alen_cons alen_nil)))))
  (exs_if (evt_cmp (opr_ne c.u) op2_ne (EvR.o (evr_lcC b [("_law_one", 4)] ⟨rfl, by decide +kernel, by decide +kernel, by decide +kernel, by decide +kernel⟩ (evi_any (evr_name n2.s)) (tgb_name b rfl (by decide +kernel) (by decide)) (fun X' bl => by have c := c.blk bl; exact (evr_name (Blk.slot bl b (i := 4) (x := "_law_one") rfl (by unfold L2.Vis; decide +kernel)))) (fun X' bl => by have c := c.blk bl; exact (evt_not (evt_of (EvR.o (evr_call' c (ok_l_whole c.T) (by decide) (Blk.gl (x := "_law_whole") bl b (by decide +kernel)) takes0 (fun _ => nodfl) rfl (eva_cons (evo_name (Blk.slot bl b (i := 4) (x := "_law_one") rfl (by unfold L2.Vis; decide +kernel))) eva_nil) (alen_cons alen_nil)))))))) (EvR.o (evr_lst eva_nil))) (exs_ret evr_bl) exs_nil
  (exs_if (evt_or (evt_cmp (opr_ne c.u) op2_ne (EvR.o (evr_slice (evo_name n2.s) evp_none (evp_some (EvR.o evr_int)))) (EvR.o (evr_lst (eva_cons (EvR.o (evr_frz (evr_ix (ix_any c.u1) op2_idx (evo_name n1.s) (evo_name n0.s)))) (eva_cons (EvR.o (evr_bin opr_mul op2_mul (EvR.o (evr_ix (ix_any c.u1) op2_idx (evo_name n1.s) (evo_name n0.s))) (EvR.o (evr_call' c (ok_l_threes c.T) (by decide) g__law_threes tk (fun _ => nodfl) rfl (eva_cons (evo_name n0.s) eva_nil) (alen_cons alen_nil))))) eva_nil))))) (evt_cmp (opr_ne c.u) op2_ne (EvR.o (evr_ix (ix_any c.u1) op2_idx (evo_name n2.s) (EvR.o evr_int))) (EvR.o (evr_bin opr_mul op2_mul (EvR.o (evr_ix (ix_any c.u1) op2_idx (evo_name n1.s) (evo_name n0.s))) (EvR.o (evr_ix (ix_any c.u1) op2_idx (evo_name n1.s) (EvR.o (evr_bin opr_add op2_add (evo_name n0.s) (EvR.o evr_int))))))))) (exs_ret evr_bl) exs_nil
  (exs_if (evt_cmp (opr_ne c.u) op2_ne (evo_name n2.s) (EvR.o (evr_lst (eva_cons (EvR.o (evr_frz (evr_callW c (cal_F_count_words_0_n c.T) (by decide) g_count_words tk (fun _ => nodfl) (by decide +kernel) (evak_0 ⟨by rfl, by rfl, by rfl, by rintro _ _ ⟨⟩ <;> rfl⟩ (evk_cons (evo_name n0.s) evk_nil) (alen_cons alen_nil))))) (eva_cons (EvR.o (evr_frz (evr_callW c (cal_F_count_woods_0_n c.T) (by decide) g_count_woods tk (fun _ => nodfl) (by decide +kernel) (evak_0 ⟨by rfl, by rfl, by rfl, by rintro _ _ ⟨⟩ <;> rfl⟩ (evk_cons (evo_name n0.s) evk_nil) (alen_cons alen_nil))))) (eva_cons (EvR.o (evr_frz (evr_callW c (cal_F_count_mixed_0_n c.T) (by decide) g_count_mixed tk (fun _ => nodfl) (by decide +kernel) (evak_0 ⟨by rfl, by rfl, by rfl, by rintro _ _ ⟨⟩ <;> rfl⟩ (evk_cons (evo_name n0.s) evk_nil) (alen_cons alen_nil))))) (eva_cons (EvR.o (evr_frz (evr_callW c (cal_F_count_maps_0_n c.T) (by decide) g_count_maps tk (fun _ => nodfl) (by decide +kernel) (evak_0 ⟨by rfl, by rfl, by rfl, by rintro _ _ ⟨⟩ <;> rfl⟩ (evk_cons (evo_name n0.s) evk_nil) (alen_cons alen_nil))))) eva_nil))))))) (exs_ret evr_bl) exs_nil
  (exs_ret (evr_cmp (opr_eq c.u) op2_eq (EvR.o (evr_bin opr_mul op2_mul (EvR.o (evr_ix (ix_any c.u1) op2_idx (evo_name n2.s) (EvR.o evr_int))) (EvR.o (evr_bin opr_add op2_add (evo_name n0.s) (EvR.o evr_int))))) (EvR.o (evr_bin opr_mul op2_mul (EvR.o evr_int) (EvR.o (evr_ix (ix_any c.u1) op2_idx (evo_name n2.s) (EvR.o evr_int)))))))))))
theorem ok_l_right {P : Program} {w : World} {K : PySem.W.Frag} {mg : Str → Option Value} {base : Heap} (T : Prog w K mg) : Callee P w K mg base 7 "_law_right" [] (spD 2 fn_l_right_6 K) :=
  callee_D T.f_l_right sc_l_right (fun _ _ _ _ _ _ us hl => match us, hl with | [_, _], _ => rfl) rfl rfl <| fun X e1 e2 e3 e4 e5 b W tk => by
    subst e1 e2 e3 e4 e5
    unfold fn_l_right_6
    dsimp only
    exact dv_l_right T b tk
abbrev N_law : List Str := ["_law_script", "_law_due", "_law_first", "_law_turn", "_law_cell", "_law_odd", "_law_which"]
theorem sc_law : FnScope N_law ["_law_script"] (defScope s_law) := ⟨rfl, rfl, rfl, by decide +kernel, rfl, by decide +kernel, by decide +kernel⟩
theorem dv_law {X : Cx} {W : WX} (T : Prog X.w X.K X.mg) (b : Bd X N_law (defScope s_law) 7) (tk : Takes X W) : ExS X W [0] (defBody s_law) F_law_13 := by
    have c : Cxt Prog X 7 := ⟨T, b.room, b.calm⟩
    have n0 : Own X 0 "_law_script" := b.own rfl (by unfold L2.Loc; decide +kernel)
    have n1 : Own X 1 "_law_due" := b.own rfl (by unfold L2.Loc; decide +kernel)
    have n2 : Own X 2 "_law_first" := b.own rfl (by unfold L2.Loc; decide +kernel)
    have n3 : Own X 3 "_law_turn" := b.own rfl (by unfold L2.Loc; decide +kernel)
    have n4 : Own X 4 "_law_cell" := b.own rfl (by unfold L2.Loc; decide +kernel)
    have n5 : Own X 5 "_law_odd" := b.own rfl (by unfold L2.Loc; decide +kernel)
    have g__law_at : Gl X "_law_at" := b.gl (by decide +kernel)
    have g__law_no_count : Gl X "_law_no_count" := b.gl (by decide +kernel)
    have g__law_right : Gl X "_law_right" := b.gl (by decide +kernel)
    have g__law_sums : Gl X "_law_sums" := b.gl (by decide +kernel)
    have g_range : Gl X "range" := b.gl (by decide +kernel)
    show ExS X W [0] (defBody s_law) F_law_13
    unfold F_law_13
    exact (exs_set n1 (by decide) (evr_call' c (ok_l_sums c.T) (by decide) g__law_sums tk (fun _ => nodfl) rfl (eva_cons (EvR.o evr_int) eva_nil) (alen_cons alen_nil))
  (exs_set n2 (by decide) (evr_bin op_mod op2_mod (EvR.o (evr_call' c (ok_l_at c.T) (by decide) g__law_at tk (fun _ => nodfl) rfl (eva_cons (evo_name n0.s) (eva_cons (EvR.o evr_int) eva_nil)) (alen_cons (alen_cons alen_nil)))) (EvR.o evr_int))
  (exs_for b (evi_range1 g_range c.T.b_range (eva_cons (EvR.o evr_int) eva_nil)) (tg_name n3 (by decide))
   (exs_if (evt_not (evt_of (EvR.o (evr_call' c (ok_l_right c.T) (by decide) g__law_right tk (fun _ => nodfl) rfl (eva_cons (EvR.o (evr_bin op_mod op2_mod (EvR.o (evr_bin opr_add op2_add (evo_name n2.s) (EvR.o (evr_bin opr_mul op2_mul (EvR.o evr_int) (evo_name n3.s))))) (EvR.o evr_int))) (eva_cons (evo_name n1.s) eva_nil)) (alen_cons (alen_cons alen_nil)))))) (exs_ret evr_bl) exs_nil
  exs_nil)
  (exs_for b (evi_any (evr_bin opr_add op2_add (EvR.o (evr_slice (evo_name n0.s) evp_none (evp_some (EvR.o evr_int)))) (EvR.o (evr_lst (eva_cons (EvR.o evr_int) eva_nil))))) (tg_name n4 (by decide))
   (exs_set n5 (by decide) (evr_call' c (ok_l_no_count c.T) (by decide) g__law_no_count tk (fun _ => nodfl) rfl (eva_cons (evo_name n4.s) eva_nil) (alen_cons alen_nil))
  (exs_for b (evi_range1 g_range c.T.b_range (eva_cons (EvR.o evr_int) eva_nil)) (tg_name n3 (by decide))
   (exs_if (evt_cmp (opr_ne c.u) op2_ne (EvR.o (evr_lc b [("_law_which", 6)] ⟨rfl, by decide +kernel, by decide +kernel, by decide +kernel, by decide +kernel⟩ (evi_range1 g_range c.T.b_range (eva_cons (EvR.o evr_int) eva_nil)) (tgb_name b rfl (by decide +kernel) (by decide)) (fun X' bl => by have c := c.blk bl; exact (evr_frz (evr_call' c (ok_l_asked c.T) (by decide) (Blk.gl (x := "_law_asked") bl b (by decide +kernel)) takes0 (fun _ => nodfl) rfl (eva_cons (evo_name (Blk.slot bl b (i := 6) (x := "_law_which") rfl (by unfold L2.Vis; decide +kernel))) (eva_cons (evo_name (Blk.slot bl b (i := 5) (x := "_law_odd") rfl (by unfold L2.Vis; decide +kernel))) eva_nil)) (alen_cons (alen_cons alen_nil))))))) (EvR.o (evr_bin opr_mul op2_mul (EvR.o (evr_lst (eva_cons (EvR.o evr_str) eva_nil))) (EvR.o evr_int)))) (exs_ret evr_bl) exs_nil
  exs_nil)
  exs_nil))
  (exs_ret (evr_and (evr_call' c (ok_l_right c.T) (by decide) g__law_right tk (fun _ => nodfl) rfl (eva_cons (evo_name n2.s) (eva_cons (evo_name n1.s) eva_nil)) (alen_cons (alen_cons alen_nil))) (evr_call' c (ok_l_right c.T) (by decide) g__law_right tk (fun _ => nodfl) rfl (eva_cons (EvR.o evr_int) (eva_cons (evo_name n1.s) eva_nil)) (alen_cons (alen_cons alen_nil)))))))))
theorem ok_law {P : Program} {w : World} {K : PySem.W.Frag} {mg : Str → Option Value} {base : Heap} (T : Prog w K mg) : Callee P w K mg base 8 "law" [] (spD 1 fn_law_13 K) :=
  callee_D T.f_law sc_law (fun _ _ _ _ _ _ us hl => match us, hl with | [_], _ => rfl) rfl rfl <| fun X e1 e2 e3 e4 e5 b W tk => by
    subst e1 e2 e3 e4 e5
    unfold fn_law_13
    dsimp only
    exact dv_law T b tk
end Law_k40
namespace Law_k40
open PySem L2 Evl QW FN
section
variable {P : Program} {w' : World} {K : PySem.W.Frag} {mg : Str → Option Value} {base : Heap}
def sp_law (K : PySem.W.Frag) : Sp := fun vs H Q _ => ∃ (a : Addr) (ns : List Int), vs = [.ref a] ∧ ns.length ≤ 63 ∧ SqL K H a (ns.map V.int) ∧ ∀ v H2, v = .bl true → Q v H2
abbrev lev : Nat := 8
theorem law_spD {vs : List V} {H : Hp} {Q : VK} {E : XK} (h : sp_law K vs H Q E) : DW.spD 1 fn_law_13 K vs H Q E := by
  obtain ⟨a, ns, rfl, hl, hs, q⟩ := h
  refine ⟨[.scr ns], H, [], [], rfl, ⟨.ref a, [], [], [], rfl, rfl, ⟨rfl, a, rfl, hs⟩, rfl, rfl⟩, Cfg.start, ?_⟩
  have e := (r_law ns).eq
  rw [e]
  intro v σ B' l fp H' _ _ _ hv _
  exact q v H' hv.1
theorem law_body (T : Prog w' K mg) : ∀ X : Cx, X.prog = P → X.w = w' → X.K = K → X.mg = mg → X.base = base → Bd X N_law (defScope s_law) 7 → ∀ E : XK, Takes X (fun c d _ H => E c d H) → ∀ vs H Q, sp_law K vs H Q E → wSs X (defBody s_law) { nx := fun _ H' => Q .non H', rt := Q } (L2.start N_law vs) H := by
  rintro X rfl rfl rfl rfl rfl b E tk vs H Q h
  refine DW.run_body (f := fn_law_13) (W := fun c d _ H => E c d H) (by rfl) ?_ (law_spD h)
  unfold fn_law_13
  dsimp only
  exact dv_law T b tk
theorem FnOk.weak {P : Program} {w : World} {K : PySem.W.Frag} {mg : Str → Option Value} {base : Heap} {k : Nat} {f : Addr} {fd : FuncData} {ps : List Str} {sp : Sp} {C1 C2 : CXT} (h : FnOk P w K mg base C1 k f fd ps sp) (hx : ∀ o H s E e s', C1 o H s E e s' → C2 o H s E e s') : FnOk P w K mg base C2 k f fd ps sp :=
  ⟨h.len, fun A outer s H args us vs Q E hr e0 hb r hs => codeAny_mono (h.run A outer s H args us vs Q E hr e0 hb r hs) fun r s' z => by
    cases r with
    | error e => exact hx _ _ _ _ _ _ z
    | ok fl => cases fl <;> exact z⟩
theorem law_fn {fa : Addr} (T : Prog w' K mg) (hm : mg "law" = some (.ref fa)) : ∃ fd, (∀ (s : Shared) (u : Value), BindsTo s fd ⟨[u], []⟩ [("_law_script", u)]) ∧ ∀ base, FnOk P w' K mg base (fun o H s E e s' => ∃ w, L2.CX P w o H s E e s') lev fa fd ["_law_script"] (sp_law K) := by
  obtain ⟨f, fd, F, hm'⟩ := T.f_law
  rw [hm] at hm'
  obtain rfl : fa = f := by injection (Option.some.inj hm')
  refine ⟨fd, fun s u => F.bindsA (ps := ["_law_script"]) (fun _ _ _ _ _ _ us hl => match us, hl with | [_], _ => rfl) s [u] rfl, fun base => ?_⟩
  exact FnOk.weak (fnOk_mk (k := 7) F sc_law (fun vs H Q E h => by obtain ⟨_, _, rfl, _⟩ := h; rfl) (law_body T)) fun o H s E e s' z => ⟨w', z⟩
theorem law_sp {H : Hp} (a : Addr) (ns : List Int) (hl : ns.length ≤ 63) (hS : SqL K H a (ns.map V.int)) : sp_law K [.ref a] H (fun v _ => v = .bl true) fun _ _ _ => False := ⟨a, ns, rfl, hl, hS, fun _ _ h => h⟩
end
end Law_k40
namespace Law_k40
open PySem L2 Evl QW DW FN
/-! ### the head -/
def fn : List He.DefD := [⟨("_law_sums", none), "_law_sums", "_law_sums", defArgs s_l_sums, defBody s_l_sums, defScope s_l_sums, [], []⟩,
  ⟨("_law_at", none), "_law_at", "_law_at", defArgs s_l_at, defBody s_l_at, defScope s_l_at, [], []⟩,
  ⟨("_law_no_count", none), "_law_no_count", "_law_no_count", defArgs s_l_no_count, defBody s_l_no_count, defScope s_l_no_count, [], []⟩,
  ⟨("is_whole", none), "is_whole", "is_whole", defArgs s_is_whole, defBody s_is_whole, defScope s_is_whole, [], []⟩,
  ⟨("look_count", none), "look_count", "look_count", defArgs s_look_count, defBody s_look_count, defScope s_look_count, [], []⟩,
  ⟨("words_of", none), "words_of", "words_of", defArgs s_words_of, defBody s_words_of, defScope s_words_of, [], []⟩,
  ⟨("count_words", none), "count_words", "count_words", defArgs s_count_words, defBody s_count_words, defScope s_count_words, [], []⟩,
  ⟨("_law_class", none), "_law_class", "_law_class", defArgs s_l_class, defBody s_l_class, defScope s_l_class, [], []⟩,
  ⟨("threes", none), "threes", "threes", defArgs s_threes, defBody s_threes, defScope s_threes, [], []⟩,
  ⟨("count_woods", none), "count_woods", "count_woods", defArgs s_count_woods, defBody s_count_woods, defScope s_count_woods, [], []⟩,
  ⟨("count_mixed", none), "count_mixed", "count_mixed", defArgs s_count_mixed, defBody s_count_mixed, defScope s_count_mixed, [], []⟩,
  ⟨("count_maps", none), "count_maps", "count_maps", defArgs s_count_maps, defBody s_count_maps, defScope s_count_maps, [], []⟩,
  ⟨("_law_asked", none), "_law_asked", "_law_asked", defArgs s_l_asked, defBody s_l_asked, defScope s_l_asked, [], []⟩,
  ⟨("_law_whole", none), "_law_whole", "_law_whole", defArgs s_l_whole, defBody s_l_whole, defScope s_l_whole, [], []⟩,
  ⟨("_law_threes", none), "_law_threes", "_law_threes", defArgs s_l_threes, defBody s_l_threes, defScope s_l_threes, [], []⟩,
  ⟨("_law_right", none), "_law_right", "_law_right", defArgs s_l_right, defBody s_l_right, defScope s_l_right, [], []⟩,
  ⟨("law", none), "law", "law", defArgs s_law, defBody s_law, defScope s_law, [], []⟩]
def fa : List He.Fa := [.free "ValueError", .free "bool", .free "int", .free "isinstance", .free "len", .free "range", .free "sum", .int "MOST_TIES" 60, .glo "_law_sums", .glo "_law_at", .glo "_law_no_count", .glo "is_whole", .glo "look_count", .glo "words_of", .glo "count_words", .glo "_law_class", .glo "threes", .glo "count_woods", .glo "count_mixed", .glo "count_maps", .glo "_law_asked", .glo "_law_whole", .glo "_law_threes", .glo "_law_right", .glo "law"]
def ts : List He.Tab := []
def ckl (K : PySem.W.Frag) : List Bool := [bndB K "Bare",
  bndB K "Bridge",
  bndB K "Loop",
  bndB K "NoBall",
  bndB K "NoCount",
  bndB K "NoDeed",
  bndB K "NoEnd",
  bndB K "NoJumps",
  bndB K "NoMark",
  bndB K "NoName",
  bndB K "NoNumber",
  bndB K "NoText",
  bndB K "NoTie",
  bndB K "NoTurns",
  bndB K "NoWay",
  bndB K "NoWhole",
  bndB K "NoWord",
  bndB K "NotFour",
  bndB K "NotTree",
  bndB K "QuadError",
  tgtB K "Bare",
  tgtB K "Bridge",
  tgtB K "Loop",
  tgtB K "NoBall",
  tgtB K "NoCount",
  tgtB K "NoDeed",
  tgtB K "NoEnd",
  tgtB K "NoJumps",
  tgtB K "NoMark",
  tgtB K "NoName",
  tgtB K "NoNumber",
  tgtB K "NoText",
  tgtB K "NoTie",
  tgtB K "NoTurns",
  tgtB K "NoWay",
  tgtB K "NoWhole",
  tgtB K "NoWord",
  tgtB K "NotFour",
  tgtB K "NotTree",
  tgtB K "QuadError",
  rz0B K "NoCount"]
def ck (K : PySem.W.Frag) : Bool := (ckl K).all fun b => b
theorem ck_at {K : PySem.W.Frag} (h : ck K = true) (i : Nat) {b : Bool} (e : (ckl K)[i]? = some b := by rfl) : b = true := List.all_eq_true.mp h b (List.mem_of_getElem? e)
abbrev R : PySem.W.OpenRow := PySem.W.OpenLaw.row PySem.Challenge.rw_quadwoods_k40_counts_told
abbrev hk : PySem.W.Hook := hookC 5 fa fn ts ck
def ob (s : PySem.W.SharedT) : AlC := obsCG 5 fa fn ts ck (HandSHeadRun.getT s)
theorem ob_eq (s : PySem.W.SharedT) : ob s = hk.obs s.abs := obsCG_eq (HandSHeadRun.getT_eq s)
def lo0 : List PySem.Str := ["QuadError", "NoMark", "NoEnd", "NoTie", "NoWay", "Bridge", "Loop", "Bare", "NoCount", "NoNumber", "NotTree", "NoDeed", "NoTurns", "NoWord", "NoJumps", "NoWhole", "NoBall", "NotFour", "NoText", "NoName", "is_whole", "MOST_TIES", "look_count", "words_of", "threes", "count_words", "count_woods", "count_maps", "count_mixed", "_law_at"]
def lo1 : List PySem.Str := ["_law_whole", "_law_threes", "_law_sums", "_law_class", "_law_no_count", "_law_asked", "_law_right"]
def loose : List PySem.Str := lo0 ++ lo1
theorem run (w : World) : HandSHeadRun.RunEq R (PySem.W.view R.prog [41]) hk ob 20000 loose w := PySem.W.byRow2 "special-get-raises" (P := fun w => HandSHeadRun.RunEq R (PySem.W.view R.prog [41]) hk ob 20000 loose w) (fun w os => by kernel_rfl) (fun w os => by kernel_rfl) w
theorem SaysC.mt {fa : List He.Fa} {fn : List He.DefD} {ts : List He.Tab} {ck : PySem.W.Frag → Bool} {w : World} {K : PySem.W.Frag} (c : SaysC fa fn ts ck w K) (i : Nat) {C m q : Str} {st : Stmt} {dl : List He.Dv} (e : fn[i]? = some ⟨(C, some m), m, q, defArgs st, defBody st, defScope st, dl, []⟩ := by rfl) : AtM K C m q st (dl.map (He.Dv.v K)) := c.t.d.def_ i e
theorem facts {w : World} {K : PySem.W.Frag} {h : Heap} {mg : Str → Option Value} (X : K.In h) (G : h.Ns mainGlobals mg) (c : SaysC fa fn ts ck w K) : Prog w K mg where
  b_ValueError := c.free X G 0
  b_bool := c.free X G 1
  b_int := c.free X G 2
  b_isinstance := c.free X G 3
  b_len := c.free X G 4
  b_range := c.free X G 5
  b_sum := c.free X G 6
  c_MOST_TIES := c.int X G 7
  f_l_sums := c.df X G 0 8
  f_l_at := c.df X G 1 9
  f_l_no_count := c.df X G 2 10
  f_is_whole := c.df X G 3 11
  f_look_count := c.df X G 4 12
  f_words_of := c.df X G 5 13
  f_count_words := c.df X G 6 14
  f_l_class := c.df X G 7 15
  f_threes := c.df X G 8 16
  f_count_woods := c.df X G 9 17
  f_count_mixed := c.df X G 10 18
  f_count_maps := c.df X G 11 19
  f_l_asked := c.df X G 12 20
  f_l_whole := c.df X G 13 21
  f_l_threes := c.df X G 14 22
  f_l_right := c.df X G 15 23
  f_law := c.df X G 16 24
  g_Bare := bnd_mg X G (ck_at c.own 0)
  g_Bridge := bnd_mg X G (ck_at c.own 1)
  g_Loop := bnd_mg X G (ck_at c.own 2)
  g_NoBall := bnd_mg X G (ck_at c.own 3)
  g_NoCount := bnd_mg X G (ck_at c.own 4)
  g_NoDeed := bnd_mg X G (ck_at c.own 5)
  g_NoEnd := bnd_mg X G (ck_at c.own 6)
  g_NoJumps := bnd_mg X G (ck_at c.own 7)
  g_NoMark := bnd_mg X G (ck_at c.own 8)
  g_NoName := bnd_mg X G (ck_at c.own 9)
  g_NoNumber := bnd_mg X G (ck_at c.own 10)
  g_NoText := bnd_mg X G (ck_at c.own 11)
  g_NoTie := bnd_mg X G (ck_at c.own 12)
  g_NoTurns := bnd_mg X G (ck_at c.own 13)
  g_NoWay := bnd_mg X G (ck_at c.own 14)
  g_NoWhole := bnd_mg X G (ck_at c.own 15)
  g_NoWord := bnd_mg X G (ck_at c.own 16)
  g_NotFour := bnd_mg X G (ck_at c.own 17)
  g_NotTree := bnd_mg X G (ck_at c.own 18)
  g_QuadError := bnd_mg X G (ck_at c.own 19)
  t_Bare := ⟨ck_at c.own 20⟩
  t_Bridge := ⟨ck_at c.own 21⟩
  t_Loop := ⟨ck_at c.own 22⟩
  t_NoBall := ⟨ck_at c.own 23⟩
  t_NoCount := ⟨ck_at c.own 24⟩
  t_NoDeed := ⟨ck_at c.own 25⟩
  t_NoEnd := ⟨ck_at c.own 26⟩
  t_NoJumps := ⟨ck_at c.own 27⟩
  t_NoMark := ⟨ck_at c.own 28⟩
  t_NoName := ⟨ck_at c.own 29⟩
  t_NoNumber := ⟨ck_at c.own 30⟩
  t_NoText := ⟨ck_at c.own 31⟩
  t_NoTie := ⟨ck_at c.own 32⟩
  t_NoTurns := ⟨ck_at c.own 33⟩
  t_NoWay := ⟨ck_at c.own 34⟩
  t_NoWhole := ⟨ck_at c.own 35⟩
  t_NoWord := ⟨ck_at c.own 36⟩
  t_NotFour := ⟨ck_at c.own 37⟩
  t_NotTree := ⟨ck_at c.own 38⟩
  t_QuadError := ⟨ck_at c.own 39⟩
  bd_QuadError := ck_at c.own 19
  r_NoCount := ⟨ck_at c.own 40⟩
end Law_k40
open PySem PySem.W PySem.Calls PyProof.Rows
theorem PySem.Challenge.cw_quadwoods_k40_counts_told_holds : PySem.Challenge.rw_quadwoods_k40_counts_told.Holds := by
  w_on; o_law
  refine HandSHeadRun.head_any (r := OpenLaw.row PySem.Challenge.rw_quadwoods_k40_counts_told) (q := view (OpenLaw.row PySem.Challenge.rw_quadwoods_k40_counts_told).prog [41]) (H := Law_k40.hk) (ob := Law_k40.ob) (M := 20000) (loose := Law_k40.loose) (d := HandSHeadRun.topDef (OpenLaw.row PySem.Challenge.rw_quadwoods_k40_counts_told).prog 41) (kwd := []) Law_k40.ob_eq
    (by kernel_rfl) (fun s => by kernel_rfl) Law_k40.run (by kernel_rfl) (by kernel_rfl) (by kernel_rfl) (by rfl) (by first | assumption | decide +kernel) (by decide +kernel) ⟨rfl, rfl, rfl, rfl, rfl, by decide +kernel⟩ ?hw ?hc
  case hw => w_witness2
  case hc =>
    refine L2.walk_ofE (l := PySem.Challenge.rw_quadwoods_k40_counts_told) (n := 63) (k := Law_k40.lev) (x := "_law_script") (CX := fun o H s E e s' => ∃ w, L2.CX (PySem.Challenge.rw_quadwoods_k40_counts_told).prog w o H s E e s') rfl (by decide) (by kernel_rfl) ⟨rfl, by decide, by decide⟩ ?F ?Z
    case F =>
      intro w mg fa h Y G hmg0
      obtain ⟨K, KX, c⟩ := Y
      have hmg : mg ("law" : PySem.Str) = some (.ref fa) := by
        have e : (HandSHeadRun.topDef (OpenLaw.row PySem.Challenge.rw_quadwoods_k40_counts_told).prog 41).name = ("law" : PySem.Str) := by kernel_rfl
        rw [← e]
        exact hmg0
      obtain ⟨fd, hb, hF⟩ := Law_k40.law_fn (P := (PySem.Challenge.rw_quadwoods_k40_counts_told).prog) (Law_k40.facts KX G c) hmg
      exact ⟨K, fd, Law_k40.sp_law K, KX, hb, fun H a ns hl _ hS => Law_k40.law_sp a ns hl hS, fun base _ _ => hF base⟩
    case Z =>
      rintro H s e s' ⟨w, z⟩
      obtain ⟨_, _, _, _, _, _, _, _, _, _, _, _, z⟩ := z
      exact z
