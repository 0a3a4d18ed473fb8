import PyProof.Rows.All
import Wide.All
import OpenK.AllK
import Wide.FinOn
import PySem.Challenge.RW_og0071_01
set_option Elab.async false
set_option maxRecDepth 100000
set_option rowWalk.seconds 0
set_option compiler.extract_closed false
section
open PySem PySem.W PyProof.Rows
namespace Mine
theorem rowSaid : (OpenLaw.row PySem.Challenge.rw_og0071_01).wellSaid = true := by kernel_rfl
theorem lawSaid : PySem.Challenge.rw_og0071_01.wellSaid = true := by
  unfold OpenLaw.wellSaid
  repeat' (with_reducible refine look_both ?_ ?_)
  exact rowSaid
  all_goals kernel_rfl
def view : Program := { PySem.Challenge.pw_og0071_01 with main := { PySem.Challenge.pw_og0071_01.main with body := [1,2,4,5,6,7,8,9,10,11,12,14,15,16,17,18,19,20,21,22,23,24,25,26].filterMap (PySem.Challenge.pw_og0071_01.main.body[·]?) } }
local macro_rules | `(tactic| o_head $H) => `(tactic| (
  refine holds_open (q := view) (loose := [Str.ofString "LedgerError"]) (Xt := fun s => xlAt view [] s && recOk (RowW.records (OpenRow.toRowW (OpenLaw.row PySem.Challenge.rw_og0071_01))) s) (XP := XL view []) (Yf := Hook.obs $H) (Ya := Hook.val $H) (YP := Hook.says $H) (N := 2516) ?hl (Hook.of $H) (Hook.keeps $H) (fun s e => xl_of s (Bool.and_eq_true_iff.mp e).1) XL.keeps (by rfl) (by rfl) (by rfl) (fun s e => recFacts_of (Bool.and_eq_true_iff.mp e).2) (by rfl) (by first | assumption | decide +kernel) (by decide +kernel) ⟨rfl, rfl, rfl, rfl, rfl, by decide +kernel⟩ ?hw ?hc
  case hl => (intro w; kernel_rfl)))
local macro_rules | `(tactic| o_law) => `(tactic| (refine holds_law lawSaid fun said => ?_))
set_option maxHeartbeats 8000000 in
open_top hd for PySem.Challenge.rw_og0071_01
end Mine
end
section
open PySem PySem.W PySem.Calls PyProof.Rows
namespace Mine
/-- long statements: one constructor each -/
inductive Ex1 {t0 : Type} (p : t0 → Prop) : Prop where
  | mk (x0 : t0) (h : p x0) : Ex1 p
inductive Ex2 {t0 : Type} {t1 : Type} (p : t0 → t1 → Prop) : Prop where
  | mk (x0 : t0) (x1 : t1) (h : p x0 x1) : Ex2 p
inductive Ex3 {t0 : Type} {t1 : Type} {t2 : Type} (p : t0 → t1 → t2 → Prop) : Prop where
  | mk (x0 : t0) (x1 : t1) (x2 : t2) (h : p x0 x1 x2) : Ex3 p
inductive Ex4 {t0 : Type} {t1 : Type} {t2 : Type} {t3 : Type} (p : t0 → t1 → t2 → t3 → Prop) : Prop where
  | mk (x0 : t0) (x1 : t1) (x2 : t2) (x3 : t3) (h : p x0 x1 x2 x3) : Ex4 p
inductive Ex5 {t0 : Type} {t1 : Type} {t2 : Type} {t3 : Type} {t4 : Type} (p : t0 → t1 → t2 → t3 → t4 → Prop) : Prop where
  | mk (x0 : t0) (x1 : t1) (x2 : t2) (x3 : t3) (x4 : t4) (h : p x0 x1 x2 x3 x4) : Ex5 p
inductive Ex6 {t0 : Type} {t1 : Type} {t2 : Type} {t3 : Type} {t4 : Type} {t5 : Type} (p : t0 → t1 → t2 → t3 → t4 → t5 → Prop) : Prop where
  | mk (x0 : t0) (x1 : t1) (x2 : t2) (x3 : t3) (x4 : t4) (x5 : t5) (h : p x0 x1 x2 x3 x4 x5) : Ex6 p
inductive Ex7 {t0 : Type} {t1 : Type} {t2 : Type} {t3 : Type} {t4 : Type} {t5 : Type} {t6 : Type} (p : t0 → t1 → t2 → t3 → t4 → t5 → t6 → Prop) : Prop where
  | mk (x0 : t0) (x1 : t1) (x2 : t2) (x3 : t3) (x4 : t4) (x5 : t5) (x6 : t6) (h : p x0 x1 x2 x3 x4 x5 x6) : Ex7 p
inductive Ex8 {t0 : Type} {t1 : Type} {t2 : Type} {t3 : Type} {t4 : Type} {t5 : Type} {t6 : Type} {t7 : Type} (p : t0 → t1 → t2 → t3 → t4 → t5 → t6 → t7 → Prop) : Prop where
  | mk (x0 : t0) (x1 : t1) (x2 : t2) (x3 : t3) (x4 : t4) (x5 : t5) (x6 : t6) (x7 : t7) (h : p x0 x1 x2 x3 x4 x5 x6 x7) : Ex8 p
inductive Ex9 {t0 : Type} {t1 : Type} {t2 : Type} {t3 : Type} {t4 : Type} {t5 : Type} {t6 : Type} {t7 : Type} {t8 : Type} (p : t0 → t1 → t2 → t3 → t4 → t5 → t6 → t7 → t8 → Prop) : Prop where
  | mk (x0 : t0) (x1 : t1) (x2 : t2) (x3 : t3) (x4 : t4) (x5 : t5) (x6 : t6) (x7 : t7) (x8 : t8) (h : p x0 x1 x2 x3 x4 x5 x6 x7 x8) : Ex9 p
inductive Ex10 {t0 : Type} {t1 : Type} {t2 : Type} {t3 : Type} {t4 : Type} {t5 : Type} {t6 : Type} {t7 : Type} {t8 : Type} {t9 : Type} (p : t0 → t1 → t2 → t3 → t4 → t5 → t6 → t7 → t8 → t9 → Prop) : Prop where
  | mk (x0 : t0) (x1 : t1) (x2 : t2) (x3 : t3) (x4 : t4) (x5 : t5) (x6 : t6) (x7 : t7) (x8 : t8) (x9 : t9) (h : p x0 x1 x2 x3 x4 x5 x6 x7 x8 x9) : Ex10 p
inductive Ex11 {t0 : Type} {t1 : Type} {t2 : Type} {t3 : Type} {t4 : Type} {t5 : Type} {t6 : Type} {t7 : Type} {t8 : Type} {t9 : Type} {t10 : Type} (p : t0 → t1 → t2 → t3 → t4 → t5 → t6 → t7 → t8 → t9 → t10 → Prop) : Prop where
  | mk (x0 : t0) (x1 : t1) (x2 : t2) (x3 : t3) (x4 : t4) (x5 : t5) (x6 : t6) (x7 : t7) (x8 : t8) (x9 : t9) (x10 : t10) (h : p x0 x1 x2 x3 x4 x5 x6 x7 x8 x9 x10) : Ex11 p
inductive Ex12 {t0 : Type} {t1 : Type} {t2 : Type} {t3 : Type} {t4 : Type} {t5 : Type} {t6 : Type} {t7 : Type} {t8 : Type} {t9 : Type} {t10 : Type} {t11 : Type} (p : t0 → t1 → t2 → t3 → t4 → t5 → t6 → t7 → t8 → t9 → t10 → t11 → Prop) : Prop where
  | mk (x0 : t0) (x1 : t1) (x2 : t2) (x3 : t3) (x4 : t4) (x5 : t5) (x6 : t6) (x7 : t7) (x8 : t8) (x9 : t9) (x10 : t10) (x11 : t11) (h : p x0 x1 x2 x3 x4 x5 x6 x7 x8 x9 x10 x11) : Ex12 p
inductive Ex13 {t0 : Type} {t1 : Type} {t2 : Type} {t3 : Type} {t4 : Type} {t5 : Type} {t6 : Type} {t7 : Type} {t8 : Type} {t9 : Type} {t10 : Type} {t11 : Type} {t12 : Type} (p : t0 → t1 → t2 → t3 → t4 → t5 → t6 → t7 → t8 → t9 → t10 → t11 → t12 → Prop) : Prop where
  | mk (x0 : t0) (x1 : t1) (x2 : t2) (x3 : t3) (x4 : t4) (x5 : t5) (x6 : t6) (x7 : t7) (x8 : t8) (x9 : t9) (x10 : t10) (x11 : t11) (x12 : t12) (h : p x0 x1 x2 x3 x4 x5 x6 x7 x8 x9 x10 x11 x12) : Ex13 p
inductive Ex14 {t0 : Type} {t1 : Type} {t2 : Type} {t3 : Type} {t4 : Type} {t5 : Type} {t6 : Type} {t7 : Type} {t8 : Type} {t9 : Type} {t10 : Type} {t11 : Type} {t12 : Type} {t13 : Type} (p : t0 → t1 → t2 → t3 → t4 → t5 → t6 → t7 → t8 → t9 → t10 → t11 → t12 → t13 → Prop) : Prop where
  | mk (x0 : t0) (x1 : t1) (x2 : t2) (x3 : t3) (x4 : t4) (x5 : t5) (x6 : t6) (x7 : t7) (x8 : t8) (x9 : t9) (x10 : t10) (x11 : t11) (x12 : t12) (x13 : t13) (h : p x0 x1 x2 x3 x4 x5 x6 x7 x8 x9 x10 x11 x12 x13) : Ex14 p
inductive An2 (p0 p1 : Prop) : Prop where
  | mk (h0 : p0) (h1 : p1) : An2 p0 p1
inductive An3 (p0 p1 p2 : Prop) : Prop where
  | mk (h0 : p0) (h1 : p1) (h2 : p2) : An3 p0 p1 p2
inductive An4 (p0 p1 p2 p3 : Prop) : Prop where
  | mk (h0 : p0) (h1 : p1) (h2 : p2) (h3 : p3) : An4 p0 p1 p2 p3
inductive An5 (p0 p1 p2 p3 p4 : Prop) : Prop where
  | mk (h0 : p0) (h1 : p1) (h2 : p2) (h3 : p3) (h4 : p4) : An5 p0 p1 p2 p3 p4
inductive An6 (p0 p1 p2 p3 p4 p5 : Prop) : Prop where
  | mk (h0 : p0) (h1 : p1) (h2 : p2) (h3 : p3) (h4 : p4) (h5 : p5) : An6 p0 p1 p2 p3 p4 p5
inductive An7 (p0 p1 p2 p3 p4 p5 p6 : Prop) : Prop where
  | mk (h0 : p0) (h1 : p1) (h2 : p2) (h3 : p3) (h4 : p4) (h5 : p5) (h6 : p6) : An7 p0 p1 p2 p3 p4 p5 p6
inductive An8 (p0 p1 p2 p3 p4 p5 p6 p7 : Prop) : Prop where
  | mk (h0 : p0) (h1 : p1) (h2 : p2) (h3 : p3) (h4 : p4) (h5 : p5) (h6 : p6) (h7 : p7) : An8 p0 p1 p2 p3 p4 p5 p6 p7
inductive An9 (p0 p1 p2 p3 p4 p5 p6 p7 p8 : Prop) : Prop where
  | mk (h0 : p0) (h1 : p1) (h2 : p2) (h3 : p3) (h4 : p4) (h5 : p5) (h6 : p6) (h7 : p7) (h8 : p8) : An9 p0 p1 p2 p3 p4 p5 p6 p7 p8
inductive An10 (p0 p1 p2 p3 p4 p5 p6 p7 p8 p9 : Prop) : Prop where
  | mk (h0 : p0) (h1 : p1) (h2 : p2) (h3 : p3) (h4 : p4) (h5 : p5) (h6 : p6) (h7 : p7) (h8 : p8) (h9 : p9) : An10 p0 p1 p2 p3 p4 p5 p6 p7 p8 p9
inductive An11 (p0 p1 p2 p3 p4 p5 p6 p7 p8 p9 p10 : Prop) : Prop where
  | mk (h0 : p0) (h1 : p1) (h2 : p2) (h3 : p3) (h4 : p4) (h5 : p5) (h6 : p6) (h7 : p7) (h8 : p8) (h9 : p9) (h10 : p10) : An11 p0 p1 p2 p3 p4 p5 p6 p7 p8 p9 p10
inductive An12 (p0 p1 p2 p3 p4 p5 p6 p7 p8 p9 p10 p11 : Prop) : Prop where
  | mk (h0 : p0) (h1 : p1) (h2 : p2) (h3 : p3) (h4 : p4) (h5 : p5) (h6 : p6) (h7 : p7) (h8 : p8) (h9 : p9) (h10 : p10) (h11 : p11) : An12 p0 p1 p2 p3 p4 p5 p6 p7 p8 p9 p10 p11
inductive An13 (p0 p1 p2 p3 p4 p5 p6 p7 p8 p9 p10 p11 p12 : Prop) : Prop where
  | mk (h0 : p0) (h1 : p1) (h2 : p2) (h3 : p3) (h4 : p4) (h5 : p5) (h6 : p6) (h7 : p7) (h8 : p8) (h9 : p9) (h10 : p10) (h11 : p11) (h12 : p12) : An13 p0 p1 p2 p3 p4 p5 p6 p7 p8 p9 p10 p11 p12
inductive An14 (p0 p1 p2 p3 p4 p5 p6 p7 p8 p9 p10 p11 p12 p13 : Prop) : Prop where
  | mk (h0 : p0) (h1 : p1) (h2 : p2) (h3 : p3) (h4 : p4) (h5 : p5) (h6 : p6) (h7 : p7) (h8 : p8) (h9 : p9) (h10 : p10) (h11 : p11) (h12 : p12) (h13 : p13) : An14 p0 p1 p2 p3 p4 p5 p6 p7 p8 p9 p10 p11 p12 p13
abbrev prog : Program := PySem.Challenge.pw_og0071_01
/-- what stands of the top in a heap -/
structure Base (w : World) (p : Program) (loose : List Str) (mean : ExcName → Option Value) (mg mb : Str → Option Value) (g : Heap) : Prop where
  k : (hd.heap_1 w.params).In g
  t : Top p loose mean mg mb g

def Keeps (h h' : Heap) : Prop := ∀ b o, h.get? b = some o → h'.get? b = some o

theorem Base.keeps {w p loose mean mg mb g g'} (B : Base w p loose mean mg mb g) (k : Keeps g g') : Base w p loose mean mg mb g' := ⟨B.k.keeps k, B.t.keeps k⟩

section
variable {w : World} {p : Program} {loose : List Str} {mean : ExcName → Option Value} {mg mb : Str → Option Value} {A : Around} {s : Shared} {Q E : Value → Shared → Prop}
theorem enter {name qual : Str} {params : Arguments} {body : List Stmt} {scope : Scope} {dV kV doc pm cdv ct oc : Value} {an od : Option Addr} {osl : Array (Option Value)} {f : Addr} {args : List Value} {binds : List (Str × Value)}
    (B : Base w p loose mean mg mb s.heap) (hroom : A.depth < recursionLimit)
    (ho : (hd.heap_1 w.params).lookup f = some ⟨oc, od, .func (fnOf name qual params body scope dV kV doc pm an cdv ct), osl⟩) (hcd : codeIn (hd.heap_1 w.params) cdv qual = true)
    (hbind : BindsTo s (fnOf name qual params body scope dV kV doc pm an cdv ct) ⟨args, []⟩ binds) (hloc : ∀ y ∈ binds, scope.names.lookup y.1 = some .local)
    (h : ∀ L h₁ tkE, Fr s.heap L h₁ (fun y => binds.reverse.lookup y) → 
      wpAny (model prog w) (A.deeper (envOf qual scope L f cdv)) (execs body (envOf qual scope L f cdv))
        (fun fl s' => Q (match fl with | .ret v => v | _ => .none) s') (fun _ _ => False)
        { s with heap := h₁, toks := tkE })
    (hco : scope.isCoroutine = false) (hgen : scope.isGenerator = false) (hk : scope.kind = .function)
    (hcell : ∀ x ∈ scope.names, x.2 ≠ .cell) : wpAny (model prog w) A (call (.ref f) args) Q E s := by
  refine wpAny_call ?_
  refine codeAny_call_def (fd := fnOf name qual params body scope dV kV doc pm an cdv ct) (body := body) (binds := binds) hroom (B.k _ _ ho) rfl B.t.nolimit (codeRec_of B.k hcd) rfl hbind hcell hloc (fun h₁ hns hk₁ => ?_) hco hgen hk
  exact wpAny_mono (h s.heap.objs.size h₁ _ ⟨hns, hk₁, Nat.le_refl _⟩) (fun _ _ x => x) (fun _ _ x => x.elim)
end
end Mine
end
section
open PySem PySem.W PySem.Calls PyProof.Rows
namespace Mine
theorem filled : PySem.Challenge.rw_og0071_01 = PySem.Challenge.rw_og0071_01 ∧ hd.heap_1 = hd.heap_1 := by
  k_fill
  exact ⟨rfl, rfl⟩

abbrev Led := List (Addr × Obj)
abbrev AP := Addr → Obj → Prop
/-- data that a value stands for -/
inductive D where
  | none
  | bool (b : Bool)
  | int (i : Int)
  | bytes (l : List UInt8)
  | tup (ds : List D)
  | list (ds : List D)
abbrev tupO (vs : Array Value) (n : Nat) : Obj := { cls := .type "tuple", data := .seq vs n }
mutual
inductive Rd (P : AP) : Value → D → Prop
  | none : Rd P .none .none
  | bool (b : Bool) : Rd P (.bool b) (.bool b)
  | int (i : Int) (t : Tok) : Rd P (.int i t) (.int i)
  | bytes (l : List UInt8) (t : Tok) : Rd P (.bytes l.toArray t) (.bytes l)
  | tup {a : Addr} {vs : List Value} {n : Nat} {ds : List D} : P a (tupO vs.toArray n) → RdAll P vs ds → Rd P (.ref a) (.tup ds)
  | list {a : Addr} {vs : List Value} {n : Nat} {ds : List D} : P a (listOf vs.toArray n) → RdAll P vs ds → Rd P (.ref a) (.list ds)
inductive RdAll (P : AP) : List Value → List D → Prop
  | nil : RdAll P [] []
  | cons {v : Value} {vs : List Value} {d : D} {ds : List D} : Rd P v d → RdAll P vs ds → RdAll P (v :: vs) (d :: ds)
end
mutual
theorem Rd.mono {P P' : AP} (hs : ∀ a o, P a o → P' a o) : ∀ {v : Value} {d : D}, Rd P v d → Rd P' v d
  | _, _, .none => .none
  | _, _, .bool b => .bool b
  | _, _, .int i t => .int i t
  | _, _, .bytes b t => .bytes b t
  | _, _, .tup h r => .tup (hs _ _ h) (RdAll.mono hs r)
  | _, _, .list h r => .list (hs _ _ h) (RdAll.mono hs r)
theorem RdAll.mono {P P' : AP} (hs : ∀ a o, P a o → P' a o) : ∀ {vs : List Value} {ds : List D}, RdAll P vs ds → RdAll P' vs ds
  | _, _, .nil => .nil
  | _, _, .cons h r => .cons (Rd.mono hs h) (RdAll.mono hs r)
end
section
variable {P : AP} {v : Value} {d : D} {vs ws : List Value} {ds es : List D}
theorem RdAll.length (h : RdAll P vs ds) : vs.length = ds.length := by
  induction vs generalizing ds with
  | nil => cases h; rfl
  | cons v vs ih =>
    cases h with
    | cons _ r => rw [List.length_cons, List.length_cons, ih r]
theorem RdAll.append (h : RdAll P vs ds) (k : RdAll P ws es) : RdAll P (vs ++ ws) (ds ++ es) := by
  induction vs generalizing ds with
  | nil => cases h; exact k
  | cons v vs ih =>
    cases h with
    | cons h r => exact .cons h (ih r)
theorem RdAll.one (h : Rd P v d) : RdAll P [v] [d] := .cons h .nil
theorem RdAll.get (h : RdAll P vs ds) {k : Nat} (hk : k < ds.length) : ∃ v, vs[k]? = some v ∧ Rd P v (ds[k]'hk) := by
  induction vs generalizing ds k with
  | nil => cases h; exact absurd hk (Nat.not_lt_zero _)
  | cons v vs ih =>
    cases h with
    | cons h r =>
      cases k with
      | zero => exact ⟨v, rfl, h⟩
      | succ k => exact ih r (Nat.lt_of_succ_lt_succ hk)
theorem RdAll.at (h : RdAll P vs ds) {k : Nat} (hk : vs[k]? = some v) : ∃ d, ds[k]? = some d ∧ Rd P v d := by
  induction vs generalizing ds k with
  | nil => simp at hk
  | cons u vs ih =>
    cases h with
    | cons h r =>
      cases k with
      | zero => simp at hk; subst hk; exact ⟨_, rfl, h⟩
      | succ k => exact ih r (by simpa using hk)
end
abbrev H (h : Heap) : AP := fun a o => h.get? a = some o
abbrev InL (nx : Led) : AP := fun a o => (a, o) ∈ nx
theorem subNil {S : Led} : ∀ q ∈ ([] : Led), q ∈ S := fun _ h => by cases h
theorem subId {S : Led} : ∀ q ∈ S, q ∈ S := fun _ h => h
theorem subCons {x : Addr × Obj} {T S : Led} (h : x ∈ S) (k : ∀ q ∈ T, q ∈ S) : ∀ q ∈ x :: T, q ∈ S := fun q hq => (List.mem_cons.mp hq).elim (fun e => e ▸ h) (k q)
theorem subApp {A B S : Led} (h : ∀ q ∈ A, q ∈ S) (k : ∀ q ∈ B, q ∈ S) : ∀ q ∈ A ++ B, q ∈ S := fun q hq => (List.mem_append.mp hq).elim (h q) (k q)
theorem subTail {x : Addr × Obj} {T S : Led} (k : ∀ q ∈ T, q ∈ S) : ∀ q ∈ T, q ∈ x :: S := fun q hq => .tail _ (k q hq)
theorem subInl {T A B : Led} (k : ∀ q ∈ T, q ∈ A) : ∀ q ∈ T, q ∈ A ++ B := fun q hq => List.mem_append_left _ (k q hq)
theorem subInr {T A B : Led} (k : ∀ q ∈ T, q ∈ B) : ∀ q ∈ T, q ∈ A ++ B := fun q hq => List.mem_append_right _ (k q hq)
theorem subInL {T S : Led} (k : ∀ q ∈ T, q ∈ S) : ∀ a o, InL T a o → InL S a o := fun a o h => k (a, o) h
abbrev Un (P : AP) (nx : Led) : AP := fun a o => P a o ∨ (a, o) ∈ nx
abbrev No : AP := fun _ _ => False

theorem Rd.isTuple {h : Heap} {v : Value} {ds : List D} (r : Rd (H h) v (.tup ds)) : Ex2 fun a vs => An3 (v = .ref a) (h.IsTuple a vs.toArray) (RdAll (H h) vs ds) := by
  cases r with
  | tup h r => exact ⟨_, _, rfl, ⟨_, h, rfl, _, rfl⟩, r⟩
theorem Rd.isList {h : Heap} {v : Value} {ds : List D} (r : Rd (H h) v (.list ds)) : Ex2 fun a vs => An3 (v = .ref a) (h.IsList a vs.toArray) (RdAll (H h) vs ds) := by
  cases r with
  | list h r => exact ⟨_, _, rfl, ⟨_, h, rfl, _, rfl⟩, r⟩

/- equal data compare equal -/
mutual
def dep : D → Nat
  | .tup ds => depAll ds + 1
  | .list ds => depAll ds + 1
  | _ => 0
def depAll : List D → Nat
  | [] => 0
  | d :: ds => max (dep d) (depAll ds)
end
section
variable {A : Around} {s : Shared}
open PySem.SeqAt
theorem EqAt.bytes_bytes (b c : Array UInt8) (t u : Tok) : EqAt A s (.bytes b t) (.bytes c u) (b.toList == c.toList) := fun prog w E Q h => by
  unfold eqBool
  refine wpAny_holding ?_
  refine wpAny_ite_split (fun hab => ?_) (fun _ => ?_)
  · have e : b = c := by have := eq_of_beq hab; injection this
    subst e
    exact wpAny_bind (wpAny_rule (wpAny_pure (by simpa using h)))
  · exact wpAny_bind (richCompare_gives (op := .Eq) (typeIs_bytes s b t) (typeIs_bytes s c u) FB.slot_bytes_eq FB.entry_bytes_eq (FB.args_bytes_eq_2 _ _) (gives_bytes_eq b c t u) (fun e => nomatch e) (wpAny_truthy_bool h))
theorem all_true {n : Nat} : (List.range n).all (fun _ => true) = true := by simp
mutual
theorem rd_eqAt : ∀ (d : D) (A : Around) (s : Shared) (v v' : Value), Rd (H s.heap) v d → Rd (H s.heap) v' d → A.units + dep d + 1 < cLine → EqAt A s v v' true
  | .none, A, s, _, _, h, h', _ => by cases h; cases h'; exact EqAt.same _
  | .bool b, A, s, _, _, h, h', _ => by cases h; cases h'; exact EqAt.same _
  | .int i, A, s, _, _, h, h', _ => by
    cases h; cases h'
    rename_i t u
    have := EqAt.int_int (A := A) (s := s) i t i u
    simpa using this
  | .bytes l, A, s, _, _, h, h', _ => by
    cases h; cases h'
    rename_i t u
    have := EqAt.bytes_bytes (A := A) (s := s) l.toArray l.toArray t u
    simpa using this
  | .tup ds, A, s, _, _, h, h', hu => by
    cases h with
    | @tup a vs n _ h1 r1 =>
      cases h' with
      | @tup a' vs' n' _ h2 r2 =>
        by_cases e : a = a'
        · subst e; exact EqAt.same _
        · have hl := r1.length
          have hl' := r2.length
          have hdep : dep (.tup ds) = depAll ds + 1 := by simp [dep]
          have q := RcAt.tuples (A := A) (s := s) (l := a) (b := a') (items := vs.toArray) (items2 := vs'.toArray) (e := fun _ => true) ⟨_, h1, rfl, _, rfl⟩ ⟨_, h2, rfl, _, rfl⟩ (by omega) fun j j1 j2 => by
            have := rd_eqAll ds A.in1 s vs vs' r1 r2 (by show A.units + 1 + depAll ds + 1 < cLine; omega) j (by simpa using j1) (by simpa using j2)
            simpa using this
          have e2 : ((List.range (min vs.toArray.size vs'.toArray.size)).all (fun _ => true) && vs.toArray.size == vs'.toArray.size) = true := by simp [hl, hl']
          rw [e2] at q
          exact EqAt.of_refs e q
  | .list ds, A, s, _, _, h, h', hu => by
    cases h with
    | @list a vs n _ h1 r1 =>
      cases h' with
      | @list a' vs' n' _ h2 r2 =>
        by_cases e : a = a'
        · subst e; exact EqAt.same _
        · have hl := r1.length
          have hl' := r2.length
          have hdep : dep (.list ds) = depAll ds + 1 := by simp [dep]
          have q := RcAt.lists (A := A) (s := s) (l := a) (b := a') (items := vs.toArray) (items2 := vs'.toArray) (e := fun _ => true) ⟨_, h1, rfl, _, rfl⟩ ⟨_, h2, rfl, _, rfl⟩ (by simp [hl, hl']) (by omega) fun j j1 j2 => by
            have := rd_eqAll ds A.in1 s vs vs' r1 r2 (by show A.units + 1 + depAll ds + 1 < cLine; omega) j (by simpa using j1) (by simpa using j2)
            simpa using this
          rw [all_true] at q
          exact EqAt.of_refs e q
theorem rd_eqAll : ∀ (ds : List D) (A : Around) (s : Shared) (vs vs' : List Value), RdAll (H s.heap) vs ds → RdAll (H s.heap) vs' ds → A.units + depAll ds + 1 < cLine → ∀ j (h1 : j < vs.length) (h2 : j < vs'.length), EqAt A s vs[j] vs'[j] true
  | [], _, _, _, _, h, _, _, j, h1, _ => by cases h; exact absurd h1 (Nat.not_lt_zero _)
  | d :: ds, A, s, _, _, h, h', hu, j, h1, h2 => by
    have hdep : depAll (d :: ds) = max (dep d) (depAll ds) := by simp [depAll]
    cases h with
    | cons r rs =>
      cases h' with
      | cons r' rs' =>
        cases j with
        | zero => exact rd_eqAt d A s _ _ r r' (by omega)
        | succ j => exact rd_eqAll ds A s _ _ rs rs' (by omega) j (Nat.lt_of_succ_lt_succ h1) (Nat.lt_of_succ_lt_succ h2)
end
variable {w : World} {E : Value → Shared → Prop} {Q : Value → Shared → Prop} {v v' : Value} {d : D}
theorem eq_tup {ds : List D} (h : Rd (H s.heap) v (.tup ds)) (h' : Rd (H s.heap) v' (.tup ds)) (hu : A.units + depAll ds + 3 < cLine) (hQ : Q (.bool true) s) : wpAny (model prog w) A (compareOp .Eq v v') Q E s := by
  obtain ⟨a, vs, rfl, t1, r1⟩ := h.isTuple
  obtain ⟨a', vs', rfl, t2, r2⟩ := h'.isTuple
  have hl := r1.length
  have hl' := r2.length
  have q := RcAt.tuples (A := A) (s := s) (l := a) (b := a') (items := vs.toArray) (items2 := vs'.toArray) (e := fun _ => true) t1 t2 (by omega) fun j j1 j2 => by
    have := rd_eqAll ds A.in1 s vs vs' r1 r2 (by show A.units + 1 + depAll ds + 1 < cLine; omega) j (by simpa using j1) (by simpa using j2)
    simpa using this
  have e2 : ((List.range (min vs.toArray.size vs'.toArray.size)).all (fun _ => true) && vs.toArray.size == vs'.toArray.size) = true := by simp [hl, hl']
  rw [e2] at q
  exact q prog w E Q hQ
theorem ne_tup {ds : List D} (h : Rd (H s.heap) v (.tup ds)) (h' : Rd (H s.heap) v' (.tup ds)) (hu : A.units + depAll ds + 3 < cLine) (hQ : Q (.bool false) s) : wpAny (model prog w) A (compareOp .NotEq v v') Q E s := by
  obtain ⟨a, vs, rfl, t1, r1⟩ := h.isTuple
  obtain ⟨a', vs', rfl, t2, r2⟩ := h'.isTuple
  have hl := r1.length
  have hl' := r2.length
  have q := RcNeAt.tuples (A := A) (s := s) (l := a) (b := a') (items := vs.toArray) (items2 := vs'.toArray) (e := fun _ => true) t1 t2 (by omega) fun j j1 j2 => by
    have := rd_eqAll ds A.in1 s vs vs' r1 r2 (by show A.units + 1 + depAll ds + 1 < cLine; omega) j (by simpa using j1) (by simpa using j2)
    simpa using this
  have e2 : ((List.range (min vs.toArray.size vs'.toArray.size)).all (fun _ => true) && vs.toArray.size == vs'.toArray.size) = true := by simp [hl, hl']
  rw [e2] at q
  exact q prog w E Q hQ
/-- a list against the empty list -/
theorem eq_nil {a b : Addr} {vs : List Value} (h : s.heap.IsList a vs.toArray := by k_dflt (walk_at "mine li")) (h' : s.heap.IsList b #[] := by k_dflt (walk_at "mine li")) (hu : A.units < cLine := by walk_at "ku") (hQ : Q (.bool vs.isEmpty) s) : wpAny (model prog w) A (compareOp .Eq (.ref a) (.ref b)) Q E s := by
  cases vs with
  | nil => exact RcAt.lists (e := fun _ => true) h h' rfl hu (fun j j1 _ => absurd j1 (by simp)) prog w E Q (by simpa using hQ)
  | cons v vs => exact RcAt.lists_lengths h h' (by simp) hu prog w E Q (by simpa using hQ)
theorem ne_nil {a b : Addr} {vs : List Value} (h : s.heap.IsList a vs.toArray := by k_dflt (walk_at "mine li")) (h' : s.heap.IsList b #[] := by k_dflt (walk_at "mine li")) (hu : A.units < cLine := by walk_at "ku") (hQ : Q (.bool (!vs.isEmpty)) s) : wpAny (model prog w) A (compareOp .NotEq (.ref a) (.ref b)) Q E s := by
  cases vs with
  | nil => exact RcNeAt.lists (e := fun _ => true) h h' rfl hu (fun j j1 _ => absurd j1 (by simp)) prog w E Q (by simpa using hQ)
  | cons v vs => exact RcNeAt.lists_lengths h h' (by simp) hu prog w E Q (by simpa using hQ)
end

/-- what a pure step leaves -/
def Fresh (h h' : Heap) (nx : Led) : Prop := ∀ p ∈ nx, h'.get? p.1 = some p.2 ∧ h.get? p.1 = none
def Pure (w : World) (A : Around) (t : Sem Value) (P : AP) (s : Shared) (R : D) : Prop :=
  ∀ (Q E : Value → Shared → Prop), (∀ v h' tk' nx, Keeps s.heap h' → Fresh s.heap h' nx → Rd (Un P nx) v R → Q v { s with heap := h', toks := tk' }) → wpAny (model prog w) A t Q E s

structure Ok (k : Nat) (A : Around) : Prop where
  h : A.handled = none
  d : A.depth + k ≤ 900
  u : A.units + 200 * k ≤ 9000
theorem Ok.deeper {k : Nat} {A : Around} {env : Env} (o : Ok (k + 1) A) : Ok k (A.deeper env) :=
  ⟨o.h, by have := o.d; show A.depth + 1 + k ≤ 900; omega, by have := o.u; show A.units + 3 + 200 * k ≤ 9000; omega⟩
theorem Ok.less {k j : Nat} {A : Around} (o : Ok k A) (h : j ≤ k) : Ok j A :=
  ⟨o.h, by have := o.d; omega, by have := o.u; omega⟩
theorem Ok.room {k : Nat} {A : Around} (o : Ok k A) : A.depth < recursionLimit := by have := o.d; show A.depth < 1000; omega
theorem Ok.units {k j : Nat} {A : Around} (o : Ok k A) (h : j < 200 * k + 800) : A.units + j < cLine := by have := o.u; show A.units + j < 9900; omega

section
variable {w : World} {A : Around} {s : Shared} {E : Value → Shared → Prop} {g : Heap} {L : Addr} {m : Str → Option Value} {news : Led} {h' : Heap}
theorem frKept (F : Fr g L s.heap m) (k : Keeps s.heap h') : Fr g L h' m := F.keptAll k
theorem newsKept {h : Heap} (N : News g L h news) (k : Keeps h h') : News g L h' news := N.grown k
theorem newsFresh {h : Heap} {nx : Led} (F : Fr g L h m) (N : News g L h news) (k : Keeps h h') (f : Fresh h h' nx) : News g L h' (nx ++ news) := by
  intro p hp
  rcases List.mem_append.mp hp with hp | hp
  · refine ⟨(f p hp).1, fun e => ?_, ?_⟩
    · obtain ⟨o, _, _, ho, _⟩ := F.ns
      have := (f p hp).2
      rw [e, ho] at this; cases this
    · cases q : g.get? p.1 with
      | none => rfl
      | some o => have := (f p hp).2; rw [F.keep _ _ q] at this; cases this
  · exact newsKept N k p hp
theorem Fresh.apart {h : Heap} {nx : Led} (N : News g L h news) (f : Fresh h h' nx) : ∀ p ∈ nx, ∀ q ∈ news, p.1 ≠ q.1 := by
  intro p hp q hq e
  have h1 := (f p hp).2
  have h2 := (N q hq).1
  rw [e, h2] at h1; cases h1
theorem Pure.use {t : Sem Value} {P : AP} {R : D} {Q : Value → Shared → Prop} (h : Pure w A t P s R) (F : Fr g L s.heap m) (N : News g L s.heap news)
    (hQ : ∀ v h' tk' nx, Fr g L h' m → News g L h' (nx ++ news) → (∀ p ∈ nx, ∀ q ∈ news, p.1 ≠ q.1) → Rd (Un P nx) v R → Q v { s with heap := h', toks := tk' }) : wpAny (model prog w) A t Q E s :=
  h Q E fun v h' tk' nx k f r => hQ v h' tk' nx (frKept F k) (newsFresh F N k f) (Fresh.apart N f) r
theorem Rd.base {v : Value} {d : D} {h : Heap} (r : Rd (H g) v d) (F : Fr g L h m) : Rd (H h) v d := r.mono F.keep
theorem Rd.led {v : Value} {d : D} {h : Heap} {nx : Led} (r : Rd (InL nx) v d) (N : News g L h news) (hs : ∀ p ∈ nx, p ∈ news) : Rd (H h) v d := r.mono fun _ _ hm => (N _ (hs _ hm)).1
theorem Rd.un {v : Value} {d : D} {h : Heap} {nx : Led} {P : AP} (r : Rd (Un P nx) v d) (hP : ∀ a o, P a o → h.get? a = some o) (N : News g L h news) (hs : ∀ p ∈ nx, p ∈ news) : Rd (H h) v d := r.mono fun _ _ hm => hm.elim (hP _ _) fun hm => (N _ (hs _ hm)).1
theorem Rd.noUn {v : Value} {d : D} {nx : Led} (r : Rd (Un No nx) v d) : Rd (InL nx) v d := r.mono fun _ _ h => h.elim (fun h => h.elim) id
end

/-- a slice's list -/
def cut (b : List UInt8) (lo hi : Int) : List UInt8 := (b.drop lo.toNat).take (hi.toNat - lo.toNat)
theorem subSucc {i m : Nat} (h : i < m) : m - i = m - (i + 1) + 1 := by rw [Nat.sub_add_eq]; exact (Nat.sub_add_cancel (Nat.sub_pos_of_lt h)).symm
theorem cut_len (b : List UInt8) (lo hi : Int) : (cut b lo hi).length ≤ b.length := by
  unfold cut; rw [List.length_take, List.length_drop]; exact Nat.le_trans (Nat.min_le_right _ _) (Nat.sub_le _ _)
theorem picked_both (b : List UInt8) {lo hi : Int} (h0 : 0 ≤ lo) (h1 : 0 ≤ hi) : KBy.picked b.toArray (some lo) (some hi) = (cut b lo hi).toArray := by
  rw [KBc.picked_eq]
  obtain ⟨a, rfl⟩ := Int.eq_ofNat_of_zero_le h0
  obtain ⟨c, rfl⟩ := Int.eq_ofNat_of_zero_le h1
  simp only [Option.elim, List.size_toArray, clipAt_nat]
  congr 1
  unfold cut
  simp only [Int.toNat_natCast]
  by_cases ha : a ≤ b.length
  · rw [Nat.min_eq_left ha]
    by_cases hc : c ≤ b.length
    · rw [Nat.min_eq_left hc]
    · rw [Nat.min_eq_right (by omega), List.take_of_length_le (by simp), List.take_of_length_le (by simp; omega)]
  · rw [Nat.min_eq_right (a := a) (by omega), List.drop_of_length_le (Nat.le_refl _), List.drop_of_length_le (i := a) (by omega)]
    simp
theorem picked_from (b : List UInt8) {lo : Int} (h0 : 0 ≤ lo) : KBy.picked b.toArray (some lo) none = (b.drop lo.toNat).toArray := by
  rw [KBc.picked_eq]
  obtain ⟨a, rfl⟩ := Int.eq_ofNat_of_zero_le h0
  simp only [Option.elim, List.size_toArray, clipAt_nat]
  congr 1
  simp only [Int.toNat_natCast]
  by_cases ha : a ≤ b.length
  · rw [Nat.min_eq_left ha, List.take_of_length_le (by simp)]
  · rw [Nat.min_eq_right (by omega), List.drop_of_length_le (by simp), List.drop_of_length_le (by omega)]
    simp
theorem picked_to (b : List UInt8) {hi : Int} (h0 : 0 ≤ hi) : KBy.picked b.toArray none (some hi) = (b.take hi.toNat).toArray := by
  rw [KBc.picked_eq]
  obtain ⟨a, rfl⟩ := Int.eq_ofNat_of_zero_le h0
  simp only [Option.elim, List.size_toArray, clipAt_nat]
  congr 1
  simp only [Int.toNat_natCast, List.drop_zero, Nat.sub_zero]
  by_cases ha : a ≤ b.length
  · rw [Nat.min_eq_left ha]
  · rw [Nat.min_eq_right (by omega), List.take_of_length_le (by simp), List.take_of_length_le (by omega)]
section
variable {w : World} {A : Around} {s : Shared} {E : Value → Shared → Prop} {Q : Value → Shared → Prop} {g : Heap} {L : Addr} {m : Str → Option Value} {news : Led} {value slice : PySem.Expr} {t t1 t2 : Tok}
theorem slice_any {b c : List UInt8} {l u : Value} {lo hi : Option Int} (e : KBy.picked b.toArray lo hi = c.toArray) (hF : Fr g L s.heap m) (hN : News g L s.heap news) (hl : IsPart l lo) (hu : IsPart u hi) (hz : b.length ≤ 16777216)
    (h : ∀ h' t' k, Fr g L h' m → News g L h' news → Q (.bytes c.toArray t') { s with heap := h', toks := k })
    (hs : subscripted slice false (.bytes b.toArray t) (.ref s.heap.objs.size) = operate [.ref s.heap.objs.size, .bytes b.toArray t] (getItem (.bytes b.toArray t) (.ref s.heap.objs.size)) := by with_unfolding_all rfl)
    (ht : ∀ r, letTemporaryGo value (.bytes b.toArray t) r = pure () := by intro _; with_unfolding_all rfl) :
    wpAny (model prog w) A (subscriptTail value slice (.bytes b.toArray t) (.ref s.heap.objs.size)) Q E { s with heap := s.heap.push { cls := .type "slice", data := .fields #[l, u, .none] } } :=
  tail_of_ItemOn ⟨"bytes", _, FB.slot_bytes_getitem.lookup, typeIs_bytes _ _ _, getItem_meets (typeIs_bytes _ _ _) (by decide) FB.slot_bytes_getitem FB.entry_bytes_getitem (FB.args_bytes_getitem_2 _ _) (KBc.meets_slice2 b.toArray t _ hl hu)
    ⟨Heap.IsSliceOf.new _ _ _ _, Nat.le_trans (KBc.size_picked_le b.toArray lo hi) (by rw [sizeLine_eq, List.size_toArray]; exact hz), fun t' k => e ▸ h _ _ _ (hF.push _) (News.pushKeep hN _)⟩⟩ hs ht
theorem slice_both {b : List UInt8} {lo hi : Int} (hF : Fr g L s.heap m := by walk_at "ka") (hN : News g L s.heap news := by walk_at "ka") (h0 : 0 ≤ lo := by walk_at "ko") (h1 : 0 ≤ hi := by walk_at "ko") (hz : b.length ≤ 16777216 := by walk_at "ko")
    (h : ∀ h' t' k, Fr g L h' m → News g L h' news → Q (.bytes (cut b lo hi).toArray t') { s with heap := h', toks := k })
    (hs : subscripted slice false (.bytes b.toArray t) (.ref s.heap.objs.size) = operate [.ref s.heap.objs.size, .bytes b.toArray t] (getItem (.bytes b.toArray t) (.ref s.heap.objs.size)) := by with_unfolding_all rfl)
    (ht : ∀ r, letTemporaryGo value (.bytes b.toArray t) r = pure () := by intro _; with_unfolding_all rfl) :
    wpAny (model prog w) A (subscriptTail value slice (.bytes b.toArray t) (.ref s.heap.objs.size)) Q E { s with heap := s.heap.push { cls := .type "slice", data := .fields #[.int lo t1, .int hi t2, .none] } } :=
  slice_any (picked_both b h0 h1) hF hN (.int _ _) (.int _ _) hz h hs ht
theorem slice_from {b : List UInt8} {lo : Int} (hF : Fr g L s.heap m := by walk_at "ka") (hN : News g L s.heap news := by walk_at "ka") (h0 : 0 ≤ lo := by walk_at "ko") (hz : b.length ≤ 16777216 := by walk_at "ko")
    (h : ∀ h' t' k, Fr g L h' m → News g L h' news → Q (.bytes (b.drop lo.toNat).toArray t') { s with heap := h', toks := k })
    (hs : subscripted slice false (.bytes b.toArray t) (.ref s.heap.objs.size) = operate [.ref s.heap.objs.size, .bytes b.toArray t] (getItem (.bytes b.toArray t) (.ref s.heap.objs.size)) := by with_unfolding_all rfl)
    (ht : ∀ r, letTemporaryGo value (.bytes b.toArray t) r = pure () := by intro _; with_unfolding_all rfl) :
    wpAny (model prog w) A (subscriptTail value slice (.bytes b.toArray t) (.ref s.heap.objs.size)) Q E { s with heap := s.heap.push { cls := .type "slice", data := .fields #[.int lo t1, .none, .none] } } :=
  slice_any (picked_from b h0) hF hN (.int _ _) .none hz h hs ht
theorem slice_to {b : List UInt8} {hi : Int} (hF : Fr g L s.heap m := by walk_at "ka") (hN : News g L s.heap news := by walk_at "ka") (h0 : 0 ≤ hi := by walk_at "ko") (hz : b.length ≤ 16777216 := by walk_at "ko")
    (h : ∀ h' t' k, Fr g L h' m → News g L h' news → Q (.bytes (b.take hi.toNat).toArray t') { s with heap := h', toks := k })
    (hs : subscripted slice false (.bytes b.toArray t) (.ref s.heap.objs.size) = operate [.ref s.heap.objs.size, .bytes b.toArray t] (getItem (.bytes b.toArray t) (.ref s.heap.objs.size)) := by with_unfolding_all rfl)
    (ht : ∀ r, letTemporaryGo value (.bytes b.toArray t) r = pure () := by intro _; with_unfolding_all rfl) :
    wpAny (model prog w) A (subscriptTail value slice (.bytes b.toArray t) (.ref s.heap.objs.size)) Q E { s with heap := s.heap.push { cls := .type "slice", data := .fields #[.none, .int hi t2, .none] } } :=
  slice_any (picked_to b h0) hF hN .none (.int _ _) hz h hs ht
end
/- steps whose tokens stay small: the state in its parts -/
section
variable {w : World} {A : Around} {E : Value → Shared → Prop} {Q : Value → Shared → Prop} {hp : Heap} {gn : Array GenState} {dr : Drawn} {tk : Nat} {os : OsState}
theorem cintK {M : Model} {env : Env} {i : Int} {n : Nat} {pos : Pos} (h : Q (.int i tk) ⟨hp, gn, dr, tk + 1, os⟩) : wpAny M A (eval (.Constant (.int i) n pos) env) Q E ⟨hp, gn, dr, tk, os⟩ := wpAny_Constant_int h
theorem cbytK {M : Model} {env : Env} {x : List UInt8} {n : Nat} {pos : Pos} (h : Q (.bytes x.toArray tk) ⟨hp, gn, dr, tk + 1, os⟩) : wpAny M A (eval (.Constant (.bytes x) n pos) env) Q E ⟨hp, gn, dr, tk, os⟩ := Constant_bytes h
theorem addK {a b : Int} {t u : Tok} (h : Q (.int (a + b) tk) ⟨hp, gn, dr, tk + 1, os⟩) : wpAny (model prog w) A (binaryOp .Add (.int a t) (.int b u)) Q E ⟨hp, gn, dr, tk, os⟩ := add_int h
theorem subK {a b : Int} {t u : Tok} (h : Q (.int (a - b) tk) ⟨hp, gn, dr, tk + 1, os⟩) : wpAny (model prog w) A (binaryOp .Sub (.int a t) (.int b u)) Q E ⟨hp, gn, dr, tk, os⟩ := sub_int h
theorem mulK {a b : Int} {t u : Tok} (h : Q (.int (a * b) tk) ⟨hp, gn, dr, tk + 1, os⟩) (hm : IntMulOk a b := by mul_fits) : wpAny (model prog w) A (binaryOp .Mult (.int a t) (.int b u)) Q E ⟨hp, gn, dr, tk, os⟩ := mul_int h hm
theorem modK {a b : Int} {t u : Tok} (hb : b ≠ 0) (h : Q (.int (a.fmod b) tk) ⟨hp, gn, dr, tk + 1, os⟩) : wpAny (model prog w) A (binaryOp .Mod (.int a t) (.int b u)) Q E ⟨hp, gn, dr, tk, os⟩ := mod_int' hb h
theorem lenbK {b : Array UInt8} {t : Tok} (hfit : b.size ≤ 1099511627776 := by k_dflt sb_bound) (h : Q (.int b.size (tk + 1)) ⟨hp, gn, dr, tk + 1 + 1, os⟩) : wpAny (model prog w) A (call (.builtin "len") [.bytes b t]) Q E ⟨hp, gn, dr, tk, os⟩ := len_bytes hfit h
end
end Mine
end
section
open PySem PySem.W PySem.Calls PyProof.Rows
namespace Mine
def Stop (P : Prop) : Prop := P
theorem Stop.mk {P : Prop} (h : Stop P) : P := h
theorem Stop.call (n : Addr) {M : Model} {A : Around} {as : List Value} {Q E : Value → Shared → Prop} {s : Shared} (h : Stop (wpAny M A (call (.ref n) as) Q E s)) : wpAny M A (call (.ref n) as) Q E s := h
theorem Stop.out {P : Prop} (h : P) : Stop P := h
def MTurn (g : Heap) (L : Addr) (cl : String) (own : Led) (J : (Str → Option Value) → Led → Prop) (s₁ : Shared) (Q : Flow → Shared → Prop) (f : Flow) (s₂ : Shared) : Prop :=
  match f with
  | .ret v => Q (.ret v) s₂
  | .brk => Q .next s₂
  | _ => ∃ h' tk m' nx', s₂ = { s₁ with heap := h', toks := tk } ∧ Fr g L h' m' ∧ News g L h' (own ++ nx') ∧ (∀ p ∈ nx', p.2.cls ≠ .type cl) ∧ J m' nx'
theorem MTurn.next {g : Heap} {L : Addr} {cl : String} {own : Led} {J : (Str → Option Value) → Led → Prop} {s₁ : Shared} {Q : Flow → Shared → Prop} {h' : Heap} {tk : Nat} {m' : Str → Option Value} (nx' : Led)
    (F : Fr g L h' m') (N : News g L h' (own ++ nx')) (hc : ∀ p ∈ nx', p.2.cls ≠ .type cl) (j : J m' nx') : MTurn g L cl own J s₁ Q .next { s₁ with heap := h', toks := tk } := ⟨h', tk, m', nx', rfl, F, N, hc, j⟩
theorem frMap {g h : Heap} {L : Addr} {m m' : Str → Option Value} (F : Fr g L h m) (e : ∀ y, m y = m' y) : Fr g L h m' := (funext e : m = m') ▸ F
theorem freshOf {g h : Heap} {L : Addr} {news nx : Led} (N : News g L h news) (hs : ∀ p ∈ nx, p ∈ news) : Fresh g h nx := fun p hp => ⟨(N p (hs p hp)).1, (N p (hs p hp)).2.2⟩
theorem newsSub {g h : Heap} {L : Addr} {news nx : Led} (N : News g L h news) (hs : ∀ p ∈ nx, p ∈ news) : News g L h nx := fun p hp => N p (hs p hp)
abbrev mapOf {g h : Heap} {L : Addr} {m : Str → Option Value} (_F : Fr g L h m) : Str → Option Value := m
theorem grow_step {g h : Heap} {L : Addr} {x : Addr} {us : Array Value} {c : Nat} {q : Addr × Obj} {l : Addr} {vs : List Value} {ep : Nat} {tl : Led} (N : News g L h ((x, tupO us c) :: q :: (l, listOf (vs.toArray.push (Value.ref x)) ep) :: tl)) :
    News g L h ((l, listOf (vs ++ [Value.ref x]).toArray ep) :: (x, tupO us c) :: tl) ∧ x ≠ l := by
  refine ⟨fun p hp => ?_, fun e => ?_⟩
  · rcases List.mem_cons.mp hp with rfl | hp
    · have := N _ (.tail _ (.tail _ (.head _)))
      rwa [List.push_toArray] at this
    · rcases List.mem_cons.mp hp with rfl | hp
      · exact N _ (.head _)
      · exact N _ (.tail _ (.tail _ (.tail _ hp)))
  · have h1 := (N _ (.head _)).1
    have h2 := (N _ (.tail _ (.tail _ (.head _)))).1
    dsimp only at h1 h2
    rw [e, h2] at h1
    simp at h1
theorem offCons {x l : Addr} {o : Obj} {tl : Led} (h : x ≠ l) (k : OwnOff tl [l]) : OwnOff ((x, o) :: tl) [l] := by
  intro p hp b hb
  rcases List.mem_cons.mp hp with rfl | hp
  · rw [List.mem_singleton.mp hb]; exact h
  · exact k p hp b hb
theorem freshOne {g h : Heap} {L : Addr} {news : Led} {q : Addr × Obj} (N : News g L h (q :: news)) : Fresh g h [q] := freshOf N fun p hp => by rw [List.mem_singleton.mp hp]; exact .head _
theorem map_rhs {x y : Str} [Decidable (y = x)] {l a r : Option Value} (h1 : y = x → l = a) (h2 : y ≠ x → l = r) : l = if y = x then a else r := by
  split
  · rename_i h; exact h1 h
  · rename_i h; exact h2 h
theorem map_lhs {x y : Str} [Decidable (y = x)] {b a r : Option Value} (h : y ≠ x) (e : r = b) : (if y = x then a else r) = b := by rw [if_neg h]; exact e
theorem if_dup {α : Type} {c : Prop} [Decidable c] {a b d : α} : (if c then a else if c then b else d) = if c then a else d := by split <;> rfl
section
variable {w : World} {A : Around} {E : Value → Shared → Prop} {s : Shared} {env : Env} {g : Heap} {target : PySem.Expr} {body : List Stmt} {Q : Flow → Shared → Prop} {m : Str → Option Value} {nx0 : Led}

theorem for_core {I : Addr} {fp : List Addr} {n : Nat} {P Md : Nat → Value → Heap → Prop} {St : Nat → Heap → Prop} {cl : String} {s₂ : Shared} (W : KTurns prog w A target I fp [I] n P Md St)
    (hI : ∀ i h, St i h → ∃ o, h.get? I = some o ∧ o.cls = .type cl) (hf : ∀ b ∈ fp, b = I ∨ g.get? b ≠ none) (hLf : env.locals ∉ fp) (hgI : g.get? I = none)
    (st : St 0 s₂.heap) (F : Fr g env.locals s₂.heap m) (N : News g env.locals s₂.heap nx0) (hc : ∀ p ∈ nx0, p.2.cls ≠ .type cl) (hnI : ∀ p ∈ nx0, p.1 ≠ I)
    (J : Nat → (Str → Option Value) → Led → Prop) (h0 : J 0 m nx0)
    (turn : ∀ i v m₁ nx h tk own, i < n → P i v h → (∀ p ∈ own, p.2.cls = .type cl) → J i m₁ nx → (∀ p ∈ nx, p.2.cls ≠ .type cl) → Fr g env.locals h m₁ → News g env.locals h (own ++ nx) →
      wpAny (model prog w) A (assign target env v) (fun _ s₃ => wpAny (model prog w) A (execs body env) (MTurn g env.locals cl own (J (i + 1)) s₂ Q) E s₃) E { s₂ with heap := h, toks := tk })
    (done : ∀ m₁ nx h tk, J n m₁ nx → (∀ p ∈ nx, p.2.cls ≠ .type cl) → Fr g env.locals h m₁ → News g env.locals h nx → Q .next { s₂ with heap := h, toks := tk }) :
    TurnsAt prog w A g env target body Q E (.ref I) s₂ := by
  refine ⟨I, fp, [I], n, P, Md, St, m, nx0, fun i m nx => J i m nx ∧ ∀ p ∈ nx, p.2.cls ≠ .type cl, rfl, W, hLf, ?_, ?_, st, F, N, ⟨h0, hc⟩, ?_, ?_⟩
  · intro b hb; rw [List.mem_singleton.mp hb]; exact hgI
  · intro p hp hI; exact hnI p hp (List.mem_singleton.mp hI)
  · rintro i v m₁ nx h tk own hi hP ⟨hJ, hcn⟩ hnw hof hoh hall hst F₁ N₁
    obtain ⟨oI, hoI, hcI⟩ := hI _ _ hst
    have hmI : (I, oI) ∈ own := hall I (W.sub I (List.mem_singleton.mpr rfl)) hgI oI hoI
    have hown : ∀ p ∈ own, p.2.cls = .type cl := by
      intro p hp
      rcases hf p.1 (hof p hp) with e | e
      · have h1 := hoh p hp
        rw [e, hoI] at h1
        rw [← Option.some.inj h1]; exact hcI
      · exact absurd (N₁ p (List.mem_append.mpr (.inl hp))).2.2 e
    refine wpAny_mono (turn i v m₁ nx h tk own hi hP hown hJ hcn F₁ N₁) (fun _ s₃ h₃ => wpAny_mono h₃ (fun f s₄ h₄ => ?_) fun _ _ e => e) fun _ _ e => e
    have fin : (∃ h' tk m' nx', s₄ = { s₂ with heap := h', toks := tk } ∧ Fr g env.locals h' m' ∧ News g env.locals h' (own ++ nx') ∧ (∀ p ∈ nx', p.2.cls ≠ .type cl) ∧ J (i + 1) m' nx') →
        LoopStepU g env.locals [I] own (fun m nx => J (i + 1) m nx ∧ ∀ p ∈ nx, p.2.cls ≠ .type cl) { s₂ with heap := h, toks := tk } .next s₄ := by
      rintro ⟨h', tk', m', nx', rfl, F', N', hc', hj'⟩
      refine ⟨rfl, h', tk', m', nx', rfl, F', N', fun p hp hpI => ?_, hj', hc'⟩
      have e := List.mem_singleton.mp hpI
      have h1 := (N' p (List.mem_append.mpr (.inr hp))).1
      have h2 := (N' _ (List.mem_append.mpr (.inl hmI))).1
      rw [e, h2] at h1
      exact hc' p hp (by rw [← Option.some.inj h1]; exact hcI)
    cases f with
    | ret v => exact .ret h₄
    | brk => exact .brk h₄
    | next => exact .next (fin h₄)
    | cont => exact .cont (fin h₄)
  · rintro h' tk m' nx' F' N' _ ⟨hJ, hc'⟩
    exact done m' nx' h' tk hJ hc' F' N'

theorem for_list {l : Addr} {vs : List Value} (hh : A.handled = none) (hl : g.IsList l vs.toArray) (F : Fr g env.locals s.heap m) (N : News g env.locals s.heap nx0) (hc : ∀ p ∈ nx0, p.2.cls ≠ .type "list_iterator")
    (J : Nat → (Str → Option Value) → Led → Prop) (h0 : J 0 m nx0)
    (turn : ∀ i v m₁ nx h tk own, vs[i]? = some v → (∀ p ∈ own, p.2.cls = .type "list_iterator") → J i m₁ nx → (∀ p ∈ nx, p.2.cls ≠ .type "list_iterator") → Fr g env.locals h m₁ → News g env.locals h (own ++ nx) →
      wpAny (model prog w) A (assign target env v) (fun _ s₃ => wpAny (model prog w) A (execs body env) (MTurn g env.locals "list_iterator" own (J (i + 1)) s Q) E s₃) E { s with heap := h, toks := tk })
    (done : ∀ m₁ nx h tk, J vs.length m₁ nx → (∀ p ∈ nx, p.2.cls ≠ .type "list_iterator") → Fr g env.locals h m₁ → News g env.locals h nx → Q .next { s with heap := h, toks := tk }) :
    wpAny (model prog w) A (pyIter (.ref l)) (fun it s₂ => TurnsAt prog w A g env target body Q E it s₂) E s := by
  have hls : s.heap.IsList l vs.toArray := hl.at fun o e => F.keep l o e
  obtain ⟨ol, hol, _⟩ := id hl
  have hlt : l < g.objs.size := Heap.lt_size hol
  have hne : l ≠ s.heap.objs.size := Nat.ne_of_lt (Nat.lt_trans (Nat.lt_of_lt_of_le hlt F.above) F.ns.lt)
  refine wpAny_pyIter_list hls ?_
  have W := Walks.list (prog := prog) (w := w) hh s.heap.objs.size l hne vs.toArray
  refine for_core (cl := "list_iterator") (KTurns.ofWalks (target := target) W fun i v s Q E st q => letGo_listiter st.1 q) (fun i h st => ?_) (fun b hb => ?_) (fun hm => ?_) (next_is_new F)
    ⟨⟨_, Heap.get?_push_size _ rfl, rfl, rfl⟩, hls.at fun o e => Heap.get?_push_of_some _ e⟩ (F.push _) (fun p hp => ⟨Heap.get?_push_of_some _ (N p hp).1, (N p hp).2⟩) hc (fun p hp e => ?_) J h0 ?_ ?_
  · obtain ⟨⟨o, h1, h2, _⟩, _⟩ := st; exact ⟨o, h1, h2⟩
  · rcases List.mem_cons.mp hb with e | e
    · exact .inl e
    · rw [List.mem_singleton.mp e, hol]; exact .inr (by simp)
  · rcases List.mem_cons.mp hm with e | hm
    · exact absurd F.ns.lt (e ▸ Nat.lt_irrefl _)
    · exact absurd (Nat.lt_of_lt_of_le hlt F.above) ((List.mem_singleton.mp hm) ▸ Nat.lt_irrefl _)
  · exact absurd (Heap.lt_size (N p hp).1) (e ▸ Nat.lt_irrefl _)
  · rintro i v m₁ nx h tk own hi hP hown hJ hcn F₁ N₁
    exact turn i v m₁ nx h tk own (by simpa using hP) hown hJ hcn F₁ N₁
  · intro m₁ nx h tk hJ hcn F₁ N₁
    exact done m₁ nx h tk (by simpa using hJ) hcn F₁ N₁

theorem for_range {r : Addr} {a b c : Int} {t u v : Tok} {n : Nat} {x : Str} {px : Pos} (hh : A.handled = none) (hr : IsRange s.heap r a b c t u v) (hsmall : Builtin.Range.small a b c = true) (hsz : Builtin.Range.rangeSize a b c = (n : Int))
    (F : Fr g env.locals s.heap m) (N : News g env.locals s.heap nx0) (hc : ∀ p ∈ nx0, p.2.cls ≠ .type "range_iterator")
    (J : Nat → (Str → Option Value) → Led → Prop) (h0 : J 0 m nx0)
    (turn : ∀ i tk' m₁ nx h tk own, i < n → (∀ p ∈ own, p.2.cls = .type "range_iterator") → J i m₁ nx → (∀ p ∈ nx, p.2.cls ≠ .type "range_iterator") → Fr g env.locals h m₁ → News g env.locals h (own ++ nx) →
      wpAny (model prog w) A (assign (.Name x px) env (.int (a + i * c) tk')) (fun _ s₃ => wpAny (model prog w) A (execs body env) (MTurn g env.locals "range_iterator" own (J (i + 1)) s Q) E s₃) E { s with heap := h, toks := tk })
    (done : ∀ m₁ nx h tk, J n m₁ nx → (∀ p ∈ nx, p.2.cls ≠ .type "range_iterator") → Fr g env.locals h m₁ → News g env.locals h nx → Q .next { s with heap := h, toks := tk }) :
    wpAny (model prog w) A (pyIter (.ref r)) (fun it s₂ => TurnsAt prog w A g env (.Name x px) body Q E it s₂) E s := by
  refine wpAny_pyIter_range hr hsmall ?_
  have W := Walks.range (prog := prog) (w := w) hh s.heap.objs.size a c n
  refine for_core (cl := "range_iterator") (KTurns.ofWalks (target := .Name x px) W fun i v s Q E st q => wpAny_pure q) (fun i h st => ⟨_, st, rfl⟩) (fun b hb => .inl (List.mem_singleton.mp hb)) (fun hm => ?_) (next_is_new F)
    (by show IsRangeIter _ _ _ _ _; rw [hsz]; simpa using Heap.get?_push_size _ rfl) (F.push _) (fun p hp => ⟨Heap.get?_push_of_some _ (N p hp).1, (N p hp).2⟩) hc (fun p hp e => ?_) J h0 ?_ ?_
  · exact absurd F.ns.lt ((List.mem_singleton.mp hm) ▸ Nat.lt_irrefl _)
  · exact absurd (Heap.lt_size (N p hp).1) (e ▸ Nat.lt_irrefl _)
  · rintro i v m₁ nx h tk own hi ⟨t', rfl⟩ hown hJ hcn F₁ N₁
    exact turn i t' m₁ nx h tk own hi hown hJ hcn F₁ N₁
  · intro m₁ nx h tk hJ hcn F₁ N₁
    exact done m₁ nx h tk hJ hcn F₁ N₁
theorem for_listL {l L : Addr} {vs : List Value} (hL : env.locals = L) (hh : A.handled = none) (hl : g.IsList l vs.toArray) (F : Fr g L s.heap m) (N : News g L s.heap nx0) (hc : ∀ p ∈ nx0, p.2.cls ≠ .type "list_iterator")
    (J : Nat → (Str → Option Value) → Led → Prop) (h0 : J 0 m nx0)
    (turn : ∀ i v m₁ nx h tk own, vs[i]? = some v → (∀ p ∈ own, p.2.cls = .type "list_iterator") → J i m₁ nx → (∀ p ∈ nx, p.2.cls ≠ .type "list_iterator") → Fr g L h m₁ → News g L h (own ++ nx) →
      wpAny (model prog w) A (assign target env v) (fun _ s₃ => wpAny (model prog w) A (execs body env) (MTurn g L "list_iterator" own (J (i + 1)) s Q) E s₃) E { s with heap := h, toks := tk })
    (done : ∀ m₁ nx h tk, J vs.length m₁ nx → (∀ p ∈ nx, p.2.cls ≠ .type "list_iterator") → Fr g L h m₁ → News g L h nx → Q .next { s with heap := h, toks := tk }) :
    wpAny (model prog w) A (pyIter (.ref l)) (fun it s₂ => TurnsAt prog w A g env target body Q E it s₂) E s := by
  subst hL
  exact for_list hh hl F N hc J h0 turn done
theorem for_rangeL {r L : Addr} {a b c : Int} {t u v : Tok} {n : Nat} {x : Str} {px : Pos} (hL : env.locals = L) (hh : A.handled = none) (hr : IsRange s.heap r a b c t u v) (hsmall : Builtin.Range.small a b c = true) (hsz : Builtin.Range.rangeSize a b c = (n : Int))
    (F : Fr g L s.heap m) (N : News g L s.heap nx0) (hc : ∀ p ∈ nx0, p.2.cls ≠ .type "range_iterator")
    (J : Nat → (Str → Option Value) → Led → Prop) (h0 : J 0 m nx0)
    (turn : ∀ i tk' m₁ nx h tk own, i < n → (∀ p ∈ own, p.2.cls = .type "range_iterator") → J i m₁ nx → (∀ p ∈ nx, p.2.cls ≠ .type "range_iterator") → Fr g L h m₁ → News g L h (own ++ nx) →
      wpAny (model prog w) A (assign (.Name x px) env (.int (a + i * c) tk')) (fun _ s₃ => wpAny (model prog w) A (execs body env) (MTurn g L "range_iterator" own (J (i + 1)) s Q) E s₃) E { s with heap := h, toks := tk })
    (done : ∀ m₁ nx h tk, J n m₁ nx → (∀ p ∈ nx, p.2.cls ≠ .type "range_iterator") → Fr g L h m₁ → News g L h nx → Q .next { s with heap := h, toks := tk }) :
    wpAny (model prog w) A (pyIter (.ref r)) (fun it s₂ => TurnsAt prog w A g env (.Name x px) body Q E it s₂) E s := by
  subst hL
  exact for_range hh hr hsmall hsz F N hc J h0 turn done
theorem for_listA {l L : Addr} {vs : List Value} (hL : env.locals = L) (hh : A.handled = none) (hl : g.IsList l vs.toArray) (F : Fr g L s.heap m) (N : News g L s.heap nx0) (hc : ∀ p ∈ nx0, p.2.cls ≠ .type "list_iterator")
    (J : Nat → (Str → Option Value) → Led → Prop) (h0 : J 0 m nx0)
    (turn : ∀ i v m₁ nx h tk own (JJ : (Str → Option Value) → Led → Prop) (QQ : Flow → Shared → Prop), (∀ m' nx', J (i + 1) m' nx' → JJ m' nx') → (∀ f s', Q f s' → QQ f s') → vs[i]? = some v → (∀ p ∈ own, p.2.cls = .type "list_iterator") → J i m₁ nx → (∀ p ∈ nx, p.2.cls ≠ .type "list_iterator") → Fr g L h m₁ → News g L h (own ++ nx) →
      wpAny (model prog w) A (assign target env v) (fun _ s₃ => wpAny (model prog w) A (execs body env) (MTurn g L "list_iterator" own JJ s QQ) E s₃) E { s with heap := h, toks := tk })
    (done : ∀ m₁ nx h tk, J vs.length m₁ nx → (∀ p ∈ nx, p.2.cls ≠ .type "list_iterator") → Fr g L h m₁ → News g L h nx → Q .next { s with heap := h, toks := tk }) :
    wpAny (model prog w) A (pyIter (.ref l)) (fun it s₂ => TurnsAt prog w A g env target body Q E it s₂) E s :=
  for_listL hL hh hl F N hc J h0 (fun i v m₁ nx h tk own => turn i v m₁ nx h tk own (J (i + 1)) Q (fun _ _ q => q) (fun _ _ q => q)) done
theorem While_A {L : Addr} {env : Env} {h₀ : Heap} {Q : Flow → Shared → Prop} {test : PySem.Expr} {body : List Stmt} {pos : Pos} {m : Str → Option Value} {news : Led} (J : Nat → (Str → Option Value) → Led → Prop) {n₀ : Nat}
    (F : Fr h₀ L s.heap m) (N : News h₀ L s.heap news) (hJ : J n₀ m news)
    (turn : ∀ n m₁ news₁ h₁ tk₁ (SS QQ : Flow → Shared → Prop), (∀ f s', WhileStep h₀ L s J n f s' → SS f s') → (∀ s', Q .next s' → QQ .next s') → Fr h₀ L h₁ m₁ → News h₀ L h₁ news₁ → J n m₁ news₁ →
      wpAny (model prog w) A (isTrue test env (eval test env)) (fun b s₂ =>
        if b = true then wpAny (model prog w) A (execs body env) SS E s₂ else QQ .next s₂) E { s with heap := h₁, toks := tk₁ })
    (hE : PassesOwn (model prog w) A env E := by passes_own) :
    wpAny (model prog w) A (exec (.While test body [] pos) env) Q E s :=
  While_inv J F N hJ (fun n m₁ news₁ h₁ tk₁ => turn n m₁ news₁ h₁ tk₁ _ Q (fun _ _ q => q) (fun _ q => q)) hE
theorem len_led0 {news : Led} {L l : Addr} {vs : List Value} {n : Nat} {Q : Value → Shared → Prop} (N : News g L s.heap news) (hm : (l, listOf vs.toArray n) ∈ news) (hfit : (vs.length : Int) < 2 ^ 62)
    (h : Q (.int (vs.length : Int) (s.toks + 1)) { s with toks := s.toks + 1 + 1 }) : wpAny (model prog w) A (call (.builtin "len") [.ref l]) Q E s := by
  have hl : s.heap.IsList l vs.toArray := ⟨_, (N _ hm).1, rfl, n, rfl⟩
  exact len_list hl (by rw [List.size_toArray]; omega) (by rw [List.size_toArray]; exact h)
theorem len_led {g : Heap} {news : Led} {L l : Addr} {vs : List Value} {n : Nat} {Q : Value → Shared → Prop} {hp : Heap} {gn : Array GenState} {dr : Drawn} {tk : Nat} {os : OsState} (N : News g L hp news := by walk_at "ka") (hm : (l, listOf vs.toArray n) ∈ news := by walk_at "km") (hfit : (vs.length : Int) < 2 ^ 62 := by walk_at "ko")
    (h : Q (.int (vs.length : Int) (tk + 1)) ⟨hp, gn, dr, tk + 1 + 1, os⟩) : wpAny (model prog w) A (call (.builtin "len") [.ref l]) Q E ⟨hp, gn, dr, tk, os⟩ := len_led0 (s := ⟨hp, gn, dr, tk, os⟩) N hm hfit h
end
end Mine
end
section
open PySem PySem.W PySem.Calls PyProof.Rows
namespace Mine
section
variable {w : World} {A : Around} {E : Value → Shared → Prop} {s : Shared} {g h : Heap} {L : Addr}
theorem grow_own {x : Addr} {us : Array Value} {c : Nat} {l : Addr} {vs : List Value} {ep : Nat} {tl own : Led} (N : News g L h ((x, tupO us c) :: (l, listOf (vs.toArray.push (Value.ref x)) ep) :: (tl ++ own))) :
    News g L h (own ++ ((l, listOf (vs ++ [Value.ref x]).toArray ep) :: (x, tupO us c) :: tl)) ∧ x ≠ l := by
  refine ⟨fun p hp => ?_, fun e => ?_⟩
  · rcases List.mem_append.mp hp with hp | hp
    · exact N _ (.tail _ (.tail _ (List.mem_append.mpr (.inr hp))))
    · rcases List.mem_cons.mp hp with rfl | hp
      · have := N _ (.tail _ (.head _))
        rwa [List.push_toArray] at this
      · rcases List.mem_cons.mp hp with rfl | hp
        · exact N _ (.head _)
        · exact N _ (.tail _ (.tail _ (List.mem_append.mpr (.inl hp))))
  · have h1 := (N _ (.head _)).1
    have h2 := (N _ (.tail _ (.head _))).1
    dsimp only at h1 h2
    rw [e, h2] at h1
    simp at h1
theorem grow_ownP {x : Addr} {us : Array Value} {c : Nat} {l : Addr} {vs : List Value} {ep : Nat} {tl own : Led} (N : News g L h ((x, tupO us c) :: (l, listOf (vs ++ [Value.ref x]).toArray ep) :: (tl ++ own))) :
    News g L h (own ++ ((l, listOf (vs ++ [Value.ref x]).toArray ep) :: (x, tupO us c) :: tl)) ∧ x ≠ l := grow_own (by rw [List.push_toArray]; exact N)
theorem clsOk {cl : String} {l x : Addr} {a : Array Value} {ep : Nat} {us : Array Value} {c : Nat} {tl : Led} (h : ∀ p ∈ tl, p.2.cls ≠ .type cl) (h1 : cl ≠ "list") (h2 : cl ≠ "tuple") : ∀ p ∈ (l, listOf a ep) :: (x, tupO us c) :: tl, p.2.cls ≠ .type cl := by
  intro p hp
  rcases List.mem_cons.mp hp with rfl | hp
  · intro e; injection e with e; exact h1 e.symm
  · rcases List.mem_cons.mp hp with rfl | hp
    · intro e; injection e with e; exact h2 e.symm
    · exact h p hp
theorem off_own {l : Addr} {a : Array Value} {ep : Nat} {tl own : Led} {cl : String} (N : News g L h (own ++ (l, listOf a ep) :: tl)) (ho : ∀ p ∈ own, p.2.cls = .type cl) (hc : cl ≠ "list") (k : OwnOff tl [l]) :
    OwnOff (tl ++ own) [l] ∧ News g L h ((l, listOf a ep) :: (tl ++ own)) := by
  refine ⟨fun p hp b hb => ?_, fun p hp => ?_⟩
  · rcases List.mem_append.mp hp with hp | hp
    · exact k p hp b hb
    · rw [List.mem_singleton.mp hb]
      intro e
      have h1 := (N p (List.mem_append.mpr (.inl hp))).1
      have h2 := (N _ (List.mem_append.mpr (.inr (.head _)))).1
      dsimp only at h2
      rw [e, h2] at h1
      have h3 := ho p hp
      rw [← Option.some.inj h1] at h3
      have h4 : Value.type "list" = Value.type cl := h3
      injection h4 with h4
      exact hc h4.symm
  · rcases List.mem_cons.mp hp with rfl | hp
    · exact N _ (List.mem_append.mpr (.inr (.head _)))
    · rcases List.mem_append.mp hp with hp | hp
      · exact N _ (List.mem_append.mpr (.inr (.tail _ hp)))
      · exact N _ (List.mem_append.mpr (.inl hp))
theorem slice_all {m : Str → Option Value} {news : Led} {value slice : PySem.Expr} {t t2 : Tok} {Q : Value → Shared → Prop} {b : List UInt8} {hi : Int} (hF : Fr g L s.heap m := by walk_at "ka") (hN : News g L s.heap news := by walk_at "ka") (h0 : (b.length : Int) ≤ hi := by walk_at "ko") (hz : b.length ≤ 16777216 := by walk_at "ko")
    (h : ∀ h' t' k, Fr g L h' m → News g L h' news → Q (.bytes b.toArray t') { s with heap := h', toks := k })
    (hs : subscripted slice false (.bytes b.toArray t) (.ref s.heap.objs.size) = operate [.ref s.heap.objs.size, .bytes b.toArray t] (getItem (.bytes b.toArray t) (.ref s.heap.objs.size)) := by with_unfolding_all rfl)
    (ht : ∀ r, letTemporaryGo value (.bytes b.toArray t) r = pure () := by intro _; with_unfolding_all rfl) :
    wpAny (model prog w) A (subscriptTail value slice (.bytes b.toArray t) (.ref s.heap.objs.size)) Q E { s with heap := s.heap.push { cls := .type "slice", data := .fields #[.none, .int hi t2, .none] } } := by
  refine slice_to hF hN (by omega) hz (fun h' t' k F' N' => ?_) hs ht
  rw [List.take_of_length_le (by omega)]
  exact h h' t' k F' N'
theorem rangeSize_zero (n : Nat) : Builtin.Range.rangeSize 0 (n : Int) 1 = (n : Int) := by
  rw [rangeSize_nat, Int.sub_zero, Int.toNat_natCast]
theorem add_listsA {m : Str → Option Value} {news : Led} {l b : Addr} {vs ws : List Value} {Q : Value → Shared → Prop} (F : Fr g L s.heap m := by walk_at "ka") (N : News g L s.heap news := by walk_at "ka") (hl : s.heap.IsList l vs.toArray := by k_dflt (walk_at "mine li")) (hb : s.heap.IsList b ws.toArray := by k_dflt (walk_at "mine li"))
    (hsz : vs.length + ws.length ≤ sizeLine := by walk_at "ks")
    (h : ∀ h', Fr g L h' m → News g L h' ((s.heap.objs.size, { cls := .type "list", data := .seq (vs ++ ws).toArray }) :: news) → Q (.ref s.heap.objs.size) { s with heap := h' }) :
    wpAny (model prog w) A (binaryOp .Add (.ref l) (.ref b)) Q E s := add_lists F N hl hb h hsz
theorem add_by {a b : List UInt8} {t u : Tok} {Q : Value → Shared → Prop} (hsz : a.length + b.length ≤ 16777216 := by walk_at "ks") (h : ∀ t' k, Q (.bytes (a ++ b).toArray t') { s with toks := k }) : wpAny (model prog w) A (binaryOp .Add (.bytes a.toArray t) (.bytes b.toArray u)) Q E s := by
  refine KBy.add_bytes (by rw [List.size_toArray, List.size_toArray]; exact hsz) fun t' k => ?_
  have e : a.toArray ++ b.toArray = (a ++ b).toArray := by simp
  rw [e]; exact h t' k
end
end Mine
end
section
open PySem PySem.W PySem.Calls PyProof.Rows
namespace Mine
section
variable {w : World} {p : Program} {loose : List Str} {mean : ExcName → Option Value} {mg mb : Str → Option Value} {A : Around} {s : Shared} {Q E : Value → Shared → Prop}
theorem enterC {name qual : Str} {params : Arguments} {body : List Stmt} {scope : Scope} {dV kV doc pm cdv ct oc : Value} {an od : Option Addr} {osl : Array (Option Value)} {f : Addr} {args : List Value} {binds : List (Str × Value)}
    (B : Base w p loose mean mg mb s.heap) (hroom : A.depth < recursionLimit)
    (ho : (hd.heap_1 w.params).lookup f = some ⟨oc, od, .func (fnOf name qual params body scope dV kV doc pm an cdv ct), osl⟩) (hcd : codeIn (hd.heap_1 w.params) cdv qual = true)
    (hbind : BindsTo s (fnOf name qual params body scope dV kV doc pm an cdv ct) ⟨args, []⟩ binds) (hkind : (binds.all fun y => scope.names.lookup y.1 == some .local || scope.names.lookup y.1 == some .cell) = true)
    (h : ∀ L h₁ tk cells, Fr s.heap L h₁ (bindL (envOfC qual scope L f cdv).kindOf binds fun _ => none) → News s.heap L h₁ cells → CellsAre (bindC (envOfC qual scope L f cdv).kindOf binds fun _ => none) (cellsFrom (L + 1) scope.names []) cells →
      wpAny (model prog w) (A.deeper (envOfC qual scope L f cdv)) (execs body (envOfC qual scope L f cdv))
        (fun fl s' => Q (match fl with | .ret v => v | _ => .none) s') (fun _ _ => False)
        { s with heap := h₁, toks := tk })
    (hco : scope.isCoroutine = false) (hgen : scope.isGenerator = false) (hk : scope.kind = .function)
    (hnd : ((cellsFrom 0 scope.names []).map (·.1)).Nodup) : wpAny (model prog w) A (call (.ref f) args) Q E s := by
  refine wpAny_call ?_
  refine codeAny_call_function hroom (B.k _ _ ho) rfl hco hgen rfl (codeRec_of B.k hcd) (hbind _ _ _ _ ?_)
  refine wpAny_newFunctionEnv_cells hk (kindsX hkind _) fun env' he s' x => ?_
  subst he
  refine ⟨B.t.nolimit.keeps x.toInCall.keep, codeAny_func ?_⟩
  obtain ⟨h₁, tk, rfl, _⟩ := x.done
  have hk₁ := x.toInCall.keep
  obtain ⟨cells, NC, Y⟩ := Cl.news (h₀ := s.heap) (Nat.le_refl _) fun n c hm => ⟨x.cell n c (lookup_of_mem_nodup (cellsFrom_names scope.names 0 (s.heap.objs.size + 1) [] [] rfl ▸ hnd) hm), x.above n c hm⟩
  exact wpAny_mono (h s.heap.objs.size h₁ tk cells ⟨x.toInCall.ns, hk₁, Nat.le_refl _⟩ NC Y) (fun _ _ x => x) (fun _ _ x => x.elim)
end
end Mine
end
section
open PySem PySem.W PySem.Calls PyProof.Rows PyProof.Rows.LCg
namespace Mine
section
variable {w : World} {A : Around} {s : Shared} {h₀ : Heap} {L : Addr} {m : Str → Option Value} {env : Env}
theorem endMono {s₁ : Shared} {I : Addr} {oI : Obj} {C : Addr} {oC : Obj} {D : Addr} {oD : Obj} {S : Led → Prop} {r r' : Value → Led → Prop} {y : Value} {s₂ : Shared} (h : CompEnd h₀ L m s₁ I oI C oC D oD S r y s₂) (hr : ∀ y n, r y n → r' y n) : CompEnd h₀ L m s₁ I oI C oC D oD S r' y s₂ := by
  obtain ⟨h', tk, news', e, F, N, off, hS, q⟩ := h
  exact ⟨h', tk, news', e, F, N, off, hS, hr _ _ q⟩
theorem compT_ind {ct elt : PySem.Expr} {x : Str} {scope : Scope} {cl : List (Str × Addr)} {S : Led → Prop} {P : Nat → Value → Prop} {Fin : List Value → Led → Prop} {n : Nat} {news0 : Led} (I : Nat → List Value → Led → Prop) (h0 : I 0 [] news0)
    (step : ∀ i ys news v J oJ C oC D m₂ h tk (E' : Value → Shared → Prop), i < n → I i ys news → P i v → NsObj oC m₂ → m₂ x = some v → Fr h₀ L h m → News h₀ L h ((J, oJ) :: (C, oC) :: (D, lst ys) :: news) → Off3 J C D news → ((@Ne Nat J C) ∧ (@Ne Nat J D) ∧ (@Ne Nat C D)) →
      wpAny (model prog w) A (isTrue ct (compEnvC scope cl C env) (eval ct (compEnvC scope cl C env))) (fun ok s' => if ok = true then
        wpAny (model prog w) A (eval elt (compEnvC scope cl C env)) (CompEnd h₀ L m { s with heap := h, toks := tk } J oJ C oC D (lst ys) S (fun y news' => I (i + 1) (ys ++ [y]) news')) E' s'
        else CompEnd h₀ L m { s with heap := h, toks := tk } J oJ C oC D (lst ys) S (fun _ news' => I (i + 1) ys news') Value.none s') E' { s with heap := h, toks := tk })
    (done : ∀ ys news, I n ys news → Fin ys news) : LCt.CompRestT prog w A h₀ L m env ct elt x scope cl s S P Fin n 0 [] news0 := by
  have key : ∀ k i ys news, i + k = n → I i ys news → LCt.CompRestT prog w A h₀ L m env ct elt x scope cl s S P Fin k i ys news := by
    intro k
    induction k with
    | zero => intro i ys news hk hI; rw [Nat.add_zero] at hk; subst hk; exact LCt.CompRestT.zero (done _ _ hI)
    | succ k ih =>
      intro i ys news hk hI
      refine LCt.CompRestT.succ fun v J oJ C oC D m₂ h tk E' hP hC hx F N off ne => ?_
      refine wpAny_mono (step i ys news v J oJ C oC D m₂ h tk E' (by omega) hI hP hC hx F N off ne) (fun ok s' q => ?_) fun _ _ q => q
      split
      · rename_i hok
        rw [if_pos hok] at q
        exact wpAny_mono q (fun y s₂ e => endMono e fun y n r => ih _ _ _ (by omega) r) fun _ _ q => q
      · rename_i hok
        rw [if_neg hok] at q
        exact endMono q fun y n r => ih _ _ _ (by omega) r
  exact key n 0 [] news0 (by omega) h0
theorem comp_ind {elt : PySem.Expr} {x : Str} {scope : Scope} {cl : List (Str × Addr)} {S : Led → Prop} {P : Nat → Value → Prop} {Fin : List Value → Led → Prop} {n : Nat} {news0 : Led} (I : Nat → List Value → Led → Prop) (h0 : I 0 [] news0)
    (step : ∀ i ys news v J oJ C oC D m₂ h tk (E' : Value → Shared → Prop), i < n → I i ys news → P i v → NsObj oC m₂ → m₂ x = some v → Fr h₀ L h m → News h₀ L h ((J, oJ) :: (C, oC) :: (D, lst ys) :: news) → Off3 J C D news → ((@Ne Nat J C) ∧ (@Ne Nat J D) ∧ (@Ne Nat C D)) →
      wpAny (model prog w) A (eval elt (compEnvC scope cl C env)) (CompEnd h₀ L m { s with heap := h, toks := tk } J oJ C oC D (lst ys) S (fun y news' => I (i + 1) (ys ++ [y]) news')) E' { s with heap := h, toks := tk })
    (done : ∀ ys news, I n ys news → Fin ys news) : CompRest prog w A h₀ L m env elt x scope cl s S P Fin n 0 [] news0 := by
  have key : ∀ k i ys news, i + k = n → I i ys news → CompRest prog w A h₀ L m env elt x scope cl s S P Fin k i ys news := by
    intro k
    induction k with
    | zero => intro i ys news hk hI; rw [Nat.add_zero] at hk; subst hk; exact CompRest.zero (done _ _ hI)
    | succ k ih =>
      intro i ys news hk hI
      refine CompRest.succ fun v J oJ C oC D m₂ h tk E' hP hC hx F N off ne => ?_
      exact wpAny_mono (step i ys news v J oJ C oC D m₂ h tk E' (by omega) hI hP hC hx F N off ne) (fun y s₂ e => endMono e fun y n r => ih _ _ _ (by omega) r) fun _ _ q => q
  exact key n 0 [] news0 (by omega) h0
theorem comp_indA {elt : PySem.Expr} {x : Str} {scope : Scope} {cl : List (Str × Addr)} {S : Led → Prop} {P : Nat → Value → Prop} {Fin : List Value → Led → Prop} {n : Nat} {news0 : Led} (I : Nat → List Value → Led → Prop) (h0 : I 0 [] news0)
    (step : ∀ i ys news v J oJ C oC D m₂ h tk (E' : Value → Shared → Prop) (II : Value → Led → Prop), (∀ y nw, I (i + 1) (ys ++ [y]) nw → II y nw) → i < n → I i ys news → P i v → NsObj oC m₂ → m₂ x = some v → Fr h₀ L h m → News h₀ L h ((J, oJ) :: (C, oC) :: (D, lst ys) :: news) → Off3 J C D news → ((@Ne Nat J C) ∧ (@Ne Nat J D) ∧ (@Ne Nat C D)) →
      wpAny (model prog w) A (eval elt (compEnvC scope cl C env)) (CompEnd h₀ L m { s with heap := h, toks := tk } J oJ C oC D (lst ys) S II) E' { s with heap := h, toks := tk })
    (done : ∀ ys news, I n ys news → Fin ys news) : CompRest prog w A h₀ L m env elt x scope cl s S P Fin n 0 [] news0 :=
  comp_ind I h0 (fun i ys news v J oJ C oC D m₂ h tk E' => step i ys news v J oJ C oC D m₂ h tk E' _ (fun _ _ q => q)) done
theorem compP_ind {elt : PySem.Expr} {x x₂ : Str} {scope : Scope} {cl : List (Str × Addr)} {S : Led → Prop} {P : Nat → Value → Prop} {Fin : List Value → Led → Prop} {n : Nat} {news0 : Led} (I : Nat → List Value → Led → Prop) (h0 : I 0 [] news0)
    (step : ∀ i ys news v, i < n → I i ys news → P i v → ∃ (t : Addr) (ot : Obj) (v₁ v₂ : Value) (nt : Nat), v = .ref t ∧ (t, ot) ∈ news ∧ ot.cls = .type "tuple" ∧ ot.data = .seq #[v₁, v₂] nt ∧
      ∀ J oJ C oC D m₂ h tk (E' : Value → Shared → Prop), NsObj oC m₂ → m₂ x = some v₁ → m₂ x₂ = some v₂ → Fr h₀ L h m → News h₀ L h ((J, oJ) :: (C, oC) :: (D, lst ys) :: news) → Off3 J C D news → ((@Ne Nat J C) ∧ (@Ne Nat J D) ∧ (@Ne Nat C D)) →
      wpAny (model prog w) A (eval elt (compEnvC scope cl C env)) (CompEnd h₀ L m { s with heap := h, toks := tk } J oJ C oC D (lst ys) S (fun y news' => I (i + 1) (ys ++ [y]) news')) E' { s with heap := h, toks := tk })
    (done : ∀ ys news, I n ys news → Fin ys news) : LCp.CompRestP prog w A h₀ L m env elt x x₂ scope cl s S P Fin n 0 [] news0 := by
  have key : ∀ k i ys news, i + k = n → I i ys news → LCp.CompRestP prog w A h₀ L m env elt x x₂ scope cl s S P Fin k i ys news := by
    intro k
    induction k with
    | zero => intro i ys news hk hI; rw [Nat.add_zero] at hk; subst hk; exact LCp.CompRestP.zero (done _ _ hI)
    | succ k ih =>
      intro i ys news hk hI
      refine LCp.CompRestP.succ fun v hP => ?_
      obtain ⟨t, ot, v₁, v₂, nt, e, hm, hc, hd, q⟩ := step i ys news v (by omega) hI hP
      refine ⟨t, ot, v₁, v₂, nt, e, hm, hc, hd, fun J oJ C oC D m₂ h tk E' hC hx hx2 F N off ne => ?_⟩
      exact wpAny_mono (q J oJ C oC D m₂ h tk E' hC hx hx2 F N off ne) (fun y s₂ e => endMono e fun y n r => ih _ _ _ (by omega) r) fun _ _ q => q
  exact key n 0 [] news0 (by omega) h0
def SameEnd (h₀ : Heap) (L : Addr) (m : Str → Option Value) (all : Led) (s₁ s₂ : Shared) : Prop := ∃ h' tk, s₂ = { s₁ with heap := h', toks := tk } ∧ Fr h₀ L h' m ∧ News h₀ L h' all
theorem SameEnd.mk {s₁ : Shared} {all : Led} {h' : Heap} {tk : Nat} (F : Fr h₀ L h' m) (N : News h₀ L h' all) : SameEnd h₀ L m all s₁ { s₁ with heap := h', toks := tk } := ⟨h', tk, rfl, F, N⟩
theorem SameEnd.end' {s₁ s₂ : Shared} {I : Addr} {oI : Obj} {C : Addr} {oC : Obj} {D : Addr} {oD : Obj} {S : Led → Prop} {r : Value → Led → Prop} {y : Value} {news : Led} (h : SameEnd h₀ L m ((I, oI) :: (C, oC) :: (D, oD) :: news) s₁ s₂) (off : Off3 I C D news) (hS : S news) (hr : r y news) : CompEnd h₀ L m s₁ I oI C oC D oD S r y s₂ := by
  obtain ⟨h', tk, e, F, N⟩ := h
  exact ⟨h', tk, news, e, F, N, off, hS, hr⟩
theorem compT_same {ct elt : PySem.Expr} {x : Str} {scope : Scope} {cl : List (Str × Addr)} {S : Led → Prop} {P : Nat → Value → Prop} {Fin : List Value → Led → Prop} {n : Nat} {news0 : Led} (R : Nat → List Value → Prop) (hS : S news0) (h0 : R 0 [])
    (step : ∀ i ys v J oJ C oC D m₂ h tk (E' : Value → Shared → Prop), i < n → R i ys → P i v → NsObj oC m₂ → m₂ x = some v → Fr h₀ L h m → News h₀ L h ((J, oJ) :: (C, oC) :: (D, lst ys) :: news0) →
      wpAny (model prog w) A (isTrue ct (compEnvC scope cl C env) (eval ct (compEnvC scope cl C env))) (fun ok s' => if ok = true then
        wpAny (model prog w) A (eval elt (compEnvC scope cl C env)) (fun y s₂ => SameEnd h₀ L m ((J, oJ) :: (C, oC) :: (D, lst ys) :: news0) { s with heap := h, toks := tk } s₂ ∧ R (i + 1) (ys ++ [y])) E' s'
        else SameEnd h₀ L m ((J, oJ) :: (C, oC) :: (D, lst ys) :: news0) { s with heap := h, toks := tk } s' ∧ R (i + 1) ys) E' { s with heap := h, toks := tk })
    (done : ∀ ys, R n ys → Fin ys news0) : LCt.CompRestT prog w A h₀ L m env ct elt x scope cl s S P Fin n 0 [] news0 := by
  refine compT_ind (fun i ys news => news = news0 ∧ R i ys) ⟨rfl, h0⟩ ?_ ?_
  · rintro i ys news v J oJ C oC D m₂ h tk E' hi ⟨rfl, hR⟩ hP hC hx F N off ne
    refine wpAny_mono (step i ys v J oJ C oC D m₂ h tk E' hi hR hP hC hx F N) (fun ok s' q => ?_) fun _ _ q => q
    split
    · rename_i hok
      rw [if_pos hok] at q
      exact wpAny_mono q (fun y s₂ e => e.1.end' off hS ⟨rfl, e.2⟩) fun _ _ q => q
    · rename_i hok
      rw [if_neg hok] at q
      exact q.1.end' off hS ⟨rfl, q.2⟩
  · rintro ys news ⟨rfl, hR⟩
    exact done ys hR
def Sq (o : Obj) : Prop := ∃ xs n, o.data = .seq xs n
theorem sq_off {h : Heap} {c : Addr} {o : Obj} {v : Option Value} {news tl : Led} (N : News h₀ L h news) (hc : (c, o) ∈ news) (hd : o.data = .cell v) (ht : ∀ p ∈ tl, p ∈ news) (hs : ∀ p ∈ tl, ∀ u, p.2.data ≠ .cell u) : OwnOff tl [c] := by
  intro p hp b hb e
  rw [List.mem_singleton.mp hb] at e
  have h1 := (N p (ht p hp)).1
  have h2 := (N _ hc).1
  dsimp only at h2
  rw [e, h2] at h1
  exact hs p hp v (Option.some.inj h1 ▸ hd)
end
def Fld (o : Obj) : Prop := ∃ fs, o.data = .fields fs
def MTurnK (g : Heap) (L : Addr) (own : Led) (J : (Str → Option Value) → Led → Prop) (s₁ : Shared) (Q : Flow → Shared → Prop) (f : Flow) (s₂ : Shared) : Prop :=
  match f with
  | .ret v => Q (.ret v) s₂
  | .brk => Q .next s₂
  | _ => ∃ h' tk m' nx', s₂ = { s₁ with heap := h', toks := tk } ∧ Fr g L h' m' ∧ News g L h' (own ++ nx') ∧ (∀ p ∈ nx', ¬ Fld p.2) ∧ J m' nx'
theorem MTurnK.next {g : Heap} {L : Addr} {own : Led} {J : (Str → Option Value) → Led → Prop} {s₁ : Shared} {Q : Flow → Shared → Prop} {h' : Heap} {tk : Nat} {m' : Str → Option Value} (nx' : Led)
    (F : Fr g L h' m') (N : News g L h' (own ++ nx')) (hc : ∀ p ∈ nx', ¬ Fld p.2) (j : J m' nx') : MTurnK g L own J s₁ Q .next { s₁ with heap := h', toks := tk } := ⟨h', tk, m', nx', rfl, F, N, hc, j⟩
section
variable {w : World} {A : Around} {E : Value → Shared → Prop} {s : Shared} {env : Env} {g : Heap} {target : PySem.Expr} {body : List Stmt} {Q : Flow → Shared → Prop} {m : Str → Option Value} {nx0 : Led}
theorem for_coreK {I : Addr} {fp : List Addr} {n : Nat} {P Md : Nat → Value → Heap → Prop} {St : Nat → Heap → Prop} {s₂ : Shared} (W : KTurns prog w A target I fp [I] n P Md St)
    (hI : ∀ i h, St i h → ∃ o, h.get? I = some o ∧ Fld o) (hf : ∀ b ∈ fp, b = I ∨ g.get? b ≠ none) (hLf : env.locals ∉ fp) (hgI : g.get? I = none)
    (st : St 0 s₂.heap) (F : Fr g env.locals s₂.heap m) (N : News g env.locals s₂.heap nx0) (hc : ∀ p ∈ nx0, ¬ Fld p.2) (hnI : ∀ p ∈ nx0, p.1 ≠ I)
    (J : Nat → (Str → Option Value) → Led → Prop) (h0 : J 0 m nx0)
    (turn : ∀ i v m₁ nx h tk own, i < n → P i v h → (∀ p ∈ own, Fld p.2) → J i m₁ nx → (∀ p ∈ nx, ¬ Fld p.2) → Fr g env.locals h m₁ → News g env.locals h (own ++ nx) →
      wpAny (model prog w) A (assign target env v) (fun _ s₃ => wpAny (model prog w) A (execs body env) (MTurnK g env.locals own (J (i + 1)) s₂ Q) E s₃) E { s₂ with heap := h, toks := tk })
    (done : ∀ m₁ nx h tk, J n m₁ nx → (∀ p ∈ nx, ¬ Fld p.2) → Fr g env.locals h m₁ → News g env.locals h nx → Q .next { s₂ with heap := h, toks := tk }) :
    TurnsAt prog w A g env target body Q E (.ref I) s₂ := by
  refine ⟨I, fp, [I], n, P, Md, St, m, nx0, fun i m nx => J i m nx ∧ ∀ p ∈ nx, ¬ Fld p.2, rfl, W, hLf, ?_, ?_, st, F, N, ⟨h0, hc⟩, ?_, ?_⟩
  · intro b hb; rw [List.mem_singleton.mp hb]; exact hgI
  · intro p hp hI; exact hnI p hp (List.mem_singleton.mp hI)
  · rintro i v m₁ nx h tk own hi hP ⟨hJ, hcn⟩ hnw hof hoh hall hst F₁ N₁
    obtain ⟨oI, hoI, hcI⟩ := hI _ _ hst
    have hmI : (I, oI) ∈ own := hall I (W.sub I (List.mem_singleton.mpr rfl)) hgI oI hoI
    have hown : ∀ p ∈ own, Fld p.2 := by
      intro p hp
      rcases hf p.1 (hof p hp) with e | e
      · have h1 := hoh p hp
        rw [e, hoI] at h1
        rw [← Option.some.inj h1]; exact hcI
      · exact absurd (N₁ p (List.mem_append.mpr (.inl hp))).2.2 e
    refine wpAny_mono (turn i v m₁ nx h tk own hi hP hown hJ hcn F₁ N₁) (fun _ s₃ h₃ => wpAny_mono h₃ (fun f s₄ h₄ => ?_) fun _ _ e => e) fun _ _ e => e
    have fin : (∃ h' tk m' nx', s₄ = { s₂ with heap := h', toks := tk } ∧ Fr g env.locals h' m' ∧ News g env.locals h' (own ++ nx') ∧ (∀ p ∈ nx', ¬ Fld p.2) ∧ J (i + 1) m' nx') →
        LoopStepU g env.locals [I] own (fun m nx => J (i + 1) m nx ∧ ∀ p ∈ nx, ¬ Fld p.2) { s₂ with heap := h, toks := tk } .next s₄ := by
      rintro ⟨h', tk', m', nx', rfl, F', N', hc', hj'⟩
      refine ⟨rfl, h', tk', m', nx', rfl, F', N', fun p hp hpI => ?_, hj', hc'⟩
      have e := List.mem_singleton.mp hpI
      have h1 := (N' p (List.mem_append.mpr (.inr hp))).1
      have h2 := (N' _ (List.mem_append.mpr (.inl hmI))).1
      rw [e, h2] at h1
      exact hc' p hp (by rw [← Option.some.inj h1]; exact hcI)
    cases f with
    | ret v => exact .ret h₄
    | brk => exact .brk h₄
    | next => exact .next (fin h₄)
    | cont => exact .cont (fin h₄)
  · rintro h' tk m' nx' F' N' _ ⟨hJ, hc'⟩
    exact done m' nx' h' tk hJ hc' F' N'

theorem for_rangeK0 {r : Addr} {a b c : Int} {t u v : Tok} {n : Nat} {x : Str} {px : Pos} (hh : A.handled = none) (hr : IsRange s.heap r a b c t u v) (hsmall : Builtin.Range.small a b c = true) (hsz : Builtin.Range.rangeSize a b c = (n : Int))
    (F : Fr g env.locals s.heap m) (N : News g env.locals s.heap nx0) (hc : ∀ p ∈ nx0, ¬ Fld p.2)
    (J : Nat → (Str → Option Value) → Led → Prop) (h0 : J 0 m nx0)
    (turn : ∀ i tk' m₁ nx h tk own, i < n → (∀ p ∈ own, Fld p.2) → J i m₁ nx → (∀ p ∈ nx, ¬ Fld p.2) → Fr g env.locals h m₁ → News g env.locals h (own ++ nx) →
      wpAny (model prog w) A (assign (.Name x px) env (.int (a + i * c) tk')) (fun _ s₃ => wpAny (model prog w) A (execs body env) (MTurnK g env.locals own (J (i + 1)) s Q) E s₃) E { s with heap := h, toks := tk })
    (done : ∀ m₁ nx h tk, J n m₁ nx → (∀ p ∈ nx, ¬ Fld p.2) → Fr g env.locals h m₁ → News g env.locals h nx → Q .next { s with heap := h, toks := tk }) :
    wpAny (model prog w) A (pyIter (.ref r)) (fun it s₂ => TurnsAt prog w A g env (.Name x px) body Q E it s₂) E s := by
  refine wpAny_pyIter_range hr hsmall ?_
  have W := Walks.range (prog := prog) (w := w) hh s.heap.objs.size a c n
  refine for_coreK (KTurns.ofWalks (target := .Name x px) W fun i v s Q E st q => wpAny_pure q) (fun i h st => ⟨_, st, _, rfl⟩) (fun b hb => .inl (List.mem_singleton.mp hb)) (fun hm => ?_) (next_is_new F)
    (by show IsRangeIter _ _ _ _ _; rw [hsz]; simpa using Heap.get?_push_size _ rfl) (F.push _) (fun p hp => ⟨Heap.get?_push_of_some _ (N p hp).1, (N p hp).2⟩) hc (fun p hp e => ?_) J h0 ?_ ?_
  · exact absurd F.ns.lt ((List.mem_singleton.mp hm) ▸ Nat.lt_irrefl _)
  · exact absurd (Heap.lt_size (N p hp).1) (e ▸ Nat.lt_irrefl _)
  · rintro i v m₁ nx h tk own hi ⟨t', rfl⟩ hown hJ hcn F₁ N₁
    exact turn i t' m₁ nx h tk own hi hown hJ hcn F₁ N₁
  · intro m₁ nx h tk hJ hcn F₁ N₁
    exact done m₁ nx h tk hJ hcn F₁ N₁
theorem for_rangeK {r L : Addr} {a b c : Int} {t u v : Tok} {n : Nat} {x : Str} {px : Pos} (hL : env.locals = L) (hh : A.handled = none) (hr : IsRange s.heap r a b c t u v) (hsmall : Builtin.Range.small a b c = true) (hsz : Builtin.Range.rangeSize a b c = (n : Int))
    (F : Fr g L s.heap m) (N : News g L s.heap nx0) (hc : ∀ p ∈ nx0, ¬ Fld p.2)
    (J : Nat → (Str → Option Value) → Led → Prop) (h0 : J 0 m nx0)
    (turn : ∀ i tk' m₁ nx h tk own, i < n → (∀ p ∈ own, Fld p.2) → J i m₁ nx → (∀ p ∈ nx, ¬ Fld p.2) → Fr g L h m₁ → News g L h (own ++ nx) →
      wpAny (model prog w) A (assign (.Name x px) env (.int (a + i * c) tk')) (fun _ s₃ => wpAny (model prog w) A (execs body env) (MTurnK g L own (J (i + 1)) s Q) E s₃) E { s with heap := h, toks := tk })
    (done : ∀ m₁ nx h tk, J n m₁ nx → (∀ p ∈ nx, ¬ Fld p.2) → Fr g L h m₁ → News g L h nx → Q .next { s with heap := h, toks := tk }) :
    wpAny (model prog w) A (pyIter (.ref r)) (fun it s₂ => TurnsAt prog w A g env (.Name x px) body Q E it s₂) E s := by
  subst hL
  exact for_rangeK0 hh hr hsmall hsz F N hc J h0 turn done
theorem for_rangeA {r L : Addr} {a b c : Int} {t u v : Tok} {n : Nat} {x : Str} {px : Pos} (hL : env.locals = L) (hh : A.handled = none) (hr : IsRange s.heap r a b c t u v) (hsmall : Builtin.Range.small a b c = true) (hsz : Builtin.Range.rangeSize a b c = (n : Int))
    (F : Fr g L s.heap m) (N : News g L s.heap nx0) (hc : ∀ p ∈ nx0, ¬ Fld p.2)
    (J : Nat → (Str → Option Value) → Led → Prop) (h0 : J 0 m nx0)
    (turn : ∀ i tk' m₁ nx h tk own (JJ : (Str → Option Value) → Led → Prop) (QQ : Flow → Shared → Prop), (∀ m' nx', J (i + 1) m' nx' → JJ m' nx') → (∀ f s', Q f s' → QQ f s') → i < n → (∀ p ∈ own, Fld p.2) → J i m₁ nx → (∀ p ∈ nx, ¬ Fld p.2) → Fr g L h m₁ → News g L h (own ++ nx) →
      wpAny (model prog w) A (assign (.Name x px) env (.int (a + i * c) tk')) (fun _ s₃ => wpAny (model prog w) A (execs body env) (MTurnK g L own JJ s QQ) E s₃) E { s with heap := h, toks := tk })
    (done : ∀ m₁ nx h tk, J n m₁ nx → (∀ p ∈ nx, ¬ Fld p.2) → Fr g L h m₁ → News g L h nx → Q .next { s with heap := h, toks := tk }) :
    wpAny (model prog w) A (pyIter (.ref r)) (fun it s₂ => TurnsAt prog w A g env (.Name x px) body Q E it s₂) E s :=
  for_rangeK hL hh hr hsmall hsz F N hc J h0 (fun i tk' m₁ nx h tk own => turn i tk' m₁ nx h tk own (J (i + 1)) Q (fun _ _ q => q) (fun _ _ q => q)) done
end

theorem notFldSeq {xs : Array Value} {n : Nat} {c : Value} : ¬ Fld { cls := c, data := .seq xs n } := fun ⟨_, h⟩ => by cases h
theorem notFldCell {o : Obj} {v : Option Value} (h : o.data = .cell v) : ¬ Fld o := fun ⟨_, e⟩ => by rw [h] at e; cases e
theorem fldNotCell {o : Obj} (h : Fld o) : ∀ u, o.data ≠ .cell u := fun u e => by obtain ⟨fs, q⟩ := h; rw [q] at e; cases e
theorem news_rot {g h : Heap} {L : Addr} {a b c d : Addr × Obj} {r : Led} (N : News g L h (a :: b :: c :: d :: r)) : News g L h (a :: c :: d :: b :: r) := newsSub N (by intro p hp; simp only [List.mem_cons] at hp ⊢; rcases hp with hp | hp | hp | hp | hp <;> simp [hp])
theorem newsTail {g h : Heap} {L : Addr} {a : Addr × Obj} {r : Led} (N : News g L h (a :: r)) : News g L h r := newsSub N fun _ hp => .tail _ hp
end Mine
end
open PySem PySem.W PySem.Calls PyProof.Rows
namespace Mine
theorem filledA : PySem.Challenge.rw_og0071_01 = PySem.Challenge.rw_og0071_01 ∧ hd.heap_1 = hd.heap_1 := by
  k_fill
  exact ⟨rfl, rfl⟩
/- the way into a def: its sides -/
local macro_rules | `(tactic| walk_at "mine sides") => `(tactic| (
  (case k1 => exact Ok.room (by assumption))
  (case k2 => k_is)
  (case k3 => k_is)
  (case k4 => exact BindsTo.of_eq rfl)
  (case k5 => exact locs rfl)
  (case k6 => rfl)
  (case k7 => rfl)
  (case k8 => rfl)
  (case k9 => decide)))
local macro_rules | `(tactic| walk_at "mine ok") => `(tactic| first | assumption | exact Ok.deeper (by assumption) | exact Ok.less (by assumption) (by omega) | exact Ok.less (Ok.deeper (by assumption)) (by omega))
local macro_rules | `(tactic| walk_at "ka") => `(tactic| k_dflt k_asm)
local macro_rules | `(tactic| walk_at "ko") => `(tactic| k_dflt omega)
local macro_rules | `(tactic| walk_at "kk") => `(tactic| k_dflt (walk_at "mine ok"))
local macro_rules | `(tactic| walk_at "km") => `(tactic| k_dflt (first | k_memK | walk_at "mine mem"))
local macro_rules | `(tactic| walk_at "mine li") => `(tactic| first | exact News.isList (by k_asm) (by walk_at "km") | exact Heap.IsList.at (by assumption) (fun o e => Fr.keep (by k_asm) _ _ e))
local macro_rules | `(tactic| walk_at "ku") => `(tactic| k_dflt (exact Ok.units (j := 0) (by walk_at "mine ok") (by omega)))
local macro_rules | `(tactic| walk_at "ks") => `(tactic| ((try simp only [List.length_append, List.length_take, List.length_drop, List.length_cons, List.length_nil, List.length_singleton, sizeLine_eq]); omega))
local macro_rules | `(tactic| walk_at "sm") => `(tactic| first | with_reducible assumption | with_reducible exact List.mem_cons_self | (with_reducible refine List.mem_cons_of_mem _ ?_; walk_at "sm") | (with_reducible refine List.mem_append_left _ ?_; walk_at "sm") | (with_reducible refine List.mem_append_right _ ?_; walk_at "sm") | exact List.Mem.head _)
local macro_rules | `(tactic| walk_at "ss") => `(tactic| first | with_reducible exact subId | (with_reducible refine subTail ?_; walk_at "ss") | (with_reducible refine subInl ?_; walk_at "ss") | (with_reducible refine subInr ?_; walk_at "ss"))
local macro_rules | `(tactic| walk_at "sb") => `(tactic| first | exact subNil | walk_at "ss" | (with_reducible refine subCons ?_ ?_; walk_at "sm"; walk_at "sb") | (with_reducible refine subApp ?_ ?_; walk_at "sb"; walk_at "sb"))
local macro_rules | `(tactic| walk_at "z") => `(tactic| (intros; (try k_sweep)))
local macro_rules | `(tactic| walk_at "zc") => `(tactic| (intros; (try ((with_reducible rename News _ _ _ _ => N9); dsimp only [List.cons_append, List.nil_append] at N9)); (try k_sweep)))
local macro_rules | `(tactic| walk_at "mine map") => `(tactic| first | (refine map_rhs ?ma ?mb; (case ma => (intro hy; subst hy; rfl)); (case mb => (intro hy; walk_at "mine map"))) | (refine map_lhs ?ma ?mb; (case ma => assumption); (case mb => walk_at "mine map")) | rfl)
local macro_rules | `(tactic| walk_at "subscriptTail") => `(tactic| ((with_reducible refine' slice_both (s := ⟨_, _, _, _, _⟩) (h := ?_)); walk_at "z"))
local macro_rules | `(tactic| walk_at "subscriptTail") => `(tactic| ((with_reducible refine' slice_from (s := ⟨_, _, _, _, _⟩) (h := ?_)); walk_at "z"))
local macro_rules | `(tactic| walk_at "subscriptTail") => `(tactic| ((with_reducible refine' slice_to (s := ⟨_, _, _, _, _⟩) (h := ?_)); walk_at "z"))
local macro_rules | `(tactic| walk_at "exec While BoolOp cons nil") => `(tactic| refine Stop.mk ?_)
local macro_rules | `(tactic| walk_at "exec While Compare cons nil") => `(tactic| refine Stop.mk ?_)
local macro_rules | `(tactic| walk_at "eval Constant int") => `(tactic| with_reducible refine cintK ?_)
local macro_rules | `(tactic| walk_at "eval Constant bytes") => `(tactic| with_reducible refine cbytK ?_)
local macro_rules | `(tactic| walk_at "binaryOp Add int int") => `(tactic| with_reducible refine addK ?_)
local macro_rules | `(tactic| walk_at "binaryOp Sub int int") => `(tactic| with_reducible refine subK ?_)
local macro_rules | `(tactic| walk_at "binaryOp Mult int int") => `(tactic| with_reducible refine mulK ?_)
local macro_rules | `(tactic| walk_at "call builtin:len") => `(tactic| with_reducible refine lenbK (h := ?_))
local macro_rules | `(tactic| walk_at "binaryOp Mod int int") => `(tactic| ((with_reducible refine modK ?_ ?_); (first | decide | omega | assumption)))
local macro_rules | `(tactic| walk_at "mine for") => `(tactic| ((with_reducible rename Fr _ _ _ _ => lF'); with_unfolding_all refine For_turns lF' ?_))
local macro_rules | `(tactic| walk_at "exec For Tuple Name cons nil") => `(tactic| walk_at "mine for")
local macro_rules | `(tactic| walk_at "exec For Name Call cons nil") => `(tactic| walk_at "mine for")
local macro_rules | `(tactic| walk_at "exec For Name Name cons nil") => `(tactic| walk_at "mine for")
local macro_rules | `(tactic| walk_at "pyIter ref") => `(tactic| ((with_reducible show wpAny _ _ (pyIter (Value.ref _)) (fun it s₂ => TurnsAt _ _ _ _ _ _ _ _ _ it s₂) _ _); refine Stop.mk ?_))
local macro_rules | `(tactic| walk_at "exec Raise some none") => `(tactic| (exfalso; first | contradiction | omega))
local macro_rules | `(tactic| walk_at "mine steps") => `(tactic| repeat' (first | (k_unfold; (try dsimp only)) | walk1 | (dsimp only; walk1) | fail "no step"))
local macro_rules | `(tactic| walk_at "call builtin:len") => `(tactic| ((with_reducible refine' len_led (h := ?_))))
local macro_rules | `(tactic| walk_at "binaryOp Add") => `(tactic| ((with_reducible refine' add_by (h := ?_)); intros))
local macro_rules | `(tactic| walk_at "subscriptTail") => `(tactic| ((with_reducible refine' slice_all (s := ⟨_, _, _, _, _⟩) (h := ?_)); walk_at "z"))
local macro_rules | `(tactic| walk_at "mine sidesC") => `(tactic| (
  (case k1 => exact Ok.room (by assumption))
  (case k2 => k_is)
  (case k3 => k_is)
  (case k4 => exact BindsTo.of_eq rfl)
  (case k5 => rfl)
  (case k6 => rfl)
  (case k7 => rfl)
  (case k8 => rfl)
  (case k9 => decide)))
local macro_rules | `(tactic| walk_at "CompSrcT") => `(tactic| refine Stop.mk ?_)
local macro_rules | `(tactic| walk_at "CompSrc") => `(tactic| refine Stop.mk ?_)
local macro_rules | `(tactic| walk_at "SrcLP") => `(tactic| refine Stop.mk ?_)
local macro_rules | `(tactic| walk_at "CompEnd") => `(tactic| refine Stop.mk ?_)
local macro_rules | `(tactic| walk_at "compareOp NotEq ref ref") => `(tactic| ((with_reducible refine' ne_nil (hQ := ?_)); (try simp only [List.isEmpty_nil, List.isEmpty_cons, Bool.not_true, Bool.not_false])))
local macro_rules | `(tactic| walk_at "binaryOp Add ref ref") => `(tactic| ((with_reducible refine' add_listsA (h := ?_)); walk_at "z"))
def lies (o v : List UInt8) (k : Nat) : Bool := cut o k (k + v.length : Nat) == v
section
variable {w : World} {p : Program} {loose : List Str} {mean : ExcName → Option Value} {mg mb : Str → Option Value} {A : Around} {s : Shared} {Q E : Value → Shared → Prop}
set_option maxHeartbeats 8000000 in
theorem lies_at_c {o v : List UInt8} {t u kt : Tok} {k : Nat} (B : Base w p loose mean mg mb s.heap) (hA : Ok 1 A)
  (h1 : k ≤ 1000000) (h2 : o.length ≤ 1000000) (h3 : v.length ≤ 1000000)
  (hQ : ∀ h' tk', Keeps s.heap h' → Q (.bool (lies o v k)) { s with heap := h', toks := tk' }) :
  wpAny (model prog w) A (call (.ref 62) [.bytes o.toArray t, .bytes v.toArray u, .int k kt]) Q E s := by
  have KX := B.k
  have T := B.t
  refine' enter (binds := [(Str.ofString "octets", .bytes o.toArray t), (Str.ofString "wanted", .bytes v.toArray u), (Str.ofString "at", .int k kt)]) B ?k1 ?k2 ?k3 ?k4 ?k5 ?_ ?k6 ?k7 ?k8 ?k9
  walk_at "mine sides"
  intro L h₁ tkE F
  have N : News s.heap L h₁ [] := News.nil
  k_steps
  exact hQ _ _ (Fr.keep (by assumption))

theorem lies_at_u {g : Heap} {L : Addr} {m : Str → Option Value} {nx : Led} {o v : List UInt8} {t u kt : Tok} {k : Nat} (B : Base w p loose mean mg mb g := by walk_at "ka") (F : Fr g L s.heap m := by walk_at "ka") (N : News g L s.heap nx := by walk_at "ka") (hA : Ok 1 A := by walk_at "kk")
  (h1 : k ≤ 1000000 := by walk_at "ko") (h2 : o.length ≤ 1000000 := by walk_at "ko") (h3 : v.length ≤ 1000000 := by walk_at "ko")
  (hQ : ∀ h' tk', Fr g L h' m → News g L h' nx → Q (.bool (lies o v k)) { s with heap := h', toks := tk' }) :
  wpAny (model prog w) A (call (.ref 62) [.bytes o.toArray t, .bytes v.toArray u, .int k kt]) Q E s :=
  lies_at_c (B.keeps F.keep) hA h1 h2 h3 fun h' tk' k => hQ h' tk' (frKept F k) (newsKept N k)
end
local macro_rules | `(tactic| walk_at "call ref") => `(tactic| ((with_reducible refine' lies_at_u (hQ := ?_)); walk_at "z"))
section
variable {w : World} {p : Program} {loose : List Str} {mean : ExcName → Option Value} {mg mb : Str → Option Value} {A : Around} {s : Shared} {Q E : Value → Shared → Prop}

def bgo (o v : List UInt8) : Nat → Nat → Nat
  | 0, b => b
  | f + 1, b => if lies o v b then bgo o v f (b + v.length) else b
abbrev Mk := List UInt8 × Bool
def behind (o : List UInt8) (m : Mk) (k : Nat) : Nat := if m.2 then bgo o m.1 (o.length + 1) (k + m.1.length) else k + m.1.length
theorem lies_le {o v : List UInt8} {k : Nat} (h : lies o v k = true) (hv : v ≠ []) : k + v.length ≤ o.length := by
  have h1 : cut o k (k + v.length : Nat) = v := by simpa [lies] using h
  have h2 := congrArg List.length h1
  unfold cut at h2
  rw [List.length_take, List.length_drop] at h2
  have : v.length ≠ 0 := by simpa using hv
  simp only [Int.toNat_natCast] at h2
  have h3 : v.length ≤ o.length - k := h2 ▸ Nat.min_le_right _ _
  clear h2 h1
  omega
set_option maxHeartbeats 8000000 in
theorem behind_c {o : List UInt8} {v : List UInt8} {al : Bool} {t u kt : Tok} {k : Nat} (B : Base w p loose mean mg mb s.heap) (hA : Ok 2 A)
  (h2 : o.length ≤ 1000000) (h3 : k + v.length ≤ o.length) (hv : v ≠ [])
  (hQ : ∀ h' tk' t', Keeps s.heap h' → Q (.int (behind o (v, al) k) t') { s with heap := h', toks := tk' }) :
  wpAny (model prog w) A (call (.ref 97) [.bytes o.toArray t, .bytes v.toArray u, .bool al, .int k kt]) Q E s := by
  have KX := B.k
  have T := B.t
  refine' enter (binds := [(Str.ofString "octets", .bytes o.toArray t), (Str.ofString "mark", .bytes v.toArray u), (Str.ofString "is_all", .bool al), (Str.ofString "at", .int k kt)]) B ?k1 ?k2 ?k3 ?k4 ?k5 ?_ ?k6 ?k7 ?k8 ?k9
  walk_at "mine sides"
  intro L h₁ tkE F
  have N : News s.heap L h₁ [] := News.nil
  cases al with
  | false =>
    k_steps
    (with_reducible rename Fr _ _ _ _ => F'); (with_reducible rename News _ _ _ _ => N')
    refine Stop.out ?_
    refine While_inv (fun n m₁ nx => (∃ tb : Tok, m₁ = fun y => if y = Str.ofString "behind" then some (.int (k + v.length : Nat) tb) else List.lookup y [(Str.ofString "octets", .bytes o.toArray t), (Str.ofString "mark", .bytes v.toArray u), (Str.ofString "is_all", .bool false), (Str.ofString "at", .int k kt)].reverse) ∧ nx = []) (n₀ := 0) F' N' ⟨⟨_, rfl⟩, rfl⟩ ?_
    rintro n m₁ nx h tk F₁ N₁ ⟨⟨tb, rfl⟩, rfl⟩
    k_steps
    exact hQ _ _ _ (Fr.keep (by assumption))
  | true =>
    k_steps
    (with_reducible rename Fr _ _ _ _ => F'); (with_reducible rename News _ _ _ _ => N')
    refine Stop.out ?_
    refine While_inv (fun n m₁ nx => (Ex2 fun (b : Nat) (tb : Tok) => An4 (m₁ = (fun y => if y = Str.ofString "behind" then some (.int b tb) else List.lookup y [(Str.ofString "octets", .bytes o.toArray t), (Str.ofString "mark", .bytes v.toArray u), (Str.ofString "is_all", .bool true), (Str.ofString "at", .int k kt)].reverse)) (b ≤ o.length) (o.length + 1 ≤ b + n) (bgo o v n b = bgo o v (o.length + 1) (k + v.length))) ∧ nx = []) (n₀ := o.length + 1) F' N' ⟨⟨k + v.length, _, rfl, h3, by omega, rfl⟩, rfl⟩ ?_
    rintro n m₁ nx h tk F₁ N₁ ⟨⟨b, tb, rfl, hb, hn, he⟩, rfl⟩
    k_steps
    · have hl : lies o v b = true := by assumption
      have hle := lies_le hl hv
      have hv' : v.length ≠ 0 := by simpa using hv
      obtain ⟨n, rfl⟩ : ∃ n', n = n' + 1 := ⟨n - 1, by omega⟩
      refine WhileStep.intro (n' := n) (frMap (by assumption) fun y => if_dup) (by assumption) (by omega) ⟨⟨b + v.length, _, rfl, hle, by omega, ?_⟩, rfl⟩
      rw [← he]; simp [bgo, hl]
    · have hl : lies o v b = false := by assumption
      have e : behind o (v, true) k = b := by
        have q : bgo o v n b = b := by cases n <;> simp [bgo, hl]
        rw [← q, he]; simp [behind]
      subst e
      exact hQ _ _ _ (Fr.keep (by assumption))
end
section
section
variable {w : World} {p : Program} {loose : List Str} {mean : ExcName → Option Value} {mg mb : Str → Option Value} {A : Around} {s : Shared} {Q E : Value → Shared → Prop}
def mkD (m : Mk) : D := .tup [.bytes m.1, .bool m.2]
def marksD (ms : List Mk) : D := .list (ms.map mkD)
def hitAt (o : List UInt8) (ms : List Mk) (k : Nat) : Option Mk := ms.find? fun m => lies o m.1 k
def hitD : Option Mk → D
  | none => .none
  | some m => mkD m
theorem rdMk {h : Heap} {v : Value} {m : Mk} (r : Rd (H h) v (mkD m)) : Ex2 fun a t => An2 (v = .ref a) (IsTup h a [Value.bytes m.1.toArray t, Value.bool m.2].toArray) := by
  obtain ⟨a, us, rfl, hT, hus⟩ := Rd.isTuple r
  cases hus with
  | cons q1 hus =>
    cases hus with
    | cons q2 hus =>
      cases hus
      cases q1
      cases q2
      exact ⟨_, _, rfl, hT⟩
theorem hit_take {o : List UInt8} {ms : List Mk} {k i : Nat} {m : Mk} (h : ∀ x ∈ ms.take i, lies o x.1 k = false) (hm : ms[i]? = some m) (hl : lies o m.1 k = true) : hitAt o ms k = some m := by
  unfold hitAt
  rw [List.find?_eq_some_iff_append]
  refine ⟨hl, ms.take i, ms.drop (i + 1), ?_, fun x hx => by simp [h x hx]⟩
  obtain ⟨hi, rfl⟩ := List.getElem?_eq_some_iff.mp hm
  rw [← List.drop_eq_getElem_cons hi, List.take_append_drop]
set_option maxHeartbeats 8000000 in
theorem delimiter_at_c {o : List UInt8} {ms : List Mk} {dv : Value} {t kt : Tok} {k : Nat} (B : Base w p loose mean mg mb s.heap) (hA : Ok 2 A)
  (h1 : k ≤ 1000000) (h2 : o.length ≤ 1000000) (hm : Rd (H s.heap) dv (marksD ms)) (hms : ∀ m ∈ ms, m.1 ≠ [] ∧ m.1.length ≤ 1000000) :
  Pure w A (call (.ref 90) [.bytes o.toArray t, dv, .int k kt]) No s (hitD (hitAt o ms k)) := by
  intro Q E hQ
  obtain ⟨ah, ad, af, ag, au⟩ := A
  obtain rfl : ah = none := hA.h
  obtain ⟨l, vs, rfl, hl, hvs⟩ := hm.isList
  have KX := B.k
  have T := B.t
  refine' enter (binds := [(Str.ofString "octets", .bytes o.toArray t), (Str.ofString "delimiters", .ref l), (Str.ofString "at", .int k kt)]) B ?k1 ?k2 ?k3 ?k4 ?k5 ?_ ?k6 ?k7 ?k8 ?k9
  walk_at "mine sides"
  intro L h₁ tkE F
  have N : News s.heap L h₁ [] := News.nil
  walk_at "mine steps"
  refine Stop.out ?_
  refine for_listL (L := L) rfl hA.h hl (by assumption) (by assumption) (by intro p hp; cases hp) (fun i m₁ nx => (∃ u1 u2 : Option Value, m₁ = fun y => if y = Str.ofString "is_all" then u1 else if y = Str.ofString "mark" then u2 else List.lookup y [(Str.ofString "octets", .bytes o.toArray t), (Str.ofString "delimiters", .ref l), (Str.ofString "at", .int k kt)].reverse) ∧ nx = [] ∧ ∀ x ∈ ms.take i, lies o x.1 k = false) ⟨⟨none, none, ?_⟩, rfl, by simp⟩ ?_ ?_
  · funext y
    walk_at "mine map"
  · rintro i v m₁ nx h tk own hv hown ⟨⟨u1, u2, rfl⟩, rfl, hx⟩ hcn F₁ N₁
    rw [List.append_nil] at N₁
    obtain ⟨d, hd, rd⟩ := hvs.at hv
    obtain ⟨m, hmi, rfl⟩ : ∃ m, ms[i]? = some m ∧ mkD m = d := by simpa using hd
    obtain ⟨mk, al⟩ := m
    obtain ⟨a, t1, rfl, hT⟩ := rdMk rd
    obtain ⟨hne, hle⟩ := hms (mk, al) (List.mem_of_getElem? hmi)
    have hmk : (mk.toArray.size : Int) ≠ 0 := by simpa using hne
    dsimp only at hT hle
    walk_at "mine steps"
    · have hl' : lies o mk k = true := by assumption
      (with_reducible rename News _ _ _ _ => N9)
      refine hQ _ _ _ [_] (Fr.keep (by assumption)) (freshOne N9) ?_
      rw [hit_take hx hmi hl']
      exact .tup (.inr (.head _)) (.cons (.bytes _ _) (.cons (.bool _) .nil))
    · have hl' : lies o mk k = false := by assumption
      refine MTurn.next [] (m' := fun y => if y = Str.ofString "is_all" then some (Value.bool al) else if y = Str.ofString "mark" then some (Value.bytes mk.toArray t1) else List.lookup y [(Str.ofString "octets", .bytes o.toArray t), (Str.ofString "delimiters", .ref l), (Str.ofString "at", .int k kt)].reverse) (frMap (by assumption) fun y => ?_) (by rw [List.append_nil]; assumption) (by intro p hp; cases hp) ⟨⟨_, _, rfl⟩, rfl, ?_⟩
      · walk_at "mine map"
      · intro x hx'
        rw [List.take_add_one, hmi] at hx'
        rcases List.mem_append.mp hx' with hx' | hx'
        · exact hx x hx'
        · rw [show x = (mk, al) by simpa using hx']; exact hl'
  · rintro m₁ nx h tk ⟨⟨u1, u2, rfl⟩, rfl, hx⟩ hcn F₁ N₁
    walk_at "mine steps"
    refine hQ _ _ _ [] (Fr.keep F₁) (fun p hp => by cases hp) ?_
    have hn : hitAt o ms k = none := by
      unfold hitAt
      rw [List.find?_eq_none]
      intro x hx'
      have e : vs.length = ms.length := by simpa using hvs.length
      rw [e, List.take_length] at hx
      simp [hx x hx']
    rw [hn]; exact .none
end
end
section
variable {w : World} {p : Program} {loose : List Str} {mean : ExcName → Option Value} {mg mb : Str → Option Value} {A : Around} {s : Shared} {Q E : Value → Shared → Prop}
theorem behind_u {g : Heap} {L : Addr} {m : Str → Option Value} {nx : Led} {o : List UInt8} {v : List UInt8} {al : Bool} {t u kt : Tok} {k : Nat} (B : Base w p loose mean mg mb g := by walk_at "ka") (F : Fr g L s.heap m := by walk_at "ka") (N : News g L s.heap nx := by walk_at "ka") (hA : Ok 2 A := by walk_at "kk")
  (h2 : o.length ≤ 1000000 := by walk_at "ko") (h3 : k + v.length ≤ o.length := by walk_at "ko") (hv : v ≠ [] := by walk_at "ka")
  (hQ : ∀ h' tk' t', Fr g L h' m → News g L h' nx → Q (.int (behind o (v, al) k) t') { s with heap := h', toks := tk' }) :
  wpAny (model prog w) A (call (.ref 97) [.bytes o.toArray t, .bytes v.toArray u, .bool al, .int k kt]) Q E s :=
  behind_c (B.keeps F.keep) hA h2 h3 hv fun h' tk' t' k => hQ h' tk' t' (frKept F k) (newsKept N k)
theorem hit_some {o : List UInt8} {ms : List Mk} {k : Nat} {m : Mk} (h : hitAt o ms k = some m) : m ∈ ms ∧ lies o m.1 k = true := ⟨List.mem_of_find?_eq_some h, by simpa using List.find?_some h⟩
theorem delimiter_at_u {g : Heap} {L : Addr} {m₀ : Str → Option Value} {news : Led} {o : List UInt8} {ms : List Mk} {dv : Value} {t kt : Tok} {k : Nat} (B : Base w p loose mean mg mb g := by walk_at "ka") (F : Fr g L s.heap m₀ := by walk_at "ka") (N : News g L s.heap news := by walk_at "ka") (hA : Ok 2 A := by walk_at "kk")
  (h1 : k ≤ 1000000 := by walk_at "ko") (h2 : o.length ≤ 1000000 := by walk_at "ko") (hm : Rd (H s.heap) dv (marksD ms) := by k_dflt (walk_at "mine rd")) (hms : ∀ m ∈ ms, m.1 ≠ [] ∧ m.1.length ≤ 1000000 := by walk_at "ka")
  (hn : ∀ h' tk', hitAt o ms k = none → Fr g L h' m₀ → News g L h' news → Q .none { s with heap := h', toks := tk' })
  (hs : ∀ m h' tk' a n t', hitAt o ms k = some m → m ∈ ms → m.1 ≠ [] → k + m.1.length ≤ o.length → Fr g L h' m₀ → News g L h' ((a, tupO [Value.bytes m.1.toArray t', Value.bool m.2].toArray n) :: news) → Q (.ref a) { s with heap := h', toks := tk' }) :
  wpAny (model prog w) A (call (.ref 90) [.bytes o.toArray t, dv, .int k kt]) Q E s := by
  refine (delimiter_at_c (B.keeps F.keep) hA h1 h2 hm hms).use F N fun v h' tk' nx F' N' ap r => ?_
  cases hh : hitAt o ms k with
  | none =>
    rw [hh] at r
    cases r
    exact hn h' tk' hh F' fun p hp => N' p (List.mem_append.mpr (.inr hp))
  | some m =>
    rw [hh] at r
    obtain ⟨mk, al⟩ := m
    cases r with
    | @tup a us n _ hp hus =>
      rcases hp with hp | hp
      · exact hp.elim
      · cases hus with
        | cons q1 hus =>
          cases hus with
          | cons q2 hus =>
            cases hus
            cases q2
            cases q1 with
            | bytes _ t1 =>
              obtain ⟨h3, h4⟩ := hit_some hh
              refine hs (mk, al) h' tk' a n t1 hh h3 (hms _ h3).1 (lies_le h4 (hms _ h3).1) F' ?_
              intro q hq
              rcases List.mem_cons.mp hq with rfl | hq
              · exact N' _ (List.mem_append.mpr (.inl hp))
              · exact N' q (List.mem_append.mpr (.inr hq))
end
local macro_rules | `(tactic| walk_at "mine rd") => `(tactic| first | assumption | exact Rd.base (by assumption) (by assumption) | exact Rd.led (by assumption) (by assumption) (by walk_at "mine sub"))
local macro_rules | `(tactic| walk_at "call ref") => `(tactic| ((with_reducible refine' behind_u (hQ := ?_)); walk_at "z"))
local macro_rules | `(tactic| walk_at "call ref") => `(tactic| ((with_reducible refine' delimiter_at_u (hn := ?_) (hs := ?_)) <;> walk_at "z"))
section
variable {w : World} {p : Program} {loose : List Str} {mean : ExcName → Option Value} {mg mb : Str → Option Value} {A : Around} {s : Shared} {Q E : Value → Shared → Prop}
def nxt (o : List UInt8) (ms : List Mk) : Nat → Nat → Option (Nat × Mk)
  | 0, _ => none
  | f + 1, k => match hitAt o ms k with
    | some m => some (k, m)
    | none => nxt o ms f (k + 1)
theorem nxt_some {o : List UInt8} {ms : List Mk} {m : Mk} : ∀ {f b i : Nat}, i < f → (∀ j, j < i → hitAt o ms (b + j) = none) → hitAt o ms (b + i) = some m → nxt o ms f b = some (b + i, m)
  | 0, _, _, h, _, _ => absurd h (Nat.not_lt_zero _)
  | f + 1, b, 0, _, _, hs => by
    rw [Nat.add_zero] at hs
    simp [nxt, hs]
  | f + 1, b, i + 1, hi, hn, hs => by
    have h0 := hn 0 (Nat.succ_pos _)
    rw [Nat.add_zero] at h0
    have q := nxt_some (o := o) (ms := ms) (m := m) (f := f) (b := b + 1) (i := i) (by omega) (fun j hj => by have := hn (j + 1) (by omega); rwa [show b + (j + 1) = b + 1 + j by omega] at this) (by rwa [show b + (i + 1) = b + 1 + i by omega] at hs)
    simp only [nxt, h0, q]
    rw [show b + 1 + i = b + (i + 1) by omega]
theorem nxt_none {o : List UInt8} {ms : List Mk} : ∀ {f b : Nat}, (∀ j, j < f → hitAt o ms (b + j) = none) → nxt o ms f b = none
  | 0, _, _ => rfl
  | f + 1, b, hn => by
    have h0 := hn 0 (Nat.succ_pos _)
    rw [Nat.add_zero] at h0
    simp only [nxt, h0]
    exact nxt_none fun j hj => by have := hn (j + 1) (by omega); rwa [show b + (j + 1) = b + 1 + j by omega] at this
def piece (o : List UInt8) (ms : List Mk) (b : Nat) : List UInt8 × List UInt8 × Nat := match nxt o ms (o.length - b) b with
  | some (k, m) => (cut o b k, m.1, behind o m k)
  | none => (o.drop b, [], o.length)
def pieceD (p : List UInt8 × List UInt8 × Nat) : D := .tup [.bytes p.1, .bytes p.2.1, .int p.2.2]
set_option maxHeartbeats 8000000 in
theorem next_piece_c {o : List UInt8} {ms : List Mk} {dv : Value} {t kt : Tok} {b : Nat} (B : Base w p loose mean mg mb s.heap) (hA : Ok 3 A)
  (h1 : b ≤ o.length) (h2 : o.length ≤ 1000000) (hm : Rd (H s.heap) dv (marksD ms)) (hms : ∀ m ∈ ms, m.1 ≠ [] ∧ m.1.length ≤ 1000000) :
  Pure w A (call (.ref 104) [.bytes o.toArray t, dv, .int b kt]) No s (pieceD (piece o ms b)) := by
  intro Q E hQ
  obtain ⟨ah, ad, af, ag, au⟩ := A
  obtain rfl : ah = none := hA.h
  have KX := B.k
  have T := B.t
  refine' enter (binds := [(Str.ofString "octets", .bytes o.toArray t), (Str.ofString "delimiters", dv), (Str.ofString "begin", .int b kt)]) B ?k1 ?k2 ?k3 ?k4 ?k5 ?_ ?k6 ?k7 ?k8 ?k9
  walk_at "mine sides"
  intro L h₁ tkE F
  have N : News s.heap L h₁ [] := News.nil
  walk_at "mine steps"
  refine Stop.out ?_
  refine for_rangeL (L := L) (n := o.length - b) rfl rfl (by assumption) (small_one (by omega) (by omega) (by rw [List.size_toArray]; omega) (by rw [List.size_toArray]; omega)) (by rw [rangeSize_nat, List.size_toArray]; omega) (by assumption) (by assumption) (by intro p hp; cases hp)
    (fun i m₁ nx => (∃ u1 u2 : Option Value, m₁ = fun y => if y = Str.ofString "hit" then u1 else if y = Str.ofString "at" then u2 else List.lookup y [(Str.ofString "octets", .bytes o.toArray t), (Str.ofString "delimiters", dv), (Str.ofString "begin", .int b kt)].reverse) ∧ nx = [] ∧ ∀ j, j < i → hitAt o ms (b + j) = none) ⟨⟨none, none, ?_⟩, rfl, by omega⟩ ?_ ?_
  · funext y
    walk_at "mine map"
  · rintro i tk' m₁ nx h tk own hi hown ⟨⟨u1, u2, rfl⟩, rfl, hx⟩ hcn F₁ N₁
    rw [List.append_nil] at N₁
    have e : (b : Int) + (i : Int) * 1 = ((b + i : Nat) : Int) := by omega
    rw [e]
    walk_at "mine steps"
    · have hh : hitAt o ms (b + i) = none := by assumption
      refine MTurn.next [] (m' := fun y => if y = Str.ofString "hit" then some Value.none else if y = Str.ofString "at" then some (Value.int ((b + i : Nat) : Int) tk') else List.lookup y [(Str.ofString "octets", .bytes o.toArray t), (Str.ofString "delimiters", dv), (Str.ofString "begin", .int b kt)].reverse) (frMap (by assumption) fun y => ?_) (by rw [List.append_nil]; assumption) (by intro p hp; cases hp) ⟨⟨_, _, rfl⟩, rfl, ?_⟩
      · walk_at "mine map"
      · intro j hj
        rcases Nat.lt_succ_iff_lt_or_eq.mp hj with hj | rfl
        · exact hx j hj
        · exact hh
    · (with_reducible rename hitAt _ _ _ = some _ => hh)
      (with_reducible rename News _ _ _ _ => N9)
      have e2 := nxt_some hi hx hh
      refine hQ _ _ _ [_] (Fr.keep (by assumption)) (freshOne N9) ?_
      unfold piece
      rw [e2]
      exact .tup (.inr (.head _)) (.cons (.bytes _ _) (.cons (.bytes _ _) (.cons (.int _ _) .nil)))
  · rintro m₁ nx h tk ⟨⟨u1, u2, rfl⟩, rfl, hx⟩ hcn F₁ N₁
    walk_at "mine steps"
    (with_reducible rename News _ _ _ _ => N9)
    refine hQ _ _ _ [_] (Fr.keep (by assumption)) (freshOne N9) ?_
    unfold piece
    rw [nxt_none hx]
    exact .tup (.inr (.head _)) (.cons (.bytes _ _) (.cons (.bytes _ _) (.cons (.int _ _) .nil)))
end
section
variable {w : World} {p : Program} {loose : List Str} {mean : ExcName → Option Value} {mg mb : Str → Option Value} {A : Around} {s : Shared} {Q E : Value → Shared → Prop}
theorem bgo_le {o v : List UInt8} (hv : v ≠ []) : ∀ {f b : Nat}, b ≤ o.length → bgo o v f b ≤ o.length
  | 0, _, h => h
  | f + 1, b, h => by
    unfold bgo
    split
    · rename_i hl; exact bgo_le hv (lies_le hl hv)
    · exact h
theorem behind_le {o : List UInt8} {m : Mk} {k : Nat} (hv : m.1 ≠ []) (h : k + m.1.length ≤ o.length) : behind o m k ≤ o.length := by
  unfold behind; split
  · exact bgo_le hv h
  · exact h
theorem nxt_prop {o : List UInt8} {ms : List Mk} {m : Mk} : ∀ {f b k : Nat}, nxt o ms f b = some (k, m) → hitAt o ms k = some m ∧ b ≤ k
  | 0, _, _, h => by simp [nxt] at h
  | f + 1, b, k, h => by
    unfold nxt at h
    split at h
    · rename_i m' hm'; cases h; exact ⟨hm', Nat.le_refl _⟩
    · have := nxt_prop h; exact ⟨this.1, by omega⟩
theorem piece_le {o : List UInt8} {ms : List Mk} {b : Nat} (hms : ∀ m ∈ ms, m.1 ≠ [] ∧ m.1.length ≤ 1000000) : (piece o ms b).2.2 ≤ o.length := by
  unfold piece
  split
  · rename_i k m h
    obtain ⟨h1, _⟩ := nxt_prop h
    obtain ⟨h3, h4⟩ := hit_some h1
    exact behind_le (hms _ h3).1 (lies_le h4 (hms _ h3).1)
  · exact Nat.le_refl _
theorem next_piece_u {g : Heap} {L : Addr} {m₀ : Str → Option Value} {news : Led} {o : List UInt8} {ms : List Mk} {dv : Value} {t kt : Tok} {b : Nat} (B : Base w p loose mean mg mb g := by walk_at "ka") (F : Fr g L s.heap m₀ := by walk_at "ka") (N : News g L s.heap news := by walk_at "ka") (hA : Ok 3 A := by walk_at "kk")
  (h1 : b ≤ o.length := by walk_at "ko") (h2 : o.length ≤ 1000000 := by walk_at "ko") (hm : Rd (H s.heap) dv (marksD ms) := by k_dflt (walk_at "mine rd")) (hms : ∀ m ∈ ms, m.1 ≠ [] ∧ m.1.length ≤ 1000000 := by walk_at "ka")
  (hQ : ∀ a n t1 t2 t3 h' tk', (∀ q ∈ news, a ≠ q.1) → Fr g L h' m₀ → News g L h' ((a, tupO [Value.bytes (piece o ms b).1.toArray t1, Value.bytes (piece o ms b).2.1.toArray t2, Value.int (piece o ms b).2.2 t3].toArray n) :: news) → Q (.ref a) { s with heap := h', toks := tk' }) :
  wpAny (model prog w) A (call (.ref 104) [.bytes o.toArray t, dv, .int b kt]) Q E s := by
  refine (next_piece_c (B.keeps F.keep) hA h1 h2 hm hms).use F N fun v h' tk' nx F' N' ap r => ?_
  cases r with
  | @tup a us n _ hp hus =>
    rcases hp with hp | hp
    · exact hp.elim
    · cases hus with
      | cons q1 hus =>
        cases hus with
        | cons q2 hus =>
          cases hus with
          | cons q3 hus =>
            cases hus
            cases q1 with
            | bytes _ t1 =>
              cases q2 with
              | bytes _ t2 =>
                cases q3 with
                | int _ t3 =>
                  refine hQ a n t1 t2 t3 h' tk' (ap _ hp) F' ?_
                  intro q hq
                  rcases List.mem_cons.mp hq with rfl | hq
                  · exact N' _ (List.mem_append.mpr (.inl hp))
                  · exact N' q (List.mem_append.mpr (.inr hq))
end
local macro_rules | `(tactic| walk_at "call ref") => `(tactic| ((with_reducible refine' next_piece_u (hQ := ?_)); intro a' n' t1' t2' t3' h' tk' hne' F' N'; (try (have hnl' := hne' _ (List.Mem.head _); dsimp only at hnl')); (try k_sweep)))
section
variable {w : World} {p : Program} {loose : List Str} {mean : ExcName → Option Value} {mg mb : Str → Option Value} {A : Around} {s : Shared} {Q E : Value → Shared → Prop}
abbrev Pr := List UInt8 × List UInt8
def pairD (x : Pr) : D := .tup [.bytes x.1, .bytes x.2]
def pairsD (xs : List Pr) : D := .list (xs.map pairD)
def unsD (r : List Pr × Int × Bool) : D := .tup [pairsD r.1, .int r.2.1, .bool r.2.2]
def uns (o : List UInt8) (ms : List Mk) : Nat → Nat → List Pr × Nat
  | 0, at' => ([], at')
  | n + 1, at' => if at' < o.length then (((piece o ms at').1, (piece o ms at').2.1) :: (uns o ms n (piece o ms at').2.2).1, (uns o ms n (piece o ms at').2.2).2) else ([], at')
def unstr (o : List UInt8) (ms : List Mk) (b : Int) (many : Nat) : List Pr × Int × Bool :=
  if 1 ≤ b ∧ b ≤ o.length then ((uns o ms many (b - 1).toNat).1, ((uns o ms many (b - 1).toNat).2 : Int) + 1, decide (((uns o ms many (b - 1).toNat).2 : Int) < (o.length : Int))) else ([], b, true)
set_option maxHeartbeats 8000000 in
theorem unstrung_c {o : List UInt8} {ms : List Mk} {dv : Value} {t kt nt : Tok} {b : Int} {many : Nat} (B : Base w p loose mean mg mb s.heap) (hA : Ok 4 A)
  (h2 : o.length ≤ 1000000) (h3 : many ≤ 1000000) (hm : Rd (H s.heap) dv (marksD ms)) (hms : ∀ m ∈ ms, m.1 ≠ [] ∧ m.1.length ≤ 1000000) :
  Pure w A (call (.ref 111) [.bytes o.toArray t, dv, .int b kt, .int many nt]) No s (unsD (unstr o ms b many)) := by
  intro Q E hQ
  obtain ⟨ah, ad, af, ag, au⟩ := A
  obtain rfl : ah = none := hA.h
  have KX := B.k
  have T := B.t
  refine' enter (binds := [(Str.ofString "octets", .bytes o.toArray t), (Str.ofString "delimiters", dv), (Str.ofString "begin", .int b kt), (Str.ofString "many", .int many nt)]) B ?k1 ?k2 ?k3 ?k4 ?k5 ?_ ?k6 ?k7 ?k8 ?k9
  walk_at "mine sides"
  intro L h₁ tkE F
  have N : News s.heap L h₁ [] := News.nil
  walk_at "mine steps"
  · have hb1 : 1 ≤ b := by assumption
    have hb2 : b ≤ o.length := by assumption
    have e1 : b - 1 = ((b - 1).toNat : Int) := by omega
    (with_reducible rename Fr _ _ _ _ => F9)
    (with_reducible rename News _ _ _ _ => N9)
    rw [e1] at F9
    have N8 := newsSub (nx := [_]) N9 (by intro p hp; rw [List.mem_singleton.mp hp]; exact .tail _ (.head _))
    clear N9
    refine Stop.out ?_
    refine While_A (fun n m₁ nx => Ex9 fun (xs : List Pr) (k : Nat) (l : Addr) (vs : List Value) (ep : Nat) (tl : Led) (u0 u1 u2 : Option Value) => An8 ((∃ tb, u0 = some (.int (k : Nat) tb))) (nx = (l, listOf vs.toArray ep) :: tl) (OwnOff tl [l]) (RdAll (InL tl) vs (xs.map pairD)) (k ≤ o.length) (xs.length + n = many) ((xs ++ (uns o ms n k).1, (uns o ms n k).2) = uns o ms many (b - 1).toNat) (m₁ = fun y => if y = Str.ofString "at" then u0 else if y = Str.ofString "mark" then u1 else if y = Str.ofString "piece" then u2 else if y = Str.ofString "pieces" then some (.ref l) else List.lookup y [(Str.ofString "octets", .bytes o.toArray t), (Str.ofString "delimiters", dv), (Str.ofString "begin", .int b kt), (Str.ofString "many", .int many nt)].reverse)) (n₀ := many) F9 N8
      ⟨[], (b - 1).toNat, _, [], 0, [], mapOf F9 (Str.ofString "at"), none, none, ⟨_, rfl⟩, rfl, (by intro p hp; cases hp), RdAll.nil, (by omega), (by simp), (by simp), ?_⟩ ?_
    · funext y
      walk_at "mine map"
    · rintro n m₁ nx h tk SS QQ hSS hQQ F₁ N₁ ⟨xs, k, l, vs, ep, tl, _, u1, u2, ⟨tb, rfl⟩, rfl, hoff, hvs, hk, hlen, he, rfl⟩
      have hvl : vs.length = xs.length := by simpa using hvs.length
      walk_at "mine steps"
      · have hlt : xs.length < many := by omega
        have hkl : k < o.length := by have : (k : Int) < (o.toArray.size : Int) := by assumption
                                      rw [List.size_toArray] at this; omega
        obtain ⟨n, rfl⟩ : ∃ n', n = n' + 1 := ⟨n - 1, by omega⟩
        (with_reducible rename Fr _ _ _ _ => F9)
        (with_reducible rename News _ _ _ _ => N9)
        obtain ⟨N8, hDl⟩ := grow_step N9
        refine hSS _ _ (WhileStep.intro (n' := n) F9 N8 (by omega) ⟨xs ++ [((piece o ms k).1, (piece o ms k).2.1)], (piece o ms k).2.2, l, _, ep + 1, _, mapOf F9 (Str.ofString "at"), mapOf F9 (Str.ofString "mark"), mapOf F9 (Str.ofString "piece"), ⟨_, rfl⟩, rfl, offCons hDl hoff, ?_, piece_le hms, (by rw [List.length_append, List.length_singleton]; omega), ?_, ?_⟩)
        · rw [List.map_append]
          exact (hvs.mono fun _ _ hm => .tail _ hm).append (.one (.tup (.head _) (.cons (.bytes _ _) (.cons (.bytes _ _) .nil))))
        · rw [← he]; simp [uns, hkl]
        · funext y
          walk_at "mine map"
      · refine hQQ _ ?_
        walk_at "mine steps"
        have hkl : ¬ k < o.length := by have : ¬ (k : Int) < (o.toArray.size : Int) := by assumption
                                        rw [List.size_toArray] at this; omega
        have e0 : uns o ms n k = ([], k) := by cases n <;> simp [uns, hkl]
        rw [e0, List.append_nil] at he
        have e2 : unstr o ms b many = (xs, (k : Int) + 1, decide ((k : Int) < (o.length : Int))) := by unfold unstr; rw [if_pos ⟨hb1, hb2⟩, ← he]
        (with_reducible rename News _ _ _ _ => N9)
        refine hQ _ _ _ _ (Fr.keep (by assumption)) (freshOf N9 fun p hp => hp) ?_
        rw [e2]
        exact .tup (.inr (.head _)) (.cons (.list (.inr (.tail _ (.head _))) (hvs.mono fun _ _ hm => .inr (.tail _ (.tail _ hm)))) (.cons (.int _ _) (.cons (.bool _) .nil)))
      · refine hQQ _ ?_
        walk_at "mine steps"
        have hn : n = 0 := by omega
        subst hn
        have e0 : uns o ms 0 k = ([], k) := rfl
        rw [e0, List.append_nil] at he
        have e2 : unstr o ms b many = (xs, (k : Int) + 1, decide ((k : Int) < (o.length : Int))) := by unfold unstr; rw [if_pos ⟨hb1, hb2⟩, ← he]
        (with_reducible rename News _ _ _ _ => N9)
        refine hQ _ _ _ _ (Fr.keep (by assumption)) (freshOf N9 fun p hp => hp) ?_
        rw [e2]
        exact .tup (.inr (.head _)) (.cons (.list (.inr (.tail _ (.head _))) (hvs.mono fun _ _ hm => .inr (.tail _ (.tail _ hm)))) (.cons (.int _ _) (.cons (.bool _) .nil)))
  · have hb : ¬ b ≤ o.length := by assumption
    have e2 : unstr o ms b many = ([], b, true) := by unfold unstr; rw [if_neg fun h => hb h.2]
    (with_reducible rename News _ _ _ _ => N9)
    refine hQ _ _ _ _ (Fr.keep (by assumption)) (freshOf N9 fun p hp => hp) ?_
    rw [e2]
    exact .tup (.inr (.head _)) (.cons (.list (.inr (.tail _ (.head _))) .nil) (.cons (.int _ _) (.cons (.bool _) .nil)))
  · have hb : ¬ 1 ≤ b := by assumption
    have e2 : unstr o ms b many = ([], b, true) := by unfold unstr; rw [if_neg fun h => hb h.1]
    (with_reducible rename News _ _ _ _ => N9)
    refine hQ _ _ _ _ (Fr.keep (by assumption)) (freshOf N9 fun p hp => hp) ?_
    rw [e2]
    exact .tup (.inr (.head _)) (.cons (.list (.inr (.tail _ (.head _))) .nil) (.cons (.int _ _) (.cons (.bool _) .nil)))
end
section
open PySem PySem.W PySem.Calls PyProof.Rows
mutual
/-- displays of written data and of two names -/
inductive Lit (cx : Str → Option D) : PySem.Expr → D → Prop
  | int (i : Int) (k : Nat) (p : Pos) : Lit cx (.Constant (.int i) k p) (.int i)
  | bool (b : Bool) (k : Nat) (p : Pos) : Lit cx (.Constant (.bool b) k p) (.bool b)
  | bytes (l : List UInt8) (k : Nat) (p : Pos) : Lit cx (.Constant (.bytes l) k p) (.bytes l)
  | name (x : Str) (p : Pos) (d : D) : cx x = some d → (x == ("__debug__" : Str)) = false → Lit cx (.Name x p) d
  | tup {es : List PySem.Expr} {ds : List D} (k : Nat) (p : Pos) : LitAll cx es ds → es.length ≤ 100 → Lit cx (.Tuple es k p) (.tup ds)
  | list {es : List PySem.Expr} {ds : List D} (p : Pos) : LitAll cx es ds → es.length ≤ 100 → Lit cx (.List es p) (.list ds)
inductive LitAll (cx : Str → Option D) : List PySem.Expr → List D → Prop
  | nil : LitAll cx [] []
  | cons {e : PySem.Expr} {es : List PySem.Expr} {d : D} {ds : List D} : Lit cx e d → LitAll cx es ds → LitAll cx (e :: es) (d :: ds)
end
theorem LitAll.len {cx : Str → Option D} : ∀ {es : List PySem.Expr} {ds : List D}, LitAll cx es ds → es.length = ds.length
  | _, _, .nil => rfl
  | _, _, .cons _ r => by rw [List.length_cons, List.length_cons, LitAll.len r]
section
variable {w : World} {A : Around} {E : Value → Shared → Prop} {s : Shared} {env : Env} {g : Heap} {L : Addr} {m : Str → Option Value} {news tl : Led}
theorem lit_star {cx : Str → Option D} {e : PySem.Expr} {d : D} (h : Lit cx e d) (rest : List PySem.Expr) : starEach (e :: rest) env = (false, eval e env) :: starEach rest env := by
  cases h <;> rfl
def CtxOk (cx : Str → Option D) (env : Env) (m : Str → Option Value) (tl : Led) : Prop := env.scope.kind = .function ∧ ∀ x d, cx x = some d → env.kindOf x = some .local ∧ ∃ v, m x = some v ∧ Rd (InL tl) v d
abbrev LitPost (g : Heap) (L : Addr) (m : Str → Option Value) (news tl : Led) (s : Shared) (R : Value → Led → Prop) (Q : Value → Shared → Prop) : Prop :=
  ∀ v h' tk' nx, Fr g L h' m → News g L h' (news ++ nx) → (∀ p ∈ nx, ∀ q ∈ news, p.1 ≠ q.1) → R v nx → Q v { s with heap := h', toks := tk' }
mutual
theorem lit_eval {cx : Str → Option D} : ∀ {e : PySem.Expr} {d : D} (_ : Lit cx e d) (s : Shared) (news : Led) (Q : Value → Shared → Prop), Fr g L s.heap m → News g L s.heap news → env.locals = L → CtxOk cx env m tl →
    (∀ v h' tk' nx, Fr g L h' m → News g L h' (news ++ nx) → (∀ p ∈ nx, ∀ q ∈ news, p.1 ≠ q.1) → Rd (InL (tl ++ nx)) v d → Q v { s with heap := h', toks := tk' }) → wpAny (model prog w) A (eval e env) Q E s
  | _, _, .int i k p, s, news, Q, F, N, _, _, hQ => wpAny_Constant_int (hQ _ s.heap _ [] F (by rw [List.append_nil]; exact N) (by intro p hp; cases hp) (.int _ _))
  | _, _, .bool b k p, s, news, Q, F, N, _, _, hQ => Constant_bool (hQ _ s.heap s.toks [] F (by rw [List.append_nil]; exact N) (by intro p hp; cases hp) (.bool _))
  | _, _, .bytes l k p, s, news, Q, F, N, _, _, hQ => Constant_bytes (hQ _ s.heap _ [] F (by rw [List.append_nil]; exact N) (by intro p hp; cases hp) (.bytes l _))
  | _, _, .name x p d hx hd, s, news, Q, F, N, hL, hc, hQ => by
    obtain ⟨hk, v, hv, r⟩ := hc.2 x d hx
    refine wpAny_Name (wpAny_loadName_local hc.1 hk (hL ▸ F.ns) hv ?_) hd
    exact hQ v s.heap s.toks [] F (by rw [List.append_nil]; exact N) (by intro p hp; cases hp) (by rw [List.append_nil]; exact r)
  | _, _, @Lit.tup _ es ds k p h hz, s, news, Q, F, N, hL, hc, hQ => by
    refine wpAny_Tuple_spliced ?_
    refine lits_eval h s news _ F N hL hc fun vs h' tk' nx F' N' ap r => ?_
    have hn := next_is_new F'
    refine ⟨by have := r.length; have := h.len; rw [sizeLine_eq]; omega, hQ _ _ tk' (nx ++ [(h'.objs.size, tupO vs.toArray 0)]) (F'.push _) ?_ ?_ ?_⟩
    · rw [← List.append_assoc]
      intro q hq
      rcases List.mem_append.mp hq with hq | hq
      · exact ⟨Heap.get?_push_of_some _ (N' q hq).1, (N' q hq).2⟩
      · rw [List.mem_singleton.mp hq]
        exact ⟨Heap.get?_push_size _ rfl, Ne.symm (Nat.ne_of_lt F'.ns.lt), hn⟩
    · intro q hq q' hq'
      rcases List.mem_append.mp hq with hq | hq
      · exact ap q hq q' hq'
      · rw [List.mem_singleton.mp hq]
        exact Ne.symm (Nat.ne_of_lt (Heap.lt_size (N' q' (List.mem_append.mpr (.inl hq'))).1))
    · refine .tup (n := 0) (List.mem_append.mpr (.inr (List.mem_append.mpr (.inr (.head _))))) (r.mono fun a o hm => ?_)
      rcases List.mem_append.mp hm with hm | hm
      · exact List.mem_append.mpr (.inl hm)
      · exact List.mem_append.mpr (.inr (List.mem_append.mpr (.inl hm)))
  | _, _, @Lit.list _ es ds p h hz, s, news, Q, F, N, hL, hc, hQ => by
    refine wpAny_List_spliced ?_
    refine lits_eval h s news _ F N hL hc fun vs h' tk' nx F' N' ap r => ?_
    have hn := next_is_new F'
    refine ⟨by have := r.length; have := h.len; rw [sizeLine_eq]; omega, hQ _ _ tk' (nx ++ [(h'.objs.size, listOf vs.toArray 0)]) (F'.push _) ?_ ?_ ?_⟩
    · rw [← List.append_assoc]
      intro q hq
      rcases List.mem_append.mp hq with hq | hq
      · exact ⟨Heap.get?_push_of_some _ (N' q hq).1, (N' q hq).2⟩
      · rw [List.mem_singleton.mp hq]
        exact ⟨Heap.get?_push_size _ rfl, Ne.symm (Nat.ne_of_lt F'.ns.lt), hn⟩
    · intro q hq q' hq'
      rcases List.mem_append.mp hq with hq | hq
      · exact ap q hq q' hq'
      · rw [List.mem_singleton.mp hq]
        exact Ne.symm (Nat.ne_of_lt (Heap.lt_size (N' q' (List.mem_append.mpr (.inl hq'))).1))
    · refine .list (n := 0) (List.mem_append.mpr (.inr (List.mem_append.mpr (.inr (.head _))))) (r.mono fun a o hm => ?_)
      rcases List.mem_append.mp hm with hm | hm
      · exact List.mem_append.mpr (.inl hm)
      · exact List.mem_append.mpr (.inr (List.mem_append.mpr (.inl hm)))
theorem lits_eval {cx : Str → Option D} : ∀ {es : List PySem.Expr} {ds : List D} (_ : LitAll cx es ds) (s : Shared) (news : Led) (Q : List Value → Shared → Prop), Fr g L s.heap m → News g L s.heap news → env.locals = L → CtxOk cx env m tl →
    (∀ vs h' tk' nx, Fr g L h' m → News g L h' (news ++ nx) → (∀ p ∈ nx, ∀ q ∈ news, p.1 ≠ q.1) → RdAll (InL (tl ++ nx)) vs ds → Q vs { s with heap := h', toks := tk' }) → ∀ {pos : Pos}, wpAny (model prog w) A (spliced (backTo pos (starEach es env))) Q E s
  | _, _, .nil, s, news, Q, F, N, hL, hc, hQ, pos => spliced_none (hQ [] s.heap s.toks [] F (by rw [List.append_nil]; exact N) (by intro p hp; cases hp) .nil)
  | _, _, @LitAll.cons _ e es d ds h r, s, news, Q, F, N, hL, hc, hQ, pos => by
    refine spliced_more ?_ (lit_star h es)
    refine lit_eval h s news _ F N hL hc fun v h1 tk1 nx1 F1 N1 ap1 r1 => ?_
    refine lits_eval r _ (news ++ nx1) _ F1 N1 hL hc fun vs h2 tk2 nx2 F2 N2 ap2 r2 => ?_
    refine hQ (v :: vs) h2 tk2 (nx1 ++ nx2) F2 (by rw [← List.append_assoc]; exact N2) ?_ ?_
    · intro q hq q' hq'
      rcases List.mem_append.mp hq with hq | hq
      · exact ap1 q hq q' hq'
      · exact ap2 q hq q' (List.mem_append.mpr (.inl hq'))
    · refine .cons (r1.mono fun a o hm => ?_) (r2.mono fun a o hm => ?_)
      · rcases List.mem_append.mp hm with hm | hm
        · exact List.mem_append.mpr (.inl hm)
        · exact List.mem_append.mpr (.inr (List.mem_append.mpr (.inl hm)))
      · rcases List.mem_append.mp hm with hm | hm
        · exact List.mem_append.mpr (.inl hm)
        · exact List.mem_append.mpr (.inr (List.mem_append.mpr (.inr hm)))
end
theorem lit_u {cx : Str → Option D} {e : PySem.Expr} {d : D} {Q : Value → Shared → Prop} (F : Fr g L s.heap m := by walk_at "ka") (N : News g L s.heap news := by walk_at "ka") (hL : env.locals = L := by k_dflt rfl) (hc : CtxOk cx env m tl := by walk_at "mine ctx") (h : Lit cx e d := by walk_at "lit")
    (hQ : ∀ v h' tk' nx, Fr g L h' m → News g L h' (news ++ nx) → (∀ p ∈ nx, ∀ q ∈ news, p.1 ≠ q.1) → Rd (InL (tl ++ nx)) v d → Q v { s with heap := h', toks := tk' }) : wpAny (model prog w) A (eval e env) Q E s :=
  lit_eval h s news Q F N hL hc hQ
end
end
section
open PySem PySem.W PySem.Calls PyProof.Rows
abbrev Case := List UInt8 × List Mk × Int × Nat × (List Pr × Int × Bool)
def caseD (c : Case) : D := .tup [.bytes c.1, marksD c.2.1, .int c.2.2.1, .int c.2.2.2.1, unsD c.2.2.2.2]
def CASES : List Case := [
  ([65, 44, 66], [([44], false)], 1, 2, ([([65], [44]), ([66], [])], 4, false)),
  ([65, 44, 44, 66], [([44], true)], 1, 3, ([([65], [44]), ([66], [])], 5, false)),
  ([65, 44, 44, 66], [([44], false)], 1, 3, ([([65], [44]), ([], [44]), ([66], [])], 5, false)),
  ([65, 44, 66, 44, 67], [([44], false)], 1, 2, ([([65], [44]), ([66], [44])], 5, true)),
  ([65, 44, 66, 44], [([44], false)], 1, 3, ([([65], [44]), ([66], [44])], 5, false)),
  ([65, 66], [([44], false)], 0, 1, ([], 0, true)),
  ([65, 66], [([44], false)], 2, 1, ([([66], [])], 3, false)),
  ([65, 66], [([44], false)], 3, 1, ([], 3, true)),
  ([65, 44, 44, 66], [([44], false), ([44, 44], false)], 1, 2, ([([65], [44]), ([], [44])], 4, true)),
  ([65, 44, 44, 66], [([44, 44], false), ([44], false)], 1, 2, ([([65], [44, 44]), ([66], [])], 5, false)),
  ([65, 44, 59, 44, 59, 66], [([44, 59], true)], 3, 2, ([([59], [44, 59]), ([66], [])], 7, false))]
theorem CASES_right : ∀ c ∈ CASES, unstr c.1 c.2.1 c.2.2.1 c.2.2.2.1 = c.2.2.2.2 := by decide +kernel
theorem CASES_ok : ∀ c ∈ CASES, c.1.length ≤ 1000 ∧ c.2.2.2.1 ≤ 1000 ∧ ∀ m ∈ c.2.1, m.1 ≠ [] ∧ m.1.length ≤ 1000000 := by decide +kernel
end
section
section
variable {w : World} {p : Program} {loose : List Str} {mean : ExcName → Option Value} {mg mb : Str → Option Value} {A : Around} {s : Shared} {Q E : Value → Shared → Prop}
def Inv (s : Shared) (L : Addr) (xs : List Case) (s' : Shared) : Prop := Ex8 fun h tk l vs ep tl cv bv => An7 (s' = { s with heap := h, toks := tk }) (Fr s.heap L h (fun y => if y = Str.ofString "rows" then some (.ref l) else if y = Str.ofString "comma" then some (Value.ref cv) else if y = Str.ofString "both" then some (Value.ref bv) else none)) (News s.heap L h ((l, listOf (List.toArray vs) ep) :: tl)) (OwnOff tl [l]) (RdAll (InL tl) vs (xs.map caseD)) (Rd (InL tl) (.ref cv) (marksD [([44], false)])) (Rd (InL tl) (.ref bv) (pairsD [([65], [44]), ([66], [])]))
def NextAnd (P : Shared → Prop) (f : Flow) (s' : Shared) : Prop := f = .next ∧ P s'
theorem seq_step {M : Model} {A : Around} {E : Value → Shared → Prop} {env : Env} {st : Stmt} {rest : List Stmt} {Q : Flow → Shared → Prop} {s : Shared} (P : Shared → Prop) (h1 : wpAny M A (exec st env) (NextAnd P) E s) (h2 : ∀ s', P s' → wpAny M A (execs rest env) Q E s') : wpAny M A (execs (st :: rest) env) Q E s := by
  rw [PySem.execs_cons]
  exact wpAny_bind (wpAny_mono h1 (fun f s' ⟨e, hp⟩ => by subst e; exact h2 s' hp) (fun _ _ x => x))
theorem rotAt {g h : Heap} {L : Addr} (pre : Led) {x : Addr × Obj} {tl : Led} (N : News g L h (pre ++ x :: tl)) : News g L h (x :: (pre ++ tl)) := newsSub N (by
  intro p hp
  rcases List.mem_cons.mp hp with rfl | hp
  · exact List.mem_append.mpr (.inr (.head _))
  · rcases List.mem_append.mp hp with hp | hp
    · exact List.mem_append.mpr (.inl hp)
    · exact List.mem_append.mpr (.inr (.tail _ hp)))
def cxC : Str → Option D := fun x => if x = Str.ofString "comma" then some (marksD [([44], false)]) else if x = Str.ofString "both" then some (pairsD [([65], [44]), ([66], [])]) else none
theorem ctxC {env : Env} {m : Str → Option Value} {tl : Led} {cv bv : Value} (hk : env.scope.kind = .function) (k1 : env.kindOf (Str.ofString "comma") = some .local) (k2 : env.kindOf (Str.ofString "both") = some .local)
  (r1 : Rd (InL tl) cv (marksD [([44], false)])) (r2 : Rd (InL tl) bv (pairsD [([65], [44]), ([66], [])])) (m1 : m (Str.ofString "comma") = some cv) (m2 : m (Str.ofString "both") = some bv) : CtxOk cxC env m tl := by
  refine ⟨hk, fun x d h => ?_⟩
  unfold cxC at h
  by_cases h1 : x = Str.ofString "comma"
  · rw [if_pos h1] at h
    cases h
    subst h1
    exact ⟨k1, _, m1, r1⟩
  · rw [if_neg h1] at h
    by_cases h2 : x = Str.ofString "both"
    · rw [if_pos h2] at h
      cases h
      subst h2
      exact ⟨k2, _, m2, r2⟩
    · rw [if_neg h2] at h; cases h
theorem rdRef {P : AP} {v : Value} {ds : List D} (r : Rd P v (.tup ds)) : ∃ a, v = .ref a := by cases r; exact ⟨_, rfl⟩
def Inv0 (s : Shared) (L : Addr) (s' : Shared) : Prop := Ex5 fun h tk tl cv bv => An5 (s' = { s with heap := h, toks := tk }) (Fr s.heap L h (fun y => if y = Str.ofString "comma" then some (Value.ref cv) else if y = Str.ofString "both" then some (Value.ref bv) else none)) (News s.heap L h tl) (Rd (InL tl) (.ref cv) (marksD [([44], false)])) (Rd (InL tl) (.ref bv) (pairsD [([65], [44]), ([66], [])]))
theorem inTl {q : Addr × Obj} {nx : Led} {a : Addr} {o : Obj} (h : InL nx a o) : InL (q :: nx) a o := List.Mem.tail _ h
local macro_rules | `(tactic| walk_at "subt") => `(tactic| repeat (first | assumption | refine inTl ?_))
local macro_rules | `(tactic| walk_at "rd") => `(tactic| repeat (first | assumption | (refine' Rd.mono ?km ?kh; (case kh => assumption); (case km => (intro _ _ hm; walk_at "subt"))) | exact Rd.int _ _ | exact Rd.bytes _ _ | exact Rd.bool _ | exact RdAll.nil | refine RdAll.cons ?_ ?_ | (refine' Rd.tup ?ka ?_; (case ka => k_memK)) | (refine' Rd.list ?ka ?_; (case ka => k_memK))))
theorem offLit {l : Addr} {o : Obj} {tl nx : Led} (off : OwnOff tl [l]) (ap : ∀ p ∈ nx, ∀ q ∈ (l, o) :: tl, p.1 ≠ q.1) : OwnOff (tl ++ nx) [l] := fun p hp b hb => by
  rcases List.mem_append.mp hp with hp | hp
  · exact off p hp b hb
  · rw [List.mem_singleton.mp hb]
    exact ap p hp _ (.head _)
theorem allLt_offC {d : Addr} : ∀ {l : Led}, AllLt d l → OwnOff l [d]
  | [], _ => fun p hp => by cases hp
  | q :: l, h => fun p hp b hb => by
    rcases List.mem_cons.mp hp with rfl | hp
    · rw [List.mem_singleton.mp hb]; exact Nat.ne_of_lt h.1
    · exact allLt_offC h.2 p hp b hb
local macro_rules | `(tactic| walk_at "subL") => `(tactic| (refine subInL ?_; walk_at "sb"))
local macro_rules | `(tactic| walk_at "subT") => `(tactic| (refine subInL ?_; walk_at "sb"))
theorem off_size {g h : Heap} {L : Addr} {news : Led} (N : News g L h news) : OwnOff news [h.objs.size] := fun p hp b hb => by
  rw [List.mem_singleton.mp hb]; exact Nat.ne_of_lt (Heap.lt_size (N p hp).1)
theorem newList_u {g : Heap} {L : Addr} {m : Str → Option Value} {news : Led} {vs : List Value} {Q : Value → Shared → Prop} (F : Fr g L s.heap m := by walk_at "ka") (N : News g L s.heap news := by walk_at "ka") (hz : vs.length ≤ 1000 := by k_dflt simp)
  (hQ : ∀ l h', Fr g L h' m → News g L h' ((l, listOf vs.toArray 0) :: news) → OwnOff news [l] → Q (.ref l) { s with heap := h' }) : wpAny (model prog w) A (newList vs) Q E s :=
  newList_N F N (fun h' F' N' => hQ _ h' F' N' (off_size N)) (by rw [sizeLine_eq]; omega)
theorem addList_u {g : Heap} {L : Addr} {m : Str → Option Value} {news : Led} {l b : Addr} {vs ws : List Value} {n k : Nat} {Q : Value → Shared → Prop} (F : Fr g L s.heap m := by walk_at "ka") (N : News g L s.heap news := by walk_at "ka") (hl : (l, listOf vs.toArray n) ∈ news := by walk_at "km") (hb : (b, listOf ws.toArray k) ∈ news := by walk_at "km") (hz : vs.length + ws.length ≤ 1000 := by walk_at "ks")
  (hQ : ∀ l h', Fr g L h' m → News g L h' ((l, listOf (vs ++ ws).toArray 0) :: news) → OwnOff news [l] → Q (.ref l) { s with heap := h' }) : wpAny (model prog w) A (binaryOp .Add (.ref l) (.ref b)) Q E s :=
  add_lists F N (N.isList hl) (N.isList hb) (fun h' F' N' => hQ _ h' F' N' (off_size N)) (by rw [sizeLine_eq]; omega)
local macro_rules | `(tactic| walk_at "newList") => `(tactic| ((with_reducible refine' newList_u (hQ := ?_)); walk_at "z"))
local macro_rules | `(tactic| walk_at "binaryOp Add ref ref") => `(tactic| ((with_reducible refine' addList_u (hQ := ?_)); walk_at "z"))
theorem callWith_t {M : Model} {env : Env} {pos : Pos} {id : String} {first : List Value} {es : List PySem.Expr} {k : Nat} {q : Pos} {Q : Value → Shared → Prop}
    (h : wpAny M A (spliced (backTo pos (starEach [.Tuple es k q] env))) (fun vs s₁ => wpAny M A (call (.builtin id) (first ++ vs)) Q E s₁) E s) :
    wpAny M A (callWith pos (.builtin id) first (backTo pos (starEach [.Tuple es k q] env)) []) Q E s := callWith_method1 h rfl rfl
local macro_rules | `(tactic| walk_at "callWith") => `(tactic| with_reducible refine callWith_t ?_)
local macro_rules | `(tactic| walk_at "lit") => `(tactic| first | exact Lit.int _ _ _ | exact Lit.bool _ _ _ | exact Lit.bytes _ _ _ | exact Lit.name _ _ _ rfl (by decide) | exact LitAll.nil | (refine' LitAll.cons ?la ?lb; (case la => walk_at "lit"); (case lb => walk_at "lit")) | (refine' Lit.tup _ _ ?lh ?lz; (case lz => decide); (case lh => walk_at "lit")) | (refine' Lit.list _ ?lh ?lz; (case lz => decide); (case lh => walk_at "lit")))
local macro_rules | `(tactic| walk_at "mine ctx") => `(tactic| k_dflt (exact ctxC rfl rfl rfl (by assumption) (by assumption) rfl rfl))
local macro_rules | `(tactic| walk_at "eval Tuple") => `(tactic| ((with_reducible refine' lit_u (hQ := ?_)); intro v' h' tk' nx' F' N' ap' r'; (have q' := rdRef r'); (obtain ⟨a', hq'⟩ := q'); (subst hq'); (try dsimp only [List.cons_append, List.nil_append] at N'); (try (have off9 := offLit (by assumption) ap')); (try k_sweep)))
set_option maxHeartbeats 700000 in
theorem cases_c (B : Base w p loose mean mg mb s.heap) (hA : Ok 1 A) : Pure w A (call (.ref 173) []) No s (.list (CASES.map caseD)) := by
  intro Q E hQ
  obtain ⟨ah, ad, af, ag, au⟩ := A
  obtain rfl : ah = none := hA.h
  have KX := B.k
  have T := B.t
  refine' enter (binds := []) B ?k1 ?k2 ?k3 ?k4 ?k5 ?_ ?k6 ?k7 ?k8 ?k9
  walk_at "mine sides"
  intro L h₁ tkE F
  have N : News s.heap L h₁ [] := News.nil
  with_reducible refine seq_step (Inv0 s L) ?_ ?_
  · walk_at "mine steps"
    (with_reducible rename Fr _ _ _ _ => F9)
    (with_reducible rename News _ _ _ _ => N9)
    refine ⟨rfl, _, _, _, _, _, rfl, F9, N9, ?_, ?_⟩
    · walk_at "rd"
    · walk_at "rd"
  rintro s1 ⟨h, tk, tl, cv, bv, rfl, F1, N1, rc, rb⟩
  clear F N
  with_reducible refine seq_step (Inv s L (CASES.take 2)) ?_ ?_
  · walk_at "mine steps"
    (with_reducible rename Fr _ _ _ _ => F9)
    (with_reducible rename News _ _ _ _ => N9)
    refine ⟨rfl, _, _, _, [_, _], 0, _, cv, bv, rfl, F9, N9, by assumption, ?_, rc.mono ?_, rb.mono ?_⟩
    · refine .cons (Rd.mono ?_ (by assumption)) (.cons (Rd.mono ?_ (by assumption)) .nil)
      · walk_at "subL"
      · walk_at "subL"
    · walk_at "subT"
    · walk_at "subT"
  clear F1 N1 rc rb
  rintro s1 ⟨h, tk, l, vs, ep, tl, cv, bv, rfl, F1, N1, off, rv, rc, rb⟩
  have hvl : vs.length ≤ 20 := by have h9 : vs.length = 2 := rv.length; omega
  with_reducible refine seq_step (Inv s L (CASES.take 3)) ?_ ?_
  · walk_at "mine steps"
    (with_reducible rename Fr _ _ _ _ => F9)
    (with_reducible rename News _ _ _ _ => N9)
    (with_reducible rename Rd _ (Value.ref _) (D.tup _) => r9)
    rw [List.push_toArray] at N9
    refine ⟨rfl, _, _, l, vs ++ [_], ep + 1, _, cv, bv, rfl, F9, N9, by assumption, ?_, rc.mono ?_, rb.mono ?_⟩
    · refine (show RdAll _ _ ((CASES.take 2).map caseD ++ [caseD (CASES[2]'(by decide))]) from (rv.mono ?_).append (.one r9))
      walk_at "subT"
    · walk_at "subT"
    · walk_at "subT"
  clear F1 N1 rc rb
  rintro s1 ⟨h, tk, l, vs, ep, tl, cv, bv, rfl, F1, N1, off, rv, rc, rb⟩
  have hvl : vs.length ≤ 20 := by have h9 : vs.length = 3 := rv.length; omega
  with_reducible refine seq_step (Inv s L (CASES.take 4)) ?_ ?_
  · walk_at "mine steps"
    (with_reducible rename Fr _ _ _ _ => F9)
    (with_reducible rename News _ _ _ _ => N9)
    (with_reducible rename Rd _ (Value.ref _) (D.tup _) => r9)
    rw [List.push_toArray] at N9
    refine ⟨rfl, _, _, l, vs ++ [_], ep + 1, _, cv, bv, rfl, F9, N9, by assumption, ?_, rc.mono ?_, rb.mono ?_⟩
    · refine (show RdAll _ _ ((CASES.take 3).map caseD ++ [caseD (CASES[3]'(by decide))]) from (rv.mono ?_).append (.one r9))
      walk_at "subT"
    · walk_at "subT"
    · walk_at "subT"
  clear F1 N1 rc rb
  rintro s1 ⟨h, tk, l, vs, ep, tl, cv, bv, rfl, F1, N1, off, rv, rc, rb⟩
  have hvl : vs.length ≤ 20 := by have h9 : vs.length = 4 := rv.length; omega
  with_reducible refine seq_step (Inv s L (CASES.take 5)) ?_ ?_
  · walk_at "mine steps"
    (with_reducible rename Fr _ _ _ _ => F9)
    (with_reducible rename News _ _ _ _ => N9)
    (with_reducible rename Rd _ (Value.ref _) (D.tup _) => r9)
    rw [List.push_toArray] at N9
    refine ⟨rfl, _, _, l, vs ++ [_], ep + 1, _, cv, bv, rfl, F9, N9, by assumption, ?_, rc.mono ?_, rb.mono ?_⟩
    · refine (show RdAll _ _ ((CASES.take 4).map caseD ++ [caseD (CASES[4]'(by decide))]) from (rv.mono ?_).append (.one r9))
      walk_at "subT"
    · walk_at "subT"
    · walk_at "subT"
  clear F1 N1 rc rb
  rintro s1 ⟨h, tk, l, vs, ep, tl, cv, bv, rfl, F1, N1, off, rv, rc, rb⟩
  have hvl : vs.length ≤ 20 := by have h9 : vs.length = 5 := rv.length; omega
  with_reducible refine seq_step (Inv s L (CASES.take 8)) ?_ ?_
  · walk_at "mine steps"
    (with_reducible rename Fr _ _ _ _ => F9)
    (with_reducible rename News _ _ _ _ => N9)
    refine ⟨rfl, _, _, _, vs ++ [_, _, _], 0, _, cv, bv, rfl, frMap F9 (fun y => if_dup), N9, by assumption, ?_, rc.mono ?_, rb.mono ?_⟩
    · refine (show RdAll _ _ ((CASES.take 5).map caseD ++ [caseD (CASES[5]'(by decide)), caseD (CASES[6]'(by decide)), caseD (CASES[7]'(by decide))]) from (rv.mono ?_).append (.cons (Rd.mono ?_ (by assumption)) (.cons (Rd.mono ?_ (by assumption)) (.cons (Rd.mono ?_ (by assumption)) .nil))))
      · walk_at "subT"
      · walk_at "subL"
      · walk_at "subL"
      · walk_at "subL"
    · walk_at "subT"
    · walk_at "subT"
  clear F1 N1 rc rb
  rintro s1 ⟨h, tk, l, vs, ep, tl, cv, bv, rfl, F1, N1, off, rv, rc, rb⟩
  have hvl : vs.length ≤ 20 := by have h9 : vs.length = 8 := rv.length; omega
  with_reducible refine seq_step (Inv s L (CASES.take 9)) ?_ ?_
  · walk_at "mine steps"
    (with_reducible rename Fr _ _ _ _ => F9)
    (with_reducible rename News _ _ _ _ => N9)
    (with_reducible rename Rd _ (Value.ref _) (D.tup _) => r9)
    rw [List.push_toArray] at N9
    refine ⟨rfl, _, _, l, vs ++ [_], ep + 1, _, cv, bv, rfl, F9, N9, by assumption, ?_, rc.mono ?_, rb.mono ?_⟩
    · refine (show RdAll _ _ ((CASES.take 8).map caseD ++ [caseD (CASES[8]'(by decide))]) from (rv.mono ?_).append (.one r9))
      walk_at "subT"
    · walk_at "subT"
    · walk_at "subT"
  clear F1 N1 rc rb
  rintro s1 ⟨h, tk, l, vs, ep, tl, cv, bv, rfl, F1, N1, off, rv, rc, rb⟩
  have hvl : vs.length ≤ 20 := by have h9 : vs.length = 9 := rv.length; omega
  with_reducible refine seq_step (Inv s L (CASES.take 10)) ?_ ?_
  · walk_at "mine steps"
    (with_reducible rename Fr _ _ _ _ => F9)
    (with_reducible rename News _ _ _ _ => N9)
    (with_reducible rename Rd _ (Value.ref _) (D.tup _) => r9)
    rw [List.push_toArray] at N9
    refine ⟨rfl, _, _, l, vs ++ [_], ep + 1, _, cv, bv, rfl, F9, N9, by assumption, ?_, rc.mono ?_, rb.mono ?_⟩
    · refine (show RdAll _ _ ((CASES.take 9).map caseD ++ [caseD (CASES[9]'(by decide))]) from (rv.mono ?_).append (.one r9))
      walk_at "subT"
    · walk_at "subT"
    · walk_at "subT"
  clear F1 N1 rc rb
  rintro s1 ⟨h, tk, l, vs, ep, tl, cv, bv, rfl, F1, N1, off, rv, rc, rb⟩
  have hvl : vs.length ≤ 20 := by have h9 : vs.length = 10 := rv.length; omega
  with_reducible refine seq_step (Inv s L (CASES.take 11)) ?_ ?_
  · walk_at "mine steps"
    (with_reducible rename Fr _ _ _ _ => F9)
    (with_reducible rename News _ _ _ _ => N9)
    (with_reducible rename Rd _ (Value.ref _) (D.tup _) => r9)
    rw [List.push_toArray] at N9
    refine ⟨rfl, _, _, l, vs ++ [_], ep + 1, _, cv, bv, rfl, F9, N9, by assumption, ?_, rc.mono ?_, rb.mono ?_⟩
    · refine (show RdAll _ _ ((CASES.take 10).map caseD ++ [caseD (CASES[10]'(by decide))]) from (rv.mono ?_).append (.one r9))
      walk_at "subT"
    · walk_at "subT"
    · walk_at "subT"
  clear F1 N1 rc rb
  rintro s1 ⟨h, tk, l, vs, ep, tl, cv, bv, rfl, F1, N1, off, rv, rc, rb⟩
  walk_at "mine steps"
  exact hQ (.ref l) h _ ((l, listOf vs.toArray ep) :: tl) (Fr.keep F1) (freshOf N1 fun _ h => h) (.list (.inr (.head _)) (rv.mono fun _ _ h => .inr (.tail _ h)))
end
end
section
section
variable {w : World} {p : Program} {loose : List Str} {mean : ExcName → Option Value} {mg mb : Str → Option Value} {A : Around} {s : Shared} {Q E : Value → Shared → Prop}
set_option maxHeartbeats 8000000 in
theorem sent_part_c {o : List UInt8} {t : Tok} (B : Base w p loose mean mg mb s.heap) (hA : Ok 1 A)
  (hQ : ∀ h' tk', Keeps s.heap h' → Q (.bytes o.toArray t) { s with heap := h', toks := tk' }) :
  wpAny (model prog w) A (call (.ref 76) [.bytes o.toArray t, .none]) Q E s := by
  have KX := B.k
  have T := B.t
  refine' enter (binds := [(Str.ofString "octets", .bytes o.toArray t), (Str.ofString "delimiter", .none)]) B ?k1 ?k2 ?k3 ?k4 ?k5 ?_ ?k6 ?k7 ?k8 ?k9
  walk_at "mine sides"
  intro L h₁ tkE F
  have N : News s.heap L h₁ [] := News.nil
  walk_at "mine steps"
  exact hQ _ _ (Fr.keep (by assumption))
theorem sent_part_u {g : Heap} {L : Addr} {m : Str → Option Value} {nx : Led} {o : List UInt8} {t : Tok} (B : Base w p loose mean mg mb g := by walk_at "ka") (F : Fr g L s.heap m := by walk_at "ka") (N : News g L s.heap nx := by walk_at "ka") (hA : Ok 1 A := by walk_at "kk")
  (hQ : ∀ h' tk', Fr g L h' m → News g L h' nx → Q (.bytes o.toArray t) { s with heap := h', toks := tk' }) :
  wpAny (model prog w) A (call (.ref 76) [.bytes o.toArray t, .none]) Q E s :=
  sent_part_c (B.keeps F.keep) hA fun h' tk' k => hQ h' tk' (frKept F k) (newsKept N k)
local macro_rules | `(tactic| walk_at "call ref") => `(tactic| ((with_reducible refine' sent_part_u (hQ := ?_)); walk_at "z"))
def rowD (x : List UInt8) : D := .tup [.bytes x, .none]
theorem rdRow {h : Heap} {v : Value} {m : List UInt8} (r : Rd (H h) v (rowD m)) : Ex2 fun a t => An2 (v = .ref a) (IsTup h a [Value.bytes m.toArray t, Value.none].toArray) := by
  obtain ⟨a, us, rfl, hT, hus⟩ := Rd.isTuple r
  cases hus with
  | cons q1 hus =>
    cases hus with
    | cons q2 hus =>
      cases hus
      cases q1
      cases q2
      exact ⟨_, _, rfl, hT⟩
theorem lenA {l x : List UInt8} {n N : Nat} (h : l.length = N) (h2 : N + x.length ≤ 16777216) : (l.take n).length + x.length ≤ 16777216 := Nat.le_trans (Nat.add_le_add_right (by rw [List.length_take, ← h]; exact Nat.min_le_right _ _) _) h2
theorem lenB {l x : List UInt8} {n m N : Nat} (h : l.length = N) (h2 : N + x.length + N ≤ 16777216) : (l.take n ++ x).length + (l.drop m).length ≤ 16777216 := by
  rw [List.length_append, List.length_drop, h]
  exact Nat.le_trans (Nat.add_le_add (Nat.add_le_add_right (by rw [List.length_take, ← h]; exact Nat.min_le_right _ _) _) (Nat.sub_le _ _)) h2
local macro_rules | `(tactic| walk_at "ks") => `(tactic| first | exact lenA (by assumption) (by omega) | exact lenB (by assumption) (by omega))
theorem strung_arith {xs : List (List UInt8)} {z x : List UInt8} {i : Nat} (hx : xs[i]? = some x) (hz : xs.flatten.length = z.length) : (xs.take i).flatten.length + x.length ≤ z.length ∧ (xs.take (i + 1)).flatten = (xs.take i).flatten ++ x := by
  have e : (xs.take (i + 1)).flatten = (xs.take i).flatten ++ x := by
    rw [List.take_add_one, hx]; simp
  refine ⟨?_, e⟩
  have h1 := congrArg List.length (congrArg List.flatten (List.take_append_drop (i + 1) xs))
  rw [List.flatten_append, List.length_append, e, List.length_append] at h1
  omega
theorem strung_goal {gd z x : List UInt8} (h : gd.length + x.length ≤ z.length) : (gd ++ z.drop gd.length).take (((1 + gd.length : Nat) : Int) - 1).toNat ++ x ++ (gd ++ z.drop gd.length).drop (((1 + gd.length : Nat) : Int) - 1 + (x.toArray.size : Int)).toNat = (gd ++ x) ++ z.drop (gd ++ x).length := by
  have e1 : (((1 + gd.length : Nat) : Int) - 1).toNat = gd.length := by omega
  have e2 : (((1 + gd.length : Nat) : Int) - 1 + (x.toArray.size : Int)).toNat = gd.length + x.length := by rw [List.size_toArray]; omega
  rw [e1, e2, List.take_left, List.length_append, List.drop_append, List.drop_drop]
  simp
set_option maxHeartbeats 8000000 in
theorem strung_c {xs : List (List UInt8)} {z : List UInt8} {dv : Value} {t kt : Tok} (B : Base w p loose mean mg mb s.heap) (hA : Ok 2 A)
  (h0 : 1 ≤ z.length) (h2 : z.length ≤ 1000000) (hm : Rd (H s.heap) dv (.list (xs.map rowD))) (hz : xs.flatten.length = z.length) :
  Pure w A (call (.ref 83) [dv, .bytes z.toArray t, .int 1 kt]) No s (.tup [.bytes xs.flatten, .int ((z.length : Int) + 1), .bool false]) := by
  intro Q E hQ
  obtain ⟨ah, ad, af, ag, au⟩ := A
  obtain rfl : ah = none := hA.h
  obtain ⟨l, vs, rfl, hl, hvs⟩ := hm.isList
  have KX := B.k
  have T := B.t
  have hz0 : (1 : Int) ≤ z.toArray.size := by rw [List.size_toArray]; omega
  refine' enter (binds := [(Str.ofString "rows", .ref l), (Str.ofString "goal", .bytes z.toArray t), (Str.ofString "begin", .int 1 kt)]) B ?k1 ?k2 ?k3 ?k4 ?k5 ?_ ?k6 ?k7 ?k8 ?k9
  walk_at "mine sides"
  intro L h₁ tkE F
  have N : News s.heap L h₁ [] := News.nil
  walk_at "mine steps"
  · refine Stop.out ?_
    (with_reducible rename Fr _ _ _ _ => F9)
    refine for_listA (L := L) rfl hA.h hl F9 (by assumption) (by intro p hp; cases hp) (fun i m₁ nx => (Ex7 fun (u0 u1 u2 u3 u4 u5 u6 : Option Value) => An3 ((∃ t', u0 = some (.bytes ((xs.take i).flatten ++ z.drop (xs.take i).flatten.length).toArray t'))) ((∃ t', u1 = some (.int ((1 + (xs.take i).flatten.length : Nat) : Int) t'))) (m₁ = fun y => if y = Str.ofString "goal" then u0 else if y = Str.ofString "following" then u1 else if y = Str.ofString "octets" then u2 else if y = Str.ofString "delimiter" then u3 else if y = Str.ofString "piece" then u4 else if y = Str.ofString "room" then u5 else if y = Str.ofString "head" then u6 else
        List.lookup y [(Str.ofString "rows", .ref l), (Str.ofString "goal", .bytes z.toArray t), (Str.ofString "begin", .int 1 kt)].reverse)) ∧ nx = [])
      ⟨⟨mapOf F9 (Str.ofString "goal"), mapOf F9 (Str.ofString "following"), none, none, none, none, none, ⟨_, by simp; rfl⟩, ⟨_, rfl⟩, ?_⟩, rfl⟩ ?_ ?_
    · funext y
      walk_at "mine map"
    · rintro i v m₁ nx h tk own JJ QQ hJJ hQQ hv hown ⟨⟨_, _, u2, u3, u4, u5, u6, ⟨tg, rfl⟩, ⟨tf, rfl⟩, rfl⟩, rfl⟩ hcn F₁ N₁
      rw [List.append_nil] at N₁
      obtain ⟨d, hd, rd⟩ := hvs.at hv
      obtain ⟨x, hxi, rfl⟩ : ∃ m, xs[i]? = some m ∧ rowD m = d := by simpa using hd
      obtain ⟨a, t1, rfl, hT⟩ := rdRow rd
      obtain ⟨hc, he⟩ := strung_arith hxi hz
      generalize hg : (xs.take i).flatten = gd at *
      have hgl : (gd ++ z.drop gd.length).length = z.length := by rw [List.length_append, List.length_drop]; omega
      have hgs : ((gd ++ z.drop gd.length).toArray.size : Int) = z.length := by rw [List.size_toArray, hgl]
      walk_at "mine steps"
      (with_reducible rename Fr _ _ _ _ => F9)
      have hf : ((1 + (gd ++ x).length : Nat) : Int) = ((1 + gd.length : Nat) : Int) + (x.toArray.size : Int) := by rw [List.length_append, List.size_toArray]; omega
      refine MTurn.next [] F9 (by rw [List.append_nil]; assumption) (by intro p hp; cases hp) (hJJ _ _ ⟨⟨mapOf F9 (Str.ofString "goal"), mapOf F9 (Str.ofString "following"), mapOf F9 (Str.ofString "octets"), mapOf F9 (Str.ofString "delimiter"), mapOf F9 (Str.ofString "piece"), mapOf F9 (Str.ofString "room"), mapOf F9 (Str.ofString "head"), ?_, ?_, ?_⟩, rfl⟩)
      · rw [he, ← strung_goal hc]; exact ⟨_, rfl⟩
      · rw [he, hf]; exact ⟨_, rfl⟩
      · funext y
        walk_at "mine map"
    · rintro m₁ nx h tk ⟨⟨_, _, u2, u3, u4, u5, u6, ⟨tg, rfl⟩, ⟨tf, rfl⟩, rfl⟩, rfl⟩ hcn F₁ N₁
      have hlen : vs.length = xs.length := by simpa using hvs.length
      have hf : ((1 + z.length : Nat) : Int) = (z.length : Int) + 1 := by omega
      rw [hlen, List.take_length, hz, List.drop_length, List.append_nil, hf] at F₁
      walk_at "mine steps"
      (with_reducible rename News _ _ _ _ => N9)
      refine hQ _ _ _ _ (Fr.keep (by assumption)) (freshOf N9 fun p hp => hp) ?_
      exact .tup (.inr (.head _)) (.cons (.bytes _ _) (.cons (.int _ _) (.cons (.bool _) .nil)))
end
end
section
section
variable {w : World} {p : Program} {loose : List Str} {mean : ExcName → Option Value} {mg mb : Str → Option Value} {A : Around} {s : Shared} {Q E : Value → Shared → Prop}
def cbs (o : List UInt8) : List Nat → Nat → List Pr × Nat
  | [], k => ([], k)
  | z :: r, k => if k < o.length then ((cut o k (k + z : Nat), []) :: (cbs o r (min (k + z) o.length)).1, (cbs o r (min (k + z) o.length)).2) else cbs o r k
def cutBy (o : List UInt8) (zs : List Nat) (b : Int) : List Pr × Int × Bool :=
  if 1 ≤ b ∧ b ≤ o.length then ((cbs o zs (b - 1).toNat).1, ((cbs o zs (b - 1).toNat).2 : Int) + 1, decide (((cbs o zs (b - 1).toNat).2 : Int) < (o.length : Int))) else ([], b, true)
def natsD (zs : List Nat) : D := .list (zs.map fun (z : Nat) => D.int (z : Int))
theorem rdInt {P : AP} {v : Value} {i : Int} (r : Rd P v (.int i)) : ∃ t, v = .int i t := by cases r; exact ⟨_, rfl⟩
set_option maxHeartbeats 8000000 in
theorem cut_by_sizes_c {o : List UInt8} {zs : List Nat} {sv : Value} {t kt : Tok} {b : Int} (B : Base w p loose mean mg mb s.heap) (hA : Ok 2 A)
  (h2 : o.length ≤ 1000000) (h3 : zs.length ≤ 1000000) (hm : Rd (H s.heap) sv (natsD zs)) (hzs : ∀ z ∈ zs, z ≤ 1000000) :
  Pure w A (call (.ref 118) [.bytes o.toArray t, sv, .int b kt]) No s (unsD (cutBy o zs b)) := by
  intro Q E hQ
  obtain ⟨ah, ad, af, ag, au⟩ := A
  obtain rfl : ah = none := hA.h
  obtain ⟨sl, vz, rfl, hl, hvz⟩ := hm.isList
  have KX := B.k
  have T := B.t
  refine' enter (binds := [(Str.ofString "octets", .bytes o.toArray t), (Str.ofString "sizes", .ref sl), (Str.ofString "begin", .int b kt)]) B ?k1 ?k2 ?k3 ?k4 ?k5 ?_ ?k6 ?k7 ?k8 ?k9
  walk_at "mine sides"
  intro L h₁ tkE F
  have N : News s.heap L h₁ [] := News.nil
  walk_at "mine steps"
  · have hb1 : 1 ≤ b := by assumption
    have hb2 : b ≤ o.length := by assumption
    have e1 : b - 1 = ((b - 1).toNat : Int) := by omega
    (with_reducible rename Fr _ _ _ _ => F9)
    (with_reducible rename News _ _ _ _ => N9)
    rw [e1] at F9
    have N8 := newsSub (nx := [_]) N9 (by intro p hp; rw [List.mem_singleton.mp hp]; exact .tail _ (.head _))
    clear N9
    refine Stop.out ?_
    refine for_listA (L := L) rfl rfl hl F9 N8 (by intro p hp; rw [List.mem_singleton.mp hp]; simp) (fun i m₁ nx => Ex8 fun (xs : List Pr) (k : Nat) (l : Addr) (vs : List Value) (ep : Nat) (tl : Led) (u0 u1 : Option Value) => An8 ((∃ tb, u0 = some (.int (k : Nat) tb))) (nx = (l, listOf vs.toArray ep) :: tl) (OwnOff tl [l]) (RdAll (InL tl) vs (xs.map pairD)) (k ≤ o.length) (xs.length ≤ i) ((xs ++ (cbs o (zs.drop i) k).1, (cbs o (zs.drop i) k).2) = cbs o zs (b - 1).toNat) (m₁ = fun y => if y = Str.ofString "at" then u0 else if y = Str.ofString "size" then u1 else if y = Str.ofString "pieces" then some (.ref l) else List.lookup y [(Str.ofString "octets", .bytes o.toArray t), (Str.ofString "sizes", .ref sl), (Str.ofString "begin", .int b kt)].reverse))
      ⟨[], (b - 1).toNat, _, [], 0, [], mapOf F9 (Str.ofString "at"), none, ⟨_, rfl⟩, rfl, (by intro p hp; cases hp), RdAll.nil, (by omega), (by simp), (by simp), ?_⟩ ?_ ?_
    · funext y
      walk_at "mine map"
    · rintro i v m₁ nx h tk own JJ QQ hJJ hQQ hv hown ⟨xs, k, l, vs, ep, tl, _, u1, ⟨tb, rfl⟩, rfl, hoff, hvs, hk, hxl, he, rfl⟩ hcn F₁ N₁
      obtain ⟨d, hd, rd⟩ := hvz.at hv
      obtain ⟨z, hzi, rfl⟩ : ∃ m, zs[i]? = some m ∧ D.int (m : Int) = d := by simpa using hd
      obtain ⟨t1, rfl⟩ := rdInt rd
      obtain ⟨hof2, N₂⟩ := off_own N₁ hown (by decide) hoff
      clear N₁
      have hz := hzs z (List.mem_of_getElem? hzi)
      obtain ⟨hi, hze⟩ := List.getElem?_eq_some_iff.mp hzi
      have hdr : zs.drop i = z :: zs.drop (i + 1) := by rw [List.drop_eq_getElem_cons hi, hze]
      have hvl : vs.length = xs.length := by simpa using hvs.length
      walk_at "mine steps"
      · have hkl : k < o.length := by have : (k : Int) < (o.toArray.size : Int) := by assumption
                                      rw [List.size_toArray] at this; omega
        (with_reducible rename Fr _ _ _ _ => F9)
        (with_reducible rename News _ _ _ _ => N9)
        rw [List.push_toArray] at N9
        obtain ⟨N8, hDl⟩ := grow_ownP N9
        have hmin : (if (o.toArray.size : Int) < (k : Int) + (z : Int) then (o.toArray.size : Int) else (k : Int) + (z : Int)) = ((min (k + z) o.length : Nat) : Int) := by rw [List.size_toArray]; split <;> omega
        refine MTurn.next _ F9 N8 (clsOk (fun p hp => hcn p (.tail _ hp)) (by decide) (by decide)) (hJJ _ _ ⟨xs ++ [(cut o k (k + z : Nat), [])], min (k + z) o.length, l, _, ep + 1, _, mapOf F9 (Str.ofString "at"), mapOf F9 (Str.ofString "size"), ?_, rfl, offCons hDl hoff, ?_, (by omega), (by rw [List.length_append, List.length_singleton]; omega), ?_, ?_⟩)
        · rw [← hmin]; exact ⟨_, rfl⟩
        · rw [List.map_append]
          exact (hvs.mono fun _ _ hm => .tail _ hm).append (.one (.tup (.head _) (.cons (.bytes _ _) (.cons (.bytes _ _) .nil))))
        · rw [← he, hdr]; simp [cbs, hkl]
        · funext y
          walk_at "mine map"
      · have hkl : ¬ k < o.length := by have : ¬ (k : Int) < (o.toArray.size : Int) := by assumption
                                        rw [List.size_toArray] at this; omega
        (with_reducible rename Fr _ _ _ _ => F9)
        (with_reducible rename News _ _ _ _ => N9)
        refine MTurn.next ((l, listOf vs.toArray ep) :: tl) F9 (newsSub N9 (by walk_at "sb")) hcn (hJJ _ _ ⟨xs, k, l, vs, ep, tl, mapOf F9 (Str.ofString "at"), mapOf F9 (Str.ofString "size"), ⟨_, rfl⟩, rfl, hoff, hvs, hk, by omega, ?_, ?_⟩)
        · rw [← he, hdr]; simp [cbs, hkl]
        · funext y
          walk_at "mine map"
    · rintro m₁ nx h tk ⟨xs, k, l, vs, ep, tl, _, u1, ⟨tb, rfl⟩, rfl, hoff, hvs, hk, hxl, he, rfl⟩ hcn F₁ N₁
      have hlen : vz.length = zs.length := by simpa using hvz.length
      rw [hlen, List.drop_length] at he
      simp only [cbs, List.append_nil] at he
      have e2 : cutBy o zs b = (xs, (k : Int) + 1, decide ((k : Int) < (o.length : Int))) := by unfold cutBy; rw [if_pos ⟨hb1, hb2⟩, ← he]
      walk_at "mine steps"
      (with_reducible rename News _ _ _ _ => N9)
      refine hQ _ _ _ _ (Fr.keep (by assumption)) (freshOf N9 fun p hp => hp) ?_
      rw [e2]
      exact .tup (.inr (.head _)) (.cons (.list (.inr (.tail _ (.head _))) (hvs.mono fun _ _ hm => .inr (.tail _ (.tail _ hm)))) (.cons (.int _ _) (.cons (.bool _) .nil)))
  · have hb : ¬ b ≤ o.length := by assumption
    have e2 : cutBy o zs b = ([], b, true) := by unfold cutBy; rw [if_neg fun h => hb h.2]
    (with_reducible rename News _ _ _ _ => N9)
    refine hQ _ _ _ _ (Fr.keep (by assumption)) (freshOf N9 fun p hp => hp) ?_
    rw [e2]
    exact .tup (.inr (.head _)) (.cons (.list (.inr (.tail _ (.head _))) .nil) (.cons (.int _ _) (.cons (.bool _) .nil)))
  · have hb : ¬ 1 ≤ b := by assumption
    have e2 : cutBy o zs b = ([], b, true) := by unfold cutBy; rw [if_neg fun h => hb h.1]
    (with_reducible rename News _ _ _ _ => N9)
    refine hQ _ _ _ _ (Fr.keep (by assumption)) (freshOf N9 fun p hp => hp) ?_
    rw [e2]
    exact .tup (.inr (.head _)) (.cons (.list (.inr (.tail _ (.head _))) .nil) (.cons (.int _ _) (.cons (.bool _) .nil)))
end
end
section
variable {w : World} {p : Program} {loose : List Str} {mean : ExcName → Option Value} {mg mb : Str → Option Value} {A : Around} {s : Shared} {Q E : Value → Shared → Prop}
def reps (v : List UInt8) (n : Nat) : List UInt8 := (List.replicate n v).flatten
def lbk (o v : List UInt8) (k : Nat) : Nat → Nat
  | 0 => 0
  | n + 1 => if cut o k ((k : Int) + ((n + 1 : Nat) : Int) * (v.length : Int)) = reps v (n + 1) then n + 1 else lbk o v k n
def lbehind (o : List UInt8) (m : Mk) (k : Nat) : Nat := k + lbk o m.1 k (if m.2 then o.length else 1) * m.1.length
theorem mul_by {v : List UInt8} {n : Nat} {t u : Tok} {Q : Value → Shared → Prop} (hv : v ≠ [] := by walk_at "ka") (hl : v.length ≤ 16 := by walk_at "ko") (hn : n ≤ 1048576 := by walk_at "ko") (h : ∀ t' k, Q (.bytes (reps v n).toArray t') { s with toks := k }) :
    wpAny (model prog w) A (binaryOp .Mult (.bytes v.toArray t) (.int n u)) Q E s := bytes_mul_any hv (by omega) (by omega) hl fun t' k => h t' k
end
local macro_rules | `(tactic| walk_at "binaryOp Mult bytes int") => `(tactic| ((with_reducible refine' mul_by (h := ?_)); intros))
section
variable {w : World} {p : Program} {loose : List Str} {mean : ExcName → Option Value} {mg mb : Str → Option Value} {A : Around} {s : Shared} {Q E : Value → Shared → Prop}
theorem lbehind_loop {o v : List UInt8} {k : Nat} (h1 : lies o v k = true) : lbk o v k 1 = 1 := by
  have e : cut o k (k + v.length : Nat) = v := by simpa [lies] using h1
  have e2 : (k : Int) + ((0 + 1 : Nat) : Int) * (v.length : Int) = ((k + v.length : Nat) : Int) := by simp
  simp only [lbk]
  rw [e2, e]
  simp [reps]
theorem law_eq {o : List UInt8} {m : Mk} {k n j : Nat} (hn : n = if m.2 then o.length else 1) (he : j = lbk o m.1 k n) : lbehind o m k = k + j * m.1.length := by
  unfold lbehind; rw [← hn, ← he]
set_option maxHeartbeats 8000000 in
theorem law_behind_c {o : List UInt8} {m : Mk} {pv : Value} {t kt : Tok} {k : Nat} (B : Base w p loose mean mg mb s.heap) (hA : Ok 2 A)
  (h2 : o.length ≤ 1000) (h3 : m.1.length ≤ 16) (hk : k ≤ 1000) (hv : m.1 ≠ []) (hl : lies o m.1 k = true) (hm : Rd (H s.heap) pv (mkD m))
  (hQ : ∀ h' tk' t', Keeps s.heap h' → Q (.int (lbehind o m k) t') { s with heap := h', toks := tk' }) :
  wpAny (model prog w) A (call (.ref 159) [.bytes o.toArray t, pv, .int k kt]) Q E s := by
  obtain ⟨v, al⟩ := m
  dsimp only at h3 hv hl
  obtain ⟨a, t1, rfl, hT⟩ := rdMk hm
  dsimp only at hT
  have hol : 1 ≤ o.length := by
    have := lies_le hl hv
    have : v.length ≠ 0 := by simpa using hv
    omega
  obtain ⟨ah, ad, af, ag, au⟩ := A
  obtain rfl : ah = none := hA.h
  have KX := B.k
  have T := B.t
  refine' enter (binds := [(Str.ofString "octets", .bytes o.toArray t), (Str.ofString "pair", .ref a), (Str.ofString "place", .int k kt)]) B ?k1 ?k2 ?k3 ?k4 ?k5 ?_ ?k6 ?k7 ?k8 ?k9
  walk_at "mine sides"
  intro L h₁ tkE F
  have N : News s.heap L h₁ [] := News.nil
  obtain ⟨n0, hn0⟩ : ∃ n0 : Nat, n0 = if al then o.length else 1 := ⟨_, rfl⟩
  have hn1 : 1 ≤ n0 ∧ n0 ≤ 1000 := by cases al <;> simp at hn0 <;> omega
  have hl1 := lbehind_loop hl
  walk_at "mine steps"
  all_goals
    refine Stop.out ?_
    (with_reducible rename Fr _ _ _ _ => F9)
    first | ((with_reducible rename al = true => hal); subst hal) | ((with_reducible rename al = false => hal); subst hal)
    have hn00 := hn0
    simp only [if_true, if_false, Bool.false_eq_true] at hn00
    have hu : ∃ tm, mapOf F9 (Str.ofString "many") = some (.int (n0 : Nat) tm) := by subst hn00; exact ⟨_, rfl⟩
    refine While_inv (fun n m₁ nx => (∃ u0 : Option Value, (∃ tm, u0 = some (.int (n : Nat) tm)) ∧ m₁ = fun y => if y = Str.ofString "many" then u0 else List.lookup y [(Str.ofString "octets", .bytes o.toArray t), (Str.ofString "pair", .ref a), (Str.ofString "place", .int k kt)].reverse) ∧ nx = [] ∧ 1 ≤ n ∧ n ≤ 1000 ∧ lbk o v k n = lbk o v k n0) (n₀ := n0) F9 (by assumption) ⟨⟨mapOf F9 (Str.ofString "many"), hu, ?_⟩, rfl, hn1.1, hn1.2, rfl⟩ ?_
  all_goals try (funext y; walk_at "mine map")
  all_goals
    rintro n m₁ nx h tk F₁ N₁ ⟨⟨_, ⟨tm, rfl⟩, rfl⟩, rfl, hn2, hn3, he⟩
    have hp : 0 ≤ (n : Int) * (v.toArray.size : Int) := Int.mul_nonneg (Int.natCast_nonneg _) (Int.natCast_nonneg _)
    walk_at "mine steps"
  all_goals first
    | (have hb : ((cut o (↑k) (↑k + ↑n * ↑v.toArray.size)).toArray.toList != (reps v n).toArray.toList) = true := by assumption
       have hne : ¬ cut o k ((k : Int) + (n : Int) * (v.length : Int)) = reps v n := bne_iff_ne.mp hb
       obtain ⟨j, rfl⟩ : ∃ j, n = j + 1 := ⟨n - 1, by omega⟩
       have e3 : lbk o v k (j + 1) = lbk o v k j := by rw [lbk, if_neg hne]
       have hj : 1 ≤ j := by
         rcases Nat.eq_zero_or_pos j with rfl | hj
         · rw [hl1] at e3; simp [lbk] at e3
         · exact hj
       have e4 : ((j + 1 : Nat) : Int) - 1 = (j : Int) := by omega
       (with_reducible rename Fr _ _ _ _ => F8)
       refine WhileStep.intro (n' := j) F8 (by assumption) (by omega) ⟨⟨mapOf F8 (Str.ofString "many"), ?_, ?_⟩, rfl, hj, by omega, e3 ▸ he⟩
       · rw [← e4]; exact ⟨_, rfl⟩
       · funext y; walk_at "mine map")
    | (have hb : ((cut o (↑k) (↑k + ↑n * ↑v.toArray.size)).toArray.toList != (reps v n).toArray.toList) = false := by assumption
       have hne : cut o k ((k : Int) + (n : Int) * (v.length : Int)) = reps v n := by
         have := bne_eq_false_iff_eq.mp hb
         exact this
       obtain ⟨j, rfl⟩ : ∃ j, n = j + 1 := ⟨n - 1, by omega⟩
       have e3 : lbk o v k (j + 1) = j + 1 := by rw [lbk, if_pos hne]
       rw [e3] at he
       have e5 := law_eq (o := o) (m := (v, _)) (k := k) (n := n0) (j := j + 1) hn0 he
       rw [e5, Int.natCast_add, Int.natCast_mul] at hQ
       exact hQ _ _ _ (Fr.keep (by assumption)))
end
section
section
variable {w : World} {p : Program} {loose : List Str} {mean : ExcName → Option Value} {mg mb : Str → Option Value} {A : Around} {s : Shared} {Q E : Value → Shared → Prop}
def nf (o : List UInt8) (ms : List Mk) : Nat → List (Nat × Option Mk)
  | 0 => [(o.length, none)]
  | i + 1 => (match hitAt o ms (o.length - 1 - i) with
    | some m => (o.length - 1 - i, some m)
    | none => (nf o ms i).headD (0, none)) :: nf o ms i
theorem nf_len (o : List UInt8) (ms : List Mk) : ∀ i, (nf o ms i).length = i + 1
  | 0 => rfl
  | i + 1 => by rw [nf, List.length_cons, nf_len o ms i]
theorem near_stepA {g h : Heap} {L x : Addr} {ox : Obj} {a b c d q r : Addr × Obj} {tl own : Led} (N : News g L h ((x, ox) :: a :: b :: c :: d :: q :: r :: (tl ++ own))) : News g L h (own ++ ((x, ox) :: q :: r :: a :: b :: c :: d :: tl)) :=
  newsSub N (by walk_at "sb")
theorem near_stepB {g h : Heap} {L x : Addr} {ox : Obj} {a b c d e q r : Addr × Obj} {tl own : Led} (N : News g L h ((x, ox) :: a :: b :: c :: d :: e :: q :: r :: (tl ++ own))) : News g L h (own ++ ((x, ox) :: q :: r :: a :: b :: c :: d :: e :: tl)) :=
  newsSub N (by walk_at "sb")
theorem seq_ne_cell {g h : Heap} {L x c : Addr} {cc : Value} {xs : Array Value} {n : Nat} {o : Obj} {v : Option Value} {news : Led} (N : News g L h news) (h1 : (x, ({ cls := cc, data := .seq xs n } : Obj)) ∈ news) (h2 : (c, o) ∈ news) (d : o.data = .cell v) : x ≠ c := by
  intro e
  have e1 := (N _ h1).1
  have e2 := (N _ h2).1
  dsimp only at e1 e2
  rw [e, e2] at e1
  have := Option.some.inj e1
  rw [this] at d; cases d
def NoFld (l : Led) : Prop := ∀ p ∈ l, ¬ Fld p.2
inductive NearAll (P : AP) (tl : Led) : List Value → List (Nat × Option Mk) → Prop
  | nil : NearAll P tl [] []
  | cons {a : Addr} {n : Nat} {t : Tok} {pv : Value} {x : Nat × Option Mk} {vs : List Value} {xs : List (Nat × Option Mk)} : (a, tupO [Value.int x.1 t, pv].toArray n) ∈ tl → Rd P pv (hitD x.2) → NearAll P tl vs xs → NearAll P tl (.ref a :: vs) (x :: xs)
theorem NearAll.mono {P : AP} {tl tl' : Led} {vs : List Value} {xs : List (Nat × Option Mk)} (h : NearAll P tl vs xs) (hs : ∀ p ∈ tl, p ∈ tl') : NearAll P tl' vs xs := by
  induction h with
  | nil => exact .nil
  | cons h r _ ih => exact .cons (hs _ h) r ih
theorem NearAll.length {P : AP} {tl : Led} {vs : List Value} {xs : List (Nat × Option Mk)} (h : NearAll P tl vs xs) : vs.length = xs.length := by
  induction h with
  | nil => rfl
  | cons _ _ _ ih => rw [List.length_cons, List.length_cons, ih]
theorem NearAll.get {P : AP} {tl : Led} {vs : List Value} {xs : List (Nat × Option Mk)} (h : NearAll P tl vs xs) {k : Nat} {x : Nat × Option Mk} (hk : xs[k]? = some x) : Ex4 fun a n t pv => An3 (vs[k]? = some (.ref a)) ((a, tupO [Value.int x.1 t, pv].toArray n) ∈ tl) (Rd P pv (hitD x.2)) := by
  induction h generalizing k with
  | nil => simp at hk
  | cons h r _ ih =>
    cases k with
    | zero => simp at hk; subst hk; exact ⟨_, _, _, _, rfl, h, r⟩
    | succ k => exact ih (by simpa using hk)
set_option maxHeartbeats 8000000 in
theorem nearest_c {P : AP} {o : List UInt8} {ms : List Mk} {mv : Value} {t : Tok} (B : Base w p loose mean mg mb s.heap) (hA : Ok 2 A)
  (h2 : o.length ≤ 1000) (h3 : ms.length ≤ 1000) (hP : ∀ a o, P a o → s.heap.get? a = some o) (hm : Rd P mv (marksD ms)) (hms : ∀ m ∈ ms, m.1 ≠ [] ∧ m.1.length ≤ 16) :
  ∀ (Q E : Value → Shared → Prop), (∀ ln us n h' tk' nx, Keeps s.heap h' → Fresh s.heap h' nx → (ln, listOf us.toArray n) ∈ nx → NearAll P nx us (nf o ms o.length) → NoFld nx → Q (.ref ln) { s with heap := h', toks := tk' }) →
    wpAny (model prog w) A (call (.ref 152) [.bytes o.toArray t, mv]) Q E s := by
  intro Q E hQ
  obtain ⟨ah, ad, af, ag, au⟩ := A
  obtain rfl : ah = none := hA.h
  have KX := B.k
  have T := B.t
  refine' enterC (binds := [(Str.ofString "octets", .bytes o.toArray t), (Str.ofString "marks", mv)]) B ?k1 ?k2 ?k3 ?k4 ?k5 ?_ ?k6 ?k7 ?k8 ?k9
  walk_at "mine sidesC"
  intro L h₁ tk cells F N Y
  have Y' : CellsAre _ [(Str.ofString "place", L + 2), (Str.ofString "octets", L + 1)] cells := Y
  obtain ⟨o1, o2, rfl, d1, d2⟩ := Y'.two
  have d1' : o1.data = .cell none := d1
  have d2' : o2.data = .cell (some (.bytes o.toArray t)) := d2
  have F' := frMap F (m' := fun y => if y = Str.ofString "marks" then some mv else none) (fun y => rfl)
  clear F Y Y' d1 d2
  obtain ⟨ml, mvs, rfl, hml, hmvs⟩ : Ex2 fun ml mvs => An3 (mv = Value.ref ml) (s.heap.IsList ml mvs.toArray) (RdAll P mvs (ms.map mkD)) := by
    cases hm with
    | list h r => exact ⟨_, _, rfl, ⟨_, hP _ _ h, rfl, _, rfl⟩, r⟩
  walk_at "mine steps"
  refine Stop.out ?_
  (with_reducible rename News _ _ _ _ => N9)
  refine for_rangeA (L := L) (n := o.length) rfl rfl (by assumption) (small_down (by rw [List.size_toArray]; omega) (by rw [List.size_toArray]; omega) (by omega) (by omega)) (by rw [rangeSize_downNat, List.size_toArray]; omega) (by assumption) (news_rot N9) ?_
    (fun i m₁ nx => Ex7 fun (lf : Addr) (vs : List Value) (ep : Nat) (tl : Led) (oP : Obj) (pv : Option Value) (u2 : Option Value) => An6 (nx = (lf, listOf vs.toArray ep) :: (L + 2, oP) :: (L + 1, o2) :: tl) (oP.data = .cell pv) ((∀ p ∈ tl, ∀ u, p.2.data ≠ .cell u)) (lf ≠ L + 2) (NearAll P tl vs (nf o ms i)) (m₁ = fun y => if y = Str.ofString "hits" then u2 else if y = Str.ofString "found" then some (.ref lf) else if y = Str.ofString "marks" then some (Value.ref ml) else none)) ?_ ?_ ?_
  · intro p hp
    simp only [List.mem_cons, List.not_mem_nil, or_false] at hp
    rcases hp with rfl | rfl | rfl | rfl
    · exact notFldSeq
    · exact notFldCell d1'
    · exact notFldCell d2'
    · exact notFldSeq
  · refine ⟨_, _, _, _, o1, none, none, rfl, d1', ?_, neN (by omega), ?_, ?_⟩
    · intro p hp u
      rw [List.mem_singleton.mp hp]; intro e; cases e
    · exact .cons (.head _) .none .nil
    · funext y
      walk_at "mine map"
  · rintro i tk' m₁ nx h tk own JJ QQ hJJ hQQ hi hown ⟨lf, vs, ep, tl, oP, pv, u2, rfl, hpv, hsq, hne, hvs, rfl⟩ hcn F₁ N₁
    have N₂ : News s.heap L h ((lf, listOf vs.toArray ep) :: (L + 2, oP) :: (L + 1, o2) :: (tl ++ own)) := newsSub N₁ (by walk_at "sb")
    clear N₁
    have hoffc : OwnOff (tl ++ own) [L + 2] := sq_off N₂ (.tail _ (.head _)) hpv (fun p hp => .tail _ (.tail _ (.tail _ hp))) (fun p hp => (List.mem_append.mp hp).elim (hsq p) fun h => fldNotCell (hown p h))
    have e : (o.toArray.size : Int) - 1 + (i : Int) * (-1) = ((o.length - 1 - i : Nat) : Int) := by rw [List.size_toArray]; omega
    rw [e]
    generalize hk : o.length - 1 - i = k at *
    walk_at "mine steps"
    refine Stop.out ?_
    (with_reducible rename News _ _ _ _ => N9)
    refine LCt.CompSrcT.base rfl (by assumption) N9 hml (by rw [List.size_toArray, hmvs.length, List.length_map, sizeLine_eq]; omega) ?_
    intro g'
    refine compT_same (fun i' ys => RdAll P ys (((ms.take i').filter fun m => lies o m.1 k).map mkD)) (.inl hml) .nil ?_ ?_
    · intro i' ys v J oJ C oC D m₂ h₂ tk₂ E' hi' hR hv hC hx F₂ N₂
      obtain ⟨d, hd, rd⟩ := hmvs.at (k := i') (by simpa using hv)
      obtain ⟨mk, hmi, rfl⟩ : ∃ m, ms[i']? = some m ∧ mkD m = d := by simpa using hd
      obtain ⟨v, al⟩ := mk
      have rd' := rd.mono hP
      obtain ⟨a, t1, rfl, hT⟩ := rdMk rd'
      dsimp only at hT
      obtain ⟨hmne, hmle⟩ := hms _ (List.mem_of_getElem? hmi)
      dsimp only at hmne hmle
      walk_at "mine steps"
      · exact SameEnd.mk (by assumption) (by assumption)
      · have hl : lies o v k = true := by assumption
        have e : ((ms.take (i' + 1)).filter fun m => lies o m.1 k) = ((ms.take i').filter fun m => lies o m.1 k) ++ [(v, al)] := by rw [List.take_add_one, hmi, List.filter_append]; simp [hl]
        rw [e, List.map_append]
        exact hR.append (.one rd)
      · exact SameEnd.mk (by assumption) (by assumption)
      · have hl : lies o v k = false := by assumption
        have e : ((ms.take (i' + 1)).filter fun m => lies o m.1 k) = ((ms.take i').filter fun m => lies o m.1 k) := by rw [List.take_add_one, hmi, List.filter_append]; simp [hl]
        rw [e]; exact hR
    · intro ys hR
      have hml' : mvs.toArray.size = ms.length := by rw [List.size_toArray, hmvs.length, List.length_map]
      rw [hml', List.take_length] at hR
      have hfind : hitAt o ms k = (ms.filter fun m => lies o m.1 k).head? := by unfold hitAt; rw [List.head?_filter]
      intro D h3 tk3 F3 N3 off3
      generalize hff : (ms.filter fun m => lies o m.1 k) = fl at *
      obtain ⟨v0, vs, rfl⟩ : ∃ v0 vs', vs = v0 :: vs' := by
        have := hvs.length
        cases vs with
        | nil => cases i <;> simp [nf] at this
        | cons v0 vs' => exact ⟨_, _, rfl⟩
      have hvl : vs.length = i := by
        have := hvs.length
        rw [nf_len, List.length_cons] at this; omega
      obtain ⟨x0, rest, hnf⟩ : ∃ x0 rest, nf o ms i = x0 :: rest := by
        have := nf_len o ms i
        cases hq : nf o ms i with
        | nil => rw [hq] at this; simp at this
        | cons x0 rest => exact ⟨_, _, rfl⟩
      cases fl with
      | nil =>
        cases hR
        dsimp only
        walk_at "mine steps"
        (with_reducible rename Fr _ _ _ _ => F9)
        (with_reducible rename News _ _ _ _ => N9)
        have N8 := near_stepA N9
        have hnf' : nf o ms (i + 1) = x0 :: nf o ms i := by rw [nf, hk, hfind, hnf]; rfl
        refine MTurnK.next _ F9 N8 ?_ (hJJ _ _ ⟨_, _, _, _, _, _, mapOf F9 (Str.ofString "hits"), rfl, by assumption, ?_, ?_, ?_, ?_⟩)
        · intro p hp
          simp only [List.mem_cons] at hp
          rcases hp with rfl | rfl | rfl | rfl | rfl | rfl | rfl | hp
          · exact notFldSeq
          · exact notFldCell (by assumption)
          · exact notFldCell d2'
          · exact notFldSeq
          · exact notFldSeq
          · exact notFldSeq
          · exact notFldSeq
          · exact hcn p (.tail _ (.tail _ (.tail _ hp)))
        · intro p hp u
          simp only [List.mem_cons] at hp
          rcases hp with rfl | rfl | rfl | rfl | hp
          · intro e; cases e
          · intro e; cases e
          · intro e; cases e
          · intro e; cases e
          · exact hsq p hp u
        · exact seq_ne_cell N9 (.head _) (.tail _ (.tail _ (.tail _ (.tail _ (.tail _ (.head _)))))) (by assumption)
        · rw [hnf']
          have hvs' : NearAll P tl (v0 :: vs) (x0 :: rest) := hnf ▸ hvs
          cases hvs' with
          | cons r0 r1 _ => exact .cons (.tail _ (.tail _ (.tail _ (.tail _ r0)))) r1 (hvs.mono fun _ hm => .tail _ (.tail _ (.tail _ (.tail _ hm))))
        · funext y
          dsimp only
          walk_at "mine map"
      | cons mk fl =>
        cases hR with
        | cons hr1 hR =>
        dsimp only
        walk_at "mine steps"
        (with_reducible rename Fr _ _ _ _ => F9)
        (with_reducible rename News _ _ _ _ => N9)
        have N8 := near_stepB N9
        have hnf' : nf o ms (i + 1) = (k, some mk) :: nf o ms i := by rw [nf, hk, hfind]; rfl
        refine MTurnK.next _ F9 N8 ?_ (hJJ _ _ ⟨_, _, _, _, _, _, mapOf F9 (Str.ofString "hits"), rfl, by assumption, ?_, ?_, ?_, ?_⟩)
        · intro p hp
          simp only [List.mem_cons] at hp
          rcases hp with rfl | rfl | rfl | rfl | rfl | rfl | rfl | rfl | hp
          · exact notFldSeq
          · exact notFldCell (by assumption)
          · exact notFldCell d2'
          · exact notFldSeq
          · exact notFldSeq
          · exact notFldSeq
          · exact notFldSeq
          · exact notFldSeq
          · exact hcn p (.tail _ (.tail _ (.tail _ hp)))
        · intro p hp u
          simp only [List.mem_cons] at hp
          rcases hp with rfl | rfl | rfl | rfl | rfl | hp
          · intro e; cases e
          · intro e; cases e
          · intro e; cases e
          · intro e; cases e
          · intro e; cases e
          · exact hsq p hp u
        · exact seq_ne_cell N9 (.head _) (.tail _ (.tail _ (.tail _ (.tail _ (.tail _ (.tail _ (.head _))))))) (by assumption)
        · rw [hnf']
          exact .cons (.tail _ (.head _)) hr1 (hvs.mono fun _ hm => .tail _ (.tail _ (.tail _ (.tail _ (.tail _ hm)))))
        · funext y
          dsimp only
          walk_at "mine map"
  · rintro m₁ nx h tk ⟨lf, vs, ep, tl, oP, pv, u2, rfl, hpv, hsq, hne, hvs, rfl⟩ hcn F₁ N₁
    walk_at "mine steps"
    exact hQ _ _ _ _ _ _ (Fr.keep F₁) (freshOf N₁ fun p hp => hp) (.head _) (hvs.mono fun _ hm => .tail _ (.tail _ (.tail _ hm))) hcn
end
end
section
section
variable {w : World} {p : Program} {loose : List Str} {mean : ExcName → Option Value} {mg mb : Str → Option Value} {A : Around} {s : Shared} {Q E : Value → Shared → Prop}
theorem law_behind_u {g : Heap} {L : Addr} {m₀ : Str → Option Value} {nx : Led} {o : List UInt8} {m : Mk} {pv : Value} {t kt : Tok} {k : Nat} (B : Base w p loose mean mg mb g := by walk_at "ka") (F : Fr g L s.heap m₀ := by walk_at "ka") (N : News g L s.heap nx := by walk_at "ka") (hA : Ok 2 A := by walk_at "kk")
  (h2 : o.length ≤ 1000 := by walk_at "ko") (h3 : m.1.length ≤ 16 := by walk_at "ka") (hk : k ≤ 1000 := by walk_at "ko") (hv : m.1 ≠ [] := by walk_at "ka") (hl : lies o m.1 k = true := by walk_at "ka") (hm : Rd (H g) pv (mkD m) := by walk_at "ka")
  (hQ : ∀ h' tk' t', Fr g L h' m₀ → News g L h' nx → Q (.int (lbehind o m k) t') { s with heap := h', toks := tk' }) :
  wpAny (model prog w) A (call (.ref 159) [.bytes o.toArray t, pv, .int k kt]) Q E s :=
  law_behind_c (B.keeps F.keep) hA h2 h3 hk hv hl (hm.base F) fun h' tk' t' k => hQ h' tk' t' (frKept F k) (newsKept N k)
theorem nearest_u {g : Heap} {L : Addr} {m₀ : Str → Option Value} {news : Led} {o : List UInt8} {ms : List Mk} {mv : Value} {t : Tok} (B : Base w p loose mean mg mb g := by walk_at "ka") (F : Fr g L s.heap m₀ := by walk_at "ka") (N : News g L s.heap news := by walk_at "ka") (hA : Ok 2 A := by walk_at "kk")
  (h2 : o.length ≤ 1000 := by walk_at "ko") (h3 : ms.length ≤ 1000 := by walk_at "ko") (hm : Rd (H g) mv (marksD ms) := by walk_at "ka") (hms : ∀ m ∈ ms, m.1 ≠ [] ∧ m.1.length ≤ 16 := by walk_at "ka")
  (hQ : ∀ ln us n h' tk' nx, Fr g L h' m₀ → News g L h' ((ln, listOf us.toArray n) :: (nx ++ news)) → NearAll (H g) nx us (nf o ms o.length) → NoFld nx → Q (.ref ln) { s with heap := h', toks := tk' }) :
  wpAny (model prog w) A (call (.ref 152) [.bytes o.toArray t, mv]) Q E s :=
  nearest_c (B.keeps F.keep) hA h2 h3 F.keep hm hms Q E fun ln us n h' tk' nx k f hm' hn hfl => hQ ln us n h' tk' nx (frKept F k) (fun p hp => by
    rcases List.mem_cons.mp hp with rfl | hp
    · exact newsFresh F N k f _ (List.mem_append.mpr (.inl hm'))
    · exact newsFresh F N k f _ hp) hn hfl
theorem item_u {g : Heap} {L l : Addr} {us : List Value} {n k : Nat} {u : Tok} {x : Value} {news : Led} {value slice : PySem.Expr} (N : News g L s.heap news := by walk_at "ka") (hm : (l, listOf us.toArray n) ∈ news := by walk_at "km") (hfit : k ≤ 1000000 := by walk_at "ko") (hx : us[k]? = some x := by walk_at "ka") (h : Q x s)
    (hs : subscripted slice false (.ref l) (.int k u) = operate [.ref l, .int k u] (getItem (.ref l) (.int k u)) := by with_unfolding_all rfl) (hg : ∀ r, letTemporaryGo value (.ref l) r = pure () := by intro _; with_unfolding_all rfl) :
    wpAny (model prog w) A (subscriptTail value slice (.ref l) (.int k u)) Q E s :=
  item_list (items := us.toArray) ⟨_, (N _ hm).1, rfl, n, rfl⟩ (by omega) (by omega) (by simpa using hx) h hs hg
local macro_rules | `(tactic| walk_at "call ref") => `(tactic| ((with_reducible refine' law_behind_u (hQ := ?_)); walk_at "z"))
local macro_rules | `(tactic| walk_at "call ref") => `(tactic| ((with_reducible refine' nearest_u (hQ := ?_)); walk_at "z"))
local macro_rules | `(tactic| walk_at "subscriptTail") => `(tactic| (with_reducible refine' item_u (h := ?_)))
theorem lbk_spec {o v : List UInt8} {k : Nat} : ∀ n, lbk o v k n = 0 ∨ cut o k ((k : Int) + ((lbk o v k n : Nat) : Int) * (v.length : Int)) = reps v (lbk o v k n)
  | 0 => .inl rfl
  | n + 1 => by
    by_cases h : cut o k ((k : Int) + ((n + 1 : Nat) : Int) * (v.length : Int)) = reps v (n + 1)
    · have e : lbk o v k (n + 1) = n + 1 := by rw [lbk, if_pos h]
      rw [e]; exact .inr h
    · have e : lbk o v k (n + 1) = lbk o v k n := by rw [lbk, if_neg h]
      rw [e]; exact lbk_spec n
theorem lbehind_le {o : List UInt8} {m : Mk} {k : Nat} (hk : k ≤ o.length) : lbehind o m k ≤ o.length := by
  unfold lbehind
  generalize (if m.2 then o.length else 1) = n
  rcases lbk_spec (o := o) (v := m.1) (k := k) n with h | h
  · rw [h]; omega
  · have e := congrArg List.length h
    have e2 : (reps m.1 (lbk o m.1 k n)).length = lbk o m.1 k n * m.1.length := by simp [reps]
    have e3 : ((k : Int) + ((lbk o m.1 k n : Nat) : Int) * (m.1.length : Int)).toNat = k + lbk o m.1 k n * m.1.length := by
      rw [← Int.natCast_mul, ← Int.natCast_add, Int.toNat_natCast]
    rw [e2] at e
    unfold cut at e
    rw [e3, List.length_take, List.length_drop] at e
    simp only [Int.toNat_natCast] at e
    have e9 := Nat.le_trans (Nat.le_of_eq e.symm) (Nat.min_le_right _ _)
    clear e e2 e3
    omega
theorem nf_prop {o : List UInt8} {ms : List Mk} : ∀ {i j : Nat} {x : Nat × Option Mk}, i ≤ o.length → (nf o ms i)[j]? = some x → x.1 ≤ o.length ∧ ∀ m, x.2 = some m → m ∈ ms ∧ lies o m.1 x.1 = true
  | 0, j, x, _, h => by
    cases j with
    | zero => simp [nf] at h; subst h; exact ⟨Nat.le_refl _, fun m e => by simp at e⟩
    | succ j => simp [nf] at h
  | i + 1, j, x, hi, h => by
    have ih := fun {j x} => nf_prop (o := o) (ms := ms) (i := i) (j := j) (x := x) (by omega)
    cases j with
    | succ j => exact ih (j := j) (by simpa [nf] using h)
    | zero =>
      rw [nf, List.getElem?_cons_zero] at h
      cases hh : hitAt o ms (o.length - 1 - i) with
      | some m =>
        rw [hh] at h
        cases h
        exact ⟨by dsimp only; omega, fun m' e => by cases e; exact hit_some hh⟩
      | none =>
        rw [hh] at h
        have e := Option.some.inj h
        have hl := nf_len o ms i
        cases hq : nf o ms i with
        | nil => rw [hq] at hl; simp at hl
        | cons y r =>
          rw [hq] at e
          simp only [List.headD_cons] at e
          subst e
          exact ih (j := 0) (by rw [hq]; rfl)
def nearAt (o : List UInt8) (ms : List Mk) (k : Nat) : Nat × Option Mk := ((nf o ms o.length)[k]?).getD (0, none)
def markOf : Option Mk → List UInt8
  | none => []
  | some m => m.1
def stepOf (o : List UInt8) (x : Nat × Option Mk) : Nat := match x.2 with
  | none => x.1
  | some m => lbehind o m x.1
def due (o : List UInt8) (ms : List Mk) : Nat → Nat → List Pr × Nat
  | 0, k => ([], k)
  | n + 1, k => if k = o.length then ([], k) else ((cut o k (nearAt o ms k).1, markOf (nearAt o ms k).2) :: (due o ms n (stepOf o (nearAt o ms k))).1, (due o ms n (stepOf o (nearAt o ms k))).2)
def dueR (o : List UInt8) (ms : List Mk) (b : Int) (many : Nat) : List Pr × Int × Bool :=
  if 1 ≤ b ∧ b ≤ o.length then ((due o ms many (b - 1).toNat).1, ((due o ms many (b - 1).toNat).2 : Int) + 1, decide (((due o ms many (b - 1).toNat).2 : Int) < (o.length : Int))) else ([], b, true)
theorem nearAt_spec {o : List UInt8} {ms : List Mk} {k : Nat} (hk : k ≤ o.length) : (nf o ms o.length)[k]? = some (nearAt o ms k) := by
  unfold nearAt
  have h : k < (nf o ms o.length).length := by rw [nf_len]; omega
  rw [List.getElem?_eq_getElem h]; rfl
theorem allLt_off {d : Addr} : ∀ {l : Led}, AllLt d l → OwnOff l [d]
  | [], _ => fun p hp => by cases hp
  | q :: l, h => fun p hp b hb => by
    rcases List.mem_cons.mp hp with rfl | hp
    · rw [List.mem_singleton.mp hb]; exact Nat.ne_of_lt h.1
    · exact allLt_off h.2 p hp b hb
theorem due_step {g h : Heap} {L x : Addr} {us : Array Value} {c : Nat} {q r : Addr × Obj} {l : Addr} {vs : List Value} {ep : Nat} {tl own : Led} (N : News g L h ((x, tupO us c) :: q :: (l, listOf (vs ++ [Value.ref x]).toArray ep) :: r :: (tl ++ own))) :
    News g L h (own ++ ((l, listOf (vs ++ [Value.ref x]).toArray ep) :: r :: (x, tupO us c) :: tl)) ∧ x ≠ l := by
  refine ⟨newsSub N (by walk_at "sb"), fun e => ?_⟩
  have h1 := (N _ (.head _)).1
  have h2 := (N _ (.tail _ (.tail _ (.head _)))).1
  dsimp only at h1 h2
  rw [e, h2] at h1
  simp at h1
theorem due_stepP {g h : Heap} {L x : Addr} {us : Array Value} {c : Nat} {q r : Addr × Obj} {l : Addr} {vs : List Value} {ep : Nat} {tl own : Led} (N : News g L h ((x, tupO us c) :: q :: (l, listOf (vs.toArray.push (Value.ref x)) ep) :: r :: (tl ++ own))) :
    News g L h (own ++ ((l, listOf (vs ++ [Value.ref x]).toArray ep) :: r :: (x, tupO us c) :: tl)) ∧ x ≠ l := due_step (by rw [List.push_toArray] at N; exact N)
theorem due_fin {o : List UInt8} {ms : List Mk} {b : Int} {many n k : Nat} {xs : List Pr} (hb1 : ¬ b < 1) (hb2 : ¬ (o.length : Int) < b) (he : (xs ++ (due o ms n k).1, (due o ms n k).2) = due o ms many (b - 1).toNat) (hk : n = 0 ∨ k = o.length) : dueR o ms b many = (xs, (k : Int) + 1, decide ((k : Int) < (o.length : Int))) := by
  have e0 : due o ms n k = ([], k) := by
    cases n with
    | zero => rfl
    | succ n =>
      rcases hk with hk | hk
      · omega
      · rw [due, if_pos hk]
  rw [e0, List.append_nil] at he
  unfold dueR
  rw [if_pos (by omega), ← he]
theorem fld_off {g h : Heap} {L l : Addr} {c : Value} {xs : Array Value} {n : Nat} {news own : Led} (N : News g L h news) (hl : (l, ({ cls := c, data := .seq xs n } : Obj)) ∈ news) (hs : ∀ p ∈ own, p ∈ news) (ho : ∀ p ∈ own, Fld p.2) : OwnOff own [l] := by
  intro p hp b hb e
  rw [List.mem_singleton.mp hb] at e
  have h1 := (N p (hs p hp)).1
  have h2 := (N _ hl).1
  dsimp only at h2
  rw [e, h2] at h1
  exact notFldSeq (Option.some.inj h1 ▸ ho p hp)
theorem offApp {a b : Led} {adr : List Addr} (h : OwnOff a adr) (k : OwnOff b adr) : OwnOff (a ++ b) adr := fun p hp => (List.mem_append.mp hp).elim (h p) (k p)
theorem offTail {p : Addr × Obj} {tl : Led} {adr : List Addr} (h : OwnOff (p :: tl) adr) : OwnOff tl adr := fun q hq => h q (.tail _ hq)
set_option maxHeartbeats 8000000 in
theorem law_due_c {o : List UInt8} {ms : List Mk} {mv : Value} {t kt nt : Tok} {b : Int} {many : Nat} (B : Base w p loose mean mg mb s.heap) (hA : Ok 4 A)
  (h2 : o.length ≤ 1000) (h3 : ms.length ≤ 1000) (h4 : many ≤ 1000) (hm : Rd (H s.heap) mv (marksD ms)) (hms : ∀ m ∈ ms, m.1 ≠ [] ∧ m.1.length ≤ 16) :
  Pure w A (call (.ref 166) [.bytes o.toArray t, mv, .int b kt, .int many nt]) No s (unsD (dueR o ms b many)) := by
  intro Q E hQ
  obtain ⟨ah, ad, af, ag, au⟩ := A
  obtain rfl : ah = none := hA.h
  have KX := B.k
  have T := B.t
  refine' enter (binds := [(Str.ofString "octets", .bytes o.toArray t), (Str.ofString "marks", mv), (Str.ofString "begin", .int b kt), (Str.ofString "many", .int many nt)]) B ?k1 ?k2 ?k3 ?k4 ?k5 ?_ ?k6 ?k7 ?k8 ?k9
  walk_at "mine sides"
  intro L h₁ tkE F
  have N : News s.heap L h₁ [] := News.nil
  walk_at "mine steps"
  · have hb : b < 1 := by assumption
    have e2 : dueR o ms b many = ([], b, true) := by unfold dueR; rw [if_neg (by omega)]
    (with_reducible rename News _ _ _ _ => N9)
    refine hQ _ _ _ _ (Fr.keep (by assumption)) (freshOf N9 fun p hp => hp) ?_
    rw [e2]
    exact .tup (.inr (.head _)) (.cons (.list (.inr (.tail _ (.head _))) .nil) (.cons (.int _ _) (.cons (.bool _) .nil)))
  · have hb : (o.toArray.size : Int) < b := by assumption
    rw [List.size_toArray] at hb
    have e2 : dueR o ms b many = ([], b, true) := by unfold dueR; rw [if_neg (by omega)]
    (with_reducible rename News _ _ _ _ => N9)
    refine hQ _ _ _ _ (Fr.keep (by assumption)) (freshOf N9 fun p hp => hp) ?_
    rw [e2]
    exact .tup (.inr (.head _)) (.cons (.list (.inr (.tail _ (.head _))) .nil) (.cons (.int _ _) (.cons (.bool _) .nil)))
  · have hb1 : ¬ b < 1 := by assumption
    have hb2 : ¬ (o.toArray.size : Int) < b := by assumption
    rw [List.size_toArray] at hb2
    have e1 : b - 1 = ((b - 1).toNat : Int) := by omega
    (with_reducible rename Fr _ _ _ _ => F9)
    (with_reducible rename News _ _ _ _ => N9)
    (with_reducible rename NearAll _ _ _ _ => hnear)
    (with_reducible rename NoFld _ => hfl)
    rw [e1] at F9
    have N8 := newsTail N9
    rw [List.append_nil] at N8
    refine Stop.out ?_
    refine for_rangeA (L := L) (n := many) rfl rfl (by assumption) (small_one (by omega) (by omega) (by omega) (by omega)) (by rw [rangeSize_nat]; omega) F9 N8 ?_
      (fun i m₁ nx => Ex13 fun (xs : List Pr) (k : Nat) (l ln : Addr) (us vs : List Value) (un ep : Nat) (tl : Led) (u0 u1 u2 u3 : Option Value) => An10 ((∃ tb, u0 = some (.int (k : Nat) tb))) (nx = (l, listOf vs.toArray ep) :: (ln, listOf us.toArray un) :: tl) (OwnOff ((ln, listOf us.toArray un) :: tl) [l]) (RdAll (InL tl) vs (xs.map pairD)) (NearAll (H s.heap) tl us (nf o ms o.length)) (k ≤ o.length) (xs.length ≤ i) ((∀ p ∈ tl, ¬ Fld p.2)) ((xs ++ (due o ms (many - i) k).1, (due o ms (many - i) k).2) = due o ms many (b - 1).toNat) (m₁ = fun y => if y = Str.ofString "place" then u0 else if y = Str.ofString "end" then u1 else if y = Str.ofString "pair" then u2 else if y = Str.ofString "turn" then u3 else if y = Str.ofString "nearest" then some (Value.ref ln) else if y = Str.ofString "pieces" then some (.ref l) else List.lookup y [(Str.ofString "octets", .bytes o.toArray t), (Str.ofString "marks", mv), (Str.ofString "begin", .int b kt), (Str.ofString "many", .int many nt)].reverse)) ?_ ?_ ?_
    · intro p hp
      rcases List.mem_cons.mp hp with rfl | hp
      · exact notFldSeq
      · rcases List.mem_cons.mp hp with rfl | hp
        · exact notFldSeq
        · exact hfl p hp
    · refine ⟨[], (b - 1).toNat, _, _, _, [], _, 0, _, mapOf F9 (Str.ofString "place"), none, none, none, ⟨_, rfl⟩, rfl, ?_, RdAll.nil, hnear, (by omega), (by simp), hfl, (by simp), ?_⟩
      · (with_reducible rename (_ ∧ AllLt _ _) => hlt)
        rw [List.append_nil] at hlt
        exact allLt_off hlt
      · funext y
        walk_at "mine map"
    · rintro i tk' m₁ nx h tk own JJ QQ hJJ hQQ hi hown ⟨xs, k, l, ln, us, vs, un, ep, tl, _, u1, u2, u3, ⟨tb, rfl⟩, rfl, hoff, hvs, hnr, hk, hxl, hfl2, he, rfl⟩ hcn F₁ N₁
      obtain ⟨a, na, ta, pv, hua, hta, rpv⟩ := hnr.get (nearAt_spec (o := o) (ms := ms) hk)
      obtain ⟨hx1, hx2⟩ := nf_prop (Nat.le_refl _) (nearAt_spec (o := o) (ms := ms) hk)
      have hvl : vs.length = xs.length := by simpa using hvs.length
      have hal : a ≠ l := hoff _ (.tail _ hta) l (.head _)
      have hlnl : ln ≠ l := hoff _ (.head _) l (.head _)
      have hofo : OwnOff own [l] := fld_off N₁ (List.mem_append.mpr (.inr (.head _))) (fun p hp => List.mem_append.mpr (.inl hp)) hown
      have hoff2 : OwnOff (tl ++ own) [l] := offApp (offTail hoff) hofo
      have N₂ : News s.heap L h ((a, tupO [Value.int (nearAt o ms k).1 ta, pv].toArray na) :: (l, listOf vs.toArray ep) :: (ln, listOf us.toArray un) :: (tl ++ own)) := newsSub N₁ (by walk_at "sb")
      clear N₁
      generalize hnx : nearAt o ms k = x at *
      obtain ⟨e, pr⟩ := x
      dsimp only at *
      cases pr with
      | none =>
        cases rpv
        walk_at "mine steps"
        · have hkl : (k : Int) = (o.toArray.size : Int) := by assumption
          rw [List.size_toArray] at hkl
          have e2 := due_fin hb1 hb2 he (.inr (by omega))
          dsimp only [MTurnK]
          refine hQQ _ _ ?_
          walk_at "mine steps"
          (with_reducible rename News _ _ _ _ => N9)
          refine hQ _ _ _ _ (Fr.keep (by assumption)) (freshOf N9 fun p hp => hp) ?_
          rw [e2]
          exact .tup (.inr (.head _)) (.cons (.list (.inr (.tail _ (.tail _ (.head _)))) (hvs.mono fun _ _ hm => .inr (.tail _ (.tail _ (.tail _ (.tail _ (List.mem_append.mpr (.inl hm)))))))) (.cons (.int _ _) (.cons (.bool _) .nil)))
        · have hkl : ¬ (k : Int) = (o.toArray.size : Int) := by assumption
          rw [List.size_toArray] at hkl
          have hkl' : ¬ k = o.length := by omega
          (with_reducible rename Fr _ _ _ _ => F8)
          (with_reducible rename News _ _ _ _ => N9)
          obtain ⟨N8, hDl⟩ := due_stepP N9
          refine MTurnK.next _ F8 N8 ?_ (hJJ _ _ ⟨xs ++ [(cut o k e, [])], e, l, ln, us, _, un, ep + 1, _, mapOf F8 (Str.ofString "place"), mapOf F8 (Str.ofString "end"), mapOf F8 (Str.ofString "pair"), mapOf F8 (Str.ofString "turn"), ⟨_, rfl⟩, rfl, ?_, ?_, hnr.mono (fun _ hm => .tail _ hm), hx1, (by rw [List.length_append, List.length_singleton]; omega), ?_, ?_, ?_⟩)
          · intro p hp
            rcases List.mem_cons.mp hp with rfl | hp
            · exact notFldSeq
            · rcases List.mem_cons.mp hp with rfl | hp
              · exact notFldSeq
              · rcases List.mem_cons.mp hp with rfl | hp
                · exact notFldSeq
                · exact hfl2 p hp
          · intro p hp b' hb'
            rw [List.mem_singleton.mp hb']
            rcases List.mem_cons.mp hp with rfl | hp
            · exact hlnl
            · rcases List.mem_cons.mp hp with rfl | hp
              · exact hDl
              · exact hoff p (.tail _ hp) l (.head _)
          · rw [List.map_append]
            exact (hvs.mono fun _ _ hm => .tail _ hm).append (.one (.tup (.head _) (.cons (.bytes _ _) (.cons (.bytes _ _) .nil))))
          · intro p hp
            rcases List.mem_cons.mp hp with rfl | hp
            · exact notFldSeq
            · exact hfl2 p hp
          · have e5 : many - i = (many - (i + 1)) + 1 := subSucc (by assumption)
            rw [← he, e5]; simp [due, hkl', hnx, markOf, stepOf]
          · funext y
            walk_at "mine map"
      | some m =>
        obtain ⟨hm1, hm2⟩ := hx2 m rfl
        obtain ⟨hmne, hmle⟩ := hms m hm1
        obtain ⟨a2, t2, rfl, hT⟩ := rdMk rpv
        have rpv' : Rd (H s.heap) (Value.ref a2) (mkD m) := rpv
        walk_at "mine steps"
        · have hkl : (k : Int) = (o.toArray.size : Int) := by assumption
          rw [List.size_toArray] at hkl
          have e2 := due_fin hb1 hb2 he (.inr (by omega))
          dsimp only [MTurnK]
          refine hQQ _ _ ?_
          walk_at "mine steps"
          (with_reducible rename News _ _ _ _ => N9)
          refine hQ _ _ _ _ (Fr.keep (by assumption)) (freshOf N9 fun p hp => hp) ?_
          rw [e2]
          exact .tup (.inr (.head _)) (.cons (.list (.inr (.tail _ (.tail _ (.head _)))) (hvs.mono fun _ _ hm => .inr (.tail _ (.tail _ (.tail _ (.tail _ (List.mem_append.mpr (.inl hm)))))))) (.cons (.int _ _) (.cons (.bool _) .nil)))
        · have hkl : ¬ (k : Int) = (o.toArray.size : Int) := by assumption
          rw [List.size_toArray] at hkl
          have hkl' : ¬ k = o.length := by omega
          (with_reducible rename Fr _ _ _ _ => F8)
          (with_reducible rename News _ _ _ _ => N9)
          obtain ⟨N8, hDl⟩ := due_stepP N9
          refine MTurnK.next _ F8 N8 ?_ (hJJ _ _ ⟨xs ++ [(cut o k e, m.1)], lbehind o m e, l, ln, us, _, un, ep + 1, _, mapOf F8 (Str.ofString "place"), mapOf F8 (Str.ofString "end"), mapOf F8 (Str.ofString "pair"), mapOf F8 (Str.ofString "turn"), ⟨_, rfl⟩, rfl, ?_, ?_, hnr.mono (fun _ hm => .tail _ hm), lbehind_le hx1, (by rw [List.length_append, List.length_singleton]; omega), ?_, ?_, ?_⟩)
          · intro p hp
            rcases List.mem_cons.mp hp with rfl | hp
            · exact notFldSeq
            · rcases List.mem_cons.mp hp with rfl | hp
              · exact notFldSeq
              · rcases List.mem_cons.mp hp with rfl | hp
                · exact notFldSeq
                · exact hfl2 p hp
          · intro p hp b' hb'
            rw [List.mem_singleton.mp hb']
            rcases List.mem_cons.mp hp with rfl | hp
            · exact hlnl
            · rcases List.mem_cons.mp hp with rfl | hp
              · exact hDl
              · exact hoff p (.tail _ hp) l (.head _)
          · rw [List.map_append]
            exact (hvs.mono fun _ _ hm => .tail _ hm).append (.one (.tup (.head _) (.cons (.bytes _ _) (.cons (.bytes _ _) .nil))))
          · intro p hp
            rcases List.mem_cons.mp hp with rfl | hp
            · exact notFldSeq
            · exact hfl2 p hp
          · have e5 : many - i = (many - (i + 1)) + 1 := subSucc (by assumption)
            rw [← he, e5]; simp [due, hkl', hnx, markOf, stepOf]
          · funext y
            walk_at "mine map"
    · rintro m₁ nx h tk ⟨xs, k, l, ln, us, vs, un, ep, tl, _, u1, u2, u3, ⟨tb, rfl⟩, rfl, hoff, hvs, hnr, hk, hxl, hfl2, he, rfl⟩ hcn F₁ N₁
      have e2 := due_fin hb1 hb2 he (.inl (by omega))
      walk_at "mine steps"
      (with_reducible rename News _ _ _ _ => N9)
      refine hQ _ _ _ _ (Fr.keep (by assumption)) (freshOf N9 fun p hp => hp) ?_
      rw [e2]
      exact .tup (.inr (.head _)) (.cons (.list (.inr (.tail _ (.head _))) (hvs.mono fun _ _ hm => .inr (.tail _ (.tail _ (.tail _ hm))))) (.cons (.int _ _) (.cons (.bool _) .nil)))
end
end
section
open PySem PySem.W PySem.Calls PyProof.Rows
def KeepsBut (P : Addr) (h h' : Heap) : Prop := ∀ b o, b ≠ P → h.get? b = some o → h'.get? b = some o
theorem keeps_hide {G h : Heap} {P : Addr} (k : Keeps G h) (hG : G.get? P = none) : Keeps G (h.hide P) := fun b o e => by
  have hb : b ≠ P := fun q => by rw [q, hG] at e; cases e
  rw [Heap.hide_ne _ hb]; exact k b o e
theorem frHide {h h₁ : Heap} {L P : Addr} {m : Str → Option Value} (F : Fr h L h₁ m) : Fr (h.hide P) L h₁ m :=
  ⟨F.ns, fun b o e => F.keep b o (Heap.of_hide e), by rw [Heap.hide_size]; exact F.above⟩
theorem newsHide {h h₁ : Heap} {L P : Addr} {m : Str → Option Value} {o : Obj} (F : Fr h L h₁ m) (hP : h.get? P = some o) : News (h.hide P) L h₁ [(P, o)] := by
  intro p hp
  rw [List.mem_singleton.mp hp]
  exact ⟨F.keep _ _ hP, Nat.ne_of_lt (Nat.lt_of_lt_of_le (Heap.lt_size hP) F.above), Heap.hide_self _ _⟩
theorem hide_get {h : Heap} {P b : Addr} {o : Obj} (hb : b ≠ P) (e : h.get? b = some o) : (h.hide P).get? b = some o := by rw [Heap.hide_ne _ hb]; exact e
theorem keepsBut_of {h h' : Heap} {P : Addr} (k : Keeps (h.hide P) h') : KeepsBut P h h' := fun b o hb e => k b o (hide_get hb e)
def penO (li : Addr) (turn great : Int) (t1 t2 : Tok) (n : Nat) : Obj := listOf [Value.ref li, .int turn t1, .int great t2].toArray n
end
section
theorem fmodN (a b : Nat) : (a : Int).fmod (b : Int) = ((a % b : Nat) : Int) := by rw [Int.fmod_eq_emod_of_nonneg _ (Int.natCast_nonneg _)]; rfl
theorem fdivN (a b : Nat) : (a : Int).fdiv (b : Int) = ((a / b : Nat) : Int) := by rw [Int.fdiv_eq_ediv_of_nonneg _ (Int.natCast_nonneg _)]; rfl
theorem fm_bd (x m : Int) (hm : 0 < m) : 0 ≤ x.fmod m ∧ x.fmod m < m := ⟨Int.fmod_nonneg_of_pos _ hm, Int.fmod_lt_of_pos _ hm⟩
theorem fmod_ex (x : Int) {many : Nat} (h1 : 1 ≤ many) : ∃ r : Nat, r < many ∧ x.fmod many = r := by
  obtain ⟨h2, h3⟩ := fm_bd x many (by omega)
  exact ⟨(x.fmod many).toNat, by omega, by omega⟩
theorem pow_a {x : Int} {turn : Nat} (ht : turn ≤ 1000) : (x.fmod 2147483587 + 31219 * (turn : Int) + 1409).natAbs < 2 ^ 64 := by
  obtain ⟨h2, h3⟩ := fm_bd x 2147483587 (by omega)
  generalize x.fmod 2147483587 = y at *
  omega
theorem turn_sq {turn : Nat} (ht : turn ≤ 1000) : 0 ≤ 31219 * (turn : Int) * turn ∧ 31219 * (turn : Int) * turn ≤ 31219000000 := by
  have h1 : (turn : Int) * turn ≤ 1000 * 1000 := Int.mul_le_mul (by omega) (by omega) (by omega) (by omega)
  have h2 : 0 ≤ (turn : Int) * turn := Int.mul_nonneg (by omega) (by omega)
  rw [Int.mul_assoc]
  omega
theorem pow_b {x : Int} {turn : Nat} (ht : turn ≤ 1000) : (x.fmod 2147483629 * (2 * (turn : Int) + 5023) + 31219 * (turn : Int) * turn + 41).natAbs < 2 ^ 64 := by
  obtain ⟨h2, h3⟩ := fm_bd x 2147483629 (by omega)
  obtain ⟨h4, h5⟩ := turn_sq ht
  generalize x.fmod 2147483629 = y at *
  generalize 31219 * (turn : Int) * turn = q at *
  have h6 : y * (2 * (turn : Int) + 5023) ≤ 2147483629 * 7023 := Int.mul_le_mul (by omega) (by omega) (by omega) (by omega)
  have h7 : 0 ≤ y * (2 * (turn : Int) + 5023) := Int.mul_nonneg (by omega) (by omega)
  generalize y * (2 * (turn : Int) + 5023) = r at *
  omega
section
variable {w : World} {A : Around} {s : Shared} {E : Value → Shared → Prop}
theorem pow_any {a n : Int} {t u : Tok} {Q : Value → Shared → Prop} (hn : 0 ≤ n) (hn2 : n ≤ 1000000) (ha : a.natAbs < 2 ^ 64) (h : ∀ z k t', Q (.int z t') { s with toks := k }) : wpAny (model prog w) A (binaryOp .Pow (.int a t) (.int n u)) Q E s := pow_int_small hn hn2 ha (h _ _ _)
theorem pow18 {t u : Tok} {Q : Value → Shared → Prop} (h : ∀ k t', Q (.int 1000000000000000000 t') { s with toks := k }) : wpAny (model prog w) A (binaryOp .Pow (.int 10 t) (.int 18 u)) Q E s := pow_int_small (by decide) (by decide) (by decide) (h _ _)
end
local macro_rules | `(tactic| walk_at "binaryOp Pow int int") => `(tactic| first | (refine pow18 ?_; intro _ _) | (refine pow_any (by decide) (by decide) (pow_a (by assumption)) ?_; intro _ _ _) | (refine pow_any (by decide) (by decide) (pow_b (by assumption)) ?_; intro _ _ _) | refine Stop.mk ?_)
section
variable {w : World} {p : Program} {loose : List Str} {mean : ExcName → Option Value} {mg mb : Str → Option Value} {A : Around} {s : Shared} {Q E : Value → Shared → Prop}
theorem fdiv_ex {x : Int} {many : Nat} (hx : 0 ≤ x) : ∃ g : Nat, x.fdiv many = g := by
  obtain ⟨k, rfl⟩ := Int.eq_ofNat_of_zero_le hx
  exact ⟨_, fdivN _ _⟩
theorem draw_fin {h h' : Heap} {P li L : Addr} {m : Str → Option Value} {news : Led} {a b X : Int} {turn n many tk' : Nat} {ta tb tr : Tok} {Q : Value → Shared → Prop} {s' : Shared} (h1 : 1 ≤ many) (F : Fr (h.hide P) L h' m) (N : News (h.hide P) L h' news) (hm : (P, listOf #[Value.ref li, .int a ta, .int b tb] n) ∈ news)
  (ha : ∃ turn' : Nat, a = turn' ∧ turn' ≤ turn + 1) (hb : ∃ g : Nat, b = g)
  (hQ : ∀ (r turn' great' : Nat) (t1' t2' : Tok) h' tk' tr, r < many → turn' ≤ turn + 1 → KeepsBut P h h' → h'.get? P = some (penO li turn' great' t1' t2' n) → Q (.int r tr) { s' with heap := h', toks := tk' }) :
  Q (.int (X.fmod many) tr) { s' with heap := h', toks := tk' } := by
  obtain ⟨turn', rfl, ht⟩ := ha
  obtain ⟨g, rfl⟩ := hb
  obtain ⟨r, hr, e⟩ := fmod_ex X h1
  rw [e]
  exact hQ r turn' g ta tb h' tk' tr hr ht (keepsBut_of F.keep) (N _ hm).1
set_option maxHeartbeats 8000000 in
theorem draw_c {G : Heap} {P li : Addr} {us : List Value} {ns : List Int} {turn great n many : Nat} {t1 t2 mt : Tok} (B : Base w p loose mean mg mb G) (hk : Keeps G s.heap) (hG : G.get? P = none) (hA : Ok 2 A)
  (hP : s.heap.get? P = some (penO li turn great t1 t2 n)) (hli : s.heap.IsList li us.toArray) (hne : li ≠ P) (hi : IntsAre us ns) (hlen : ns.length ≤ 1000) (ht : turn ≤ 1000) (h1 : 1 ≤ many) (h2 : many ≤ 1000)
  (hQ : ∀ (r turn' great' : Nat) (t1' t2' : Tok) h' tk' tr, r < many → turn' ≤ turn + 1 → KeepsBut P s.heap h' → h'.get? P = some (penO li turn' great' t1' t2' n) → Q (.int r tr) { s with heap := h', toks := tk' }) :
  wpAny (model prog w) A (call (.ref 130) [.ref P, .int many mt]) Q E s := by
  obtain ⟨ah, ad, af, ag, au⟩ := A
  obtain rfl : ah = none := hA.h
  refine' enter (binds := [(Str.ofString "pen", .ref P), (Str.ofString "many", .int many mt)]) (B.keeps hk) ?k1 ?k2 ?k3 ?k4 ?k5 ?_ ?k6 ?k7 ?k8 ?k9
  walk_at "mine sides"
  intro L h₁ tkE F
  have B' := B.keeps (keeps_hide hk hG)
  have KX := B'.k
  have T := B'.t
  have N := newsHide F hP
  have F' := frHide (P := P) F
  have hli' : (s.heap.hide P).IsList li us.toArray := hli.at fun o e => hide_get hne e
  unfold penO at N
  clear F hP B B' hk hli
  have husl : us.toArray.size = ns.length := by rw [List.size_toArray]; exact hi.length
  walk_at "mine steps"
  all_goals first
    | (exfalso; (have hq : us.isEmpty = false := by assumption); (have hz : (ns.length : Int) = 0 := by assumption); (have hn : us ≠ [] := by simpa using hq); (have hl := hi.length); (have hp : us.length ≠ 0 := by simpa using hn); omega)
    | skip
  all_goals try dsimp only
  all_goals refine draw_fin h1 (by assumption) (by assumption) (by k_memK) ?_ ?_ hQ
  all_goals first
    | exact ⟨turn, rfl, by omega⟩
    | exact ⟨turn + 1, rfl, by omega⟩
    | exact ⟨great, rfl⟩
    | exact ⟨_, fdivN _ _⟩
    | refine fdiv_ex ?_
  all_goals
    generalize ns.getD ((turn : Int).fmod (ns.length : Int)).toNat 0 = cell at *
    rcases Int.lt_or_le cell 0 with hc | hc
    · have h9 : (1000000000000000000 : Int) ≤ if cell < 0 then -cell else cell := by assumption
      rw [if_pos hc] at h9
      rw [if_pos hc, if_pos (by simpa using hc)]
      omega
    · have h9 : (1000000000000000000 : Int) ≤ if cell < 0 then -cell else cell := by assumption
      rw [if_neg (by omega)] at h9
      rw [if_neg (by omega), if_neg (by simp; omega)]
      omega
end
end
section
variable {w : World} {p : Program} {loose : List Str} {mean : ExcName → Option Value} {mg mb : Str → Option Value} {A : Around} {s : Shared} {Q E : Value → Shared → Prop}
theorem draw_u {g : Heap} {L : Addr} {m₀ : Str → Option Value} {news : Led} {gn : Obj → Led} {P li : Addr} {us : List Value} {ns : List Int} {turn great n : Nat} {mi : Int} {t1 t2 mt : Tok} (B : Base w p loose mean mg mb g := by walk_at "ka") (F : Fr g L s.heap m₀ := by walk_at "ka") (N : News g L s.heap news := by walk_at "ka") (hA : Ok 2 A := by walk_at "kk")
  (U : UpdF P (penO li turn great t1 t2 n) news gn := by k_dflt (unfold penO; walk_at "ue")) (hli : s.heap.IsList li us.toArray := by k_dflt (walk_at "mine li")) (hne : li ≠ P := by walk_at "ka") (hi : IntsAre us ns := by walk_at "ka") (hlen : ns.length ≤ 1000 := by walk_at "ka") (ht : turn ≤ 1000 := by walk_at "ko") (h1 : 1 ≤ mi := by k_dflt (walk_at "mine om")) (h2 : mi ≤ 1000 := by k_dflt (walk_at "mine om"))
  (hQ : ∀ (r turn' great' : Nat) (t1' t2' : Tok) h' tk' tr, (r : Int) < mi → turn' ≤ turn + 1 → Fr g L h' m₀ → News g L h' (gn (penO li turn' great' t1' t2' n)) → Q (.int r tr) { s with heap := h', toks := tk' }) :
  wpAny (model prog w) A (call (.ref 130) [.ref P, .int mi mt]) Q E s := by
  obtain ⟨many, rfl⟩ := Int.eq_ofNat_of_zero_le (show 0 ≤ mi by omega)
  obtain ⟨pre, post, rfl, hg, a, b⟩ := U.split
  have z := N _ (List.mem_append.mpr (.inr (.head _)))
  dsimp only at z
  refine draw_c B F.keep z.2.2 hA z.1 hli hne hi hlen ht (by omega) (by omega) fun r turn' great' t1' t2' h' tk' tr hr ht' k e => hQ r turn' great' t1' t2' h' tk' tr (by omega) ht' ⟨F.ns.at fun o e => k _ _ (Ne.symm z.2.1) e, fun b o e => k _ _ (fun q => by rw [q, z.2.2] at e; cases e) (F.keep _ _ e), F.above⟩ ?_
  rw [hg]
  intro q hq
  rcases List.mem_append.mp hq with hq | hq
  · exact ⟨k _ _ (a q hq) (N q (List.mem_append.mpr (.inl hq))).1, (N q (List.mem_append.mpr (.inl hq))).2⟩
  · rcases List.mem_cons.mp hq with rfl | hq
    · exact ⟨e, z.2⟩
    · exact ⟨k _ _ (b q hq) (N q (List.mem_append.mpr (.inr (.tail _ hq)))).1, (N q (List.mem_append.mpr (.inr (.tail _ hq)))).2⟩
end
local macro_rules | `(tactic| walk_at "ue") => `(tactic| first | (refine' UpdF.head ?a; (case a => k_all)) | (refine' UpdF.tail ?a ?b; (case a => first | assumption | k_ne); (case b => walk_at "ue")))
local macro_rules | `(tactic| walk_at "mine om") => `(tactic| first | omega | ((try simp only [List.size_toArray, Array.size, List.length_cons, List.length_nil]); omega) | (trace_state; fail "om"))
local macro_rules | `(tactic| walk_at "mine upd") => `(tactic| with_unfolding_all (first | k_updF))
local macro_rules | `(tactic| walk_at "zp") => `(tactic| (intros; (try ((with_reducible rename News _ _ _ _ => N9); dsimp only [penO] at N9)); (try k_sweep)))
local macro_rules | `(tactic| walk_at "call ref") => `(tactic| ((with_reducible refine' draw_u (hQ := ?_)); walk_at "zp"))
section
variable {w : World} {p : Program} {loose : List Str} {mean : ExcName → Option Value} {mg mb : Str → Option Value} {A : Around} {s : Shared} {Q E : Value → Shared → Prop}
theorem len_b {vs : List Value} {l : Addr} {Q : Value → Shared → Prop} (hl : s.heap.IsList l vs.toArray := by k_dflt (walk_at "mine li")) (hfit : vs.length ≤ 1000 := by walk_at "ka")
    (h : ∀ t k, Q (.int (vs.length : Nat) t) { s with toks := k }) : wpAny (model prog w) A (call (.builtin "len") [.ref l]) Q E s := by
  exact len_list hl (by rw [List.size_toArray]; omega) (by rw [List.size_toArray]; exact h _ _)
theorem item_b {l : Addr} {us : List Value} {k : Nat} {u : Tok} {value slice : PySem.Expr} {Q : Value → Shared → Prop} (hl : s.heap.IsList l us.toArray := by k_dflt (walk_at "mine li")) (hfit : k ≤ 1000000 := by walk_at "ko") (hx : k < us.length := by walk_at "ko") (h : ∀ v, us[k]? = some v → Q v s)
    (hs : subscripted slice false (.ref l) (.int k u) = operate [.ref l, .int k u] (getItem (.ref l) (.int k u)) := by with_unfolding_all rfl) (hg : ∀ r, letTemporaryGo value (.ref l) r = pure () := by intro _; with_unfolding_all rfl) :
    wpAny (model prog w) A (subscriptTail value slice (.ref l) (.int k u)) Q E s :=
  item_list (items := us.toArray) hl (by omega) (by omega) (by rw [Int.toNat_natCast, List.getElem?_toArray]; exact List.getElem?_eq_getElem hx) (h _ (List.getElem?_eq_getElem hx)) hs hg
local macro_rules | `(tactic| walk_at "call builtin:len") => `(tactic| ((with_reducible refine' len_b (h := ?_)); intros))
local macro_rules | `(tactic| walk_at "subscriptTail") => `(tactic| ((with_reducible refine' item_b (h := ?_)); intros))
set_option maxHeartbeats 8000000 in
theorem pick_c {G : Heap} {P li l : Addr} {us vs : List Value} {ns : List Int} {turn great n : Nat} {t1 t2 : Tok} (B : Base w p loose mean mg mb G) (hk : Keeps G s.heap) (hG : G.get? P = none) (hA : Ok 3 A)
  (hP : s.heap.get? P = some (penO li turn great t1 t2 n)) (hli : s.heap.IsList li us.toArray) (hne : li ≠ P) (hi : IntsAre us ns) (hlen : ns.length ≤ 1000) (ht : turn ≤ 1000) (hl : s.heap.IsList l vs.toArray) (hlP : l ≠ P) (h1 : 1 ≤ vs.length) (h2 : vs.length ≤ 1000)
  (hQ : ∀ (v : Value) (turn' great' : Nat) (t1' t2' : Tok) h' tk', v ∈ vs → turn' ≤ turn + 1 → KeepsBut P s.heap h' → h'.get? P = some (penO li turn' great' t1' t2' n) → Q v { s with heap := h', toks := tk' }) :
  wpAny (model prog w) A (call (.ref 137) [.ref P, .ref l]) Q E s := by
  obtain ⟨ah, ad, af, ag, au⟩ := A
  obtain rfl : ah = none := hA.h
  refine' enter (binds := [(Str.ofString "pen", .ref P), (Str.ofString "some", .ref l)]) (B.keeps hk) ?k1 ?k2 ?k3 ?k4 ?k5 ?_ ?k6 ?k7 ?k8 ?k9
  walk_at "mine sides"
  intro L h₁ tkE F
  have B' := B.keeps (keeps_hide hk hG)
  have KX := B'.k
  have T := B'.t
  have N := newsHide F hP
  have F' := frHide (P := P) F
  have hli' : (s.heap.hide P).IsList li us.toArray := hli.at fun o e => hide_get hne e
  have hl' : (s.heap.hide P).IsList l vs.toArray := hl.at fun o e => hide_get hlP e
  unfold penO at N
  clear F hP B hk hli hl
  walk_at "mine steps"
  (with_reducible rename Fr _ _ _ _ => F9)
  (with_reducible rename News _ _ _ _ => N9)
  exact hQ _ _ _ _ _ _ _ (List.mem_of_getElem? (by assumption)) (by assumption) (keepsBut_of F9.keep) (N9 _ (.head _)).1
theorem getD_mem {bs : List UInt8} {k : Nat} (h : k < bs.toArray.size) : bs.getD (k : Int).toNat 0 ∈ bs := by
  have hr : k < bs.length := by simpa using h
  rw [Int.toNat_natCast, List.getD_eq_getElem?_getD, List.getElem?_eq_getElem hr]
  exact List.getElem_mem hr
set_option maxHeartbeats 8000000 in
theorem pickb_c {G : Heap} {P li : Addr} {us : List Value} {bs : List UInt8} {bt : Tok} {ns : List Int} {turn great n : Nat} {t1 t2 : Tok} (B : Base w p loose mean mg mb G) (hk : Keeps G s.heap) (hG : G.get? P = none) (hA : Ok 3 A)
  (hP : s.heap.get? P = some (penO li turn great t1 t2 n)) (hli : s.heap.IsList li us.toArray) (hne : li ≠ P) (hi : IntsAre us ns) (hlen : ns.length ≤ 1000) (ht : turn ≤ 1000) (h1 : 1 ≤ bs.length) (h2 : bs.length ≤ 1000)
  (hQ : ∀ (b : UInt8) (tr : Tok) (turn' great' : Nat) (t1' t2' : Tok) h' tk', b ∈ bs → turn' ≤ turn + 1 → KeepsBut P s.heap h' → h'.get? P = some (penO li turn' great' t1' t2' n) → Q (.int (b.toNat : Int) tr) { s with heap := h', toks := tk' }) :
  wpAny (model prog w) A (call (.ref 137) [.ref P, .bytes bs.toArray bt]) Q E s := by
  obtain ⟨ah, ad, af, ag, au⟩ := A
  obtain rfl : ah = none := hA.h
  refine' enter (binds := [(Str.ofString "pen", .ref P), (Str.ofString "some", .bytes bs.toArray bt)]) (B.keeps hk) ?k1 ?k2 ?k3 ?k4 ?k5 ?_ ?k6 ?k7 ?k8 ?k9
  walk_at "mine sides"
  intro L h₁ tkE F
  have B' := B.keeps (keeps_hide hk hG)
  have KX := B'.k
  have T := B'.t
  have N := newsHide F hP
  have F' := frHide (P := P) F
  have hli' : (s.heap.hide P).IsList li us.toArray := hli.at fun o e => hide_get hne e
  unfold penO at N
  clear F hP B hk hli
  walk_at "mine steps"
  (with_reducible rename Fr _ _ _ _ => F9)
  (with_reducible rename News _ _ _ _ => N9)
  exact hQ _ _ _ _ _ _ _ _ (getD_mem (by first | assumption | omega)) (by assumption) (keepsBut_of F9.keep) (N9 _ (.head _)).1
theorem pen_after {g h h' : Heap} {L P : Addr} {m : Str → Option Value} {news : Led} {gn : Obj → Led} {o o' : Obj} (F : Fr g L h m) (N : News g L h news) (U : UpdF P o news gn) (k : KeepsBut P h h') (e : h'.get? P = some o') : Fr g L h' m ∧ News g L h' (gn o') ∧ g.get? P = none ∧ h.get? P = some o := by
  obtain ⟨pre, post, rfl, hg, a, b⟩ := U.split
  have z := N _ (List.mem_append.mpr (.inr (.head _)))
  dsimp only at z
  refine ⟨⟨F.ns.at fun o e => k _ _ (Ne.symm z.2.1) e, fun b o e => k _ _ (fun q => by rw [q, z.2.2] at e; cases e) (F.keep _ _ e), F.above⟩, ?_, z.2.2, z.1⟩
  rw [hg]
  intro q hq
  rcases List.mem_append.mp hq with hq | hq
  · exact ⟨k _ _ (a q hq) (N q (List.mem_append.mpr (.inl hq))).1, (N q (List.mem_append.mpr (.inl hq))).2⟩
  · rcases List.mem_cons.mp hq with rfl | hq
    · exact ⟨e, z.2⟩
    · exact ⟨k _ _ (b q hq) (N q (List.mem_append.mpr (.inr (.tail _ hq)))).1, (N q (List.mem_append.mpr (.inr (.tail _ hq)))).2⟩
theorem pen_before {g h : Heap} {L P : Addr} {news : Led} {gn : Obj → Led} {o : Obj} (N : News g L h news) (U : UpdF P o news gn) : g.get? P = none ∧ h.get? P = some o := by
  obtain ⟨pre, post, rfl, hg, a, b⟩ := U.split
  have z := N _ (List.mem_append.mpr (.inr (.head _)))
  exact ⟨z.2.2, z.1⟩
theorem pick_u {g : Heap} {L : Addr} {m₀ : Str → Option Value} {news : Led} {gn : Obj → Led} {P li l : Addr} {us vs : List Value} {ns : List Int} {turn great n : Nat} {t1 t2 : Tok} (B : Base w p loose mean mg mb g := by walk_at "ka") (F : Fr g L s.heap m₀ := by walk_at "ka") (N : News g L s.heap news := by walk_at "ka") (hA : Ok 3 A := by walk_at "kk")
  (U : UpdF P (penO li turn great t1 t2 n) news gn := by k_dflt (unfold penO; walk_at "ue")) (hli : s.heap.IsList li us.toArray := by k_dflt (walk_at "mine li")) (hne : li ≠ P := by walk_at "ka") (hi : IntsAre us ns := by walk_at "ka") (hlen : ns.length ≤ 1000 := by walk_at "ka") (ht : turn ≤ 1000 := by walk_at "ko") (hl : s.heap.IsList l vs.toArray := by k_dflt (walk_at "mine li")) (hlP : l ≠ P := by k_dflt (first | assumption | (refine neN ?_; omega))) (h1 : 1 ≤ vs.length := by k_dflt (first | assumption | omega | decide)) (h2 : vs.length ≤ 1000 := by k_dflt (first | assumption | omega | decide))
  (hQ : ∀ (v : Value) (turn' great' : Nat) (t1' t2' : Tok) h' tk', v ∈ vs → turn' ≤ turn + 1 → Fr g L h' m₀ → News g L h' (gn (penO li turn' great' t1' t2' n)) → Q v { s with heap := h', toks := tk' }) :
  wpAny (model prog w) A (call (.ref 137) [.ref P, .ref l]) Q E s := by
  obtain ⟨z1, z2⟩ := pen_before N U
  refine pick_c B F.keep z1 hA z2 hli hne hi hlen ht hl hlP h1 h2 fun v turn' great' t1' t2' h' tk' hv ht' k e => ?_
  obtain ⟨F', N', _⟩ := pen_after F N U k e
  exact hQ v turn' great' t1' t2' h' tk' hv ht' F' N'
theorem pickb_u {g : Heap} {L : Addr} {m₀ : Str → Option Value} {news : Led} {gn : Obj → Led} {P li : Addr} {us : List Value} {bs : List UInt8} {bt : Tok} {ns : List Int} {turn great n : Nat} {t1 t2 : Tok} (B : Base w p loose mean mg mb g := by walk_at "ka") (F : Fr g L s.heap m₀ := by walk_at "ka") (N : News g L s.heap news := by walk_at "ka") (hA : Ok 3 A := by walk_at "kk")
  (U : UpdF P (penO li turn great t1 t2 n) news gn := by k_dflt (unfold penO; walk_at "ue")) (hli : s.heap.IsList li us.toArray := by k_dflt (walk_at "mine li")) (hne : li ≠ P := by walk_at "ka") (hi : IntsAre us ns := by walk_at "ka") (hlen : ns.length ≤ 1000 := by walk_at "ka") (ht : turn ≤ 1000 := by walk_at "ko") (h1 : 1 ≤ bs.length := by k_dflt (first | assumption | decide)) (h2 : bs.length ≤ 1000 := by k_dflt (first | assumption | decide))
  (hQ : ∀ (b : UInt8) (tr : Tok) (turn' great' : Nat) (t1' t2' : Tok) h' tk', b ∈ bs → turn' ≤ turn + 1 → Fr g L h' m₀ → News g L h' (gn (penO li turn' great' t1' t2' n)) → Q (.int (b.toNat : Int) tr) { s with heap := h', toks := tk' }) :
  wpAny (model prog w) A (call (.ref 137) [.ref P, .bytes bs.toArray bt]) Q E s := by
  obtain ⟨z1, z2⟩ := pen_before N U
  refine pickb_c B F.keep z1 hA z2 hli hne hi hlen ht h1 h2 fun b tr turn' great' t1' t2' h' tk' hv ht' k e => ?_
  obtain ⟨F', N', _⟩ := pen_after F N U k e
  exact hQ b tr turn' great' t1' t2' h' tk' hv ht' F' N'
theorem newsHideC {h h₁ : Heap} {L P : Addr} {m : Str → Option Value} {o : Obj} {cells : Led} (F : Fr h L h₁ m) (hP : h.get? P = some o) (N : News h L h₁ cells) : News (h.hide P) L h₁ ((P, o) :: cells) := by
  intro q hq
  rcases List.mem_cons.mp hq with rfl | hq
  · exact newsHide F hP _ (.head _)
  · refine ⟨(N q hq).1, (N q hq).2.1, ?_⟩
    cases e : (h.hide P).get? q.1 with
    | none => rfl
    | some o' => have := Heap.of_hide e; rw [(N q hq).2.2] at this; cases this
theorem pen_lt {h h₁ : Heap} {L P : Addr} {m : Str → Option Value} {o : Obj} (F : Fr h L h₁ m) (hP : h.get? P = some o) : @LT.lt Nat _ P L := Nat.lt_of_lt_of_le (Heap.lt_size hP) F.above
end
local macro_rules | `(tactic| walk_at "call ref") => `(tactic| ((with_reducible refine' pick_u (hQ := ?_)); walk_at "zp"))
local macro_rules | `(tactic| walk_at "call ref") => `(tactic| ((with_reducible refine' pickb_u (hQ := ?_)); walk_at "zp"))
section
section
variable {w : World} {p : Program} {loose : List Str} {mean : ExcName → Option Value} {mg mb : Str → Option Value} {A : Around} {s : Shared} {Q E : Value → Shared → Prop}
theorem bytes_u {g : Heap} {L l : Addr} {m : Str → Option Value} {news : Led} {vs : List Value} {ns : List Int} {n : Nat} {Q : Value → Shared → Prop} (F : Fr g L s.heap m := by walk_at "ka") (N : News g L s.heap news := by walk_at "ka") (hm : (l, listOf vs.toArray n) ∈ news := by walk_at "km") (hi : IntsAre vs ns := by walk_at "ka") (hr : ∀ n ∈ ns, 0 ≤ n ∧ n < 256 := by walk_at "ka") (hz : vs.length ≤ 1000 := by walk_at "ko") (hh : A.handled = none := by k_dflt rfl)
    (hQ : ∀ h' t k, Fr g L h' m → News g L h' news → Q (.bytes (byteArr ns) t) { s with heap := h', toks := k }) : wpAny (model prog w) A (call (.type "bytes") [.ref l]) Q E s :=
  call_bytes_ints (vs := vs) ⟨_, (N _ hm).1, rfl, n, rfl⟩ hi hr (by rw [sizeLine_eq]; omega) hh fun h' t k kk => hQ h' t k (frKept F kk) (newsKept N kk)
local macro_rules | `(tactic| walk_at "call type:bytes") => `(tactic| ((with_reducible refine' bytes_u (hQ := ?_)); intros))
set_option maxHeartbeats 8000000 in
theorem text_c {G : Heap} {P li : Addr} {us : List Value} {ns : List Int} {turn great n most : Nat} {t1 t2 mt : Tok} (B : Base w p loose mean mg mb G) (hk : Keeps G s.heap) (hG : G.get? P = none) (hA : Ok 4 A)
  (hP : s.heap.get? P = some (penO li turn great t1 t2 n)) (hli : s.heap.IsList li us.toArray) (hne : li ≠ P) (hi : IntsAre us ns) (hlen : ns.length ≤ 1000) (ht : turn + most ≤ 900)
  (hQ : ∀ (o : List UInt8) (tr : Tok) (turn' great' : Nat) (t1' t2' : Tok) h' tk', o.length ≤ most → turn' ≤ turn + 1 + most → KeepsBut P s.heap h' → h'.get? P = some (penO li turn' great' t1' t2' n) → Q (.bytes o.toArray tr) { s with heap := h', toks := tk' }) :
  wpAny (model prog w) A (call (.ref 142) [.ref P, .int most mt]) Q E s := by
  obtain ⟨ah, ad, af, ag, au⟩ := A
  obtain rfl : ah = none := hA.h
  refine' enterC (binds := [(Str.ofString "pen", .ref P), (Str.ofString "most", .int most mt)]) (B.keeps hk) ?k1 ?k2 ?k3 ?k4 ?k5 ?_ ?k6 ?k7 ?k8 ?k9
  walk_at "mine sidesC"
  intro L h₁ tk cells F N Y
  have Y' : CellsAre _ [(Str.ofString "pen", L + 1)] cells := Y
  obtain ⟨o1, rfl, d1⟩ := Y'.one
  have d1' : o1.data = .cell (some (.ref P)) := d1
  have F0 := frMap F (m' := fun y => if y = Str.ofString "most" then some (.int most mt) else none) (fun y => rfl)
  have hPL := pen_lt F hP
  have B' := B.keeps (keeps_hide hk hG)
  have KX := B'.k
  have T := B'.t
  have N0 := newsHideC F hP N
  have F' := frHide (P := P) F0
  have hli' : (s.heap.hide P).IsList li us.toArray := hli.at fun o e => hide_get hne e
  unfold penO at N0
  clear F F0 hP B hk hli N Y Y' d1
  walk_at "mine steps"
  refine Stop.out ?_
  (with_reducible rename Fr _ _ _ _ => F8)
  (with_reducible rename News _ _ _ _ => N9)
  refine LCg.CompSrc.range rfl F8 N9 (by assumption) (small_one (by omega) (by omega) (by omega) (by omega)) (rangeSize_zero _) ?_ ?_
  · rw [sizeLine_eq]; omega
  intro g'
  refine comp_indA (fun i ys news => Ex5 fun (ti gi : Nat) (u1 u2 : Tok) (is : List Int) => An5 (news = [(P, listOf [Value.ref li, .int ti u1, .int gi u2].toArray n), (L + 1, o1)]) (IntsAre ys is) (is.length = i) ((∀ x ∈ is, 0 ≤ x ∧ x < 256)) (ti ≤ turn + 1 + i)) ⟨_, _, _, _, [], rfl, .nil, rfl, (by intro x hx; cases hx), (by omega)⟩ ?_ ?_
  · rintro i ys news v J oJ C oC D m₂ h tk E' II hII hi' ⟨ti, gi, u1, u2, is, rfl, hys, hlen, his, hti⟩ ⟨tv, rfl⟩ hC hx F₂ N₂ off ne
    have nJ : J ≠ P := Ne.symm off.1.1
    have nC : C ≠ P := Ne.symm off.1.2.1
    have nD : D ≠ P := Ne.symm off.1.2.2
    clear ne
    walk_at "mine steps"
    refine Stop.out ?_
    (with_reducible rename News _ _ _ _ => N7)
    refine LCg.CompEnd.intro (by assumption) N7 [_, _] (fun q hq => hq) ⟨off.1, off.2⟩ trivial (hII _ _ ⟨_, _, _, _, is ++ [_], rfl, hys.append (.cons _ _ .nil), ?_, ?_, ?_⟩)
    · rw [List.length_append, hlen]; rfl
    · intro x hx
      rcases List.mem_append.mp hx with hx | hx
      · exact his x hx
      · rw [List.mem_singleton.mp hx]
        exact ⟨Int.natCast_nonneg _, by have := UInt8.toNat_lt ‹UInt8›; omega⟩
    · omega
  · rintro ys news ⟨ti, gi, u1, u2, is, rfl, hys, hlen, his, hti⟩
    intro D h tk F₁ N₁ off
    have nD : D ≠ P := Ne.symm off.1
    have hyl := hys.length
    walk_at "mine steps"
    (with_reducible rename Fr _ _ _ _ => F9)
    (with_reducible rename News _ _ _ _ => N9)
    exact hQ (is.map fun n => n.toNat.toUInt8) _ ti gi _ _ _ _ (by rw [List.length_map]; omega) (by omega) (keepsBut_of F9.keep) (N9 _ (.tail _ (.head _))).1
theorem text_u {g : Heap} {L : Addr} {m₀ : Str → Option Value} {news : Led} {gn : Obj → Led} {P li : Addr} {us : List Value} {ns : List Int} {turn great n most : Nat} {t1 t2 mt : Tok} (B : Base w p loose mean mg mb g) (F : Fr g L s.heap m₀) (N : News g L s.heap news) (hA : Ok 4 A)
  (U : UpdF P (penO li turn great t1 t2 n) news gn) (hli : s.heap.IsList li us.toArray) (hne : li ≠ P) (hi : IntsAre us ns) (hlen : ns.length ≤ 1000) (ht : turn + most ≤ 900)
  (hQ : ∀ (o : List UInt8) (tr : Tok) (turn' great' : Nat) (t1' t2' : Tok) h' tk', o.length ≤ most → turn' ≤ turn + 1 + most → Fr g L h' m₀ → News g L h' (gn (penO li turn' great' t1' t2' n)) → Q (.bytes o.toArray tr) { s with heap := h', toks := tk' }) :
  wpAny (model prog w) A (call (.ref 142) [.ref P, .int most mt]) Q E s := by
  obtain ⟨z1, z2⟩ := pen_before N U
  refine text_c B F.keep z1 hA z2 hli hne hi hlen ht fun o tr turn' great' t1' t2' h' tk' hv ht' k e => ?_
  obtain ⟨F', N', _⟩ := pen_after F N U k e
  exact hQ o tr turn' great' t1' t2' h' tk' hv ht' F' N'
end
end
section
section
variable {w : World} {p : Program} {loose : List Str} {mean : ExcName → Option Value} {mg mb : Str → Option Value} {A : Around} {s : Shared} {Q E : Value → Shared → Prop}
def MARKS : List (List UInt8) := [[44], [59], [44, 44], [44, 59], [66], [65, 44], [66, 65]]
theorem rot7 {x a b c d e f g : Addr × Obj} {tl : Led} : ∀ p ∈ a :: b :: c :: d :: e :: f :: g :: x :: tl, p ∈ x :: a :: b :: c :: d :: e :: f :: g :: tl := by walk_at "sb"
theorem freshHide {h h' : Heap} {P L : Addr} {nx all : Led} (N : News (h.hide P) L h' all) (hs : ∀ p ∈ nx, p ∈ all) (off : OwnOff nx [P]) : Fresh h h' nx := fun p hp => ⟨(N p (hs p hp)).1, by
  have h1 := (N p (hs p hp)).2.2
  rwa [Heap.hide_ne _ (off p hp P (.head _))] at h1⟩
set_option maxHeartbeats 8000000 in
theorem marks_c {G : Heap} {P li : Addr} {us : List Value} {ns : List Int} {turn great n : Nat} {t1 t2 : Tok} (B : Base w p loose mean mg mb G) (hk : Keeps G s.heap) (hG : G.get? P = none) (hA : Ok 4 A)
  (hP : s.heap.get? P = some (penO li turn great t1 t2 n)) (hli : s.heap.IsList li us.toArray) (hne : li ≠ P) (hi : IntsAre us ns) (hlen : ns.length ≤ 1000) (ht : turn ≤ 900)
  (hQ : ∀ (v : Value) (ms : List Mk) (nx : Led) (turn' great' : Nat) (t1' t2' : Tok) h' tk', Rd (InL nx) v (marksD ms) → (∀ m ∈ ms, m.1 ∈ MARKS) → ms.length ≤ 3 → turn' ≤ turn + 7 → Fresh s.heap h' nx → KeepsBut P s.heap h' → h'.get? P = some (penO li turn' great' t1' t2' n) → Q v { s with heap := h', toks := tk' }) :
  wpAny (model prog w) A (call (.ref 147) [.ref P]) Q E s := by
  obtain ⟨ah, ad, af, ag, au⟩ := A
  obtain rfl : ah = none := hA.h
  refine' enterC (binds := [(Str.ofString "pen", .ref P)]) (B.keeps hk) ?k1 ?k2 ?k3 ?k4 ?k5 ?_ ?k6 ?k7 ?k8 ?k9
  walk_at "mine sidesC"
  intro L h₁ tk cells F N Y
  have Y' : CellsAre _ [(Str.ofString "some", L + 2), (Str.ofString "pen", L + 1)] cells := Y
  obtain ⟨o1, o2, rfl, d1, d2⟩ := Y'.two
  have d1' : o1.data = .cell none := d1
  have d2' : o2.data = .cell (some (.ref P)) := d2
  have F0 := frMap F (m' := fun y => none) (fun y => rfl)
  have hPL := pen_lt F hP
  have B' := B.keeps (keeps_hide hk hG)
  have KX := B'.k
  have T := B'.t
  have N0 := newsHideC F hP N
  have F' := frHide (P := P) F0
  have hli' : (s.heap.hide P).IsList li us.toArray := hli.at fun o e => hide_get hne e
  unfold penO at N0
  clear F F0 B hk hli N Y Y' d1
  walk_at "mine steps"
  refine Stop.out ?_
  (with_reducible rename Fr _ _ _ _ => F8)
  (with_reducible rename News _ _ _ _ => N9)
  obtain ⟨ls, sv, os, ti0, gi0, w1, w2, N8, dS, hsl, hsv, hPl, hti0⟩ : Ex7 fun (ls : Addr) (sv : List Value) (os : Obj) (ti0 gi0 : Nat) (u1 u2 : Tok) => An6 (News (s.heap.hide P) L _ [(P, listOf [Value.ref li, .int ti0 u1, .int gi0 u2].toArray n), (ls, listOf sv.toArray 0), (L + 2, os), (L + 1, o2)]) (os.data = .cell (some (.ref ls))) (sv.length = 7) ((∀ v ∈ sv, Ex2 fun l t => An2 (v = .bytes (List.toArray l) t) (l ∈ MARKS))) (ls ≠ P) (ti0 ≤ turn + 1) := by
    refine ⟨_, [_, _, _, _, _, _, _], _, _, _, _, _, newsSub N9 (by intro q hq; simp only [List.mem_cons, List.not_mem_nil, or_false] at hq ⊢; rcases hq with rfl | rfl | rfl | rfl; (exact .inr (.inl rfl)); (exact .inl rfl); (exact .inr (.inr (.inl rfl))); (exact .inr (.inr (.inr rfl)))), by assumption, rfl, ?_, by (refine neN ?_; omega), by omega⟩
    intro v hv
    simp only [List.mem_cons, List.not_mem_nil, or_false] at hv
    rcases hv with rfl | rfl | rfl | rfl | rfl | rfl | rfl
    all_goals exact ⟨_, _, rfl, by decide⟩
  clear N9
  refine LCg.CompSrc.range rfl F8 N8 (by assumption) (small_one (by omega) (by omega) (by omega) (by omega)) (rangeSize_zero _) ?_ ?_
  · rw [sizeLine_eq]; omega
  intro g'
  refine comp_indA (fun i ys news => Ex6 fun (ti gi : Nat) (u1 u2 : Tok) (ms : List Mk) (tl : Led) => An6 (news = (P, listOf [Value.ref li, .int ti u1, .int gi u2].toArray n) :: (ls, listOf sv.toArray 0) :: (L + 2, os) :: (L + 1, o2) :: tl) (OwnOff tl [P]) (RdAll (InL tl) ys (ms.map mkD)) (ms.length = i) ((∀ m ∈ ms, m.1 ∈ MARKS)) (ti ≤ turn + 1 + 2 * i)) ⟨_, _, _, _, [], [], rfl, (by intro p hp; cases hp), .nil, rfl, (by intro x hx; cases hx), (by omega)⟩ ?_ ?_
  · rintro i ys news v J oJ C oC D m₂ h tk E' II hII hi' ⟨ti, gi, u1, u2, ms, tl, rfl, htl, hys, hml, hms, hti⟩ ⟨tv, rfl⟩ hC hx F₂ N₂ off ne
    have nJ : J ≠ P := Ne.symm off.1.1
    have nC : C ≠ P := Ne.symm off.1.2.1
    have nD : D ≠ P := Ne.symm off.1.2.2
    clear ne
    walk_at "mine steps"
    refine Stop.out ?_
    (with_reducible rename News _ _ _ _ => N7)
    (rename _ ∈ sv => hv')
    obtain ⟨lm, tm, rfl, hlm⟩ := hsv _ hv'
    refine' LCg.CompEnd.intro (by assumption) N7 (_ :: _ :: _ :: _ :: (_, tupO [Value.bytes lm.toArray tm, Value.bool ?bb].toArray _) :: tl) rot7 ⟨off.1, off.2.1, off.2.2.1, off.2.2.2.1, ⟨?o1, ?o2, ?o3⟩, off.2.2.2.2⟩ trivial (hII _ _ ⟨_, _, _, _, ms ++ [(lm, ?bb)], (_ :: tl), rfl, offCons ?o4 htl, ?_, ?_, ?_, ?_⟩)
    case o1 => refine neN ?_; dsimp only; omega
    case o2 => refine neN ?_; dsimp only; omega
    case o3 => refine neN ?_; dsimp only; omega
    case o4 => refine neN ?_; omega
    · rw [List.map_append]
      exact (hys.mono fun _ _ hm => .tail _ hm).append (.one (.tup (.head _) (.cons (.bytes _ _) (.cons (.bool _) .nil))))
    · rw [List.length_append, hml]; rfl
    · intro x hx
      rcases List.mem_append.mp hx with hx | hx
      · exact hms x hx
      · rw [List.mem_singleton.mp hx]; exact hlm
    · omega
  · rintro ys news ⟨ti, gi, u1, u2, ms, tl, rfl, htl, hys, hml, hms, hti⟩
    intro D h tk F₁ N₁ off
    have nD : D ≠ P := Ne.symm off.1
    walk_at "mine steps"
    refine hQ _ ms ((D, LCg.lst ys) :: tl) ti gi _ _ _ _ (.list (.head _) (hys.mono fun _ _ hm => .tail _ hm)) hms (by omega) (by omega) (freshHide N₁ ?_ ?_) (keepsBut_of F₁.keep) (N₁ _ (.tail _ (.head _))).1
    · intro q hq
      rcases List.mem_cons.mp hq with rfl | hq
      · exact .head _
      · exact .tail _ (.tail _ (.tail _ (.tail _ (.tail _ hq))))
    · exact offCons (Ne.symm off.1) htl
theorem fresh_apart {h h' : Heap} {P : Addr} {o : Obj} {nx : Led} (f : Fresh h h' nx) (hP : h.get? P = some o) : OwnOff nx [P] := fun p hp b hb e => by
  rw [List.mem_singleton.mp hb] at e
  have := (f p hp).2
  rw [e, hP] at this; cases this
theorem news_fresh {g h h' : Heap} {L : Addr} {m : Str → Option Value} {nx : Led} (F : Fr g L h m) (f : Fresh h h' nx) : News g L h' nx := fun p hp => by
  refine ⟨(f p hp).1, fun e => ?_, ?_⟩
  · obtain ⟨o, _, _, ho, _⟩ := F.ns
    have := (f p hp).2
    rw [e, ho] at this; cases this
  · cases q : g.get? p.1 with
    | none => rfl
    | some o => have := (f p hp).2; rw [F.keep _ _ q] at this; cases this
theorem marks_u {g : Heap} {L : Addr} {m₀ : Str → Option Value} {news : Led} {gn : Obj → Led} {P li : Addr} {us : List Value} {ns : List Int} {turn great n : Nat} {t1 t2 : Tok} (B : Base w p loose mean mg mb g) (F : Fr g L s.heap m₀) (N : News g L s.heap news) (hA : Ok 4 A)
  (U : UpdF P (penO li turn great t1 t2 n) news gn) (hli : s.heap.IsList li us.toArray) (hne : li ≠ P) (hi : IntsAre us ns) (hlen : ns.length ≤ 1000) (ht : turn ≤ 900)
  (hQ : ∀ (v : Value) (ms : List Mk) (nx : Led) (turn' great' : Nat) (t1' t2' : Tok) h' tk', Rd (InL nx) v (marksD ms) → (∀ m ∈ ms, m.1 ∈ MARKS) → ms.length ≤ 3 → turn' ≤ turn + 7 → OwnOff nx [P] → Fr g L h' m₀ → News g L h' (gn (penO li turn' great' t1' t2' n) ++ nx) → Q v { s with heap := h', toks := tk' }) :
  wpAny (model prog w) A (call (.ref 147) [.ref P]) Q E s := by
  obtain ⟨z1, z2⟩ := pen_before N U
  refine marks_c B F.keep z1 hA z2 hli hne hi hlen ht fun v ms nx turn' great' t1' t2' h' tk' hv hms hml ht' f k e => ?_
  obtain ⟨F', N', _⟩ := pen_after F N U k e
  refine hQ v ms nx turn' great' t1' t2' h' tk' hv hms hml ht' (fresh_apart f z2) F' fun q hq => ?_
  rcases List.mem_append.mp hq with hq | hq
  · exact N' q hq
  · exact news_fresh F f q hq
end
end
section
section
variable {w : World} {p : Program} {loose : List Str} {mean : ExcName → Option Value} {mg mb : Str → Option Value} {A : Around} {s : Shared} {Q E : Value → Shared → Prop}
set_option maxHeartbeats 8000000 in
theorem pen_c {l : Addr} {us : List Value} {ns : List Int} (B : Base w p loose mean mg mb s.heap) (hA : Ok 2 A) (hl : s.heap.IsList l us.toArray) (hi : IntsAre us ns) (hlen : ns.length ≤ 63)
  (hQ : ∀ P li (us' : List Value) (ns' : List Int) (t1 t2 : Tok) (n k : Nat) h' tk', Keeps s.heap h' → Fresh s.heap h' [(P, penO li 0 0 t1 t2 n), (li, listOf us'.toArray k)] → IntsAre us' ns' → ns'.length ≤ 48 → li ≠ P → Q (.ref P) { s with heap := h', toks := tk' }) :
  wpAny (model prog w) A (call (.ref 123) [.ref l]) Q E s := by
  obtain ⟨ah, ad, af, ag, au⟩ := A
  obtain rfl : ah = none := hA.h
  have KX := B.k
  have T := B.t
  refine' enter (binds := [(Str.ofString "script", .ref l)]) B ?k1 ?k2 ?k3 ?k4 ?k5 ?_ ?k6 ?k7 ?k8 ?k9
  walk_at "mine sides"
  intro L h₁ tkE F
  have N : News s.heap L h₁ [] := News.nil
  have husl : us.toArray.size = ns.length := by rw [List.size_toArray]; exact hi.length
  walk_at "mine steps"
  refine Stop.out ?_
  (with_reducible rename News _ _ _ _ => N9)
  (with_reducible rename Fr _ _ _ _ => F9)
  (with_reducible rename IntsAre _ (List.take 48 ns) => hi9)
  rename_i D9 ws9 _ _ _ _
  have hwl := hi9.length
  have htl : (List.take 48 ns).length ≤ 48 := List.length_take_le _ _
  refine LCg.CompSrc.ledger rfl F9 N9 (.head _) (by rw [List.size_toArray, sizeLine_eq]; omega) ?_
  intro g'
  refine comp_ind (fun i ys news => Ex1 fun (is : List Int) => An3 (news = [(D9, W.listOf ws9.toArray 0)]) (IntsAre ys is) (is.length = i)) ⟨[], rfl, .nil, rfl⟩ ?_ ?_
  · rintro i ys news v J oJ C oC D m₂ h tk E' hi' ⟨is, rfl, hys, hil⟩ hv hC hx F₂ N₂ off ne
    obtain ⟨z, t, rfl, hz⟩ := hi9.at i v (by simpa using hv)
    walk_at "mine steps"
    refine Stop.out ?_
    refine LCg.CompEnd.intro F₂ N₂ [_] (fun q hq => hq) off (.inr ⟨_, .head _, rfl, _, rfl⟩) ⟨is ++ [z], rfl, hys.append (.cons _ _ .nil), ?_⟩
    rw [List.length_append, hil]; rfl
  · rintro ys news ⟨is, rfl, hys, hil⟩
    intro D h tk F₁ N₁ off
    have off' := off
    simp only [LCg.Off1, and_true] at off'
    walk_at "mine steps"
    (with_reducible rename Fr _ _ _ _ => F9)
    (with_reducible rename News _ _ _ _ => N9)
    have hd := (N9 _ (.tail _ (.head _))).1
    refine hQ _ D ys is tk (tk + 1) 0 ys.length _ _ (Fr.keep F9) (freshOf N9 fun q hq => ?_) hys ?_ ?_
    · simp only [List.mem_cons, List.not_mem_nil, or_false] at hq ⊢
      rcases hq with rfl | rfl
      · exact .inl rfl
      · exact .inr (.inl rfl)
    · rw [hil, List.size_toArray]; omega
    · refine neN ?_; omega
end
end
section
open PySem PySem.W PySem.Calls PyProof.Rows
open PySem.Sem (wp)
/-- what stands behind the class of the fault -/
abbrev tailF : List Value := [.ref 40, .type "Exception", .type "BaseException", .type "object"]
def IsF (h : Heap) : Prop := ∃ nm q bs hdct sn sub ab col dd k0 k1 k2 k3 k5, h.get? 53 = some (excClassObj nm q 53 52 bs tailF hdct sn sub ab col dd k0 k1 k2 k3 k5 "Exception.__new__") ∧ hdct = true
theorem isF_of {w : World} {g : Heap} (X : (hd.heap_1 w.params).In g) : IsF g := by
  exact ⟨_, _, _, _, _, _, _, _, _, _, _, _, _, _, X 53 _ (by k_is), rfl⟩
theorem init_of {w : World} {M : Model} {g : Heap} (X : (hd.heap_1 w.params).In g) : Looks M g (typeLookup (.ref 53) "__init__") (some (.ref 30)) := looks_findIn X (by k_is)
theorem fun_of {w : World} {M : Model} {g : Heap} {e : Addr} (X : (hd.heap_1 w.params).In g) : Looks M g (bindSpecial (.ref 30) (.ref e)) (.ref 30, [.ref e]) := bind_fn X _ (by k_is)
section
variable {prog : Program} {w : World} {A : Around} {R : Result → Shared → Prop} {E : Value → Shared → Prop} {h : Heap} {g : Array GenState} {d : Drawn} {t : Nat} {os : OsState}
variable {nm q : Str} {bs : List Value} {hdct : Bool} {sn : List Str} {sub : List Value} {ab : Bool} {col : Option Bool} {dd : Option Addr} {k0 k1 k2 k3 k5 : Option Value}
theorem has_f {X : String} {b : Bool} (e : tailF.contains (.type X) = b) : (Value.ref 53 :: tailF).contains (.type X) = b := by rw [List.contains_cons, e]; rfl
theorem newF {rest : List Value} (hC : h.get? 53 = some (excClassObj nm q 53 52 bs tailF hdct sn sub ab col dd k0 k1 k2 k3 k5 "Exception.__new__"))
    (hq : R (.ok (.ret (.ref (h.objs.size + 1)))) ⟨(h.push { cls := .type "tuple", data := .seq rest.toArray }).push
      { cls := .ref 53, data := .fields #[.ref h.objs.size, .none, .none, .none, .bool false, .none] }, g, d, t, os⟩) (hrest : rest.length ≤ sizeLine) :
    codeAny (model prog w) A (.call (.builtin "Exception.__new__") ⟨.ref 53 :: rest, []⟩) R ⟨h, g, d, t, os⟩ := by
  have F := PySem.F.excBase_Exception
  have hE := has_f (X := "Exception") (b := true) (by decide +kernel)
  have hA := has_f (X := "AttributeError") (b := false) (by decide +kernel)
  have hN := has_f (X := "NameError") (b := false) (by decide +kernel)
  have hstar := F.noStar
  have hends := F.ends
  refine codeAny_call_builtin_code (Code.quiet_builtin _ F.quiet) ?_
  simp only [checkBuiltinCall, F.newKind, F.newSplit, F.newRow]
  repeat (first | refine wpAny_loadPart_at hC ?_ | (refine wpAny_isSubtype_exc hC ?_; rw [hE]) | refine wpAny_staticBase_exc hC ?_ | refine wpAny_madeBy_exc hC ?_ | simp only [bne_self_eq_false, Bool.false_eq_true, if_false] | wp_step)
  refine codeAny_builtinAt F.entry ?_
  unfold Builtin.«BaseException.__new__»
  refine PySem.wpAt_bind ?_
  show PySem.wpAt _ _ _ (stack >>= _) _ _ _
  refine PySem.wpAt_bind (PySem.wpAt_stack fun p below => PySem.wpAt_of_wpAny ?_)
  wp_walk
  refine PySem.wpAt_of_wpAny ?_
  rw [F.owner]
  repeat (first | with_reducible refine wpAny_madeHere_exc F.canon hC ?_ | with_reducible refine wpAny_loadPart_at hC ?_ | (with_reducible refine wpAny_isSubtype_exc hC ?_; first | rw [hE] | rw [hA] | rw [hN]) | wp_step)
  show R _ _
  rw [Heap.size_push]
  exact hq
theorem typeCallF {rest : List Value} {Q : Fin → Shared → Prop} (X : (hd.heap_1 w.params).In h) (hrest : rest.length ≤ sizeLine)
    (hq : ∀ h' e, Heap.MadeExcOf h h' e (.ref 53) rest → wpAny (model prog w) A (call (.ref 30) (.ref e :: rest)) (fun r s' => r = .none ∧ Q (.done (.ret (.ref e))) s') E ⟨h', g, d, t, os⟩) :
    wpAny (model prog w) A (Builtin.«type.__call__» ⟨.ref 53 :: rest, []⟩) Q E ⟨h, g, d, t, os⟩ := by
  obtain ⟨nm, q, bs, hdct, sn, sub, ab, col, dd, k0, k1, k2, k3, k5, hC, _⟩ := isF_of X
  repeat (first | with_reducible refine wpAny_loadPart_at hC ?_ | with_reducible refine wpAny_madeBy_exc hC ?_ | wp_step)
  refine newF hC ?_ hrest
  show wpAny _ _ _ _ _ _
  have k2 : Keeps h ((h.push { cls := .type "tuple", data := .seq rest.toArray }).push { cls := .ref 53, data := .fields #[.ref h.objs.size, .none, .none, .none, .bool false, .none] }) := fun b o e => Heap.get?_push_of_some _ (Heap.get?_push_of_some _ e)
  have hC1 := k2 _ _ hC
  have hget : ((h.push { cls := .type "tuple", data := .seq rest.toArray }).push
      { cls := .ref 53, data := .fields #[.ref h.objs.size, .none, .none, .none, .bool false, .none] }).get? (h.objs.size + 1) = some
      { cls := .ref 53, data := .fields #[.ref h.objs.size, .none, .none, .none, .bool false, .none] } := by heap_get
  have hcC : (Value.ref 53 :: tailF).contains (.ref 53) = true := by simp
  unfold isInstance
  repeat (first | with_reducible refine wpAny_loadPart_at hget ?_ | (with_reducible refine wpAny_isSubtype_exc hC1 ?_; rw [hcC]) | wp_step)
  show wpAny _ _ (typeLookup (.ref 53) _) _ _ _
  refine (init_of (X.keeps k2)).here ?_
  refine wpAny_holding (wpAny_bind ((fun_of (X.keeps k2)).here ?_))
  refine wpAny_bind (wpAny_mono (hq _ (h.objs.size + 1) ⟨k2, Heap.get?_none_of_le (Nat.le_succ _), h.objs.size, hget, Heap.get?_none_of_le (Nat.le_refl _), ?_⟩) (fun r s' hr => ?_) fun _ _ x => x)
  · exact Heap.get?_push_of_some _ (Heap.get?_push_at rfl rfl)
  · obtain ⟨rfl, hQ⟩ := hr
    wp_walk
    exact hQ
theorem callF {rest : List Value} {Q : Value → Shared → Prop} (X : (hd.heap_1 w.params).In h) (hrest : rest.length ≤ sizeLine)
    (hq : ∀ h' e, Heap.MadeExcOf h h' e (.ref 53) rest → wpAny (model prog w) (A.under (.builtin "type.__call__" ⟨.ref 53 :: rest, []⟩)) (call (.ref 30) (.ref e :: rest)) (fun r s' => r = .none ∧ Q (.ref e) s') E ⟨h', g, d, t, os⟩) :
    wpAny (model prog w) A (call (.ref 53) rest) Q E ⟨h, g, d, t, os⟩ := by
  obtain ⟨nm, q, bs, hdct, sn, sub, ab, col, dd, k0, k1, k2, k3, k5, hC, _⟩ := isF_of X
  have f1 := tc_lookup
  have f2 := tc_bind (.ref 53)
  have hT : (⟨h, g, d, t, os⟩ : Shared).TypeIs (.ref 53) "type" := ⟨_, hC, rfl⟩
  refine wpAny_call (codeAny_of_tree ?_)
  show wpAny _ _ (callAny (.ref 53) _) _ _ _
  repeat (any_goals (first | assumption | with_reducible refine wpAny_loadPart_at hC ?_ | wp_step))
  refine ⟨rfl, ?_⟩
  refine codeAny_call_builtin_at (Code.quiet_builtin _ (by decide +kernel)) entry_typeCall (wpAny_check_type_call_sub hC (typeCallF X hrest fun h' e hm => ?_))
  exact hq h' e hm
end
end
section
open PySem PySem.W PySem.Calls PyProof.Rows
open Builtin Builtin.ObjectAttr
theorem noWhat {w : World} : findIn (hd.heap_1 w.params) (.ref 53) (Str.ofString "what") = some none := by k_is
theorem noAt {w : World} : findIn (hd.heap_1 w.params) (.ref 53) (Str.ofString "at") = some none := by k_is
theorem setIs {w : World} : findIn (hd.heap_1 w.params) (.ref 53) (Str.ofString "__setattr__") = some (some (.builtin "object.__setattr__")) := by k_is
section
variable {prog : Program} {w : World} {A : Around} {R : Result → Shared → Prop} {E : Value → Shared → Prop} {h : Heap} {g : Array GenState} {d : Drawn} {t : Nat} {os : OsState}
theorem storeF {x : Addr} {o : Obj} {mA : Str → Option Value} {ns : List Str} {name : Str} {v : Value} {tk : Tok} {Q : Fin → Shared → Prop} (X : (hd.heap_1 w.params).In h) (hf : findIn (hd.heap_1 w.params) (.ref 53) name = some none)
    (hx : h.get? x = some o) (hc : o.cls = .ref 53) (hnc : ∀ c, o.data ≠ .cls c) (hdct : (o.dict = none ∧ ∀ n, mA n = none) ∨ ∃ d, o.dict = some d ∧ d ≠ x ∧ h.Ns1 d mA) (hw : PySem.Within mA ns) (hsz : ns.length ≤ 100)
    (hq : ∀ h' tk' o' d', h'.get? x = some o' → o'.cls = o.cls → o'.data = o.data → o'.dict = some d' → d' ≠ x → (o.dict = some d' ∨ h.get? d' = none) → h'.Ns1 d' (fun y => if y = name then some v else mA y) →
      (∀ b ob, b ≠ x → b ≠ d' → h.get? b = some ob → h'.get? b = some ob) → Q (.done (.ret .none)) ⟨h', g, d, tk', os⟩) :
    wpAny (model prog w) A (Builtin.«object.__setattr__» ⟨[.ref x, .str name tk, v], []⟩) Q E ⟨h, g, d, t, os⟩ := by
  obtain ⟨nm, q, bs, hdct', sn, sub, ab, col, dd, k0, k1, k2, k3, k5, hC, rfl⟩ := isF_of X
  have hpass := PySem.F.store_Exception.passes (.ref x)
  have hl := looks_findIn (M := model prog w) X hf
  unfold Builtin.«object.__setattr__»
  repeat (first | rw [refuse_eq] | (rw [refuseLoop_ref, refuseLoop_ref, hpass]) | (with_reducible refine wpAny_loadPart_at hx ?_; rw [hc]) | with_reducible refine wpAny_mroOf_exc hC ?_ | with_reducible refine hl.here ?_ | wp_step)
  rcases hdct with ⟨hdn, hmA⟩ | ⟨dx, hdx, hne, hns⟩
  · rw [hdn]
    dsimp only
    rw [if_neg (by simp [typeHasDict])]
    have go : wpAny (model prog w) A (do
          let d ← alloc { cls := Value.type "dict", data := Data.dict #[] }
          update x fun o => { cls := o.cls, dict := some d, data := o.data, slots := o.slots }
          dictMade (Value.ref 53) x d)
        (fun a s' => wpAny (model prog w) A (match a with
          | some d => storeInDict d (Value.str name tk) name v
          | none => noDictFor (Value.ref x) (Value.ref 53) name (none : Option Value).isSome) Q E s') E ⟨h, g, d, t, os⟩ := by
      have hx1 : (h.push { cls := .type "dict", data := .dict #[] }).get? x = some o := Heap.get?_push_of_some _ hx
      have hxs : x ≠ h.objs.size := Nat.ne_of_lt (Heap.lt_size hx)
      refine wpAny_bind (wpAny_alloc' ?_)
      refine wpAny_bind (wpAny_update' hx1 ?_)
      refine wpAny_pure ?_
      have hgd : ((h.push { cls := .type "dict", data := .dict #[] }).update x fun o => { cls := o.cls, dict := some h.objs.size, data := o.data, slots := o.slots }).get? h.objs.size
          = some { cls := .type "dict", data := .dict #[] } :=
        (Heap.get?_update_ne _ _ _ _ hxs.symm).trans (Heap.get?_push_at rfl rfl)
      have hnd : ((h.push { cls := .type "dict", data := .dict #[] }).update x fun o => { cls := o.cls, dict := some h.objs.size, data := o.data, slots := o.slots }).Ns h.objs.size (fun _ => none) :=
        ⟨_, #[], _, hgd, rfl, fun e he => absurd he (by simp), fun _ => rfl⟩
      show wpAny _ _ (storeInDict h.objs.size (.str name tk) name v) _ _ _
      unfold storeInDict newKeyGuard
      refine wpAny_bind (wpAny_pure (wpAny_bind (wpAny_nsSet1 (Heap.Ns1.of_empty hnd) fun h' hn' hs => ?_)))
      obtain ⟨oD, esD, epD, hoD, hdD, hcD⟩ := hn'.count (PySem.Within.cons name v PySem.Within.nil)
      refine wpAny_bind (wpAny_lookBehind hoD (by rw [hdD]; exact pastItsLine_dict (Nat.le_trans hcD (by rw [List.length_cons, List.length_nil, sizeLine_eq]; omega))) ?_)
      wp_walk
      have hx' : h'.get? x = some { cls := o.cls, dict := some h.objs.size, data := o.data, slots := o.slots } := by
        refine (hs.2 x hxs).trans (Heap.get?_update_self _ hx1 ?_)
        have hfr := (Heap.get?_some_iff.mp hx).2
        obtain ⟨oc, od, odt, osl⟩ := o
        cases odt <;> first | rfl | exact hfr
      refine hq h' _ _ h.objs.size hx' rfl rfl rfl hxs.symm (.inr (Heap.get?_none_of_le (Nat.le_refl _))) ?_ fun b ob hbx hbd hb => ?_
      · obtain ⟨o', es, ep, e1, e2, e3, eu, e4⟩ := hn'
        exact ⟨o', es, ep, e1, e2, e3, eu, fun y => by rw [e4 y]; by_cases hy : y = name <;> simp [hy, hmA]⟩
      · exact (hs.2 b hbd).trans ((Heap.get?_update_ne _ _ _ _ hbx).trans (Heap.get?_push_of_some _ hb))
    split
    · rename_i c hcd
      exact absurd hcd (hnc c)
    · exact go
  · rw [hdx]
    refine wpAny_pure ?_
    show wpAny _ _ (storeInDict dx (.str name tk) name v) _ _ _
    unfold storeInDict newKeyGuard
    refine wpAny_bind (wpAny_pure (wpAny_bind (wpAny_nsSet1 hns fun h' hn' hs => ?_)))
    obtain ⟨oD, esD, epD, hoD, hdD, hcD⟩ := hn'.count (PySem.Within.cons name v hw)
    refine wpAny_bind (wpAny_lookBehind hoD (by rw [hdD]; exact pastItsLine_dict (Nat.le_trans hcD (by rw [List.length_cons, sizeLine_eq]; omega))) ?_)
    wp_walk
    exact hq h' _ o dx ((hs.2 x hne.symm).trans hx) rfl rfl hdx hne (.inl hdx) hn' fun b ob _ hbd hb => (hs.2 b hbd).trans hb
theorem setF {x : Addr} {o : Obj} {mA : Str → Option Value} {ns : List Str} {name : Str} {v : Value} {s : Shared} {Q : Unit → Shared → Prop} (X : (hd.heap_1 w.params).In s.heap) (hf : findIn (hd.heap_1 w.params) (.ref 53) name = some none)
    (hx : s.heap.get? x = some o) (hc : o.cls = .ref 53) (hnc : ∀ c, o.data ≠ .cls c) (hdct : (o.dict = none ∧ ∀ n, mA n = none) ∨ ∃ d, o.dict = some d ∧ d ≠ x ∧ s.heap.Ns1 d mA) (hw : PySem.Within mA ns) (hsz : ns.length ≤ 100)
    (hq : ∀ h' tk' o' d', h'.get? x = some o' → o'.cls = o.cls → o'.data = o.data → o'.dict = some d' → d' ≠ x → (o.dict = some d' ∨ s.heap.get? d' = none) → h'.Ns1 d' (fun y => if y = name then some v else mA y) →
      (∀ b ob, b ≠ x → b ≠ d' → s.heap.get? b = some ob → h'.get? b = some ob) → Q () { s with heap := h', toks := tk' }) :
    wpAny (model prog w) A (setAttr (.ref x) name v) Q E s := by
  have hty : Looks (model prog w) s.heap (typeOf (.ref x)) (.ref 53) := by
    have := (Looks.ld (M := model prog w) (part := none) hx).andThen (f := fun o => pure o.cls) (b := .ref 53) (by rw [hc]; exact .now)
    exact this
  have SF := PySem.F.store_Exception
  have hsub : Looks (model prog w) s.heap (isInstance (.ref x) (.type "object")) true := hty.andThen (looks_mroIn X (by k_is))
  refine wpAny_bind (wpAny_mkText (wpAny_bind (wpAny_bind (wpAny_bind (hty _ _ _ _ (fun _ _ e => e) (looks_findIn X setIs _ _ _ _ (fun _ _ e => e) (wpAny_holding ?_)))))))
  rw [SF.slot.bind]
  refine wpAny_bind (wpAny_pure (wpAny_bind (wpAny_call ?_)))
  obtain ⟨h, g, d, t, os⟩ := s
  refine codeAny_call_builtin SF.slot.plain SF.entry (check_slot (i := "object.__setattr__") (owner := "object") (n := "__setattr__") (self := .ref x) (kw := []) SF.kind SF.split hsub (SF.args _ _ _) (storeF X hf hx hc hnc hdct hw hsz fun h' tk' o' d' e1 e2 e3 e4 e5 e6 e7 e8 => ?_))
  exact wpAny_pure (wpAny_pure (hq h' tk' o' d' e1 e2 e3 e4 e5 e6 e7 e8))
end
end
section
open PySem PySem.W PySem.Calls PyProof.Rows
section
variable {prog : Program} {w : World} {A : Around} {R : Result → Shared → Prop} {E : Value → Shared → Prop} {h : Heap} {g : Array GenState} {d : Drawn} {t : Nat} {os : OsState}
theorem excInit {e : Addr} {o : Obj} {vs : Array Value} {rest : List Value} {Q : Value → Shared → Prop} (X : (hd.heap_1 w.params).In h) (he : h.get? e = some o) (hc : o.cls = .ref 53) (hd : o.data = .fields vs) {t0 : Addr} (hv0 : vs[0]? = some (.ref t0)) (hrest : rest.length ≤ 100)
    (hq : ∀ h' t' o', (∀ b ob, b ≠ e → h.get? b = some ob → h'.get? b = some ob) → h'.get? e = some o' → o'.cls = .ref 53 → o'.dict = o.dict → o'.data = .fields (vs.setIfInBounds 0 (.ref t')) → Q .none ⟨h', g, d, t, os⟩) :
    wpAny (model prog w) A (call (.builtin "Exception.__init__") (.ref e :: rest)) Q E ⟨h, g, d, t, os⟩ := by
  obtain ⟨nm, q, bs, hdct, sn, sub, ab, col, dd, k0, k1, k2, k3, k5, hC, _⟩ := isF_of X
  have F := PySem.F.excBase_Exception
  have hE := has_f (X := "Exception") (b := true) (by decide +kernel)
  have hshort := F.noStar
  have hrest' : rest.length ≤ sizeLine := by rw [sizeLine_eq]; omega
  refine wpAny_call (codeAny_call_builtin F.init.plain F.initEntry ?_)
  simp only [checkBuiltinCall, F.initKind, F.initSplit, F.initRow]
  repeat (first | (with_reducible refine wpAny_loadPart_at he ?_; rw [hc]) | with_reducible refine wpAny_loadPart_at hC ?_ | (with_reducible refine wpAny_isSubtype_exc hC ?_; rw [hE]) | wp_step)
  refine wpAny_onRaise ?_
  rw [show ∀ (a b : String) (n : Nat), Bind.check ⟨.positional, "*", "Exception", .self, [⟨"args", .varPos, false⟩]⟩ a b n (List.map (fun x => x.fst) ({ pos := Value.ref e :: rest } : Args).kw) = pure () from
    fun a b n => check_star_args _ _ _ _ _ _]
  refine wpAny_pure ?_
  wp_walk
  rw [hd]
  refine wpAny_pure ?_
  have hv : 0 < vs.size := (Array.getElem?_eq_some_iff.mp hv0).1
  rw [hv0]
  refine wpAny_pure ?_
  have he1 : (h.push { cls := Value.type "tuple", data := Data.seq rest.toArray }).get? e = some o := Heap.get?_push_of_some _ he
  refine wpAny_bind (wpAny_setField he1 hd hv ?_)
  show wpAny _ _ (letGo _) _ _ _
  refine wpAny_letGo ?_
  wp_walk
  have hd3 := Obj.data_mapFields hd (·.setIfInBounds 0 (Value.ref h.objs.size))
  refine hq _ h.objs.size _ (fun b ob hb hbo => ?_) (Heap.get?_update_self _ he1 (Obj.isFreed_of_fields hd3)) ((Obj.cls_mapFields _ _).trans hc) ?_ hd3
  · rw [Heap.get?_update_other _ _ (Ne.symm hb)]
    exact Heap.get?_push_of_some _ hbo
  · obtain ⟨oc, od, odt, osl⟩ := o
    cases odt <;> rfl
end
end
section
theorem excInitFound {w : World} : findCls (hd.heap_1 w.params) (.type "Exception") (.type "type") (PySem.Str.ofString "__init__") = some (.val (.builtin "Exception.__init__")) := by k_is
theorem getExcInit {w : World} {prog : Program} {A : Around} {s : Shared} {E : Value → Shared → Prop} {pl : Sem Bool} {Q : Value × List Value → Shared → Prop} (X : (hd.heap_1 w.params).In s.heap)
    (h : Q (.builtin "Exception.__init__", []) { s with toks := s.toks + 1 }) :
    wpAny (model prog w) A (getMethod (.type "Exception") (PySem.Str.ofString "__init__") pl) Q E s := by
  have hstub : opaqueClassAbove (.type "Exception") = pure none := by unfold opaqueClassAbove; dsimp only; rw [show Manifest.isStub "Exception" = false by decide +kernel]; rfl
  have ht : typeOf (.type "Exception") = pure (.type "type") := by first | rfl | kernel_rfl
  have L0 : Looks (model prog w) s.heap (typeOf (.type "Exception")) (.type "type") := Looks.of_pure ht
  have hg : findIn (hd.heap_1 w.params) (.type "type") "__getattribute__" = some (some (.builtin "type.__getattribute__")) := by k_is
  unfold getMethod specialOf
  refine wpAny_bind (wpAny_bind (L0.here ((looks_findIn X hg).here ?_)))
  dsimp only
  rw [if_pos canon_tga]
  refine wpAny_bind (wpAny_mono (Q := fun v => Q (v, [])) (E := E) ?_ (fun _ _ z => wpAny_pure z) fun _ _ z => z)
  have LO : Looks (model prog w) s.heap (opaqueClassAbove (.type "Exception")) none := Looks.of_pure hstub
  refine cls_open X LO L0 hg (looks_hook X (r := none) (by rfl)) (by show subIn _ _ _ = _; rfl) excInitFound ?_
  exact wpAny_pure (wpAny_pure h)
section
variable {w : World} {p : Program} {loose : List Str} {mean : ExcName → Option Value} {mg mb : Str → Option Value} {A : Around} {s : Shared} {Q E : Value → Shared → Prop}
local macro_rules | `(tactic| walk_at "getMethod type:Exception") => `(tactic| (k_here; k_dflt (refine' getExcInit ?X ?_; (case X => exact Frag.In.keeps (by k_asm) (Fr.keep (by k_asm))))))
local macro_rules | `(tactic| walk_at "setAttr ref") => `(tactic| refine Stop.mk ?_)
local macro_rules | `(tactic| walk_at "call builtin:Exception.__init__") => `(tactic| refine Stop.mk ?_)
theorem frTwo {g h h' : Heap} {L e d : Addr} {m : Str → Option Value} (F : Fr g L h m) (he : e ≠ L ∧ g.get? e = none) (hd : d ≠ L ∧ g.get? d = none) (k : ∀ b ob, b ≠ e → b ≠ d → h.get? b = some ob → h'.get? b = some ob) : Fr g L h' m :=
  ⟨F.ns.at fun o q => k _ _ (Ne.symm he.1) (Ne.symm hd.1) q, fun b o q => k _ _ (fun z => by rw [z, he.2] at q; cases q) (fun z => by rw [z, hd.2] at q; cases q) (F.keep _ _ q), F.above⟩
theorem new_off {g h : Heap} {L d : Addr} {m : Str → Option Value} (F : Fr g L h m) (hd : h.get? d = none) : d ≠ L ∧ g.get? d = none := by
  refine ⟨fun e => ?_, ?_⟩
  · obtain ⟨o, _, _, ho, _⟩ := F.ns
    rw [e, ho] at hd; cases hd
  · cases q : g.get? d with
    | none => rfl
    | some o => rw [F.keep _ _ q] at hd; cases hd
set_option maxHeartbeats 8000000 in
theorem initF {G : Heap} {e : Addr} {o : Obj} {vs : Array Value} {t0 : Addr} {m : Str} {mt : Tok} (B : Base w p loose mean mg mb G) (hk : Keeps G s.heap) (hG : G.get? e = none) (hA : Ok 1 A)
  (he : s.heap.get? e = some o) (hc : o.cls = .ref 53) (hd : o.data = .fields vs) (hv0 : vs[0]? = some (.ref t0)) (hdn : o.dict = none)
  (hQ : ∀ h' tk' o' t', KeepsBut e s.heap h' → h'.get? e = some o' → o'.cls = .ref 53 → o'.data = .fields (vs.setIfInBounds 0 (.ref t')) → Q .none { s with heap := h', toks := tk' }) :
  wpAny (model prog w) A (call (.ref 30) [.ref e, .str m mt]) Q E s := by
  obtain ⟨ah, ad, af, ag, au⟩ := A
  obtain rfl : ah = none := hA.h
  have Bs := B.keeps hk
  refine' enter (binds := [(Str.ofString "self", .ref e), (Str.ofString "what", .str m mt), (Str.ofString "at", .ref 22)]) (B.keeps hk) ?k1 ?k2 ?k3 ?k4 ?k5 ?_ ?k6 ?k7 ?k8 ?k9
  case k1 => exact Ok.room (by assumption)
  case k2 => k_is
  case k3 => k_is
  case k4 => exact BindsTo.of_defaults (T := 23) rfl (Bs.k 23 _ (by k_is)) rfl rfl rfl
  case k5 => exact locs rfl
  case k6 => rfl
  case k7 => rfl
  case k8 => rfl
  case k9 => decide
  intro L h₁ tkE F
  have B' := B.keeps (keeps_hide hk hG)
  have KX := B'.k
  have T := B'.t
  have N := newsHide F he
  have F' := frHide (P := e) F
  clear F he B hk Bs
  walk_at "mine steps"
  have heL : e ≠ L ∧ (s.heap.hide e).get? e = none := (N _ (.head _)).2
  refine Stop.out ?_
  refine excInit (KX.keeps F'.keep) (N _ (.head _)).1 hc hd hv0 (by simp) fun h2 t2 o2 k2 e2 c2 dn2 d2 => ?_
  have F2 := frTwo F' heL heL fun b ob h1 _ => k2 b ob h1
  have N2 : News (s.heap.hide e) L h2 [(e, o2)] := fun q hq => by rw [List.mem_singleton.mp hq]; exact ⟨e2, heL⟩
  clear F' N k2
  walk_at "mine steps"
  refine Stop.out ?_
  (with_reducible rename Fr _ _ _ _ => F3)
  refine setF (KX.keeps F3.keep) noWhat e2 c2 (fun c q => by rw [d2] at q; cases q) (.inl ⟨dn2.trans hdn, fun _ => rfl⟩) PySem.Within.nil (by simp) fun h3 tk3 o3 x3 e3 c3 d3 dx3 ne3 fr3 ns3 k3 => ?_
  have hx3 : x3 ≠ L ∧ (s.heap.hide e).get? x3 = none := new_off F3 (fr3.elim (fun q => by rw [dn2.trans hdn] at q; cases q) id)
  have F4 := frTwo F3 heL hx3 k3
  have N4 : News (s.heap.hide e) L h3 [(e, o3)] := fun q hq => by rw [List.mem_singleton.mp hq]; exact ⟨e3, heL⟩
  clear F3 N2 k3
  walk_at "mine steps"
  refine Stop.out ?_
  (with_reducible rename Fr _ _ _ _ => F5)
  refine setF (KX.keeps F5.keep) noAt e3 (c3.trans c2) (fun c q => by rw [d3, d2] at q; cases q) (.inr ⟨x3, dx3, ne3, ns3⟩) (PySem.Within.cons _ _ PySem.Within.nil) (by simp) fun h4 tk4 o4 x4 e4 c4 d4 dx4 ne4 fr4 ns4 k4 => ?_
  have hx4 : x4 ≠ L ∧ (s.heap.hide e).get? x4 = none := by
    rcases fr4 with q | q
    · rw [dx3] at q; cases q; exact hx3
    · exact new_off F5 q
  have F6 := frTwo F5 heL hx4 k4
  have N6 : News (s.heap.hide e) L h4 [(e, o4)] := fun q hq => by rw [List.mem_singleton.mp hq]; exact ⟨e4, heL⟩
  clear F5 N4 k4
  walk_at "mine steps"
  exact hQ _ _ o4 t2 (keepsBut_of F6.keep) e4 (c4.trans (c3.trans c2)) (d4.trans (d3.trans d2))
end
end
section
section
variable {w : World} {p : Program} {loose : List Str} {mean : ExcName → Option Value} {mg mb : Str → Option Value} {A : Around} {s : Shared} {Q E : Value → Shared → Prop}
theorem tc_weight (a : Args) : (Code.builtin "type.__call__" a).weight ≤ 2 := by
  have h1 : (Code.builtin "type.__call__" a).frames = 0 := by first | rfl | kernel_rfl
  have h2 : (Code.builtin "type.__call__" a).isGuard = false := by first | rfl | kernel_rfl
  have h3 : (Code.builtin "type.__call__" a).isCaller = false := by first | rfl | kernel_rfl
  unfold Code.weight
  rw [h1, h2, h3]
  split <;> simp
theorem tc_units (a : Args) : (Code.builtin "type.__call__" a).cUnits ≤ 10 := by
  have h1 : (Code.builtin "type.__call__" a).frames = 0 := by first | rfl | kernel_rfl
  show 1 + 3 * (Code.builtin "type.__call__" a).frames ≤ 10
  rw [h1]; decide
theorem Ok.tc {a : Args} (o : Ok 3 A) : Ok 1 (A.under (.builtin "type.__call__" a)) :=
  ⟨o.h, by have := o.d; have := tc_weight a; show A.depth + (Code.builtin "type.__call__" a).weight + 1 ≤ 900; omega, by have := o.u; have := tc_units a; show A.units + (Code.builtin "type.__call__" a).cUnits + 200 ≤ 9000; omega⟩
theorem faultF {m : Str} {mt : Tok} (B : Base w p loose mean mg mb s.heap) (hA : Ok 3 A)
    (hQ : ∀ e o vs t' h' tk', Keeps s.heap h' → s.heap.get? e = none → h'.get? e = some o → o.cls = .ref 53 → o.data = .fields vs → vs[0]? = some (.ref t') → vs[1]? = some .none → Q (.ref e) { s with heap := h', toks := tk' }) :
    wpAny (model prog w) A (call (.ref 53) [.str m mt]) Q E s := by
  obtain ⟨h, g, d, t, os⟩ := s
  refine callF B.k (by rw [sizeLine_eq]; simp) fun h' e hm => ?_
  obtain ⟨t', he, ht', _⟩ := hm.there
  refine initF (s := ⟨h', g, d, t, os⟩) B hm.keeps hm.new (Ok.tc hA) he rfl rfl rfl rfl fun h2 tk2 o2 t2 k2 e2 c2 d2 => ?_
  refine ⟨rfl, hQ e o2 _ t2 h2 tk2 (fun b ob q => k2 b ob (fun z => ?_) (hm.keeps _ _ q)) hm.new e2 c2 d2 (by simp) (by simp)⟩
  have := hm.new
  rw [← z, q] at this; cases this
theorem raiseF {M : Model} {env : Env} {ex : PySem.Expr} {pos : Pos} {Q : Flow → Shared → Prop} (hh : A.handled = none)
    (h : wpAny M A (eval ex env) (fun v s₁ => ∃ e o, v = .ref e ∧ IsF s₁.heap ∧ s₁.heap.get? e = some o ∧ o.cls = .ref 53 ∧ (∃ vs, o.data = .fields vs ∧ vs[1]? = some .none) ∧ E (.ref e) s₁) E s) :
    wpAny M A (exec (.Raise (some ex) none pos) env) Q E s := by
  rw [arm_exec_Raise]
  refine wpAny_bind (wpAny_standAt ?_)
  have hE := has_f (X := "BaseException") (b := true) (by decide +kernel)
  unfold raiseStmt
  refine wpAny_bind (wpAny_mono (wpAny_bind (wpAny_mono h (fun v s₁ h₁ => wpAny_bind (wpAny_standAt (wpAny_pure h₁))) fun _ _ x => x)) (fun v s₁ h₁ => ?_) fun _ _ x => x)
  obtain ⟨e, o, rfl, ⟨nm, q, bs, hdct, sn, sub, ab, col, dd, k0, k1, k2, k3, k5, hC, _⟩, he, hc, ⟨vs, hd, h1⟩, hE'⟩ := h₁
  obtain ⟨hp, g, d, tk, os⟩ := s₁
  repeat (first | (with_reducible refine wpAny_loadPart_at he ?_; rw [hc]) | with_reducible refine wpAny_loadPart_at hC ?_ | (with_reducible refine wpAny_isSubtype_exc hC ?_; rw [hE]) | wp_step)
  rw [hd]
  refine wpAny_pure ?_
  rw [h1]
  refine wpAny_pure ?_
  rw [if_neg (by simp)]
  refine wpAny_pure ?_
  exact wpAny_raiseNew_none hh hE'
end
end
section
section
variable {w : World} {p : Program} {loose : List Str} {mean : ExcName → Option Value} {mg mb : Str → Option Value} {A : Around} {s : Shared} {Q E : Value → Shared → Prop}
def Flies (base : Heap) (l : List Env) (s : Shared) (E : Value → Shared → Prop) : Prop := ∀ e a0 h' tk', Heap.FlyingW base l e (.ref 53) a0 h' → s.heap.UpToSlots h' → E (.ref e) { s with heap := h', toks := tk' }
/-- an exception that is about to leave a frame -/
def Leaves (base : Heap) (l : List Env) (s : Shared) (v : Value) (s' : Shared) : Prop := Ex3 fun e h' tk' => An4 (v = .ref e) (s' = { s with heap := h', toks := tk' }) (s.heap.UpToSlots h') (((∃ a0, Heap.FlyingW base l e (.ref 53) a0 h') ∨
  (Keeps base h' ∧ base.get? e = none ∧ h'.FunFrames base l ∧ Ex3 fun o vs t' => An5 (h'.get? e = some o) (o.cls = .ref 53) (o.data = .fields vs) (vs[0]? = some (.ref t')) (vs[1]? = some .none))))
theorem leaves_leave {M : Model} {base : Heap} {env : Env} {l : List Env} {L : Addr} {v : Value} {s' : Shared} {E' : Value → Shared → Prop} (hfr : A.frames = some l) (hf : env.frame = some L) (x : Leaves base (env :: l) s v s') (hE : Flies base l s E) :
    wpAny M (A.deeper env) (leaving env v) (fun _ s'' => E v s'') E' s' := by
  obtain ⟨e, h', tk', rfl, rfl, u, x⟩ := x
  rcases x with ⟨a0, f⟩ | ⟨k, hn, hl, o, vs, t', ho, hc, hd, h0, h1⟩
  · exact wpAny_leaves_onW (Around.frames_deeper hfr) hf f fun h2 f2 u2 => hE e a0 h2 tk' f2 (u.trans u2)
  · refine wpAny_leaving_firstW (Around.frames_deeper hfr) hl hf ho k hn hd h1 h0 fun h2 hL => ?_
    obtain ⟨k1, ⟨_, _, k2⟩, k3, k4⟩ := hL
    rw [hc] at k3
    exact hE e _ h2 tk' ⟨k1, hn, k2, k3⟩ (u.trans k4)
abbrev Raw (M : Model) (A : Around) (env : Env) (E : Value → Shared → Prop) : Value → Shared → Prop := fun e s' => wpAny M (A.deeper env) (leaving env e) (fun _ s'' => E e s'') (fun e' s'' => E e' s'') s'
theorem flies_raw {M : Model} {base : Heap} {env : Env} {l : List Env} {L : Addr} {h : Heap} {tk : Nat} (hfr : A.frames = some l) (hf : env.frame = some L) (k : Keeps s.heap h) (hE : Flies base l s E) : Flies base (env :: l) { s with heap := h, toks := tk } (Raw M A env E) :=
  fun e a0 h' tk' f u => leaves_leave (s := s) hfr hf ⟨e, h', tk', rfl, rfl, (Heap.UpToSlots.of_keeps k).trans u, .inl ⟨a0, f⟩⟩ hE
theorem funFrames_in {base : Heap} {name : Str} {scope : Scope} {L a : Addr} {cd : Value} {l : List Env} {h : Heap} {m : Str → Option Value} (F : Fr s.heap L h m) (hl : s.heap.FunFrames base l) (hkb : Keeps base s.heap) (hk : scope.kind = .function) :
    h.FunFrames base (envOf name scope L a cd :: l) := by
  refine Heap.FunFrames.cons (L := L) (m := m) (by show scope.kind ≠ .module; rw [hk]; decide) rfl F.ns ?_ (hl.of_keeps fun b o e _ => ⟨o, F.keep _ _ e, rfl⟩)
  cases q : base.get? L with
  | none => rfl
  | some o => exact absurd (Heap.lt_size (hkb _ _ q)) (Nat.not_lt.mpr F.above)
theorem enterE {name qual : Str} {params : Arguments} {body : List Stmt} {scope : Scope} {dV kV doc pm cdv ct oc : Value} {an od : Option Addr} {osl : Array (Option Value)} {f : Addr} {args : List Value} {binds : List (Str × Value)}
    (B : Base w p loose mean mg mb s.heap) (hroom : A.depth < recursionLimit)
    (ho : (hd.heap_1 w.params).lookup f = some ⟨oc, od, .func (fnOf name qual params body scope dV kV doc pm an cdv ct), osl⟩) (hcd : codeIn (hd.heap_1 w.params) cdv qual = true)
    (hbind : BindsTo s (fnOf name qual params body scope dV kV doc pm an cdv ct) ⟨args, []⟩ binds) (hloc : ∀ y ∈ binds, scope.names.lookup y.1 = some .local)
    (h : ∀ L h₁, Fr s.heap L h₁ (fun y => binds.reverse.lookup y) →
      wpAny (model prog w) (A.deeper (envOf qual scope L f cdv)) (execs body (envOf qual scope L f cdv))
        (fun fl s' => Q (match fl with | .ret v => v | _ => .none) s') (Raw (model prog w) A (envOf qual scope L f cdv) E)
        { s with heap := h₁, toks := s.toks + binds.length })
    (hco : scope.isCoroutine = false) (hgen : scope.isGenerator = false) (hk : scope.kind = .function)
    (hcell : ∀ x ∈ scope.names, x.2 ≠ .cell) : wpAny (model prog w) A (call (.ref f) args) Q E s := by
  refine wpAny_call ?_
  refine codeAny_call_def (fd := fnOf name qual params body scope dV kV doc pm an cdv ct) (body := body) (binds := binds) hroom (B.k _ _ ho) rfl B.t.nolimit (codeRec_of B.k hcd) rfl hbind hcell hloc (fun h₁ hns hk₁ => ?_) hco hgen hk
  exact wpAny_mono (h s.heap.objs.size h₁ ⟨hns, hk₁, Nat.le_refl _⟩) (fun _ _ x => x) (fun v s' x => x)
end
end
section
local macro_rules | `(tactic| walk_at "exec Raise some none") => `(tactic| refine raiseF rfl ?_)
local macro_rules | `(tactic| walk_at "call ref") => `(tactic| (with_reducible refine Stop.call 53 ?_))
section
variable {w : World} {p : Program} {loose : List Str} {mean : ExcName → Option Value} {mg mb : Str → Option Value} {A : Around} {s : Shared} {Q E : Value → Shared → Prop}
theorem none_back {g h : Heap} (k : Keeps g h) {e : Addr} (hn : h.get? e = none) : g.get? e = none := by
  cases q : g.get? e with
  | none => rfl
  | some o => rw [k _ _ q] at hn; cases hn
set_option maxHeartbeats 8000000 in
theorem delimR {base : Heap} {l : List Env} {o : List UInt8} {dv : Value} {al : Bool} {t kt : Tok} {k : Nat} (B : Base w p loose mean mg mb s.heap) (hA : Ok 4 A) (hfr : A.frames = some l) (hl : s.heap.FunFrames base l) (hkb : Keeps base s.heap)
  (hm : Rd (H s.heap) dv (marksD [([], al)])) (hE : Flies base l s E) : wpAny (model prog w) A (call (.ref 90) [.bytes o.toArray t, dv, .int k kt]) Q E s := by
  obtain ⟨ah, ad, af, ag, au⟩ := A
  obtain rfl : ah = none := hA.h
  obtain ⟨li, vs, rfl, hli, hvs⟩ := hm.isList
  have KX := B.k
  have T := B.t
  have BX := B
  refine' enterE (binds := [(Str.ofString "octets", .bytes o.toArray t), (Str.ofString "delimiters", .ref li), (Str.ofString "at", .int k kt)]) B ?k1 ?k2 ?k3 ?k4 ?k5 ?_ ?k6 ?k7 ?k8 ?k9
  walk_at "mine sides"
  intro L h₁ F
  have N : News s.heap L h₁ [] := News.nil
  clear B
  walk_at "mine steps"
  refine Stop.out ?_
  refine for_listL (L := L) rfl hA.h hli (by assumption) (by assumption) (by intro p hp; cases hp) (fun i m₁ nx => i = 0 ∧ m₁ = (fun y => List.lookup y [(Str.ofString "octets", .bytes o.toArray t), (Str.ofString "delimiters", .ref li), (Str.ofString "at", .int k kt)].reverse) ∧ nx = []) ⟨rfl, rfl, rfl⟩ ?_ ?_
  · rintro i v m₁ nx h tk own hv hown ⟨rfl, rfl, rfl⟩ hcn F₁ N₁
    rw [List.append_nil] at N₁
    obtain ⟨d, hd, rd⟩ := hvs.at hv
    obtain rfl : mkD ([], al) = d := by simpa using hd
    obtain ⟨a, t1, rfl, hT⟩ := rdMk rd
    have hmk : (([] : List UInt8).toArray.size : Int) = 0 := rfl
    dsimp only at hT
    walk_at "mine steps"
    refine Stop.out ?_
    (with_reducible rename Fr _ _ _ _ => F9)
    refine faultF (BX.keeps F9.keep) (Ok.deeper hA) fun e oe vs' t' h' tk' kk hn he hc hdd h0 h1 => ?_
    have ks : Keeps s.heap h' := fun b o q => kk _ _ (F9.keep _ _ q)
    refine ⟨e, oe, rfl, isF_of (KX.keeps ks), he, hc, ⟨vs', hdd, h1⟩, ?_⟩
    exact leaves_leave (s := s) hfr rfl ⟨e, h', tk', rfl, rfl, Heap.UpToSlots.of_keeps ks, .inr ⟨fun b o q => ks _ _ (hkb _ _ q), none_back hkb (none_back F9.keep hn), (funFrames_in F9 hl hkb rfl).of_keeps fun b o q _ => ⟨o, kk _ _ q, rfl⟩, oe, vs', t', he, hc, hdd, h0, h1⟩⟩ hE
  · rintro m₁ nx h tk ⟨h0, _⟩ hcn F₁ N₁
    have := hvs.length
    simp at this
    omega
local macro_rules | `(tactic| walk_at "call ref") => `(tactic| (with_reducible refine Stop.call 90 ?_))
set_option maxHeartbeats 8000000 in
theorem nextR {base : Heap} {l : List Env} {o : List UInt8} {dv : Value} {al : Bool} {t kt : Tok} {k : Nat} (B : Base w p loose mean mg mb s.heap) (hA : Ok 5 A) (hfr : A.frames = some l) (hl : s.heap.FunFrames base l) (hkb : Keeps base s.heap)
  (h1 : k < o.length) (h2 : o.length ≤ 1000) (hm : Rd (H s.heap) dv (marksD [([], al)])) (hE : Flies base l s E) : wpAny (model prog w) A (call (.ref 104) [.bytes o.toArray t, dv, .int k kt]) Q E s := by
  obtain ⟨ah, ad, af, ag, au⟩ := A
  obtain rfl : ah = none := hA.h
  have KX := B.k
  have T := B.t
  have BX := B
  refine' enterE (binds := [(Str.ofString "octets", .bytes o.toArray t), (Str.ofString "delimiters", dv), (Str.ofString "begin", .int k kt)]) B ?k1 ?k2 ?k3 ?k4 ?k5 ?_ ?k6 ?k7 ?k8 ?k9
  walk_at "mine sides"
  intro L h₁ F
  have N : News s.heap L h₁ [] := News.nil
  clear B
  walk_at "mine steps"
  refine Stop.out ?_
  refine for_rangeL (L := L) (n := o.length - k) rfl hA.h (by assumption) (small_one (by omega) (by omega) (by rw [List.size_toArray]; omega) (by rw [List.size_toArray]; omega)) (by rw [rangeSize_nat, List.size_toArray]; omega) (by assumption) (by assumption) (by intro p hp; cases hp) (fun i m₁ nx => i = 0 ∧ m₁ = (fun y => List.lookup y [(Str.ofString "octets", .bytes o.toArray t), (Str.ofString "delimiters", dv), (Str.ofString "begin", .int k kt)].reverse) ∧ nx = []) ⟨rfl, rfl, rfl⟩ ?_ ?_
  · rintro i tk' m₁ nx h tk own hi hown ⟨rfl, rfl, rfl⟩ hcn F₁ N₁
    rw [List.append_nil] at N₁
    have e : (k : Int) + ((0 : Nat) : Int) * 1 = (k : Int) := by omega
    rw [e]
    walk_at "mine steps"
    refine Stop.out ?_
    (with_reducible rename Fr _ _ _ _ => F9)
    exact delimR (base := base) (BX.keeps F9.keep) (Ok.deeper hA) (Around.frames_deeper hfr) (funFrames_in F9 hl hkb rfl) (fun b o q => F9.keep _ _ (hkb _ _ q)) (hm.mono F9.keep) (flies_raw (s := s) hfr rfl F9.keep hE)
  · rintro m₁ nx h tk ⟨h0, _⟩ hcn F₁ N₁
    omega
local macro_rules | `(tactic| walk_at "call ref") => `(tactic| (with_reducible refine Stop.call 104 ?_))
set_option maxHeartbeats 8000000 in
theorem unstR {base : Heap} {l : List Env} {o : List UInt8} {dv : Value} {al : Bool} {t kt nt : Tok} {b : Int} {many : Nat} (B : Base w p loose mean mg mb s.heap) (hA : Ok 6 A) (hfr : A.frames = some l) (hl : s.heap.FunFrames base l) (hkb : Keeps base s.heap)
  (h1 : 1 ≤ b) (h1' : b ≤ o.length) (h2 : o.length ≤ 1000) (h3 : 1 ≤ many) (hm : Rd (H s.heap) dv (marksD [([], al)])) (hE : Flies base l s E) : wpAny (model prog w) A (call (.ref 111) [.bytes o.toArray t, dv, .int b kt, .int many nt]) Q E s := by
  obtain ⟨ah, ad, af, ag, au⟩ := A
  obtain rfl : ah = none := hA.h
  have KX := B.k
  have T := B.t
  have BX := B
  refine' enterE (binds := [(Str.ofString "octets", .bytes o.toArray t), (Str.ofString "delimiters", dv), (Str.ofString "begin", .int b kt), (Str.ofString "many", .int many nt)]) B ?k1 ?k2 ?k3 ?k4 ?k5 ?_ ?k6 ?k7 ?k8 ?k9
  walk_at "mine sides"
  intro L h₁ F
  have N : News s.heap L h₁ [] := News.nil
  clear B
  walk_at "mine steps"
  have hk : (b - 1).toNat < o.length := by omega
  have e1 : b - 1 = ((b - 1).toNat : Int) := by omega
  (with_reducible rename Fr _ _ _ _ => F9)
  (with_reducible rename News _ _ _ _ => N9)
  rw [e1] at F9
  have N8 := newsSub (nx := [_]) N9 (by intro p hp; rw [List.mem_singleton.mp hp]; exact .tail _ (.head _))
  clear N9
  refine Stop.out ?_
  refine While_inv (fun n m₁ nx => n = 1 ∧ Ex2 fun (lp : Addr) (tb : Tok) => An2 (m₁ = (fun y => if y = Str.ofString "pieces" then some (.ref lp) else if y = Str.ofString "at" then some (.int ((b - 1).toNat : Nat) tb) else List.lookup y [(Str.ofString "octets", .bytes o.toArray t), (Str.ofString "delimiters", dv), (Str.ofString "begin", .int b kt), (Str.ofString "many", .int many nt)].reverse)) (nx = [(lp, listOf ([] : List Value).toArray 0)])) (n₀ := 1) F9 N8 ⟨rfl, _, _, rfl, rfl⟩ ?_
  rintro n m₁ nx h tk F₁ N₁ ⟨rfl, lp, tb, rfl, rfl⟩
  clear F9 N8 e1
  generalize (b - 1).toNat = k at *
  walk_at "mine steps"
  refine Stop.out ?_
  (with_reducible rename Fr _ _ _ _ => F9)
  exact nextR (base := base) (BX.keeps F9.keep) (Ok.deeper hA) (Around.frames_deeper hfr) (funFrames_in F9 hl hkb rfl) (fun b o q => F9.keep _ _ (hkb _ _ q)) hk h2 (hm.mono F9.keep) (flies_raw (s := s) hfr rfl F9.keep hE)
end
end
section
local macro_rules | `(tactic| walk_at "call ref") => `(tactic| (with_reducible refine Stop.call 111 ?_))
local macro_rules | `(tactic| walk_at "noteFrame ref") => `(tactic| refine Stop.mk ?_)
section
variable {w : World} {p : Program} {loose : List Str} {mean : ExcName → Option Value} {mg mb : Str → Option Value} {A : Around} {s : Shared} {Q E : Value → Shared → Prop}
theorem Ok.eq {k : Nat} {A : Around} {ds : List D} (o : Ok k A) (h : depAll ds + 3 < 800) : A.units + depAll ds + 3 < cLine := by
  have := o.units (j := depAll ds + 3) (by omega)
  omega
set_option maxHeartbeats 8000000 in
theorem refused_c {base : Heap} {l : List Env} {o : List UInt8} {t kt : Tok} {b : Int} (Bb : Base w p loose mean mg mb base) (hbs : base.objs.size ≤ s.heap.objs.size) (hA : Ok 7 A) (hfr : A.frames = some l) (hl : s.heap.FunFrames base l) (hkb : Keeps base s.heap)
  (h1 : 1 ≤ b) (h1' : b ≤ o.length) (h2 : o.length ≤ 1000) 
  (hQ : ∀ h' tk', Keeps base h' → s.heap.UpToSlots h' → Q (.bool true) { s with heap := h', toks := tk' }) : wpAny (model prog w) A (call (.ref 180) [.bytes o.toArray t, .int b kt]) Q E s := by
  obtain ⟨ah, ad, af, ag, au⟩ := A
  obtain rfl : ah = none := hA.h
  have B := Bb.keeps hkb
  have KX := B.k
  have T := B.t
  have BX := B
  refine' enter (binds := [(Str.ofString "octets", .bytes o.toArray t), (Str.ofString "begin", .int b kt)]) B ?k1 ?k2 ?k3 ?k4 ?k5 ?_ ?k6 ?k7 ?k8 ?k9
  walk_at "mine sides"
  intro L h₁ tkE F
  have N : News s.heap L h₁ [] := News.nil
  clear B
  walk_at "mine steps"
  refine Stop.out ?_
  (with_reducible rename Fr _ _ _ _ => F9)
  (with_reducible rename News _ _ _ _ => N9)
  refine unstR (base := base) (many := 2) (al := false) (BX.keeps F9.keep) (Ok.deeper hA) (Around.frames_deeper hfr) (funFrames_in F9 hl hkb rfl) (fun b o q => F9.keep _ _ (hkb _ _ q)) h1 h1' h2 (by decide) (.list (N9 _ (.head _)).1 (.cons (.tup (N9 _ (.tail _ (.head _))).1 (.cons (.bytes [] _) (.cons (.bool _) .nil))) .nil)) ?_
  intro e a0 h' tk' fl up
  have FB : Fr base L _ _ := ⟨F9.ns, fun b o q => F9.keep _ _ (hkb _ _ q), Nat.le_trans hbs F9.above⟩
  refine wpAny_looks_onW (Around.frames_deeper hfr) rfl fl fun h4 held4 sm4 => ?_
  refine wpAny_landsW held4 fun h5 held5 sm5 => ?_
  have F5 := FB.of_stays held5.1 ((up.trans sm4).trans sm5)
  obtain ⟨ob, hob, hobc⟩ := held5.there
  have T' := Bb.t
  have KB := Bb.k
  refine wpAny_handleBy_cons (codeAny_handlers_test (name_K (v := .ref 53) F5 KB (topRead_of T') (by k_is) ?_ rfl rfl (by decide))) (by intro q; cases q)
  obtain ⟨nm, q, bs, hdct, sn, sub, ab, col, dd, k0, k1, k2, k3, k5, hC, _⟩ := isF_of (KB.keeps F5.keep)
  refine wpAny_excMatches_sub_self hC hob hobc (by decide +kernel) (codeAny_handlers_suite ?_)
  refine lands_againW held5 fun h6 fl6 sm6 => ?_
  have sm := ((up.trans sm4).trans sm5).trans sm6
  have F6 := FB.of_stays fl6.1 sm
  have N6 : News base L h6 [] := News.nil
  have us : s.heap.UpToSlots h6 := (Heap.UpToSlots.of_keeps F9.keep).trans sm
  refine wpAny_passesOwnAt (by passes_own) ?_
  clear FB F9 N9 F5 KX T
  walk_at "mine steps"
  rw [show decide (b ≤ (o.toArray.size : Int)) = true by rw [List.size_toArray]; exact decide_eq_true h1']
  exact hQ _ _ fl6.1 us
set_option maxHeartbeats 8000000 in
theorem unstN {o : List UInt8} {dv : Value} {t kt nt : Tok} {b : Int} {many : Nat} (B : Base w p loose mean mg mb s.heap) (hA : Ok 4 A)
  (h2 : o.length ≤ 1000000) (h3 : many ≤ 1000000) (hb : ¬ (1 ≤ b ∧ b ≤ o.length)) :
  Pure w A (call (.ref 111) [.bytes o.toArray t, dv, .int b kt, .int many nt]) No s (.tup [.list [], .int b, .bool true]) := by
  intro Q E hQ
  obtain ⟨ah, ad, af, ag, au⟩ := A
  obtain rfl : ah = none := hA.h
  have KX := B.k
  have T := B.t
  refine' enter (binds := [(Str.ofString "octets", .bytes o.toArray t), (Str.ofString "delimiters", dv), (Str.ofString "begin", .int b kt), (Str.ofString "many", .int many nt)]) B ?k1 ?k2 ?k3 ?k4 ?k5 ?_ ?k6 ?k7 ?k8 ?k9
  walk_at "mine sides"
  intro L h₁ tkE F
  have N : News s.heap L h₁ [] := News.nil
  walk_at "mine steps"
  all_goals
    (with_reducible rename News _ _ _ _ => N9)
    refine hQ _ _ _ _ (Fr.keep (by assumption)) (freshOf N9 fun p hp => hp) ?_
    exact .tup (.inr (.head _)) (.cons (.list (.inr (.tail _ (.head _))) .nil) (.cons (.int _ _) (.cons (.bool _) .nil)))
local macro_rules | `(tactic| walk_at "compareOp Eq ref ref") => `(tactic| refine Stop.mk ?_)
set_option maxHeartbeats 8000000 in
theorem refused_n {o : List UInt8} {t kt : Tok} {b : Int} (B : Base w p loose mean mg mb s.heap) (hA : Ok 7 A)
  (hb : ¬ (1 ≤ b ∧ b ≤ o.length)) (h2 : o.length ≤ 1000) 
  (hQ : ∀ h' tk', Keeps s.heap h' → Q (.bool true) { s with heap := h', toks := tk' }) : wpAny (model prog w) A (call (.ref 180) [.bytes o.toArray t, .int b kt]) Q E s := by
  obtain ⟨ah, ad, af, ag, au⟩ := A
  obtain rfl : ah = none := hA.h
  have KX := B.k
  have T := B.t
  have BX := B
  refine' enter (binds := [(Str.ofString "octets", .bytes o.toArray t), (Str.ofString "begin", .int b kt)]) B ?k1 ?k2 ?k3 ?k4 ?k5 ?_ ?k6 ?k7 ?k8 ?k9
  walk_at "mine sides"
  intro L h₁ tkE F
  have N : News s.heap L h₁ [] := News.nil
  clear B
  walk_at "mine steps"
  refine Stop.out ?_
  (with_reducible rename Fr _ _ _ _ => F9)
  (with_reducible rename News _ _ _ _ => N9)
  refine (unstN (many := 2) (BX.keeps (g' := _) (by exact F9.keep)) (Ok.less (Ok.deeper hA) (by omega)) (by omega) (by omega) hb).use F9 N9 fun v h' tk' nx F8 N8 ap r => ?_
  have r' := r.noUn
  have N7 := newsSub (nx := nx) N8 fun p hp => List.mem_append.mpr (.inl hp)
  obtain ⟨va, rfl⟩ : ∃ va, v = Value.ref va := by cases r'; exact ⟨_, rfl⟩
  clear F9 N9 r ap N8
  walk_at "mine steps"
  refine Stop.out ?_
  (with_reducible rename Fr _ _ _ _ => F9)
  (with_reducible rename News _ _ _ _ => N9)
  refine eq_tup (ds := [.list [], .int b, .bool true]) (r'.led N9 fun q hq => .tail _ (.tail _ hq)) (.tup (N9 _ (.head _)).1 (.cons (.list (N9 _ (.tail _ (.head _))).1 .nil) (.cons (.int _ _) (.cons (.bool _) .nil)))) (Ok.eq (k := 6) (by walk_at "mine ok") (by simp [depAll, dep])) ?_
  walk_at "mine steps"
  · have hb1 : 1 ≤ b := by assumption
    rw [show (!decide (b ≤ (o.toArray.size : Int))) = true by rw [List.size_toArray]; simp; omega]
    exact hQ _ _ F9.keep
  · have hb1 : ¬ 1 ≤ b := by assumption
    rw [show (!decide (1 ≤ b)) = true by simp; omega]
    exact hQ _ _ F9.keep
theorem refused {base : Heap} {l : List Env} {o : List UInt8} {t kt : Tok} {b : Int} (Bb : Base w p loose mean mg mb base) (hbs : base.objs.size ≤ s.heap.objs.size) (hA : Ok 7 A) (hfr : A.frames = some l) (hl : s.heap.FunFrames base l) (hkb : Keeps base s.heap)
  (h2 : o.length ≤ 1000)
  (hQ : ∀ h' tk', Keeps base h' → s.heap.UpToSlots h' → Q (.bool true) { s with heap := h', toks := tk' }) : wpAny (model prog w) A (call (.ref 180) [.bytes o.toArray t, .int b kt]) Q E s := by
  by_cases hb : 1 ≤ b ∧ b ≤ o.length
  · exact refused_c Bb hbs hA hfr hl hkb hb.1 hb.2 h2 hQ
  · exact refused_n (Bb.keeps hkb) hA hb h2 fun h' tk' k => hQ h' tk' (fun b o q => k _ _ (hkb _ _ q)) (Heap.UpToSlots.of_keeps k)
end
end
section
open PySem PySem.W PySem.Calls PyProof.Rows PyProof.Rows.LCg
section
variable {prog : Program} {w : World} {A : Around} {E : Value → Shared → Prop} {R : Result → Shared → Prop} {s : Shared}
abbrev LC2 (elt t1 i1 t2 i2 : PySem.Expr) (scope : Scope) (pos : Pos) : PySem.Expr := .ListComp elt [⟨t1, i1, [], 0⟩, ⟨t2, i2, [], 0⟩] scope pos
variable {elt t1 i1 t2 i2 : PySem.Expr} {scope : Scope} {pos : Pos} {it acc : Value} {env : Env}
theorem compTurn_out (elt t1 i1 t2 i2 : PySem.Expr) (scope : Scope) (pos : Pos) (it acc : Value) (env : Env) :
    compTurn (LC2 elt t1 i1 t2 i2 scope pos) 0 it acc env = (standAt i1.pos >>= fun _ => pyNext it >>= fun r => match r with
      | none => pure (.done .next)
      | some v => letOwnedTupleGo t1 it v >>= fun _ => assign t1 env v >>= fun _ => eval i2 env >>= fun x => standAt i2.pos >>= fun _ => foldedSetIterable i2 env x >>= fun x => holding [x] (pyIter x) >>= fun it2 =>
        runOwn (.compStart (LC2 elt t1 i1 t2 i2 scope pos) 1 it2 acc env) env >>= fun _ => again (.compLoop (LC2 elt t1 i1 t2 i2 scope pos) 0 it acc env)) := by rfl
theorem compTurn_in (elt t1 i1 t2 i2 : PySem.Expr) (scope : Scope) (pos : Pos) (it acc : Value) (env : Env) :
    compTurn (LC2 elt t1 i1 t2 i2 scope pos) 1 it acc env = (standAt i2.pos >>= fun _ => pyNext it >>= fun r => match r with
      | none => pure (.done .next)
      | some v => letOwnedTupleGo t2 it v >>= fun _ => assign t2 env v >>= fun _ =>
        (eval elt env >>= fun x => call (.builtin "list.append") [acc, x] >>= fun _ => pure ()) >>= fun _ =>
          again (.compLoop (LC2 elt t1 i1 t2 i2 scope pos) 1 it acc env)) := by rfl
theorem start2
    (h0 : codeAny (model prog w) A (.compLoop (LC2 elt t1 i1 t2 i2 scope pos) 1 it acc env) R s)
    (h : wpAny (model prog w) A (pyIter it) (fun it' s' => codeAny (model prog w) A (.compLoop (LC2 elt t1 i1 t2 i2 scope pos) 1 it' acc env) R s')
      (notedBy (model prog w) A env fun x s' => R (.error x) s') s) :
    codeAny (model prog w) A (.compStart (LC2 elt t1 i1 t2 i2 scope pos) 1 it acc env) R s := by
  refine codeAny_of_tree ?_
  show wpAny _ _ ((compStart (LC2 elt t1 i1 t2 i2 scope pos) 1 it acc env).onRaise (fun x => do noteFrame x env; standAt theWindowsPlace)) _ _ s
  refine wpAny_notedAt ?_
  unfold compStart
  show wpAny _ _ (ask >>= _) _ _ s
  refine wpAny_bind (wpAny_askSetting (wpAny_ite ?_))
  split
  · first
      | exact wpAny_bind (wpAny_pure (wpAny_pure (And.intro rfl h0)))
      | exact wpAny_pure (And.intro rfl h0)
  · first
      | exact wpAny_bind (wpAny_rule (wpAny_bind (wpAny_standAt (wpAny_bind (wpAny_mono h (fun it' s' h' => wpAny_pure (And.intro rfl h')) fun _ _ x => x)))))
      | (refine wpAny_bind (wpAny_rule ?_); show wpAny _ _ (standAt i2.pos >>= _) _ _ s; exact wpAny_bind (wpAny_standAt (wpAny_bind (wpAny_mono h (fun it' s' h' => wpAny_pure (And.intro rfl h')) fun _ _ x => x))))
theorem start20
    (h0 : codeAny (model prog w) A (.compLoop (LC2 elt t1 i1 t2 i2 scope pos) 0 it acc env) R s)
    (h : wpAny (model prog w) A (pyIter it) (fun it' s' => codeAny (model prog w) A (.compLoop (LC2 elt t1 i1 t2 i2 scope pos) 0 it' acc env) R s')
      (notedBy (model prog w) A env fun x s' => R (.error x) s') s) :
    codeAny (model prog w) A (.compStart (LC2 elt t1 i1 t2 i2 scope pos) 0 it acc env) R s := codeAny_compStart_list h0 h
abbrev Eb (prog : Program) (w : World) (A : Around) (env : Env) (R : Result → Shared → Prop) : Value → Shared → Prop := notedBy (model prog w) A env fun e s' => R (.error e) s'
theorem loop2_in (I : Nat → Shared → Prop)
    (turn : ∀ n s, I n s → wpAny (model prog w) A (pyNext it) (fun r s₁ => match r with
      | none => R (.ok .next) s₁
      | some v => wpAny (model prog w) A (assign t2 env v) (fun _ s₂ => wpAny (model prog w) A (eval elt env) (fun x s₃ =>
          wpAny (model prog w) A (call (.builtin "list.append") [acc, x]) (fun _ s₄ => ∃ m, m < n ∧ I m s₄) (Eb prog w A env R) s₃) (Eb prog w A env R) s₂) (Eb prog w A env R) s₁) (Eb prog w A env R) s)
    (n : Nat) (h : I n s) (ht : ∀ v, letOwnedTupleGo t2 it v = pure () := by intro _; rfl) :
    codeAny (model prog w) A (.compLoop (LC2 elt t1 i1 t2 i2 scope pos) 1 it acc env) R s := by
  refine codeAny_loop rfl I (fun n s hI => ?_) n h
  show wpAny _ _ ((compTurn (LC2 elt t1 i1 t2 i2 scope pos) 1 it acc env).onRaise (fun x => do noteFrame x env; theTreesLotGoes x)) _ _ s
  refine wpAny_noted ?_
  rw [compTurn_in]
  refine wpAny_bind (wpAny_standAt (wpAny_bind (wpAny_mono (turn n s hI) (fun r s₁ h₁ => ?_) fun _ _ h' => h')))
  cases r with
  | none => exact wpAny_pure h₁
  | some v =>
    refine wpAny_bind (wpAny_of_eq (ht v) ?_)
    exact wpAny_bind (wpAny_mono h₁ (fun _ s₂ h₂ => wpAny_bind (wpAny_bind (wpAny_mono h₂ (fun x s₃ h₃ => wpAny_bind (wpAny_mono h₃
      (fun _ s₄ h₄ => wpAny_pure (wpAny_pure ⟨rfl, h₄⟩)) fun _ _ h' => h')) fun _ _ h' => h'))) fun _ _ h' => h')
theorem loop2_out (I : Nat → Shared → Prop)
    (turn : ∀ n s, I n s → wpAny (model prog w) A (pyNext it) (fun r s₁ => match r with
      | none => R (.ok .next) s₁
      | some v => wpAny (model prog w) A (assign t1 env v) (fun _ s₂ => wpAny (model prog w) A (eval i2 env) (fun x s₃ => wpAny (model prog w) A (pyIter x) (fun it2 s₄ =>
          codeAny (model prog w) A (.compStart (LC2 elt t1 i1 t2 i2 scope pos) 1 it2 acc env) (fun r s₅ => match r with | .ok _ => ∃ m, m < n ∧ I m s₅ | .error _ => False) s₄) (Eb prog w A env R) s₃) (Eb prog w A env R) s₂) (Eb prog w A env R) s₁) (Eb prog w A env R) s)
    (n : Nat) (h : I n s) (ht : ∀ v, letOwnedTupleGo t1 it v = pure () := by intro _; rfl) (hs : ∀ x, foldedSetIterable i2 env x = pure x := by intro _; rfl) :
    codeAny (model prog w) A (.compLoop (LC2 elt t1 i1 t2 i2 scope pos) 0 it acc env) R s := by
  refine codeAny_loop rfl I (fun n s hI => ?_) n h
  show wpAny _ _ ((compTurn (LC2 elt t1 i1 t2 i2 scope pos) 0 it acc env).onRaise (fun x => do noteFrame x env; theTreesLotGoes x)) _ _ s
  refine wpAny_noted ?_
  rw [compTurn_out]
  refine wpAny_bind (wpAny_standAt (wpAny_bind (wpAny_mono (turn n s hI) (fun r s₁ h₁ => ?_) fun _ _ h' => h')))
  cases r with
  | none => exact wpAny_pure h₁
  | some v =>
    refine wpAny_bind (wpAny_of_eq (ht v) ?_)
    refine wpAny_bind (wpAny_mono h₁ (fun _ s₂ h₂ => ?_) fun _ _ h' => h')
    refine wpAny_bind (wpAny_mono h₂ (fun x s₃ h₃ => ?_) fun _ _ h' => h')
    refine wpAny_bind (wpAny_standAt ?_)
    refine wpAny_bind (wpAny_of_eq (hs x) ?_)
    refine wpAny_bind (wpAny_holding (wpAny_mono h₃ (fun it2 s₄ h₄ => ?_) fun _ _ h' => h'))
    refine wpAny_bind (wpAny_runOwn ?_)
    refine codeAny_mono h₄ (fun r s₅ h₅ => ?_)
    cases r with
    | ok f => exact wpAny_pure ⟨rfl, h₅⟩
    | error x => exact h₅.elim
end
end
section
open PySem PySem.W PySem.Calls PyProof.Rows PyProof.Rows.LCg
section
variable {prog : Program} {w : World} {A : Around} {E : Value → Shared → Prop} {s : Shared} {h₀ : Heap} {L : Addr} {m : Str → Option Value} {env : Env}
def Src2 (h₀ : Heap) (its : Array Value) (prs : List (Value × Value)) (ax : Addr) (news : Led) : Prop := SrcAt h₀ ax its news ∧ its.size = prs.length ∧
  ∀ (i : Nat) (u : Value × Value), prs[i]? = some u → Ex2 fun t n => An2 (its[i]? = some (Value.ref t)) ((h₀.get? t = some (tupO #[u.1, u.2] n) ∨ (t, tupO #[u.1, u.2] n) ∈ news))
theorem Src2.tup {its : Array Value} {prs : List (Value × Value)} {ax : Addr} {news : Led} (S : Src2 h₀ its prs ax news) {i : Nat} (hi : i < its.size) :
    Ex2 fun t u => An3 (its[i]? = some (Value.ref t)) (prs[i]? = some u) (∀ h nw, Src2 h₀ its prs ax nw → (∀ b o, h₀.get? b = some o → h.get? b = some o) → News h₀ L h nw → h.IsTuple t #[u.1, u.2]) := by
  have hi' : i < prs.length := by rw [← S.2.1]; exact hi
  obtain ⟨t, n, e, _⟩ := S.2.2 i prs[i] (List.getElem?_eq_getElem hi')
  refine ⟨t, prs[i], e, List.getElem?_eq_getElem hi', fun h nw S' k N => ?_⟩
  obtain ⟨t', n', e', q⟩ := S'.2.2 i prs[i] (List.getElem?_eq_getElem hi')
  rw [e] at e'
  cases e'
  rcases q with q | q
  · exact ⟨_, k _ _ q, rfl, _, rfl⟩
  · exact ⟨_, (N _ q).1, rfl, _, rfl⟩
theorem Off1.of {D : Addr} : ∀ {l : Led}, (∀ p ∈ l, p.1 ≠ D) → Off1 D l
  | [], _ => trivial
  | _ :: _, h => ⟨h _ List.mem_cons_self, Off1.of fun p hp => h p (List.mem_cons_of_mem _ hp)⟩
theorem Off1.mem {D : Addr} : ∀ {l : Led}, Off1 D l → ∀ p ∈ l, p.1 ≠ D
  | [], _, _, h => nomatch h
  | _ :: _, x, p, h => by
    rcases List.mem_cons.mp h with rfl | h
    · exact x.1
    · exact Off1.mem x.2 p h
theorem block_2 {elt iter : PySem.Expr} {x x₂ : Str} {px px' px₂ : Pos} {scope : Scope} {cl : List (Str × Addr)} {pos : Pos} {s₂ : Shared} {I ax : Addr} {its : Array Value} {prs : List (Value × Value)} {news : Led}
    {RR : Value → Addr → Result → Shared → Prop} (Inv : Nat → Nat → List Value → Led → Prop)
    (hsz : 2 * its.size ≤ sizeLine) (hS : ∀ i j ys nw, Inv i j ys nw → Src2 h₀ its prs ax nw) (hN : ∀ i ys nw, Inv i 2 ys nw → Inv (i + 1) 0 ys nw)
    (hcell : ∀ y ∈ scope.names, y.2 ≠ .cell) (hkind : scope.kind = .function) (hx : scope.names.lookup x = some .local) (hx₂ : scope.names.lookup x₂ = some .local) (hdb : (x == ("__debug__" : Str)) = false) (hh : A.handled = none)
    (haxI : ax ≠ I) (hst : s₂.heap.IsListIter I ax 0 ∧ s₂.heap.IsList ax its) 
    (F : Fr h₀ L s₂.heap m) (N : News h₀ L s₂.heap news) (hIL : L ≠ I) (hI₀ : h₀.get? I = none) (off : ∀ p ∈ news, p.1 ≠ I)
    (R : Inv 0 0 [] news)
    (step : ∀ i j ys nw u oI C oC D J oJ m₂ h tk (E' : Value → Shared → Prop), i < its.size → j < 2 → Inv i j ys nw → (∃ pr, prs[i]? = some pr ∧ #[pr.1, pr.2][j]? = some u) → NsObj oC m₂ → m₂ x₂ = some u → Fr h₀ L h m → News h₀ L h ((I, oI) :: (C, oC) :: (D, lst ys) :: (J, oJ) :: nw) →
      Off3 I C D ((J, oJ) :: nw) → Off1 J nw → ((@Ne Nat I C) ∧ (@Ne Nat I D) ∧ (@Ne Nat C D)) →
      wpAny (model prog w) A (eval elt (compEnvC scope cl C env)) (CompEnd h₀ L m { s₂ with heap := h, toks := tk } I oI C oC D (lst ys) (fun nw' => ∃ nw'', nw' = (J, oJ) :: nw'' ∧ Off1 J nw'') (fun y nw' => ∃ nw'', nw' = (J, oJ) :: nw'' ∧ Inv i (j + 1) (ys ++ [y]) nw'')) E' { s₂ with heap := h, toks := tk })
    (hRR : ∀ D C h tk m' ys news', Fr h₀ L h m → News h₀ L h ((D, lst ys) :: news') → Off1 D news' → h.Ns C m' → h₀.get? C = none → h₀.get? D = none → C ≠ L → D ≠ L → C ≠ D → (∀ p ∈ news', p.1 ≠ C) → Inv its.size 0 ys news' → RR (.ref D) C (.ok .next) { s₂ with heap := h, toks := tk }) :
    wpAny (model prog w) A (newList []) (fun acc s₃ => wpAny (model prog w) A (newFunctionEnv scope env.globals cl [] env.qual none .none (some env)) (fun cenv s₄ =>
      codeAny (model prog w) A (.compStart (LC2 elt (.Name x px) iter (.Name x₂ px₂) (.Name x px') scope pos) 0 (.ref I) acc { cenv with scope := relabel scope env }) (RR acc cenv.locals) s₄) E s₃) E s₂ := by
  refine wpAny_newObj_type (wpAny_newFunctionEnv hcell (by intro y hy; simp at hy) (fun h₁ hns₁ hsb₁ => ?_) hkind)
  dsimp only at hns₁ hsb₁ ⊢
  generalize hH2 : s₂.heap.push { cls := .type "list", dict := none, data := .seq ([] : List Value).toArray } = H2 at hns₁ hsb₁ ⊢
  have hC : H2.objs.size = s₂.heap.objs.size + 1 := by rw [← hH2, Heap.size_push]
  have hDC : s₂.heap.objs.size ≠ H2.objs.size := by rw [hC]; exact Nat.ne_of_lt (Nat.lt_succ_self _)
  have below : ∀ b, b < s₂.heap.objs.size → b ≠ H2.objs.size ∧ b ≠ s₂.heap.objs.size := fun b hb => ⟨by rw [hC]; exact Nat.ne_of_lt (Nat.lt_succ_of_lt hb), Nat.ne_of_lt hb⟩
  have hIlt : I < s₂.heap.objs.size := by obtain ⟨o, e, _⟩ := hst.1; exact Heap.lt_size e
  have haxlt : ax < s₂.heap.objs.size := by obtain ⟨o, e, _⟩ := hst.2; exact Heap.lt_size e
  have old : ∀ b o, s₂.heap.get? b = some o → h₁.get? b = some o := fun b o e => hsb₁.extBut b o (below b (Heap.lt_size e)).1 (Heap.get?_push_of_some _ (hH2 ▸ Heap.get?_push_of_some _ e))
  have hacc : h₁.get? s₂.heap.objs.size = some (lst []) := hsb₁.extBut _ _ hDC (Heap.get?_push_of_some _ (hH2 ▸ Heap.get?_push_size _ rfl))
  have hst₁ : h₁.IsListIter I ax 0 ∧ h₁.IsList ax its := ⟨hst.1.at fun o e => old _ _ e, hst.2.at fun o e => old _ _ e⟩
  have fresh : ∀ a, s₂.heap.objs.size ≤ a → s₂.heap.get? a = none := fun a ha => by
    cases e : s₂.heap.get? a with
    | none => rfl
    | some o' => exact absurd (Heap.lt_size e) (Nat.not_lt.mpr ha)
  have fresh₀ : ∀ a, s₂.heap.objs.size ≤ a → h₀.get? a = none := fun a ha => by
    cases e : h₀.get? a with
    | none => rfl
    | some o' => have := F.keep a o' e; rw [fresh a ha] at this; cases this
  have hD₀ : h₀.get? s₂.heap.objs.size = none := fresh₀ _ (Nat.le_refl _)
  have hC₀ : h₀.get? H2.objs.size = none := fresh₀ _ (by rw [hC]; exact Nat.le_succ _)
  have hLlt : L < s₂.heap.objs.size := F.ns.lt
  have hDL : s₂.heap.objs.size ≠ L := Ne.symm (below L hLlt).2
  have hCL : H2.objs.size ≠ L := Ne.symm (below L hLlt).1
  have hCI : I ≠ H2.objs.size := (below I hIlt).1
  have hDI : I ≠ s₂.heap.objs.size := (below I hIlt).2
  have off₀ : Off3 I H2.objs.size s₂.heap.objs.size news := Off3.of fun p hp => ⟨off p hp, (below _ (Heap.lt_size (N p hp).1)).1, (below _ (Heap.lt_size (N p hp).1)).2⟩
  have W := Walks.list (prog := prog) (w := w) (A := A) hh I ax haxI its
  generalize hDg : s₂.heap.objs.size = D at *
  generalize hCg : H2.objs.size = C at *
  have loop : ∀ s₃ : Shared, s₃ = { s₂ with heap := h₁, toks := s₂.toks + ([] : List (Str × Value)).length } →
      codeAny (model prog w) A (.compLoop (LC2 elt (.Name x px) iter (.Name x₂ px₂) (.Name x px') scope pos) 0 (.ref I) (.ref D) (compEnvC scope cl C env))
        (RR (.ref D) C) s₃ := by
    rintro s₃ rfl
    refine loop2_out
      (fun k s' => Ex6 fun h' tk i ys m' news' => An10 (s' = { s₂ with heap := h', toks := tk }) (i ≤ its.size) (k = its.size + 1 - i) (ys.length = 2 * i) ((h'.IsListIter I ax i ∧ h'.IsList ax its)) (Fr h₀ L h' m) (h'.Ns C m') (News h₀ L h' ((D, lst ys) :: news')) (Off3 I C D news') (Inv i 0 ys news')) ?_ (its.size + 1)
      ⟨h₁, _, 0, [], _, news, rfl, Nat.zero_le _, rfl, rfl, hst₁, F.keeps old, hns₁, fun p hp => ?_, off₀, R⟩
    · rintro k s' ⟨h', tk, i, ys, m', news', rfl, hi, rfl, hyl, hst', F', hn', N', off', R'⟩
      by_cases hlt : i < its.size
      · refine W.item i _ _ _ hlt hst' fun v h₂ tk₂ hPv hst₂ hk₂ => ?_
        have off3 := off'.mem
        have N₂ : News h₀ L h₂ ((D, lst ys) :: news') := news_but N' hk₂ fun p hp => by
          rcases List.mem_cons.mp hp with rfl | hp
          · exact Ne.symm hDI
          · exact (off3 p hp).1
        have F₂ : Fr h₀ L h₂ m := fr_but F' hk₂ hIL hI₀
        obtain ⟨t, u, e1, e2, T⟩ := (hS _ _ _ _ R').tup (L := L) hlt
        have hv : v = .ref t := by have := hPv.symm.trans e1; exact Option.some.inj this
        subst hv
        refine wpAny_assign_Name (wpAny_storeName_local (lookup_relabel_local hx) (hn'.at' fun o e => hk₂ _ o (by simpa using Ne.symm hCI) e) (fun h₃ hn₃ hs₃ => ?_) (by simp [compEnvC, relabel, hkind]))
        have F₃ : Fr h₀ L h₃ m := F₂.change hs₃ hCL hC₀
        have N₃ : News h₀ L h₃ ((D, lst ys) :: news') := fun p hp => by
          refine ⟨hs₃.extBut _ _ ?_ (N₂ p hp).1, (N₂ p hp).2⟩
          rcases List.mem_cons.mp hp with rfl | hp
          · exact hDC
          · exact (off3 p hp).2.1
        have SI₃ := (hS _ _ _ _ R').1
        have hax : ax ≠ C := by
          intro q
          obtain ⟨o, eo, ho⟩ := SI₃.list F₂.keep (fun p hp => N₂ p (.tail _ hp))
          obtain ⟨o', es, ep, eo', hd', _⟩ := hn'.at' (h' := h₂) fun o e => hk₂ _ o (by simpa using Ne.symm hCI) e
          rw [q, eo'] at eo
          cases eo
          obtain ⟨_, n, hn⟩ := ho
          rw [hd'] at hn; cases hn
        have hst₃ : h₃.IsListIter I ax (i + 1) ∧ h₃.IsList ax its := ⟨hst₂.1.at fun o e => hs₃.extBut _ _ hCI e, hst₂.2.at fun o e => hs₃.extBut _ _ hax e⟩
        refine ldVarK hn₃ (v := .ref t) (by simp) ?_ hkind (lookup_relabel_local hx) hdb
        have ht₃ : h₃.IsTuple t #[u.1, u.2] := T h₃ news' (hS _ _ _ _ R') F₃.keep (fun p hp => N₃ p (.tail _ hp))
        refine iter_tuple ht₃ ?_
        have old4 : ∀ b o, h₃.get? b = some o → (h₃.push { cls := .type "tuple_iterator", data := .fields #[.ref t, .int 0 0] }).get? b = some o := fun b o e => Heap.get?_push_of_some _ e
        have lt3 : ∀ b o, h₃.get? b = some o → b ≠ h₃.objs.size := fun b o e => Nat.ne_of_lt (Heap.lt_size e)
        have hJnew : h₃.get? h₃.objs.size = none := by
          cases e : h₃.get? h₃.objs.size with
          | none => rfl
          | some o' => exact absurd (Heap.lt_size e) (Nat.lt_irrefl _)
        have hJ₀ : h₀.get? h₃.objs.size = none := by
          cases e : h₀.get? h₃.objs.size with
          | none => rfl
          | some o' => have := F₃.keep _ o' e; rw [hJnew] at this; cases this
        have hJit : (h₃.push { cls := .type "tuple_iterator", data := .fields #[.ref t, .int 0 0] }).IsTupleIter h₃.objs.size t 0 := ⟨_, Heap.get?_push_size _ rfl, rfl, rfl⟩
        have htJ : t ≠ h₃.objs.size := by obtain ⟨o, e, _⟩ := ht₃; exact lt3 _ _ e
        have hIJ : I ≠ h₃.objs.size := by obtain ⟨o, e, _⟩ := hst₃.1; exact lt3 _ _ e
        have hCJ : C ≠ h₃.objs.size := by obtain ⟨o, _, _, e, _⟩ := hn₃; exact lt3 _ _ e
        have hDJ : D ≠ h₃.objs.size := lt3 _ _ (N₃ _ (.head _)).1
        have hLJ : L ≠ h₃.objs.size := by obtain ⟨o, _, _, e, _⟩ := F₃.ns; exact lt3 _ _ e
        have haxJ : ax ≠ h₃.objs.size := by obtain ⟨o, e, _⟩ := hst₃.2; exact lt3 _ _ e
        have offJ : Off1 h₃.objs.size news' := Mine.Off1.of fun p hp => lt3 _ _ (N₃ p (.tail _ hp)).1
        have F₄ := F₃.keeps old4
        have N₄ := N₃.grown old4
        have hn₄ := hn₃.at' fun o e => old4 _ _ e
        have hst₄ : (h₃.push { cls := .type "tuple_iterator", data := .fields #[.ref t, .int 0 0] }).IsListIter I ax (i + 1) := hst₃.1.at fun o e => old4 _ _ e
        have ht₄ : (h₃.push { cls := .type "tuple_iterator", data := .fields #[.ref t, .int 0 0] }).IsTuple t #[u.1, u.2] := ht₃.at fun o e => old4 _ _ e
        generalize hHg : h₃.push { cls := .type "tuple_iterator", data := .fields #[.ref t, .int 0 0] } = H4 at *
        generalize hJg : h₃.objs.size = J at *
        have W2 := Walks.tuple (prog := prog) (w := w) (A := A) hh J t htJ #[u.1, u.2]
        have inner : ∀ s₅ : Shared, (∃ tk, s₅ = { s₂ with heap := H4, toks := tk }) → codeAny (model prog w) A (.compLoop (LC2 elt (.Name x px) iter (.Name x₂ px₂) (.Name x px') scope pos) 1 (.ref J) (.ref D) (compEnvC scope cl C env))
            (fun r s₅ => match r with
              | .ok _ => ∃ m_1, m_1 < its.size + 1 - i ∧ Ex6 fun h' tk i ys m' news' => An10 (s₅ = { s₂ with heap := h', toks := tk }) (i ≤ its.size) (m_1 = its.size + 1 - i) (ys.length = 2 * i) ((h'.IsListIter I ax i ∧ h'.IsList ax its)) (Fr h₀ L h' m) (h'.Ns C m') (News h₀ L h' ((D, lst ys) :: news')) (Off3 I C D news') (Inv i 0 ys news')
              | .error _ => False) s₅ := by
          rintro s₅ ⟨tk5, rfl⟩
          refine loop2_in (fun k s' => Ex6 fun h' tk j ys m' news' => An12 (s' = { s₂ with heap := h', toks := tk }) (j ≤ 2) (k = 3 - j) (ys.length = 2 * i + j) (h'.IsTupleIter J t j) (h'.IsListIter I ax (i + 1)) (Fr h₀ L h' m) (h'.Ns C m') (News h₀ L h' ((D, lst ys) :: news')) (Off3 I C D news') (Off1 J news') (Inv i j ys news')) ?_ 3 ⟨H4, tk5, 0, ys, _, news', rfl, Nat.zero_le _, rfl, hyl, hJit, hst₄, F₄, hn₄, N₄, off', offJ, R'⟩
          rintro k s' ⟨h5, tk6, j, ys5, m5, news5, rfl, hj, rfl, hyl5, hJ5, hI5, F5, hn5, N5, off5, offJ5, R5⟩
          have ht5 : h5.IsTuple t #[u.1, u.2] := T h5 news5 (hS _ _ _ _ R5) F5.keep (fun p hp => N5 p (.tail _ hp))
          have off53 := off5.mem
          have offJm := Mine.Off1.mem offJ5
          have kbut : ∀ h6, (∀ b o, b ∉ [J] → h5.get? b = some o → h6.get? b = some o) → Fr h₀ L h6 m ∧ News h₀ L h6 ((D, lst ys5) :: news5) ∧ h6.Ns C m5 ∧ h6.IsListIter I ax (i + 1) := fun h6 hk6 =>
            ⟨fr_but F5 hk6 hLJ hJ₀, news_but N5 hk6 fun p hp => by
              rcases List.mem_cons.mp hp with rfl | hp
              · exact hDJ
              · exact offJm p hp, hn5.at' fun o e => hk6 _ o (by simpa using hCJ) e, hI5.at fun o e => hk6 _ o (by simpa using hIJ) e⟩
          by_cases hlj : j < 2
          · refine W2.item j _ _ _ (by simpa using hlj) ⟨hJ5, ht5⟩ fun v h6 tk7 hPv hst6 hk6 => ?_
            obtain ⟨F6, N6, hn6, hI6⟩ := kbut h6 hk6
            refine wpAny_assign_Name (wpAny_storeName_local (lookup_relabel_local hx₂) hn6 (fun h7 hn7 hs7 => ?_) (by simp [compEnvC, relabel, hkind]))
            obtain ⟨oJ, eJ, hJc⟩ := hst6.1
            obtain ⟨oI, eI, hIc⟩ := hI6
            have eJ7 : h7.get? J = some oJ := hs7.extBut _ _ (Ne.symm hCJ) eJ
            have eI7 : h7.get? I = some oI := hs7.extBut _ _ hCI eI
            obtain ⟨oC, eC, hoC⟩ := ns_obj hn7
            have F7 : Fr h₀ L h7 m := F6.change hs7 hCL hC₀
            have N7 : News h₀ L h7 ((I, oI) :: (C, oC) :: (D, lst ys5) :: (J, oJ) :: news5) := fun p hp => by
              rcases List.mem_cons.mp hp with rfl | hp
              · exact ⟨eI7, Ne.symm hIL, hI₀⟩
              rcases List.mem_cons.mp hp with rfl | hp
              · exact ⟨eC, hCL, hC₀⟩
              rcases List.mem_cons.mp hp with rfl | hp
              · exact ⟨hs7.extBut _ _ hDC (N6 _ (.head _)).1, (N6 _ (.head _)).2⟩
              rcases List.mem_cons.mp hp with rfl | hp
              · exact ⟨eJ7, Ne.symm hLJ, hJ₀⟩
              · exact ⟨hs7.extBut _ _ (off53 p hp).2.1 (N6 _ (.tail _ hp)).1, (N6 _ (.tail _ hp)).2⟩
            refine wpAny_mono (step i j ys5 news5 v oI C oC D J oJ _ h7 _ _ hlt hlj R5 ⟨u, e2, hPv⟩ hoC (by simp) F7 N7 ⟨⟨Ne.symm hIJ, Ne.symm hCJ, Ne.symm hDJ⟩, off5⟩ offJ5 ⟨hCI, hDI, Ne.symm hDC⟩) (fun y s₄ h₄ => ?_) fun _ _ e => e
            obtain ⟨h8, tk8, news8, rfl, F8, N8, off8, ⟨nw8, rfl, offJ8⟩, ⟨nw8', eq8, R8⟩⟩ := h₄
            obtain rfl : nw8 = nw8' := by injection eq8
            have zI := (N8 (I, oI) (.head _)).1
            have zC := (N8 (C, oC) (.tail _ (.head _))).1
            have zD := (N8 (D, lst ys5) (.tail _ (.tail _ (.head _)))).1
            have zJ := (N8 (J, oJ) (.tail _ (.tail _ (.tail _ (.head _))))).1
            have N8' : News h₀ L h8 nw8 := fun p hp => N8 p (.tail _ (.tail _ (.tail _ (.tail _ hp))))
            refine append_at (hsz := by show ys5.toArray.size ≤ sizeLine; rw [List.size_toArray, hyl5]; omega) zD fun h9 hs9 hD9 => ?_
            refine ⟨3 - (j + 1), by omega, h9, tk8, j + 1, ys5 ++ [y], _, nw8, rfl, hlj, rfl, by rw [List.length_append, List.length_singleton, hyl5]; omega, ?_, ?_, F8.change hs9 hDL hD₀, (hoC.ns zC).sameBut hs9 (Ne.symm hDC), fun p hp => ?_, off8.2, offJ8, R8⟩
            · exact ⟨oJ, hs9.extBut _ _ (Ne.symm hDJ) zJ, hJc⟩
            · exact ⟨oI, hs9.extBut _ _ hDI zI, hIc⟩
            · rcases List.mem_cons.mp hp with rfl | hp
              · exact ⟨hD9.trans (congrArg some (lst_snoc ys5 y)), hDL, hD₀⟩
              · exact ⟨hs9.extBut _ _ (off8.2.mem p hp).2.2 (N8' p hp).1, (N8' p hp).2⟩
          · obtain rfl : j = 2 := by omega
            refine W2.done _ _ _ ⟨hJ5, ht5⟩ fun h6 tk7 hk6 => ?_
            obtain ⟨F6, N6, hn6, hI6⟩ := kbut h6 hk6
            have R6 := hN _ _ _ R5
            exact ⟨its.size + 1 - (i + 1), by omega, h6, tk7, i + 1, ys5, _, news5, rfl, hlt, rfl, by omega, ⟨hI6, (hS _ _ _ _ R6).1.list F6.keep (fun p hp => N6 p (.tail _ hp))⟩, F6, hn6, N6, off5, R6⟩
        exact start2 (inner _ ⟨_, rfl⟩) (W2.self 0 _ _ _ ⟨hJit, ht₄⟩ (inner _ ⟨_, rfl⟩))
      · obtain rfl : i = its.size := Nat.le_antisymm hi (Nat.not_lt.mp hlt)
        refine W.done _ _ _ hst' fun h₂ tk₂ hk₂ => ?_
        have off3 := off'.mem
        exact hRR _ _ h₂ tk₂ _ ys news' (fr_but F' hk₂ hIL hI₀) (news_but N' hk₂ fun p hp => by
          rcases List.mem_cons.mp hp with rfl | hp
          · exact Ne.symm hDI
          · exact (off3 p hp).1) off'.one (hn'.at' fun o e => hk₂ _ o (by simpa using Ne.symm hCI) e) hC₀ hD₀ hCL hDL (Ne.symm hDC) (fun p hp => (off3 p hp).2.1) R'
    · rcases List.mem_cons.mp hp with rfl | hp
      · exact ⟨hacc, hDL, hD₀⟩
      · exact ⟨old _ _ (N p hp).1, (N p hp).2⟩
  exact start20 (loop _ rfl) (W.self 0 _ _ _ hst₁ (loop _ rfl))
end
end
section
open PySem PySem.W PySem.Calls PyProof.Rows PyProof.Rows.LCg
def CompSrc2 (prog : Program) (w : World) (A : Around) (h₀ : Heap) (L : Addr) (m : Str → Option Value) (env : Env) (elt : PySem.Expr) (x₂ : Str) (scope : Scope) (cl : List (Str × Addr)) (Fin : Shared → List Value → Led → Prop) (xv : Value) (s₁ : Shared) : Prop :=
  Ex4 fun ax its prs news => Ex1 fun (Inv : Nat → Nat → List Value → Led → Prop) => An10 (xv = .ref ax) (A.handled = none) (Fr h₀ L s₁.heap m) (News h₀ L s₁.heap news) (2 * its.size ≤ sizeLine) ((∀ i j ys nw, Inv i j ys nw → Src2 h₀ its prs ax nw)) ((∀ i ys nw, Inv i 2 ys nw → Inv (i + 1) 0 ys nw)) (Inv 0 0 [] news) ((∀ i j ys nw u I oI C oC D J oJ m₂ h tk (E' : Value → Shared → Prop), i < its.size → j < 2 → Inv i j ys nw → (∃ pr, prs[i]? = some pr ∧ #[pr.1, pr.2][j]? = some u) → NsObj oC m₂ → m₂ x₂ = some u → Fr h₀ L h m → News h₀ L h ((I, oI) :: (C, oC) :: (D, lst ys) :: (J, oJ) :: nw) →
      Off3 I C D ((J, oJ) :: nw) → Off1 J nw → ((@Ne Nat I C) ∧ (@Ne Nat I D) ∧ (@Ne Nat C D)) →
      wpAny (model prog w) A (eval elt (compEnvC scope cl C env)) (CompEnd h₀ L m { s₁ with heap := h, toks := tk } I oI C oC D (lst ys) (fun nw' => ∃ nw'', nw' = (J, oJ) :: nw'' ∧ Off1 J nw'') (fun y nw' => ∃ nw'', nw' = (J, oJ) :: nw'' ∧ Inv i (j + 1) (ys ++ [y]) nw'')) E' { s₁ with heap := h, toks := tk })) ((∀ ys nw, Inv its.size 0 ys nw → Fin s₁ ys nw))
section
variable {prog : Program} {w : World} {A : Around} {E : Value → Shared → Prop} {s : Shared} {h₀ : Heap} {L : Addr} {m : Str → Option Value} {env : Env}
theorem Assign_ListComp_2 {elt iter : PySem.Expr} {x x₂ y : Str} {px px' px₂ py : Pos} {scope : Scope} {cl : List (Str × Addr)} {pos spos : Pos} {Q : Flow → Shared → Prop} (hLe : env.locals = L)
    (hsw : swapsWith (LC2 elt (.Name x px) iter (.Name x₂ px₂) (.Name x px') scope pos) (some (.Name y py)) spos.line env = pure true)
    (hclos : closureFor scope env = pure cl) (hcell : ∀ z ∈ scope.names, z.2 ≠ .cell) (hkind : scope.kind = .function)
    (hnames : ∀ z ∈ scope.names, z.2 = .local → scope.names.lookup z.1 = some .local) (hx : scope.names.lookup x = some .local) (hx₂ : scope.names.lookup x₂ = some .local) (hdb : (x == ("__debug__" : Str)) = false)
    (hy : env.kindOf y = some .local) (hp : (env.scope.kind == .class || (env.scope.kind == .module && env.locals != env.globals)) = false)
    (h : wpAny (model prog w) A (eval iter env) (CompSrc2 prog w A h₀ L m env elt x₂ scope cl (fun s₂ => FinA h₀ L m s₂ y Q)) E s)
    (hs : ∀ x, foldedSetIterable iter env x = pure x := by intro _; rfl) :
    wpAny (model prog w) A (exec (.Assign [.Name y py] (LC2 elt (.Name x px) iter (.Name x₂ px₂) (.Name x px') scope pos) spos) env) Q E s := by
  subst hLe
  rw [exec_Assign_Name_used _ _ _ _ hsw]
  refine wpAny_bind (wpAny_standAt (wpAny_bind ?_))
  show wpAny _ A (do let _ ← comprehension (LC2 elt (.Name x px) iter (.Name x₂ px₂) (.Name x px') scope pos) scope env _ (newList []) false (eval iter env) (some (assign (.Name y py) env))) _ _ s
  refine wpAny_bind (wpAny_mono (wpAny_comprehension_free (use := some (assign (.Name y py) env)) (Q := fun _ s' => Q .next s') rfl hs hclos hkind hnames
    (wpAny_mono h (fun xv s₁ h₁ => ?_) fun _ _ e => e)) (fun _ s' hq => wpAny_pure (wpAny_pure hq)) fun _ _ e => e)
  obtain ⟨ax, its, prs, news, Inv, rfl, hh, F, N, hsz, hS, hN, R, step, fin⟩ := h₁
  have hl := (hS _ _ _ _ R).1.list F.keep N
  have hlt : ax < s₁.heap.objs.size := by obtain ⟨_, e, _⟩ := hl; exact Heap.lt_size e
  refine wpAny_pyIter_list hl ?_
  have up : ∀ b o, s₁.heap.get? b = some o → (s₁.heap.push { cls := .type "list_iterator", data := .fields #[.ref ax, .int 0 0] }).get? b = some o := fun b o e => Heap.get?_push_of_some _ e
  refine block_2 (prs := prs) Inv hsz hS hN hcell hkind hx hx₂ hdb hh (Nat.ne_of_lt hlt) ⟨⟨_, Heap.get?_push_size _ rfl, rfl, rfl⟩, hl.push _⟩
    (F.keeps up) (N.grown up) (Nat.ne_of_lt F.ns.lt) (next_is_new F) (fun p hp => Nat.ne_of_lt (Heap.lt_size (N p hp).1)) R (fun i j ys nw u oI C oC D J oJ m₂ h tk E' => step i j ys nw u _ oI C oC D J oJ m₂ h tk E') ?_
  intro D C h' tk m' ys news' F' N' o1 hn hC₀ hD₀ hCL hDL hCD offC fin'
  show wpAny _ A (assign (.Name y py) env (.ref D)) _ _ _
  refine wpAny_assign_Name (wpAny_storeName_local hy F'.ns (fun h₂ hn₂ hs₂ => ?_) hp)
  have hL₀ : h₀.get? env.locals = none := Heap.get?_none_of_le F'.above
  have F₂ : Fr h₀ env.locals h₂ (fun z => if z = y then some (.ref D) else m z) := ⟨hn₂, fun b o e => hs₂.extBut b o (fun q => by rw [q, hL₀] at e; cases e) (F'.keep b o e), F'.above⟩
  refine ⟨m', hn.sameBut hs₂ hCL, fun h'' hs'' => fin ys news' fin' D h'' _ (F₂.change hs'' hCL hC₀) (fun p hp => ?_) o1⟩
  have z : h₂.get? p.1 = some p.2 := hs₂.extBut _ _ (N' p hp).2.1 (N' p hp).1
  refine ⟨hs''.extBut _ _ ?_ z, (N' p hp).2⟩
  rcases List.mem_cons.mp hp with rfl | hp
  · exact Ne.symm hCD
  · exact offC p hp
end
end
section
variable {w : World} {p : Program} {loose : List Str} {mean : ExcName → Option Value} {mg mb : Str → Option Value} {A : Around} {s : Shared} {Q E : Value → Shared → Prop}
theorem unsOut {P : AP} {v : Value} {r : List Pr × Int × Bool} {nx : Led} (h : Rd (InL nx) v (unsD r)) : Ex6 fun a na pl us k t1 => An4 (v = .ref a) ((a, tupO [Value.ref pl, Value.int r.2.1 t1, Value.bool r.2.2].toArray na) ∈ nx) ((pl, listOf us.toArray k) ∈ nx) (RdAll (InL nx) us (r.1.map pairD)) := by
  cases h with
  | @tup a us na _ hp hus =>
    cases hus with
    | cons q1 hus =>
      cases hus with
      | cons q2 hus =>
        cases hus with
        | cons q3 hus =>
          cases hus
          cases q2
          cases q3
          cases q1 with
          | @list pl us k _ hl hr => exact ⟨_, _, _, _, _, _, rfl, hp, hl, hr⟩
theorem uns_len (o : List UInt8) (ms : List Mk) : ∀ n k, (uns o ms n k).1.length ≤ n
  | 0, _ => Nat.le_refl _
  | n + 1, k => by
    rw [uns]
    split
    · exact Nat.succ_le_succ (uns_len o ms n _)
    · exact Nat.zero_le _
theorem unstr_len (o : List UInt8) (ms : List Mk) (b : Int) (n : Nat) : (unstr o ms b n).1.length ≤ n := by
  unfold unstr
  split
  · exact uns_len o ms n _
  · exact Nat.zero_le _
theorem depAll_pairs : ∀ xs : List Pr, depAll (xs.map pairD) ≤ 1
  | [] => by simp [depAll]
  | x :: xs => by
    have := depAll_pairs xs
    rw [List.map_cons, depAll]
    simp [pairD, dep, depAll]
    omega
theorem dep_uns (r : List Pr × Int × Bool) : depAll [pairsD r.1, .int r.2.1, .bool r.2.2] ≤ 2 := by
  have := depAll_pairs r.1
  simp [depAll, pairsD, dep]
  omega
theorem okEq {k : Nat} {A : Around} {ds : List D} (o : Ok k A) (h : depAll ds + 3 < 800) : A.units + depAll ds + 3 < cLine := by
  have := o.units (j := depAll ds + 3) (by omega)
  omega
theorem unsIn {P : AP} {a pl : Addr} {na k : Nat} {us : List Value} {i : Int} {t : Tok} {c : Bool} {xs : List Pr} (h1 : P a (tupO [Value.ref pl, Value.int i t, Value.bool c].toArray na)) (h2 : P pl (listOf us.toArray k)) (hr : RdAll P us (xs.map pairD)) : Rd P (.ref a) (unsD (xs, i, c)) :=
  .tup h1 (.cons (.list h2 hr) (.cons (.int _ _) (.cons (.bool _) .nil)))
theorem eq_uns {g : Heap} {L : Addr} {news : Led} {W O : List Pr × Int × Bool} {a a' pl pl' : Addr} {na na' k k' j : Nat} {us us' : List Value} {t1 t1' : Tok} (N : News g L s.heap news) (hA : Ok j A)
  (m1 : (a, tupO [Value.ref pl, Value.int W.2.1 t1, Value.bool W.2.2].toArray na) ∈ news) (m2 : (pl, listOf us.toArray k) ∈ news) (hr : RdAll (InL news) us (W.1.map pairD))
  (m1' : (a', tupO [Value.ref pl', Value.int O.2.1 t1', Value.bool O.2.2].toArray na') ∈ news) (m2' : (pl', listOf us'.toArray k') ∈ news) (hr' : RdAll (InL news) us' (O.1.map pairD)) (e : W = O)
  (hQ : Q (.bool true) s) : wpAny (model prog w) A (compareOp .Eq (.ref a) (.ref a')) Q E s := by
  subst e
  have h1 : Rd (InL news) (.ref a) (unsD W) := unsIn m1 m2 hr
  have h2 : Rd (InL news) (.ref a') (unsD W) := unsIn m1' m2' hr'
  exact eq_tup (h1.led N fun _ h => h) (h2.led N fun _ h => h) (okEq hA (by have := dep_uns W; omega)) hQ
theorem unstr_u {g : Heap} {L : Addr} {m₀ : Str → Option Value} {news : Led} {o : List UInt8} {ms : List Mk} {dv : Value} {t kt nt : Tok} {b mi : Int} (B : Base w p loose mean mg mb g := by walk_at "ka") (F : Fr g L s.heap m₀ := by walk_at "ka") (N : News g L s.heap news := by walk_at "ka") (hA : Ok 4 A := by walk_at "kk")
  (h2 : o.length ≤ 1000000 := by walk_at "ko") (h30 : 0 ≤ mi := by walk_at "ko") (h3 : mi ≤ 1000000 := by walk_at "ko") (hm : Rd (H s.heap) dv (marksD ms) := by k_dflt (walk_at "mine rd")) (hms : ∀ m ∈ ms, m.1 ≠ [] ∧ m.1.length ≤ 1000000 := by walk_at "ka")
  (hQ : ∀ a na pl us k t1 nx h' tk', Fr g L h' m₀ → News g L h' ((a, tupO [Value.ref pl, Value.int (unstr o ms b mi.toNat).2.1 t1, Value.bool (unstr o ms b mi.toNat).2.2].toArray na) :: (pl, listOf us.toArray k) :: (nx ++ news)) → a ≠ pl → (∀ q ∈ news, a ≠ q.1) → (∀ q ∈ news, pl ≠ q.1) → (∀ p ∈ nx, ∀ q ∈ news, p.1 ≠ q.1) → RdAll (InL nx) us ((unstr o ms b mi.toNat).1.map pairD) → (us.length : Int) ≤ mi → Q (.ref a) { s with heap := h', toks := tk' }) :
  wpAny (model prog w) A (call (.ref 111) [.bytes o.toArray t, dv, .int b kt, .int mi nt]) Q E s := by
  obtain ⟨many, rfl⟩ := Int.eq_ofNat_of_zero_le h30
  refine (unstrung_c (many := many) (B.keeps F.keep) hA h2 (by omega) hm hms).use F N fun v h' tk' nx F' N' ap r => ?_
  obtain ⟨a, na, pl, us, k, t1, rfl, m1, m2, hr⟩ := unsOut (P := No) r.noUn
  rw [Int.toNat_natCast] at hQ
  have hul := hr.length
  have hul2 := unstr_len o ms b many
  rw [List.length_map] at hul
  refine hQ a na pl us k t1 nx h' tk' F' (fun p hp => ?_) (fun e => ?_) (fun q hq => ap _ m1 q hq) (fun q hq => ap _ m2 q hq) ap hr (by omega)
  · rcases List.mem_cons.mp hp with rfl | hp
    · exact N' _ (List.mem_append.mpr (.inl m1))
    · rcases List.mem_cons.mp hp with rfl | hp
      · exact N' _ (List.mem_append.mpr (.inl m2))
      · exact N' _ hp
  · subst e
    have e1 := (N' _ (List.mem_append.mpr (.inl m1))).1
    have e2 := (N' _ (List.mem_append.mpr (.inl m2))).1
    dsimp only at e1 e2
    rw [e1] at e2
    simp at e2
end
local macro_rules | `(tactic| walk_at "mine mem") => `(tactic| first | exact List.Mem.head _ | (refine List.Mem.tail _ ?_; walk_at "mine mem") | (refine List.mem_append.mpr (Or.inr ?_); walk_at "mine mem"))
section
variable {w : World} {p : Program} {loose : List Str} {mean : ExcName → Option Value} {mg mb : Str → Option Value} {A : Around} {s : Shared} {Q E : Value → Shared → Prop}
theorem item_t {g : Heap} {L : Addr} {news : Led} {value slice : PySem.Expr} {t : Addr} {l : List Value} {n : Nat} {k : Int} {u : Tok} {j : Nat} {x : Value} (N : News g L s.heap news := by walk_at "ka") (hm : (t, tupO l.toArray n) ∈ news := by walk_at "km")
    (hlo : -(2 ^ 63) ≤ k := by k_dflt decide) (hhi : k < 2 ^ 63 := by k_dflt decide) (hj : seqIndex? k l.length = some j := by k_dflt rfl) (hx : l[j]? = some x := by k_dflt rfl) (h : Q x s)
    (hs : subscripted slice false (.ref t) (.int k u) = operate [.ref t, .int k u] (getItem (.ref t) (.int k u)) := by with_unfolding_all rfl) :
    wpAny (model prog w) A (subscriptTail value slice (.ref t) (.int k u)) Q E s := item_tupleT ⟨_, (N _ hm).1, rfl, _, rfl⟩ hlo hhi hj hx h hs
end
local macro_rules | `(tactic| walk_at "subscriptTail") => `(tactic| (with_reducible refine' item_t (h := ?_)))
section
variable {w : World} {p : Program} {loose : List Str} {mean : ExcName → Option Value} {mg mb : Str → Option Value} {A : Around} {s : Shared} {Q E : Value → Shared → Prop}
end
local macro_rules | `(tactic| walk_at "binaryOp Add ref ref") => `(tactic| ((with_reducible refine' add_listsA (h := ?_)); walk_at "z"))
section
variable {w : World} {p : Program} {loose : List Str} {mean : ExcName → Option Value} {mg mb : Str → Option Value} {A : Around} {s : Shared} {Q E : Value → Shared → Prop}
end
local macro_rules | `(tactic| walk_at "call ref") => `(tactic| ((with_reducible refine' unstr_u (hQ := ?_)); walk_at "z"))
section
variable {w : World} {p : Program} {loose : List Str} {mean : ExcName → Option Value} {mg mb : Str → Option Value} {A : Around} {s : Shared} {Q E : Value → Shared → Prop}
end
local macro_rules | `(tactic| walk_at "compareOp Eq ref ref") => `(tactic| refine Stop.mk ?_)
section
variable {w : World} {p : Program} {loose : List Str} {mean : ExcName → Option Value} {mg mb : Str → Option Value} {A : Around} {s : Shared} {Q E : Value → Shared → Prop}
end
local macro_rules | `(tactic| walk_at "compareOp Eq ref ref") => `(tactic| (with_reducible refine' eq_nil (hQ := ?_)))
section
variable {w : World} {p : Program} {loose : List Str} {mean : ExcName → Option Value} {mg mb : Str → Option Value} {A : Around} {s : Shared} {Q E : Value → Shared → Prop}
theorem rdSub {P P' : AP} {vs : List Value} {ds : List D} (hr : RdAll P vs ds) (hs : ∀ a o, P a o → P' a o) : RdAll P' vs ds := hr.mono hs
theorem ne_of_full {P : AP} {us : List Value} {xs : List Pr} (hr : RdAll P us (xs.map pairD)) (h : us.isEmpty = false) : xs ≠ [] := fun e => by
  subst e
  cases hr
  simp at h
theorem two_rng {o : List UInt8} {ms : List Mk} {b : Int} {n : Nat} (h : (unstr o ms b n).1 ≠ [] ∨ ¬ (unstr o ms b n).2.1 = b) : 1 ≤ b ∧ b ≤ o.length := by
  by_cases c : 1 ≤ b ∧ b ≤ o.length
  · exact c
  · unfold unstr at h
    rw [if_neg c] at h
    simp at h
end
local macro_rules | `(tactic| walk_at "mine subm") => `(tactic| (intro _ _ h9; repeat (first | exact h9 | exact List.mem_append_left _ h9 | refine List.Mem.tail _ ?_ | refine List.mem_append_right _ ?_)))
section
variable {w : World} {p : Program} {loose : List Str} {mean : ExcName → Option Value} {mg mb : Str → Option Value} {A : Around} {s : Shared} {Q E : Value → Shared → Prop}
set_option maxHeartbeats 8000000 in
theorem in_two_c {o : List UInt8} {ms : List Mk} {mv : Value} {t kt nt ft : Tok} {b : Int} {many first : Nat} (B : Base w p loose mean mg mb s.heap) (hA : Ok 5 A)
  (h2 : o.length ≤ 1000000) (h3 : many ≤ 1000000) (h4 : first ≤ many) (hm : Rd (H s.heap) mv (marksD ms)) (hms : ∀ m ∈ ms, m.1 ≠ [] ∧ m.1.length ≤ 1000000)
  (law1 : (unstr o ms b first).2.2 = false → unstr o ms b many = unstr o ms b first)
  (law2 : (unstr o ms b first).2.2 = true → ¬ (1 ≤ b ∧ b ≤ o.length) → unstr o ms b many = unstr o ms b first)
  (law3 : (unstr o ms b first).2.2 = true → (1 ≤ b ∧ b ≤ o.length) → unstr o ms b many = ((unstr o ms b first).1 ++ (unstr o ms (unstr o ms b first).2.1 (many - first)).1, (unstr o ms (unstr o ms b first).2.1 (many - first)).2))
  (hQ : ∀ h' tk', Keeps s.heap h' → Q (.bool true) { s with heap := h', toks := tk' }) :
  wpAny (model prog w) A (call (.ref 192) [.bytes o.toArray t, mv, .int b kt, .int many nt, .int first ft]) Q E s := by
  obtain ⟨ah, ad, af, ag, au⟩ := A
  obtain rfl : ah = none := hA.h
  have KX := B.k
  have T := B.t
  refine' enter (binds := [(Str.ofString "octets", .bytes o.toArray t), (Str.ofString "marks", mv), (Str.ofString "begin", .int b kt), (Str.ofString "many", .int many nt), (Str.ofString "first", .int first ft)]) B ?k1 ?k2 ?k3 ?k4 ?k5 ?_ ?k6 ?k7 ?k8 ?k9
  walk_at "mine sides"
  intro L h₁ tkE F
  have N : News s.heap L h₁ [] := News.nil
  walk_at "mine steps"
  all_goals
    refine Stop.out ?_
    have e7 : ((many : Int) - (first : Int)).toNat = many - first := Int.toNat_sub many first
    have e8 : ∀ n : Nat, (n : Int).toNat = n := fun n => Int.toNat_natCast n
    simp only [e7, e8] at *
    (with_reducible rename Fr _ _ _ _ => F9)
    (with_reducible rename News _ _ _ _ => N9)
    first
      | (refine eq_uns N9 (j := 4) (W := unstr o ms b many) (O := unstr o ms b first) (by walk_at "mine ok") (by walk_at "mine mem") (by walk_at "mine mem") (rdSub (by assumption) (by walk_at "mine subm")) (by walk_at "mine mem") (by walk_at "mine mem") (rdSub (by assumption) (by walk_at "mine subm")) ?_ (hQ _ _ (Fr.keep F9))
         first
           | exact law1 (by assumption)
           | exact law2 (by assumption) (by rw [← List.size_toArray]; omega))
      | (refine eq_uns N9 (j := 4) (W := unstr o ms b many) (O := ((unstr o ms b first).1 ++ (unstr o ms (unstr o ms b first).2.1 (many - first)).1, (unstr o ms (unstr o ms b first).2.1 (many - first)).2)) (by walk_at "mine ok") (by walk_at "mine mem") (by walk_at "mine mem") (rdSub (by assumption) (by walk_at "mine subm")) (by walk_at "mine mem") (by walk_at "mine mem") ?_ ?_ (hQ _ _ (Fr.keep F9))
         · rw [List.map_append]; exact RdAll.append (rdSub (by assumption) (by walk_at "mine subm")) (rdSub (by assumption) (by walk_at "mine subm"))
         · refine law3 (by assumption) ?_
           first
             | exact ⟨by assumption, by assumption⟩
             | exact two_rng (.inr (by assumption))
             | exact two_rng (.inl (ne_of_full (xs := (unstr o ms b first).1) (by assumption) (by assumption))))
end
section
open PySem PySem.W PySem.Calls PyProof.Rows
def endAt (o : List UInt8) (zs : List Nat) (b : Nat) (i : Nat) : Nat := min (b + (zs.take i).sum) o.length
def dueL (o : List UInt8) (zs : List Nat) (b : Nat) (i : Nat) : List Pr := ((List.range i).filter fun j => decide (endAt o zs b j < o.length)).map fun j => (cut o (endAt o zs b j) (endAt o zs b (j + 1)), [])
theorem sum_take1 (zs : List Nat) (i : Nat) (z : Nat) (h : zs[i]? = some z) : (zs.take (i + 1)).sum = (zs.take i).sum + z := by
  rw [List.take_add_one, h]; simp
theorem cut_min (o : List UInt8) (k m : Nat) : cut o k (min m o.length : Nat) = cut o k m := by
  unfold cut
  simp only [Int.toNat_natCast]
  by_cases h : m ≤ o.length
  · rw [Nat.min_eq_left h]
  · rw [Nat.min_eq_right (by omega), List.take_of_length_le (by rw [List.length_drop]; omega), List.take_of_length_le (by rw [List.length_drop]; omega)]
theorem cbs_law {o : List UInt8} {zs : List Nat} {b : Nat} : ∀ (r : List Nat) (i : Nat), zs.drop i = r → i + r.length = zs.length → 
    cbs o r (endAt o zs b i) = (((List.range' i r.length).filter fun j => decide (endAt o zs b j < o.length)).map fun j => (cut o (endAt o zs b j) (endAt o zs b (j + 1)), []), endAt o zs b zs.length)
  | [], i, h, hl => by
    simp at hl
    subst hl
    simp [cbs]
  | z :: r, i, h, hl => by
    have hz : zs[i]? = some z := by rw [← List.head?_drop, h]; rfl
    have hd : zs.drop (i + 1) = r := by rw [← List.drop_drop, h]; rfl
    have ih := cbs_law (o := o) (b := b) r (i + 1) hd (by simp at hl; omega)
    have hs := sum_take1 zs i z hz
    have e1 : List.range' i (z :: r).length = i :: List.range' (i + 1) r.length := by rw [List.length_cons, List.range'_succ]
    rw [e1, List.filter_cons]
    by_cases hk : endAt o zs b i < o.length
    · have e2 : min (endAt o zs b i + z) o.length = endAt o zs b (i + 1) := by
        unfold endAt at hk ⊢
        rw [hs]
        have hB : b + (zs.take i).sum < o.length := Nat.lt_of_not_le fun q => by rw [Nat.min_eq_right q] at hk; exact Nat.lt_irrefl _ hk
        rw [Nat.min_eq_left (Nat.le_of_lt hB), Nat.add_assoc]
      have e3 : cut o (endAt o zs b i) (endAt o zs b i + z : Nat) = cut o (endAt o zs b i) (endAt o zs b (i + 1)) := by rw [← e2, cut_min]
      rw [cbs, if_pos hk, e2, ih, if_pos (by simpa using hk), List.map_cons, e3]
    · have e2 : endAt o zs b i = endAt o zs b (i + 1) := by
        unfold endAt at hk ⊢
        rw [hs]
        have hB : o.length ≤ b + (zs.take i).sum := Nat.le_of_not_lt fun q => hk (by rw [Nat.min_eq_left (Nat.le_of_lt q)]; exact q)
        rw [Nat.min_eq_right hB, Nat.min_eq_right (Nat.le_trans hB (Nat.add_le_add_left (Nat.le_add_right _ _) _))]
      rw [cbs, if_neg hk, if_neg (by simpa using hk)]
      rw [e2] at *
      exact ih
theorem cut_law {o : List UInt8} {zs : List Nat} {b : Int} {bn : Nat} (hb : b = (bn : Int) + 1) (h2 : b ≤ o.length) : cutBy o zs b = (dueL o zs bn zs.length, (endAt o zs bn zs.length : Int) + 1, decide ((endAt o zs bn zs.length : Int) < (o.length : Int))) := by
  unfold cutBy
  have e : (b - 1).toNat = endAt o zs bn 0 := by
    rw [hb, Int.add_sub_cancel, Int.toNat_natCast]
    unfold endAt
    rw [List.take_zero, List.sum_nil, Nat.add_zero, Nat.min_eq_left (by omega)]
  have q := cbs_law (o := o) (zs := zs) (b := bn) zs 0 rfl (by omega)
  rw [if_pos (by omega), e, q]
  unfold dueL
  rw [← List.range_eq_range']
end
section
section
variable {w : World} {p : Program} {loose : List Str} {mean : ExcName → Option Value} {mg mb : Str → Option Value} {A : Around} {s : Shared} {Q E : Value → Shared → Prop}
theorem intsOf {P : AP} : ∀ {vs : List Value} {zs : List Nat}, RdAll P vs (zs.map fun (z : Nat) => D.int (z : Int)) → IntsAre vs (zs.map fun (z : Nat) => (z : Int))
  | _, [], h => by cases h; exact .nil
  | _, z :: zs, h => by
    cases h with
    | cons r h => cases r; exact .cons _ _ (intsOf h)
theorem sum_take (zs : List Nat) : ∀ i, (List.take i (zs.map fun (z : Nat) => (z : Int))).sum = (((zs.take i).sum : Nat) : Int) := by
  induction zs with
  | nil => intro i; cases i <;> rfl
  | cons z zs ih =>
    intro i
    cases i with
    | zero => rfl
    | succ i => rw [List.map_cons, List.take_succ_cons, List.take_succ_cons, List.sum_cons, List.sum_cons, ih i]; omega
theorem ends_eq {o : List UInt8} {zs : List Nat} {b : Int} {bn i : Nat} {ns : List Int} (hb : b = (bn : Int) + 1) (hns : (zs.map fun (z : Nat) => (z : Int)) = ns) :
    (if (o.toArray.size : Int) < b - 1 + (List.take (0 + (i : Int)).toNat ns).sum then (o.toArray.size : Int) else b - 1 + (List.take (0 + (i : Int)).toNat ns).sum) = (endAt o zs bn i : Int) := by
  subst hns hb
  rw [show (0 + (i : Int)).toNat = i by omega, sum_take, List.size_toArray, endAt]
  split <;> omega
theorem getEnd {o : List UInt8} {zs : List Nat} {bn n i : Nat} {k : Int} (hk : k.toNat = i) (h : i < n) : ((List.range n).map fun j => (endAt o zs bn j : Int)).getD k.toNat 0 = (endAt o zs bn i : Int) := by
  rw [hk, List.getD_eq_getElem?_getD, List.getElem?_map, List.getElem?_range h]; rfl
theorem end_le {o : List UInt8} {zs : List Nat} {bn i : Nat} : endAt o zs bn i ≤ o.length := Nat.min_le_right _ _
theorem dueL_succ {o : List UInt8} {zs : List Nat} {bn i : Nat} : dueL o zs bn (i + 1) = dueL o zs bn i ++ if endAt o zs bn i < o.length then [(cut o (endAt o zs bn i) (endAt o zs bn (i + 1)), [])] else [] := by
  unfold dueL
  rw [List.range_succ, List.filter_append, List.map_append]
  congr 1
  by_cases h : endAt o zs bn i < o.length
  · simp [h]
  · simp [h]
theorem rot8 {x a b c d e f g h : Addr × Obj} {tl : Led} : ∀ p ∈ a :: b :: c :: d :: e :: f :: g :: h :: x :: tl, p ∈ x :: a :: b :: c :: d :: e :: f :: g :: h :: tl := by walk_at "sb"
theorem cut_u {g : Heap} {L : Addr} {m₀ : Str → Option Value} {news : Led} {o : List UInt8} {zs : List Nat} {sv : Value} {t kt : Tok} {b : Int} (B : Base w p loose mean mg mb g := by walk_at "ka") (F : Fr g L s.heap m₀ := by walk_at "ka") (N : News g L s.heap news := by walk_at "ka") (hA : Ok 2 A := by walk_at "kk")
  (h2 : o.length ≤ 1000000 := by walk_at "ko") (hm : Rd (H s.heap) sv (natsD zs) := by k_dflt (walk_at "mine rd")) (h3 : zs.length ≤ 1000000 := by walk_at "ko") (hzs : ∀ z ∈ zs, z ≤ 1000000 := by walk_at "ka")
  (hQ : ∀ a na pl us k t1 nx h' tk', Fr g L h' m₀ → News g L h' ((a, tupO [Value.ref pl, Value.int (cutBy o zs b).2.1 t1, Value.bool (cutBy o zs b).2.2].toArray na) :: (pl, listOf us.toArray k) :: (news ++ nx)) → (∀ q ∈ news, a ≠ q.1) → (∀ q ∈ news, pl ≠ q.1) → (∀ p ∈ nx, ∀ q ∈ news, p.1 ≠ q.1) → RdAll (InL nx) us ((cutBy o zs b).1.map pairD) → Q (.ref a) { s with heap := h', toks := tk' }) :
  wpAny (model prog w) A (call (.ref 118) [.bytes o.toArray t, sv, .int b kt]) Q E s := by
  refine (cut_by_sizes_c (B.keeps F.keep) hA h2 h3 hm hzs).use F N fun v h' tk' nx F' N' ap r => ?_
  obtain ⟨a, na, pl, us, k, t1, rfl, m1, m2, hr⟩ := unsOut (P := No) r.noUn
  refine hQ a na pl us k t1 nx h' tk' F' (fun p hp => ?_) (fun q hq => ap _ m1 q hq) (fun q hq => ap _ m2 q hq) ap hr
  rcases List.mem_cons.mp hp with rfl | hp
  · exact N' _ (List.mem_append.mpr (.inl m1))
  · rcases List.mem_cons.mp hp with rfl | hp
    · exact N' _ (List.mem_append.mpr (.inl m2))
    · exact N' _ (List.mem_append.mpr (List.mem_append.mp hp).symm)
local macro_rules | `(tactic| walk_at "call ref") => `(tactic| ((with_reducible refine' cut_u (hQ := ?_)); walk_at "zc"))
local macro_rules | `(tactic| walk_at "compareOp Eq ref ref") => `(tactic| refine Stop.mk ?_)
set_option maxHeartbeats 2000000 in
theorem sizes_right_c {o : List UInt8} {zs : List Nat} {sv : Value} {t kt : Tok} {b : Int} (B : Base w p loose mean mg mb s.heap) (hA : Ok 4 A)
  (h2 : o.length ≤ 1000) (h3 : zs.length ≤ 100) (hm : Rd (H s.heap) sv (natsD zs)) (hzs : ∀ z ∈ zs, z ≤ 1000000)
  (hQ : ∀ h' tk', Keeps s.heap h' → Q (.bool true) { s with heap := h', toks := tk' }) :
  wpAny (model prog w) A (call (.ref 185) [.bytes o.toArray t, sv, .int b kt]) Q E s := by
  obtain ⟨ah, ad, af, ag, au⟩ := A
  obtain rfl : ah = none := hA.h
  obtain ⟨sl, vz, rfl, hl, hvz⟩ := hm.isList
  have hi := intsOf hvz
  generalize hns : (zs.map fun (z : Nat) => (z : Int)) = ns at hi
  have hnl : ns.length = zs.length := by rw [← hns, List.length_map]
  have husl : vz.toArray.size = ns.length := by rw [List.size_toArray]; exact hi.length
  have hlen : ns.length ≤ 100 := by omega
  have KX := B.k
  have T := B.t
  refine' enterC (binds := [(Str.ofString "octets", .bytes o.toArray t), (Str.ofString "sizes", .ref sl), (Str.ofString "begin", .int b kt)]) B ?k1 ?k2 ?k3 ?k4 ?k5 ?_ ?k6 ?k7 ?k8 ?k9
  walk_at "mine sidesC"
  intro L h₁ tk cells F N Y
  have Y' : CellsAre _ [(Str.ofString "ends", L + 4), (Str.ofString "begin", L + 3), (Str.ofString "sizes", L + 2), (Str.ofString "octets", L + 1)] cells := Y
  obtain ⟨o1, o2, o3, o4, rfl, d1, d2, d3, d4⟩ := Y'.four
  have d1' : o1.data = .cell none := d1
  have d2' : o2.data = .cell (some (.int b kt)) := d2
  have d3' : o3.data = .cell (some (.ref sl)) := d3
  have d4' : o4.data = .cell (some (.bytes o.toArray t)) := d4
  have F' := frMap F (m' := fun y => none) (fun y => rfl)
  clear F Y Y' d1 d2 d3 d4
  walk_at "mine steps"
  iterate 2
    · refine Stop.out ?_
      (with_reducible rename Fr _ _ _ _ => F9)
      (with_reducible rename News _ _ _ _ => N9)
      (with_reducible rename RdAll (InL _) _ _ => hr9)
      refine eq_uns N9 (j := 3) (W := cutBy o zs b) (O := ([], b, true)) (by walk_at "mine ok") (by walk_at "mine mem") (by walk_at "mine mem") (rdSub hr9 ?_) (us' := []) (by walk_at "mine mem") (by walk_at "mine mem") .nil ?_ (hQ _ _ (Fr.keep F9))
      · refine subInL ?_
        walk_at "sb"
      · unfold cutBy
        rw [if_neg (by rw [← List.size_toArray]; omega)]
  refine Stop.out ?_
  have hb1 : ¬ b < 1 := by assumption
  have hb2 : ¬ (o.toArray.size : Int) < b := by assumption
  rw [List.size_toArray] at hb2
  obtain ⟨bn, hbn⟩ : ∃ bn : Nat, b = (bn : Int) + 1 := ⟨(b - 1).toNat, by omega⟩
  (with_reducible rename Fr _ _ _ _ => F9)
  (with_reducible rename News _ _ _ _ => N9)
  refine LCg.CompSrc.range rfl F9 N9 (by assumption) (small_one (by omega) (by omega) (by omega) (by omega)) (n := zs.length + 1) (by rw [hnl]; exact rangeSize_nat 0 (zs.length + 1)) ?_ ?_
  · rw [sizeLine_eq]; omega
  intro g'
  refine comp_ind (fun i ys news => news = [(L + 4, o1), (L + 3, o2), (L + 2, o3), (L + 1, o4)] ∧ IntsAre ys ((List.range i).map fun j => (endAt o zs bn j : Int))) ⟨rfl, .nil⟩ ?_ ?_
  · rintro i ys news v J oJ C oC D m₂ h tk E' hi' ⟨rfl, hys⟩ ⟨tv, rfl⟩ hC hx F₂ N₂ off ne
    have off' := off
    simp only [LCg.Off3, and_true] at off'
    walk_at "mine steps"
    refine Stop.out ?_
    (with_reducible rename News _ _ _ _ => N9)
    refine LCg.CompEnd.intro (by assumption) N9 [_, _, _, _] (fun q hq => .tail _ hq) off trivial ⟨rfl, ?_⟩
    rw [List.range_succ, List.map_append, List.map_singleton, ← ends_eq hbn hns]
    exact hys.append (.cons _ _ .nil)
  · rintro ys news ⟨rfl, hys⟩
    intro D h tk F₁ N₁ off
    have off' := off
    simp only [LCg.Off1, and_true] at off'
    have hyl : ys.length = zs.length + 1 := by have := hys.length; simpa using this
    have hyl' : ys.toArray.size = zs.length + 1 := by rw [List.size_toArray, hyl]
    have hendl : ((List.range (zs.length + 1)).map fun j => (endAt o zs bn j : Int)).length = zs.length + 1 := by simp
    walk_at "mine steps"
    refine Stop.out ?_
    (with_reducible rename Fr _ _ _ _ => F9)
    (with_reducible rename News _ _ _ _ => N9)
    refine LCt.CompSrcT.range rfl F9 N9 (by assumption) (small_one (by omega) (by omega) (by omega) (by omega)) (n := zs.length) (by rw [hnl]; exact rangeSize_nat 0 zs.length) (by rw [sizeLine_eq]; omega) ?_
    intro g2
    refine compT_ind (fun i ws news => ∃ tl, news = (D, LCg.lst ys) :: _ :: (L + 3, o2) :: (L + 2, o3) :: (L + 1, o4) :: tl ∧ RdAll (InL tl) ws ((dueL o zs bn i).map pairD)) ⟨[], rfl, .nil⟩ ?_ ?_
    · rintro i ws news v J oJ C oC D2 m₂ h2' tk2 E' hi2 ⟨tl, rfl, hws⟩ ⟨tv, rfl⟩ hC hx F₂ N₂ off2 ne
      have off2' := off2
      simp only [LCg.Off3] at off2'
      have he0 := getEnd (o := o) (zs := zs) (bn := bn) (n := zs.length + 1) (i := i) (k := 0 + (i : Int)) (by omega) (by omega)
      have he1 := getEnd (o := o) (zs := zs) (bn := bn) (n := zs.length + 1) (i := i + 1) (k := 0 + (i : Int) + 1) (by omega) (by omega)
      walk_at "mine steps"
      · refine Stop.out ?_
        (with_reducible rename News _ _ _ _ => N9)
        have hlt : ((List.range (zs.length + 1)).map fun j => (endAt o zs bn j : Int)).getD (0 + (i : Int)).toNat 0 < (o.toArray.size : Int) := by assumption
        rw [he0, List.size_toArray] at hlt
        rw [he0, he1] at N9
        have hk : endAt o zs bn i < o.length := by omega
        refine' LCg.CompEnd.intro (by assumption) N9 (_ :: _ :: _ :: _ :: _ :: _ :: tl) rot8 ⟨off2.1, off2.2.1, off2.2.2.1, off2.2.2.2.1, off2.2.2.2.2.1, ⟨?o1, ?o2, ?o3⟩, off2.2.2.2.2.2⟩ trivial ⟨_ :: tl, rfl, ?_⟩
        case o1 => refine neN ?_; dsimp only; omega
        case o2 => refine neN ?_; dsimp only; omega
        case o3 => refine neN ?_; dsimp only; omega
        rw [dueL_succ, if_pos hk, List.map_append]
        exact (hws.mono fun _ _ hm => .tail _ hm).append (.one (.tup (.head _) (.cons (.bytes _ _) (.cons (.bytes _ _) .nil))))
      · refine Stop.out ?_
        have hlt : ¬ ((List.range (zs.length + 1)).map fun j => (endAt o zs bn j : Int)).getD (0 + (i : Int)).toNat 0 < (o.toArray.size : Int) := by assumption
        rw [he0, List.size_toArray] at hlt
        have hk : ¬ endAt o zs bn i < o.length := by omega
        refine LCg.CompEnd.intro F₂ N₂ (_ :: _ :: _ :: _ :: _ :: tl) (fun q hq => hq) off2 trivial ⟨tl, rfl, ?_⟩
        rw [dueL_succ, if_neg hk, List.append_nil]
        exact hws
    · rintro ws news ⟨tl, rfl, hws⟩
      intro D2 h2' tk2 F₂ N₂ off2
      have off2' := off2
      simp only [LCg.Off1] at off2'
      have heL := getEnd (o := o) (zs := zs) (bn := bn) (n := zs.length + 1) (i := zs.length) (k := -1 + (((List.range (zs.length + 1)).map fun j => (endAt o zs bn j : Int)).length : Int)) (by omega) (by omega)
      walk_at "mine steps"
      refine Stop.out ?_
      (with_reducible rename Fr _ _ _ _ => F8)
      (with_reducible rename News _ _ _ _ => N8)
      (with_reducible rename RdAll (InL _) _ _ => hr9)
      have h7 := cut_law (o := o) (zs := zs) hbn (by omega)
      rw [heL, List.size_toArray] at N8
      refine eq_uns N8 (j := 3) (W := cutBy o zs b) (O := (dueL o zs bn zs.length, (endAt o zs bn zs.length : Int) + 1, decide ((endAt o zs bn zs.length : Int) < (o.length : Int)))) (by walk_at "mine ok") (by walk_at "mine mem") (by walk_at "mine mem") (rdSub hr9 ?_) (by walk_at "mine mem") (by walk_at "mine mem") (rdSub hws ?_) h7 (hQ _ _ (Fr.keep F8))
      all_goals
        refine subInL ?_
        walk_at "sb"
end
end
section
open PySem PySem.W PySem.Calls PyProof.Rows
section
variable {w : World} {p : Program} {loose : List Str} {mean : ExcName → Option Value} {mg mb : Str → Option Value} {A : Around} {s : Shared} {Q E : Value → Shared → Prop}
  {g : Heap} {L : Addr} {m₀ : Str → Option Value} {news : Led} {o : List UInt8} {ms : List Mk} {dv : Value} {t kt nt : Tok} {b mi : Int}
theorem pure_uns {tr : Sem Value} {r : List Pr × Int × Bool} (h : Pure w A tr No s (unsD r)) (F : Fr g L s.heap m₀) (N : News g L s.heap news)
  (hQ : ∀ a na pl us k t1 nx h' tk', Fr g L h' m₀ → News g L h' ((a, tupO [Value.ref pl, Value.int r.2.1 t1, Value.bool r.2.2].toArray na) :: (pl, listOf us.toArray k) :: (news ++ nx)) → RdAll (InL nx) us (r.1.map pairD) → Q (.ref a) { s with heap := h', toks := tk' }) :
  wpAny (model prog w) A tr Q E s := by
  refine h.use F N fun v h' tk' nx F' N' ap r => ?_
  obtain ⟨a, na, pl, us, k, t1, rfl, m1, m2, hr⟩ := unsOut (P := No) r.noUn
  refine hQ a na pl us k t1 nx h' tk' F' (fun p hp => ?_) hr
  rcases List.mem_cons.mp hp with rfl | hp
  · exact N' _ (List.mem_append.mpr (.inl m1))
  · rcases List.mem_cons.mp hp with rfl | hp
    · exact N' _ (List.mem_append.mpr (.inl m2))
    · exact N' _ (List.mem_append.mpr (List.mem_append.mp hp).symm)
theorem unstr_v (B : Base w p loose mean mg mb g := by walk_at "ka") (F : Fr g L s.heap m₀ := by walk_at "ka") (N : News g L s.heap news := by walk_at "ka") (hA : Ok 4 A := by walk_at "kk")
  (h2 : o.length ≤ 1000 := by walk_at "ko") (h30 : 0 ≤ mi := by walk_at "ko") (h3 : mi ≤ 1000 := by walk_at "ko") (hm : Rd (H s.heap) dv (marksD ms) := by k_dflt (walk_at "mine rdm")) (hms : ∀ m ∈ ms, m.1 ≠ [] ∧ m.1.length ≤ 16 := by walk_at "ka")
  (hQ : ∀ a na pl us k t1 nx h' tk', Fr g L h' m₀ → News g L h' ((a, tupO [Value.ref pl, Value.int (unstr o ms b mi.toNat).2.1 t1, Value.bool (unstr o ms b mi.toNat).2.2].toArray na) :: (pl, listOf us.toArray k) :: (news ++ nx)) → RdAll (InL nx) us ((unstr o ms b mi.toNat).1.map pairD) → Q (.ref a) { s with heap := h', toks := tk' }) :
  wpAny (model prog w) A (call (.ref 111) [.bytes o.toArray t, dv, .int b kt, .int mi nt]) Q E s := by
  obtain ⟨many, rfl⟩ := Int.eq_ofNat_of_zero_le h30
  rw [Int.toNat_natCast] at hQ
  exact pure_uns (unstrung_c (many := many) (B.keeps F.keep) hA (by omega) (by omega) hm fun m h => ⟨(hms m h).1, by have := (hms m h).2; omega⟩) F N hQ
theorem due_v (B : Base w p loose mean mg mb g := by walk_at "ka") (F : Fr g L s.heap m₀ := by walk_at "ka") (N : News g L s.heap news := by walk_at "ka") (hA : Ok 4 A := by walk_at "kk")
  (h2 : o.length ≤ 1000 := by walk_at "ko") (h30 : 0 ≤ mi := by walk_at "ko") (h3 : mi ≤ 1000 := by walk_at "ko") (hm : Rd (H s.heap) dv (marksD ms) := by k_dflt (walk_at "mine rdm")) (hms : ∀ m ∈ ms, m.1 ≠ [] ∧ m.1.length ≤ 16 := by walk_at "ka") (hml : ms.length ≤ 1000 := by walk_at "ko")
  (hQ : ∀ a na pl us k t1 nx h' tk', Fr g L h' m₀ → News g L h' ((a, tupO [Value.ref pl, Value.int (dueR o ms b mi.toNat).2.1 t1, Value.bool (dueR o ms b mi.toNat).2.2].toArray na) :: (pl, listOf us.toArray k) :: (news ++ nx)) → RdAll (InL nx) us ((dueR o ms b mi.toNat).1.map pairD) → Q (.ref a) { s with heap := h', toks := tk' }) :
  wpAny (model prog w) A (call (.ref 166) [.bytes o.toArray t, dv, .int b kt, .int mi nt]) Q E s := by
  obtain ⟨many, rfl⟩ := Int.eq_ofNat_of_zero_le h30
  rw [Int.toNat_natCast] at hQ
  exact pure_uns (law_due_c (many := many) (B.keeps F.keep) hA h2 hml (by omega) hm hms) F N hQ
theorem ne_uns {W O : List Pr × Int × Bool} {a a' pl pl' : Addr} {na na' k k' j : Nat} {us us' : List Value} {t1 t1' : Tok} (N : News g L s.heap news) (hA : Ok j A)
  (m1 : (a, tupO [Value.ref pl, Value.int W.2.1 t1, Value.bool W.2.2].toArray na) ∈ news) (m2 : (pl, listOf us.toArray k) ∈ news) (hr : RdAll (InL news) us (W.1.map pairD))
  (m1' : (a', tupO [Value.ref pl', Value.int O.2.1 t1', Value.bool O.2.2].toArray na') ∈ news) (m2' : (pl', listOf us'.toArray k') ∈ news) (hr' : RdAll (InL news) us' (O.1.map pairD)) (e : W = O)
  (hQ : Q (.bool false) s) : wpAny (model prog w) A (compareOp .NotEq (.ref a) (.ref a')) Q E s := by
  subst e
  have h1 : Rd (InL news) (.ref a) (unsD W) := unsIn m1 m2 hr
  have h2 : Rd (InL news) (.ref a') (unsD W) := unsIn m1' m2' hr'
  exact ne_tup (h1.led N fun _ h => h) (h2.led N fun _ h => h) (okEq hA (by have := dep_uns W; omega)) hQ
theorem cases_u (B : Base w p loose mean mg mb g := by walk_at "ka") (F : Fr g L s.heap m₀ := by walk_at "ka") (N : News g L s.heap news := by walk_at "ka") (hA : Ok 1 A := by walk_at "kk")
  (hQ : ∀ cl vs n tl h' tk', Fr g L h' m₀ → News g L h' ((cl, listOf vs.toArray n) :: (news ++ tl)) → RdAll (InL tl) vs (CASES.map caseD) → Q (.ref cl) { s with heap := h', toks := tk' }) :
  wpAny (model prog w) A (call (.ref 173) []) Q E s := by
  refine (cases_c (B.keeps F.keep) hA).use F N fun v h' tk' nx F' N' ap r => ?_
  have r' := r.noUn
  cases r' with
  | @list cl vs n _ hl hr =>
    refine hQ cl vs n nx h' tk' F' (fun q hq => ?_) hr
    rcases List.mem_cons.mp hq with rfl | hq
    · exact N' _ (List.mem_append.mpr (.inl hl))
    · exact N' _ (List.mem_append.mpr (List.mem_append.mp hq).symm)
theorem CASES_short : ∀ c ∈ CASES, ∀ m ∈ c.2.1, m.1 ≠ [] ∧ m.1.length ≤ 16 := by decide +kernel
theorem caseOut {tl : Led} {v : Value} {c : Case} (h : Rd (InL tl) v (caseD c)) : Ex7 fun a n t1 mv t2 t3 e => An4 (v = .ref a) ((a, tupO [Value.bytes c.1.toArray t1, mv, Value.int c.2.2.1 t2, Value.int (c.2.2.2.1 : Nat) t3, Value.ref e].toArray n) ∈ tl) (Rd (InL tl) mv (marksD c.2.1)) (Rd (InL tl) (.ref e) (unsD c.2.2.2.2)) := by
  cases h with
  | @tup a us n _ hp hus =>
    cases hus with
    | cons q1 hus =>
      cases hus with
      | cons q2 hus =>
        cases hus with
        | cons q3 hus =>
          cases hus with
          | cons q4 hus =>
            cases hus with
            | cons q5 hus =>
              cases hus
              cases q1
              cases q3
              cases q4
              obtain ⟨e, rfl⟩ := rdRef q5
              exact ⟨_, _, _, _, _, _, _, rfl, hp, q2, q5⟩
theorem pen_u {l : Addr} {us : List Value} {ns : List Int} (B : Base w p loose mean mg mb g := by walk_at "ka") (F : Fr g L s.heap m₀ := by walk_at "ka") (N : News g L s.heap news := by walk_at "ka") (hA : Ok 2 A := by walk_at "kk") (hl : s.heap.IsList l us.toArray := by k_dflt (walk_at "mine li")) (hi : IntsAre us ns := by walk_at "ka") (hlen : ns.length ≤ 63 := by walk_at "ka")
  (hQ : ∀ P li (us' : List Value) (ns' : List Int) (t1 t2 : Tok) (n k : Nat) h' tk', Fr g L h' m₀ → News g L h' ((P, penO li 0 0 t1 t2 n) :: (li, listOf us'.toArray k) :: news) → (∀ q ∈ news, P ≠ q.1) → (∀ q ∈ news, li ≠ q.1) → IntsAre us' ns' → ns'.length ≤ 48 → li ≠ P → Q (.ref P) { s with heap := h', toks := tk' }) :
  wpAny (model prog w) A (call (.ref 123) [.ref l]) Q E s := by
  refine pen_c (B.keeps F.keep) hA hl hi hlen fun P li us' ns' t1 t2 n k h' tk' kk f hi' hl' hne => ?_
  refine hQ P li us' ns' t1 t2 n k h' tk' (frKept F kk) (newsFresh F N kk f) (fun q hq => Fresh.apart N f _ (.head _) q hq) (fun q hq => Fresh.apart N f _ (.tail _ (.head _)) q hq) hi' hl' hne
theorem in_two_v (B : Base w p loose mean mg mb g := by walk_at "ka") (F : Fr g L s.heap m₀ := by walk_at "ka") (N : News g L s.heap news := by walk_at "ka") {many first : Int} {ft : Tok} (hA : Ok 5 A := by walk_at "kk")
  (h2 : o.length ≤ 1000 := by walk_at "ko") (h0 : 0 ≤ first := by walk_at "ko") (h3 : many ≤ 1000 := by walk_at "ko") (h4 : first ≤ many := by walk_at "ko") (hm : Rd (H s.heap) dv (marksD ms) := by k_dflt (walk_at "mine rdm")) (hms : ∀ m ∈ ms, m.1 ≠ [] ∧ m.1.length ≤ 16 := by walk_at "ka")
  (law1 : (unstr o ms b first.toNat).2.2 = false → unstr o ms b many.toNat = unstr o ms b first.toNat := by k_dflt (exact fun h9 => plain_two1 (by omega) h9))
  (law2 : (unstr o ms b first.toNat).2.2 = true → ¬ (1 ≤ b ∧ b ≤ o.length) → unstr o ms b many.toNat = unstr o ms b first.toNat := by k_dflt (exact fun _ h9 => plain_two2 h9))
  (law3 : (unstr o ms b first.toNat).2.2 = true → (1 ≤ b ∧ b ≤ o.length) → unstr o ms b many.toNat = ((unstr o ms b first.toNat).1 ++ (unstr o ms (unstr o ms b first.toNat).2.1 (many.toNat - first.toNat)).1, (unstr o ms (unstr o ms b first.toNat).2.1 (many.toNat - first.toNat)).2) := by k_dflt (exact fun h9 h8 => plain_two3 (by assumption) (by omega) h9 h8))
  (hQ : ∀ h' tk', Fr g L h' m₀ → News g L h' news → Q (.bool true) { s with heap := h', toks := tk' }) :
  wpAny (model prog w) A (call (.ref 192) [.bytes o.toArray t, dv, .int b kt, .int many nt, .int first ft]) Q E s := by
  obtain ⟨mn, rfl⟩ := Int.eq_ofNat_of_zero_le (show 0 ≤ many by omega)
  obtain ⟨fn, rfl⟩ := Int.eq_ofNat_of_zero_le h0
  simp only [Int.toNat_natCast] at law1 law2 law3
  exact in_two_c (B.keeps F.keep) hA (by omega) (by omega) (by omega) hm (fun m h => ⟨(hms m h).1, by have := (hms m h).2; omega⟩) law1 law2 law3 fun h' tk' k => hQ h' tk' (frKept F k) (newsKept N k)
theorem sizes_v {zs : List Nat} (B : Base w p loose mean mg mb g) (F : Fr g L s.heap m₀) (N : News g L s.heap news) (hA : Ok 4 A)
  (h2 : o.length ≤ 1000) (hm : Rd (H s.heap) dv (natsD zs)) (h3 : zs.length ≤ 100) (hzs : ∀ z ∈ zs, z ≤ 1000000)
  (hQ : ∀ h' tk', Fr g L h' m₀ → News g L h' news → Q (.bool true) { s with heap := h', toks := tk' }) :
  wpAny (model prog w) A (call (.ref 185) [.bytes o.toArray t, dv, .int b kt]) Q E s :=
  sizes_right_c (B.keeps F.keep) hA h2 h3 hm hzs fun h' tk' k => hQ h' tk' (frKept F k) (newsKept N k)
theorem nearest_v (B : Base w p loose mean mg mb g) (F : Fr g L s.heap m₀) (N : News g L s.heap news) (hA : Ok 2 A)
  (h2 : o.length ≤ 1000) (h3 : ms.length ≤ 1000) {P : AP} (hP : ∀ a o, P a o → s.heap.get? a = some o) (hm : Rd P dv (marksD ms)) (hms : ∀ m ∈ ms, m.1 ≠ [] ∧ m.1.length ≤ 16)
  (hQ : ∀ ln us n h' tk' nx, Fr g L h' m₀ → News g L h' ((ln, listOf us.toArray n) :: (news ++ nx)) → NearAll P nx us (nf o ms o.length) → Q (.ref ln) { s with heap := h', toks := tk' }) :
  wpAny (model prog w) A (call (.ref 152) [.bytes o.toArray t, dv]) Q E s :=
  nearest_c (B.keeps F.keep) hA h2 h3 hP hm hms Q E fun ln us n h' tk' nx k f hm' hn hfl => hQ ln us n h' tk' nx (frKept F k) (fun q hq => by
    rcases List.mem_cons.mp hq with rfl | hq
    · exact newsFresh F N k f _ (List.mem_append.mpr (.inl hm'))
    · exact newsFresh F N k f _ (List.mem_append.mpr (List.mem_append.mp hq).symm)) hn
theorem behind_v {P : AP} {m : Mk} {k : Nat} (B : Base w p loose mean mg mb g) (F : Fr g L s.heap m₀) (N : News g L s.heap news) (hA : Ok 2 A) (hP : ∀ a o, P a o → s.heap.get? a = some o)
  (h2 : o.length ≤ 1000) (h3 : m.1.length ≤ 16) (hk : k ≤ 1000) (hv : m.1 ≠ []) (hl : lies o m.1 k = true) (hm : Rd P dv (mkD m))
  (hQ : ∀ h' tk' t', Fr g L h' m₀ → News g L h' news → Q (.int (lbehind o m k) t') { s with heap := h', toks := tk' }) :
  wpAny (model prog w) A (call (.ref 159) [.bytes o.toArray t, dv, .int k kt]) Q E s :=
  law_behind_c (B.keeps F.keep) hA h2 h3 hk hv hl (hm.mono hP) fun h' tk' t' k => hQ h' tk' t' (frKept F k) (newsKept N k)
theorem strung_v {xs : List (List UInt8)} {z : List UInt8} (B : Base w p loose mean mg mb g) (F : Fr g L s.heap m₀) (N : News g L s.heap news) (hA : Ok 2 A)
  (h0 : 1 ≤ z.length) (h2 : z.length ≤ 1000) (hm : Rd (H s.heap) dv (.list (xs.map rowD))) (hz : xs.flatten.length = z.length)
  (hQ : ∀ a n t1 t2 h' tk', Fr g L h' m₀ → News g L h' ((a, tupO [Value.bytes xs.flatten.toArray t1, Value.int ((z.length : Int) + 1) t2, Value.bool false].toArray n) :: news) → Q (.ref a) { s with heap := h', toks := tk' }) :
  wpAny (model prog w) A (call (.ref 83) [dv, .bytes z.toArray t, .int 1 kt]) Q E s := by
  refine (strung_c (B.keeps F.keep) hA h0 (by omega) hm hz).use F N fun v h' tk' nx F' N' ap r => ?_
  cases r with
  | @tup a us n _ hp hus =>
    rcases hp with hp | hp
    · exact hp.elim
    · cases hus with
      | cons q1 hus =>
        cases hus with
        | cons q2 hus =>
          cases hus with
          | cons q3 hus =>
            cases hus
            cases q1 with
            | bytes _ t1 =>
              cases q2 with
              | int _ t2 =>
                cases q3
                refine hQ a n t1 t2 h' tk' F' fun q hq => ?_
                rcases List.mem_cons.mp hq with rfl | hq
                · exact N' _ (List.mem_append.mpr (.inl hp))
                · exact N' q (List.mem_append.mpr (.inr hq))
end
section
variable {w : World} {p : Program} {loose : List Str} {mean : ExcName → Option Value} {mg mb : Str → Option Value} {A : Around} {s : Shared} {Q E : Value → Shared → Prop}
  {g : Heap} {L : Addr} {m₀ : Str → Option Value} {news : Led} {gn : Obj → Led} {P li : Addr} {us : List Value} {ns : List Int} {turn great n : Nat} {t1 t2 mt : Tok} {mi : Int}
theorem text_v (B : Base w p loose mean mg mb g := by walk_at "ka") (F : Fr g L s.heap m₀ := by walk_at "ka") (N : News g L s.heap news := by walk_at "ka") (hA : Ok 4 A := by walk_at "kk")
  (U : UpdF P (penO li turn great t1 t2 n) news gn := by k_dflt (unfold penO; walk_at "ue")) (hli : s.heap.IsList li us.toArray := by k_dflt (walk_at "mine li")) (hne : li ≠ P := by walk_at "ka") (hi : IntsAre us ns := by walk_at "ka") (hlen : ns.length ≤ 1000 := by walk_at "ko") (hm : 0 ≤ mi := by k_dflt decide) (ht : (turn : Int) + mi ≤ 900 := by walk_at "ko")
  (hQ : ∀ (o : List UInt8) (tr : Tok) (turn' great' : Nat) (t1' t2' : Tok) h' tk', (o.length : Int) ≤ mi → (turn' : Int) ≤ turn + 1 + mi → Fr g L h' m₀ → News g L h' (gn (penO li turn' great' t1' t2' n)) → Q (.bytes o.toArray tr) { s with heap := h', toks := tk' }) :
  wpAny (model prog w) A (call (.ref 142) [.ref P, .int mi mt]) Q E s := by
  obtain ⟨most, rfl⟩ := Int.eq_ofNat_of_zero_le hm
  exact text_u B F N hA U hli hne hi hlen (by omega) fun o tr turn' great' t1' t2' h' tk' a b => hQ o tr turn' great' t1' t2' h' tk' (by omega) (by omega)
theorem pickI_v {l : Addr} {vs : List Value} (B : Base w p loose mean mg mb g := by walk_at "ka") (F : Fr g L s.heap m₀ := by walk_at "ka") (N : News g L s.heap news := by walk_at "ka") (hA : Ok 3 A := by walk_at "kk")
  (U : UpdF P (penO li turn great t1 t2 n) news gn := by k_dflt (unfold penO; walk_at "ue")) (hli : s.heap.IsList li us.toArray := by k_dflt (walk_at "mine li")) (hne : li ≠ P := by walk_at "ka") (hi : IntsAre us ns := by walk_at "ka") (hlen : ns.length ≤ 1000 := by walk_at "ko") (ht : turn ≤ 1000 := by walk_at "ko") (hl : s.heap.IsList l vs.toArray := by k_dflt (walk_at "mine li")) (hlP : l ≠ P := by k_dflt (first | assumption | (refine neN ?_; omega))) (h1 : 1 ≤ vs.length := by walk_at "ks") (h2 : vs.length ≤ 1000 := by walk_at "ks")
  (hv : ∀ v ∈ vs, ∃ b t, v = Value.int b t := by (intro v9 hv9; simp only [List.mem_cons, List.not_mem_nil, or_false] at hv9; rcases hv9 with hv9 | hv9 | hv9 | hv9 | hv9 | hv9 | hv9 | hv9 | hv9 <;> exact ⟨_, _, hv9⟩))
  (hQ : ∀ (b : Int) (t : Tok) (turn' great' : Nat) (t1' t2' : Tok) h' tk', turn' ≤ turn + 1 → Fr g L h' m₀ → News g L h' (gn (penO li turn' great' t1' t2' n)) → Q (.int b t) { s with heap := h', toks := tk' }) :
  wpAny (model prog w) A (call (.ref 137) [.ref P, .ref l]) Q E s :=
  pick_u B F N hA U hli hne hi hlen ht hl hlP h1 h2 fun v turn' great' t1' t2' h' tk' hm a => by
    obtain ⟨b, t, rfl⟩ := hv v hm
    exact hQ b t turn' great' t1' t2' h' tk' a
theorem marks_v (B : Base w p loose mean mg mb g := by walk_at "ka") (F : Fr g L s.heap m₀ := by walk_at "ka") (N : News g L s.heap news := by walk_at "ka") (hA : Ok 4 A := by walk_at "kk")
  (U : UpdF P (penO li turn great t1 t2 n) news gn := by k_dflt (unfold penO; walk_at "ue")) (hli : s.heap.IsList li us.toArray := by k_dflt (walk_at "mine li")) (hne : li ≠ P := by walk_at "ka") (hi : IntsAre us ns := by walk_at "ka") (hlen : ns.length ≤ 1000 := by walk_at "ko") (ht : turn ≤ 900 := by walk_at "ko")
  (hQ : ∀ (ml : Addr) (mvs : List Value) (mn : Nat) (ms : List Mk) (nx : Led) (turn' great' : Nat) (t1' t2' : Tok) h' tk', (ml, listOf mvs.toArray mn) ∈ nx → RdAll (InL nx) mvs (ms.map mkD) → Rd (InL nx) (.ref ml) (marksD ms) → (∀ m ∈ ms, m.1 ≠ [] ∧ m.1.length ≤ 16) → ms.length ≤ 3 → turn' ≤ turn + 7 → OwnOff nx [P] → Fr g L h' m₀ → News g L h' (gn (penO li turn' great' t1' t2' n) ++ nx) → Q (.ref ml) { s with heap := h', toks := tk' }) :
  wpAny (model prog w) A (call (.ref 147) [.ref P]) Q E s :=
  marks_u B F N hA U hli hne hi hlen ht fun v ms nx turn' great' t1' t2' h' tk' hv hms hml a => by
    have hs : ∀ x ∈ MARKS, x ≠ [] ∧ x.length ≤ 16 := by decide
    cases hv with
    | @list ml mvs mn _ hl hr => exact hQ ml mvs mn ms nx turn' great' t1' t2' h' tk' hl hr (.list hl hr) (fun m h => hs _ (hms m h)) hml a
end
section
theorem rotG {a b c J C D x : Addr × Obj} {own nx tl : Led} : ∀ p ∈ J :: C :: D :: a :: b :: c :: (own ++ (nx ++ (x :: tl))), p ∈ x :: J :: C :: D :: a :: b :: c :: (own ++ (nx ++ tl)) := by walk_at "sb"
theorem offGrow {a b c x : Addr × Obj} {own nx tl : Led} {J C D : Addr} (off : LCg.Off3 J C D (a :: b :: c :: (own ++ (nx ++ tl)))) (hx : x.1 ≠ J ∧ x.1 ≠ C ∧ x.1 ≠ D) : LCg.Off3 J C D (a :: b :: c :: (own ++ (nx ++ (x :: tl)))) := LCg.Off3.of fun p hp => by
  have h := off.mem
  simp only [List.mem_cons, List.mem_append] at hp h
  rcases hp with hp | hp | hp | hp | hp | hp | hp
  · exact h p (.inl hp)
  · exact h p (.inr (.inl hp))
  · exact h p (.inr (.inr (.inl hp)))
  · exact h p (.inr (.inr (.inr (.inl hp))))
  · exact h p (.inr (.inr (.inr (.inr (.inl hp)))))
  · rw [hp]; exact hx
  · exact h p (.inr (.inr (.inr (.inr (.inr hp)))))
theorem pieceNews {g h : Heap} {L : Addr} {x y a b c : Addr × Obj} {own nx nx2 : Led} (N : News g L h (x :: y :: a :: b :: c :: (own ++ nx ++ nx2))) : News g L h (a :: b :: c :: (own ++ (y :: nx2))) := newsSub N (by walk_at "sb")
theorem singNews {g h : Heap} {L : Addr} {x a b c : Addr × Obj} {own nx tl : Led} (N : News g L h (x :: a :: b :: c :: (own ++ (nx ++ tl)))) : News g L h (a :: b :: c :: (own ++ (x :: tl))) := newsSub N (by walk_at "sb")
theorem takeSnoc {P : AP} {ys : List Value} {ms : List Mk} {i : Nat} {m : Mk} {y : Value} (h : RdAll P ys (((ms.take i).map fun m => ((m.1, false) : Mk)).map mkD)) (hm : ms[i]? = some m) (hy : Rd P y (mkD (m.1, false))) : RdAll P (ys ++ [y]) (((ms.take (i + 1)).map fun m => ((m.1, false) : Mk)).map mkD) := by
  have e : ms.take (i + 1) = ms.take i ++ [m] := by rw [List.take_add_one, hm]; rfl
  rw [e, List.map_append, List.map_append]
  exact h.append (.one hy)
theorem prsOf {nx : Led} : ∀ {us : List Value} {xs : List Pr}, RdAll (InL nx) us (xs.map pairD) → ∃ prs : List (Value × Value), prs.length = xs.length ∧ ∀ (i : Nat) (u : Value × Value), prs[i]? = some u → Ex2 fun t n => An3 (us[i]? = some (Value.ref t)) ((t, tupO #[u.1, u.2] n) ∈ nx) (Ex3 fun x ta tb => An2 (xs[i]? = some x) (u = (Value.bytes x.1.toArray ta, Value.bytes x.2.toArray tb)))
  | _, [], h => by
    cases h
    exact ⟨[], rfl, fun i u e => by simp at e⟩
  | _, x :: xs, h => by
    cases h with
    | cons q h =>
      obtain ⟨prs, hl, hp⟩ := prsOf h
      cases q with
      | @tup a vs n _ hm hus =>
        cases hus with
        | cons q1 hus =>
          cases hus with
          | cons q2 hus =>
            cases hus
            cases q1 with
            | bytes _ ta =>
              cases q2 with
              | bytes _ tb =>
                refine ⟨(Value.bytes x.1.toArray ta, Value.bytes x.2.toArray tb) :: prs, by rw [List.length_cons, List.length_cons, hl], fun i u e => ?_⟩
                cases i with
                | zero =>
                  simp at e
                  subst e
                  exact ⟨a, n, rfl, hm, x, ta, tb, rfl, rfl⟩
                | succ i => exact hp i u (by simpa using e)
def flat (xs : List Pr) : List (List UInt8) := xs.flatMap fun x => [x.1, x.2]
theorem flat_len (xs : List Pr) : (flat xs).length = 2 * xs.length := by
  induction xs with
  | nil => rfl
  | cons x xs ih => show (x.1 :: x.2 :: flat xs).length = _; rw [List.length_cons, List.length_cons, ih, List.length_cons]; omega
theorem flat_at : ∀ {xs : List Pr} {i j : Nat} {x : Pr} {ta tb : Tok} {u : Value}, xs[i]? = some x → j < 2 → #[Value.bytes x.1.toArray ta, Value.bytes x.2.toArray tb][j]? = some u → Ex2 fun y t => An2 (u = Value.bytes (List.toArray y) t) ((flat xs)[2 * i + j]? = some y)
  | [], _, _, _, _, _, _, h, _, _ => by simp at h
  | z :: xs, 0, j, x, ta, tb, u, h, hj, hu => by
    simp at h
    subst h
    rcases Nat.lt_succ_iff_lt_or_eq.mp hj with hj | rfl
    · obtain rfl : j = 0 := by omega
      simp at hu
      exact ⟨_, _, hu.symm, rfl⟩
    · simp at hu
      exact ⟨_, _, hu.symm, rfl⟩
  | z :: xs, i + 1, j, x, ta, tb, u, h, hj, hu => by
    obtain ⟨y, t, e, q⟩ := flat_at (xs := xs) (i := i) (j := j) (x := x) (by simpa using h) hj hu
    refine ⟨y, t, e, ?_⟩
    show (z.1 :: z.2 :: flat xs)[2 * (i + 1) + j]? = some y
    rw [show 2 * (i + 1) + j = (2 * i + j) + 1 + 1 by omega, List.getElem?_cons_succ, List.getElem?_cons_succ]
    exact q
theorem rowSnoc {P : AP} {ys : List Value} {fl : List (List UInt8)} {k : Nat} {x : List UInt8} {y : Value} (h : RdAll P ys ((fl.take k).map rowD)) (hm : fl[k]? = some x) (hy : Rd P y (rowD x)) : RdAll P (ys ++ [y]) ((fl.take (k + 1)).map rowD) := by
  have e : fl.take (k + 1) = fl.take k ++ [x] := by rw [List.take_add_one, hm]; rfl
  rw [e, List.map_append]
  exact h.append (.one hy)
end
section
theorem rotH {a b c J I C D x : Addr × Obj} {own nx tl : Led} : ∀ p ∈ I :: C :: D :: J :: a :: b :: c :: (own ++ (nx ++ (x :: tl))), p ∈ x :: I :: C :: D :: J :: a :: b :: c :: (own ++ (nx ++ tl)) := by walk_at "sb"
theorem offGrow1 {a b c x : Addr × Obj} {own nx tl : Led} {J : Addr} (off : LCg.Off1 J (a :: b :: c :: (own ++ (nx ++ tl)))) (hx : x.1 ≠ J) : LCg.Off1 J (a :: b :: c :: (own ++ (nx ++ (x :: tl)))) := Mine.Off1.of fun p hp => by
  have h := Mine.Off1.mem off
  simp only [List.mem_cons, List.mem_append] at hp h
  rcases hp with hp | hp | hp | hp | hp | hp | hp
  · exact h p (.inl hp)
  · exact h p (.inr (.inl hp))
  · exact h p (.inr (.inr (.inl hp)))
  · exact h p (.inr (.inr (.inr (.inl hp))))
  · exact h p (.inr (.inr (.inr (.inr (.inl hp)))))
  · rw [hp]; exact hx
  · exact h p (.inr (.inr (.inr (.inr (.inr hp)))))
end
end
section
open PySem PySem.W PySem.Calls PyProof.Rows
section
variable {o : List UInt8} {ms : List Mk} {b : Int} {n f : Nat}
theorem cutN (o : List UInt8) (k j : Nat) : cut o k (k + j : Nat) = (o.drop k).take j := by
  unfold cut
  simp only [Int.toNat_natCast]
  rw [Nat.add_sub_cancel_left]
def nearOf (o : List UInt8) (ms : List Mk) (i : Nat) : Nat × Option Mk := match nxt o ms i (o.length - i) with
  | some (j, m) => (j, some m)
  | none => (o.length, none)
theorem nf_head : ∀ i, i ≤ o.length → (nf o ms i).head? = some (nearOf o ms i)
  | 0, _ => rfl
  | i + 1, h => by
    have ih := nf_head i (by omega)
    rw [nf, List.head?_cons]
    have e : o.length - (i + 1) = o.length - 1 - i := by omega
    unfold nearOf
    rw [nxt, e]
    cases hh : hitAt o ms (o.length - 1 - i) with
    | some m => rfl
    | none =>
      dsimp only
      have e2 : o.length - 1 - i + 1 = o.length - i := by omega
      rw [e2]
      cases hq : nf o ms i with
      | nil => rw [hq] at ih; simp at ih
      | cons y r =>
        rw [hq] at ih
        simp only [List.head?_cons] at ih
        rw [List.headD_cons]
        exact ih
theorem nf_get : ∀ n k, k ≤ n → (nf o ms n)[k]? = (nf o ms (n - k)).head?
  | n, 0, _ => by rw [Nat.sub_zero]; exact List.head?_eq_getElem?.symm
  | 0, k + 1, h => absurd h (by omega)
  | n + 1, k + 1, h => by
    rw [nf, List.getElem?_cons_succ, nf_get n k (by omega), Nat.succ_sub_succ]
theorem near_is {k : Nat} (hk : k ≤ o.length) : nearAt o ms k = nearOf o ms (o.length - k) := by
  have h1 := nearAt_spec (o := o) (ms := ms) hk
  rw [nf_get _ _ hk, nf_head _ (by omega)] at h1
  exact (Option.some.inj h1).symm
theorem near_nxt {k : Nat} (hk : k ≤ o.length) : nearAt o ms k = match nxt o ms (o.length - k) k with
  | some (j, m) => (j, some m)
  | none => (o.length, none) := by
  rw [near_is hk, nearOf, show o.length - (o.length - k) = k by omega]
def Rep (o v : List UInt8) (k j : Nat) : Prop := (o.drop k).take (j * v.length) = reps v j
theorem reps_snoc (v : List UInt8) (j : Nat) : reps v (j + 1) = reps v j ++ v := by
  unfold reps
  rw [List.replicate_succ', List.flatten_append]
  simp
theorem reps_len (v : List UInt8) (j : Nat) : (reps v j).length = j * v.length := by simp [reps]
theorem rep_iff {v : List UInt8} {k j : Nat} : Rep o v k (j + 1) ↔ Rep o v k j ∧ lies o v (k + j * v.length) = true := by
  have hs : (o.drop k).take ((j + 1) * v.length) = (o.drop k).take (j * v.length) ++ (o.drop (k + j * v.length)).take v.length := by
    rw [Nat.succ_mul, List.take_add, List.drop_drop]
  have hl : lies o v (k + j * v.length) = true ↔ (o.drop (k + j * v.length)).take v.length = v := by
    unfold lies; rw [cutN]; simp
  unfold Rep
  rw [hs, reps_snoc, hl]
  constructor
  · intro h
    have h1 := congrArg List.length h
    rw [List.length_append, List.length_append, reps_len] at h1
    have h2 := List.length_take_le (j * v.length) (o.drop k)
    have h3 := List.length_take_le v.length (o.drop (k + j * v.length))
    exact List.append_inj h (by rw [reps_len]; omega)
  · rintro ⟨h1, h2⟩
    rw [h1, h2]
theorem rep_le {v : List UInt8} {k j : Nat} (hj : 1 ≤ j) (hv : v ≠ []) (h : Rep o v k j) : k + j * v.length ≤ o.length := by
  have h1 := congrArg List.length h
  rw [reps_len, List.length_take, List.length_drop] at h1
  have hv' : 1 ≤ v.length := by have : v.length ≠ 0 := by simpa using hv
                                omega
  have : 1 ≤ j * v.length := Nat.mul_pos hj hv'
  omega
theorem bgo_rep {v : List UInt8} {k : Nat} (hv : v ≠ []) : ∀ f j, 1 ≤ j → Rep o v k j → o.length + 1 ≤ k + j * v.length + f → ∃ J, j ≤ J ∧ bgo o v f (k + j * v.length) = k + J * v.length ∧ Rep o v k J ∧ lies o v (k + J * v.length) = false
  | 0, j, hj, h, hf => absurd (rep_le hj hv h) (by omega)
  | f + 1, j, hj, h, hf => by
    have hv' : 1 ≤ v.length := by have : v.length ≠ 0 := by simpa using hv
                                  omega
    cases hl : lies o v (k + j * v.length) with
    | true =>
      have h2 := rep_iff.mpr ⟨h, hl⟩
      have e : k + j * v.length + v.length = k + (j + 1) * v.length := by rw [Nat.succ_mul]; omega
      obtain ⟨J, h3, h4, h5, h6⟩ := bgo_rep hv f (j + 1) (by omega) h2 (by rw [← e]; omega)
      refine ⟨J, by omega, ?_, h5, h6⟩
      rw [bgo, if_pos hl, e, h4]
    | false => exact ⟨j, Nat.le_refl _, by rw [bgo, if_neg (by rw [hl]; simp)], h, hl⟩
theorem rep_down {v : List UInt8} {k : Nat} : ∀ {i j : Nat}, i ≤ j → Rep o v k j → Rep o v k i
  | i, 0, h, r => by rw [Nat.le_zero.mp h]; exact r
  | i, j + 1, h, r => by
    rcases Nat.le_succ_iff.mp h with h | h
    · exact rep_down h (rep_iff.mp r).1
    · rw [h]; exact r
theorem lbk_rep {v : List UInt8} {k J : Nat} (h : Rep o v k J) (h2 : ¬ Rep o v k (J + 1)) : ∀ N, J ≤ N → lbk o v k N = J
  | 0, hN => by rw [Nat.le_zero.mp hN]; rfl
  | N + 1, hN => by
    have e : (k : Int) + ((N + 1 : Nat) : Int) * (v.length : Int) = ((k + (N + 1) * v.length : Nat) : Int) := by rw [Int.natCast_add k, Int.natCast_mul]
    rw [lbk, e, cutN]
    by_cases c : (o.drop k).take ((N + 1) * v.length) = reps v (N + 1)
    · rw [if_pos c]
      rcases Nat.lt_or_ge J (N + 1) with q | q
      · exact absurd (rep_down (i := J + 1) (j := N + 1) (by omega) c) h2
      · omega
    · rw [if_neg c]
      rcases Nat.lt_or_ge J (N + 1) with q | q
      · exact lbk_rep h h2 N (by omega)
      · have : J = N + 1 := by omega
        subst this
        exact absurd h c
theorem behind_law {m : Mk} {k : Nat} (hm : m.1 ≠ []) (hl : lies o m.1 k = true) : behind o m k = lbehind o m k := by
  obtain ⟨v, al⟩ := m
  dsimp only at hm hl
  cases al with
  | false => simp [behind, lbehind, lbehind_loop hl]
  | true =>
    have h0 : Rep o v k 0 := by unfold Rep; simp [reps]
    have h1 : Rep o v k 1 := rep_iff.mpr ⟨h0, by simpa using hl⟩
    have hle := lies_le hl hm
    obtain ⟨J, hJ, e, r, nl⟩ := bgo_rep hm (o.length + 1) 1 (Nat.le_refl _) h1 (by omega)
    have hJl := rep_le (by omega) hm r
    have hv' : 1 ≤ v.length := by have : v.length ≠ 0 := by simpa using hm
                                  omega
    have hJn : J ≤ o.length := by
      have : J * 1 ≤ J * v.length := Nat.mul_le_mul_left _ hv'
      omega
    have hb : lbk o v k o.length = J := lbk_rep r (fun q => by have := (rep_iff.mp q).2; rw [nl] at this; cases this) _ hJn
    simp only [behind, lbehind, if_true]
    rw [Nat.one_mul] at e
    rw [e, hb]
theorem plain_noneA {k e : Nat} (hk : k ≤ o.length) (h : nearAt o ms k = (e, none)) : piece o ms k = (o.drop k, [], o.length) ∧ e = o.length := by
  rw [near_nxt hk] at h
  unfold piece
  cases q : nxt o ms (o.length - k) k with
  | some x => rw [q] at h; simp at h
  | none =>
    rw [q] at h
    simp at h
    exact ⟨rfl, h.symm⟩
theorem plain_none {k e : Nat} (_hms : ∀ m ∈ ms, m.1 ≠ [] ∧ m.1.length ≤ 16) (hk : k ≤ o.length) (h : nearAt o ms k = (e, none)) : piece o ms k = (o.drop k, [], o.length) := (plain_noneA hk h).1
theorem plain_some {k e : Nat} {m : Mk} (hms : ∀ m ∈ ms, m.1 ≠ [] ∧ m.1.length ≤ 16) (hk : k ≤ o.length) (h : nearAt o ms k = (e, some m)) : piece o ms k = (cut o k e, m.1, lbehind o m e) := by
  rw [near_nxt hk] at h
  unfold piece
  cases q : nxt o ms (o.length - k) k with
  | none => rw [q] at h; simp at h
  | some x =>
    obtain ⟨j, m'⟩ := x
    rw [q] at h
    simp at h
    obtain ⟨rfl, rfl⟩ := h
    obtain ⟨h1, _⟩ := nxt_prop q
    obtain ⟨h3, h4⟩ := hit_some h1
    dsimp only
    rw [behind_law (hms _ h3).1 h4]
theorem piece_leN (hms : ∀ m ∈ ms, m.1 ≠ [] ∧ m.1.length ≤ 16) {k : Nat} : (piece o ms k).2.2 ≤ o.length := piece_le fun m h => ⟨(hms m h).1, by have := (hms m h).2; omega⟩
theorem uns_due (hms : ∀ m ∈ ms, m.1 ≠ [] ∧ m.1.length ≤ 16) : ∀ n k, k ≤ o.length → uns o ms n k = due o ms n k
  | 0, k, _ => rfl
  | n + 1, k, hk => by
    rw [uns, due]
    by_cases c : k < o.length
    · rw [if_pos c, if_neg (by omega)]
      have ih := uns_due hms n (piece o ms k).2.2 (piece_leN hms)
      rw [ih]
      cases hx : nearAt o ms k with
      | mk e pr =>
        cases pr with
        | none =>
          obtain ⟨hp, rfl⟩ := plain_noneA hk hx
          rw [hp]
          have e2 : cut o k (o.length : Nat) = o.drop k := by
            have := cutN o k (o.length - k)
            rw [show k + (o.length - k) = o.length by omega] at this
            rw [this, List.take_of_length_le (by rw [List.length_drop]; omega)]
          simp only [markOf, stepOf]
          rw [e2]
        | some m =>
          rw [plain_some hms hk hx]
          rfl
    · rw [if_neg c, if_pos (by omega)]
theorem plain_due (hms : ∀ m ∈ ms, m.1 ≠ [] ∧ m.1.length ≤ 16) : unstr o ms b n = dueR o ms b n := by
  unfold unstr dueR
  split
  · rename_i h
    rw [uns_due hms n (b - 1).toNat (by omega)]
  · rfl
theorem uns_add : ∀ f g k, uns o ms (f + g) k = ((uns o ms f k).1 ++ (uns o ms g (uns o ms f k).2).1, (uns o ms g (uns o ms f k).2).2)
  | 0, g, k => by rw [Nat.zero_add]; rfl
  | f + 1, g, k => by
    rw [Nat.succ_add, uns, uns]
    by_cases c : k < o.length
    · rw [if_pos c, if_pos c, uns_add f g]
      rfl
    · rw [if_neg c, if_neg c]
      have e : uns o ms g k = ([], k) := by cases g <;> simp [uns, c]
      rw [e]; rfl
theorem plain_two2 (h : ¬ (1 ≤ b ∧ b ≤ o.length)) : unstr o ms b n = unstr o ms b f := by
  unfold unstr
  rw [if_neg h, if_neg h]
theorem plain_two1 (hf : f ≤ n) (h : (unstr o ms b f).2.2 = false) : unstr o ms b n = unstr o ms b f := by
  by_cases c : 1 ≤ b ∧ b ≤ o.length
  · unfold unstr at h ⊢
    rw [if_pos c] at h
    rw [if_pos c, if_pos c]
    have hk : ¬ (uns o ms f (b - 1).toNat).2 < o.length := by simpa using h
    obtain ⟨g, rfl⟩ : ∃ g, n = f + g := ⟨n - f, by omega⟩
    have e0 : ∀ k', ¬ k' < o.length → uns o ms g k' = ([], k') := fun k' hk' => by cases g <;> simp [uns, hk']
    have e := e0 _ hk
    rw [uns_add f g, e, List.append_nil]
  · exact plain_two2 c
theorem uns_leN (hms : ∀ m ∈ ms, m.1 ≠ [] ∧ m.1.length ≤ 16) : ∀ n k, k ≤ o.length → (uns o ms n k).2 ≤ o.length
  | 0, k, h => h
  | n + 1, k, h => by
    rw [uns]
    split
    · exact uns_leN hms n _ (piece_leN hms)
    · exact h
theorem plain_two3 (hms : ∀ m ∈ ms, m.1 ≠ [] ∧ m.1.length ≤ 16) (hf : f ≤ n) (h : (unstr o ms b f).2.2 = true) (hb : 1 ≤ b ∧ b ≤ o.length) :
  unstr o ms b n = ((unstr o ms b f).1 ++ (unstr o ms (unstr o ms b f).2.1 (n - f)).1, (unstr o ms (unstr o ms b f).2.1 (n - f)).2) := by
  have e0 : unstr o ms b f = ((uns o ms f (b - 1).toNat).1, ((uns o ms f (b - 1).toNat).2 : Int) + 1, decide (((uns o ms f (b - 1).toNat).2 : Int) < (o.length : Int))) := by
    unfold unstr; rw [if_pos hb]
  rw [e0] at h ⊢
  have hk : (uns o ms f (b - 1).toNat).2 < o.length := by simpa using h
  obtain ⟨g, rfl⟩ : ∃ g, n = f + g := ⟨n - f, by omega⟩
  rw [Nat.add_sub_cancel_left]
  dsimp only
  unfold unstr
  rw [if_pos hb, if_pos ⟨by omega, by omega⟩, uns_add f g]
  have e1 : ((((uns o ms f (b - 1).toNat).2 : Nat) : Int) + 1 - 1).toNat = (uns o ms f (b - 1).toNat).2 := by omega
  rw [e1]
theorem join_law (hms : ∀ m ∈ ms, m.1 ≠ [] ∧ m.2 = false) : ∀ n k, k ≤ o.length → o.length ≤ k + n → ((uns o ms n k).1.flatMap fun x => [x.1, x.2]).flatten = o.drop k
  | 0, k, h1, h2 => by
    have : k = o.length := by omega
    subst this
    simp [uns]
  | n + 1, k, h1, h2 => by
    rw [uns]
    by_cases c : k < o.length
    · rw [if_pos c]
      cases q : nxt o ms (o.length - k) k with
      | none =>
        have hp : piece o ms k = (o.drop k, [], o.length) := by unfold piece; rw [q]
        have ih := join_law hms n o.length (Nat.le_refl _) (by omega)
        rw [hp]
        dsimp only
        rw [List.flatMap_cons, List.flatten_append, ih]
        simp
      | some x =>
        obtain ⟨j, m⟩ := x
        obtain ⟨g1, g2⟩ := nxt_prop q
        obtain ⟨g3, g4⟩ := hit_some g1
        obtain ⟨hm, hf⟩ := hms _ g3
        have hle := lies_le g4 hm
        have hm1 : 1 ≤ m.1.length := by have : m.1.length ≠ 0 := by simpa using hm
                                        omega
        have hp : piece o ms k = (cut o k j, m.1, j + m.1.length) := by
          unfold piece
          rw [q]
          dsimp only
          unfold behind
          rw [if_neg (by rw [hf]; simp)]
        have ih := join_law hms n (j + m.1.length) hle (by omega)
        rw [hp]
        dsimp only
        rw [List.flatMap_cons, List.flatten_append, ih]
        have e1 : cut o k (j : Nat) = (o.drop k).take (j - k) := by
          have := cutN o k (j - k)
          rwa [show k + (j - k) = j by omega] at this
        have e2 : (o.drop j).take m.1.length = m.1 := by
          unfold lies at g4
          rw [cutN] at g4
          exact eq_of_beq g4
        have e3 : o.drop j = (o.drop k).drop (j - k) := by rw [List.drop_drop, show k + (j - k) = j by omega]
        have e4 : o.drop (j + m.1.length) = (o.drop j).drop m.1.length := by rw [List.drop_drop]
        simp only [List.flatten_cons, List.flatten_nil, List.append_nil]
        rw [e4, List.append_assoc]
        conv => lhs; rhs; lhs; rw [← e2]
        rw [List.take_append_drop, e1, e3, List.take_append_drop]
    · rw [if_neg c]
      have : k = o.length := by omega
      subst this
      simp
theorem plain_join (hms : ∀ m ∈ ms, m.1 ≠ [] ∧ m.2 = false) (h1 : 1 ≤ o.length) (ho : o.length ≤ 20) : ((unstr o ms 1 20).1.flatMap fun x => [x.1, x.2]).flatten = o := by
  have h := join_law hms 20 0 (Nat.zero_le _) (by omega)
  unfold unstr
  rw [if_pos ⟨by omega, by omega⟩]
  exact h
end
end
section
open PySem PySem.W PySem.Calls PyProof.Rows
theorem int_no_bytes : typeLookup (.type "int") "__bytes__" = pure none := by rw [typeLookup_type, builtinLookup_eq_fast]; kernel_rfl
section
variable {prog : Program} {w : World} {A : Around} {E : Value → Shared → Prop} {s : Shared}
theorem bytesN_new {n : Int} {u : Tok} {Q : Value → Shared → Prop} (h0 : 0 ≤ n) (h1 : n ≤ 1000)
    (hQ : ∀ t k, Q (.bytes (Array.replicate n.toNat 0) t) { s with toks := k }) :
    codeAny (model prog w) A (.call (.builtin "bytes.__new__") ⟨[.type "bytes", .int n u], []⟩) (wants Q E) s := by
  refine codeAny_of_tree ?_
  show wpAny _ A.in1 (do checkBuiltinCall "bytes.__new__" ⟨[.type "bytes", .int n u], []⟩; again (.builtin "bytes.__new__" ⟨[.type "bytes", .int n u], []⟩)) _ _ s
  refine wpAny_bind (wpAny_of_eq (F.bm_newCall _) (wpAny_pure ⟨plainId_quiet F.bm_plain _, codeAny_builtin F.bm_entry ?_⟩))
  rw [Around.under_plainId F.bm_plain _]
  unfold Builtin.«bytes.__new__»
  refine wpAny_bind (wpAny_of_eq (a := true) rfl ?_)
  refine bm_if_false rfl ?_
  refine wpAny_bind (wpAny_of_eq F.bm_sub ?_)
  refine bm_if_false rfl ?_
  refine wpAny_bind (wpAny_of_eq (F.bm_bind _) ?_)
  refine wpAny_bind (wpAny_of_eq (a := ()) rfl ?_)
  refine wpAny_bind (wpAny_of_eq (a := ()) rfl ?_)
  refine bm_if_false rfl ?_
  refine wpAny_bind (wpAny_specialOf (typeIs_int s n u) int_no_bytes ?_)
  refine wpAny_bind (wpAny_of_eq (a := false) rfl ?_)
  refine bm_if_false rfl ?_
  refine wpAny_bind (wpAny_specialOf (T := "int") (typeIs_int s n u) int_index ?_)
  refine bm_if_false rfl ?_
  refine wpAny_bind (wpAny_attempt (wpAny_of_eq (rfl : asIndex (.int n u) = pure n) ?_))
  have e1 : (!Builtin.Bytes.fitsIndex n) = false := by
    have : Builtin.Bytes.fitsIndex n = true := by
      unfold Builtin.Bytes.fitsIndex
      simp only [Bool.and_eq_true, decide_eq_true_eq]
      omega
    rw [this]; rfl
  have e2 : Builtin.Bytes.tooLong n.toNat = false := by
    unfold Builtin.Bytes.tooLong
    rw [decide_eq_false_iff_not, sizeLine_eq]
    omega
  dsimp only
  refine bm_if_false e1 ?_
  rw [if_neg (by omega), if_neg (by omega)]
  refine bm_if_false e2 ?_
  refine wpAny_bind (wpAny_rule ?_)
  refine wpAny_bind (wpAny_mkBytes ?_ (by rw [Array.size_replicate, sizeLine_eq]; omega))
  show wpAny _ _ (if (Value.type "bytes" == Value.type "bytes") = true then _ else _) _ _ _
  refine bm_if_true (by decide) ?_
  first
    | exact wpAny_pure (hQ _ _)
    | exact wpAny_bind (wpAny_pure (wpAny_pure (hQ _ _)))
theorem bytesN {n : Int} {u : Tok} {Q : Value → Shared → Prop} (h0 : 0 ≤ n := by walk_at "ko") (h1 : n ≤ 1000 := by walk_at "ko")
    (hQ : ∀ t k, Q (.bytes (List.replicate n.toNat 0).toArray t) { s with toks := k }) : wpAny (model prog w) A (call (.type "bytes") [.int n u]) Q E s := by
  refine callType_codes (Q₁ := fun obj s₁ => s₁.TypeIs obj "bytes" ∧ Q obj s₁) F.bm_called (F.bm_typeCall _) F.entry_object_init
    (bytesN_new h0 h1 fun t k => ⟨PySem.W.typeIs_bytes _ _ _, ?_⟩) fun obj s₁ h₁ => ?_
  · rw [← List.toArray_replicate]; exact hQ t k
  · exact ⟨h₁.1, F.args_object_init_2 obj _, object_init_meets F.bm_called.init.lookup F.bm_called.made (by decide) prog w A.in1 _ s₁ ⟨h₁.1, rfl, h₁.2⟩⟩
end
end
section
section
variable {w : World} {p : Program} {loose : List Str} {mean : ExcName → Option Value} {mg mb : Str → Option Value} {A : Around} {s : Shared} {Q E : Value → Shared → Prop}
local macro_rules | `(tactic| walk_at "mine subp") => `(tactic| walk_at "sb")
local macro_rules | `(tactic| walk_at "mine rdm") => `(tactic| first | assumption | exact Rd.led (by assumption) (by k_asm) (by walk_at "mine subp") | exact Rd.base (by assumption) (by k_asm))
local macro_rules | `(tactic| walk_at "call ref") => `(tactic| ((with_reducible show wpAny _ _ (call (Value.ref 173) _) _ _ _); k_dflt (refine' cases_u (hQ := ?_)); walk_at "zc"))
local macro_rules | `(tactic| walk_at "call ref") => `(tactic| ((with_reducible refine' unstr_v (hQ := ?_)); walk_at "zc"))
local macro_rules | `(tactic| walk_at "compareOp NotEq ref ref") => `(tactic| refine Stop.mk ?_)
local macro_rules | `(tactic| walk_at "compareOp NotEq ref ref") => `(tactic| ((with_reducible refine' ne_nil (hQ := ?_)); (try simp only [List.isEmpty_nil, List.isEmpty_cons, Bool.not_true, Bool.not_false])))
local macro_rules | `(tactic| walk_at "mine subI") => `(tactic| (refine subInL ?_; walk_at "sb"))
local macro_rules | `(tactic| walk_at "mine subJ") => `(tactic| walk_at "sm")
local macro_rules | `(tactic| walk_at "call ref") => `(tactic| ((with_reducible refine' pen_u (N := ?kN) (hQ := ?_)); (case kN => ((with_reducible rename News _ _ _ _ => N7); exact newsSub (nx := [_]) N7 (by intro q7 hq7; rw [List.mem_singleton.mp hq7]; exact List.Mem.tail _ (List.Mem.tail _ (List.Mem.tail _ (List.Mem.head _)))))); intro P' li' us' ns' t1' t2' n' k' h' tk' F' N' hap' hal' hi' hl' hne'; (have hap9 := hap' _ (List.Mem.head _)); (have hal9 := hal' _ (List.Mem.head _)); (try dsimp only at hap9); (try dsimp only at hal9); (try k_sweep)))
local macro_rules | `(tactic| walk_at "call ref") => `(tactic| ((with_reducible refine' text_v (hQ := ?_)); intro o' tr' turn' great' t1' t2' h' tk' ho'; (have hol9 : (List.length (o' ++ [65]) : Int) ≤ 14 := by rw [List.length_append, List.length_singleton]; omega); walk_at "zp"))
local macro_rules | `(tactic| walk_at "call ref") => `(tactic| ((with_reducible refine' marks_v (hQ := ?_)); (with_reducible rename OwnOff _ _ => off8); intro ml' mvs' mn' ms' nx' turn' great' t1' t2' h' tk' hml' hmr' hmd' hms' hmc' ht' hof' F' N'; (try dsimp only [penO, List.cons_append, List.nil_append] at N'); (have off9 := offApp off8 hof'); (try k_sweep)))
local macro_rules | `(tactic| walk_at "call ref") => `(tactic| ((with_reducible refine' pickI_v (hQ := ?_)); walk_at "zp"))
local macro_rules | `(tactic| walk_at "binaryOp Add") => `(tactic| (k_here; (with_reducible show wpAny _ _ (binaryOp _ (Value.bytes _ _) (Value.bytes _ _)) _ _ _); k_dflt (refine' add_by (b := [65]) ?k1 ?_; (case k1 => ((try simp only [List.length_singleton, List.length_cons, List.length_nil]); omega))); intro t' k'))
local macro_rules | `(tactic| walk_at "call ref") => `(tactic| ((with_reducible refine' due_v (hQ := ?_)); walk_at "zc"))
local macro_rules | `(tactic| walk_at "call ref") => `(tactic| ((with_reducible refine' in_two_v (hQ := ?_)); intros))
local macro_rules | `(tactic| walk_at "call ref") => `(tactic| (with_reducible refine Stop.call 180 ?_))
local macro_rules | `(tactic| walk_at "call ref") => `(tactic| (with_reducible refine Stop.call 185 ?_))
local macro_rules | `(tactic| walk_at "call ref") => `(tactic| (with_reducible refine Stop.call 152 ?_))
local macro_rules | `(tactic| walk_at "call ref") => `(tactic| (with_reducible refine Stop.call 159 ?_))
local macro_rules | `(tactic| walk_at "call ref") => `(tactic| (with_reducible refine Stop.call 104 ?_))
local macro_rules | `(tactic| walk_at "call ref") => `(tactic| (with_reducible refine Stop.call 83 ?_))
local macro_rules | `(tactic| walk_at "subscriptTail") => `(tactic| (with_reducible refine' item_u (h := ?_)))
local macro_rules | `(tactic| walk_at "call type:bytes") => `(tactic| ((with_reducible refine' bytesN (hQ := ?_)); intros))
def MFacts (P : Addr) (oo : List UInt8) (ml : Addr) (mvs : List Value) (mk : Nat) (ms : List Mk) (nxM : Led) : Prop :=
  An8 ((oo.length : Int) ≤ 14) (1 ≤ oo.length) ((ml, listOf mvs.toArray mk) ∈ nxM) (RdAll (InL nxM) mvs (ms.map mkD)) (Rd (InL nxM) (.ref ml) (marksD ms)) ((∀ m ∈ ms, m.1 ≠ [] ∧ m.1.length ≤ 16)) (ms.length ≤ 3) (OwnOff nxM [P])
def StT (g : Heap) (L P li : Addr) (us' : List Value) (n9 k9 : Nat) (oC : Obj) (own : Led) (s0 : Shared) (bd : Nat) (fs : (Str → Option Value) → Prop) (nx : Led) (s' : Shared) : Prop :=
  Ex7 fun h tk m₁ tn gn u1 u2 => An5 (s' = { s0 with heap := h, toks := tk }) (Fr g L h m₁) (News g L h ((P, listOf [Value.ref li, .int (tn : Nat) u1, .int (gn : Nat) u2].toArray n9) :: (li, listOf us'.toArray k9) :: (L + 1, oC) :: (own ++ nx))) (tn ≤ bd) (fs m₁)
def NextAnd2 (P : Shared → Prop) (f : Flow) (s' : Shared) : Prop := f = .next ∧ P s'
theorem seq_stepP {M : Model} {A : Around} {E : Value → Shared → Prop} {env : Env} {st : Stmt} {rest : List Stmt} {Q : Flow → Shared → Prop} {s : Shared} (R : Shared → Prop)
    (h1 : ∀ P : Shared → Prop, (∀ s', R s' → P s') → wpAny M A (exec st env) (NextAnd P) E s) (h2 : ∀ s', R s' → wpAny M A (execs rest env) Q E s') : wpAny M A (execs (st :: rest) env) Q E s := seq_step R (h1 R fun _ q => q) h2
theorem frPut2 {g h : Heap} {L : Addr} {m : Str → Option Value} {x0 x1 : Str} {v0 v1 : Value} (F : Fr g L h m) (e0 : m x0 = some v0) (e1 : m x1 = some v1) : Fr g L h (fun y => if y = x0 then some v0 else if y = x1 then some v1 else m y) := frMap F fun y => by
  by_cases c0 : y = x0
  · rw [if_pos c0, c0, e0]
  rw [if_neg c0]
  by_cases c1 : y = x1
  · rw [if_pos c1, c1, e1]
  rw [if_neg c1]
theorem frPut4 {g h : Heap} {L : Addr} {m : Str → Option Value} {x0 x1 x2 x3 : Str} {v0 v1 v2 v3 : Value} (F : Fr g L h m) (e0 : m x0 = some v0) (e1 : m x1 = some v1) (e2 : m x2 = some v2) (e3 : m x3 = some v3) : Fr g L h (fun y => if y = x0 then some v0 else if y = x1 then some v1 else if y = x2 then some v2 else if y = x3 then some v3 else m y) := frMap F fun y => by
  by_cases c0 : y = x0
  · rw [if_pos c0, c0, e0]
  rw [if_neg c0]
  by_cases c1 : y = x1
  · rw [if_pos c1, c1, e1]
  rw [if_neg c1]
  by_cases c2 : y = x2
  · rw [if_pos c2, c2, e2]
  rw [if_neg c2]
  by_cases c3 : y = x3
  · rw [if_pos c3, c3, e3]
  rw [if_neg c3]
theorem frPut5 {g h : Heap} {L : Addr} {m : Str → Option Value} {x0 x1 x2 x3 x4 : Str} {v0 v1 v2 v3 v4 : Value} (F : Fr g L h m) (e0 : m x0 = some v0) (e1 : m x1 = some v1) (e2 : m x2 = some v2) (e3 : m x3 = some v3) (e4 : m x4 = some v4) : Fr g L h (fun y => if y = x0 then some v0 else if y = x1 then some v1 else if y = x2 then some v2 else if y = x3 then some v3 else if y = x4 then some v4 else m y) := frMap F fun y => by
  by_cases c0 : y = x0
  · rw [if_pos c0, c0, e0]
  rw [if_neg c0]
  by_cases c1 : y = x1
  · rw [if_pos c1, c1, e1]
  rw [if_neg c1]
  by_cases c2 : y = x2
  · rw [if_pos c2, c2, e2]
  rw [if_neg c2]
  by_cases c3 : y = x3
  · rw [if_pos c3, c3, e3]
  rw [if_neg c3]
  by_cases c4 : y = x4
  · rw [if_pos c4, c4, e4]
  rw [if_neg c4]
theorem frPut6 {g h : Heap} {L : Addr} {m : Str → Option Value} {x0 x1 x2 x3 x4 x5 : Str} {v0 v1 v2 v3 v4 v5 : Value} (F : Fr g L h m) (e0 : m x0 = some v0) (e1 : m x1 = some v1) (e2 : m x2 = some v2) (e3 : m x3 = some v3) (e4 : m x4 = some v4) (e5 : m x5 = some v5) : Fr g L h (fun y => if y = x0 then some v0 else if y = x1 then some v1 else if y = x2 then some v2 else if y = x3 then some v3 else if y = x4 then some v4 else if y = x5 then some v5 else m y) := frMap F fun y => by
  by_cases c0 : y = x0
  · rw [if_pos c0, c0, e0]
  rw [if_neg c0]
  by_cases c1 : y = x1
  · rw [if_pos c1, c1, e1]
  rw [if_neg c1]
  by_cases c2 : y = x2
  · rw [if_pos c2, c2, e2]
  rw [if_neg c2]
  by_cases c3 : y = x3
  · rw [if_pos c3, c3, e3]
  rw [if_neg c3]
  by_cases c4 : y = x4
  · rw [if_pos c4, c4, e4]
  rw [if_neg c4]
  by_cases c5 : y = x5
  · rw [if_pos c5, c5, e5]
  rw [if_neg c5]
theorem frPut7 {g h : Heap} {L : Addr} {m : Str → Option Value} {x0 x1 x2 x3 x4 x5 x6 : Str} {v0 v1 v2 v3 v4 v5 v6 : Value} (F : Fr g L h m) (e0 : m x0 = some v0) (e1 : m x1 = some v1) (e2 : m x2 = some v2) (e3 : m x3 = some v3) (e4 : m x4 = some v4) (e5 : m x5 = some v5) (e6 : m x6 = some v6) : Fr g L h (fun y => if y = x0 then some v0 else if y = x1 then some v1 else if y = x2 then some v2 else if y = x3 then some v3 else if y = x4 then some v4 else if y = x5 then some v5 else if y = x6 then some v6 else m y) := frMap F fun y => by
  by_cases c0 : y = x0
  · rw [if_pos c0, c0, e0]
  rw [if_neg c0]
  by_cases c1 : y = x1
  · rw [if_pos c1, c1, e1]
  rw [if_neg c1]
  by_cases c2 : y = x2
  · rw [if_pos c2, c2, e2]
  rw [if_neg c2]
  by_cases c3 : y = x3
  · rw [if_pos c3, c3, e3]
  rw [if_neg c3]
  by_cases c4 : y = x4
  · rw [if_pos c4, c4, e4]
  rw [if_neg c4]
  by_cases c5 : y = x5
  · rw [if_pos c5, c5, e5]
  rw [if_neg c5]
  by_cases c6 : y = x6
  · rw [if_pos c6, c6, e6]
  rw [if_neg c6]
theorem hideL {g h : Heap} {L : Addr} {m : Str → Option Value} (F : Fr g L h m) : Keeps g (h.hide L) := fun b o e => by
  have hb : b ≠ L := fun q => by
    have := Heap.lt_size e
    rw [q] at this
    exact absurd F.above (Nat.not_le.mpr this)
  exact hide_get hb (F.keep _ _ e)
theorem frUp {g h h' : Heap} {L : Addr} {m : Str → Option Value} (F : Fr g L h m) (k : Keeps (h.hide L) h') (u : h.UpToSlots h') : Fr g L h' m := ⟨u.ns F.ns, fun b o e => k _ _ (hideL F b o e), F.above⟩
theorem newsUp {g h h' : Heap} {L : Addr} {news : Led} (N : News g L h news) (k : Keeps (h.hide L) h') : News g L h' news := fun q hq => ⟨k _ _ (hide_get (N q hq).2.1 (N q hq).1), (N q hq).2⟩
theorem oneMore {Pp : AP} {ys : List Value} {zs : List Nat} {r : Nat} {t : Tok} (h : RdAll Pp ys (zs.map fun (z : Nat) => Mine.D.int (z : Int))) : RdAll Pp (ys ++ [Value.int (1 + (r : Int)) t]) ((zs ++ [1 + r]).map fun (z : Nat) => Mine.D.int (z : Int)) := by
  rw [List.map_append]
  refine h.append (.one ?_)
  have e : ((1 + r : Nat) : Int) = 1 + (r : Int) := by omega
  show Rd Pp _ (Mine.D.int ((1 + r : Nat) : Int))
  rw [e]
  exact .int _ _
theorem dueNews {g h : Heap} {L : Addr} {x a b c : Addr × Obj} {own nx : Led} (N : News g L h (x :: a :: b :: c :: (own ++ nx))) : News g L h (a :: b :: c :: (own ++ (nx ++ [x]))) := newsSub N (by walk_at "sb")
theorem dueNews2 {g h : Heap} {L : Addr} {x y a b c : Addr × Obj} {own nx : Led} (N : News g L h (x :: y :: a :: b :: c :: (own ++ nx))) : News g L h (a :: b :: c :: (own ++ (nx ++ [x]))) := newsSub N (by walk_at "sb")
theorem mkOut {tl : Led} {v : Value} {m : Mk} (h : Rd (InL tl) v (mkD m)) : Ex3 fun a n t => An2 (v = .ref a) ((a, tupO [Value.bytes m.1.toArray t, Value.bool m.2].toArray n) ∈ tl) := by
  cases h with
  | @tup a us n _ hp hus =>
    cases hus with
    | cons q1 hus =>
      cases hus with
      | cons q2 hus =>
        cases hus
        cases q1
        cases q2
        exact ⟨_, _, _, rfl, hp⟩
theorem getC {tl : Led} {vs : List Value} {i : Nat} {v : Value} (h : RdAll (InL tl) vs (CASES.map caseD)) (hv : vs[i]? = some v) : ∃ c, c ∈ CASES ∧ Rd (InL tl) v (caseD c) := by
  obtain ⟨d, hd, r⟩ := h.at hv
  obtain ⟨c, hc, rfl⟩ : ∃ c, CASES[i]? = some c ∧ caseD c = d := by simpa using hd
  exact ⟨c, List.mem_of_getElem? hc, r⟩
set_option maxHeartbeats 16000000 in
theorem law_c {l : Addr} {vs : List Value} {ns : List Int} (B : Base w p loose mean mg mb s.heap) (hA : Ok 10 A) (hfr : A.frames = some []) (hl : s.heap.IsList l vs.toArray) (hi : IntsAre vs ns) (hlen : ns.length ≤ 63)
  (hQ : ∀ h' tk', Keeps s.heap h' → Q (.bool true) { s with heap := h', toks := tk' }) : wpAny (model prog w) A (call (.ref 197) [.ref l]) Q E s := by
  obtain ⟨ah, ad, af, ag, au⟩ := A
  obtain rfl : ah = none := hA.h
  have KX := B.k
  have T := B.t
  have husl : vs.toArray.size = ns.length := by rw [List.size_toArray]; exact hi.length
  refine' enterC (binds := [(Str.ofString "script", .ref l)]) B ?k1 ?k2 ?k3 ?k4 ?k5 ?_ ?k6 ?k7 ?k8 ?k9
  walk_at "mine sidesC"
  intro L h₁ tk cells F N Y
  have Y' : CellsAre _ [(Str.ofString "pen", L + 1)] cells := Y
  obtain ⟨o1, rfl, d1⟩ := Y'.one
  have d1' : o1.data = .cell none := d1
  have F' := frMap F (m' := fun y => if y = Str.ofString "script" then some (Value.ref l) else none) (fun y => rfl)
  clear F Y Y' d1
  walk_at "mine steps"
  refine Stop.out ?_
  (with_reducible rename Fr _ _ _ _ => F9)
  (with_reducible rename News _ _ _ _ => N9)
  (with_reducible rename RdAll _ _ _ => hr9)
  have hr10 := hr9.length
  refine LCt.CompSrcT.ledger rfl F9 N9 (.head _) (by rw [List.size_toArray, hr10, sizeLine_eq]; decide) ?_
  intro g'
  refine compT_same (fun i ys => ys = []) (.inr ⟨_, .head _, rfl, _, rfl⟩) rfl ?_ ?_
  · rintro i ys v J oJ C oC D m₂ h2 tk2 E' hi2 rfl hv hC hx F₂ N₂
    obtain ⟨c, hc, rv⟩ := getC hr9 (i := i) (v := v) (by simpa using hv)
    obtain ⟨a, n, t1, mv, t2, t3, e, rfl, hm, rm, re⟩ := caseOut rv
    obtain ⟨hc1, hc2, hc3⟩ := CASES_ok c hc
    have hcr := CASES_right c hc
    have hc4 : ∀ m ∈ c.2.1, m.1 ≠ [] ∧ m.1.length ≤ 16 := CASES_short c hc
    obtain ⟨e', ne, ple, use, ke, te, hee, me1, me2, hre⟩ := unsOut (P := No) re
    cases hee
    have N₃ := newsSub (nx := (a, tupO [Value.bytes c.1.toArray t1, mv, Value.int c.2.2.1 t2, Value.int (c.2.2.2.1 : Nat) t3, Value.ref e].toArray n) :: _) N₂ (by
      intro q hq
      rcases List.mem_cons.mp hq with rfl | hq
      · exact .tail _ (.tail _ (.tail _ (.tail _ (.tail _ hm))))
      · exact hq)
    clear N₂
    walk_at "mine steps"
    · refine Stop.out ?_
      (with_reducible rename Fr _ _ _ _ => F8)
      (with_reducible rename News _ _ _ _ => N8)
      (with_reducible rename RdAll _ _ _ => hr8)
      rw [Int.toNat_natCast] at N8 hr8
      refine ne_uns N8 (j := 9) (W := unstr c.1 c.2.1 c.2.2.1 c.2.2.2.1) (O := c.2.2.2.2) (by walk_at "mine ok") (by walk_at "mine mem") (by walk_at "mine mem") (rdSub hr8 (by walk_at "mine subI")) (na' := ne) (pl' := ple) (t1' := te) (by walk_at "mine subJ") (us' := use) (k' := ke) (by walk_at "mine subJ") (rdSub hre (by walk_at "mine subI")) hcr ?_
      walk_at "mine steps"
      · exact SameEnd.mk F8 (newsSub N8 (by walk_at "sb"))
  · rintro ys rfl
    intro D h2 tk2 F₂ N₂ off2
    walk_at "mine steps"
    refine Stop.out ?_
    (with_reducible rename Fr _ _ _ _ => F9)
    (with_reducible rename News _ _ _ _ => N9)
    clear hr9 hr10
    obtain ⟨P, li, us', ns', t1', t2', n9, k9, oC, N8, hi9, hl9, hneP, hPL, hlL, dC⟩ : Ex9 fun (P li : Addr) (us' : List Value) (ns' : List Int) (t1' t2' : Tok) (n9 k9 : Nat) (oC : Obj) => An7 (News s.heap L _ [(P, penO li 0 0 t1' t2' n9), (li, listOf us'.toArray k9), (L + 1, oC)]) (IntsAre us' ns') (ns'.length ≤ 48) (li ≠ P) (P ≠ L + 1) (li ≠ L + 1) (oC.data = .cell (some (.ref P))) :=
      ⟨_, _, _, _, _, _, _, _, _, N9, by assumption, by assumption, by assumption, by assumption, by assumption, by assumption⟩
    clear N9
    have hneP' : @Ne Nat li P := hneP
    have hPL' : @Ne Nat P (L + 1) := hPL
    have hlL' : @Ne Nat li (L + 1) := hlL
    refine for_rangeK (L := L) (n := 2) rfl rfl (by assumption) (by decide) (by decide) F9 N8 ?_ (fun i m₁ nx => Ex4 fun (tn gn : Nat) (u1 u2 : Tok) => An2 (nx = [(P, penO li tn gn u1 u2 n9), (li, listOf us'.toArray k9), (L + 1, oC)]) (tn ≤ 40 * i)) ⟨0, 0, _, _, rfl, by omega⟩ ?_ ?_
    · intro p hp
      simp only [List.mem_cons, List.not_mem_nil, or_false] at hp
      rcases hp with rfl | rfl | rfl
      · exact notFldSeq
      · exact notFldSeq
      · exact notFldCell (by assumption)
    · rintro i tk' m₁ nx h tk own hi2 hown ⟨tn, gn, u1, u2, rfl, htn⟩ hcn F₁ N₁
      have hl10 : ns'.length ≤ 1000 := by omega
      have hoP : OwnOff own [P] := fld_off N₁ (List.mem_append.mpr (.inr (.head _))) (fun p hp => List.mem_append.mpr (.inl hp)) hown
      have N₂ := newsSub (nx := (P, penO li tn gn u1 u2 n9) :: (li, listOf us'.toArray k9) :: (L + 1, oC) :: own) N₁ (by walk_at "sb")
      clear N₁
      unfold penO at N₂
      walk1
      walk1
      (with_reducible rename Fr _ _ _ _ => F9)
      with_reducible refine seq_stepP (fun s' => Ex7 fun (oo : List UInt8) (tO : Tok) (ml : Addr) (mvs : List Value) (mk : Nat) (ms : List Mk) (nxM : Led) => An2 (StT s.heap L P li us' n9 k9 oC own s (40 * i + 21) (fun m => An2 (m (Str.ofString "octets") = some (.bytes oo.toArray tO)) (m (Str.ofString "marks") = some (.ref ml))) nxM s') (MFacts P oo ml mvs mk ms nxM)) ?_ ?_
      · intro PP hPP
        walk_at "mine steps"
        (with_reducible rename Fr _ _ _ _ => F8)
        (with_reducible rename News _ _ _ _ => N8)
        refine ⟨rfl, hPP _ ⟨_, _, _, _, _, _, _, ⟨_, _, _, _, _, _, _, rfl, F8, newsTail N8, by omega, rfl, rfl⟩, by assumption, by simp, by assumption, by assumption, by assumption, by assumption, by assumption, by assumption⟩⟩
      (with_reducible rename News _ _ _ _ => N9)
      clear F9 N9 hcn
      rintro s1 ⟨oo, tO, ml, mvs, mk, ms, nxM, ⟨h, tk, m₁, tn, gn, u1, u2, rfl, F1, N1, htn, e1, e2⟩, hol, hol1, hmlm, hmr, hmd, hms, hmc, hoM⟩
      have hol2 : (oo.toArray.size : Int) ≤ 14 := by rw [List.size_toArray]; exact hol
      have hoX := offApp hoP hoM
      have F2 := frPut2 F1 e1 e2
      clear F1
      with_reducible refine seq_stepP (fun s' => Ex4 fun (b : Int) (tB : Tok) (mn : Nat) (tM : Tok) => An2 (StT s.heap L P li us' n9 k9 oC own s (40 * i + 23) (fun m => An4 (m (Str.ofString "octets") = some (.bytes oo.toArray tO)) (m (Str.ofString "marks") = some (.ref ml)) (m (Str.ofString "begin") = some (.int b tB)) (m (Str.ofString "many") = some (.int (mn : Nat) tM))) nxM s') (mn ≤ 5)) ?_ ?_
      · intro PP hPP
        walk_at "mine steps"
        (with_reducible rename Fr _ _ _ _ => F8)
        (with_reducible rename News _ _ _ _ => N8)
        refine ⟨rfl, hPP _ ⟨_, _, _, _, ⟨_, _, _, _, _, _, _, rfl, F8, newsTail (newsTail N8), by omega, rfl, rfl, rfl, rfl⟩, by omega⟩⟩
      clear F2 N1 e1 e2 htn
      rintro s1 ⟨b, tB, mn, tM, ⟨h, tk, m₁, tn, gn, u1, u2, rfl, F1, N1, htn, e1, e2, e3, e4⟩, hmn⟩
      have F2 := frPut4 F1 e1 e2 e3 e4
      clear F1
      with_reducible refine seq_stepP (StT s.heap L P li us' n9 k9 oC own s (40 * i + 23) (fun m => An4 (m (Str.ofString "octets") = some (.bytes oo.toArray tO)) (m (Str.ofString "marks") = some (.ref ml)) (m (Str.ofString "begin") = some (.int b tB)) (m (Str.ofString "many") = some (.int (mn : Nat) tM))) nxM) ?_ ?_
      · intro PP hPP
        walk_at "mine steps"
        refine Stop.out ?_
        (with_reducible rename Fr _ _ _ _ => F8)
        (with_reducible rename News _ _ _ _ => N8)
        refine ne_uns N8 (j := 9) (W := unstr oo ms b mn) (O := dueR oo ms b mn) (by walk_at "mine ok") (by walk_at "mine mem") (by walk_at "mine mem") (rdSub (by assumption) (by walk_at "mine subI")) (by walk_at "mine mem") (by walk_at "mine mem") (rdSub (by assumption) (by walk_at "mine subI")) (plain_due hms) ?_
        walk_at "mine steps"
        exact ⟨rfl, hPP _ ⟨_, _, _, tn, gn, u1, u2, rfl, F8, (by first | exact N8 | exact newsSub N8 (by walk_at "sb")), by omega, rfl, rfl, rfl, rfl⟩⟩
      clear F2 N1 e1 e2 e3 e4 htn
      rintro s1 ⟨h, tk, m₁, tn, gn, u1, u2, rfl, F1, N1, htn, e1, e2, e3, e4⟩
      have F2 := frPut4 F1 e1 e2 e3 e4
      clear F1
      with_reducible refine seq_stepP (StT s.heap L P li us' n9 k9 oC own s (40 * i + 23) (fun m => An4 (m (Str.ofString "octets") = some (.bytes oo.toArray tO)) (m (Str.ofString "marks") = some (.ref ml)) (m (Str.ofString "begin") = some (.int b tB)) (m (Str.ofString "many") = some (.int (mn : Nat) tM))) nxM) ?_ ?_
      · intro PP hPP
        walk_at "mine steps"
        refine Stop.out ?_
        (with_reducible rename Fr _ _ _ _ => F8)
        (with_reducible rename News _ _ _ _ => N8)
        refine ne_uns N8 (j := 9) (W := unstr oo ms 1 20) (O := dueR oo ms 1 20) (by walk_at "mine ok") (by walk_at "mine mem") (by walk_at "mine mem") (rdSub (by assumption) (by walk_at "mine subI")) (by walk_at "mine mem") (by walk_at "mine mem") (rdSub (by assumption) (by walk_at "mine subI")) (plain_due hms) ?_
        walk_at "mine steps"
        exact ⟨rfl, hPP _ ⟨_, _, _, tn, gn, u1, u2, rfl, F8, (by first | exact N8 | exact newsSub N8 (by walk_at "sb")), by omega, rfl, rfl, rfl, rfl⟩⟩
      clear F2 N1 e1 e2 e3 e4 htn
      rintro s1 ⟨h, tk, m₁, tn, gn, u1, u2, rfl, F1, N1, htn, e1, e2, e3, e4⟩
      have F2 := frPut4 F1 e1 e2 e3 e4
      clear F1
      with_reducible refine seq_stepP (StT s.heap L P li us' n9 k9 oC own s (40 * i + 24) (fun m => An4 (m (Str.ofString "octets") = some (.bytes oo.toArray tO)) (m (Str.ofString "marks") = some (.ref ml)) (m (Str.ofString "begin") = some (.int b tB)) (m (Str.ofString "many") = some (.int (mn : Nat) tM))) nxM) ?_ ?_
      · intro PP hPP
        walk_at "mine steps"
        (with_reducible rename Fr _ _ _ _ => F8)
        (with_reducible rename News _ _ _ _ => N8)
        exact ⟨rfl, hPP _ ⟨_, _, _, _, _, _, _, rfl, F8, (by first | exact N8 | exact newsSub N8 (by walk_at "sb")), by omega, rfl, rfl, rfl, rfl⟩⟩
      clear F2 N1 e1 e2 e3 e4 htn
      rintro s1 ⟨h, tk, m₁, tn, gn, u1, u2, rfl, F1, N1, htn, e1, e2, e3, e4⟩
      have F2 := frPut4 F1 e1 e2 e3 e4
      clear F1
      with_reducible refine seq_stepP (StT s.heap L P li us' n9 k9 oC own s (40 * i + 29) (fun m => An4 (m (Str.ofString "octets") = some (.bytes oo.toArray tO)) (m (Str.ofString "marks") = some (.ref ml)) (m (Str.ofString "begin") = some (.int b tB)) (m (Str.ofString "many") = some (.int (mn : Nat) tM))) nxM) ?_ ?_
      · intro PP hPP
        walk_at "mine steps"
        refine Stop.out ?_
        (with_reducible rename Fr _ _ _ _ => F8)
        (with_reducible rename News _ _ _ _ => N8)
        refine refused (base := Heap.hide _ L) (B.keeps (hideL F8)) (Nat.le_of_eq (Heap.hide_size _ _)) (Ok.less (Ok.deeper hA) (by omega)) (Around.frames_deeper hfr) (Heap.FunFrames.cons (by show ScopeKind.function ≠ .module; decide) rfl F8.ns (Heap.hide_self _ _) trivial) (fun _ _ e => Heap.of_hide e) (by omega) fun h6 tk6 k6 up6 => ?_
        have F6 := frUp F8 k6 up6
        have N6 := newsUp N8 k6
        clear F8 N8
        walk_at "mine steps"
        refine Stop.out ?_
        (with_reducible rename Fr _ _ _ _ => F8)
        (with_reducible rename News _ _ _ _ => N8)
        refine LCg.CompSrc.range rfl F8 N8 (by assumption) (small_one (by omega) (by omega) (by omega) (by omega)) (rangeSize_zero _) ?_ ?_
        · rw [sizeLine_eq]; omega
        intro g6
        refine comp_indA (fun i6 ys news => Ex5 fun (ti gi : Nat) (w1 w2 : Tok) (zs : List Nat) => An5 (news = (P, listOf [Value.ref li, .int ti w1, .int gi w2].toArray n9) :: (li, listOf us'.toArray k9) :: (L + 1, oC) :: (own ++ nxM)) (RdAll No ys (zs.map fun (z : Nat) => Mine.D.int (z : Int))) (zs.length = i6) ((∀ z ∈ zs, z ≤ 1000000)) (ti ≤ 40 * i + 25 + i6)) ⟨_, _, _, _, [], rfl, .nil, rfl, (by intro x hx; cases hx), (by omega)⟩ ?_ ?_
        · rintro i6 ys news v J oJ C oC2 D m₂ h7 tk7 E' II hII hi6 ⟨ti, gi, w1, w2, zs, rfl, hys, hzl, hzs, hti⟩ ⟨tv, rfl⟩ hC hx F₂ N₂ off ne
          have nJ : J ≠ P := Ne.symm off.1.1
          have nC : C ≠ P := Ne.symm off.1.2.1
          have nD : D ≠ P := Ne.symm off.1.2.2
          clear ne
          have hi7 : i6 < 5 := by omega
          clear F8 N8
          walk_at "mine steps"
          refine Stop.out ?_
          (with_reducible rename Fr _ _ _ _ => F7)
          (with_reducible rename News _ _ _ _ => N7)
          refine LCg.CompEnd.intro F7 N7 (_ :: _ :: _ :: (own ++ nxM)) (fun q hq => hq) ⟨off.1, off.2.1, off.2.2.1, off.2.2.2⟩ trivial (hII _ _ ⟨_, _, _, _, zs ++ [1 + _], rfl, oneMore hys, ?_, ?_, ?_⟩)
          · rw [List.length_append, hzl]; rfl
          · intro z hz
            rcases List.mem_append.mp hz with hz | hz
            · exact hzs z hz
            · rw [List.mem_singleton.mp hz]; omega
          · omega
        · rintro ys news ⟨ti, gi, w1, w2, zs, rfl, hys, hzl, hzs, hti⟩
          intro D h7 tk7 F₁ N₁ off
          clear F8 N8
          walk_at "mine steps"
          refine Stop.out ?_
          (with_reducible rename Fr _ _ _ _ => F7)
          (with_reducible rename News _ _ _ _ => N7)
          refine sizes_v (zs := zs) B F7 N7 (by walk_at "mine ok") (by omega) (.list (N7 _ (.head _)).1 (hys.mono fun _ _ q => q.elim)) (by omega) hzs fun h8 tk8 F8 N8 => ?_
          clear F7 N7
          walk_at "mine steps"
          (with_reducible rename Fr _ _ _ _ => F9)
          (with_reducible rename News _ _ _ _ => N9)
          exact ⟨rfl, hPP _ ⟨_, _, _, ti, gi, w1, w2, rfl, F9, (by first | exact N9 | exact newsSub N9 (by walk_at "sb")), by omega, rfl, rfl, rfl, rfl⟩⟩
      clear F2 N1 e1 e2 e3 e4 htn
      rintro s1 ⟨h, tk, m₁, tn, gn, u1, u2, rfl, F1, N1, htn, e1, e2, e3, e4⟩
      have F2 := frPut4 F1 e1 e2 e3 e4
      have hsz : oo.toArray.size = oo.length := List.size_toArray
      clear F1
      with_reducible refine seq_stepP (fun s' => Ex2 fun (pl : Nat) (tP : Tok) => An2 (StT s.heap L P li us' n9 k9 oC own s (40 * i + 30) (fun m => An5 (m (Str.ofString "octets") = some (.bytes oo.toArray tO)) (m (Str.ofString "marks") = some (.ref ml)) (m (Str.ofString "begin") = some (.int b tB)) (m (Str.ofString "many") = some (.int (mn : Nat) tM)) (m (Str.ofString "place") = some (.int (pl : Nat) tP))) nxM s') (pl ≤ oo.length)) ?_ ?_
      · intro PP hPP
        walk_at "mine steps"
        (with_reducible rename Fr _ _ _ _ => F8)
        (with_reducible rename News _ _ _ _ => N8)
        exact ⟨rfl, hPP _ ⟨_, _, ⟨_, _, _, _, _, _, _, rfl, F8, N8, by omega, rfl, rfl, rfl, rfl, rfl⟩, by omega⟩⟩
      clear F2 N1 e1 e2 e3 e4 htn
      rintro s1 ⟨pl, tP, ⟨h, tk, m₁, tn, gn, u1, u2, rfl, F1, N1, htn, e1, e2, e3, e4, e5⟩, hpl⟩
      have F2 := frPut5 F1 e1 e2 e3 e4 e5
      clear F1
      with_reducible refine seq_stepP (fun s' => Ex4 fun (e : Nat) (tE : Tok) (pr : Option Mk) (pv : Value) => An3 (StT s.heap L P li us' n9 k9 oC own s (40 * i + 30) (fun m => An7 (m (Str.ofString "octets") = some (.bytes oo.toArray tO)) (m (Str.ofString "marks") = some (.ref ml)) (m (Str.ofString "begin") = some (.int b tB)) (m (Str.ofString "many") = some (.int (mn : Nat) tM)) (m (Str.ofString "place") = some (.int (pl : Nat) tP)) (m (Str.ofString "end") = some (.int (e : Nat) tE)) (m (Str.ofString "pair") = some pv)) nxM s') (nearAt oo ms pl = (e, pr)) (Rd (InL nxM) pv (hitD pr))) ?_ ?_
      · intro PP hPP
        walk_at "mine steps"
        refine Stop.out ?_
        (with_reducible rename Fr _ _ _ _ => F8)
        (with_reducible rename News _ _ _ _ => N8)
        refine nearest_v (P := InL nxM) B F8 N8 (by walk_at "mine ok") (by omega) (by omega) (fun a o hm => (N8 (a, o) (have hm' : (a, o) ∈ nxM := hm; by walk_at "sm")).1) hmd hms fun ln us n h7 tk7 nx F7 N7 hnr => ?_
        obtain ⟨a, na, ta, pv, hua, hta, rpv⟩ := hnr.get (nearAt_spec (o := oo) (ms := ms) hpl)
        have N6 := newsSub (nx := (a, tupO [Value.int (nearAt oo ms pl).1 ta, pv].toArray na) :: _) N7 (by
          intro q hq
          rcases List.mem_cons.mp hq with rfl | hq
          · walk_at "sm"
          · exact hq)
        dsimp only [List.cons_append] at N6
        clear N7 F8 N8
        walk_at "mine steps"
        (with_reducible rename Fr _ _ _ _ => F9)
        (with_reducible rename News _ _ _ _ => N9)
        exact ⟨rfl, hPP _ ⟨_, _, (nearAt oo ms pl).2, pv, ⟨_, _, _, tn, gn, u1, u2, rfl, F9, (by first | exact N9 | exact newsSub N9 (by walk_at "sb")), by omega, rfl, rfl, rfl, rfl, rfl, rfl, rfl⟩, rfl, rpv⟩⟩
      clear F2 N1 e1 e2 e3 e4 e5 htn
      rintro s1 ⟨e, tE, pr, pv, ⟨h, tk, m₁, tn, gn, u1, u2, rfl, F1, N1, htn, e1, e2, e3, e4, e5, e6, e7⟩, hx, rpv⟩
      have F2 := frPut7 F1 e1 e2 e3 e4 e5 e6 e7
      clear F1
      with_reducible refine seq_stepP (fun s' => Ex5 fun (dr : Addr) (dn : Nat) (d1 d2 d3 : Tok) => StT s.heap L P li us' n9 k9 oC own s (40 * i + 30) (fun m => An6 (m (Str.ofString "octets") = some (.bytes oo.toArray tO)) (m (Str.ofString "marks") = some (.ref ml)) (m (Str.ofString "begin") = some (.int b tB)) (m (Str.ofString "many") = some (.int (mn : Nat) tM)) (m (Str.ofString "place") = some (.int (pl : Nat) tP)) (m (Str.ofString "due") = some (.ref dr))) (nxM ++ [(dr, tupO [Value.bytes (piece oo ms pl).1.toArray d1, Value.bytes (piece oo ms pl).2.1.toArray d2, Value.int ((piece oo ms pl).2.2 : Nat) d3].toArray dn)]) s') ?_ ?_
      · intro PP hPP
        cases pr with
        | none =>
          cases rpv
          have hp := plain_none hms hpl hx
          rw [hp] at hPP
          walk_at "mine steps"
          (with_reducible rename Fr _ _ _ _ => F8)
          (with_reducible rename News _ _ _ _ => N8)
          exact ⟨rfl, hPP _ ⟨_, _, _, _, _, ⟨_, _, _, tn, gn, u1, u2, rfl, F8, dueNews N8, by omega, rfl, rfl, rfl, rfl, rfl, rfl⟩⟩⟩
        | some mk2 =>
          have hp := plain_some hms hpl hx
          rw [hp] at hPP
          obtain ⟨a2, n2, t2, rfl, ha2⟩ := mkOut rpv
          obtain ⟨hx1, hx2⟩ := nf_prop (Nat.le_refl _) (nearAt_spec (o := oo) (ms := ms) hpl)
          rw [hx] at hx1 hx2
          obtain ⟨hm1, hm2⟩ := hx2 mk2 rfl
          obtain ⟨hne2, hle2⟩ := hms _ hm1
          dsimp only at hx1 hm2
          have N2 := newsSub (nx := (a2, tupO [Value.bytes mk2.1.toArray t2, Value.bool mk2.2].toArray n2) :: _) N1 (by
            intro q hq
            rcases List.mem_cons.mp hq with rfl | hq
            · walk_at "sm"
            · exact hq)
          clear N1
          walk_at "mine steps"
          refine Stop.out ?_
          (with_reducible rename Fr _ _ _ _ => F8)
          (with_reducible rename News _ _ _ _ => N8)
          refine behind_v (P := InL nxM) (m := mk2) B F8 N8 (by walk_at "mine ok") (fun a o hm => (N8 (a, o) (have hm' : (a, o) ∈ nxM := hm; by walk_at "sm")).1) (by omega) hle2 (by omega) hne2 hm2 rpv fun h7 tk7 t7 F7 N7 => ?_
          clear F8 N8
          walk_at "mine steps"
          (with_reducible rename Fr _ _ _ _ => F8)
          (with_reducible rename News _ _ _ _ => N8)
          exact ⟨rfl, hPP _ ⟨_, _, _, _, _, ⟨_, _, _, tn, gn, u1, u2, rfl, F8, dueNews2 N8, by omega, rfl, rfl, rfl, rfl, rfl, rfl⟩⟩⟩
      clear F2 N1 e1 e2 e3 e4 e5 e6 e7 htn
      rintro s1 ⟨dr, dn, d1, d2, d3, ⟨h, tk, m₁, tn, gn, u1, u2, rfl, F1, N1, htn, e1, e2, e3, e4, e5, e6⟩⟩
      have F2 := frPut6 F1 e1 e2 e3 e4 e5 e6
      clear F1
      with_reducible refine seq_stepP (StT s.heap L P li us' n9 k9 oC own s (40 * i + 30) (fun m => An4 (m (Str.ofString "octets") = some (.bytes oo.toArray tO)) (m (Str.ofString "marks") = some (.ref ml)) (m (Str.ofString "begin") = some (.int b tB)) (m (Str.ofString "many") = some (.int (mn : Nat) tM))) nxM) ?_ ?_
      · intro PP hPP
        walk_at "mine steps"
        refine Stop.out ?_
        (with_reducible rename Fr _ _ _ _ => F8)
        (with_reducible rename News _ _ _ _ => N8)
        refine next_piece_u B F8 N8 (by walk_at "mine ok") hpl (by omega) (hmd.led N8 (by walk_at "sb")) (fun m h => ⟨(hms m h).1, by have := (hms m h).2; omega⟩) fun a n t1 t2 t3 h7 tk7 ap F7 N7 => ?_
        clear F8 N8
        walk_at "mine steps"
        refine Stop.out ?_
        (with_reducible rename Fr _ _ _ _ => F8)
        (with_reducible rename News _ _ _ _ => N9)
        refine ne_tup (ds := [.bytes (piece oo ms pl).1, .bytes (piece oo ms pl).2.1, .int ((piece oo ms pl).2.2 : Nat)]) (.tup (N9 _ (.head _)).1 (.cons (.bytes _ _) (.cons (.bytes _ _) (.cons (.int _ _) .nil)))) (.tup (N9 (dr, tupO [Value.bytes (piece oo ms pl).1.toArray d1, Value.bytes (piece oo ms pl).2.1.toArray d2, Value.int ((piece oo ms pl).2.2 : Nat) d3].toArray dn) (by simp only [List.mem_cons, List.mem_append]; simp)).1 (.cons (.bytes _ _) (.cons (.bytes _ _) (.cons (.int _ _) .nil)))) (okEq (k := 9) (by walk_at "mine ok") (by simp [depAll, dep])) ?_
        walk_at "mine steps"
        exact ⟨rfl, hPP _ ⟨_, _, _, tn, gn, u1, u2, rfl, F8, (by first | exact N9 | exact newsSub N9 (by walk_at "sb")), by omega, rfl, rfl, rfl, rfl⟩⟩
      clear F2 N1 e1 e2 e3 e4 e5 e6 htn
      rintro s1 ⟨h, tk, m₁, tn, gn, u1, u2, rfl, F1, N1, htn, e1, e2, e3, e4⟩
      have F2 := frPut4 F1 e1 e2 e3 e4
      clear F1
      with_reducible refine seq_stepP (fun s' => Ex2 fun (sl : Addr) (nxS : Led) => An2 (StT s.heap L P li us' n9 k9 oC own s (40 * i + 30) (fun m => An2 (m (Str.ofString "octets") = some (.bytes oo.toArray tO)) (m (Str.ofString "singles") = some (.ref sl))) nxS s') (Rd (InL nxS) (.ref sl) (marksD (ms.map fun m => (m.1, false))))) ?_ ?_
      · intro PP hPP
        walk_at "mine steps"
        refine Stop.out ?_
        (with_reducible rename Fr _ _ _ _ => F8)
        (with_reducible rename News _ _ _ _ => N8)
        have hmv := hmr.length
        rw [List.length_map] at hmv
        refine LCp.SrcLP.ledger rfl F8 N8 (.tail _ (.tail _ (.tail _ (List.mem_append.mpr (.inr hmlm))))) (by rw [List.size_toArray, sizeLine_eq]; omega) ?_
        intro g6
        refine compP_ind (fun i6 ys news => ∃ tl, news = (P, listOf [Value.ref li, .int (tn : Nat) u1, .int (gn : Nat) u2].toArray n9) :: (li, listOf us'.toArray k9) :: (L + 1, oC) :: (own ++ (nxM ++ tl)) ∧ RdAll (InL tl) ys (((ms.take i6).map fun m => ((m.1, false) : Mk)).map mkD)) ⟨[], by rw [List.append_nil], .nil⟩ ?_ ?_
        · rintro i6 ys news v hi6 ⟨tl, rfl, hys⟩ hv
          obtain ⟨d6, hd6, rd6⟩ := hmr.at (k := i6) (by simpa using hv)
          obtain ⟨m6, hm6, rfl⟩ : ∃ m, ms[i6]? = some m ∧ mkD m = d6 := by simpa using hd6
          obtain ⟨a6, n6, t6, rfl, ha6⟩ := mkOut rd6
          refine ⟨a6, _, _, _, _, rfl, (by simp only [List.mem_cons, List.mem_append]; exact .inr (.inr (.inr (.inr (.inl ha6))))), rfl, rfl, ?_⟩
          intro J oJ C oC2 D m₂ h7 tk7 E' hC hx hx2 F₂ N₂ off ne
          walk_at "mine steps"
          refine Stop.out ?_
          (with_reducible rename Fr _ _ _ _ => F9)
          (with_reducible rename News _ _ _ _ => N9)
          refine LCg.CompEnd.intro F9 N9 (_ :: _ :: _ :: (own ++ (nxM ++ (_ :: tl)))) rotG (offGrow off ⟨by refine neN ?_; dsimp only; omega, by refine neN ?_; dsimp only; omega, by refine neN ?_; dsimp only; omega⟩) (.inr ⟨_, .tail _ (.tail _ (.tail _ (List.mem_append.mpr (.inr (List.mem_append.mpr (.inl hmlm)))))), rfl, _, rfl⟩) ⟨_ :: tl, rfl, takeSnoc (hys.mono fun _ _ q => .tail _ q) hm6 (.tup (.head _) (.cons (.bytes _ _) (.cons (.bool _) .nil)))⟩
        · rintro ys news ⟨tl, rfl, hys⟩
          intro D h7 tk7 F₁ N₁ off
          rw [List.size_toArray, hmv, List.take_length] at hys
          walk_at "mine steps"
          (with_reducible rename Fr _ _ _ _ => F9)
          (with_reducible rename News _ _ _ _ => N9)
          exact ⟨rfl, hPP _ ⟨D, _, ⟨_, _, _, tn, gn, u1, u2, rfl, F9, singNews N9, by omega, rfl, rfl⟩, .list (.head _) (hys.mono fun _ _ q => .tail _ q)⟩⟩
      clear F2 N1 e1 e2 e3 e4 htn
      rintro s1 ⟨sl, nxS, ⟨h, tk, m₁, tn, gn, u1, u2, rfl, F1, N1, htn, e1, e2⟩, hrS⟩
      have F2 := frPut2 F1 e1 e2
      have hs2 : ∀ m ∈ ms.map (fun m => ((m.1, false) : Mk)), m.1 ≠ [] ∧ m.1.length ≤ 16 := fun m hm => by
        obtain ⟨x, hx1, rfl⟩ := List.mem_map.mp hm
        exact hms x hx1
      have hs3 : ∀ m ∈ ms.map (fun m => ((m.1, false) : Mk)), m.1 ≠ [] ∧ m.2 = false := fun m hm => by
        obtain ⟨x, hx1, rfl⟩ := List.mem_map.mp hm
        exact ⟨(hms x hx1).1, rfl⟩
      generalize ms.map (fun m => ((m.1, false) : Mk)) = ms2 at *
      clear F1 hmlm hmr hmd hms hmc hoX hoM
      with_reducible refine seq_stepP (fun s' => Ex4 fun (pp : Addr) (us : List Value) (k : Nat) (nxP : Led) => An2 (StT s.heap L P li us' n9 k9 oC own s (40 * i + 30) (fun m => An2 (m (Str.ofString "octets") = some (.bytes oo.toArray tO)) (m (Str.ofString "pieces") = some (.ref pp))) ((pp, listOf us.toArray k) :: nxP) s') (RdAll (InL nxP) us ((unstr oo ms2 1 20).1.map pairD))) ?_ ?_
      · intro PP hPP
        walk_at "mine steps"
        (with_reducible rename Fr _ _ _ _ => F9)
        (with_reducible rename News _ _ _ _ => N9)
        exact ⟨rfl, hPP _ ⟨_, _, _, _, ⟨_, _, _, tn, gn, u1, u2, rfl, F9, pieceNews N9, by omega, rfl, rfl⟩, by assumption⟩⟩
      clear F2 N1 e1 e2 htn hrS
      rintro s1 ⟨pp, us, k, nxP, ⟨h, tk, m₁, tn, gn, u1, u2, rfl, F1, N1, htn, e1, e2⟩, hrP⟩
      have F2 := frPut2 F1 e1 e2
      have hxl := unstr_len oo ms2 1 20
      have hjoin := plain_join hs3 hol1 (by omega : oo.length ≤ 20)
      generalize (unstr oo ms2 1 20).1 = xs at *
      clear F1
      with_reducible refine seq_stepP (fun s' => Ex2 fun (rl : Addr) (nxR : Led) => An2 (StT s.heap L P li us' n9 k9 oC own s (40 * i + 30) (fun m => An2 (m (Str.ofString "octets") = some (.bytes oo.toArray tO)) (m (Str.ofString "rows") = some (.ref rl))) nxR s') (Rd (InL nxR) (.ref rl) (.list ((flat xs).map rowD)))) ?_ ?_
      · intro PP hPP
        obtain ⟨prs, hpl2, hpr⟩ := prsOf hrP
        have hul := hrP.length
        rw [List.length_map] at hul
        refine Assign_ListComp_2 (h₀ := s.heap) (L := L) (m := mapOf F2) rfl (by with_unfolding_all rfl) (by with_unfolding_all rfl) (by decide) rfl (by decide) rfl rfl (by decide) rfl rfl ?_
        walk1
        refine ⟨pp, us.toArray, prs, _, (fun i6 j6 ys nw => ∃ tl, nw = (P, listOf [Value.ref li, .int (tn : Nat) u1, .int (gn : Nat) u2].toArray n9) :: (li, listOf us'.toArray k9) :: (L + 1, oC) :: (own ++ (((pp, listOf us.toArray k) :: nxP) ++ tl)) ∧ RdAll (InL tl) ys (((flat xs).take (2 * i6 + j6)).map rowD)), rfl, rfl, F2, N1, ?_, ?_, ?_, ⟨[], by rw [List.append_nil], .nil⟩, ?_, ?_⟩
        · rw [List.size_toArray, sizeLine_eq]; omega
        · rintro i6 j6 ys nw ⟨tl, rfl, hys⟩
          refine ⟨.inr ⟨_, .tail _ (.tail _ (.tail _ (List.mem_append.mpr (.inr (List.mem_append.mpr (.inl (.head _))))))), rfl, _, rfl⟩, by rw [List.size_toArray, hul, hpl2], fun i u e => ?_⟩
          obtain ⟨t6, n6, e6, m6, _⟩ := hpr i u e
          exact ⟨t6, n6, by simpa using e6, .inr (.tail _ (.tail _ (.tail _ (List.mem_append.mpr (.inr (List.mem_append.mpr (.inl (.tail _ m6))))))))⟩
        · rintro i6 ys nw ⟨tl, rfl, hys⟩
          exact ⟨tl, rfl, by rw [show 2 * (i6 + 1) + 0 = 2 * i6 + 2 by omega]; exact hys⟩
        · intro i6 j6 ys nw u I oI C oC2 D J oJ m₂ h7 tk7 E' hi6 hj6
          rintro ⟨tl, rfl, hys⟩ ⟨pr, hpr6, hu⟩ hC hx2 F₂ N₂ off offJ ne
          obtain ⟨t6, n6, e6, m6, x6, ta, tb, hx6, rfl⟩ := hpr _ _ hpr6
          obtain ⟨y6, ty, rfl, hfl⟩ := flat_at hx6 hj6 hu
          clear N1
          walk_at "mine steps"
          refine Stop.out ?_
          (with_reducible rename Fr _ _ _ _ => F9)
          (with_reducible rename News _ _ _ _ => N9)
          refine LCg.CompEnd.intro F9 N9 ((J, oJ) :: _ :: _ :: _ :: (own ++ (((pp, listOf us.toArray k) :: nxP) ++ (_ :: tl)))) rotH ⟨off.1, offGrow off.2 ⟨by refine neN ?_; dsimp only; omega, by refine neN ?_; dsimp only; omega, by refine neN ?_; dsimp only; omega⟩⟩ ⟨_, rfl, offGrow1 offJ (by refine neN ?_; dsimp only; omega)⟩ ⟨_, rfl, _ :: tl, rfl, ?_⟩
          exact rowSnoc (hys.mono fun _ _ q => .tail _ q) hfl (.tup (.head _) (.cons (.bytes _ _) (.cons .none .nil)))
        · rintro ys nw ⟨tl, rfl, hys⟩
          unfold LCg.FinA
          intro D h7 tk7 F₁ N₁ off
          rw [List.size_toArray, hul, show 2 * xs.length + 0 = (flat xs).length by rw [flat_len]; rfl, List.take_length] at hys
          exact ⟨rfl, hPP _ ⟨D, _, ⟨_, _, _, tn, gn, u1, u2, rfl, F₁, singNews N₁, by omega, rfl, rfl⟩, .list (.head _) (hys.mono fun _ _ q => .tail _ q)⟩⟩
      clear F2 N1 e1 e2 htn hrP
      rintro s1 ⟨rl, nxR, ⟨h, tk, m₁, tn, gn, u1, u2, rfl, F1, N1, htn, e1, e2⟩, hrR⟩
      have F2 := frPut2 F1 e1 e2
      have hjoin2 : (flat xs).flatten = oo := hjoin
      generalize flat xs = fl at *
      clear F1
      walk_at "mine steps"
      refine Stop.out ?_
      (with_reducible rename Fr _ _ _ _ => F8)
      (with_reducible rename News _ _ _ _ => N8)
      have hz : (List.replicate (oo.toArray.size : Int).toNat (0 : UInt8)).length = oo.length := by rw [List.length_replicate, Int.toNat_natCast, List.size_toArray]
      refine strung_v (xs := fl) B F8 N8 (by walk_at "mine ok") (by omega) (by omega) (hrR.led N8 (by walk_at "sb")) (by rw [hz, hjoin2]) fun a n t1 t2 h7 tk7 F7 N7 => ?_
      rw [hz, hjoin2] at N7
      clear F8 N8
      walk_at "mine steps"
      refine Stop.out ?_
      (with_reducible rename Fr _ _ _ _ => F9)
      (with_reducible rename News _ _ _ _ => N9)
      refine ne_tup (ds := [.bytes oo, .int ((oo.length : Int) + 1), .bool false]) (.tup (N9 (a, _) (.tail _ (.head _))).1 (.cons (.bytes _ _) (.cons (.int _ _) (.cons (.bool _) .nil)))) (.tup (N9 _ (.head _)).1 (.cons (.bytes _ _) (.cons (.int _ _) (.cons (.bool _) .nil)))) (okEq (k := 9) (by walk_at "mine ok") (by simp [depAll, dep])) ?_
      walk_at "mine steps"
      refine MTurnK.next [(P, penO li tn gn u1 u2 n9), (li, listOf us'.toArray k9), (L + 1, oC)] F9 (newsSub N9 ?_) ?_ ⟨tn, gn, u1, u2, rfl, by omega⟩
      · refine subApp ?_ (subCons (.tail _ (.tail _ (.head _))) ?_) <;> walk_at "sb"
      · intro q hq
        simp only [List.mem_cons, List.not_mem_nil, or_false] at hq
        rcases hq with rfl | rfl | rfl
        · exact notFldSeq
        · exact notFldSeq
        · exact notFldCell dC
    · rintro m₁ nx h tk ⟨tn, gn, u1, u2, rfl, htn⟩ hcn F₁ N₁
      walk_at "mine steps"
      exact hQ _ _ (Fr.keep F₁)
end
end
end Mine
section
open PySem PySem.W PySem.Calls PyProof.Rows
namespace Mine
theorem callerOk : Ok 10 callerA := ⟨rfl, by decide, by decide⟩
end Mine
set_option maxHeartbeats 8000000 in
theorem PySem.Challenge.cw_og0071_01_holds : PySem.Challenge.rw_og0071_01.Holds :=
  Mine.hd (by
  intro w s₀ s₁ mg mb G Y fa o pm cd doc dV kV ho hd hcd hD hmg hg args vals as hpre hlay hrd hwl hlo
  have KX := kIn_of Y
  refine Ground.open G ?_
  intro T B D TE TW
  have e0 : nsIn (Mine.hd.heap_1 w.params) mainGlobals (Str.ofString "law") = some (some (.ref 197)) := by k_is
  have e1 := mg_of KX T.g e0
  have e2 := (Eq.trans (Eq.symm hmg) e1)
  cases e2
  clear hcd hD ho hd B D TE TW G Y
  wrow_args hpre hlay hrd hwl hlo
  refine Mine.law_c ⟨KX, T⟩ Mine.callerOk rfl (by assumption) (by assumption) (by omega) fun h' tk' k => GoodW.toG ⟨.inl ⟨_, .bool true, [], rfl, ?_, ?_, ?_, ?_⟩, k, rfl, hg⟩
  · intro cls; rfl
  · exact .bool true
  · first | kernel_rfl | (with_unfolding_all rfl) | decide
  · exact unshared_nil)
end
