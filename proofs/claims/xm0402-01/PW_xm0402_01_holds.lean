import PyProof.Rows.All
import Wide.All
import OpenK.AllK
import Wide.FinOn
import Lean
import PySem.Challenge.RW_xm0402_01
open PySem PySem.W PyProof.Rows
set_option Elab.async false
set_option maxRecDepth 100000
set_option maxHeartbeats 8000000
namespace Mine
def isDef : Stmt → Bool
  | .FunctionDef .. => true
  | .ClassDef .. => true
  | _ => false
def vw : Program := { PySem.Challenge.rw_xm0402_01.prog with main := { PySem.Challenge.rw_xm0402_01.prog.main with body := PySem.Challenge.rw_xm0402_01.prog.main.body.filter isDef } }
section
local macro_rules | `(tactic| o_head $H:term) => `(tactic| (
  refine holds_open (q := vw) (loose := [Str.ofString "NOUGHT"]) (Xt := fun s => xlAt vw [] s && recOk (RowW.records PySem.Challenge.rw_xm0402_01.row.toRowW) s) (XP := XL vw []) (Yf := Hook.obs $H) (Ya := Hook.val $H) (YP := Hook.says $H) (N := 3434) ?hl (Hook.of $H) (Hook.keeps $H) (fun s e => xl_of s (Bool.and_eq_true_iff.mp e).1) XL.keeps (by rfl) (by rfl) (by rfl) (fun s e => recFacts_of (Bool.and_eq_true_iff.mp e).2) (by rfl) (by first | assumption | decide +kernel) (by decide +kernel) ⟨rfl, rfl, rfl, rfl, rfl, by decide +kernel⟩ ?hw ?hc
  case hl => (intro w; kernel_rfl!)))
local macro_rules | `(tactic| o_law) => `(tactic| refine holds_law (by kernel_rfl!) fun said => ?_)
open_top top0 for PySem.Challenge.rw_xm0402_01
end
end Mine
set_option maxHeartbeats 8000000
open PySem PySem.W PyProof.Rows PySem.Calls PySem.Spec PyProof.Rows.KTD
namespace Mine
theorem dp_ok {dp n a b N : Nat} (h : dp + n < N) (e : Nat.ble (a + b) n = true) : dp + a + b < N := by
  have := Nat.le_of_ble_eq_true e
  omega
theorem room_ok {dp n : Nat} (h : dp + n < 900) : dp < recursionLimit := by
  simp only [recursionLimit]; omega
abbrev Keep (h h' : Heap) : Prop := ∀ b o, h.get? b = some o → h'.get? b = some o
abbrev Ar (dp un : Nat) (fr : Option (List Env)) (gd : Option (List Code)) : Around := { handled := none, depth := dp, frames := fr, guards := gd, units := un }

/-- the call of the def at f: what it hands back, all that stood kept -/
def Spec (w : World) (f : Addr) (need : Nat) (vs : List Value) (Pre : Heap → Prop) (Post : Heap → Heap → Value → Prop) : Prop :=
  ∀ (dp un : Nat) (fr : Option (List Env)) (gd : Option (List Code)) (s : Shared) (mean : ExcName → Option Value) (mg mb : Str → Option Value) (Q E : Value → Shared → Prop),
    (top0.heap_1 w.params).In s.heap → Top vw (looseW vw [Str.ofString "NOUGHT"]) mean mg mb s.heap → dp + need < 900 → un + 10 * need < 9000 → Pre s.heap →
    (∀ h' tk' v, Keep s.heap h' → Post s.heap h' v → Q v { s with heap := h', toks := tk' }) →
    wpAny (model PySem.Challenge.rw_xm0402_01.row.prog w) (Ar dp un fr gd) (call (.ref f) vs) Q E s

section
variable {w : World} {A : Around} {s : Shared} {Q E : Value → Shared → Prop} {mean : ExcName → Option Value} {mg mb : Str → Option Value} {f : Addr} {need : Nat} {vs : List Value} {Pre : Heap → Prop} {Post : Heap → Heap → Value → Prop}
  {h₀ : Heap} {L : Addr} {m : Str → Option Value} {news : List (Addr × Obj)}

theorem lookup_kstB : ∀ {binds : List (Str × Value)}, (binds.map (·.1)).Nodup → ∀ x, binds.reverse.lookup x = kstB (fun _ => none) binds x := by
  intro binds hn x
  have key : ∀ (l : List (Str × Value)) (acc : List (Str × Value)), List.lookup x (l ++ acc) = (List.lookup x l).or (List.lookup x acc) := by
    intro l acc
    induction l with
    | nil => simp
    | cons p r ih =>
      rw [List.cons_append, List.lookup_cons, List.lookup_cons, ih]
      split <;> simp
  induction binds with
  | nil => rfl
  | cons p r ih =>
    rw [List.map_cons, List.nodup_cons] at hn
    rw [List.reverse_cons, key, ih hn.2]
    show _ = if x = p.1 then some p.2 else kstB (fun _ => none) r x
    by_cases e : x = p.1
    · rw [if_pos e]
      have : ∀ (r : List (Str × Value)), x ∉ r.map (·.1) → kstB (fun _ => none) r x = none := by
        intro r
        induction r with
        | nil => intro _; rfl
        | cons q r ih2 =>
          intro hx
          show (if x = q.1 then some q.2 else kstB (fun _ => none) r x) = none
          rw [if_neg (fun e => hx (by rw [e]; exact List.mem_cons_self ..))]
          exact ih2 fun hm => hx (List.mem_cons_of_mem _ hm)
      rw [this r (e ▸ hn.1)]
      rw [Option.none_or, e]
      obtain ⟨p1, p2⟩ := p
      rw [List.lookup_cons]
      simp
    · rw [if_neg e]
      have : List.lookup x [p] = none := by
        rw [List.lookup_cons]
        have : (x == p.1) = false := by simpa using e
        rw [this]; rfl
      rw [this]; simp

theorem enter {dp un : Nat} {fr : Option (List Env)} {gd : Option (List Code)} {name qual : Str} {params : Arguments} {body : List Stmt} {scope : Scope} {dV kV doc pm cdv ct oc : Value} {an od : Option Addr} {osl : Array (Option Value)} {binds : List (Str × Value)}
    (X₀ : (top0.heap_1 w.params).In s.heap) (T : Top vw (looseW vw [Str.ofString "NOUGHT"]) mean mg mb s.heap)
    (ho : (top0.heap_1 w.params).lookup f = some ⟨oc, od, .func (fnOf name qual params body scope dV kV doc pm an cdv ct), osl⟩) (hcd : codeIn (top0.heap_1 w.params) cdv qual = true) (hroom : dp < recursionLimit)
    (hbind : BindsTo s (fnOf name qual params body scope dV kV doc pm an cdv ct) ⟨vs, []⟩ binds) (hloc : ∀ y ∈ binds, scope.names.lookup y.1 = some .local) (hnd : (binds.map (·.1)).Nodup)
    (h : ∀ L' h₁ tk', Fr s.heap L' h₁ (kstB (fun _ => none) binds) → News s.heap L' h₁ [] →
      wpAny (model PySem.Challenge.rw_xm0402_01.row.prog w) ((Ar dp un fr gd).deeper (envOf qual scope L' f cdv)) (execs body (envOf qual scope L' f cdv))
        (fun fl s' => Q (match fl with | .ret v => v | _ => .none) s')
        (fun _ _ => False)
        { s with heap := h₁, toks := tk' })
    (hco : scope.isCoroutine = false) (hgen : scope.isGenerator = false) (hk : scope.kind = .function)
    (hcell : ∀ x ∈ scope.names, x.2 ≠ .cell) : wpAny (model PySem.Challenge.rw_xm0402_01.row.prog w) (Ar dp un fr gd) (call (.ref f) vs) Q E s := by
  refine wpAny_call (codeAny_call_def (fd := fnOf name qual params body scope dV kV doc pm an cdv ct) (body := body) (binds := binds) hroom (X₀ _ _ ho) rfl T.nolimit (codeRec_of X₀ hcd) rfl hbind hcell hloc (fun h₁ hns hk₁ => ?_) hco hgen hk)
  have hns' : h₁.Ns s.heap.objs.size (kstB (fun _ => none) binds) := (funext (lookup_kstB hnd) : (fun x => binds.reverse.lookup x) = _) ▸ hns
  exact wpAny_mono (h _ h₁ _ ⟨hns', hk₁, Nat.le_refl _⟩ News.nil) (fun _ _ x => x) (fun _ _ x => x.elim)

theorem keepFr {h h' : Heap} (F : Fr h₀ L h m) (k : Keep h h') : Fr h₀ L h' m := ⟨F.ns.keeps k, fun b o e => k b o (F.keep b o e), F.above⟩
theorem keepNews {h h' : Heap} (N : News h₀ L h news) (k : Keep h h') : News h₀ L h' news := fun p hp => ⟨k _ _ (N p hp).1, (N p hp).2⟩
theorem addNews {h h' : Heap} {a : Addr} {o : Obj} (F : Fr h₀ L h m) (N : News h₀ L h news) (k : Keep h h') (ha : h.get? a = none) (ho : h'.get? a = some o) : News h₀ L h' ((a, o) :: news) := by
  intro p hp
  rcases List.mem_cons.mp hp with rfl | hp
  · refine ⟨ho, fun e => ?_, ?_⟩
    · obtain ⟨oL, _, _, hL, _⟩ := F.ns
      have e' : a = L := e
      rw [e', hL] at ha; cases ha
    · cases q : h₀.get? a with
      | none => rfl
      | some o' => rw [F.keep _ _ q] at ha; cases ha
  · exact keepNews N k p hp
theorem ne_of_fresh {h : Heap} {a : Addr} (N : News h₀ L h news) (ha : h.get? a = none) : ∀ p ∈ news, p.1 ≠ a := fun p hp e => by
  have := (N p hp).1; rw [e, ha] at this; cases this

/-- a new list of ints -/
def NewNums (h h' : Heap) (v : Value) (ns : List Int) : Prop := ∃ r vs n, v = .ref r ∧ h.get? r = none ∧ h'.get? r = some (listOf vs.toArray n) ∧ IntsAre vs ns
theorem NewNums.of {h h' : Heap} {r : Addr} {vs : List Value} {n : Nat} {ns : List Int} (N : News h L h' news) (hm : (r, listOf vs.toArray n) ∈ news) (hi : IntsAre vs ns) : NewNums h h' (.ref r) ns :=
  ⟨r, vs, n, rfl, (N _ hm).2.2, (N _ hm).1, hi⟩
theorem NewNums.open {h h' : Heap} {v : Value} {ns : List Int} (F : Fr h₀ L h m) (N : News h₀ L h news) (k : Keep h h') (x : NewNums h h' v ns) :
    ∃ r vs n, v = .ref r ∧ News h₀ L h' ((r, listOf vs.toArray n) :: news) ∧ IntsAre vs ns ∧ ∀ p ∈ news, p.1 ≠ r := by
  obtain ⟨r, vs, n, rfl, ha, ho, hi⟩ := x
  exact ⟨r, vs, n, rfl, addNews F N k ha ho, hi, ne_of_fresh N ha⟩
theorem NewNums.nums {h h' : Heap} {r : Addr} {ns : List Int} (x : NewNums h h' (.ref r) ns) : Nums h' r ns := by
  obtain ⟨r, vs, n, e, ha, ho, hi⟩ := x
  cases e
  exact ⟨vs, ⟨_, ho, rfl, n, rfl⟩, hi⟩

theorem use_any (pre : Pre s.heap) (S : Spec w f need vs Pre Post) (hA : A.handled = none) (X₀ : (top0.heap_1 w.params).In h₀) (T : Top vw (looseW vw [Str.ofString "NOUGHT"]) mean mg mb h₀)
    (F : Fr h₀ L s.heap m) (N : News h₀ L s.heap news) (hdp : A.depth + need < 900) (hun : A.units + 10 * need < 9000)
    (k : ∀ h' tk' v, Fr h₀ L h' m → News h₀ L h' news → Keep s.heap h' → Post s.heap h' v → Q v { s with heap := h', toks := tk' }) :
    wpAny (model PySem.Challenge.rw_xm0402_01.row.prog w) A (call (.ref f) vs) Q E s := by
  obtain ⟨hh, dp, fr, gd, un⟩ := A
  dsimp only at hA; subst hA
  exact S dp un fr gd s mean mg mb Q E (X₀.keeps F.keep) (T.keeps F.keep) hdp hun pre fun h' tk' v kp po => k h' tk' v (keepFr F kp) (keepNews N kp) kp po
theorem use_int {i : Int} {Pre : Heap → Prop} (pre : Pre s.heap) (S : Spec w f need vs Pre (fun _ _ v => ∃ t, v = .int i t)) (hA : A.handled = none) (X₀ : (top0.heap_1 w.params).In h₀) (T : Top vw (looseW vw [Str.ofString "NOUGHT"]) mean mg mb h₀)
    (F : Fr h₀ L s.heap m) (N : News h₀ L s.heap news) (hdp : A.depth + need < 900) (hun : A.units + 10 * need < 9000)
    (k : ∀ t h' tk', Fr h₀ L h' m → News h₀ L h' news → Q (.int i t) { s with heap := h', toks := tk' }) :
    wpAny (model PySem.Challenge.rw_xm0402_01.row.prog w) A (call (.ref f) vs) Q E s :=
  use_any pre S hA X₀ T F N hdp hun fun h' tk' v F' N' _ ⟨t, e⟩ => e ▸ k t h' tk' F' N'
theorem use_list {ns : List Int} {Pre : Heap → Prop} (pre : Pre s.heap) (S : Spec w f need vs Pre (fun h h' v => NewNums h h' v ns)) (hA : A.handled = none) (X₀ : (top0.heap_1 w.params).In h₀) (T : Top vw (looseW vw [Str.ofString "NOUGHT"]) mean mg mb h₀)
    (F : Fr h₀ L s.heap m) (N : News h₀ L s.heap news) (hdp : A.depth + need < 900) (hun : A.units + 10 * need < 9000)
    (k : ∀ r us n h' tk', Fr h₀ L h' m → News h₀ L h' ((r, listOf us.toArray n) :: news) → IntsAre us ns → (∀ p ∈ news, p.1 ≠ r) → Q (.ref r) { s with heap := h', toks := tk' }) :
    wpAny (model PySem.Challenge.rw_xm0402_01.row.prog w) A (call (.ref f) vs) Q E s :=
  use_any pre S hA X₀ T F N hdp hun fun h' tk' v F' _ kp x => by
    obtain ⟨r, us, n, rfl, N', hi, hne⟩ := x.open F N kp
    exact k r us n h' tk' F' N' hi hne
end
end Mine
open PySem PySem.W PyProof.Rows PySem.Calls PySem.Spec PyProof.Rows.KTD
set_option Elab.async false
set_option maxRecDepth 100000
set_option maxHeartbeats 500000
set_option linter.unusedSimpArgs false
set_option linter.unusedVariables false
set_option pp.deepTerms false
set_option pp.deepTerms.threshold 14
set_option pp.maxSteps 20000
set_option compiler.extract_closed false
namespace Mine
theorem fillAll : (PySem.Challenge.rw_xm0402_01 = PySem.Challenge.rw_xm0402_01) ∧ (top0.heap_1 = top0.heap_1) := by w_top off; k_fill; exact ⟨rfl, rfl⟩
theorem abs_post {α : Type} {M : Model} {A : Around} {t : Sem α} {Q : α → Shared → Prop} {E : Value → Shared → Prop} {s : Shared} (h : ∀ Q' : α → Shared → Prop, (∀ f s, Q f s → Q' f s) → wpAny M A t Q' E s) : wpAny M A t Q E s := h Q fun _ _ x => x
inductive StopD (P : Prop) : Prop
 | mk (h : P) : StopD P
theorem stopD {P : Prop} (h : StopD P) : P := h.rec id
theorem bpos {k : Int} : (0 : Int) < 2 ^ k.toNat := kbt_pos _
theorem bge {k : Int} (hk : 3 ≤ k) : (8 : Int) ≤ 2 ^ k.toNat := by
  have e : k.toNat = (k.toNat - 3) + 3 := by omega
  rw [e, Int.pow_add]
  have := kbt_pos (k.toNat - 3)
  have h8 : (2 : Int) ^ 3 = 8 := by decide
  rw [h8]; omega
theorem ble {k : Int} (hk' : k ≤ 8) : (2 : Int) ^ k.toNat ≤ 256 := by
  have e : (256 : Int) = 2 ^ (8 - k.toNat) * 2 ^ k.toNat := by
    rw [← Int.pow_add, Nat.sub_add_cancel (by omega)]; decide
  rw [e]
  have h1 := kbt_pos (8 - k.toNat)
  have h2 := kbt_pos k.toNat
  have := Int.mul_le_mul_of_nonneg_right (show (1 : Int) ≤ 2 ^ (8 - k.toNat) by omega) (Int.le_of_lt h2)
  omega
theorem fdivB {x : Int} {n : Nat} : x.fdiv (2 ^ n) = x / 2 ^ n := Int.fdiv_eq_ediv_of_nonneg x (Int.le_of_lt (kbt_pos n))
theorem fmodB {x : Int} {n : Nat} : x.fmod (2 ^ n) = x % 2 ^ n := Int.fmod_eq_emod_of_nonneg x (Int.le_of_lt (kbt_pos n))
theorem maskB {x : Int} {n : Nat} : Builtin.bitAnd x (1 * 2 ^ n - 1) = x % 2 ^ n := by rw [Int.one_mul]; exact kbt_mask x n
def dg (B : Int) : Nat → Int → List Int
  | 0, _ => []
  | f + 1, n => if n ≤ 0 then [] else n % B :: dg B f (n / B)
theorem dg_fuel {B : Int} (hB : 2 ≤ B) : ∀ {f g : Nat} {n : Int}, n.toNat ≤ f → n.toNat ≤ g → dg B f n = dg B g n := by
  intro f
  induction f with
  | zero =>
    intro g n h1 h2
    cases g with
    | zero => rfl
    | succ g =>
      show [] = if n ≤ 0 then [] else _
      rw [if_pos (by omega)]
  | succ f ih =>
    intro g n h1 h2
    cases g with
    | zero =>
      show (if n ≤ 0 then [] else _) = []
      rw [if_pos (by omega)]
    | succ g =>
      show (if n ≤ 0 then [] else _) = if n ≤ 0 then [] else _
      by_cases h : n ≤ 0
      · rw [if_pos h, if_pos h]
      · rw [if_neg h, if_neg h]
        have hd : n / B < n := Int.ediv_lt_of_lt_mul (by omega) (by have := Int.mul_le_mul_of_nonneg_left hB (show 0 ≤ n by omega); omega)
        have hd0 : 0 ≤ n / B := Int.ediv_nonneg (by omega) (by omega)
        rw [ih (g := g) (by omega) (by omega)]
theorem dg_step {B x : Int} {found D : List Int} {N : Nat} (hB : 2 ≤ B) (h0 : 0 < x) (h1 : found.length + x.toNat ≤ N) (h2 : found ++ dg B x.toNat x = D) :
    0 ≤ x / B ∧ (found ++ [x % B]).length + (x / B).toNat ≤ N ∧ (found ++ [x % B]) ++ dg B (x / B).toNat (x / B) = D ∧ (x / B).toNat < x.toNat := by
  have hd : x / B < x := Int.ediv_lt_of_lt_mul (by omega) (by have := Int.mul_le_mul_of_nonneg_left hB (show 0 ≤ x by omega); omega)
  have hd0 : 0 ≤ x / B := Int.ediv_nonneg (by omega) (by omega)
  refine ⟨hd0, ?_, ?_, by omega⟩
  · rw [List.length_append]; simp only [List.length_cons, List.length_nil]; omega
  · rw [← h2, List.append_assoc]
    congr 1
    have e : x.toNat = (x.toNat - 1) + 1 := by omega
    rw [e]
    show _ = if x ≤ 0 then [] else x % B :: dg B (x.toNat - 1) (x / B)
    rw [if_neg (by omega), dg_fuel hB (f := x.toNat - 1) (g := (x / B).toNat) (by omega) (by omega)]
    rfl
theorem dg_end {B x : Int} {found D : List Int} (h0 : ¬ 0 < x) (h2 : found ++ dg B x.toNat x = D) : found = D := by
  have e : x.toNat = 0 := by omega
  rw [e] at h2
  rw [← h2]
  exact (List.append_nil _).symm
theorem nat_step {k x : Int} {found D : List Int} {N : Nat} (hk : 3 ≤ k) (h0 : 0 < x) (h1 : found.length + x.toNat ≤ N) (h2 : found ++ dg (2 ^ k.toNat) x.toNat x = D) :
    0 ≤ x.fdiv (2 ^ k.toNat) ∧ (found ++ [Builtin.bitAnd x (1 * 2 ^ k.toNat - 1)]).length + (x.fdiv (2 ^ k.toNat)).toNat ≤ N ∧ (found ++ [Builtin.bitAnd x (1 * 2 ^ k.toNat - 1)]) ++ dg (2 ^ k.toNat) (x.fdiv (2 ^ k.toNat)).toNat (x.fdiv (2 ^ k.toNat)) = D := by
  have := bge hk
  rw [maskB, fdivB]
  obtain ⟨a, b, c, _⟩ := dg_step (by omega) h0 h1 h2
  exact ⟨a, b, c⟩
theorem nat_less {k x : Int} (hk : 3 ≤ k) (h0 : 0 < x) : (x.fdiv (2 ^ k.toNat)).toNat < x.toNat := by
  have := bge hk
  rw [fdivB]
  exact (dg_step (found := []) (N := x.toNat) (by omega) h0 (by simp) rfl).2.2.2
theorem nat_step' {k x : Int} {found D : List Int} {N : Nat} (hk : 3 ≤ k) (h0 : 0 < x) (h1 : found.length + x.toNat ≤ N) (h2 : found ++ dg (2 ^ k.toNat) x.toNat x = D) :
    0 ≤ x.fdiv (2 ^ k.toNat) ∧ (found ++ [x.fmod (2 ^ k.toNat)]).length + (x.fdiv (2 ^ k.toNat)).toNat ≤ N ∧ (found ++ [x.fmod (2 ^ k.toNat)]) ++ dg (2 ^ k.toNat) (x.fdiv (2 ^ k.toNat)).toNat (x.fdiv (2 ^ k.toNat)) = D := by
  have := bge hk
  rw [fmodB, fdivB]
  obtain ⟨a, b, c, _⟩ := dg_step (by omega) h0 h1 h2
  exact ⟨a, b, c⟩

theorem mul_okL {a b : Int} (h : a.natAbs < 2 ^ 64) : IntMulOk a b := IntMulOk.of_left (intBits_le_iff.mpr h)
theorem mul_okR {a b : Int} (h : b.natAbs < 2 ^ 64) : IntMulOk a b := IntMulOk.of_right (intBits_le_iff.mpr h)
theorem rep_flat {α : Type} (x : α) : ∀ n : Nat, (List.replicate n [x]).flatten = List.replicate n x
  | 0 => rfl
  | n + 1 => by rw [List.replicate_succ, List.flatten_cons, rep_flat x n]; rfl
/-- a tuple of a new list of ints and an int -/
def TupLI (h h' : Heap) (v : Value) (ns : List Int) (i : Int) : Prop := ∃ q r us n c t, v = .ref q ∧ h.get? q = none ∧ h'.get? q = some { cls := .type "tuple", data := .seq #[.ref r, .int i t] c } ∧ h.get? r = none ∧ h'.get? r = some (listOf us.toArray n) ∧ IntsAre us ns ∧ q ≠ r
theorem TupLI.of {h h' : Heap} {L q r : Addr} {us : List Value} {n c : Nat} {ns : List Int} {i : Int} {t : Tok} {news : List (Addr × Obj)} (N : News h L h' news) (h1 : (q, { cls := .type "tuple", data := .seq #[.ref r, .int i t] c }) ∈ news) (h2 : (r, listOf us.toArray n) ∈ news) (hi : IntsAre us ns) (hne : q ≠ r) : TupLI h h' (.ref q) ns i :=
  ⟨q, r, us, n, c, t, rfl, (N _ h1).2.2, (N _ h1).1, (N _ h2).2.2, (N _ h2).1, hi, hne⟩
section
variable {prog : Program} {w : World} {A : Around} {E : Value → Shared → Prop} {s : Shared} {env : Env} {h₀ : Heap} {L l : Addr} {σ : Type}
def EnEnd (h₀ : Heap) (L : Addr) (s : Shared) (l : Addr) (own : List (Addr × Obj)) (ob : σ → Obj) (ps : σ → List (Str × Value)) (Facts : σ → Prop) (stored : List Str) (xi xc : Str) (m₀ : Str → Option Value) (P : Nat → σ → Prop) (i : Nat) (s₂ : Shared) : Prop :=
  ∃ (c' : σ) (h' : Heap) (tk : Nat) (m' : Str → Option Value) (news' : List (Addr × Obj)), s₂ = { s with heap := h', toks := tk } ∧ Fr h₀ L h' m' ∧ News h₀ L h' news' ∧ (l, ob c') ∈ news' ∧ (∀ p ∈ own, p ∈ news') ∧ Facts c' ∧ (∀ p ∈ ps c', m' p.1 = some p.2) ∧ (∀ z, z ≠ xi → z ≠ xc → (∀ p ∈ ps c', z ≠ p.1) → stored.contains z = false → m' z = m₀ z) ∧ P (i + 1) c'
def EnPost (h₀ : Heap) (L : Addr) (s : Shared) (l : Addr) (own : List (Addr × Obj)) (ob : σ → Obj) (ps : σ → List (Str × Value)) (Facts : σ → Prop) (stored : List Str) (xi xc : Str) (m₀ : Str → Option Value) (P : Nat → σ → Prop) (i : Nat) (Q : Flow → Shared → Prop) (f : Flow) (s₂ : Shared) : Prop :=
  match f with
  | .ret v => Q (.ret v) s₂
  | .brk => Q .next s₂
  | _ => EnEnd h₀ L s l own ob ps Facts stored xi xc m₀ P i s₂
theorem en_end {s : Shared} {own news' : List (Addr × Obj)} {ob : σ → Obj} {ps : σ → List (Str × Value)} {Facts : σ → Prop} {stored : List Str} {xi xc : Str} {m₀ m' : Str → Option Value} {P : Nat → σ → Prop} {i : Nat} {h' : Heap} {tk : Nat} (c' : σ)
    (F : Fr h₀ L h' m') (N : News h₀ L h' news') (hl : (l, ob c') ∈ news') (ho : ∀ p ∈ own, p ∈ news') (hf : Facts c') (hk : ∀ p ∈ ps c', m' p.1 = some p.2) (hr : ∀ z, z ≠ xi → z ≠ xc → (∀ p ∈ ps c', z ≠ p.1) → stored.contains z = false → m' z = m₀ z) (hp : P (i + 1) c') :
    EnEnd h₀ L s l own ob ps Facts stored xi xc m₀ P i { s with heap := h', toks := tk } := ⟨c', h', tk, m', news', rfl, F, N, hl, ho, hf, hk, hr, hp⟩
theorem en_map {ps : List (Str × Value)} {stored : List Str} {xi xc : Str} {m₀ m₁ : Str → Option Value} {v0 v1 : Option Value} (h1 : ∀ p ∈ ps, m₁ p.1 = some p.2) (h2 : ∀ z, z ≠ xi → z ≠ xc → (∀ p ∈ ps, z ≠ p.1) → stored.contains z = false → m₁ z = m₀ z) :
    (fun y => if y = xc then v1 else if y = xi then v0 else m₁ y) = fun y => if y = xc then v1 else if y = xi then v0 else kstB (fun z => if stored.contains z then m₁ z else m₀ z) ps y := by
  funext y
  by_cases hc : y = xc
  · rw [if_pos hc, if_pos hc]
  · rw [if_neg hc, if_neg hc]
    by_cases hi : y = xi
    · rw [if_pos hi, if_pos hi]
    · rw [if_neg hi, if_neg hi]
      refine (kstB_eq h1 fun hn => ?_).symm
      show (if stored.contains y = true then m₁ y else m₀ y) = m₁ y
      cases h3 : stored.contains y with
      | true => simp
      | false => simp only [Bool.false_eq_true, if_false]; exact (h2 y hi hc hn h3).symm
theorem en_loop {as : List Int} {xv : Value} {pre post : List (Addr × Obj)} {o₀ : Obj} {m₀ : Str → Option Value} {xi xc : Str} {body : List Stmt} {Q : Flow → Shared → Prop}
    (ob : σ → Obj) (ps : σ → List (Str × Value)) (Facts : σ → Prop) (stored : List Str) (P : Nat → σ → Prop) (c₀ : σ)
    (S : PairSrcL prog w A E h₀ L ItemKind.int as xv s m₀ (pre ++ (l, o₀) :: post)) (hL : env.locals = L) (hoff : OwnOff (pre ++ post) [l])
    (ho : o₀ = ob c₀) (hf : Facts c₀) (hk : ∀ p ∈ ps c₀, m₀ p.1 = some p.2) (hp : P 0 c₀)
    (turn : ∀ (c : σ) (i : Nat) n t t' (u : Str → Option Value) h tk own, i < as.length → n ∈ as → as.getD i 0 = n → OwnOff own [l] → Facts c → P i c →
      Fr h₀ L h (fun y => if y = xc then some (.int n t) else if y = xi then some (.int i t') else kstB (fun z => if stored.contains z then u z else m₀ z) (ps c) y) → News h₀ L h ((l, ob c) :: own) →
      wpAny (model prog w) A (execs body env) (EnPost h₀ L { s with heap := h, toks := tk } l own ob ps Facts stored xi xc m₀ P i Q) E { s with heap := h, toks := tk })
    (done : ∀ (c : σ) (u : Str → Option Value) h tk, Facts c → P as.length c → Fr h₀ L h (fun y => if y = xc then u y else if y = xi then u y else kstB (fun z => if stored.contains z then u z else m₀ z) (ps c) y) → News h₀ L h ((l, ob c) :: (pre ++ post)) →
      Q .next { s with heap := h, toks := tk }) :
    wpAny (model prog w) A (pyIter xv) (fun it s₂ => PairAt3 prog w A h₀ env xi xc body Q E it s₂) E s := by
  subst hL
  subst ho
  refine S env rfl xi xc body Q (fun i m nx => ∃ c, nx = pre ++ (l, ob c) :: post ∧ Facts c ∧ (∀ p ∈ ps c, m p.1 = some p.2) ∧ (∀ z, z ≠ xi → z ≠ xc → (∀ p ∈ ps c, z ≠ p.1) → stored.contains z = false → m z = m₀ z) ∧ P i c) ⟨c₀, rfl, hf, hk, fun _ _ _ _ _ => rfl, hp⟩ ?_ ?_
  · rintro i a t v m₁ nx s₁ own ⟨hh, tk, rfl⟩ hi ⟨tv, rfl⟩ ⟨c, rfl, hf', h1, h2, hp'⟩ _ hsep F₁ N₁
    obtain ⟨hlt, hget⟩ := ints_get_facts hi
    rw [Int.toNat_natCast] at hget
    rw [en_map h1 h2] at F₁
    have hoff' : OwnOff (own ++ (pre ++ post)) [l] := by
      intro p hp b hb
      rcases List.mem_append.mp hp with hp | hp
      · rw [List.mem_singleton.mp hb]
        exact hsep p hp (l, ob c₀) (List.mem_append_right _ (List.mem_cons_self ..))
      · exact hoff p hp b hb
    have N₂ : News h₀ env.locals hh ((l, ob c) :: (own ++ (pre ++ post))) := fun p hp => N₁ p (by
      rcases List.mem_cons.mp hp with rfl | hp
      · exact List.mem_append_right _ (List.mem_append_right _ (List.mem_cons_self ..))
      · rcases List.mem_append.mp hp with hp | hp
        · exact List.mem_append_left _ hp
        · rcases List.mem_append.mp hp with hp | hp
          · exact List.mem_append_right _ (List.mem_append_left _ hp)
          · exact List.mem_append_right _ (List.mem_append_right _ (List.mem_cons_of_mem _ hp)))
    refine wpAny_mono (turn c i a tv t m₁ hh tk (own ++ (pre ++ post)) hlt (List.mem_of_getElem? hi) hget hoff' hf' hp' F₁ N₂) (fun f s₂ p => ?_) fun _ _ e => e
    have fin : EnEnd h₀ env.locals { s with heap := hh, toks := tk } l (own ++ (pre ++ post)) ob ps Facts stored xi xc m₀ P i s₂ → LoopStep2 h₀ env.locals own (pre ++ (l, ob c) :: post) (fun m nx => ∃ c, nx = pre ++ (l, ob c) :: post ∧ Facts c ∧ (∀ p ∈ ps c, m p.1 = some p.2) ∧ (∀ z, z ≠ xi → z ≠ xc → (∀ p ∈ ps c, z ≠ p.1) → stored.contains z = false → m z = m₀ z) ∧ P (i + 1) c) { s with heap := hh, toks := tk } .next s₂ := by
      rintro ⟨c', h', tk', m', news', rfl, F', N', hl', ho', hf9, hk9, hr9, hp9⟩
      refine ⟨rfl, h', tk', m', pre ++ (l, ob c') :: post, rfl, F', fun p hp => N' p ?_, by simp, c', rfl, hf9, hk9, hr9, hp9⟩
      rcases List.mem_append.mp hp with hp | hp
      · exact ho' p (List.mem_append_left _ hp)
      · rcases List.mem_append.mp hp with hp | hp
        · exact ho' p (List.mem_append_right _ (List.mem_append_left _ hp))
        · rcases List.mem_cons.mp hp with rfl | hp
          · exact hl'
          · exact ho' p (List.mem_append_right _ (List.mem_append_right _ hp))
    cases f with
    | ret v => exact p
    | brk => exact p
    | next => exact fin p
    | cont => exact fin p
  · rintro h' tk m' nx F' N' _ ⟨c, rfl, hf', h1, h2, hp'⟩
    refine done c m' h' tk hf' hp' ?_ fun p hp => N' p ?_
    · have e : (fun y => if y = xc then m' y else if y = xi then m' y else kstB (fun z => if stored.contains z then m' z else m₀ z) (ps c) y) = m' := by
        funext y
        by_cases hc : y = xc
        · rw [if_pos hc]
        · rw [if_neg hc]
          by_cases hi : y = xi
          · rw [if_pos hi]
          · rw [if_neg hi]
            refine kstB_eq h1 fun hn => ?_
            show (if stored.contains y = true then m' y else m₀ y) = m' y
            cases h3 : stored.contains y with
            | true => simp
            | false => simp only [Bool.false_eq_true, if_false]; exact (h2 y hi hc hn h3).symm
      rw [e]; exact F'
    · rcases List.mem_cons.mp hp with rfl | hp
      · exact List.mem_append_right _ (List.mem_cons_self ..)
      · rcases List.mem_append.mp hp with hp | hp
        · exact List.mem_append_left _ hp
        · exact List.mem_append_right _ (List.mem_cons_of_mem _ hp)
end
theorem join_st {M : Model} {A : Around} {t : Sem Flow} {E : Value → Shared → Prop} {s : Shared} {Q : Flow → Shared → Prop} (J : Shared → Prop) (h1 : wpAny M A t (fun f s' => StopD (f = .next ∧ J s')) E s) (h2 : ∀ s', J s' → Q .next s') : wpAny M A t Q E s :=
  wpAny_mono h1 (fun f s' p => by rw [(stopD p).1]; exact h2 s' (stopD p).2) fun _ _ e => e
theorem fr_prune {h₀ h : Heap} {L : Addr} {m : Str → Option Value} (ps : List (Str × Value)) (F : Fr h₀ L h m) (hp : ∀ p ∈ ps, m p.1 = some p.2) : ∃ mm, Fr h₀ L h (kstB mm ps) := by
  have e : kstB m ps = m := funext fun z => kstB_eq hp fun _ => rfl
  exact ⟨m, by rw [e]; exact F⟩
theorem kstB_c {rest : Str → Option Value} {x : Str} {v : Value} {ps : List (Str × Value)} : kstB rest ((x, v) :: ps) = fun z => if z = x then some v else kstB rest ps z := rfl
theorem kstB_n {rest : Str → Option Value} : kstB rest [] = rest := rfl
theorem om_k0 {k : Int} (h : 3 ≤ k) : 0 ≤ k := Int.le_trans (by decide) h
theorem om_kM {k : Int} (h : k ≤ 8) : k ≤ 1000000 := Int.le_trans h (by decide)
theorem om_len900 {n : Nat} (h : n < 900) : n < 2 ^ 62 := Nat.lt_trans h (by decide)
theorem om_len100 {n : Nat} (h : n < 100) : n < 2 ^ 62 := Nat.lt_trans h (by decide)
theorem om_ilen900 {n : Nat} (h : n < 900) : (n : Int) < 2 ^ 62 := by omega
theorem om_ilen100 {n : Nat} (h : n < 100) : (n : Int) < 2 ^ 62 := by omega
theorem om_neg {n : Nat} : (-2 ^ 62 : Int) ≤ (n : Int) := by omega
theorem om_neg0 : (-2 ^ 62 : Int) ≤ 0 := by decide
theorem om_neg1 : (-2 ^ 63 : Int) ≤ -1 := by decide
theorem om_256 {v : Int} (h : 0 ≤ v ∧ v < 256) : v.natAbs < 2 ^ 64 := by omega
theorem om_2000 {v : Int} (h : 0 < v) (h' : v ≤ 2000) : v.natAbs < 2 ^ 64 := by omega
theorem om_n0 : (0 : Int).natAbs < 2 ^ 64 := by decide
theorem om_n1 : (1 : Int).natAbs < 2 ^ 64 := by decide
theorem om_n2 : (2 : Int).natAbs < 2 ^ 64 := by decide
theorem om_n5 : (5 : Int).natAbs < 2 ^ 64 := by decide
theorem om_m2000 {v : Int} (h : 0 < v) : -2000 ≤ v := by omega
theorem om_toNat {a b : Nat} : ((a : Int) + (b : Int)).toNat = a + b := by omega
theorem om_sub0 {a : Nat} : ((a : Int) - 0).toNat = a := by omega
theorem om_pos {v : Int} (h : 0 < v) : v.toNat = (v - 1).toNat + 1 := by omega
theorem om_add0 {a b : Nat} : (0 : Int) ≤ (a : Int) + (b : Int) := by omega
theorem om_abs0 {v : Int} (h : -2000 ≤ v) (h' : v ≤ 2000) : 0 ≤ if v < 0 then -v else v := by omega
theorem om_abs1 {v : Int} (h : -2000 ≤ v) (h' : v ≤ 2000) : (if v < 0 then -v else v) ≤ 2000 := by omega
theorem om_lt1 {a b : Nat} (h : a < b) : (a : Int) < (b : Int) := by omega
theorem om_c0 {n : Nat} : (0 : Int) ≤ (n : Int) := by omega
theorem om_sz900 {n : Nat} (h : n < 900) : n ≤ 16777216 := by omega
theorem om_sz100 {n : Nat} (h : n < 100) : n ≤ 16777216 := by omega
theorem om_m1 {n : Nat} (h : 2 ≤ n) : ((n : Int) - 1).toNat = n - 1 := by omega
theorem om_m2 {n : Nat} (h : 2 ≤ n) : ((n : Int) - 2).toNat = n - 2 := by omega
theorem om_s0 : (0 : Nat) ≤ 16777216 := Nat.le_of_ble_eq_true rfl
theorem om_s1 : (0 + 1 : Nat) ≤ 16777216 := Nat.le_of_ble_eq_true rfl
theorem om_s2 : (0 + 1 + 1 : Nat) ≤ 16777216 := Nat.le_of_ble_eq_true rfl
theorem om_s3 : (0 + 1 + 1 + 1 : Nat) ≤ 16777216 := Nat.le_of_ble_eq_true rfl

local macro_rules | `(tactic| size_fits) => `(tactic| ((simp only [List.size_toArray, Array.size_append, List.length_append, List.length_cons, List.length_nil, PySem.sizeLine_eq]); omega))
local macro_rules | `(tactic| walk_at "EnPost") => `(tactic| (dsimp only [EnPost]))
local macro_rules | `(tactic| walk_at "binaryOp Mult int int") => `(tactic| (k_here; refine mul_int ?_ (by first | exact mul_okL (by omega) | exact mul_okR (by omega))))
local macro_rules | `(tactic| walk_at "binaryOp LShift int int") => `(tactic| (k_here; refine lshift_int_small (by omega) (by omega) (by omega) ?_))
local macro_rules | `(tactic| walk_at "binaryOp FloorDiv int int") => `(tactic| (k_here; refine floordiv_int (by omega) ?_))
local macro_rules | `(tactic| walk_at "binaryOp Mod int int") => `(tactic| (k_here; refine mod_int' (by omega) ?_))
local macro_rules | `(tactic| walk_at "subscriptTail Name Slice ref ref") => `(tactic| (k_here; (with_reducible show wpAny _ _ (subscriptTail _ (PySem.Expr.Slice none none none _) (Value.ref _) (Value.ref _)) _ _ _); (rename Fr _ _ _ _ => lF'); (rename News _ _ _ _ => lN'); (refine' kmk_slice_ints lF' lN' (by is_list) .none .none (by l_ints) (kmk_all (by l_ints)) rfl ?_ (by with_unfolding_all rfl) (by (intro _; with_unfolding_all rfl)) (by size_fits)); intro D' ws' h' F' N' l1 hI' hC' hL'; (try clear lF' lN'); (try k_lt l1); (try k_sweep)))
local macro_rules | `(tactic| leave1) => `(tactic| k_extra "leave")
local macro_rules | `(tactic| omega) => `(tactic| lia)
local macro_rules | `(tactic| omega) => `(tactic| with_reducible first
  | exact om_n1
  | exact om_n2
  | exact om_n0
  | exact om_n5
  | exact om_k0 (by assumption)
  | exact om_kM (by assumption)
  | exact om_len900 (by assumption)
  | exact om_len100 (by assumption)
  | exact om_ilen900 (by assumption)
  | exact om_ilen100 (by assumption)
  | exact om_neg
  | exact om_neg0
  | exact om_neg1
  | exact om_256 (by assumption)
  | exact om_2000 (by assumption) (by assumption)
  | exact om_m2000 (by assumption)
  | exact om_toNat
  | exact om_sub0
  | exact om_pos (by assumption)
  | exact om_add0
  | exact om_c0
  | exact om_sz900 (by assumption)
  | exact om_sz100 (by assumption)
  | exact om_m1 (by assumption)
  | exact om_m2 (by assumption)
  | exact om_s0
  | exact om_s1
  | exact om_s2
  | exact om_s3)
local macro_rules | `(tactic| walk_at $s:str) => `(tactic| k_extra $s)
section
def cmpAt (as bs : List Int) : Nat → Int
  | 0 => 0
  | k + 1 => if as.getD k 0 ≠ bs.getD k 0 then (if as.getD k 0 < bs.getD k 0 then -1 else 1) else cmpAt as bs k
def cmpL (as bs : List Int) : Int := if as.length ≠ bs.length then (if as.length < bs.length then -1 else 1) else cmpAt as bs as.length
section
variable {as bs : List Int} {k : Int} {p : Nat}
theorem cmp_a (h1 : (as.length : Int) ≠ bs.length) (h2 : (as.length : Int) < bs.length) : -1 = cmpL as bs := by
  unfold cmpL; rw [if_pos (by omega), if_pos (by omega)]
theorem cmp_b (h1 : (as.length : Int) ≠ bs.length) (h2 : ¬ (as.length : Int) < bs.length) : 1 = cmpL as bs := by
  unfold cmpL; rw [if_pos (by omega), if_neg (by omega)]
theorem cmp_end (h1 : (as.length : Int) = bs.length) (h2 : cmpAt as bs (as.length - (downKs ((as.length : Int) - 1) ((as.length : Int) - 1 - -1).toNat).length) = cmpAt as bs as.length) : 0 = cmpL as bs := by
  unfold cmpL; rw [if_neg (by omega), ← h2, downKs_length]
  have : as.length - ((as.length : Int) - 1 - -1).toNat = 0 := by omega
  rw [this]; rfl
theorem cmp_at (h3 : k = (as.length : Int) - 1 - p) (h4 : p < ((as.length : Int) - 1 - -1).toNat) : as.length - p = k.toNat + 1 := by omega
theorem cmp_c (h1 : (as.length : Int) = bs.length) (h2 : cmpAt as bs (as.length - p) = cmpAt as bs as.length) (h3 : k = (as.length : Int) - 1 - p) (h4 : p < ((as.length : Int) - 1 - -1).toNat)
    (h5 : as.getD k.toNat 0 ≠ bs.getD k.toNat 0) (h6 : as.getD k.toNat 0 < bs.getD k.toNat 0) : -1 = cmpL as bs := by
  unfold cmpL; rw [if_neg (by omega), ← h2, cmp_at h3 h4]
  show _ = if _ then _ else _
  rw [if_pos h5, if_pos h6]
theorem cmp_d (h1 : (as.length : Int) = bs.length) (h2 : cmpAt as bs (as.length - p) = cmpAt as bs as.length) (h3 : k = (as.length : Int) - 1 - p) (h4 : p < ((as.length : Int) - 1 - -1).toNat)
    (h5 : as.getD k.toNat 0 ≠ bs.getD k.toNat 0) (h6 : ¬ as.getD k.toNat 0 < bs.getD k.toNat 0) : 1 = cmpL as bs := by
  unfold cmpL; rw [if_neg (by omega), ← h2, cmp_at h3 h4]
  show _ = if _ then _ else _
  rw [if_pos h5, if_neg h6]
theorem cmp_e {pre : List Int} (h2 : cmpAt as bs (as.length - pre.length) = cmpAt as bs as.length) (h3 : k = (as.length : Int) - 1 - pre.length) (h4 : pre.length < ((as.length : Int) - 1 - -1).toNat)
    (h5 : as.getD k.toNat 0 = bs.getD k.toNat 0) : cmpAt as bs (as.length - (pre ++ [k]).length) = cmpAt as bs as.length := by
  rw [← h2, cmp_at h3 h4]
  have e : as.length - (pre ++ [k]).length = k.toNat := by simp only [List.length_append, List.length_cons, List.length_nil]; omega
  rw [e]
  show _ = if _ then _ else _
  rw [if_neg (by intro q; exact q h5)]
end
theorem compare_spec (w : World) {a b : Addr} {as bs : List Int} (ha : as.length < 1000) (hb : bs.length < 1000) :
    Spec w 72 1 [.ref a, .ref b] (fun h => Nums h a as ∧ Nums h b bs) (fun _ _ v => ∃ t, v = .int (cmpL as bs) t) := by
  k_with_none
  intro dp un fr gd s mean mg mb Q E X T hd hu hpre ret
  obtain ⟨⟨va, la, ia⟩, ⟨vb, lb, ib⟩⟩ := hpre
  refine' enter (binds := [(Str.ofString "a", .ref a), (Str.ofString "b", .ref b)]) ?kX ?kT ?ho ?hcd ?hroom ?k9 ?kB ?kD ?_ ?c2 ?c3 ?c4 ?c5
  case kX => assumption
  case kT => assumption
  case ho => k_is
  case hcd => k_is
  case hroom => exact room_ok hd
  case k9 => exact BindsTo.of_eq rfl
  case kB => exact locs rfl
  case kD => (simp only [List.map_cons, List.map_nil]; decide)
  case c2 => rfl
  case c3 => rfl
  case c4 => rfl
  case c5 => decide
  intro L' h₁ tk₁ F' N'
  (try dsimp only [kstB_c, kstB_n] at F')
  (try dsimp only)
  (try k_fold)
  k_with "pyIter ref" => k_dflt ((rename Fr _ _ _ _ => lF'); (rename News _ _ _ _ => lN'); (rename IsRange _ _ _ _ _ _ _ _ => rgX); (with_unfolding_all refine' kst_rangeD (σ := Unit) (fun _ => []) (fun _ => []) (fun _ => True) [] (fun pre _ => cmpAt as bs (as.length - pre.length) = cmpAt as bs as.length) () (by rfl) rgX (small_down (by omega) (by omega) (by omega) (by omega)) (rangeSize_downNat _ _) lF' lN' True.intro (List.forall_mem_nil _) (by simp) ?gT ?gD); (case' gT => intro kC kPre kN kT kU kH kTk kOwn kEq kLt kOff kFacts kInv kFr kNews); (case' gD => intro kC kU kH kTk kFacts kInv kFr kNews); (all_goals (try clear lF' lN')); (all_goals ((try dsimp only [kstB_c, kstB_n] at kFr); (try dsimp only at kNews); (try dsimp only at kInv); (try dsimp only at kI0); (try dsimp only at kI1); (try dsimp only at kI2); (try dsimp only at kI3); (try dsimp only at kI4); (try dsimp only at kF0); (try dsimp only at kF1); (try simp only [rangeKs_length, downKs_length] at kI0); (try have kLen0 := IntsAre.length kFacts); (try have kLen0 := IntsAre.length kF0); (try have kLen1 := IntsAre.length kF1); (try simp only [List.nil_append, List.cons_append, List.append_nil] at kNews); (try dsimp only); (try k_fold))))
  k_steps
  k_with_none
  all_goals first
    | (refine ret _ _ _ (Fr.keep (by assumption)) (ktn_int ?_))
    | (refine kst_end () (by assumption) (by assumption) (List.forall_mem_nil _) (fun _ h => h) rfl True.intro (List.forall_mem_nil _) (by kst_same) ?_)
  all_goals first
    | exact cmp_a (by assumption) (by assumption)
    | exact cmp_b (by assumption) (by assumption)
    | exact cmp_end (by assumption) (by assumption)
    | exact cmp_c (by assumption) (by assumption) (by assumption) (by assumption) (by assumption) (by assumption)
    | exact cmp_d (by assumption) (by assumption) (by assumption) (by assumption) (by assumption) (by assumption)
    | exact cmp_e (by assumption) (by assumption) (by assumption) (by assumption)

def normE (as : List Int) : Nat → Nat
  | 0 => 0
  | k + 1 => if as.getD k 0 = 0 then normE as k else k + 1
def norm (as : List Int) : List Int := as.take (normE as as.length)
theorem norm_w {as : List Int} {e : Int} {X : Nat} (h0 : 0 < e) (h1 : e ≤ (as.length : Int)) (h2 : normE as e.toNat = X) (h3 : as.getD (e - 1).toNat 0 = 0) : 0 ≤ e - 1 ∧ e - 1 ≤ (as.length : Int) ∧ normE as (e - 1).toNat = X := by
  refine ⟨by omega, by omega, ?_⟩
  rw [← h2]
  have he : e.toNat = (e - 1).toNat + 1 := by omega
  rw [he]
  show _ = if _ then _ else _
  rw [if_pos h3]
theorem norm_x {as : List Int} {e : Int} (h0 : 0 < e) (h2 : normE as e.toNat = normE as as.length) (h3 : as.getD (e - 1).toNat 0 ≠ 0) : as.take e.toNat = norm as := by
  unfold norm
  rw [← h2]
  have he : e.toNat = (e - 1).toNat + 1 := by omega
  rw [he]
  show _ = as.take (if _ then _ else _)
  rw [if_neg h3]
theorem norm_z {as : List Int} {e : Int} (h0 : ¬ 0 < e) (h2 : normE as e.toNat = normE as as.length) : as.take e.toNat = norm as := by
  unfold norm
  rw [← h2]
  have he : e.toNat = 0 := by omega
  rw [he]; rfl
theorem normal_spec (w : World) {a : Addr} {as : List Int} (ha : as.length < 1000) :
    Spec w 58 1 [.ref a] (fun h => Nums h a as) (fun h h' v => NewNums h h' v (norm as)) := by
  k_with_none
  intro dp un fr gd s mean mg mb Q E X T hd hu hpre ret
  obtain ⟨va, la, ia⟩ := hpre
  refine' enter (binds := [(Str.ofString "a", .ref a)]) ?kX ?kT ?ho ?hcd ?hroom ?k9 ?kB ?kD ?_ ?c2 ?c3 ?c4 ?c5
  case kX => assumption
  case kT => assumption
  case ho => k_is
  case hcd => k_is
  case hroom => exact room_ok hd
  case k9 => exact BindsTo.of_eq rfl
  case kB => exact locs rfl
  case kD => (simp only [List.map_cons, List.map_nil]; decide)
  case c2 => rfl
  case c3 => rfl
  case c4 => rfl
  case c5 => decide
  intro L' h₁ tk₁ F' N'
  (try dsimp only [kstB_c, kstB_n] at F')
  (try dsimp only)
  (try k_fold)
  k_with "exec While BoolOp cons nil" => k_while (fun _ e => 0 ≤ e ∧ e ≤ (as.length : Int) ∧ normE as e.toNat = normE as as.length) (fun _ e => e.toNat) "end"
  k_with "state" => k_dflt (exact norm_w (by assumption) (by assumption) (by assumption) (by assumption))
  k_steps
  k_with_none
  all_goals (try dsimp only)
  all_goals refine ret _ _ _ (Fr.keep (by assumption)) (NewNums.of (by assumption) (by k_memK) ?_)
  · rw [← norm_x (by assumption) (by assumption) (by assumption)]; assumption
  · rw [← norm_z (by assumption) (by assumption)]; assumption

end
section
abbrev Hid (h : Heap) (r : Addr) : Heap := hideAll h [r]
def SpecM (w : World) (f : Addr) (need : Nat) (r : Addr) (vs : List Value) (ns : List Int) (Pre : Heap → Prop) (ns' : List Int) (Ret : Heap → Heap → Value → Prop) : Prop :=
  ∀ (dp un : Nat) (fr : Option (List Env)) (gd : Option (List Code)) (s : Shared) (mean : ExcName → Option Value) (mg mb : Str → Option Value) (Q E : Value → Shared → Prop) (h₀ : Heap) (us : List Value) (n : Nat),
    (top0.heap_1 w.params).In h₀ → Top vw (looseW vw [Str.ofString "NOUGHT"]) mean mg mb h₀ → Keep h₀ s.heap → h₀.get? r = none → s.heap.get? r = some (listOf us.toArray n) → IntsAre us ns →
    dp + need < 900 → un + 10 * need < 9000 → Pre (Hid s.heap r) →
    (∀ h' tk' us' n' v, (∀ b o, b ≠ r → s.heap.get? b = some o → h'.get? b = some o) → h'.get? r = some (listOf us'.toArray n') → IntsAre us' ns' → Ret s.heap h' v → Q v { s with heap := h', toks := tk' }) →
    wpAny (model PySem.Challenge.rw_xm0402_01.row.prog w) (Ar dp un fr gd) (call (.ref f) vs) Q E s
section
variable {w : World} {A : Around} {s : Shared} {Q E : Value → Shared → Prop} {mean : ExcName → Option Value} {mg mb : Str → Option Value} {f r : Addr} {need : Nat} {vs : List Value} {h₀ : Heap} {L : Addr} {m : Str → Option Value} {news : List (Addr × Obj)}
theorem hid_keep {h : Heap} {b : Addr} {o : Obj} (hb : b ≠ r) (e : h.get? b = some o) : (Hid h r).get? b = some o := hideAll_get _ e (by simpa using hb)
theorem hid_stays {h : Heap} (k : Keep h₀ h) (hr : h₀.get? r = none) : Keep h₀ (Hid h r) := fun b o e => hid_keep (fun q => by rw [q, hr] at e; cases e) (k b o e)
theorem hid_nums {h : Heap} {b : Addr} {ns : List Int} (x : Nums h b ns) (hb : b ≠ r) : Nums (Hid h r) b ns := by
  obtain ⟨vs, ⟨o, ho, rest⟩, hi⟩ := x
  exact ⟨vs, ⟨o, hid_keep hb ho, rest⟩, hi⟩
theorem enterM {dp un : Nat} {fr : Option (List Env)} {gd : Option (List Code)} {name qual : Str} {params : Arguments} {body : List Stmt} {scope : Scope} {dV kV doc pm cdv ct oc : Value} {an od : Option Addr} {osl : Array (Option Value)} {binds : List (Str × Value)} {o : Obj}
    (X₀ : (top0.heap_1 w.params).In (Hid s.heap r)) (T : Top vw (looseW vw [Str.ofString "NOUGHT"]) mean mg mb (Hid s.heap r)) (hr : s.heap.get? r = some o)
    (ho : (top0.heap_1 w.params).lookup f = some ⟨oc, od, .func (fnOf name qual params body scope dV kV doc pm an cdv ct), osl⟩) (hcd : codeIn (top0.heap_1 w.params) cdv qual = true) (hroom : dp < recursionLimit)
    (hbind : BindsTo s (fnOf name qual params body scope dV kV doc pm an cdv ct) ⟨vs, []⟩ binds) (hloc : ∀ y ∈ binds, scope.names.lookup y.1 = some .local) (hnd : (binds.map (·.1)).Nodup)
    (h : ∀ L' h₁ tk', Fr (Hid s.heap r) L' h₁ (kstB (fun _ => none) binds) → News (Hid s.heap r) L' h₁ [(r, o)] →
      wpAny (model PySem.Challenge.rw_xm0402_01.row.prog w) ((Ar dp un fr gd).deeper (envOf qual scope L' f cdv)) (execs body (envOf qual scope L' f cdv))
        (fun fl s' => Q (match fl with | .ret v => v | _ => .none) s')
        (fun _ _ => False)
        { s with heap := h₁, toks := tk' })
    (hco : scope.isCoroutine = false) (hgen : scope.isGenerator = false) (hk : scope.kind = .function)
    (hcell : ∀ x ∈ scope.names, x.2 ≠ .cell) : wpAny (model PySem.Challenge.rw_xm0402_01.row.prog w) (Ar dp un fr gd) (call (.ref f) vs) Q E s := by
  have un : Keep (Hid s.heap r) s.heap := fun b o e => of_hideAll _ e
  have X₁ := X₀.keeps un
  have T₁ := T.keeps un
  refine wpAny_call (codeAny_call_def (fd := fnOf name qual params body scope dV kV doc pm an cdv ct) (body := body) (binds := binds) hroom (X₁ _ _ ho) rfl T₁.nolimit (codeRec_of X₁ hcd) rfl hbind hcell hloc (fun h₁ hns hk₁ => ?_) hco hgen hk)
  have hns' : h₁.Ns s.heap.objs.size (kstB (fun _ => none) binds) := (funext (lookup_kstB hnd) : (fun x => binds.reverse.lookup x) = _) ▸ hns
  refine wpAny_mono (h _ h₁ _ ⟨hns', fun b o e => hk₁ b o (un b o e), Nat.le_of_eq (hideAll_size _ _)⟩ (fun p hp => ?_)) (fun _ _ x => x) (fun _ _ x => x.elim)
  rw [List.mem_singleton.mp hp]
  exact ⟨hk₁ _ _ hr, Nat.ne_of_lt (Heap.lt_size hr), hideAll_none _ (by simp)⟩
theorem hid_none {h : Heap} {q : Addr} (e : (Hid h r).get? q = none) (hq : q ≠ r) : h.get? q = none := by
  cases x : h.get? q with
  | none => rfl
  | some o => rw [hid_keep hq x] at e; cases e
theorem ret_mut {h' : Heap} {m' : Str → Option Value} (F : Fr (Hid s.heap r) L h' m') : ∀ b o, b ≠ r → s.heap.get? b = some o → h'.get? b = some o := fun b o hb e => F.keep b o (hid_keep hb e)
theorem addNew2 {h' : Heap} {q : Addr} {o : Obj} (F : Fr h₀ L s.heap m) (N : News h₀ L h' news) (ha : s.heap.get? q = none) (ho : h'.get? q = some o) : News h₀ L h' ((q, o) :: news) := by
  intro p hp
  rcases List.mem_cons.mp hp with rfl | hp
  · refine ⟨ho, fun e => ?_, ?_⟩
    · obtain ⟨oL, _, _, hL, _⟩ := F.ns
      have e' : q = L := e
      rw [e', hL] at ha; cases ha
    · cases x : h₀.get? q with
      | none => rfl
      | some o' => rw [F.keep _ _ x] at ha; cases ha
  · exact N p hp
theorem use_mut {ns ns' : List Int} {Pre : Heap → Prop} {Ret : Heap → Heap → Value → Prop} {us : List Value} {n : Nat} (pre : Pre (Hid s.heap r)) (S : SpecM w f need r vs ns Pre ns' Ret) (hA : A.handled = none) (X₀ : (top0.heap_1 w.params).In h₀) (T : Top vw (looseW vw [Str.ofString "NOUGHT"]) mean mg mb h₀)
    (F : Fr h₀ L s.heap m) (N : News h₀ L s.heap ((r, listOf us.toArray n) :: news)) (hi : IntsAre us ns) (hoff : ∀ p ∈ news, p.1 ≠ r) (hdp : A.depth + need < 900) (hun : A.units + 10 * need < 9000)
    (k : ∀ v us' n' h' tk', Ret s.heap h' v → Fr h₀ L h' m → News h₀ L h' ((r, listOf us'.toArray n') :: news) → IntsAre us' ns' → Q v { s with heap := h', toks := tk' }) :
    wpAny (model PySem.Challenge.rw_xm0402_01.row.prog w) A (call (.ref f) vs) Q E s := by
  obtain ⟨hh, dp, fr, gd, un⟩ := A
  dsimp only at hA; subst hA
  have hr := N _ (List.mem_cons_self ..)
  refine S dp un fr gd s mean mg mb Q E h₀ us n X₀ T F.keep hr.2.2 hr.1 hi hdp hun pre fun h' tk' us' n' v kp hr' hi' hv => ?_
  have hne : ∀ b o, h₀.get? b = some o → b ≠ r := fun b o e q => by rw [q, hr.2.2] at e; cases e
  refine k v us' n' h' tk' hv ⟨F.ns.at' fun o e => kp L o (Ne.symm hr.2.1) e, fun b o e => kp b o (hne b o e) (F.keep b o e), F.above⟩ (fun p hp => ?_) hi'
  rcases List.mem_cons.mp hp with rfl | hp
  · exact ⟨hr', hr.2⟩
  · have z := N p (List.mem_cons_of_mem _ hp)
    exact ⟨kp _ _ (hoff p hp) z.1, z.2⟩
end

end
section
def TupLL (h h' : Heap) (v : Value) (ns : List Int) : Prop := ∃ q x y us n c, v = .ref q ∧ h.get? q = none ∧ h'.get? q = some { cls := .type "tuple", data := .seq #[.ref x, .ref y] c } ∧ h.get? y = none ∧ h'.get? y = some (listOf us.toArray n) ∧ IntsAre us ns
theorem TupLL.of {h h' : Heap} {L q x y : Addr} {us : List Value} {n c : Nat} {ns : List Int} {news : List (Addr × Obj)} (N : News h L h' news) (h1 : (q, { cls := .type "tuple", data := .seq #[.ref x, .ref y] c }) ∈ news) (h2 : (y, listOf us.toArray n) ∈ news) (hi : IntsAre us ns) : TupLL h h' (.ref q) ns :=
  ⟨q, x, y, us, n, c, rfl, (N _ h1).2.2, (N _ h1).1, (N _ h2).2.2, (N _ h2).1, hi⟩
section
variable {w : World} {A : Around} {s : Shared} {Q E : Value → Shared → Prop} {mean : ExcName → Option Value} {mg mb : Str → Option Value} {f : Addr} {need : Nat} {vs : List Value} {h₀ : Heap} {L : Addr} {m : Str → Option Value} {news : List (Addr × Obj)}
theorem use_tupLI {ns : List Int} {i : Int} {Pre : Heap → Prop} (pre : Pre s.heap) (S : Spec w f need vs Pre (fun h h' v => TupLI h h' v ns i)) (hA : A.handled = none) (X₀ : (top0.heap_1 w.params).In h₀) (T : Top vw (looseW vw [Str.ofString "NOUGHT"]) mean mg mb h₀)
    (F : Fr h₀ L s.heap m) (N : News h₀ L s.heap news) (hdp : A.depth + need < 900) (hun : A.units + 10 * need < 9000)
    (k : ∀ q r us n c t h' tk', Fr h₀ L h' m → News h₀ L h' ((q, { cls := .type "tuple", data := .seq #[.ref r, .int i t] c }) :: (r, listOf us.toArray n) :: news) → IntsAre us ns → Q (.ref q) { s with heap := h', toks := tk' }) :
    wpAny (model PySem.Challenge.rw_xm0402_01.row.prog w) A (call (.ref f) vs) Q E s :=
  use_any pre S hA X₀ T F N hdp hun fun h' tk' v F' _ kp x => by
    obtain ⟨q, r, us, n, c, t, rfl, h1, h2, h3, h4, h5, h6⟩ := x
    refine k q r us n c t h' tk' F' (fun p hp => ?_) h5
    rcases List.mem_cons.mp hp with rfl | hp
    · exact addNews F N kp h1 h2 _ (.head _)
    · exact addNews F N kp h3 h4 p hp
theorem use_tupLL {ns : List Int} {Pre : Heap → Prop} (pre : Pre s.heap) (S : Spec w f need vs Pre (fun h h' v => TupLL h h' v ns)) (hA : A.handled = none) (X₀ : (top0.heap_1 w.params).In h₀) (T : Top vw (looseW vw [Str.ofString "NOUGHT"]) mean mg mb h₀)
    (F : Fr h₀ L s.heap m) (N : News h₀ L s.heap news) (hdp : A.depth + need < 900) (hun : A.units + 10 * need < 9000)
    (k : ∀ q x y us n c h' tk', Fr h₀ L h' m → News h₀ L h' ((q, { cls := .type "tuple", data := .seq #[.ref x, .ref y] c }) :: (y, listOf us.toArray n) :: news) → IntsAre us ns → Q (.ref q) { s with heap := h', toks := tk' }) :
    wpAny (model PySem.Challenge.rw_xm0402_01.row.prog w) A (call (.ref f) vs) Q E s :=
  use_any pre S hA X₀ T F N hdp hun fun h' tk' v F' _ kp x => by
    obtain ⟨q, x, y, us, n, c, rfl, h1, h2, h3, h4, h5⟩ := x
    refine k q x y us n c h' tk' F' (fun p hp => ?_) h5
    rcases List.mem_cons.mp hp with rfl | hp
    · exact addNews F N kp h1 h2 _ (.head _)
    · exact addNews F N kp h3 h4 p hp
theorem use_newq {Pre : Heap → Prop} (pre : Pre s.heap) (S : Spec w f need vs Pre (fun h h' v => ∃ qs, NewNums h h' v qs ∧ qs.length < 900)) (hA : A.handled = none) (X₀ : (top0.heap_1 w.params).In h₀) (T : Top vw (looseW vw [Str.ofString "NOUGHT"]) mean mg mb h₀)
    (F : Fr h₀ L s.heap m) (N : News h₀ L s.heap news) (hdp : A.depth + need < 900) (hun : A.units + 10 * need < 9000)
    (k : ∀ r us n h' tk' ns, Fr h₀ L h' m → News h₀ L h' ((r, listOf us.toArray n) :: news) → IntsAre us ns → ns.length < 900 → Q (.ref r) { s with heap := h', toks := tk' }) :
    wpAny (model PySem.Challenge.rw_xm0402_01.row.prog w) A (call (.ref f) vs) Q E s :=
  use_any pre S hA X₀ T F N hdp hun fun h' tk' v F' _ kp x => by
    obtain ⟨qs, ⟨r, us, n, rfl, h1, h2, h3⟩, hl⟩ := x
    exact k r us n h' tk' qs F' (addNews F N kp h1 h2) h3 hl
end

end
section
abbrev tupBL (b : Bool) (l : Addr) (c : Nat) : Obj := { cls := .type "tuple", data := .seq #[.bool b, .ref l] c }
def Sg (h : Heap) (a : Addr) (b : Bool) (ns : List Int) : Prop := ∃ l, IsTup h a #[.bool b, .ref l] ∧ Nums h l ns
theorem Sg.keep {h h' : Heap} {a : Addr} {b : Bool} {ns : List Int} (S : Sg h a b ns) (k : Keep h h') : Sg h' a b ns := let ⟨l, t, n⟩ := S; ⟨l, t.keeps k, n.keep k⟩
def NewSg (h h' : Heap) (v : Value) (b : Bool) (ns : List Int) : Prop := ∃ a l us n c, v = .ref a ∧ h.get? a = none ∧ h'.get? a = some (tupBL b l c) ∧ h.get? l = none ∧ h'.get? l = some (listOf (List.toArray us) n) ∧ IntsAre us ns
theorem NewSg.of {h h' : Heap} {L a l : Addr} {b : Bool} {us : List Value} {n c : Nat} {ns : List Int} {news : List (Addr × Obj)} (N : News h L h' news) (h1 : (a, tupBL b l c) ∈ news) (h2 : (l, listOf us.toArray n) ∈ news) (hi : IntsAre us ns) : NewSg h h' (.ref a) b ns :=
  ⟨a, l, us, n, c, rfl, (N _ h1).2.2, (N _ h1).1, (N _ h2).2.2, (N _ h2).1, hi⟩
section
variable {w : World} {A : Around} {s : Shared} {Q E : Value → Shared → Prop} {mean : ExcName → Option Value} {mg mb : Str → Option Value} {f : Addr} {need : Nat} {vs : List Value} {h₀ : Heap} {L : Addr} {m : Str → Option Value} {news : List (Addr × Obj)}
theorem use_sg {b : Bool} {ns : List Int} {Pre : Heap → Prop} (pre : Pre s.heap) (S : Spec w f need vs Pre (fun h h' v => NewSg h h' v b ns)) (hA : A.handled = none) (X₀ : (top0.heap_1 w.params).In h₀) (T : Top vw (looseW vw [Str.ofString "NOUGHT"]) mean mg mb h₀)
    (F : Fr h₀ L s.heap m) (N : News h₀ L s.heap news) (hdp : A.depth + need < 900) (hun : A.units + 10 * need < 9000)
    (k : ∀ a l us n c h' tk', Fr h₀ L h' m → News h₀ L h' ((a, tupBL b l c) :: (l, listOf (List.toArray us) n) :: news) → IntsAre us ns → Q (.ref a) { s with heap := h', toks := tk' }) :
    wpAny (model PySem.Challenge.rw_xm0402_01.row.prog w) A (call (.ref f) vs) Q E s :=
  use_any pre S hA X₀ T F N hdp hun fun h' tk' v F' _ kp x => by
    obtain ⟨a, l, us, n, c, rfl, h1, h2, h3, h4, h5⟩ := x
    refine k a l us n c h' tk' F' (fun p hp => ?_) h5
    rcases List.mem_cons.mp hp with rfl | hp
    · exact addNews F N kp h1 h2 _ (.head _)
    · exact addNews F N kp h3 h4 p hp
end

end
section
abbrev HidL (h : Heap) (own : List (Addr × Obj)) : Heap := hideAll h (own.map (·.1))
def SpecT (w : World) (f : Addr) (need : Nat) (own : List (Addr × Obj)) (vs : List Value) (Pre : Heap → Prop) (Post : Heap → Heap → Value → Prop) : Prop :=
  ∀ (dp un : Nat) (gd : Option (List Code)) (s : Shared) (mean : ExcName → Option Value) (mg mb : Str → Option Value) (Q E : Value → Shared → Prop) (A₀ : Around) (base h₀ : Heap) (outer : List Env) (env : Env) (L : Addr) (m : Str → Option Value),
    env.frame = some L → env.scope.kind = .function → Below A₀ base outer h₀ → Fr h₀ L s.heap m → News h₀ L s.heap own →
    (top0.heap_1 w.params).In h₀ → Top vw (looseW vw [Str.ofString "NOUGHT"]) mean mg mb h₀ → dp + need < 900 → un + 10 * need < 9000 → Pre s.heap →
    (∀ h' tk' v, Keep s.heap h' → Post s.heap h' v → Q v { s with heap := h', toks := tk' }) →
    wpAny (model PySem.Challenge.rw_xm0402_01.row.prog w) (Ar dp un (some (env :: outer)) gd) (call (.ref f) vs) Q E s
section
variable {w : World} {A A₀ : Around} {s : Shared} {Q E : Value → Shared → Prop} {mean : ExcName → Option Value} {mg mb : Str → Option Value} {f : Addr} {need : Nat} {vs : List Value} {base h₀ : Heap} {L : Addr} {m : Str → Option Value} {news own : List (Addr × Obj)} {outer : List Env} {env : Env} {Pre : Heap → Prop} {Post : Heap → Heap → Value → Prop}
theorem enterT {dp un : Nat} {gd : Option (List Code)} {name qual : Str} {params : Arguments} {body : List Stmt} {scope : Scope} {dV kV doc pm cdv ct oc : Value} {an od : Option Addr} {osl : Array (Option Value)} {binds : List (Str × Value)}
    (hf : env.frame = some L) (hke : env.scope.kind = .function) (B : Below A₀ base outer h₀) (F : Fr h₀ L s.heap m) (N : News h₀ L s.heap own)
    (X₀ : (top0.heap_1 w.params).In h₀) (T : Top vw (looseW vw [Str.ofString "NOUGHT"]) mean mg mb h₀)
    (ho : (top0.heap_1 w.params).lookup f = some ⟨oc, od, .func (fnOf name qual params body scope dV kV doc pm an cdv ct), osl⟩) (hcd : codeIn (top0.heap_1 w.params) cdv qual = true) (hroom : dp < recursionLimit)
    (hbind : BindsTo s (fnOf name qual params body scope dV kV doc pm an cdv ct) ⟨vs, []⟩ binds) (hloc : ∀ y ∈ binds, scope.names.lookup y.1 = some .local) (hnd : (binds.map (·.1)).Nodup)
    (h : ∀ g L' h₁ tk', g = HidL s.heap own → Fr g L' h₁ (kstB (fun _ => none) binds) → News g L' h₁ own → Below (Ar dp un (some (env :: outer)) gd) base (env :: outer) g → (top0.heap_1 w.params).In g → Top vw (looseW vw [Str.ofString "NOUGHT"]) mean mg mb g → (∀ p ∈ own, p.1 < L') →
      wpAny (model PySem.Challenge.rw_xm0402_01.row.prog w) ((Ar dp un (some (env :: outer)) gd).deeper (envOf qual scope L' f cdv)) (execs body (envOf qual scope L' f cdv))
        (fun fl s' => Q (match fl with | .ret v => v | _ => .none) s')
        (fun _ _ => False)
        { s with heap := h₁, toks := tk' })
    (hco : scope.isCoroutine = false) (hgen : scope.isGenerator = false) (hk : scope.kind = .function)
    (hcell : ∀ x ∈ scope.names, x.2 ≠ .cell) : wpAny (model PySem.Challenge.rw_xm0402_01.row.prog w) (Ar dp un (some (env :: outer)) gd) (call (.ref f) vs) Q E s := by
  obtain ⟨FG, BG, st, lv⟩ := groundX (A := Ar dp un (some (env :: outer)) gd) (R := fun _ _ => True) B F N rfl hf hke
  have X₁ := X₀.keeps F.keep
  refine wpAny_call (codeAny_call_def (fd := fnOf name qual params body scope dV kV doc pm an cdv ct) (body := body) (binds := binds) hroom (X₁ _ _ ho) rfl (T.nolimit.keeps F.keep) (codeRec_of X₁ hcd) rfl hbind hcell hloc (fun h₁ hns hk₁ => ?_) hco hgen hk)
  have hns' : h₁.Ns s.heap.objs.size (kstB (fun _ => none) binds) := (funext (lookup_kstB hnd) : (fun x => binds.reverse.lookup x) = _) ▸ hns
  exact wpAny_mono (h _ s.heap.objs.size h₁ _ rfl ⟨hns', fun b o e => hk₁ b o (of_hideAll _ e), Nat.le_of_eq (hideAll_size _ _)⟩
    (fun p hp => ⟨hk₁ _ _ (N p hp).1, Nat.ne_of_lt (Heap.lt_size (N p hp).1), hideAll_none _ (List.mem_map_of_mem hp)⟩) BG (X₀.keeps st) (T.keeps st) (fun p hp => Heap.lt_size (N p hp).1)) (fun _ _ x => x) (fun _ _ x => x.elim)
theorem enterTC {dp un : Nat} {gd : Option (List Code)} {name qual : Str} {params : Arguments} {body : List Stmt} {scope : Scope} {dV kV doc pm cdv ct oc : Value} {an od : Option Addr} {osl : Array (Option Value)} {binds : List (Str × Value)}
    (hf : env.frame = some L) (hke : env.scope.kind = .function) (B : Below A₀ base outer h₀) (F : Fr h₀ L s.heap m) (N : News h₀ L s.heap own)
    (X₀ : (top0.heap_1 w.params).In h₀) (T : Top vw (looseW vw [Str.ofString "NOUGHT"]) mean mg mb h₀)
    (ho : (top0.heap_1 w.params).lookup f = some ⟨oc, od, .func (fnOf name qual params body scope dV kV doc pm an cdv ct), osl⟩) (hcd : codeIn (top0.heap_1 w.params) cdv qual = true) (hroom : dp < recursionLimit)
    (hbind : BindsTo s (fnOf name qual params body scope dV kV doc pm an cdv ct) ⟨vs, []⟩ binds) (hkind : (binds.all fun y => scope.names.lookup y.1 == some .local || scope.names.lookup y.1 == some .cell) = true)
    (hnd : ((cellsFrom 0 scope.names []).map (·.1)).Nodup)
    (h : ∀ g L' h₁ tk cells, g = HidL s.heap own → Fr g L' h₁ (bindL (envOfC qual scope L' f cdv).kindOf binds fun _ => none) → News g L' h₁ (cells ++ own) →
      CellsAre (bindC (envOfC qual scope L' f cdv).kindOf binds fun _ => none) (cellsFrom (L' + 1) scope.names []) cells → Below (Ar dp un (some (env :: outer)) gd) base (env :: outer) g → (top0.heap_1 w.params).In g → Top vw (looseW vw [Str.ofString "NOUGHT"]) mean mg mb g → (∀ p ∈ own, p.1 < L') →
      wpAny (model PySem.Challenge.rw_xm0402_01.row.prog w) ((Ar dp un (some (env :: outer)) gd).deeper (envOfC qual scope L' f cdv)) (execs body (envOfC qual scope L' f cdv))
        (fun fl s' => Q (match fl with | .ret v => v | _ => .none) s')
        (fun _ _ => False)
        { s with heap := h₁, toks := tk })
    (hco : scope.isCoroutine = false) (hgen : scope.isGenerator = false) (hk : scope.kind = .function) : wpAny (model PySem.Challenge.rw_xm0402_01.row.prog w) (Ar dp un (some (env :: outer)) gd) (call (.ref f) vs) Q E s := by
  obtain ⟨FG, BG, st, lv⟩ := groundX (A := Ar dp un (some (env :: outer)) gd) (R := fun _ _ => True) B F N rfl hf hke
  have X₁ := X₀.keeps F.keep
  refine wpAny_call (codeAny_call_function hroom (X₁ _ _ ho) rfl hco hgen rfl (codeRec_of X₁ hcd) (hbind _ _ _ _ ?_))
  refine wpAny_newFunctionEnv_cells hk (kindsX hkind _) fun env' he s' x => ?_
  subst he
  refine ⟨(T.nolimit.keeps F.keep).keeps x.toInCall.keep, codeAny_func ?_⟩
  obtain ⟨h₁, tk, rfl, _⟩ := x.done
  have hk₁ := x.toInCall.keep
  obtain ⟨cells, NC, Y⟩ := Cl.news (h₀ := s.heap) (Nat.le_refl _) fun n c hm => ⟨x.cell n c (lookup_of_mem_nodup (cellsFrom_names scope.names 0 (s.heap.objs.size + 1) [] [] rfl ▸ hnd) hm), x.above n c hm⟩
  refine wpAny_mono (h _ s.heap.objs.size h₁ tk cells rfl ⟨x.toInCall.ns, fun b o e => hk₁ b o (of_hideAll _ e), Nat.le_of_eq (hideAll_size _ _)⟩ (fun p hp => ?_) Y BG (X₀.keeps st) (T.keeps st) (fun p hp => Heap.lt_size (N p hp).1)) (fun fl s' hl => hl) fun _ _ x => x.elim
  rcases List.mem_append.mp hp with hp | hp
  · refine ⟨(NC p hp).1, (NC p hp).2.1, ?_⟩
    cases q : (hideAll s.heap (own.map (·.1))).get? p.1 with
    | none => rfl
    | some o => have := of_hideAll _ q; rw [(NC p hp).2.2] at this; cases this
  · exact ⟨hk₁ _ _ (N p hp).1, Nat.ne_of_lt (Heap.lt_size (N p hp).1), hideAll_none _ (List.mem_map_of_mem hp)⟩
theorem hidL_keep {h h' g : Heap} {L' : Addr} (hg : g = HidL h own) (ho : ∀ p ∈ own, h.get? p.1 = some p.2) (k : Keep g h') (N : News g L' h' news) (hs : ∀ p ∈ own, p ∈ news) : Keep h h' := by
  subst hg
  intro b o e
  by_cases hb : b ∈ own.map (·.1)
  · obtain ⟨p, hp, rfl⟩ := List.mem_map.mp hb
    have := ho p hp
    rw [e] at this
    rw [Option.some.inj this]
    exact (N p (hs p hp)).1
  · exact k b o (hideAll_get _ e hb)
theorem use_T (pre : Pre s.heap) (S : SpecT w f need own vs Pre Post) (hA : A = Ar A.depth A.units (some (env :: outer)) A.guards) (hf : env.frame = some L) (hke : env.scope.kind = .function) (B : Below A₀ base outer h₀) (X₀ : (top0.heap_1 w.params).In h₀) (T : Top vw (looseW vw [Str.ofString "NOUGHT"]) mean mg mb h₀)
    (F : Fr h₀ L s.heap m) (N : News h₀ L s.heap news) (hown : ∀ p ∈ own, p ∈ news) (hdp : A.depth + need < 900) (hun : A.units + 10 * need < 9000)
    (k : ∀ h' tk' v, Fr h₀ L h' m → News h₀ L h' news → Keep s.heap h' → Post s.heap h' v → Q v { s with heap := h', toks := tk' }) :
    wpAny (model PySem.Challenge.rw_xm0402_01.row.prog w) A (call (.ref f) vs) Q E s := by
  rw [hA]
  exact S _ _ _ s mean mg mb Q E A₀ base h₀ outer env L m hf hke B F (fun p hp => N p (hown p hp)) X₀ T hdp hun pre fun h' tk' v kp po => k h' tk' v (keepFr F kp) (keepNews N kp) kp po
theorem hidL_sg {h g : Heap} {p : Addr} {b : Bool} {ns : List Int} (hg : g = HidL h own) (ho : ∀ p ∈ own, h.get? p.1 = some p.2) (hr : ∀ p ∈ own, ∃ r l n, p.2 = listOf (List.toArray (.ref r :: l)) n) (S : Sg h p b ns) : Sg g p b ns := by
  subst hg
  obtain ⟨l, ⟨o, h1, h2, n, h3⟩, vs, ⟨o', h4, h5, n', h6⟩, hi⟩ := S
  refine ⟨l, ⟨o, hideAll_get _ h1 fun hm => ?_, h2, n, h3⟩, vs, ⟨o', hideAll_get _ h4 fun hm => ?_, h5, n', h6⟩, hi⟩
  · obtain ⟨q, hq, e⟩ := List.mem_map.mp hm
    have e1 := ho q hq
    obtain ⟨r, l, n, e2⟩ := hr q hq
    rw [e, h1, e2] at e1
    have := Option.some.inj e1
    rw [this] at h2
    have h2' : Value.type "list" = Value.type "tuple" := h2
    injection h2' with h2''
    exact absurd h2'' (by decide)
  · obtain ⟨q, hq, e⟩ := List.mem_map.mp hm
    have e1 := ho q hq
    obtain ⟨r, l, n, e2⟩ := hr q hq
    rw [e, h4, e2] at e1
    have := Option.some.inj e1
    rw [this] at h6
    have h7 : Data.seq (List.toArray (.ref r :: l)) n = Data.seq vs.toArray n' := h6
    injection h7 with h8 h9
    have h10 : (.ref r :: l) = vs := by simpa using h8
    subst h10
    cases hi
end

end
section
def AllNeN (d : Addr) : List (Addr × Obj) → Prop
  | [] => True
  | p :: r => @Ne Nat p.1 d ∧ AllNeN d r
theorem allNeN_of {d : Addr} : ∀ {l : List (Addr × Obj)}, (∀ p ∈ l, p.1 ≠ d) → AllNeN d l
  | [], _ => trivial
  | p :: _, h => ⟨h p (.head _), allNeN_of fun q hq => h q (.tail _ hq)⟩
theorem tl_ne {h : Heap} {a l : Addr} {b : Bool} {x c n : Nat} {us : List Value} (h1 : h.get? a = some (tupBL b x c)) (h2 : h.get? l = some (listOf (List.toArray us) n)) : @Ne Nat a l := fun e => by
  have e' : a = l := e
  rw [e', h2] at h1
  have h2' : Value.type "list" = Value.type "tuple" := congrArg Obj.cls (Option.some.inj h1)
  injection h2' with h2''
  exact absurd h2'' (by decide)
section
variable {w : World} {A A₀ : Around} {s : Shared} {Q E : Value → Shared → Prop} {mean : ExcName → Option Value} {mg mb : Str → Option Value} {f : Addr} {need : Nat} {vs : List Value} {base h₀ : Heap} {L : Addr} {m : Str → Option Value} {news own : List (Addr × Obj)} {outer : List Env} {env : Env} {Pre : Heap → Prop} {Post : Heap → Heap → Value → Prop}
theorem use_sgN {b : Bool} {ns : List Int} {Pre : Heap → Prop} (pre : Pre s.heap) (S : Spec w f need vs Pre (fun h h' v => NewSg h h' v b ns)) (hA : A.handled = none) (X₀ : (top0.heap_1 w.params).In h₀) (T : Top vw (looseW vw [Str.ofString "NOUGHT"]) mean mg mb h₀)
    (F : Fr h₀ L s.heap m) (N : News h₀ L s.heap news) (hdp : A.depth + need < 900) (hun : A.units + 10 * need < 9000)
    (k : ∀ a l us n c h' tk', Fr h₀ L h' m → News h₀ L h' ((a, tupBL b l c) :: (l, listOf (List.toArray us) n) :: news) → IntsAre us ns → AllNeN a ((l, listOf (List.toArray us) n) :: news) → AllNeN l news → Q (.ref a) { s with heap := h', toks := tk' }) :
    wpAny (model PySem.Challenge.rw_xm0402_01.row.prog w) A (call (.ref f) vs) Q E s :=
  use_any pre S hA X₀ T F N hdp hun fun h' tk' v F' _ kp x => by
    obtain ⟨a, l, us, n, c, rfl, h1, h2, h3, h4, h5⟩ := x
    refine k a l us n c h' tk' F' (fun p hp => ?_) h5 ⟨Ne.symm (tl_ne h2 h4), allNeN_of (ne_of_fresh N h1)⟩ (allNeN_of (ne_of_fresh N h3))
    rcases List.mem_cons.mp hp with rfl | hp
    · exact addNews F N kp h1 h2 _ (.head _)
    · exact addNews F N kp h3 h4 p hp
theorem use_listN {ns : List Int} {Pre : Heap → Prop} (pre : Pre s.heap) (S : Spec w f need vs Pre (fun h h' v => NewNums h h' v ns)) (hA : A.handled = none) (X₀ : (top0.heap_1 w.params).In h₀) (T : Top vw (looseW vw [Str.ofString "NOUGHT"]) mean mg mb h₀)
    (F : Fr h₀ L s.heap m) (N : News h₀ L s.heap news) (hdp : A.depth + need < 900) (hun : A.units + 10 * need < 9000)
    (k : ∀ r us n h' tk', Fr h₀ L h' m → News h₀ L h' ((r, listOf us.toArray n) :: news) → IntsAre us ns → AllNeN r news → Q (.ref r) { s with heap := h', toks := tk' }) :
    wpAny (model PySem.Challenge.rw_xm0402_01.row.prog w) A (call (.ref f) vs) Q E s :=
  use_list pre S hA X₀ T F N hdp hun fun r us n h' tk' F' N' hi hn => k r us n h' tk' F' N' hi (allNeN_of hn)
theorem use_Tsg {b : Bool} {ns : List Int} (pre : Pre s.heap) (S : SpecT w f need own vs Pre (fun h h' v => NewSg h h' v b ns)) (hA : A = Ar A.depth A.units (some (env :: outer)) A.guards) (hf : env.frame = some L) (hke : env.scope.kind = .function) (B : Below A₀ base outer h₀) (X₀ : (top0.heap_1 w.params).In h₀) (T : Top vw (looseW vw [Str.ofString "NOUGHT"]) mean mg mb h₀)
    (F : Fr h₀ L s.heap m) (N : News h₀ L s.heap news) (hown : ∀ p ∈ own, p ∈ news) (hdp : A.depth + need < 900) (hun : A.units + 10 * need < 9000)
    (k : ∀ a l us n c h' tk', Fr h₀ L h' m → News h₀ L h' ((a, tupBL b l c) :: (l, listOf (List.toArray us) n) :: news) → IntsAre us ns → AllNeN a ((l, listOf (List.toArray us) n) :: news) → AllNeN l news → Q (.ref a) { s with heap := h', toks := tk' }) :
    wpAny (model PySem.Challenge.rw_xm0402_01.row.prog w) A (call (.ref f) vs) Q E s :=
  use_T pre S hA hf hke B X₀ T F N hown hdp hun fun h' tk' v F' _ kp x => by
    obtain ⟨a, l, us, n, c, rfl, h1, h2, h3, h4, h5⟩ := x
    refine k a l us n c h' tk' F' (fun p hp => ?_) h5 ⟨Ne.symm (tl_ne h2 h4), allNeN_of (ne_of_fresh N h1)⟩ (allNeN_of (ne_of_fresh N h3))
    rcases List.mem_cons.mp hp with rfl | hp
    · exact addNews F N kp h1 h2 _ (.head _)
    · exact addNews F N kp h3 h4 p hp
end
theorem AllNeN.get {d a : Addr} {o : Obj} : ∀ {l : List (Addr × Obj)}, AllNeN d l → (a, o) ∈ l → @Ne Nat a d
  | [], _, h => nomatch h
  | p :: r, x, h => by
    rcases List.mem_cons.mp h with e | h
    · rw [← e] at x; exact x.1
    · exact AllNeN.get x.2 h
theorem AllNeN.get' {d a : Addr} {o : Obj} {l : List (Addr × Obj)} (x : AllNeN d l) (h : (a, o) ∈ l) : @Ne Nat d a := Ne.symm (x.get h)
theorem off_I {I C D a : Addr} {o : Obj} {l : List (Addr × Obj)} (x : LCg.Off3 I C D l) (h : (a, o) ∈ l) : @Ne Nat a I := (x.mem _ h).1
theorem off_C {I C D a : Addr} {o : Obj} {l : List (Addr × Obj)} (x : LCg.Off3 I C D l) (h : (a, o) ∈ l) : @Ne Nat a C := (x.mem _ h).2.1
theorem off_D {I C D a : Addr} {o : Obj} {l : List (Addr × Obj)} (x : LCg.Off3 I C D l) (h : (a, o) ∈ l) : @Ne Nat a D := (x.mem _ h).2.2
theorem off1_D {D a : Addr} {o : Obj} : ∀ {l : List (Addr × Obj)}, LCg.Off1 D l → (a, o) ∈ l → @Ne Nat a D
  | [], _, h => nomatch h
  | p :: r, x, h => by
    rcases List.mem_cons.mp h with e | h
    · rw [← e] at x; exact x.1
    · exact off1_D x.2 h
theorem ltN_get {d a : Addr} {o : Obj} : ∀ {l : List (Addr × Obj)}, AllLt d l → (a, o) ∈ l → @Ne Nat a d
  | [], _, h => nomatch h
  | p :: r, x, h => by
    rcases List.mem_cons.mp h with e | h
    · rw [← e] at x; exact Nat.ne_of_lt x.1
    · exact ltN_get x.2 h
structure NeP (a b : Addr) : Prop where
  ne : @Ne Nat a b
def AllFresh (h h' : Heap) (l : List (Addr × Obj)) : Prop := ∀ q ∈ l, h.get? q.1 = none ∧ h'.get? q.1 = some q.2
theorem fresh_at {h g h' : Heap} {own news : List (Addr × Obj)} {L' q : Addr} {o : Obj} (hg : g = HidL h own) (N : News g L' h' news) (hm : (q, o) ∈ news) (hn : ∀ p ∈ own, p.1 ≠ q) : h.get? q = none ∧ h'.get? q = some o := by
  refine ⟨?_, (N _ hm).1⟩
  have e := (N _ hm).2.2
  subst hg
  cases x : h.get? q with
  | none => rfl
  | some o' =>
    have hq : q ∉ own.map (·.1) := fun hm' => by
      obtain ⟨p, hp, e'⟩ := List.mem_map.mp hm'
      exact hn p hp e'
    rw [hideAll_get _ x hq] at e; cases e
theorem AllFresh.nil {h h' : Heap} : AllFresh h h' [] := fun _ hq => nomatch hq
theorem AllFresh.cons {h g h' : Heap} {own news l : List (Addr × Obj)} {L' q : Addr} {o : Obj} (hg : g = HidL h own) (N : News g L' h' news) (hm : (q, o) ∈ news) (hn : ∀ p ∈ own, p.1 ≠ q) (r : AllFresh h h' l) : AllFresh h h' ((q, o) :: l) := by
  intro p hp
  rcases List.mem_cons.mp hp with rfl | hp
  · exact fresh_at hg N hm hn
  · exact r p hp
theorem AllFresh.news {h₀ h h' : Heap} {L : Addr} {m : Str → Option Value} {news l : List (Addr × Obj)} (x : AllFresh h h' l) (F : Fr h₀ L h m) (N : News h₀ L h news) (k : Keep h h') : News h₀ L h' (l ++ news) := by
  intro p hp
  rcases List.mem_append.mp hp with hp | hp
  · exact addNews F N k (x p hp).1 (x p hp).2 p (.head _)
  · exact keepNews N k p hp
theorem AllFresh.ne {h₀ h h' : Heap} {L a : Addr} {o : Obj} {news l : List (Addr × Obj)} (x : AllFresh h h' l) (N : News h₀ L h news) (hm : (a, o) ∈ l) : AllNeN a news := allNeN_of (ne_of_fresh N (x _ hm).1)
theorem nums_of {h : Heap} {l : Addr} {ns : List Int} {us : List Value} {n : Nat} (e : h.get? l = some (listOf us.toArray n)) (hi : IntsAre us ns) : Nums h l ns := ⟨us, ⟨_, e, rfl, n, rfl⟩, hi⟩

end
section
theorem nat_of_spec (w : World) {n k : Int} {t u : Tok} (hk : 3 ≤ k) (hk' : k ≤ 8) (hn : 0 ≤ n) (hn' : n ≤ 2000) :
    Spec w 65 1 [.int n t, .int k u] (fun _ => True) (fun h h' v => NewNums h h' v (dg (2 ^ k.toNat) n.toNat n)) := by
  k_with_none
  intro dp un fr gd s mean mg mb Q E X T hd hu hpre ret
  refine' enter (binds := [(Str.ofString "number", .int n t), (Str.ofString "w", .int k u)]) ?kX ?kT ?ho ?hcd ?hroom ?k9 ?kB ?kD ?_ ?c2 ?c3 ?c4 ?c5
  case kX => assumption
  case kT => assumption
  case ho => k_is
  case hcd => k_is
  case hroom => exact room_ok hd
  case k9 => exact BindsTo.of_eq rfl
  case kB => exact locs rfl
  case kD => (simp only [List.map_cons, List.map_nil]; decide)
  case c2 => rfl
  case c3 => rfl
  case c4 => rfl
  case c5 => decide
  intro L' h₁ tk₁ F' N'
  (try dsimp only [kstB_c, kstB_n] at F')
  (try dsimp only)
  (try k_fold)
  k_with "exec While Compare cons nil" => k_dflt (k_here; (rename Fr _ _ _ _ => lF'); (rename News _ _ _ _ => lN'); (with_unfolding_all refine' ksw_while (σ := Int × Tok × List Value × List Int × Nat) (fun c => [(_, listOf (c.2.2.1).toArray c.2.2.2.2)]) (fun c => [(Str.ofString "number", .int c.1 c.2.1)]) (fun c => IntsAre c.2.2.1 c.2.2.2.1) [] (fun c => (fun x ns => 0 ≤ x ∧ ns.length + x.toNat ≤ 2000 ∧ ns ++ dg (2 ^ k.toNat) x.toNat x = dg (2 ^ k.toNat) n.toNat n) c.1 c.2.2.2.1) (fun c => (fun x _ => x.toNat) c.1 c.2.2.2.1) (n, t, [], [], 0) lF' (by exact kst_newsOf lN' (by kst_inAny)) (by exact .nil) (by kst_all) (by ((try dsimp only); exact ⟨hn, by simp; omega, rfl⟩)) ?_); (rintro ⟨kx0, kt0, kv0, kns0, kc0⟩ kU kH kTk kFacts ⟨kI0, kI1, kI2⟩ kFr kNews); (try dsimp only at kFacts); (all_goals (try clear lF' lN')); (all_goals ((try dsimp only [kstB_c, kstB_n] at kFr); (try dsimp only at kNews); (try dsimp only at kInv); (try dsimp only at kI0); (try dsimp only at kI1); (try dsimp only at kI2); (try dsimp only at kI3); (try dsimp only at kI4); (try dsimp only at kF0); (try dsimp only at kF1); (try simp only [rangeKs_length, downKs_length] at kI0); (try have kLen0 := IntsAre.length kFacts); (try have kLen0 := IntsAre.length kF0); (try have kLen1 := IntsAre.length kF1); (try simp only [List.nil_append, List.cons_append, List.append_nil] at kNews); (try dsimp only); (try k_fold))))
  k_with "state" => k_dflt (exact nat_step hk (by assumption) (by assumption) (by assumption))
  k_with "measure" => k_dflt (exact nat_less hk (by assumption))
  k_steps
  k_with_none
  all_goals (try dsimp only)
  all_goals (refine ret _ _ _ (Fr.keep (by assumption)) (NewNums.of (by assumption) (by k_memK) ?_))
  all_goals (have e9 := dg_end (by assumption) (by assumption); rw [← e9]; assumption)

end
section
def addS (as bs : List Int) (B : Int) (st : List Int × Int) (i : Int) : List Int × Int := let c := st.2 + (as.getD i.toNat 0 + bs.getD i.toNat 0); (st.1 ++ [c % B], c / B)
def addT (as : List Int) (B : Int) (st : List Int × Int) (i : Int) : List Int × Int := let c := st.2 + as.getD i.toNat 0; (st.1 ++ [c % B], c / B)
def addA (as bs : List Int) (B : Int) : List Int × Int := (rangeKs 0 bs.length).foldl (addS as bs B) ([], 0)
def addB (as bs : List Int) (B : Int) : List Int × Int := (rangeKs bs.length (as.length - bs.length)).foldl (addT as B) (addA as bs B)
def addG (as bs : List Int) (B : Int) : List Int := if 0 < (addB as bs B).2 then (addB as bs B).1 ++ [(addB as bs B).2] else (addB as bs B).1
def addL (B : Int) (as bs : List Int) : List Int := if as.length < bs.length then addG bs as B else addG as bs B
section
variable {as bs found pre : List Int} {c k i : Int} {st : List Int × Int} {n : Nat}
theorem add_s1 (h0 : found.length = pre.length) (h1 : (found, c) = pre.foldl (addS as bs (2 ^ k.toNat)) st) :
    (found ++ [Builtin.bitAnd (c + (as.getD i.toNat 0 + bs.getD i.toNat 0)) (1 * 2 ^ k.toNat - 1)]).length = (pre ++ [i]).length ∧
    (found ++ [Builtin.bitAnd (c + (as.getD i.toNat 0 + bs.getD i.toNat 0)) (1 * 2 ^ k.toNat - 1)], (c + (as.getD i.toNat 0 + bs.getD i.toNat 0)).fdiv (2 ^ k.toNat)) = (pre ++ [i]).foldl (addS as bs (2 ^ k.toNat)) st := by
  refine ⟨by simp [h0], ?_⟩
  rw [List.foldl_append, ← h1, maskB, fdivB]; rfl
theorem add_s2 (h0 : found.length = n + pre.length) (h1 : (found, c) = pre.foldl (addT as (2 ^ k.toNat)) st) :
    (found ++ [Builtin.bitAnd (c + as.getD i.toNat 0) (1 * 2 ^ k.toNat - 1)]).length = n + (pre ++ [i]).length ∧
    (found ++ [Builtin.bitAnd (c + as.getD i.toNat 0) (1 * 2 ^ k.toNat - 1)], (c + as.getD i.toNat 0).fdiv (2 ^ k.toNat)) = (pre ++ [i]).foldl (addT as (2 ^ k.toNat)) st := by
  refine ⟨by simp [h0]; omega, ?_⟩
  rw [List.foldl_append, ← h1, maskB, fdivB]; rfl
theorem add_mid {B : Int} (h0 : found.length = ((bs.length : Int) - 0).toNat) (h1 : (found, c) = (rangeKs 0 ((bs.length : Int) - 0).toNat).foldl (addS as bs B) ([], 0)) :
    found.length = bs.length + ([] : List Int).length ∧ (found, c) = ([] : List Int).foldl (addT as B) (addA as bs B) := by
  have e : ((bs.length : Int) - 0).toNat = bs.length := by omega
  rw [e] at h0 h1
  exact ⟨h0, h1⟩
theorem add_end {B : Int} (h1 : (found, c) = (rangeKs (bs.length : Int) ((as.length : Int) - bs.length).toNat).foldl (addT as B) (addA as bs B)) : (found, c) = addB as bs B := by
  have e : ((as.length : Int) - bs.length).toNat = as.length - bs.length := by omega
  rw [e] at h1
  exact h1
theorem add_fin1 {B : Int} (h1 : (found, c) = addB as bs B) (h : 0 < c) : found ++ [c] = addG as bs B := by
  unfold addG; rw [← h1, if_pos h]
theorem add_fin2 {B : Int} (h1 : (found, c) = addB as bs B) (h : ¬ 0 < c) : found = addG as bs B := by
  unfold addG; rw [← h1, if_neg h]
end
theorem add_spec (w : World) {a b : Addr} {as bs : List Int} {k : Int} {u : Tok} (hk : 3 ≤ k) (hk' : k ≤ 8) (ha : as.length < 900) (hb : bs.length < 900) :
    Spec w 79 1 [.ref a, .ref b, .int k u] (fun h => Nums h a as ∧ Nums h b bs) (fun h h' v => NewNums h h' v (addL (2 ^ k.toNat) as bs)) := by
  k_with_none
  intro dp un fr gd s mean mg mb Q E X T hd hu hpre ret
  obtain ⟨⟨va, la, ia⟩, ⟨vb, lb, ib⟩⟩ := hpre
  refine' enter (binds := [(Str.ofString "a", .ref a), (Str.ofString "b", .ref b), (Str.ofString "w", .int k u)]) ?kX ?kT ?ho ?hcd ?hroom ?k9 ?kB ?kD ?_ ?c2 ?c3 ?c4 ?c5
  case kX => assumption
  case kT => assumption
  case ho => k_is
  case hcd => k_is
  case hroom => exact room_ok hd
  case k9 => exact BindsTo.of_eq rfl
  case kB => exact locs rfl
  case kD => (simp only [List.map_cons, List.map_nil]; decide)
  case c2 => rfl
  case c3 => rfl
  case c4 => rfl
  case c5 => decide
  intro L' h₁ tk₁ F' N'
  (try dsimp only [kstB_c, kstB_n] at F')
  (try dsimp only)
  (try k_fold)
  k_with "exec If" => k_dflt (k_here; refine stopD ?_)
  k_steps
  apply StopD.mk
  k_with_none
  refine' join_st (fun s' => ∃ (x y : Addr) (xs ys : List Int) (vx vy : List Value) (mm : Str → Option Value) (h' : Heap) (tk' : Nat), s' = { s with heap := h', toks := tk' } ∧ Fr s.heap L' h' (kstB mm [(Str.ofString "a", .ref x), (Str.ofString "b", .ref y), (Str.ofString "w", .int k u)]) ∧ s.heap.IsList x vx.toArray ∧ IntsAre vx xs ∧ s.heap.IsList y vy.toArray ∧ IntsAre vy ys ∧ ¬ xs.length < ys.length ∧ xs.length < 900 ∧ ys.length < 900 ∧ addL (2 ^ k.toNat) as bs = addG xs ys (2 ^ k.toNat)) ?iff ?rest
  case iff =>
    k_steps
    all_goals apply StopD.mk
    all_goals rename Fr _ _ _ _ => lF'
    · obtain ⟨mm, F⟩ := fr_prune [(Str.ofString "a", .ref b), (Str.ofString "b", .ref a), (Str.ofString "w", .int k u)] lF' (by kst_all)
      exact ⟨rfl, b, a, bs, as, vb, va, mm, _, _, rfl, F, lb, ib, la, ia, by omega, hb, ha, if_pos (by omega)⟩
    · obtain ⟨mm, F⟩ := fr_prune [(Str.ofString "a", .ref a), (Str.ofString "b", .ref b), (Str.ofString "w", .int k u)] lF' (by kst_all)
      exact ⟨rfl, a, b, as, bs, va, vb, mm, _, _, rfl, F, la, ia, lb, ib, by omega, ha, hb, if_neg (by omega)⟩
  clear la ia lb ib ha hb
  (try clear F'); (try clear N')
  rintro s' ⟨x, y, xs, ys, vx, vy, mm, h', tk', rfl, F', la, ia, lb, ib, hab, ha, hb, hG⟩
  have N' : News s.heap L' h' [] := fun p hp => nomatch hp
  dsimp only [kstB_c, kstB_n] at F'
  (try dsimp only)
  k_with "leave" => k_dflt (refine kHQ _ _ ?_)
  k_with "pyIter ref" => k_dflt ((with_reducible show wpAny _ _ (pyIter (Value.ref _)) (fun it s₂ => LoopAtV _ _ _ _ _ _ _ _ _ it s₂) _ _); k_here; (rename Fr _ _ _ _ => lF'); (rename News _ _ _ _ => lN'); (rename IsRange _ _ _ _ _ _ _ _ => rgX); (with_unfolding_all refine' kst_range (σ := Int × Tok × List Value × List Int × Nat) (fun c => [(_, listOf (c.2.2.1).toArray c.2.2.2.2)]) (fun c => [(Str.ofString "carry", .int c.1 c.2.1)]) (fun c => IntsAre c.2.2.1 c.2.2.2.1) [] (fun pre c => (fun pre c found => found.length = pre.length ∧ (found, c) = pre.foldl (addS xs ys (2 ^ k.toNat)) ([], 0)) pre c.1 c.2.2.2.1) (0, _, [], [], 0) (by rfl) (by first | exact rgX | assumption) (by first | exact small_one (by omega) (by omega) (by omega) (by omega) | exact small_one (by l_bnd) (by l_bnd) (by l_bnd) (by l_bnd) | decide) (by first | exact rangeSize_nat _ _ | rfl) lF' (by exact kst_newsOf lN' (by kst_inAny)) (by exact .nil) (by kst_all) (by ((try dsimp only); exact ⟨rfl, rfl⟩)) ?_ ?_); (rotate_left; rintro ⟨kx0, kt0, kv0, kns0, kc0⟩ kU kH kTk kFacts ⟨kI0, kI1⟩ kFr kNews; rotate_left; rintro ⟨kx0, kt0, kv0, kns0, kc0⟩ kPre kN kT kU kH kTk kOwn kEq kLt kOff kFacts ⟨kI0, kI1⟩ kFr kNews; refine abs_post ?_; intro kQ kHQ); (all_goals (try dsimp only at kFacts)); (all_goals (try dsimp only at kOff)); (all_goals (try simp only [List.map_cons, List.map_nil] at kOff)); (all_goals (try clear lF' lN')); (all_goals ((try dsimp only [kstB_c, kstB_n] at kFr); (try dsimp only at kNews); (try dsimp only at kInv); (try dsimp only at kI0); (try dsimp only at kI1); (try dsimp only at kI2); (try dsimp only at kI3); (try dsimp only at kI4); (try dsimp only at kF0); (try dsimp only at kF1); (try simp only [rangeKs_length, downKs_length] at kI0); (try have kLen0 := IntsAre.length kFacts); (try have kLen0 := IntsAre.length kF0); (try have kLen1 := IntsAre.length kF1); (try simp only [List.nil_append, List.cons_append, List.append_nil] at kNews); (try dsimp only); (try k_fold))))
  k_with "leave" => k_dflt (refine kHQ _ _ ?_)
  k_with "pyIter ref" => k_dflt ((revert kI0; intro kI0); (with_reducible show wpAny _ _ (pyIter (Value.ref _)) (fun it s₂ => LoopAtV _ _ _ _ _ _ _ _ _ it s₂) _ _); k_here; (rename Fr _ _ _ _ => lF'); (rename News _ _ _ _ => lN'); (rename IsRange _ _ _ _ _ _ _ _ => rgX); (with_unfolding_all refine' kst_range (σ := Int × Tok × List Value × List Int × Nat) (fun c => [(_, listOf (c.2.2.1).toArray c.2.2.2.2)]) (fun c => [(Str.ofString "carry", .int c.1 c.2.1)]) (fun c => IntsAre c.2.2.1 c.2.2.2.1) [] (fun pre c => (fun pre c found => found.length = ys.length + pre.length ∧ (found, c) = pre.foldl (addT xs (2 ^ k.toNat)) (addA xs ys (2 ^ k.toNat))) pre c.1 c.2.2.2.1) (kx0, kt0, kv0, kns0, kc0) (by rfl) (by first | exact rgX | assumption) (by first | exact small_one (by omega) (by omega) (by omega) (by omega) | exact small_one (by l_bnd) (by l_bnd) (by l_bnd) (by l_bnd) | decide) (by first | exact rangeSize_nat _ _ | rfl) lF' (by exact kst_newsOf lN' (by kst_inAny)) (by assumption) (by kst_all) (by ((try dsimp only); exact add_mid kI0 kI1)) ?_ ?_); (rotate_left; rintro ⟨kx0, kt0, kv0, kns0, kc0⟩ kU kH kTk kFacts ⟨kI0, kI1⟩ kFr kNews; rotate_left; rintro ⟨kx0, kt0, kv0, kns0, kc0⟩ kPre kN kT kU kH kTk kOwn kEq kLt kOff kFacts ⟨kI0, kI1⟩ kFr kNews; refine abs_post ?_; intro kQ kHQ); (all_goals (try dsimp only at kFacts)); (all_goals (try dsimp only at kOff)); (all_goals (try simp only [List.map_cons, List.map_nil] at kOff)); (all_goals (try clear lF' lN')); (all_goals ((try dsimp only [kstB_c, kstB_n] at kFr); (try dsimp only at kNews); (try dsimp only at kInv); (try dsimp only at kI0); (try dsimp only at kI1); (try dsimp only at kI2); (try dsimp only at kI3); (try dsimp only at kI4); (try dsimp only at kF0); (try dsimp only at kF1); (try simp only [rangeKs_length, downKs_length] at kI0); (try have kLen0 := IntsAre.length kFacts); (try have kLen0 := IntsAre.length kF0); (try have kLen1 := IntsAre.length kF1); (try simp only [List.nil_append, List.cons_append, List.append_nil] at kNews); (try dsimp only); (try k_fold))))
  k_with "state" => k_dflt (first | exact add_s1 (by assumption) (by assumption) | exact add_s2 (by assumption) (by assumption))
  k_steps
  k_with_none
  all_goals (try dsimp only)
  all_goals (rename News _ _ _ _ => nE; (try simp only [List.push_toArray] at nE))
  all_goals (refine ret _ _ _ (Fr.keep (by assumption)) (NewNums.of nE (by k_memK) ?_))
  all_goals (have e9 := add_end (by assumption); rw [hG]; first | (rw [← add_fin1 e9 (by assumption)]; l_ints) | (rw [← add_fin2 e9 (by assumption)]; l_ints))

end
section
def slS (B m : Int) (st : List Int × Int) (x : Int) : List Int × Int := let c := Builtin.bitOr st.2 (x * m); (st.1 ++ [c % B], c / B)
def slR (B m : Int) (as : List Int) : List Int × Int := as.foldl (slS B m) ([], 0)
def slL (B m : Int) (as : List Int) : List Int := if 0 < (slR B m as).2 then (slR B m as).1 ++ [(slR B m as).2] else (slR B m as).1
section
variable {as found pre : List Int} {c i m B k n : Int} {st : List Int × Int}
theorem sl_s (hm : n.fmod k = n) (h0 : found.length = pre.length) (h1 : (found, c) = pre.foldl (slS (2 ^ k.toNat) (2 ^ n.toNat)) st) :
    (found ++ [Builtin.bitAnd (Builtin.bitOr c (i * 2 ^ (n.fmod k).toNat)) (1 * 2 ^ k.toNat - 1)]).length = (pre ++ [i]).length ∧
    (found ++ [Builtin.bitAnd (Builtin.bitOr c (i * 2 ^ (n.fmod k).toNat)) (1 * 2 ^ k.toNat - 1)], (Builtin.bitOr c (i * 2 ^ (n.fmod k).toNat)).fdiv (2 ^ k.toNat)) = (pre ++ [i]).foldl (slS (2 ^ k.toNat) (2 ^ n.toNat)) st := by
  refine ⟨by simp [h0], ?_⟩
  rw [List.foldl_append, ← h1, maskB, fdivB, hm]; rfl
theorem sl_fin1 (h1 : (found, c) = as.foldl (slS B m) ([], 0)) (h : 0 < c) : found ++ [c] = slL B m as := by
  unfold slL slR; rw [← h1, if_pos h]
theorem sl_fin2 (h1 : (found, c) = as.foldl (slS B m) ([], 0)) (h : ¬ 0 < c) : found = slL B m as := by
  unfold slL slR; rw [← h1, if_neg h]
end
theorem shift_left_spec (w : World) {a : Addr} {as : List Int} {k n : Int} {u t : Tok} (hk : 3 ≤ k) (hk' : k ≤ 8) (ha : as.length < 900) (hn : 0 ≤ n) (hn' : n < k) (hall : ∀ x ∈ as, 0 ≤ x ∧ x < 256) :
    Spec w 100 2 [.ref a, .int n t, .int k u] (fun h => Nums h a as) (fun h h' v => NewNums h h' v (slL (2 ^ k.toNat) (2 ^ n.toNat) as)) := by
  k_with_none
  intro dp un fr gd s mean mg mb Q E X T hd hu hpre ret
  obtain ⟨va, la, ia⟩ := hpre
  have hfd : n.fdiv k = 0 := by rw [Int.fdiv_eq_ediv_of_nonneg _ (by omega)]; exact Int.ediv_eq_zero_of_lt hn hn'
  have hfm : n.fmod k = n := by rw [Int.fmod_eq_emod_of_nonneg _ (by omega)]; exact Int.emod_eq_of_lt hn hn'
  refine' enter (binds := [(Str.ofString "a", .ref a), (Str.ofString "n", .int n t), (Str.ofString "w", .int k u)]) ?kX ?kT ?ho ?hcd ?hroom ?k9 ?kB ?kD ?_ ?c2 ?c3 ?c4 ?c5
  case kX => assumption
  case kT => assumption
  case ho => k_is
  case hcd => k_is
  case hroom => exact room_ok hd
  case k9 => exact BindsTo.of_eq rfl
  case kB => exact locs rfl
  case kD => (simp only [List.map_cons, List.map_nil]; decide)
  case c2 => rfl
  case c3 => rfl
  case c4 => rfl
  case c5 => decide
  intro L' h₁ tk₁ F' N'
  (try dsimp only [kstB_c, kstB_n] at F')
  (try dsimp only)
  (try k_fold)
  k_with "leave" => k_dflt (refine kHQ _ _ ?_)
  k_with "pyIter ref" => k_dflt ((with_reducible show wpAny _ _ (pyIter (Value.ref _)) (fun it s₂ => LoopAtV _ _ _ _ _ _ _ _ _ it s₂) _ _); k_here; (rename Fr _ _ _ _ => lF'); (rename News _ _ _ _ => lN'); (with_unfolding_all refine' kst_list (σ := Int × Tok × List Value × List Int × Nat) (fun c => [(_, listOf (c.2.2.1).toArray c.2.2.2.2)]) (fun c => [(Str.ofString "carry", .int c.1 c.2.1)]) (fun c => IntsAre c.2.2.1 c.2.2.2.1) [] (fun pre c => (fun pre c found => found.length = pre.length ∧ (found, c) = pre.foldl (slS (2 ^ k.toNat) (2 ^ n.toNat)) ([], 0)) pre c.1 c.2.2.2.1) (0, _, _, _, _) (by rfl) (by assumption) (by assumption) lF' (by exact kst_newsOf lN' (by kst_inAny)) (by assumption) (by kst_all) (by ((try dsimp only); exact ⟨rfl, rfl⟩)) ?_ ?_); (rotate_left; rintro ⟨kx0, kt0, kv0, kns0, kc0⟩ kU kH kTk kFacts ⟨kI0, kI1⟩ kFr kNews; rotate_left; rintro ⟨kx0, kt0, kv0, kns0, kc0⟩ kPre kPost kN kT kU kH kTk kOwn kEq kMem kOff kFacts ⟨kI0, kI1⟩ kFr kNews; have kL := congrArg List.length kEq; simp only [List.length_append, List.length_cons] at kL; (try dsimp only at kInv); (try dsimp only at kI0); (try dsimp only at kI1); (try dsimp only at kI2); (try dsimp only at kI3); have kB := hall _ kMem; refine abs_post ?_; intro kQ kHQ); (all_goals (try dsimp only at kFacts)); (all_goals (try dsimp only at kOff)); (all_goals (try simp only [List.map_cons, List.map_nil] at kOff)); (all_goals (try clear lF' lN')); (all_goals ((try dsimp only [kstB_c, kstB_n] at kFr); (try dsimp only at kNews); (try dsimp only at kInv); (try dsimp only at kI0); (try dsimp only at kI1); (try dsimp only at kI2); (try dsimp only at kI3); (try dsimp only at kI4); (try dsimp only at kF0); (try dsimp only at kF1); (try simp only [rangeKs_length, downKs_length] at kI0); (try have kLen0 := IntsAre.length kFacts); (try have kLen0 := IntsAre.length kF0); (try have kLen1 := IntsAre.length kF1); (try simp only [List.nil_append, List.cons_append, List.append_nil] at kNews); (try dsimp only); (try k_fold))))
  k_with "binaryOp Mult ref int" => rw [hfd]
  k_with "state" => k_dflt (exact sl_s hfm (by assumption) (by assumption))
  k_steps
  k_with_none
  all_goals (try dsimp only)
  all_goals (rename News _ _ _ _ => nE; (try simp only [List.push_toArray] at nE))
  · have e0 : as = [] := List.eq_nil_of_length_eq_zero (by omega)
    subst e0
    exact ret _ _ _ (Fr.keep (by assumption)) (NewNums.of (vs := []) nE (by k_memK) .nil)
  · refine ret _ _ _ (Fr.keep (by assumption)) (NewNums.of nE (by k_memK) ?_)
    rw [← sl_fin1 kI1 (by assumption)]; l_ints
  · refine ret _ _ _ (Fr.keep (by assumption)) (NewNums.of nE (by k_memK) ?_)
    rw [← sl_fin2 kI1 (by assumption)]; l_ints
theorem bits_spec (w : World) {a : Addr} {x : Int} {k : Int} {u : Tok} (hk : 3 ≤ k) (hk' : k ≤ 8) :
    Spec w 114 1 [.ref a, .int k u] (fun h => Nums h a [x]) (fun h h' v => ∃ t, v = .int (Builtin.Int.intBits x) t) := by
  k_with_none
  intro dp un fr gd s mean mg mb Q E X T hd hu hpre ret
  obtain ⟨va, la, ia⟩ := hpre
  refine' enter (binds := [(Str.ofString "a", .ref a), (Str.ofString "w", .int k u)]) ?kX ?kT ?ho ?hcd ?hroom ?k9 ?kB ?kD ?_ ?c2 ?c3 ?c4 ?c5
  case kX => assumption
  case kT => assumption
  case ho => k_is
  case hcd => k_is
  case hroom => exact room_ok hd
  case k9 => exact BindsTo.of_eq rfl
  case kB => exact locs rfl
  case kD => (simp only [List.map_cons, List.map_nil]; decide)
  case c2 => rfl
  case c3 => rfl
  case c4 => rfl
  case c5 => decide
  intro L' h₁ tk₁ F' N'
  (try dsimp only [kstB_c, kstB_n] at F')
  (try dsimp only)
  (try k_fold)
  k_steps
  k_with_none
  all_goals (refine ret _ _ _ (Fr.keep (by assumption)) (ktn_int ?_))
  all_goals (show ((1 : Int) - 1) * k + (Builtin.Int.intBits x : Int) = _; omega)

end
section
theorem law_limbs_spec (w : World) {n k : Int} {t u : Tok} (hk : 3 ≤ k) (hk' : k ≤ 8) (hn : 0 ≤ n) (hn' : n ≤ 2000) :
    Spec w 231 1 [.int n t, .int k u] (fun _ => True) (fun h h' v => NewNums h h' v (dg (2 ^ k.toNat) n.toNat n)) := by
  k_with_none
  intro dp un fr gd s mean mg mb Q E X T hd hu hpre ret
  refine' enter (binds := [(Str.ofString "number", .int n t), (Str.ofString "w", .int k u)]) ?kX ?kT ?ho ?hcd ?hroom ?k9 ?kB ?kD ?_ ?c2 ?c3 ?c4 ?c5
  case kX => assumption
  case kT => assumption
  case ho => k_is
  case hcd => k_is
  case hroom => exact room_ok hd
  case k9 => exact BindsTo.of_eq rfl
  case kB => exact locs rfl
  case kD => (simp only [List.map_cons, List.map_nil]; decide)
  case c2 => rfl
  case c3 => rfl
  case c4 => rfl
  case c5 => decide
  intro L' h₁ tk₁ F' N'
  (try dsimp only [kstB_c, kstB_n] at F')
  (try dsimp only)
  (try k_fold)
  k_with "exec While Compare cons nil" => k_dflt (k_here; (rename Fr _ _ _ _ => lF'); (rename News _ _ _ _ => lN'); (with_unfolding_all refine' ksw_while (σ := Int × Tok × List Value × List Int × Nat) (fun c => [(_, listOf (c.2.2.1).toArray c.2.2.2.2)]) (fun c => [(Str.ofString "number", .int c.1 c.2.1)]) (fun c => IntsAre c.2.2.1 c.2.2.2.1) [] (fun c => (fun x ns => 0 ≤ x ∧ ns.length + x.toNat ≤ 2000 ∧ ns ++ dg (2 ^ k.toNat) x.toNat x = dg (2 ^ k.toNat) n.toNat n) c.1 c.2.2.2.1) (fun c => (fun x _ => x.toNat) c.1 c.2.2.2.1) (n, t, [], [], 0) lF' (by exact kst_newsOf lN' (by kst_inAny)) (by exact .nil) (by kst_all) (by ((try dsimp only); exact ⟨hn, by simp; omega, rfl⟩)) ?_); (rintro ⟨kx0, kt0, kv0, kns0, kc0⟩ kU kH kTk kFacts ⟨kI0, kI1, kI2⟩ kFr kNews); (try dsimp only at kFacts); (all_goals (try clear lF' lN')); (all_goals ((try dsimp only [kstB_c, kstB_n] at kFr); (try dsimp only at kNews); (try dsimp only at kInv); (try dsimp only at kI0); (try dsimp only at kI1); (try dsimp only at kI2); (try dsimp only at kI3); (try dsimp only at kI4); (try dsimp only at kF0); (try dsimp only at kF1); (try simp only [rangeKs_length, downKs_length] at kI0); (try have kLen0 := IntsAre.length kFacts); (try have kLen0 := IntsAre.length kF0); (try have kLen1 := IntsAre.length kF1); (try simp only [List.nil_append, List.cons_append, List.append_nil] at kNews); (try dsimp only); (try k_fold))))
  k_with "state" => k_dflt (exact nat_step' hk (by assumption) (by assumption) (by assumption))
  k_with "measure" => k_dflt (exact nat_less hk (by assumption))
  k_steps
  k_with_none
  all_goals (try dsimp only)
  all_goals (refine ret _ _ _ (Fr.keep (by assumption)) (NewNums.of (by assumption) (by k_memK) ?_))
  all_goals (have e9 := dg_end (by assumption) (by assumption); rw [← e9]; assumption)

end
section
def glS (B p q low : Int) : Nat → Int → Int → Int
  | 0, _, limb => limb
  | f + 1, rest, limb => if rest < B ∧ Builtin.bitOr (rest * B) low < limb * q then glS B p q low f (rest + p) (limb - 1) else limb
def glHi (B t1 t2 : Int) : Int := Builtin.bitOr (t2 * B) t1
def glM (hi B p : Int) : Int := if B - 1 < hi / p then B - 1 else hi / p
@[irreducible] def glL (B t0 t1 t2 p q : Int) : Int := glS B p q t0 256 (glHi B t1 t2 - glM (glHi B t1 t2) B p * p) (glM (glHi B t1 t2) B p)
section
variable {B p q low rest limb G : Int}
theorem gl_fuel (hp : 0 < p) : ∀ {f g : Nat} {rest limb : Int}, (B - rest).toNat ≤ f → (B - rest).toNat ≤ g → glS B p q low f rest limb = glS B p q low g rest limb := by
  intro f
  induction f with
  | zero =>
    intro g rest limb h1 h2
    cases g with
    | zero => rfl
    | succ g =>
      show limb = if _ then _ else _
      rw [if_neg (by intro h; omega)]
  | succ f ih =>
    intro g rest limb h1 h2
    cases g with
    | zero =>
      show (if _ then _ else _) = limb
      rw [if_neg (by intro h; omega)]
    | succ g =>
      show (if _ then _ else _) = if _ then _ else _
      by_cases h : rest < B ∧ Builtin.bitOr (rest * B) low < limb * q
      · rw [if_pos h, if_pos h, ih (g := g) (by omega) (by omega)]
      · rw [if_neg h, if_neg h]
theorem gl_step (hp : 0 < p) (h1 : rest < B) (h2 : Builtin.bitOr (rest * B) low < limb * q) (h0 : 0 ≤ rest) (h : glS B p q low (B - rest).toNat rest limb = G) :
    0 ≤ rest + p ∧ glS B p q low (B - (rest + p)).toNat (rest + p) (limb - 1) = G := by
  refine ⟨by omega, ?_⟩
  rw [← h]
  have e : (B - rest).toNat = (B - rest).toNat - 1 + 1 := by omega
  rw [e]
  show _ = if _ then _ else _
  rw [if_pos ⟨h1, h2⟩]
  exact gl_fuel hp (by omega) (by omega)
theorem gl_end1 (h1 : ¬ rest < B) (h : glS B p q low (B - rest).toNat rest limb = G) : limb = G := by
  rw [← h]
  have e : (B - rest).toNat = 0 := by omega
  rw [e]; rfl
theorem gl_end2 (h2 : ¬ Builtin.bitOr (rest * B) low < limb * q) (h : glS B p q low (B - rest).toNat rest limb = G) : limb = G := by
  rw [← h]
  cases (B - rest).toNat with
  | zero => rfl
  | succ n =>
    show limb = if _ then _ else _
    rw [if_neg (by intro h; exact h2 h.2)]
theorem gl_nn {hi : Int} (hp : 0 < p) (h : limb ≤ hi / p) : 0 ≤ hi - limb * p := by
  have h1 := Int.ediv_mul_le hi (show p ≠ 0 by omega)
  have h2 := Int.mul_le_mul_of_nonneg_right h (Int.le_of_lt hp)
  omega
theorem gl_start {hi t0 : Int} (hp : 0 < p) (hB : B ≤ 256) : 0 ≤ hi - (if 1 * B - 1 < hi.fdiv p then 1 * B - 1 else hi.fdiv p) * p ∧
    glS B p q t0 (B - (hi - (if 1 * B - 1 < hi.fdiv p then 1 * B - 1 else hi.fdiv p) * p)).toNat (hi - (if 1 * B - 1 < hi.fdiv p then 1 * B - 1 else hi.fdiv p) * p) (if 1 * B - 1 < hi.fdiv p then 1 * B - 1 else hi.fdiv p) = glS B p q t0 256 (hi - glM hi B p * p) (glM hi B p) := by
  rw [Int.fdiv_eq_ediv_of_nonneg _ (Int.le_of_lt hp), Int.one_mul]
  show 0 ≤ hi - glM hi B p * p ∧ glS B p q t0 (B - (hi - glM hi B p * p)).toNat (hi - glM hi B p * p) (glM hi B p) = _
  have h : glM hi B p ≤ hi / p := by unfold glM; split <;> omega
  have h0 := gl_nn hp h
  exact ⟨h0, gl_fuel hp (by omega) (by omega)⟩
end
theorem guessed_limb_spec (w : World) {a : Addr} {t0 t1 t2 p q k : Int} {u u1 u2 : Tok} (hk : 3 ≤ k) (hk' : k ≤ 8) (h0 : 0 ≤ t0 ∧ t0 < 256) (h1 : 0 ≤ t1 ∧ t1 < 256) (h2 : 0 ≤ t2 ∧ t2 < 256) (hp : 0 < p ∧ p < 256) (hq : 0 ≤ q ∧ q < 256) :
    Spec w 189 2 [.ref a, .int p u1, .int q u2, .int k u] (fun h => Nums h a [t0, t1, t2]) (fun h h' v => ∃ t, v = .int (glL (2 ^ k.toNat) t0 t1 t2 p q) t) := by
  k_with_none
  intro dp un fr gd s mean mg mb Q E X T hd hu hpre ret
  obtain ⟨va, la, ia⟩ := hpre
  have hB := bge hk
  have hB' := ble hk'
  refine' enter (binds := [(Str.ofString "top", .ref a), (Str.ofString "first", .int p u1), (Str.ofString "second", .int q u2), (Str.ofString "w", .int k u)]) ?kX ?kT ?ho ?hcd ?hroom ?k9 ?kB ?kD ?_ ?c2 ?c3 ?c4 ?c5
  case kX => assumption
  case kT => assumption
  case ho => k_is
  case hcd => k_is
  case hroom => exact room_ok hd
  case k9 => exact BindsTo.of_eq rfl
  case kB => exact locs rfl
  case kD => (simp only [List.map_cons, List.map_nil]; decide)
  case c2 => rfl
  case c3 => rfl
  case c4 => rfl
  case c5 => decide
  intro L' h₁ tk₁ F' N'
  (try dsimp only [kstB_c, kstB_n] at F')
  (try dsimp only)
  (try k_fold)
  k_with "exec While BoolOp cons nil" => k_dflt (k_here; (rename Fr _ _ _ _ => lF'); (rename News _ _ _ _ => lN'); (with_unfolding_all refine' ksw_while (σ := Int × Tok × Int × Tok) (fun c => []) (fun c => [(Str.ofString "limb", .int c.1 c.2.1), (Str.ofString "rest", .int c.2.2.1 c.2.2.2)]) (fun c => True) [] (fun c => (fun limb rest => 0 ≤ rest ∧ glS (2 ^ k.toNat) p q t0 (2 ^ k.toNat - rest).toNat rest limb = glL (2 ^ k.toNat) t0 t1 t2 p q) c.1 c.2.2.1) (fun c => (fun limb rest => (2 ^ k.toNat - rest).toNat) c.1 c.2.2.1) (_, _, _, _) lF' (by exact kst_newsOf lN' (by kst_inAny)) (by exact True.intro) (by kst_all) (by ((try dsimp only); unfold glL; exact gl_start hp.1 hB')) ?_); (rintro ⟨kx0, kt0, kx1, kt1⟩ kU kH kTk kFacts ⟨kI0, kI1⟩ kFr kNews); (try dsimp only at kFacts); (all_goals (try clear lF' lN')); (all_goals ((try dsimp only [kstB_c, kstB_n] at kFr); (try dsimp only at kNews); (try dsimp only at kInv); (try dsimp only at kI0); (try dsimp only at kI1); (try dsimp only at kI2); (try dsimp only at kI3); (try dsimp only at kI4); (try dsimp only at kF0); (try dsimp only at kF1); (try simp only [rangeKs_length, downKs_length] at kI0); (try have kLen0 := IntsAre.length kFacts); (try have kLen0 := IntsAre.length kF0); (try have kLen1 := IntsAre.length kF1); (try simp only [List.nil_append, List.cons_append, List.append_nil] at kNews); (try dsimp only); (try k_fold))))
  k_with "state" => k_dflt (exact gl_step hp.1 (by omega) (by assumption) kI0 kI1)
  k_with "measure" => omega
  k_steps
  k_with_none
  all_goals (try dsimp only)
  · refine ret _ _ _ (Fr.keep (by assumption)) (ktn_int (gl_end2 (by assumption) kI1))
  · refine ret _ _ _ (Fr.keep (by assumption)) (ktn_int (gl_end1 (by omega) kI1))

end
section
def dvS (as : List Int) (B d : Int) (st : List Int × Int) (i : Int) : List Int × Int := let r := Builtin.bitOr (st.2 * B) (as.getD i.toNat 0); (st.1.set i.toNat (r / d), r % d)
def dvR (as : List Int) (B d : Int) : List Int × Int := (downKs (as.length - 1) as.length).foldl (dvS as B d) (List.replicate as.length 0, 0)
section
variable {as found pre : List Int} {c i d k : Int} {st : List Int × Int} {n : Nat}
theorem dv_s (hd : 0 < d) (h0 : found.length = as.length) (h1 : (found, c) = pre.foldl (dvS as (2 ^ k.toNat) d) st) :
    (found.set i.toNat ((Builtin.bitOr (c * 2 ^ k.toNat) (as.getD i.toNat 0)).fdiv d)).length = as.length ∧ 0 ≤ (Builtin.bitOr (c * 2 ^ k.toNat) (as.getD i.toNat 0)).fmod d ∧ (Builtin.bitOr (c * 2 ^ k.toNat) (as.getD i.toNat 0)).fmod d < d ∧
    (found.set i.toNat ((Builtin.bitOr (c * 2 ^ k.toNat) (as.getD i.toNat 0)).fdiv d), (Builtin.bitOr (c * 2 ^ k.toNat) (as.getD i.toNat 0)).fmod d) = (pre ++ [i]).foldl (dvS as (2 ^ k.toNat) d) st := by
  refine ⟨by simp [h0], fmod_lo _ hd, fmod_hi _ hd, ?_⟩
  rw [List.foldl_append, ← h1, Int.fdiv_eq_ediv_of_nonneg _ (Int.le_of_lt hd), Int.fmod_eq_emod_of_nonneg _ (Int.le_of_lt hd)]; rfl
theorem dv_end {B : Int} (h1 : (found, c) = (downKs ((as.length : Int) - 1) ((as.length : Int) - 1 - -1).toNat).foldl (dvS as B d) (List.replicate as.length 0, 0)) : (found, c) = dvR as B d := by
  have e : ((as.length : Int) - 1 - -1).toNat = as.length := by omega
  rw [e] at h1
  exact h1
theorem dv_start {B : Int} (hd : 0 < d) : (List.replicate (as.length : Int).toNat [(0 : Int)]).flatten.length = as.length ∧ (0 : Int) ≤ 0 ∧ 0 < d ∧ ((List.replicate (as.length : Int).toNat [(0 : Int)]).flatten, (0 : Int)) = ([] : List Int).foldl (dvS as B d) (List.replicate as.length 0, 0) := by
  rw [Int.toNat_natCast, rep_flat]
  exact ⟨by simp, Int.le_refl _, hd, rfl⟩
theorem dv_fin {B : Int} {us : List Value} (e : (found, c) = dvR as B d) (h : IntsAre us (norm found)) : IntsAre us (norm (dvR as B d).1) := by rw [← e]; exact h
end
theorem divrem_limb_spec (w : World) {a : Addr} {as : List Int} {k d : Int} {u t : Tok} (hk : 3 ≤ k) (hk' : k ≤ 8) (ha : as.length < 900) (hd0 : 0 < d) (hd' : d < 1000) :
    Spec w 93 2 [.ref a, .int d t, .int k u] (fun h => Nums h a as) (fun h h' v => TupLI h h' v (norm (dvR as (2 ^ k.toNat) d).1) (dvR as (2 ^ k.toNat) d).2) := by
  k_with_none
  intro dp un fr gd s mean mg mb Q E X T hd hu hpre ret
  obtain ⟨va, la, ia⟩ := hpre
  refine' enter (binds := [(Str.ofString "a", .ref a), (Str.ofString "limb", .int d t), (Str.ofString "w", .int k u)]) ?kX ?kT ?ho ?hcd ?hroom ?k9 ?kB ?kD ?_ ?c2 ?c3 ?c4 ?c5
  case kX => assumption
  case kT => assumption
  case ho => k_is
  case hcd => k_is
  case hroom => exact room_ok hd
  case k9 => exact BindsTo.of_eq rfl
  case kB => exact locs rfl
  case kD => (simp only [List.map_cons, List.map_nil]; decide)
  case c2 => rfl
  case c3 => rfl
  case c4 => rfl
  case c5 => decide
  intro L' h₁ tk₁ F' N'
  (try dsimp only [kstB_c, kstB_n] at F')
  (try dsimp only)
  (try k_fold)
  k_with "call ref" => k_dflt (k_here; first
    | ((rename Fr _ _ _ _ => lF'); (rename News _ _ _ _ => lN'); (refine' use_list (by first | exact ⟨_, by is_list, by l_ints⟩ | exact ⟨⟨_, by is_list, by l_ints⟩, ⟨_, by is_list, by l_ints⟩⟩ | trivial) (normal_spec w (by first | assumption | omega | (simp only [List.length_append, List.length_cons, List.length_nil, rangeKs_length, downKs_length] at *; omega))) (by with_unfolding_all rfl) (by with_reducible assumption) (by with_reducible assumption) lF' lN' (by first | exact dp_ok hd rfl | (with_unfolding_all show (dp + 1) + _ < 900; omega) | (with_unfolding_all show (dp + 2) + _ < 900; omega) | (with_unfolding_all show (dp + 3) + _ < 900; omega) | (with_unfolding_all show (dp + 4) + _ < 900; omega)) (by first | exact dp_ok hu rfl | (with_unfolding_all show (un + 3) + _ < 9000; omega) | (with_unfolding_all show (un + 6) + _ < 9000; omega) | (with_unfolding_all show (un + 9) + _ < 9000; omega) | (with_unfolding_all show (un + 12) + _ < 9000; omega)) ?_); (intro kcr kcus kcn kch kctk kcF kcN kcI kcNe); (try clear lF' lN'); (try dsimp only); (try k_fold)))
  k_with "leave" => k_dflt (refine kHQ _ _ ?_)
  k_with "pyIter ref" => k_dflt ((with_reducible show wpAny _ _ (pyIter (Value.ref _)) (fun it s₂ => LoopAtV _ _ _ _ _ _ _ _ _ it s₂) _ _); k_here; (rename Fr _ _ _ _ => lF'); (rename News _ _ _ _ => lN'); (rename IsRange _ _ _ _ _ _ _ _ => rgX); (with_unfolding_all refine' kst_rangeD (σ := Int × Tok × List Value × List Int × Nat) (fun c => [(_, listOf (c.2.2.1).toArray c.2.2.2.2)]) (fun c => [(Str.ofString "rest", .int c.1 c.2.1)]) (fun c => IntsAre c.2.2.1 c.2.2.2.1) [] (fun pre c => (fun pre rest found => found.length = as.length ∧ 0 ≤ rest ∧ rest < d ∧ (found, rest) = pre.foldl (dvS as (2 ^ k.toNat) d) (List.replicate as.length 0, 0)) pre c.1 c.2.2.2.1) (0, _, _, _, _) (by rfl) (by first | exact rgX | assumption) (by first | exact small_down (by omega) (by omega) (by omega) (by omega) | exact small_down (by l_bnd) (by l_bnd) (by l_bnd) (by l_bnd) | decide) (by first | exact rangeSize_downNat _ _ | rfl) lF' (by exact kst_newsOf lN' (by kst_inAny)) (by assumption) (by kst_all) (by ((try dsimp only); exact dv_start hd0)) ?_ ?_); (rotate_left; rintro ⟨kx0, kt0, kv0, kns0, kc0⟩ kU kH kTk kFacts ⟨kI0, kI1, kI2, kI3⟩ kFr kNews; rotate_left; rintro ⟨kx0, kt0, kv0, kns0, kc0⟩ kPre kN kT kU kH kTk kOwn kEq kLt kOff kFacts ⟨kI0, kI1, kI2, kI3⟩ kFr kNews; refine abs_post ?_; intro kQ kHQ); (all_goals (try dsimp only at kFacts)); (all_goals (try dsimp only at kOff)); (all_goals (try simp only [List.map_cons, List.map_nil] at kOff)); (all_goals (try clear lF' lN')); (all_goals ((try dsimp only [kstB_c, kstB_n] at kFr); (try dsimp only at kNews); (try dsimp only at kInv); (try dsimp only at kI0); (try dsimp only at kI1); (try dsimp only at kI2); (try dsimp only at kI3); (try dsimp only at kI4); (try dsimp only at kF0); (try dsimp only at kF1); (try simp only [rangeKs_length, downKs_length] at kI0); (try have kLen0 := IntsAre.length kFacts); (try have kLen0 := IntsAre.length kF0); (try have kLen1 := IntsAre.length kF1); (try simp only [List.nil_append, List.cons_append, List.append_nil] at kNews); (try dsimp only); (try k_fold))))
  k_with "state" => k_dflt (exact dv_s hd0 (by assumption) (by assumption))
  k_steps
  k_with_none
  have e9 := dv_end kI3
  have e8 : kx0 = (dvR as (2 ^ k.toNat) d).2 := by rw [← e9]
  rename News _ _ _ _ => nE
  subst e8
  refine ret _ _ _ (Fr.keep (by assumption)) (TupLI.of nE (by k_memK) (by k_memK) (dv_fin e9 (by assumption)) (by rename (kcr < _ ∧ _) => l9; exact Nat.ne_of_gt l9.1))

end
section
def subS (as bs : List Int) (B : Int) (st : List Int × Int) (i : Int) : List Int × Int := let l := as.getD i.toNat 0 - st.2 - bs.getD i.toNat 0; (st.1 ++ [if l < 0 then l + B else l], if l < 0 then 1 else 0)
def subR (B : Int) (as bs : List Int) : List Int := ((rangeKs 0 as.length).foldl (subS as bs B) ([], 0)).1
def subL (B : Int) (as bs : List Int) : List Int := norm (subR B as bs)
section
variable {as bs found pre : List Int} {c i B : Int} {st : List Int × Int} {n : Nat}
theorem sub_s1 (h0 : found.length = pre.length) (h1 : (found, c) = pre.foldl (subS as bs B) st) (h : as.getD i.toNat 0 - c - bs.getD i.toNat 0 < 0) :
    (found ++ [as.getD i.toNat 0 - c - bs.getD i.toNat 0 + B]).length = (pre ++ [i]).length ∧ (found ++ [as.getD i.toNat 0 - c - bs.getD i.toNat 0 + B], (1 : Int)) = (pre ++ [i]).foldl (subS as bs B) st := by
  refine ⟨by simp [h0], ?_⟩
  rw [List.foldl_append, ← h1]
  show _ = (found ++ [if _ then _ else _], if _ then _ else _)
  rw [if_pos h, if_pos h]
theorem sub_s2 (h0 : found.length = pre.length) (h1 : (found, c) = pre.foldl (subS as bs B) st) (h : ¬ as.getD i.toNat 0 - c - bs.getD i.toNat 0 < 0) :
    (found ++ [as.getD i.toNat 0 - c - bs.getD i.toNat 0]).length = (pre ++ [i]).length ∧ (found ++ [as.getD i.toNat 0 - c - bs.getD i.toNat 0], (0 : Int)) = (pre ++ [i]).foldl (subS as bs B) st := by
  refine ⟨by simp [h0], ?_⟩
  rw [List.foldl_append, ← h1]
  show _ = (found ++ [if _ then _ else _], if _ then _ else _)
  rw [if_neg h, if_neg h]
theorem sub_z (h : ¬ i < (bs.length : Int)) : bs.getD i.toNat 0 = 0 := by
  have : bs.length ≤ i.toNat := by omega
  simp [List.getD, List.getElem?_eq_none this]
theorem sub_s3 (hi : ¬ i < (bs.length : Int)) (h0 : found.length = pre.length) (h1 : (found, c) = pre.foldl (subS as bs B) st) (h : as.getD i.toNat 0 - c - 0 < 0) :
    (found ++ [as.getD i.toNat 0 - c - 0 + B]).length = (pre ++ [i]).length ∧ (found ++ [as.getD i.toNat 0 - c - 0 + B], (1 : Int)) = (pre ++ [i]).foldl (subS as bs B) st := by
  have z := sub_z hi
  have r := sub_s1 (i := i) h0 h1 (by rw [z]; exact h)
  rw [z] at r; exact r
theorem sub_s4 (hi : ¬ i < (bs.length : Int)) (h0 : found.length = pre.length) (h1 : (found, c) = pre.foldl (subS as bs B) st) (h : ¬ as.getD i.toNat 0 - c - 0 < 0) :
    (found ++ [as.getD i.toNat 0 - c - 0]).length = (pre ++ [i]).length ∧ (found ++ [as.getD i.toNat 0 - c - 0], (0 : Int)) = (pre ++ [i]).foldl (subS as bs B) st := by
  have z := sub_z hi
  have r := sub_s2 (i := i) h0 h1 (by rw [z]; exact h)
  rw [z] at r; exact r
theorem sub_end (h1 : (found, c) = (rangeKs 0 ((as.length : Int) - 0).toNat).foldl (subS as bs B) ([], 0)) : found = subR B as bs := by
  have e : ((as.length : Int) - 0).toNat = as.length := by omega
  rw [e] at h1
  unfold subR; rw [← h1]
end
theorem sub_spec (w : World) {a b : Addr} {as bs : List Int} {k : Int} {u : Tok} (hk : 3 ≤ k) (hk' : k ≤ 8) (ha : as.length < 900) (hb : bs.length < 900) (hc : ¬ cmpL as bs < 0) :
    Spec w 86 2 [.ref a, .ref b, .int k u] (fun h => Nums h a as ∧ Nums h b bs) (fun h h' v => NewNums h h' v (subL (2 ^ k.toNat) as bs)) := by
  k_with_none
  intro dp un fr gd s mean mg mb Q E X T hd hu hpre ret
  obtain ⟨⟨va, la, ia⟩, ⟨vb, lb, ib⟩⟩ := hpre
  refine' enter (binds := [(Str.ofString "a", .ref a), (Str.ofString "b", .ref b), (Str.ofString "w", .int k u)]) ?kX ?kT ?ho ?hcd ?hroom ?k9 ?kB ?kD ?_ ?c2 ?c3 ?c4 ?c5
  case kX => assumption
  case kT => assumption
  case ho => k_is
  case hcd => k_is
  case hroom => exact room_ok hd
  case k9 => exact BindsTo.of_eq rfl
  case kB => exact locs rfl
  case kD => (simp only [List.map_cons, List.map_nil]; decide)
  case c2 => rfl
  case c3 => rfl
  case c4 => rfl
  case c5 => decide
  intro L' h₁ tk₁ F' N'
  (try dsimp only [kstB_c, kstB_n] at F')
  (try dsimp only)
  (try k_fold)
  k_with "call ref" => k_dflt (k_here; first
    | ((rename Fr _ _ _ _ => lF'); (rename News _ _ _ _ => lN'); (refine' use_int (by first | exact ⟨_, by is_list, by l_ints⟩ | exact ⟨⟨_, by is_list, by l_ints⟩, ⟨_, by is_list, by l_ints⟩⟩ | trivial) (compare_spec w (a := a) (b := b) (as := as) (bs := bs) (by first | assumption | omega | (simp only [List.length_append, List.length_cons, List.length_nil, rangeKs_length, downKs_length] at *; omega)) (by first | assumption | omega | (simp only [List.length_append, List.length_cons, List.length_nil, rangeKs_length, downKs_length] at *; omega))) (by with_unfolding_all rfl) (by with_reducible assumption) (by with_reducible assumption) lF' lN' (by first | exact dp_ok hd rfl | (with_unfolding_all show (dp + 1) + _ < 900; omega) | (with_unfolding_all show (dp + 2) + _ < 900; omega) | (with_unfolding_all show (dp + 3) + _ < 900; omega) | (with_unfolding_all show (dp + 4) + _ < 900; omega)) (by first | exact dp_ok hu rfl | (with_unfolding_all show (un + 3) + _ < 9000; omega) | (with_unfolding_all show (un + 6) + _ < 9000; omega) | (with_unfolding_all show (un + 9) + _ < 9000; omega) | (with_unfolding_all show (un + 12) + _ < 9000; omega)) ?_); (intro kct kch kctk kcF kcN); (try clear lF' lN'); (try dsimp only); (try k_fold))
    | ((rename Fr _ _ _ _ => lF'); (rename News _ _ _ _ => lN'); (refine' use_list (by first | exact ⟨_, by is_list, by l_ints⟩ | exact ⟨⟨_, by is_list, by l_ints⟩, ⟨_, by is_list, by l_ints⟩⟩ | trivial) (normal_spec w (by first | assumption | omega | (simp only [List.length_append, List.length_cons, List.length_nil, rangeKs_length, downKs_length] at *; omega))) (by with_unfolding_all rfl) (by with_reducible assumption) (by with_reducible assumption) lF' lN' (by first | exact dp_ok hd rfl | (with_unfolding_all show (dp + 1) + _ < 900; omega) | (with_unfolding_all show (dp + 2) + _ < 900; omega) | (with_unfolding_all show (dp + 3) + _ < 900; omega) | (with_unfolding_all show (dp + 4) + _ < 900; omega)) (by first | exact dp_ok hu rfl | (with_unfolding_all show (un + 3) + _ < 9000; omega) | (with_unfolding_all show (un + 6) + _ < 9000; omega) | (with_unfolding_all show (un + 9) + _ < 9000; omega) | (with_unfolding_all show (un + 12) + _ < 9000; omega)) ?_); (intro kcr kcus kcn kch kctk kcF kcN kcI kcNe); (try clear lF' lN'); (try dsimp only); (try k_fold)))
  k_with "leave" => k_dflt (refine kHQ _ _ ?_)
  k_with "pyIter ref" => k_dflt ((with_reducible show wpAny _ _ (pyIter (Value.ref _)) (fun it s₂ => LoopAtV _ _ _ _ _ _ _ _ _ it s₂) _ _); k_here; (rename Fr _ _ _ _ => lF'); (rename News _ _ _ _ => lN'); (rename IsRange _ _ _ _ _ _ _ _ => rgX); (with_unfolding_all refine' kst_range (σ := Int × Tok × List Value × List Int × Nat) (fun c => [(_, listOf (c.2.2.1).toArray c.2.2.2.2)]) (fun c => [(Str.ofString "borrow", .int c.1 c.2.1)]) (fun c => IntsAre c.2.2.1 c.2.2.2.1) [Str.ofString "limb"] (fun pre c => (fun pre c found => found.length = pre.length ∧ (found, c) = pre.foldl (subS as bs (1 * 2 ^ k.toNat)) ([], 0)) pre c.1 c.2.2.2.1) (0, _, [], [], 0) (by rfl) (by first | exact rgX | assumption) (by first | exact small_one (by omega) (by omega) (by omega) (by omega) | exact small_one (by l_bnd) (by l_bnd) (by l_bnd) (by l_bnd) | decide) (by first | exact rangeSize_nat _ _ | rfl) lF' (by exact kst_newsOf lN' (by kst_inAny)) (by exact .nil) (by kst_all) (by ((try dsimp only); exact ⟨rfl, rfl⟩)) ?_ ?_); (rotate_left; rintro ⟨kx0, kt0, kv0, kns0, kc0⟩ kU kH kTk kFacts ⟨kI0, kI1⟩ kFr kNews; rotate_left; rintro ⟨kx0, kt0, kv0, kns0, kc0⟩ kPre kN kT kU kH kTk kOwn kEq kLt kOff kFacts ⟨kI0, kI1⟩ kFr kNews; refine abs_post ?_; intro kQ kHQ); (all_goals (try dsimp only at kFacts)); (all_goals (try dsimp only at kOff)); (all_goals (try simp only [List.map_cons, List.map_nil] at kOff)); (all_goals (try clear lF' lN')); (all_goals ((try dsimp only [kstB_c, kstB_n] at kFr); (try dsimp only at kNews); (try dsimp only at kInv); (try dsimp only at kI0); (try dsimp only at kI1); (try dsimp only at kI2); (try dsimp only at kI3); (try dsimp only at kI4); (try dsimp only at kF0); (try dsimp only at kF1); (try simp only [rangeKs_length, downKs_length] at kI0); (try have kLen0 := IntsAre.length kFacts); (try have kLen0 := IntsAre.length kF0); (try have kLen1 := IntsAre.length kF1); (try simp only [List.nil_append, List.cons_append, List.append_nil] at kNews); (try dsimp only); (try k_fold))))
  k_with "state" => k_dflt (first | exact sub_s1 (by assumption) (by assumption) (by assumption) | exact sub_s2 (by assumption) (by assumption) (by assumption) | exact sub_s3 (by assumption) (by assumption) (by assumption) (by assumption) | exact sub_s4 (by assumption) (by assumption) (by assumption) (by assumption))
  k_steps
  k_with_none
  all_goals (try dsimp only)
  all_goals (rename News _ _ _ _ => nE)
  all_goals (refine ret _ _ _ (Fr.keep (by assumption)) (NewNums.of nE (by k_memK) ?_))
  all_goals (have e9 := sub_end (by assumption); unfold subL; rw [Int.one_mul] at e9; rw [← e9]; assumption)

end
section
def srS (as : List Int) (B m q : Int) (found : List Int) (i : Int) : List Int := found ++ [Builtin.bitOr (as.getD i.toNat 0 / m) (as.getD (i + 1).toNat 0 * q) % B]
def srR (B m q : Int) (as : List Int) : List Int := (rangeKs 0 as.length).foldl (srS as B m q) []
section
variable {as found pre : List Int} {i m B k n : Int}
theorem sr_s (hm : n.fmod k = n) (h0 : found.length = pre.length) (h1 : found = pre.foldl (srS as (2 ^ k.toNat) (2 ^ n.toNat) (2 ^ (k - n).toNat)) []) :
    (found ++ [Builtin.bitAnd (Builtin.bitOr ((as.getD i.toNat 0).fdiv (2 ^ (n.fmod k).toNat)) (as.getD (i + 1).toNat 0 * 2 ^ (k - n.fmod k).toNat)) (1 * 2 ^ k.toNat - 1)]).length = (pre ++ [i]).length ∧
    found ++ [Builtin.bitAnd (Builtin.bitOr ((as.getD i.toNat 0).fdiv (2 ^ (n.fmod k).toNat)) (as.getD (i + 1).toNat 0 * 2 ^ (k - n.fmod k).toNat)) (1 * 2 ^ k.toNat - 1)] = (pre ++ [i]).foldl (srS as (2 ^ k.toNat) (2 ^ n.toNat) (2 ^ (k - n).toNat)) [] := by
  refine ⟨by simp [h0], ?_⟩
  rw [List.foldl_append, ← h1, maskB, fdivB, hm]; rfl
theorem sr_s' (hm : n.fmod k = n) (hi : ¬ i + 1 < (as.length : Int)) (h0 : found.length = pre.length) (h1 : found = pre.foldl (srS as (2 ^ k.toNat) (2 ^ n.toNat) (2 ^ (k - n).toNat)) []) :
    (found ++ [Builtin.bitAnd (Builtin.bitOr ((as.getD i.toNat 0).fdiv (2 ^ (n.fmod k).toNat)) (0 * 2 ^ (k - n.fmod k).toNat)) (1 * 2 ^ k.toNat - 1)]).length = (pre ++ [i]).length ∧
    found ++ [Builtin.bitAnd (Builtin.bitOr ((as.getD i.toNat 0).fdiv (2 ^ (n.fmod k).toNat)) (0 * 2 ^ (k - n.fmod k).toNat)) (1 * 2 ^ k.toNat - 1)] = (pre ++ [i]).foldl (srS as (2 ^ k.toNat) (2 ^ n.toNat) (2 ^ (k - n).toNat)) [] := by
  have z : as.getD (i + 1).toNat 0 = 0 := by
    have : as.length ≤ (i + 1).toNat := by omega
    simp [List.getD, List.getElem?_eq_none this]
  have r := sr_s (i := i) hm h0 h1
  rw [z] at r; exact r
theorem sr_end {B m q : Int} {us : List Value} (h1 : found = (rangeKs 0 ((as.length : Int) - 0).toNat).foldl (srS as B m q) []) (h : IntsAre us (norm found)) : IntsAre us (norm (srR B m q as)) := by
  have e : ((as.length : Int) - 0).toNat = as.length := by omega
  rw [e] at h1
  unfold srR; rw [← h1]; exact h
end
theorem shift_right_spec (w : World) {a : Addr} {as : List Int} {k n : Int} {u t : Tok} (hk : 3 ≤ k) (hk' : k ≤ 8) (ha : as.length < 900) (hn : 0 ≤ n) (hn' : n < k) (hall : ∀ j : Nat, 0 ≤ as.getD j 0 ∧ as.getD j 0 < 256) :
    Spec w 107 2 [.ref a, .int n t, .int k u] (fun h => Nums h a as) (fun h h' v => NewNums h h' v (norm (srR (2 ^ k.toNat) (2 ^ n.toNat) (2 ^ (k - n).toNat) as))) := by
  k_with_none
  intro dp un fr gd s mean mg mb Q E X T hd hu hpre ret
  obtain ⟨va, la, ia⟩ := hpre
  have hfd : n.fdiv k = 0 := by rw [Int.fdiv_eq_ediv_of_nonneg _ (by omega)]; exact Int.ediv_eq_zero_of_lt hn hn'
  have hfm : n.fmod k = n := by rw [Int.fmod_eq_emod_of_nonneg _ (by omega)]; exact Int.emod_eq_of_lt hn hn'
  refine' enter (binds := [(Str.ofString "a", .ref a), (Str.ofString "n", .int n t), (Str.ofString "w", .int k u)]) ?kX ?kT ?ho ?hcd ?hroom ?k9 ?kB ?kD ?_ ?c2 ?c3 ?c4 ?c5
  case kX => assumption
  case kT => assumption
  case ho => k_is
  case hcd => k_is
  case hroom => exact room_ok hd
  case k9 => exact BindsTo.of_eq rfl
  case kB => exact locs rfl
  case kD => (simp only [List.map_cons, List.map_nil]; decide)
  case c2 => rfl
  case c3 => rfl
  case c4 => rfl
  case c5 => decide
  intro L' h₁ tk₁ F' N'
  (try dsimp only [kstB_c, kstB_n] at F')
  (try dsimp only)
  (try k_fold)
  k_with "call ref" => k_dflt (k_here; first
    | ((rename Fr _ _ _ _ => lF'); (rename News _ _ _ _ => lN'); (refine' use_list (by first | exact ⟨_, by is_list, by l_ints⟩ | exact ⟨⟨_, by is_list, by l_ints⟩, ⟨_, by is_list, by l_ints⟩⟩ | trivial) (normal_spec w (by first | assumption | omega | (simp only [List.length_append, List.length_cons, List.length_nil, rangeKs_length, downKs_length] at *; omega))) (by with_unfolding_all rfl) (by with_reducible assumption) (by with_reducible assumption) lF' lN' (by first | exact dp_ok hd rfl | (with_unfolding_all show (dp + 1) + _ < 900; omega) | (with_unfolding_all show (dp + 2) + _ < 900; omega) | (with_unfolding_all show (dp + 3) + _ < 900; omega) | (with_unfolding_all show (dp + 4) + _ < 900; omega)) (by first | exact dp_ok hu rfl | (with_unfolding_all show (un + 3) + _ < 9000; omega) | (with_unfolding_all show (un + 6) + _ < 9000; omega) | (with_unfolding_all show (un + 9) + _ < 9000; omega) | (with_unfolding_all show (un + 12) + _ < 9000; omega)) ?_); (intro kcr kcus kcn kch kctk kcF kcN kcI kcNe); (try clear lF' lN'); (try dsimp only); (try k_fold)))
  k_with "leave" => k_dflt (refine kHQ _ _ ?_)
  k_with "pyIter ref" => k_dflt ((with_reducible show wpAny _ _ (pyIter (Value.ref _)) (fun it s₂ => LoopAtV _ _ _ _ _ _ _ _ _ it s₂) _ _); k_here; (rename Fr _ _ _ _ => lF'); (rename News _ _ _ _ => lN'); (rename IsRange _ _ _ _ _ _ _ _ => rgX); (with_unfolding_all refine' kst_range (σ := List Value × List Int × Nat) (fun c => [(_, listOf (c.1).toArray c.2.2)]) (fun c => []) (fun c => IntsAre c.1 c.2.1) [Str.ofString "above"] (fun pre c => (fun pre found => found.length = pre.length ∧ found = pre.foldl (srS as (2 ^ k.toNat) (2 ^ n.toNat) (2 ^ (k - n).toNat)) []) pre c.2.1) ([], [], 0) (by rfl) (by first | exact rgX | assumption) (by first | exact small_one (by omega) (by omega) (by omega) (by omega) | exact small_one (by l_bnd) (by l_bnd) (by l_bnd) (by l_bnd) | decide) (by first | exact rangeSize_nat _ _ | rfl) lF' (by exact kst_newsOf lN' (by kst_inAny)) (by exact .nil) (by kst_all) (by ((try dsimp only); exact ⟨rfl, rfl⟩)) ?_ ?_); (rotate_left; rintro ⟨kv0, kns0, kc0⟩ kU kH kTk kFacts ⟨kI0, kI1⟩ kFr kNews; rotate_left; rintro ⟨kv0, kns0, kc0⟩ kPre kN kT kU kH kTk kOwn kEq kLt kOff kFacts ⟨kI0, kI1⟩ kFr kNews; (try dsimp only at kInv); (try dsimp only at kI0); (try dsimp only at kI1); (try dsimp only at kI2); (try dsimp only at kI3); have kB := hall (kN + 1).toNat; refine abs_post ?_; intro kQ kHQ); (all_goals (try dsimp only at kFacts)); (all_goals (try dsimp only at kOff)); (all_goals (try simp only [List.map_cons, List.map_nil] at kOff)); (all_goals (try clear lF' lN')); (all_goals ((try dsimp only [kstB_c, kstB_n] at kFr); (try dsimp only at kNews); (try dsimp only at kInv); (try dsimp only at kI0); (try dsimp only at kI1); (try dsimp only at kI2); (try dsimp only at kI3); (try dsimp only at kI4); (try dsimp only at kF0); (try dsimp only at kF1); (try simp only [rangeKs_length, downKs_length] at kI0); (try have kLen0 := IntsAre.length kFacts); (try have kLen0 := IntsAre.length kF0); (try have kLen1 := IntsAre.length kF1); (try simp only [List.nil_append, List.cons_append, List.append_nil] at kNews); (try dsimp only); (try k_fold))))
  k_with "state" => k_dflt (first | exact @sr_s as kns0 kPre kN k n hfm kI0 kI1 | exact @sr_s' as kns0 kPre kN k n hfm (by assumption) kI0 kI1)
  k_steps
  k_with_none
  all_goals (try dsimp only)
  rename News _ _ _ _ => nE
  refine ret _ _ _ (Fr.keep (by assumption)) (NewNums.of nE (by k_memK) (sr_end kI1 (by assumption)))

end
section
def muS (bs : List Int) (B limb : Int) (at' : Nat) (st : List Int × Int) (j : Nat) : List Int × Int := let c := st.2 + (st.1.getD (at' + j) 0 + limb * bs.getD j 0); (st.1.set (at' + j) (c % B), c / B)
def muT (as bs : List Int) (B : Int) (found : List Int) (i : Nat) : List Int := let st := (List.range bs.length).foldl (muS bs B (as.getD i 0) i) (found, 0); st.1.set (i + bs.length) st.2
def muR (B : Int) (as bs : List Int) : List Int := (List.range as.length).foldl (muT as bs B) (List.replicate (as.length + bs.length) 0)
section
variable {as bs f f0 : List Int} {k x y c : Int} {i j N : Nat}
theorem mu_start (B : Int) : (List.replicate ((as.length : Int) + (bs.length : Int)).toNat [(0 : Int)]).flatten.length = as.length + bs.length ∧ (List.replicate ((as.length : Int) + (bs.length : Int)).toNat [(0 : Int)]).flatten = (List.range 0).foldl (muT as bs B) (List.replicate (as.length + bs.length) 0) := by
  have e : ((as.length : Int) + (bs.length : Int)).toNat = as.length + bs.length := by omega
  rw [e, rep_flat]
  exact ⟨by simp, rfl⟩
theorem mu_s {st : List Int × Int} (h0 : f.length = N) (h1 : (f, c) = (List.range j).foldl (muS bs (2 ^ k.toNat) x i) st) (hb : bs.getD j 0 = y) :
    (f.set ((i : Int) + (j : Int)).toNat (Builtin.bitAnd (c + (f.getD ((i : Int) + (j : Int)).toNat 0 + x * y)) (1 * 2 ^ k.toNat - 1))).length = N ∧
    (f.set ((i : Int) + (j : Int)).toNat (Builtin.bitAnd (c + (f.getD ((i : Int) + (j : Int)).toNat 0 + x * y)) (1 * 2 ^ k.toNat - 1)), (c + (f.getD ((i : Int) + (j : Int)).toNat 0 + x * y)).fdiv (2 ^ k.toNat)) = (List.range (j + 1)).foldl (muS bs (2 ^ k.toNat) x i) st := by
  refine ⟨by simp [h0], ?_⟩
  have e : ((i : Int) + (j : Int)).toNat = i + j := by omega
  rw [List.range_succ, List.foldl_append, ← h1, maskB, fdivB, e, ← hb]; rfl
theorem mu_t {B : Int} {R : List Int} (h2 : (f, c) = (List.range bs.length).foldl (muS bs B x i) (f0, 0)) (h0 : f.length = N) (h1 : f0 = (List.range i).foldl (muT as bs B) R) (hg : as.getD i 0 = x) :
    (f.set ((i : Int) + (bs.length : Int)).toNat c).length = N ∧ f.set ((i : Int) + (bs.length : Int)).toNat c = (List.range (i + 1)).foldl (muT as bs B) R := by
  refine ⟨by simp [h0], ?_⟩
  have e : ((i : Int) + (bs.length : Int)).toNat = i + bs.length := by omega
  rw [List.range_succ, List.foldl_append, ← h1, e]
  show _ = (((List.range bs.length).foldl (muS bs B (as.getD i 0) i) (f0, 0)).1).set (i + bs.length) ((List.range bs.length).foldl (muS bs B (as.getD i 0) i) (f0, 0)).2
  rw [hg, ← h2]
end
theorem mul_school_spec (w : World) {a b : Addr} {as bs : List Int} {k : Int} {u : Tok} (hk : 3 ≤ k) (hk' : k ≤ 8) (ha : as.length < 100) (hb : bs.length < 100) (hall : ∀ x ∈ as, 0 ≤ x ∧ x < 256) :
    Spec w 175 2 [.ref a, .ref b, .int k u] (fun h => Nums h a as ∧ Nums h b bs) (fun h h' v => NewNums h h' v (norm (muR (2 ^ k.toNat) as bs))) := by
  k_with_none
  intro dp un fr gd s mean mg mb Q E X T hd hu hpre ret
  obtain ⟨⟨va, la, ia⟩, ⟨vb, lb, ib⟩⟩ := hpre
  refine' enter (binds := [(Str.ofString "a", .ref a), (Str.ofString "b", .ref b), (Str.ofString "w", .int k u)]) ?kX ?kT ?ho ?hcd ?hroom ?k9 ?kB ?kD ?_ ?c2 ?c3 ?c4 ?c5
  case kX => assumption
  case kT => assumption
  case ho => k_is
  case hcd => k_is
  case hroom => exact room_ok hd
  case k9 => exact BindsTo.of_eq rfl
  case kB => exact locs rfl
  case kD => (simp only [List.map_cons, List.map_nil]; decide)
  case c2 => rfl
  case c3 => rfl
  case c4 => rfl
  case c5 => decide
  intro L' h₁ tk₁ F' N'
  (try dsimp only [kstB_c, kstB_n] at F')
  (try dsimp only)
  (try k_fold)
  k_with "call ref" => k_dflt (k_here; first
    | ((rename Fr _ _ _ _ => lF'); (rename News _ _ _ _ => lN'); (refine' use_list (by first | exact ⟨_, by is_list, by l_ints⟩ | exact ⟨⟨_, by is_list, by l_ints⟩, ⟨_, by is_list, by l_ints⟩⟩ | trivial) (normal_spec w (by first | assumption | omega | (simp only [List.length_append, List.length_cons, List.length_nil, rangeKs_length, downKs_length] at *; omega))) (by with_unfolding_all rfl) (by with_reducible assumption) (by with_reducible assumption) lF' lN' (by first | exact dp_ok hd rfl | (with_unfolding_all show (dp + 1) + _ < 900; omega) | (with_unfolding_all show (dp + 2) + _ < 900; omega) | (with_unfolding_all show (dp + 3) + _ < 900; omega) | (with_unfolding_all show (dp + 4) + _ < 900; omega)) (by first | exact dp_ok hu rfl | (with_unfolding_all show (un + 3) + _ < 9000; omega) | (with_unfolding_all show (un + 6) + _ < 9000; omega) | (with_unfolding_all show (un + 9) + _ < 9000; omega) | (with_unfolding_all show (un + 12) + _ < 9000; omega)) ?_); (intro kcr kcus kcn kch kctk kcF kcN kcI kcNe); (try clear lF' lN'); (try dsimp only); (try k_fold)))
  k_with "leave" => k_dflt (refine kHQ _ _ ?_)
  k_with "pyIter ref" => k_dflt ((with_reducible show wpAny _ _ (pyIter _) (fun it s₂ => PairAt3 _ _ _ _ _ _ _ _ _ _ it s₂) _ _); k_here; (rename PairSrcL _ _ _ _ _ _ _ _ _ _ _ _ => eS); (with_unfolding_all refine' en_loop (pre := [_]) (σ := List Value × List Int × Nat) (fun c => listOf (c.1).toArray c.2.2) (fun c => []) (fun c => IntsAre c.1 c.2.1) [Str.ofString "carry", Str.ofString "spot", Str.ofString "other"] (fun i c => (fun i found => found.length = as.length + bs.length ∧ found = (List.range i).foldl (muT as bs (2 ^ k.toNat)) (List.replicate (as.length + bs.length) 0)) i c.2.1) (_, _, _) eS rfl (by (intro p hp b hb; rw [List.mem_singleton.mp hb]; revert p; (try simp only [List.nil_append, List.cons_append, List.append_nil]); k_all)) (by rfl) (by assumption) (by kst_all) (by ((try dsimp only); exact mu_start _)) ?_ ?_); (try clear eS); (rotate_left; (rintro ⟨kv0, kns0, kc0⟩ kU kH kTk kFacts ⟨kI0, kI1⟩ kFr kNews); rotate_left; (rintro ⟨kv0, kns0, kc0⟩ ki kn kT kT' kU kH kTk kOwn kLt kMem kGet kOff kFacts ⟨kI0, kI1⟩ kFr kNews; have kB := hall _ kMem; refine abs_post ?_; intro kQ kHQ)); (all_goals (try dsimp only at kFacts)); (all_goals (try clear lF' lN')); (all_goals ((try dsimp only [kstB_c, kstB_n] at kFr); (try dsimp only at kNews); (try dsimp only at kInv); (try dsimp only at kI0); (try dsimp only at kI1); (try dsimp only at kI2); (try dsimp only at kI3); (try dsimp only at kI4); (try dsimp only at kF0); (try dsimp only at kF1); (try simp only [rangeKs_length, downKs_length] at kI0); (try have kLen0 := IntsAre.length kFacts); (try have kLen0 := IntsAre.length kF0); (try have kLen1 := IntsAre.length kF1); (try simp only [List.nil_append, List.cons_append, List.append_nil] at kNews); (try dsimp only); (try k_fold))))
  k_with "EnEnd" => k_dflt ((rename News _ _ _ _ => nE'); (try simp only [List.push_toArray] at nE'); (refine en_end (σ := List Value × List Int × Nat) ⟨_, _, _⟩ (by assumption) nE' (by with_unfolding_all k_memK) (by (intro p hp; kst_mem)) (by kst_facts) (by kst_all) (by (intro z h1 h2 h3 h4; first | rfl | (simp only [List.forall_mem_cons, List.not_mem_nil, false_implies, implies_true, and_true, ne_eq] at h3; simp only [List.contains_cons, List.contains_nil, Bool.or_false, Bool.or_eq_false_iff, beq_eq_false_iff_ne, ne_eq] at h4; simp [h1, h2, h3, h4]))) (by ((try dsimp only); k_extra "state"))))
  k_with "leave" => k_dflt (refine kHQ _ _ ?_)
  k_with "pyIter ref" => k_dflt ((revert kI0; intro kI0); (with_reducible show wpAny _ _ (pyIter _) (fun it s₂ => PairAt3 _ _ _ _ _ _ _ _ _ _ it s₂) _ _); k_here; (rename PairSrcL _ _ _ _ _ _ _ _ _ _ _ _ => eS); (with_unfolding_all refine' en_loop (pre := []) (σ := Int × Tok × List Value × List Int × Nat) (fun c => listOf (c.2.2.1).toArray c.2.2.2.2) (fun c => [(Str.ofString "carry", .int c.1 c.2.1)]) (fun c => IntsAre c.2.2.1 c.2.2.2.1) [] (fun i c => (fun j c f => f.length = as.length + bs.length ∧ (f, c) = (List.range j).foldl (muS bs (2 ^ k.toNat) kn ki) (kns0, 0)) i c.1 c.2.2.2.1) (0, _, _, _, _) eS rfl (by (intro p hp b hb; rw [List.mem_singleton.mp hb]; revert p; (try simp only [List.nil_append, List.cons_append, List.append_nil]); k_all)) (by rfl) (by assumption) (by kst_all) (by ((try dsimp only); exact ⟨by assumption, rfl⟩)) ?_ ?_); (try clear eS); (rotate_left; (rintro ⟨kx0, kt0, kv0, kns0, kc0⟩ kU kH kTk kFacts ⟨kI0, kI1⟩ kFr kNews); rotate_left; (rintro ⟨kx0, kt0, kv0, kns0, kc0⟩ kj ky kT kT' kU kH kTk kOwn kLt kMem kGet kOff kFacts ⟨kI0, kI1⟩ kFr kNews; refine abs_post ?_; intro kQ kHQ)); (all_goals (try dsimp only at kFacts)); (all_goals (try clear lF' lN')); (all_goals ((try dsimp only [kstB_c, kstB_n] at kFr); (try dsimp only at kNews); (try dsimp only at kInv); (try dsimp only at kI0); (try dsimp only at kI1); (try dsimp only at kI2); (try dsimp only at kI3); (try dsimp only at kI4); (try dsimp only at kF0); (try dsimp only at kF1); (try simp only [rangeKs_length, downKs_length] at kI0); (try have kLen0 := IntsAre.length kFacts); (try have kLen0 := IntsAre.length kF0); (try have kLen1 := IntsAre.length kF1); (try simp only [List.nil_append, List.cons_append, List.append_nil] at kNews); (try dsimp only); (try k_fold))))
  k_with "EnEnd" => k_dflt ((rename News _ _ _ _ => nE'); (try simp only [List.push_toArray] at nE'); (refine en_end (σ := Int × Tok × List Value × List Int × Nat) ⟨_, _, _, _, _⟩ (by assumption) nE' (by with_unfolding_all k_memK) (by (intro p hp; kst_mem)) (by kst_facts) (by kst_all) (by (intro z h1 h2 h3 h4; first | rfl | (simp only [List.forall_mem_cons, List.not_mem_nil, false_implies, implies_true, and_true, ne_eq] at h3; simp only [List.contains_cons, List.contains_nil, Bool.or_false, Bool.or_eq_false_iff, beq_eq_false_iff_ne, ne_eq] at h4; simp [h1, h2, h3, h4]))) (by ((try dsimp only); k_extra "state"))))
  k_with "state" => k_dflt (first | exact mu_t (by assumption) (by assumption) (by assumption) (by assumption) | exact mu_s (by assumption) (by assumption) (by assumption))
  k_steps
  k_with_none
  all_goals (try dsimp only)
  refine ret _ _ _ (Fr.keep (by assumption)) (NewNums.of kcN (by k_memK) ?_)
  unfold muR; rw [← kI1]; exact kcI

end
section
def taS (bs : List Int) (B limb : Int) (p : Nat) (st : List Int × Int) (j : Nat) : List Int × Int := let here := st.1.getD (p + j) 0 - (limb * bs.getD j 0 + st.2) % B; (st.1.set (p + j) (if here < 0 then here + B else here), (limb * bs.getD j 0 + st.2) / B + if here < 0 then 1 else 0)
def taR (B : Int) (bs : List Int) (limb : Int) (p : Nat) (rs : List Int) : List Int × Int := (List.range bs.length).foldl (taS bs B limb p) (rs, 0)
def taH (B : Int) (bs : List Int) (limb : Int) (p : Nat) (rs : List Int) : Int := (taR B bs limb p rs).1.getD (p + bs.length) 0 - (taR B bs limb p rs).2
@[irreducible] def taL (B : Int) (bs : List Int) (limb : Int) (p : Nat) (rs : List Int) : List Int := (taR B bs limb p rs).1.set (p + bs.length) (if taH B bs limb p rs < 0 then taH B bs limb p rs + B else taH B bs limb p rs)
@[irreducible] def taV (B : Int) (bs : List Int) (limb : Int) (p : Nat) (rs : List Int) : Int := if taH B bs limb p rs < 0 then 1 else 0
section
variable {rs bs f : List Int} {B limb y c : Int} {p j N : Nat} {st : List Int × Int}
theorem ta_s1 (hB : 0 < B) (h0 : f.length = N) (h1 : (f, c) = (List.range j).foldl (taS bs B limb p) st) (hb : bs.getD j 0 = y)
    (h : f.getD ((p : Int) + (j : Int)).toNat 0 - (limb * y + c).fmod (1 * B) < 0) :
    (f.set ((p : Int) + (j : Int)).toNat (f.getD ((p : Int) + (j : Int)).toNat 0 - (limb * y + c).fmod (1 * B) + 1 * B)).length = N ∧
    (f.set ((p : Int) + (j : Int)).toNat (f.getD ((p : Int) + (j : Int)).toNat 0 - (limb * y + c).fmod (1 * B) + 1 * B), (limb * y + c).fdiv (1 * B) + 1) = (List.range (j + 1)).foldl (taS bs B limb p) st := by
  refine ⟨by simp [h0], ?_⟩
  have e : ((p : Int) + (j : Int)).toNat = p + j := by omega
  rw [Int.one_mul, Int.fmod_eq_emod_of_nonneg _ (Int.le_of_lt hB), e] at h
  rw [List.range_succ, List.foldl_append, ← h1, Int.one_mul, Int.fmod_eq_emod_of_nonneg _ (Int.le_of_lt hB), Int.fdiv_eq_ediv_of_nonneg _ (Int.le_of_lt hB), e]
  show _ = (f.set (p + j) (if f.getD (p + j) 0 - (limb * bs.getD j 0 + c) % B < 0 then _ else _), _ + if f.getD (p + j) 0 - (limb * bs.getD j 0 + c) % B < 0 then 1 else 0)
  rw [hb, if_pos h, if_pos h]
theorem ta_s2 (hB : 0 < B) (h0 : f.length = N) (h1 : (f, c) = (List.range j).foldl (taS bs B limb p) st) (hb : bs.getD j 0 = y)
    (h : ¬ f.getD ((p : Int) + (j : Int)).toNat 0 - (limb * y + c).fmod (1 * B) < 0) :
    (f.set ((p : Int) + (j : Int)).toNat (f.getD ((p : Int) + (j : Int)).toNat 0 - (limb * y + c).fmod (1 * B))).length = N ∧
    (f.set ((p : Int) + (j : Int)).toNat (f.getD ((p : Int) + (j : Int)).toNat 0 - (limb * y + c).fmod (1 * B)), (limb * y + c).fdiv (1 * B) + 0) = (List.range (j + 1)).foldl (taS bs B limb p) st := by
  refine ⟨by simp [h0], ?_⟩
  have e : ((p : Int) + (j : Int)).toNat = p + j := by omega
  rw [Int.one_mul, Int.fmod_eq_emod_of_nonneg _ (Int.le_of_lt hB), e] at h
  rw [List.range_succ, List.foldl_append, ← h1, Int.one_mul, Int.fmod_eq_emod_of_nonneg _ (Int.le_of_lt hB), Int.fdiv_eq_ediv_of_nonneg _ (Int.le_of_lt hB), e]
  show _ = (f.set (p + j) (if f.getD (p + j) 0 - (limb * bs.getD j 0 + c) % B < 0 then _ else _), _ + if f.getD (p + j) 0 - (limb * bs.getD j 0 + c) % B < 0 then 1 else 0)
  rw [hb, if_neg h, if_neg h]
theorem ta_e1 {us : List Value} (h1 : (f, c) = (List.range bs.length).foldl (taS bs B limb p) (rs, 0)) (h : f.getD ((p : Int) + (bs.length : Int)).toNat 0 - c < 0)
    (hi : IntsAre us (f.set ((p : Int) + (bs.length : Int)).toNat (f.getD ((p : Int) + (bs.length : Int)).toNat 0 - c + 1 * B))) : IntsAre us (taL B bs limb p rs) ∧ (1 : Int) = taV B bs limb p rs := by
  have e : ((p : Int) + (bs.length : Int)).toNat = p + bs.length := by omega
  rw [e, Int.one_mul] at hi
  rw [e] at h
  unfold taL taV taH taR
  rw [← h1, if_pos h, if_pos h]
  exact ⟨hi, rfl⟩
theorem ta_e2 {us : List Value} (h1 : (f, c) = (List.range bs.length).foldl (taS bs B limb p) (rs, 0)) (h : ¬ f.getD ((p : Int) + (bs.length : Int)).toNat 0 - c < 0)
    (hi : IntsAre us (f.set ((p : Int) + (bs.length : Int)).toNat (f.getD ((p : Int) + (bs.length : Int)).toNat 0 - c))) : IntsAre us (taL B bs limb p rs) ∧ (0 : Int) = taV B bs limb p rs := by
  have e : ((p : Int) + (bs.length : Int)).toNat = p + bs.length := by omega
  rw [e] at hi h
  unfold taL taV taH taR
  rw [← h1, if_neg h, if_neg h]
  exact ⟨hi, rfl⟩
end
theorem take_away_spec (w : World) {r b : Addr} {rs bs : List Int} {p : Nat} {limb k : Int} {u u1 u2 : Tok} (hk : 3 ≤ k) (hk' : k ≤ 8) (hb : bs.length < 100) (hrs : rs.length < 900) (hp : p + bs.length < rs.length) (hall : ∀ x ∈ bs, 0 ≤ x ∧ x < 256) :
    SpecM w 196 2 r [.ref r, .ref b, .int limb u1, .int (p : Int) u2, .int k u] rs (fun h => Nums h b bs) (taL (2 ^ k.toNat) bs limb p rs) (fun _ _ v => ∃ t, v = .int (taV (2 ^ k.toNat) bs limb p rs) t) := by
  k_with_none
  intro dp un fr gd s mean mg mb Q E h₀ us n X0 T0 K0 hr0 hr hi hd hu hpre ret
  obtain ⟨vb, lb, ib⟩ := hpre
  have hB := bge hk
  have hB' := ble hk'
  have X := X0.keeps (hid_stays K0 hr0)
  have T := T0.keeps (hid_stays K0 hr0)
  refine' enterM (binds := [(Str.ofString "rest", .ref r), (Str.ofString "b", .ref b), (Str.ofString "limb", .int limb u1), (Str.ofString "at", .int (p : Int) u2), (Str.ofString "w", .int k u)]) X T hr ?ho ?hcd ?hroom ?k9 ?kB ?kD ?_ ?c2 ?c3 ?c4 ?c5
  case ho => k_is
  case hcd => k_is
  case hroom => exact room_ok hd
  case k9 => exact BindsTo.of_eq rfl
  case kB => exact locs rfl
  case kD => (simp only [List.map_cons, List.map_nil]; decide)
  case c2 => rfl
  case c3 => rfl
  case c4 => rfl
  case c5 => decide
  intro L' h₁ tk₁ F' N'
  (try dsimp only [kstB_c, kstB_n] at F')
  (try dsimp only)
  (try k_fold)
  k_with "leave" => k_dflt (refine kHQ _ _ ?_)
  k_with "pyIter ref" => k_dflt ((with_reducible show wpAny _ _ (pyIter _) (fun it s₂ => PairAt3 _ _ _ _ _ _ _ _ _ _ it s₂) _ _); k_here; (rename PairSrcL _ _ _ _ _ _ _ _ _ _ _ _ => eS); (with_unfolding_all refine' en_loop (pre := [_]) (σ := Int × Tok × List Value × List Int × Nat) (fun c => listOf (c.2.2.1).toArray c.2.2.2.2) (fun c => [(Str.ofString "carry", .int c.1 c.2.1)]) (fun c => IntsAre c.2.2.1 c.2.2.2.1) [Str.ofString "here"] (fun i c => (fun j c f => f.length = rs.length ∧ (f, c) = (List.range j).foldl (taS bs (2 ^ k.toNat) limb p) (rs, 0)) i c.1 c.2.2.2.1) (0, _, _, _, _) eS rfl (by (intro p hp b hb; rw [List.mem_singleton.mp hb]; revert p; (try simp only [List.nil_append, List.cons_append, List.append_nil]); k_all)) (by rfl) (by assumption) (by kst_all) (by ((try dsimp only); exact ⟨rfl, rfl⟩)) ?_ ?_); (try clear eS); (rotate_left; (rintro ⟨kx0, kt0, kv0, kns0, kc0⟩ kU kH kTk kFacts ⟨kI0, kI1⟩ kFr kNews); rotate_left; (rintro ⟨kx0, kt0, kv0, kns0, kc0⟩ kj ky kT kT' kU kH kTk kOwn kLt kMem kGet kOff kFacts ⟨kI0, kI1⟩ kFr kNews; have kB := hall _ kMem; refine abs_post ?_; intro kQ kHQ)); (all_goals (try dsimp only at kFacts)); (all_goals (try clear lF' lN')); (all_goals ((try dsimp only [kstB_c, kstB_n] at kFr); (try dsimp only at kNews); (try dsimp only at kInv); (try dsimp only at kI0); (try dsimp only at kI1); (try dsimp only at kI2); (try dsimp only at kI3); (try dsimp only at kI4); (try dsimp only at kF0); (try dsimp only at kF1); (try simp only [rangeKs_length, downKs_length] at kI0); (try have kLen0 := IntsAre.length kFacts); (try have kLen0 := IntsAre.length kF0); (try have kLen1 := IntsAre.length kF1); (try simp only [List.nil_append, List.cons_append, List.append_nil] at kNews); (try dsimp only); (try k_fold))))
  k_with "EnEnd" => k_dflt ((rename News _ _ _ _ => nE'); (try simp only [List.push_toArray] at nE'); (refine en_end (σ := Int × Tok × List Value × List Int × Nat) ⟨_, _, _, _, _⟩ (by assumption) nE' (by with_unfolding_all k_memK) (by (intro p hp; kst_mem)) (by kst_facts) (by kst_all) (by (intro z h1 h2 h3 h4; first | rfl | (simp only [List.forall_mem_cons, List.not_mem_nil, false_implies, implies_true, and_true, ne_eq] at h3; simp only [List.contains_cons, List.contains_nil, Bool.or_false, Bool.or_eq_false_iff, beq_eq_false_iff_ne, ne_eq] at h4; simp [h1, h2, h3, h4]))) (by ((try dsimp only); k_extra "state"))))
  k_with "state" => k_dflt (first | (have h9 := @ta_s1 bs kns0 (2 ^ k.toNat) limb ky kx0 p kj rs.length (rs, 0) (by omega) kI0 kI1 kGet (by assumption); exact h9) | (have h9 := @ta_s2 bs kns0 (2 ^ k.toNat) limb ky kx0 p kj rs.length (rs, 0) (by omega) kI0 kI1 kGet (by assumption); exact h9))
  k_steps
  k_with_none
  all_goals (try dsimp only)
  all_goals (rename News _ _ _ _ => nE)
  · obtain ⟨e1, e2⟩ := ta_e1 kI1 (by assumption) (by assumption)
    exact ret _ _ _ _ _ (ret_mut (by assumption)) (nE _ (by k_memK)).1 e1 ⟨_, congrArg (fun i => Value.int i _) e2⟩
  · obtain ⟨e1, e2⟩ := ta_e2 kI1 (by assumption) (by assumption)
    exact ret _ _ _ _ _ (ret_mut (by assumption)) (nE _ (by k_memK)).1 e1 ⟨_, congrArg (fun i => Value.int i _) e2⟩

end
section
def pbS (bs : List Int) (B : Int) (p : Nat) (st : List Int × Int) (j : Nat) : List Int × Int := let c := st.2 + (st.1.getD (p + j) 0 + bs.getD j 0); (st.1.set (p + j) (c % B), c / B)
def pbR (B : Int) (bs : List Int) (p : Nat) (rs : List Int) : List Int × Int := (List.range bs.length).foldl (pbS bs B p) (rs, 0)
@[irreducible] def pbL (B : Int) (bs : List Int) (p : Nat) (rs : List Int) : List Int := (pbR B bs p rs).1.set (p + bs.length) (((pbR B bs p rs).1.getD (p + bs.length) 0 + (pbR B bs p rs).2) % B)
section
variable {rs bs f : List Int} {k y c : Int} {p j N : Nat} {st : List Int × Int}
theorem pb_s (h0 : f.length = N) (h1 : (f, c) = (List.range j).foldl (pbS bs (2 ^ k.toNat) p) st) (hb : bs.getD j 0 = y) :
    (f.set ((p : Int) + (j : Int)).toNat (Builtin.bitAnd (c + (f.getD ((p : Int) + (j : Int)).toNat 0 + y)) (1 * 2 ^ k.toNat - 1))).length = N ∧
    (f.set ((p : Int) + (j : Int)).toNat (Builtin.bitAnd (c + (f.getD ((p : Int) + (j : Int)).toNat 0 + y)) (1 * 2 ^ k.toNat - 1)), (c + (f.getD ((p : Int) + (j : Int)).toNat 0 + y)).fdiv (2 ^ k.toNat)) = (List.range (j + 1)).foldl (pbS bs (2 ^ k.toNat) p) st := by
  refine ⟨by simp [h0], ?_⟩
  have e : ((p : Int) + (j : Int)).toNat = p + j := by omega
  rw [List.range_succ, List.foldl_append, ← h1, maskB, fdivB, e, ← hb]; rfl
theorem pb_end {us : List Value} (h1 : (f, c) = (List.range bs.length).foldl (pbS bs (2 ^ k.toNat) p) (rs, 0))
    (h : IntsAre us (f.set ((p : Int) + (bs.length : Int)).toNat (Builtin.bitAnd (f.getD ((p : Int) + (bs.length : Int)).toNat 0 + c) (1 * 2 ^ k.toNat - 1)))) : IntsAre us (pbL (2 ^ k.toNat) bs p rs) := by
  have e : ((p : Int) + (bs.length : Int)).toNat = p + bs.length := by omega
  rw [e, maskB] at h
  unfold pbL pbR; rw [← h1]; exact h
end
theorem put_back_spec (w : World) {r b : Addr} {rs bs : List Int} {p : Nat} {k : Int} {u u2 : Tok} (hk : 3 ≤ k) (hk' : k ≤ 8) (hb : bs.length < 100) (hrs : rs.length < 900) (hp : p + bs.length < rs.length) :
    SpecM w 203 2 r [.ref r, .ref b, .int (p : Int) u2, .int k u] rs (fun h => Nums h b bs) (pbL (2 ^ k.toNat) bs p rs) (fun _ _ v => v = .none) := by
  k_with_none
  intro dp un fr gd s mean mg mb Q E h₀ us n X0 T0 K0 hr0 hr hi hd hu hpre ret
  obtain ⟨vb, lb, ib⟩ := hpre
  have X := X0.keeps (hid_stays K0 hr0)
  have T := T0.keeps (hid_stays K0 hr0)
  refine' enterM (binds := [(Str.ofString "rest", .ref r), (Str.ofString "b", .ref b), (Str.ofString "at", .int (p : Int) u2), (Str.ofString "w", .int k u)]) X T hr ?ho ?hcd ?hroom ?k9 ?kB ?kD ?_ ?c2 ?c3 ?c4 ?c5
  case ho => k_is
  case hcd => k_is
  case hroom => exact room_ok hd
  case k9 => exact BindsTo.of_eq rfl
  case kB => exact locs rfl
  case kD => (simp only [List.map_cons, List.map_nil]; decide)
  case c2 => rfl
  case c3 => rfl
  case c4 => rfl
  case c5 => decide
  intro L' h₁ tk₁ F' N'
  (try dsimp only [kstB_c, kstB_n] at F')
  (try dsimp only)
  (try k_fold)
  k_with "leave" => k_dflt (refine kHQ _ _ ?_)
  k_with "pyIter ref" => k_dflt ((with_reducible show wpAny _ _ (pyIter _) (fun it s₂ => PairAt3 _ _ _ _ _ _ _ _ _ _ it s₂) _ _); k_here; (rename PairSrcL _ _ _ _ _ _ _ _ _ _ _ _ => eS); (with_unfolding_all refine' en_loop (pre := [_]) (σ := Int × Tok × List Value × List Int × Nat) (fun c => listOf (c.2.2.1).toArray c.2.2.2.2) (fun c => [(Str.ofString "carry", .int c.1 c.2.1)]) (fun c => IntsAre c.2.2.1 c.2.2.2.1) [] (fun i c => (fun j c f => f.length = rs.length ∧ (f, c) = (List.range j).foldl (pbS bs (2 ^ k.toNat) p) (rs, 0)) i c.1 c.2.2.2.1) (0, _, _, _, _) eS rfl (by (intro p hp b hb; rw [List.mem_singleton.mp hb]; revert p; (try simp only [List.nil_append, List.cons_append, List.append_nil]); k_all)) (by rfl) (by assumption) (by kst_all) (by ((try dsimp only); exact ⟨rfl, rfl⟩)) ?_ ?_); (try clear eS); (rotate_left; (rintro ⟨kx0, kt0, kv0, kns0, kc0⟩ kU kH kTk kFacts ⟨kI0, kI1⟩ kFr kNews); rotate_left; (rintro ⟨kx0, kt0, kv0, kns0, kc0⟩ kj ky kT kT' kU kH kTk kOwn kLt kMem kGet kOff kFacts ⟨kI0, kI1⟩ kFr kNews; refine abs_post ?_; intro kQ kHQ)); (all_goals (try dsimp only at kFacts)); (all_goals (try clear lF' lN')); (all_goals ((try dsimp only [kstB_c, kstB_n] at kFr); (try dsimp only at kNews); (try dsimp only at kInv); (try dsimp only at kI0); (try dsimp only at kI1); (try dsimp only at kI2); (try dsimp only at kI3); (try dsimp only at kI4); (try dsimp only at kF0); (try dsimp only at kF1); (try simp only [rangeKs_length, downKs_length] at kI0); (try have kLen0 := IntsAre.length kFacts); (try have kLen0 := IntsAre.length kF0); (try have kLen1 := IntsAre.length kF1); (try simp only [List.nil_append, List.cons_append, List.append_nil] at kNews); (try dsimp only); (try k_fold))))
  k_with "EnEnd" => k_dflt ((rename News _ _ _ _ => nE'); (try simp only [List.push_toArray] at nE'); (refine en_end (σ := Int × Tok × List Value × List Int × Nat) ⟨_, _, _, _, _⟩ (by assumption) nE' (by with_unfolding_all k_memK) (by (intro p hp; kst_mem)) (by kst_facts) (by kst_all) (by (intro z h1 h2 h3 h4; first | rfl | (simp only [List.forall_mem_cons, List.not_mem_nil, false_implies, implies_true, and_true, ne_eq] at h3; simp only [List.contains_cons, List.contains_nil, Bool.or_false, Bool.or_eq_false_iff, beq_eq_false_iff_ne, ne_eq] at h4; simp [h1, h2, h3, h4]))) (by ((try dsimp only); k_extra "state"))))
  k_with "state" => k_dflt (exact pb_s kI0 kI1 kGet)
  k_steps
  k_with_none
  all_goals (try dsimp only)
  rename News _ _ _ _ => nE
  refine ret _ _ _ _ _ (ret_mut (by assumption)) (nE _ (by k_memK)).1 (pb_end kI1 (by assumption)) rfl

end
section
def drT (B : Int) (bs rest : List Int) (i : Int) : List Int :=
  let p := i.toNat
  let limb := glL B (rest.getD (p + bs.length - 2) 0) (rest.getD (p + bs.length - 1) 0) (rest.getD (p + bs.length) 0) (bs.getD (bs.length - 1) 0) (bs.getD (bs.length - 2) 0)
  if taV B bs limb p rest = 1 then pbL B bs p (taL B bs limb p rest) else taL B bs limb p rest
def inB (x : Int) : Bool := decide (0 ≤ x) && decide (x < 256)
def drK (bs rest : List Int) (i : Int) : Bool := inB (rest.getD (i.toNat + bs.length - 2) 0) && inB (rest.getD (i.toNat + bs.length - 1) 0) && inB (rest.getD (i.toNat + bs.length) 0)
def drS (B : Int) (bs : List Int) (st : List Int × Bool) (i : Int) : List Int × Bool := (drT B bs st.1 i, st.2 && drK bs st.1 i)
def drR (B : Int) (bs rs : List Int) : List Int × Bool := (downKs ((rs.length : Int) - bs.length - 1) (rs.length - bs.length)).foldl (drS B bs) (rs, true)
section
variable {B : Int} {bs rs rest pre : List Int} {i A : Int} {n : Nat}
theorem dr_mono : ∀ (l : List Int) (st : List Int × Bool), (l.foldl (drS B bs) st).2 = true → st.2 = true
  | [], _, h => h
  | x :: l, st, h => by
    have := dr_mono l _ h
    simp only [drS, Bool.and_eq_true] at this
    exact this.1
theorem dk_step (h : pre = (downKs A n).take pre.length) (hk : i = A - pre.length) (hl : pre.length < n) : pre ++ [i] = (downKs A n).take (pre ++ [i]).length := by
  have hg : (downKs A n)[pre.length]? = some i := by simp [downKs, hl, hk]
  rw [List.length_append, List.length_cons, List.length_nil, List.take_add_one, hg, ← h]; rfl
theorem dr_ok {st : List Int × Bool} (h : pre = (downKs A n).take pre.length) (hk : i = A - pre.length) (hl : pre.length < n) (hok : ((downKs A n).foldl (drS B bs) st).2 = true) :
    drK bs (pre.foldl (drS B bs) st).1 i = true := by
  have e := dk_step h hk hl
  rw [← List.take_append_drop (pre ++ [i]).length (downKs A n), List.foldl_append, ← e] at hok
  have := dr_mono _ _ hok
  rw [List.foldl_append] at this
  simp only [List.foldl_cons, List.foldl_nil, drS, Bool.and_eq_true] at this
  exact this.2
theorem dr_bounds (h : drK bs rest i = true) : (0 ≤ rest.getD (i.toNat + bs.length - 2) 0 ∧ rest.getD (i.toNat + bs.length - 2) 0 < 256) ∧ (0 ≤ rest.getD (i.toNat + bs.length - 1) 0 ∧ rest.getD (i.toNat + bs.length - 1) 0 < 256) ∧ (0 ≤ rest.getD (i.toNat + bs.length) 0 ∧ rest.getD (i.toNat + bs.length) 0 < 256) := by
  simp only [drK, inB, Bool.and_eq_true, decide_eq_true_eq] at h
  exact ⟨h.1.1, h.1.2, h.2⟩
theorem foldl_len {α β : Type} (g : List Int × β → α → List Int × β) (h : ∀ st x, (g st x).1.length = st.1.length) : ∀ (l : List α) (st : List Int × β), (l.foldl g st).1.length = st.1.length
  | [], _ => rfl
  | x :: l, st => (foldl_len g h l _).trans (h st x)
theorem ta_len {limb : Int} {p : Nat} : (taL B bs limb p rest).length = rest.length := by
  unfold taL taR
  rw [List.length_set, foldl_len _ (fun st x => by simp [taS])]
theorem pb_len {p : Nat} : (pbL B bs p rest).length = rest.length := by
  unfold pbL pbR
  rw [List.length_set, foldl_len _ (fun st x => by simp [pbS])]
theorem dt_len : (drT B bs rest i).length = rest.length := by
  unfold drT
  simp only
  split <;> simp [ta_len, pb_len]
theorem dr_len : (drR B bs rs).1.length = rs.length := by
  unfold drR
  rw [foldl_len _ (fun st x => by show (drT B bs st.1 x).length = _; exact dt_len)]
theorem dr_lim {p : Nat} (x : Int) (h2 : 2 ≤ bs.length) : glL B (rest.getD ((p : Int).toNat + bs.length - 2) 0) (rest.getD ((p : Int).toNat + bs.length - 1) 0) (rest.getD ((p : Int).toNat + bs.length) 0) (bs.getD ((bs.length : Int) - 1).toNat 0) (bs.getD ((bs.length : Int) - 2).toNat 0) =
    glL B (rest.getD (p + bs.length - 2) 0) (rest.getD (p + bs.length - 1) 0) (rest.getD (p + bs.length) 0) (bs.getD (bs.length - 1) 0) (bs.getD (bs.length - 2) 0) := by
  have e1 : ((bs.length : Int) - 1).toNat = bs.length - 1 := by omega
  have e2 : ((bs.length : Int) - 2).toNat = bs.length - 2 := by omega
  rw [e1, e2, Int.toNat_natCast]
theorem dr_top {us : List Value} {ns : List Int} {p sz : Nat} (h : IntsAre us ((ns.drop ((p : Int) + sz - 2).toNat).take (min ((p : Int) + sz + 1).toNat ns.length - ((p : Int) + sz - 2).toNat))) (h2 : 2 ≤ sz) (hl : p + sz < ns.length) :
    IntsAre us [ns.getD ((p : Int).toNat + sz - 2) 0, ns.getD ((p : Int).toNat + sz - 1) 0, ns.getD ((p : Int).toNat + sz) 0] := by
  have e1 : ((p : Int) + sz - 2).toNat = p + sz - 2 := by omega
  have e2 : min ((p : Int) + sz + 1).toNat ns.length - ((p : Int) + sz - 2).toNat = 3 := by omega
  rw [e2, e1] at h
  have e3 : (ns.drop (p + sz - 2)).take 3 = [ns.getD ((p : Int).toNat + sz - 2) 0, ns.getD ((p : Int).toNat + sz - 1) 0, ns.getD ((p : Int).toNat + sz) 0] := by
    rw [Int.toNat_natCast]
    apply List.ext_getElem
    · simp; omega
    · intro j h1 h3
      simp only [List.length_cons, List.length_nil] at h3
      have hj : j = 0 ∨ j = 1 ∨ j = 2 := by omega
      rcases hj with rfl | rfl | rfl
      · simp [List.getD, show p + sz - 2 < ns.length by omega]
      · simp [List.getD, show p + sz - 1 < ns.length by omega, show p + sz - 2 + 1 = p + sz - 1 by omega]
      · simp [List.getD, show p + sz < ns.length by omega, show p + sz - 2 + 2 = p + sz by omega]
  rw [e3] at h
  exact h
theorem dr_s {quo : List Int} {p N : Nat} {limb : Int} (rest' : List Int) (y : Int) (h2 : 2 ≤ bs.length) (h0 : rest.length = rs.length) (h1 : quo.length = N) (hpre : pre ++ [(p : Int)] = (downKs A n).take (pre ++ [(p : Int)]).length) (h3 : rest = (pre.foldl (drS B bs) (rs, true)).1)
    (hl : limb = glL B (rest.getD ((p : Int).toNat + bs.length - 2) 0) (rest.getD ((p : Int).toNat + bs.length - 1) 0) (rest.getD ((p : Int).toNat + bs.length) 0) (bs.getD ((bs.length : Int) - 1).toNat 0) (bs.getD ((bs.length : Int) - 2).toNat 0))
    (hr : rest' = if taV B bs limb p rest = 1 then pbL B bs p (taL B bs limb p rest) else taL B bs limb p rest) :
    rest'.length = rs.length ∧ (quo.set (p : Int).toNat y).length = N ∧ pre ++ [(p : Int)] = (downKs A n).take (pre ++ [(p : Int)]).length ∧ rest' = ((pre ++ [(p : Int)]).foldl (drS B bs) (rs, true)).1 := by
  refine ⟨?_, by simp [h1], hpre, ?_⟩
  · rw [hr]; split <;> simp [ta_len, pb_len, h0]
  · rw [List.foldl_append]
    show _ = drT B bs (pre.foldl (drS B bs) (rs, true)).1 (p : Int)
    rw [← h3, hr, hl, dr_lim 0 h2]
    rfl
end
theorem divide_rows_spec (w : World) {r b : Addr} {rs bs : List Int} {k : Int} {u : Tok} (hk : 3 ≤ k) (hk' : k ≤ 8) (hb : bs.length < 100) (hrs : rs.length < 900) (hp : bs.length < rs.length) (hb2 : 2 ≤ bs.length) (hall : ∀ x ∈ bs, 0 ≤ x ∧ x < 256) (hfirst : 0 < bs.getD (bs.length - 1) 0)
    (hok : (drR (2 ^ k.toNat) bs rs).2 = true) :
    SpecM w 210 4 r [.ref r, .ref b, .int k u] rs (fun h => Nums h b bs) (drR (2 ^ k.toNat) bs rs).1 (fun h h' v => ∃ qs, NewNums h h' v qs ∧ qs.length < 900) := by
  k_with_none
  intro dp un fr gd s mean mg mb Q E h₀ us n X0 T0 K0 hr0 hr hi hd hu hpre ret
  obtain ⟨vb, lb, ib⟩ := hpre
  have hB := bge hk
  have hB' := ble hk'
  have hq1 : ∀ j : Nat, 0 ≤ bs.getD j 0 ∧ bs.getD j 0 < 256 := fun j => by
    by_cases hj : j < bs.length
    · have : bs.getD j 0 ∈ bs := by simp [List.getD, hj]
      exact hall _ this
    · simp [List.getD, List.getElem?_eq_none (Nat.not_lt.mp hj)]
  have hbr : b ≠ r := by
    rintro rfl
    obtain ⟨o, ho, _⟩ := lb
    rw [hideAll_none _ (by simp)] at ho
    cases ho
  have hqf : 0 < bs.getD ((bs.length : Int) - 1).toNat 0 ∧ bs.getD ((bs.length : Int) - 1).toNat 0 < 256 := by
    have e : ((bs.length : Int) - 1).toNat = bs.length - 1 := by omega
    rw [e]; exact ⟨hfirst, (hq1 _).2⟩
  have X := X0.keeps (hid_stays K0 hr0)
  have T := T0.keeps (hid_stays K0 hr0)
  refine' enterM (binds := [(Str.ofString "rest", .ref r), (Str.ofString "b", .ref b), (Str.ofString "w", .int k u)]) X T hr ?ho ?hcd ?hroom ?k9 ?kB ?kD ?_ ?c2 ?c3 ?c4 ?c5
  case ho => k_is
  case hcd => k_is
  case hroom => exact room_ok hd
  case k9 => exact BindsTo.of_eq rfl
  case kB => exact locs rfl
  case kD => (simp only [List.map_cons, List.map_nil]; decide)
  case c2 => rfl
  case c3 => rfl
  case c4 => rfl
  case c5 => decide
  intro L' h₁ tk₁ F' N'
  (try dsimp only [kstB_c, kstB_n] at F')
  (try dsimp only)
  (try k_fold)
  k_with "call ref" => k_dflt (k_here; first
    | ((rename Fr _ _ _ _ => lF'); (rename News _ _ _ _ => lN'); (refine' use_int (by exact ⟨_, by is_list, dr_top (by assumption) hb2 (by omega)⟩) (guessed_limb_spec w hk hk' hK3.1 hK3.2.1 hK3.2.2 hqf (hq1 _)) (by with_unfolding_all rfl) (by with_reducible assumption) (by with_reducible assumption) lF' lN' (by first | exact dp_ok hd rfl | (with_unfolding_all show (dp + 1) + _ < 900; omega) | (with_unfolding_all show (dp + 2) + _ < 900; omega) | (with_unfolding_all show (dp + 3) + _ < 900; omega) | (with_unfolding_all show (dp + 4) + _ < 900; omega)) (by first | exact dp_ok hu rfl | (with_unfolding_all show (un + 3) + _ < 9000; omega) | (with_unfolding_all show (un + 6) + _ < 9000; omega) | (with_unfolding_all show (un + 9) + _ < 9000; omega) | (with_unfolding_all show (un + 12) + _ < 9000; omega)) ?_); (intro kct kch kctk kcF kcN); (try clear lF' lN'); (generalize hG : glL _ _ _ _ _ _ = kG); (try dsimp only); (try k_fold))
    | ((rename Fr _ _ _ _ => lF'); (rename News _ _ _ _ => lN'); (refine' use_mut (news := List.cons (_, listOf kv1.toArray kc1) kOwn) (by exact hid_nums ⟨_, by is_list, ib⟩ hbr) (take_away_spec w (p := kp) (rs := kns0) hk hk' hb (by first | assumption | omega | (simp only [List.length_append, List.length_cons, List.length_nil, rangeKs_length, downKs_length] at *; omega)) (by first | assumption | omega | (simp only [List.length_append, List.length_cons, List.length_nil, rangeKs_length, downKs_length] at *; omega)) hall) (by rfl) X T lF' (by exact kst_newsOf lN' (by kst_inAny)) (by l_ints) (by k_all) (by first | exact dp_ok hd rfl | (with_unfolding_all show (dp + 1) + _ < 900; omega) | (with_unfolding_all show (dp + 2) + _ < 900; omega) | (with_unfolding_all show (dp + 3) + _ < 900; omega) | (with_unfolding_all show (dp + 4) + _ < 900; omega)) (by first | exact dp_ok hu rfl | (with_unfolding_all show (un + 3) + _ < 9000; omega) | (with_unfolding_all show (un + 6) + _ < 9000; omega) | (with_unfolding_all show (un + 9) + _ < 9000; omega) | (with_unfolding_all show (un + 12) + _ < 9000; omega)) ?_); (intro kcv kcus kcn kch kctk kcR kcF kcN kcI); (try clear lF' lN'); (try (obtain ⟨kct, kcE⟩ := kcR; subst kcE)); (try subst kcR); (try dsimp only); (try k_fold))
    | ((rename Fr _ _ _ _ => lF'); (rename News _ _ _ _ => lN'); (refine' use_mut (news := List.cons (_, listOf kv1.toArray kc1) kOwn) (by exact hid_nums ⟨_, by is_list, ib⟩ hbr) (put_back_spec w (p := kp) (rs := taL (2 ^ k.toNat) bs kG kp kns0) hk hk' hb (by rw [ta_len]; omega) (by rw [ta_len]; omega)) (by rfl) X T lF' (by exact kst_newsOf lN' (by kst_inAny)) (by l_ints) (by k_all) (by first | exact dp_ok hd rfl | (with_unfolding_all show (dp + 1) + _ < 900; omega) | (with_unfolding_all show (dp + 2) + _ < 900; omega) | (with_unfolding_all show (dp + 3) + _ < 900; omega) | (with_unfolding_all show (dp + 4) + _ < 900; omega)) (by first | exact dp_ok hu rfl | (with_unfolding_all show (un + 3) + _ < 9000; omega) | (with_unfolding_all show (un + 6) + _ < 9000; omega) | (with_unfolding_all show (un + 9) + _ < 9000; omega) | (with_unfolding_all show (un + 12) + _ < 9000; omega)) ?_); (intro kcv kcus kcn kch kctk kcR kcF kcN kcI); (try clear lF' lN'); (try (obtain ⟨kct, kcE⟩ := kcR; subst kcE)); (try subst kcR); (try dsimp only); (try k_fold)))
  k_with "leave" => k_dflt (refine kHQ _ _ ?_)
  k_with "pyIter ref" => k_dflt ((with_reducible show wpAny _ _ (pyIter (Value.ref _)) (fun it s₂ => LoopAtV _ _ _ _ _ _ _ _ _ it s₂) _ _); k_here; (rename Fr _ _ _ _ => lF'); (rename News _ _ _ _ => lN'); (rename IsRange _ _ _ _ _ _ _ _ => rgX); (with_unfolding_all refine' kst_rangeD (σ := List Value × List Int × Nat × List Value × List Int × Nat) (fun c => [(r, listOf (c.1).toArray c.2.2.1), (_, listOf (c.2.2.2.1).toArray c.2.2.2.2.2)]) (fun c => []) (fun c => IntsAre c.1 c.2.1 ∧ IntsAre c.2.2.2.1 c.2.2.2.2.1) [Str.ofString "limb"] (fun pre c => (fun pre rest quotient => rest.length = rs.length ∧ quotient.length = rs.length - bs.length ∧ pre = (downKs ((rs.length : Int) - bs.length - 1) (rs.length - bs.length)).take pre.length ∧ rest = (pre.foldl (drS (2 ^ k.toNat) bs) (rs, true)).1) pre c.2.1 c.2.2.2.2.1) (_, _, _, _, _, _) (by rfl) (by first | exact rgX | assumption) (by first | exact small_down (by omega) (by omega) (by omega) (by omega) | exact small_down (by l_bnd) (by l_bnd) (by l_bnd) (by l_bnd) | decide) (by first | exact rangeSize_downNat _ _ | rfl) lF' (by exact kst_newsOf lN' (by kst_inAny)) (by exact ⟨by assumption, by assumption⟩) (by kst_all) (by ((try dsimp only); exact ⟨rfl, by (first | (simp [rep_flat]; done) | (simp [rep_flat]; omega)), by simp, rfl⟩)) ?_ ?_); (rotate_left; rintro ⟨kv0, kns0, kc0, kv1, kns1, kc1⟩ kU kH kTk ⟨kF0, kF1⟩ ⟨kI0, kI1, kI2, kI3⟩ kFr kNews; rotate_left; rintro ⟨kv0, kns0, kc0, kv1, kns1, kc1⟩ kPre kN kT kU kH kTk kOwn kEq kLt kOff ⟨kF0, kF1⟩ ⟨kI0, kI1, kI2, kI3⟩ kFr kNews; (try dsimp only at kInv); (try dsimp only at kI0); (try dsimp only at kI1); (try dsimp only at kI2); (try dsimp only at kI3); (have hK := dr_ok (B := 2 ^ k.toNat) (st := (rs, true)) kI2 (by omega) (by omega) hok); (rw [← kI3] at hK); (have hK3 := dr_bounds hK); (obtain ⟨kp, hkp⟩ : ∃ p : Nat, kN = p := ⟨kN.toNat, by omega⟩); subst hkp; (have hkq0 : kp + bs.length < kns0.length := by omega); (have hkq1 : (kp : Int) < kns1.length := by omega); (have hkq2 : (kp : Int) < 2 ^ 63 := by omega); (have hD := dk_step kI2 (by omega : ((kp : Int)) = ((rs.length : Int) - bs.length - 1) - (kPre.length : Int)) (by omega)); refine abs_post ?_; intro kQ kHQ); (all_goals (try dsimp only at kFacts)); (all_goals (try dsimp only at kOff)); (all_goals (try simp only [List.map_cons, List.map_nil] at kOff)); (all_goals (try clear lF' lN')); (all_goals ((try dsimp only [kstB_c, kstB_n] at kFr); (try dsimp only at kNews); (try dsimp only at kInv); (try dsimp only at kI0); (try dsimp only at kI1); (try dsimp only at kI2); (try dsimp only at kI3); (try dsimp only at kI4); (try dsimp only at kF0); (try dsimp only at kF1); (try simp only [rangeKs_length, downKs_length] at kI0); (try have kLen0 := IntsAre.length kFacts); (try have kLen0 := IntsAre.length kF0); (try have kLen1 := IntsAre.length kF1); (try simp only [List.nil_append, List.cons_append, List.append_nil] at kNews); (try dsimp only); (try k_fold))))
  k_with "InvEndN" => k_dflt (refine stopD ?_)
  k_steps
  k_with_none
  all_goals (try (apply StopD.mk))
  all_goals (rename News _ _ _ _ => nE')
  all_goals (try dsimp only)
  · refine' kst_end (σ := List Value × List Int × Nat × List Value × List Int × Nat) ⟨_, _, _, _, _, _⟩ ?a ?b ?c ?d ?e ?f ?g ?h ?i
    case a => assumption
    case b => exact nE'
    case c => kst_in
    case d => (intro p hp; kst_mem)
    case e => rfl
    case f => exact ⟨by assumption, by assumption⟩
    case g => kst_all
    case h => kst_same
    case i =>
      dsimp only
      with_reducible rename (taV _ _ _ _ _ = 1) => h9
      exact @dr_s (2 ^ k.toNat) bs rs kns0 kPre _ _ kns1 kp _ kG (pbL (2 ^ k.toNat) bs kp (taL (2 ^ k.toNat) bs kG kp kns0)) (kG - 1) hb2 kI0 kI1 hD kI3 hG.symm (if_pos h9).symm
  · refine' kst_end (σ := List Value × List Int × Nat × List Value × List Int × Nat) ⟨_, _, _, _, _, _⟩ ?a ?b ?c ?d ?e ?f ?g ?h ?i
    case a => assumption
    case b => exact nE'
    case c => kst_in
    case d => (intro p hp; kst_mem)
    case e => rfl
    case f => exact ⟨by assumption, by assumption⟩
    case g => kst_all
    case h => kst_same
    case i =>
      dsimp only
      with_reducible rename (taV _ _ _ _ _ ≠ 1) => h9
      exact @dr_s (2 ^ k.toNat) bs rs kns0 kPre _ _ kns1 kp _ kG (taL (2 ^ k.toNat) bs kG kp kns0) kG hb2 kI0 kI1 hD kI3 hG.symm (if_neg h9).symm
  · have e1 : ((rs.length : Int) - bs.length - 1 - -1).toNat = rs.length - bs.length := by omega
    have e2 : kns0 = (drR (2 ^ k.toNat) bs rs).1 := by rw [kI3, e1]; rfl
    subst e2
    refine ret _ _ _ _ _ (ret_mut (by assumption)) (nE' _ (by k_memK)).1 kF0 ⟨kns1, ⟨_, _, _, rfl, hid_none (nE' _ (by with_unfolding_all exact .tail _ (.head _))).2.2 (by k_ne), (nE' _ (by with_unfolding_all exact .tail _ (.head _))).1, kF1⟩, by omega⟩

end
section
def smR (B : Int) (as bs : List Int) : List Int := if 0 < (dvR as B (bs.getD 0 0)).2 then [(dvR as B (bs.getD 0 0)).2] else []
theorem divrem_small_spec (w : World) {a b : Addr} {as bs : List Int} {k : Int} {u : Tok} (hk : 3 ≤ k) (hk' : k ≤ 8) (ha : as.length < 900) (hb : 0 < bs.length) (hd0 : 0 < bs.getD 0 0) (hd' : bs.getD 0 0 < 1000) (hbl : bs.length < 900) :
    Spec w 182 4 [.ref a, .ref b, .int k u] (fun h => Nums h a as ∧ Nums h b bs) (fun h h' v => TupLL h h' v (smR (2 ^ k.toNat) as bs)) := by
  k_with_none
  intro dp un fr gd s mean mg mb Q E X T hd hu hpre ret
  obtain ⟨⟨va, la, ia⟩, ⟨vb, lb, ib⟩⟩ := hpre
  refine' enter (binds := [(Str.ofString "a", .ref a), (Str.ofString "b", .ref b), (Str.ofString "w", .int k u)]) ?kX ?kT ?ho ?hcd ?hroom ?k9 ?kB ?kD ?_ ?c2 ?c3 ?c4 ?c5
  case kX => assumption
  case kT => assumption
  case ho => k_is
  case hcd => k_is
  case hroom => exact room_ok hd
  case k9 => exact BindsTo.of_eq rfl
  case kB => exact locs rfl
  case kD => (simp only [List.map_cons, List.map_nil]; decide)
  case c2 => rfl
  case c3 => rfl
  case c4 => rfl
  case c5 => decide
  intro L' h₁ tk₁ F' N'
  (try dsimp only [kstB_c, kstB_n] at F')
  (try dsimp only)
  (try k_fold)
  k_with "call ref" => k_dflt (k_here; first
    | ((rename Fr _ _ _ _ => lF'); (rename News _ _ _ _ => lN'); (refine' use_tupLI (by first | exact ⟨_, by is_list, by l_ints⟩ | exact ⟨⟨_, by is_list, by l_ints⟩, ⟨_, by is_list, by l_ints⟩⟩ | trivial) (divrem_limb_spec w hk hk' ha hd0 hd') (by with_unfolding_all rfl) (by with_reducible assumption) (by with_reducible assumption) lF' lN' (by first | exact dp_ok hd rfl | (with_unfolding_all show (dp + 1) + _ < 900; omega) | (with_unfolding_all show (dp + 2) + _ < 900; omega) | (with_unfolding_all show (dp + 3) + _ < 900; omega) | (with_unfolding_all show (dp + 4) + _ < 900; omega)) (by first | exact dp_ok hu rfl | (with_unfolding_all show (un + 3) + _ < 9000; omega) | (with_unfolding_all show (un + 6) + _ < 9000; omega) | (with_unfolding_all show (un + 9) + _ < 9000; omega) | (with_unfolding_all show (un + 12) + _ < 9000; omega)) ?_); (intro kcq kcr kcus kcn kcc kct kch kctk kcF kcN kcI); (try clear lF' lN'); (try dsimp only); (try k_fold)))
  k_steps
  k_with_none
  all_goals (try dsimp only)
  all_goals (rename News _ _ _ _ => nE)
  · refine ret _ _ _ (Fr.keep (by assumption)) (TupLL.of nE (by k_memK) (by k_memK) (us := [_]) ?_)
    unfold smR; rw [if_pos (by assumption)]; exact IntsAre.cons _ _ .nil
  · refine ret _ _ _ (Fr.keep (by assumption)) (TupLL.of nE (by k_memK) (by k_memK) (us := []) ?_)
    unfold smR; rw [if_neg (by assumption)]; exact .nil

end
section
def inBs (l : List Int) : Bool := l.all fun x => decide (0 ≤ x) && decide (x < 256)
def rmSh (k : Int) (bs : List Int) : Int := k - Builtin.Int.intBits (bs.getD (bs.length - 1) 0)
def rmD (k : Int) (bs : List Int) : List Int := slL (2 ^ k.toNat) (2 ^ (rmSh k bs).toNat) bs
def rmA (k : Int) (as bs : List Int) : List Int := slL (2 ^ k.toNat) (2 ^ (rmSh k bs).toNat) as ++ List.replicate (as.length + 1 - (slL (2 ^ k.toNat) (2 ^ (rmSh k bs).toNat) as).length) 0
def rmE (k : Int) (as bs : List Int) : List Int := norm (drR (2 ^ k.toNat) (rmD k bs) (rmA k as bs)).1
def rmd (k : Int) (as bs : List Int) : List Int := if cmpL as bs < 0 then as else if bs.length = 1 then smR (2 ^ k.toNat) as bs else norm (srR (2 ^ k.toNat) (2 ^ (rmSh k bs).toNat) (2 ^ (k - rmSh k bs).toNat) (rmE k as bs))
def rmOk (k : Int) (as bs : List Int) : Bool := decide (0 < bs.length) && decide (as.length < 40) && decide (bs.length < 40) && inBs as && inBs bs && (decide (cmpL as bs < 0) || (if bs.length = 1 then decide (0 < bs.getD 0 0) else
  decide (0 ≤ rmSh k bs) && decide (rmSh k bs < k) && decide ((slL (2 ^ k.toNat) (2 ^ (rmSh k bs).toNat) as).length ≤ as.length + 1) && decide ((rmD k bs).length < 60) && decide ((rmD k bs).length < (rmA k as bs).length) && decide (2 ≤ (rmD k bs).length) && inBs (rmD k bs) && decide (0 < (rmD k bs).getD ((rmD k bs).length - 1) 0) && (drR (2 ^ k.toNat) (rmD k bs) (rmA k as bs)).2 && inBs (rmE k as bs) && decide ((rmE k as bs).length < 60)))
theorem inBs_all {l : List Int} (h : inBs l = true) : ∀ x ∈ l, 0 ≤ x ∧ x < 256 := fun x hx => by
  have := List.all_eq_true.mp h x hx
  simpa only [Bool.and_eq_true, decide_eq_true_eq] using this
theorem inBs_get {l : List Int} (h : inBs l = true) (j : Nat) : 0 ≤ l.getD j 0 ∧ l.getD j 0 < 256 := by
  by_cases hj : j < l.length
  · have : l.getD j 0 ∈ l := by simp [List.getD, hj]
    exact inBs_all h _ this
  · simp [List.getD, List.getElem?_eq_none (Nat.not_lt.mp hj)]
theorem divrem_a (w : World) {a b : Addr} {as bs : List Int} {k : Int} {u : Tok} (hk : 3 ≤ k) (hk' : k ≤ 8) (hb0 : 0 < bs.length) (ha40 : as.length < 40) (hb40 : bs.length < 40) (hc : cmpL as bs < 0) :
    Spec w 217 8 [.ref a, .ref b, .int k u] (fun h => Nums h a as ∧ Nums h b bs) (fun h h' v => TupLL h h' v as) := by
  k_with_none
  intro dp un fr gd s mean mg mb Q E X T hd hu hpre ret
  obtain ⟨⟨va, la, ia⟩, ⟨vb, lb, ib⟩⟩ := hpre
  have kLa := ia.length
  have kLb := ib.length
  refine' enter (binds := [(Str.ofString "a", .ref a), (Str.ofString "b", .ref b), (Str.ofString "w", .int k u)]) ?kX ?kT ?ho ?hcd ?hroom ?k9 ?kB ?kD ?_ ?c2 ?c3 ?c4 ?c5
  case kX => assumption
  case kT => assumption
  case ho => k_is
  case hcd => k_is
  case hroom => exact room_ok hd
  case k9 => exact BindsTo.of_eq rfl
  case kB => exact locs rfl
  case kD => (simp only [List.map_cons, List.map_nil]; decide)
  case c2 => rfl
  case c3 => rfl
  case c4 => rfl
  case c5 => decide
  intro L' h₁ tk₁ F' N'
  (try dsimp only [kstB_c, kstB_n] at F')
  (try dsimp only)
  (try k_fold)
  k_with "call ref" => k_dflt (k_here; first
    | ((rename Fr _ _ _ _ => lF'); (rename News _ _ _ _ => lN'); (refine' use_int (by first | exact ⟨_, by is_list, by l_ints⟩ | exact ⟨⟨_, by is_list, by l_ints⟩, ⟨_, by is_list, by l_ints⟩⟩ | trivial) (compare_spec w (a := a) (b := b) (as := as) (bs := bs) (by first | assumption | omega | (simp only [List.length_append, List.length_cons, List.length_nil, rangeKs_length, downKs_length] at *; omega)) (by first | assumption | omega | (simp only [List.length_append, List.length_cons, List.length_nil, rangeKs_length, downKs_length] at *; omega))) (by with_unfolding_all rfl) (by with_reducible assumption) (by with_reducible assumption) lF' lN' (by first | exact dp_ok hd rfl | (with_unfolding_all show (dp + 1) + _ < 900; omega) | (with_unfolding_all show (dp + 2) + _ < 900; omega) | (with_unfolding_all show (dp + 3) + _ < 900; omega) | (with_unfolding_all show (dp + 4) + _ < 900; omega)) (by first | exact dp_ok hu rfl | (with_unfolding_all show (un + 3) + _ < 9000; omega) | (with_unfolding_all show (un + 6) + _ < 9000; omega) | (with_unfolding_all show (un + 9) + _ < 9000; omega) | (with_unfolding_all show (un + 12) + _ < 9000; omega)) ?_); (intro kct kch kctk kcF kcN); (try clear lF' lN'); (try dsimp only); (try k_fold)))
  k_steps
  k_with_none
  all_goals (try dsimp only)
  rename News _ _ _ _ => nE
  exact ret _ _ _ (Fr.keep (by assumption)) (TupLL.of nE (by k_memK) (by with_unfolding_all exact .tail _ (.head _)) (by assumption))
theorem divrem_b (w : World) {a b : Addr} {as bs : List Int} {k : Int} {u : Tok} (hk : 3 ≤ k) (hk' : k ≤ 8) (hb1 : bs.length = 1) (ha40 : as.length < 40) (hc : ¬ cmpL as bs < 0) (hd0 : 0 < bs.getD 0 0) (hd' : bs.getD 0 0 < 256) :
    Spec w 217 8 [.ref a, .ref b, .int k u] (fun h => Nums h a as ∧ Nums h b bs) (fun h h' v => TupLL h h' v (smR (2 ^ k.toNat) as bs)) := by
  k_with_none
  intro dp un fr gd s mean mg mb Q E X T hd hu hpre ret
  obtain ⟨⟨va, la, ia⟩, ⟨vb, lb, ib⟩⟩ := hpre
  have kLa := ia.length
  have kLb := ib.length
  refine' enter (binds := [(Str.ofString "a", .ref a), (Str.ofString "b", .ref b), (Str.ofString "w", .int k u)]) ?kX ?kT ?ho ?hcd ?hroom ?k9 ?kB ?kD ?_ ?c2 ?c3 ?c4 ?c5
  case kX => assumption
  case kT => assumption
  case ho => k_is
  case hcd => k_is
  case hroom => exact room_ok hd
  case k9 => exact BindsTo.of_eq rfl
  case kB => exact locs rfl
  case kD => (simp only [List.map_cons, List.map_nil]; decide)
  case c2 => rfl
  case c3 => rfl
  case c4 => rfl
  case c5 => decide
  intro L' h₁ tk₁ F' N'
  (try dsimp only [kstB_c, kstB_n] at F')
  (try dsimp only)
  (try k_fold)
  k_with "call ref" => k_dflt (k_here; first
    | ((rename Fr _ _ _ _ => lF'); (rename News _ _ _ _ => lN'); (refine' use_int (by first | exact ⟨_, by is_list, by l_ints⟩ | exact ⟨⟨_, by is_list, by l_ints⟩, ⟨_, by is_list, by l_ints⟩⟩ | trivial) (compare_spec w (a := a) (b := b) (as := as) (bs := bs) (by first | assumption | omega | (simp only [List.length_append, List.length_cons, List.length_nil, rangeKs_length, downKs_length] at *; omega)) (by first | assumption | omega | (simp only [List.length_append, List.length_cons, List.length_nil, rangeKs_length, downKs_length] at *; omega))) (by with_unfolding_all rfl) (by with_reducible assumption) (by with_reducible assumption) lF' lN' (by first | exact dp_ok hd rfl | (with_unfolding_all show (dp + 1) + _ < 900; omega) | (with_unfolding_all show (dp + 2) + _ < 900; omega) | (with_unfolding_all show (dp + 3) + _ < 900; omega) | (with_unfolding_all show (dp + 4) + _ < 900; omega)) (by first | exact dp_ok hu rfl | (with_unfolding_all show (un + 3) + _ < 9000; omega) | (with_unfolding_all show (un + 6) + _ < 9000; omega) | (with_unfolding_all show (un + 9) + _ < 9000; omega) | (with_unfolding_all show (un + 12) + _ < 9000; omega)) ?_); (intro kct kch kctk kcF kcN); (try clear lF' lN'); (try dsimp only); (try k_fold))
    | ((rename Fr _ _ _ _ => lF'); (rename News _ _ _ _ => lN'); (refine' use_tupLL (by first | exact ⟨_, by is_list, by l_ints⟩ | exact ⟨⟨_, by is_list, by l_ints⟩, ⟨_, by is_list, by l_ints⟩⟩ | trivial) (divrem_small_spec w hk hk' (by omega) (by omega) hd0 (by omega) (by omega)) (by with_unfolding_all rfl) (by with_reducible assumption) (by with_reducible assumption) lF' lN' (by first | exact dp_ok hd rfl | (with_unfolding_all show (dp + 1) + _ < 900; omega) | (with_unfolding_all show (dp + 2) + _ < 900; omega) | (with_unfolding_all show (dp + 3) + _ < 900; omega) | (with_unfolding_all show (dp + 4) + _ < 900; omega)) (by first | exact dp_ok hu rfl | (with_unfolding_all show (un + 3) + _ < 9000; omega) | (with_unfolding_all show (un + 6) + _ < 9000; omega) | (with_unfolding_all show (un + 9) + _ < 9000; omega) | (with_unfolding_all show (un + 12) + _ < 9000; omega)) ?_); (intro kcq kcx kcr kcus kcn kcc kch kctk kcF kcN kcI); (try clear lF' lN'); (try dsimp only); (try k_fold)))
  k_steps
  k_with_none
  all_goals (try dsimp only)
  · exact ret _ _ _ (Fr.keep (by assumption)) (TupLL.of kcN (.head _) (.tail _ (.head _)) kcI)
  all_goals (exfalso; omega)

end
section
theorem divrem_c (w : World) {a b : Addr} {as bs : List Int} {k : Int} {u : Tok} (hk : 3 ≤ k) (hk' : k ≤ 8) (hb2 : 2 ≤ bs.length) (ha40 : as.length < 40) (hb40 : bs.length < 40) (hc : ¬ cmpL as bs < 0) (hina : ∀ x ∈ as, 0 ≤ x ∧ x < 256) (hinb : ∀ x ∈ bs, 0 ≤ x ∧ x < 256)
    (hs0 : 0 ≤ rmSh k bs) (hs1 : rmSh k bs < k) (hla : (slL (2 ^ k.toNat) (2 ^ (rmSh k bs).toNat) as).length ≤ as.length + 1) (hld : (rmD k bs).length < 60) (hlda : (rmD k bs).length < (rmA k as bs).length) (hd2 : 2 ≤ (rmD k bs).length) (hdin : ∀ x ∈ rmD k bs, 0 ≤ x ∧ x < 256)
    (hdf : 0 < (rmD k bs).getD ((rmD k bs).length - 1) 0) (hdr : (drR (2 ^ k.toNat) (rmD k bs) (rmA k as bs)).2 = true) (hein : ∀ j : Nat, 0 ≤ (rmE k as bs).getD j 0 ∧ (rmE k as bs).getD j 0 < 256) (hel : (rmE k as bs).length < 60) :
    Spec w 217 8 [.ref a, .ref b, .int k u] (fun h => Nums h a as ∧ Nums h b bs) (fun h h' v => TupLL h h' v (norm (srR (2 ^ k.toNat) (2 ^ (rmSh k bs).toNat) (2 ^ (k - rmSh k bs).toNat) (rmE k as bs)))) := by
  k_with_none
  intro dp un fr gd s mean mg mb Q E X T hd hu hpre ret
  obtain ⟨⟨va, la, ia⟩, ⟨vb, lb, ib⟩⟩ := hpre
  have kLa := ia.length
  have kLb := ib.length
  have hlast : bs.getD (-1 + (bs.length : Int)).toNat 0 = bs.getD (bs.length - 1) 0 := by
    have e : (-1 + (bs.length : Int)).toNat = bs.length - 1 := by omega
    rw [e]
  have hrA : rmA k as bs = slL (2 ^ k.toNat) (2 ^ (rmSh k bs).toNat) as ++ (List.replicate ((as.length : Int) + 1 - ((slL (2 ^ k.toNat) (2 ^ (rmSh k bs).toNat) as).length : Int)).toNat [(0 : Int)]).flatten := by
    have e : ((as.length : Int) + 1 - ((slL (2 ^ k.toNat) (2 ^ (rmSh k bs).toNat) as).length : Int)).toNat = as.length + 1 - (slL (2 ^ k.toNat) (2 ^ (rmSh k bs).toNat) as).length := by omega
    rw [e, rep_flat]; rfl
  have hAl : (rmA k as bs).length = as.length + 1 := by
    unfold rmA; rw [List.length_append, List.length_replicate]; omega
  have hdl : (drR (2 ^ k.toNat) (rmD k bs) (rmA k as bs)).1.length = as.length + 1 := dr_len.trans hAl
  refine' enter (binds := [(Str.ofString "a", .ref a), (Str.ofString "b", .ref b), (Str.ofString "w", .int k u)]) ?kX ?kT ?ho ?hcd ?hroom ?k9 ?kB ?kD ?_ ?c2 ?c3 ?c4 ?c5
  case kX => assumption
  case kT => assumption
  case ho => k_is
  case hcd => k_is
  case hroom => exact room_ok hd
  case k9 => exact BindsTo.of_eq rfl
  case kB => exact locs rfl
  case kD => (simp only [List.map_cons, List.map_nil]; decide)
  case c2 => rfl
  case c3 => rfl
  case c4 => rfl
  case c5 => decide
  intro L' h₁ tk₁ F' N'
  (try dsimp only [kstB_c, kstB_n] at F')
  (try dsimp only)
  (try k_fold)
  k_with "call ref" => k_dflt (k_here; first
    | ((rename Fr _ _ _ _ => lF'); (rename News _ _ _ _ => lN'); (refine' use_int (by first | exact ⟨_, by is_list, by l_ints⟩ | exact ⟨⟨_, by is_list, by l_ints⟩, ⟨_, by is_list, by l_ints⟩⟩ | trivial) (compare_spec w (a := a) (b := b) (as := as) (bs := bs) (by first | assumption | omega | (simp only [List.length_append, List.length_cons, List.length_nil, rangeKs_length, downKs_length] at *; omega)) (by first | assumption | omega | (simp only [List.length_append, List.length_cons, List.length_nil, rangeKs_length, downKs_length] at *; omega))) (by with_unfolding_all rfl) (by with_reducible assumption) (by with_reducible assumption) lF' lN' (by first | exact dp_ok hd rfl | (with_unfolding_all show (dp + 1) + _ < 900; omega) | (with_unfolding_all show (dp + 2) + _ < 900; omega) | (with_unfolding_all show (dp + 3) + _ < 900; omega) | (with_unfolding_all show (dp + 4) + _ < 900; omega)) (by first | exact dp_ok hu rfl | (with_unfolding_all show (un + 3) + _ < 9000; omega) | (with_unfolding_all show (un + 6) + _ < 9000; omega) | (with_unfolding_all show (un + 9) + _ < 9000; omega) | (with_unfolding_all show (un + 12) + _ < 9000; omega)) ?_); (intro kct kch kctk kcF kcN); (try clear lF' lN'); (try dsimp only); (try k_fold))
    | ((rename Fr _ _ _ _ => lF'); (rename News _ _ _ _ => lN'); (refine' use_int (by first | exact ⟨_, by is_list, by l_ints⟩ | exact ⟨⟨_, by is_list, by l_ints⟩, ⟨_, by is_list, by l_ints⟩⟩ | trivial) (bits_spec w (x := bs.getD (-1 + (bs.length : Int)).toNat 0) hk hk') (by with_unfolding_all rfl) (by with_reducible assumption) (by with_reducible assumption) lF' lN' (by first | exact dp_ok hd rfl | (with_unfolding_all show (dp + 1) + _ < 900; omega) | (with_unfolding_all show (dp + 2) + _ < 900; omega) | (with_unfolding_all show (dp + 3) + _ < 900; omega) | (with_unfolding_all show (dp + 4) + _ < 900; omega)) (by first | exact dp_ok hu rfl | (with_unfolding_all show (un + 3) + _ < 9000; omega) | (with_unfolding_all show (un + 6) + _ < 9000; omega) | (with_unfolding_all show (un + 9) + _ < 9000; omega) | (with_unfolding_all show (un + 12) + _ < 9000; omega)) ?_); (intro kct kch kctk kcF kcN); (try clear lF' lN'); (rw [hlast]); (try dsimp only); (try k_fold))
    | ((rename Fr _ _ _ _ => lF'); (rename News _ _ _ _ => lN'); (refine' use_list (by first | exact ⟨_, by is_list, by l_ints⟩ | exact ⟨⟨_, by is_list, by l_ints⟩, ⟨_, by is_list, by l_ints⟩⟩ | trivial) (shift_left_spec w (n := rmSh k bs) hk hk' (by omega) hs0 hs1 hinb) (by with_unfolding_all rfl) (by with_reducible assumption) (by with_reducible assumption) lF' lN' (by first | exact dp_ok hd rfl | (with_unfolding_all show (dp + 1) + _ < 900; omega) | (with_unfolding_all show (dp + 2) + _ < 900; omega) | (with_unfolding_all show (dp + 3) + _ < 900; omega) | (with_unfolding_all show (dp + 4) + _ < 900; omega)) (by first | exact dp_ok hu rfl | (with_unfolding_all show (un + 3) + _ < 9000; omega) | (with_unfolding_all show (un + 6) + _ < 9000; omega) | (with_unfolding_all show (un + 9) + _ < 9000; omega) | (with_unfolding_all show (un + 12) + _ < 9000; omega)) ?_); (intro kcr kcus kcn kch kctk kcF kcN kcI kcNe); (try clear lF' lN'); (try dsimp only); (try k_fold))
    | ((rename Fr _ _ _ _ => lF'); (rename News _ _ _ _ => lN'); (refine' use_list (by first | exact ⟨_, by is_list, by l_ints⟩ | exact ⟨⟨_, by is_list, by l_ints⟩, ⟨_, by is_list, by l_ints⟩⟩ | trivial) (shift_left_spec w (n := rmSh k bs) hk hk' (by omega) hs0 hs1 hina) (by with_unfolding_all rfl) (by with_reducible assumption) (by with_reducible assumption) lF' lN' (by first | exact dp_ok hd rfl | (with_unfolding_all show (dp + 1) + _ < 900; omega) | (with_unfolding_all show (dp + 2) + _ < 900; omega) | (with_unfolding_all show (dp + 3) + _ < 900; omega) | (with_unfolding_all show (dp + 4) + _ < 900; omega)) (by first | exact dp_ok hu rfl | (with_unfolding_all show (un + 3) + _ < 9000; omega) | (with_unfolding_all show (un + 6) + _ < 9000; omega) | (with_unfolding_all show (un + 9) + _ < 9000; omega) | (with_unfolding_all show (un + 12) + _ < 9000; omega)) ?_); (intro kcr kcus kcn kch kctk kcF kcN kcI kcNe); (try clear lF' lN'); (try dsimp only); (try k_fold))
    | ((rename Fr _ _ _ _ => lF'); (rename News _ _ _ _ => lN'); (refine' use_mut (news := []) (by exact hid_nums ⟨_, by is_list, by assumption⟩ (by k_ne)) (divide_rows_spec w (bs := rmD k bs) (rs := rmA k as bs) hk hk' (by omega) (by omega) hlda hd2 hdin hdf hdr) (by rfl) X T lF' (by exact kst_newsOf lN' (by kst_inAny)) (by rw [hrA]; assumption) (by k_all) (by first | exact dp_ok hd rfl | (with_unfolding_all show (dp + 1) + _ < 900; omega) | (with_unfolding_all show (dp + 2) + _ < 900; omega) | (with_unfolding_all show (dp + 3) + _ < 900; omega) | (with_unfolding_all show (dp + 4) + _ < 900; omega)) (by first | exact dp_ok hu rfl | (with_unfolding_all show (un + 3) + _ < 9000; omega) | (with_unfolding_all show (un + 6) + _ < 9000; omega) | (with_unfolding_all show (un + 9) + _ < 9000; omega) | (with_unfolding_all show (un + 12) + _ < 9000; omega)) ?_); (intro kcv kcus kcn kch kctk kcR kcF kcN kcI); ((obtain ⟨qs, ⟨q, qus, qn, rfl, hq1, hq2, hq3⟩, hql⟩ := kcR); (have kcN := addNew2 lF' kcN hq1 hq2)); (try clear lF' lN'); (try (obtain ⟨kct, kcE⟩ := kcR; subst kcE)); (try subst kcR); (try dsimp only); (try k_fold))
    | ((rename Fr _ _ _ _ => lF'); (rename News _ _ _ _ => lN'); (refine' use_list (by first | exact ⟨_, by is_list, by l_ints⟩ | exact ⟨⟨_, by is_list, by l_ints⟩, ⟨_, by is_list, by l_ints⟩⟩ | trivial) (normal_spec w (by first | assumption | omega | (simp only [List.length_append, List.length_cons, List.length_nil, rangeKs_length, downKs_length] at *; omega))) (by with_unfolding_all rfl) (by with_reducible assumption) (by with_reducible assumption) lF' lN' (by first | exact dp_ok hd rfl | (with_unfolding_all show (dp + 1) + _ < 900; omega) | (with_unfolding_all show (dp + 2) + _ < 900; omega) | (with_unfolding_all show (dp + 3) + _ < 900; omega) | (with_unfolding_all show (dp + 4) + _ < 900; omega)) (by first | exact dp_ok hu rfl | (with_unfolding_all show (un + 3) + _ < 9000; omega) | (with_unfolding_all show (un + 6) + _ < 9000; omega) | (with_unfolding_all show (un + 9) + _ < 9000; omega) | (with_unfolding_all show (un + 12) + _ < 9000; omega)) ?_); (intro kcr kcus kcn kch kctk kcF kcN kcI kcNe); (try clear lF' lN'); (try dsimp only); (try k_fold))
    | ((rename Fr _ _ _ _ => lF'); (rename News _ _ _ _ => lN'); (refine' use_list (by first | exact ⟨_, by is_list, by l_ints⟩ | exact ⟨⟨_, by is_list, by l_ints⟩, ⟨_, by is_list, by l_ints⟩⟩ | trivial) (shift_right_spec w (as := rmE k as bs) (n := rmSh k bs) hk hk' (by omega) hs0 hs1 hein) (by with_unfolding_all rfl) (by with_reducible assumption) (by with_reducible assumption) lF' lN' (by first | exact dp_ok hd rfl | (with_unfolding_all show (dp + 1) + _ < 900; omega) | (with_unfolding_all show (dp + 2) + _ < 900; omega) | (with_unfolding_all show (dp + 3) + _ < 900; omega) | (with_unfolding_all show (dp + 4) + _ < 900; omega)) (by first | exact dp_ok hu rfl | (with_unfolding_all show (un + 3) + _ < 9000; omega) | (with_unfolding_all show (un + 6) + _ < 9000; omega) | (with_unfolding_all show (un + 9) + _ < 9000; omega) | (with_unfolding_all show (un + 12) + _ < 9000; omega)) ?_); (intro kcr kcus kcn kch kctk kcF kcN kcI kcNe); (try clear lF' lN'); (try dsimp only); (try k_fold)))
  k_steps
  k_with_none
  all_goals (try dsimp only)
  all_goals (try (exfalso; omega; done))
  rename News _ _ _ _ => nE
  exact ret _ _ _ (Fr.keep (by assumption)) (TupLL.of nE (.head _) (.tail _ (.head _)) (by assumption))

theorem divrem_school_spec (w : World) {a b : Addr} {as bs : List Int} {k : Int} {u : Tok} (hk : 3 ≤ k) (hk' : k ≤ 8) (hok : rmOk k as bs = true) :
    Spec w 217 8 [.ref a, .ref b, .int k u] (fun h => Nums h a as ∧ Nums h b bs) (fun h h' v => TupLL h h' v (rmd k as bs)) := by
  simp only [rmOk, Bool.and_eq_true, decide_eq_true_eq] at hok
  obtain ⟨⟨⟨⟨⟨hb0, ha40⟩, hb40⟩, hina⟩, hinb⟩, hrest⟩ := hok
  unfold rmd
  by_cases hc : cmpL as bs < 0
  · rw [if_pos hc]
    exact divrem_a w hk hk' hb0 ha40 hb40 hc
  · rw [if_neg hc]
    rw [decide_eq_false hc, Bool.false_or] at hrest
    by_cases h1 : bs.length = 1
    · rw [if_pos h1] at hrest ⊢
      exact divrem_b w hk hk' h1 ha40 hc (of_decide_eq_true hrest) (inBs_get hinb 0).2
    · rw [if_neg h1] at hrest ⊢
      simp only [Bool.and_eq_true, decide_eq_true_eq] at hrest
      obtain ⟨⟨⟨⟨⟨⟨⟨⟨⟨⟨x1, x2⟩, x3⟩, x4⟩, x5⟩, x6⟩, x7⟩, x8⟩, x9⟩, x10⟩, x11⟩ := hrest
      exact divrem_c w hk hk' (by omega) ha40 hb40 hc (inBs_all hina) (inBs_all hinb) x1 x2 x3 x4 x5 x6 (inBs_all x7) x8 x9 (inBs_get x10) x11

end
section
def gcF (k : Int) : Nat → List Int → List Int → Option (List Int)
  | 0, _, _ => none
  | f + 1, a, b => if b.length = 0 then some a else if rmOk k a b = true then gcF k f b (rmd k a b) else none
theorem gcF_cases {k : Int} {n : Nat} {xs ys g : List Int} (h : gcF k (n + 1) xs ys = some g) : (ys.length = 0 ∧ xs = g) ∨ (ys.length ≠ 0 ∧ rmOk k xs ys = true ∧ gcF k n ys (rmd k xs ys) = some g) := by
  have h' : (if ys.length = 0 then some xs else if rmOk k xs ys = true then gcF k n ys (rmd k xs ys) else none) = some g := h
  by_cases h0 : ys.length = 0
  · rw [if_pos h0] at h'; exact .inl ⟨h0, Option.some.inj h'⟩
  · rw [if_neg h0] at h'
    by_cases h1 : rmOk k xs ys = true
    · rw [if_pos h1] at h'; exact .inr ⟨h0, h1, h'⟩
    · rw [if_neg h1] at h'; cases h'
def Src (h₀ : Heap) (a b : Addr) (as bs : List Int) (nx : List (Addr × Obj)) (x : Addr) (xs : List Int) : Prop := (x = a ∧ xs = as) ∨ (x = b ∧ xs = bs) ∨ ∃ us c, (x, listOf (List.toArray us) c) ∈ nx ∧ IntsAre us xs
theorem Src.nums {h₀ h : Heap} {a b : Addr} {as bs : List Int} {nx : List (Addr × Obj)} {L x : Addr} {m : Str → Option Value} {xs : List Int} (S : Src h₀ a b as bs nx x xs) (na : Nums h₀ a as) (nb : Nums h₀ b bs) (F : Fr h₀ L h m) (N : News h₀ L h nx) : Nums h x xs := by
  rcases S with ⟨rfl, rfl⟩ | ⟨rfl, rfl⟩ | ⟨us, c, hm, hi⟩
  · exact na.keep F.keep
  · exact nb.keep F.keep
  · exact ⟨us, ⟨_, (N _ hm).1, rfl, c, rfl⟩, hi⟩
theorem Src.mono {h₀ : Heap} {a b : Addr} {as bs : List Int} {nx nx' : List (Addr × Obj)} {x : Addr} {xs : List Int} (S : Src h₀ a b as bs nx x xs) (hs : ∀ p ∈ nx, p ∈ nx') : Src h₀ a b as bs nx' x xs := by
  rcases S with S | S | ⟨us, c, hm, hi⟩
  · exact .inl S
  · exact .inr (.inl S)
  · exact .inr (.inr ⟨us, c, hs _ hm, hi⟩)
theorem Src.post {h₀ h : Heap} {a b : Addr} {as bs : List Int} {nx : List (Addr × Obj)} {L x : Addr} {xs : List Int} (S : Src h₀ a b as bs nx x xs) (N : News h₀ L h nx) : (x = a ∧ xs = as) ∨ (x = b ∧ xs = bs) ∨ NewNums h₀ h (.ref x) xs := by
  rcases S with S | S | ⟨us, c, hm, hi⟩
  · exact .inl S
  · exact .inr (.inl S)
  · exact .inr (.inr (NewNums.of N hm hi))
theorem rmOk_len {k : Int} {xs ys : List Int} (h : rmOk k xs ys = true) : xs.length < 40 ∧ ys.length < 40 := by
  simp only [rmOk, Bool.and_eq_true, decide_eq_true_eq] at h
  exact ⟨h.1.1.1.1.2, h.1.1.1.2⟩
theorem gcd_spec (w : World) {a b : Addr} {as bs g : List Int} {k : Int} {u : Tok} {fuel : Nat} (hk : 3 ≤ k) (hk' : k ≤ 8) (hg : gcF k fuel as bs = some g) :
    Spec w 168 10 [.ref a, .ref b, .int k u, .ref 217] (fun h => Nums h a as ∧ Nums h b bs) (fun h h' v => ∃ x, v = .ref x ∧ ((x = a ∧ g = as) ∨ (x = b ∧ g = bs) ∨ NewNums h h' (.ref x) g)) := by
  k_with_none
  intro dp un fr gd s mean mg mb Q E X T hd hu hpre ret
  obtain ⟨na, nb⟩ := hpre
  refine' enter (binds := [(Str.ofString "a", .ref a), (Str.ofString "b", .ref b), (Str.ofString "w", .int k u), (Str.ofString "divrem", .ref 217)]) ?kX ?kT ?ho ?hcd ?hroom ?k9 ?kB ?kD ?_ ?c2 ?c3 ?c4 ?c5
  case kX => assumption
  case kT => assumption
  case ho => k_is
  case hcd => k_is
  case hroom => exact room_ok hd
  case k9 => exact BindsTo.of_eq rfl
  case kB => exact locs rfl
  case kD => (simp only [List.map_cons, List.map_nil]; decide)
  case c2 => rfl
  case c3 => rfl
  case c4 => rfl
  case c5 => decide
  intro L' h₁ tk₁ F' N'
  (try dsimp only [kstB_c, kstB_n] at F')
  (try dsimp only)
  (try k_fold)
  k_with "call ref" => k_dflt (k_here; first
    | ((rename Fr _ _ _ _ => lF'); (rename News _ _ _ _ => lN'); (refine' use_tupLL (by first | exact ⟨_, by is_list, by l_ints⟩ | exact ⟨⟨_, by is_list, by l_ints⟩, ⟨_, by is_list, by l_ints⟩⟩ | trivial) (divrem_school_spec w hk hk' hok) (by with_unfolding_all rfl) (by with_reducible assumption) (by with_reducible assumption) lF' lN' (by first | exact dp_ok hd rfl | (with_unfolding_all show (dp + 1) + _ < 900; omega) | (with_unfolding_all show (dp + 2) + _ < 900; omega) | (with_unfolding_all show (dp + 3) + _ < 900; omega) | (with_unfolding_all show (dp + 4) + _ < 900; omega)) (by first | exact dp_ok hu rfl | (with_unfolding_all show (un + 3) + _ < 9000; omega) | (with_unfolding_all show (un + 6) + _ < 9000; omega) | (with_unfolding_all show (un + 9) + _ < 9000; omega) | (with_unfolding_all show (un + 12) + _ < 9000; omega)) ?_); (intro kcq kcx kcr kcus kcn kcc kch kctk kcF kcN kcI); (try clear lF' lN'); (try dsimp only); (try k_fold)))
  k_with "exec While Compare cons nil" => k_dflt (refine stopD ?_)
  k_with "KswEnd" => k_dflt (refine stopD ?_)
  k_steps
  apply StopD.mk
  k_here
  rename Fr _ _ _ _ => lF'
  rename News _ _ _ _ => lN'
  with_unfolding_all refine' ksw_while (σ := Addr × Addr × List Int × List Int × List (Addr × Obj) × Nat) (fun c => c.2.2.2.2.1) (fun c => [(Str.ofString "a", .ref c.1), (Str.ofString "b", .ref c.2.1)]) (fun c => Src s.heap a b as bs c.2.2.2.2.1 c.1 c.2.2.1 ∧ Src s.heap a b as bs c.2.2.2.2.1 c.2.1 c.2.2.2.1) [] (fun c => gcF k c.2.2.2.2.2 c.2.2.1 c.2.2.2.1 = some g) (fun c => c.2.2.2.2.2) (a, b, as, bs, [], fuel) lF' lN' ⟨.inl ⟨rfl, rfl⟩, .inr (.inl ⟨rfl, rfl⟩)⟩ (by kst_all) hg ?_
  clear lF' lN'
  rintro ⟨x, y, xs, ys, nx, n⟩ kU kH kTk ⟨kF0, kF1⟩ kInv kFr kNews
  dsimp only at kF0 kF1 kInv kNews
  dsimp only [kstB_c, kstB_n] at kFr
  obtain ⟨hxv, hxl, hxi⟩ := kF0.nums na nb kFr kNews
  obtain ⟨hyv, hyl, hyi⟩ := kF1.nums na nb kFr kNews
  cases n with
  | zero => cases kInv
  | succ n =>
    rcases gcF_cases kInv with ⟨hy0, hxg⟩ | ⟨hy0, hok, hnext⟩
    · (try dsimp only)
      (try k_fold)
      k_steps
      (try dsimp only)
      subst hxg
      exact ret _ _ _ kFr.keep ⟨x, rfl, kF0.post kNews⟩
    · have hlen := rmOk_len hok
      (try dsimp only)
      (try k_fold)
      k_steps
      apply StopD.mk
      rename Fr _ _ _ _ => F9
      rename News _ _ _ _ => N9
      exact ksw_end (σ := Addr × Addr × List Int × List Int × List (Addr × Obj) × Nat) ⟨y, kcr, ys, rmd k xs ys, _, n⟩ F9 N9 (fun p hp => hp) ⟨kF1.mono (fun p hp => .tail _ (.tail _ (.tail _ hp))), .inr (.inr ⟨kcus, kcn, .tail _ (.tail _ (.head _)), kcI⟩)⟩ (by kst_all) (by ksw_same) hnext (Nat.lt_succ_self n)
  k_with_none

end
section
def TupB (h h' : Heap) (v : Value) (b : Bool) (l : Addr) : Prop := ∃ q c, v = .ref q ∧ h.get? q = none ∧ h'.get? q = some (tupBL b l c)
theorem TupB.of {h h' : Heap} {L q l : Addr} {b : Bool} {c : Nat} {news : List (Addr × Obj)} (N : News h L h' news) (h1 : (q, tupBL b l c) ∈ news) : TupB h h' (.ref q) b l :=
  ⟨q, c, rfl, (N _ h1).2.2, (N _ h1).1⟩
section
variable {w : World} {A : Around} {s : Shared} {Q E : Value → Shared → Prop} {mean : ExcName → Option Value} {mg mb : Str → Option Value} {f : Addr} {need : Nat} {vs : List Value} {h₀ : Heap} {L : Addr} {m : Str → Option Value} {news : List (Addr × Obj)}
theorem use_tupB {b : Bool} {l : Addr} {Pre : Heap → Prop} (pre : Pre s.heap) (S : Spec w f need vs Pre (fun h h' v => TupB h h' v b l)) (hA : A.handled = none) (X₀ : (top0.heap_1 w.params).In h₀) (T : Top vw (looseW vw [Str.ofString "NOUGHT"]) mean mg mb h₀)
    (F : Fr h₀ L s.heap m) (N : News h₀ L s.heap news) (hdp : A.depth + need < 900) (hun : A.units + 10 * need < 9000)
    (k : ∀ q c h' tk', Fr h₀ L h' m → News h₀ L h' ((q, tupBL b l c) :: news) → Q (.ref q) { s with heap := h', toks := tk' }) :
    wpAny (model PySem.Challenge.rw_xm0402_01.row.prog w) A (call (.ref f) vs) Q E s :=
  use_any pre S hA X₀ T F N hdp hun fun h' tk' v F' _ kp x => by
    obtain ⟨q, c, rfl, h1, h2⟩ := x
    exact k q c h' tk' F' (addNews F N kp h1 h2)
end
theorem signed_spec (w : World) {l : Addr} {b : Bool} {ns : List Int} (hl : ns.length < 900) :
    Spec w 121 1 [.bool b, .ref l] (fun h => Nums h l ns) (fun h h' v => TupB h h' v (b && decide (0 < ns.length)) l) := by
  k_with_none
  intro dp un fr gd s mean mg mb Q E X T hd hu hpre ret
  obtain ⟨va, la, ia⟩ := hpre
  refine' enter (binds := [(Str.ofString "is_below", .bool b), (Str.ofString "nat", .ref l)]) ?kX ?kT ?ho ?hcd ?hroom ?k9 ?kB ?kD ?_ ?c2 ?c3 ?c4 ?c5
  case kX => assumption
  case kT => assumption
  case ho => k_is
  case hcd => k_is
  case hroom => exact room_ok hd
  case k9 => exact BindsTo.of_eq rfl
  case kB => exact locs rfl
  case kD => (simp only [List.map_cons, List.map_nil]; decide)
  case c2 => rfl
  case c3 => rfl
  case c4 => rfl
  case c5 => decide
  intro L' h₁ tk₁ F' N'
  (try dsimp only [kstB_c, kstB_n] at F')
  (try dsimp only)
  (try k_fold)
  k_steps
  k_with_none
  all_goals (try dsimp only)
  · refine ret _ _ _ (Fr.keep (by assumption)) ?_
    have e : (b && decide (0 < ns.length)) = decide ((0 : Int) < (ns.length : Int)) := by
      rename b = _ => hb
      rw [hb]; simp
    dsimp only
    rw [e]
    exact TupB.of (by assumption) (by k_memK)
  · refine ret _ _ _ (Fr.keep (by assumption)) ?_
    rename b = _ => hb
    rename News _ _ _ _ => nE
    have e : (b && decide (0 < ns.length)) = b := by
      rw [hb]; simp
    dsimp only
    rw [e]
    exact TupB.of nE (by k_memK)

end
section
def smul (B : Int) (x y : Bool × List Int) : Bool × List Int := let r := norm (muR B x.2 y.2); ((x.1 != y.1) && decide (0 < r.length), r)
theorem s_mul_spec (w : World) {x y : Addr} {b1 b2 : Bool} {as bs : List Int} {k : Int} {u : Tok} (hk : 3 ≤ k) (hk' : k ≤ 8) (ha : as.length < 100) (hb : bs.length < 100) (hall : ∀ x ∈ as, 0 ≤ x ∧ x < 256) (hnl : (norm (muR (2 ^ k.toNat) as bs)).length < 900) :
    Spec w 142 4 [.ref x, .ref y, .int k u, .ref 175] (fun h => Sg h x b1 as ∧ Sg h y b2 bs) (fun h h' v => NewSg h h' v (smul (2 ^ k.toNat) (b1, as) (b2, bs)).1 (smul (2 ^ k.toNat) (b1, as) (b2, bs)).2) := by
  k_with_none
  intro dp un fr gd s mean mg mb Q E X T hd hu hpre ret
  obtain ⟨⟨a, ta, va, la, ia⟩, ⟨b, tb, vb, lb, ib⟩⟩ := hpre
  refine' enter (binds := [(Str.ofString "x", .ref x), (Str.ofString "y", .ref y), (Str.ofString "w", .int k u), (Str.ofString "mul", .ref 175)]) ?kX ?kT ?ho ?hcd ?hroom ?k9 ?kB ?kD ?_ ?c2 ?c3 ?c4 ?c5
  case kX => assumption
  case kT => assumption
  case ho => k_is
  case hcd => k_is
  case hroom => exact room_ok hd
  case k9 => exact BindsTo.of_eq rfl
  case kB => exact locs rfl
  case kD => (simp only [List.map_cons, List.map_nil]; decide)
  case c2 => rfl
  case c3 => rfl
  case c4 => rfl
  case c5 => decide
  intro L' h₁ tk₁ F' N'
  (try dsimp only [kstB_c, kstB_n] at F')
  (try dsimp only)
  (try k_fold)
  k_with "call ref" => k_dflt (k_here; first
    | ((rename Fr _ _ _ _ => lF'); (rename News _ _ _ _ => lN'); (refine' use_list (by first | exact ⟨_, by is_list, by l_ints⟩ | exact ⟨⟨_, by is_list, by l_ints⟩, ⟨_, by is_list, by l_ints⟩⟩ | trivial) (mul_school_spec w hk hk' ha hb hall) (by with_unfolding_all rfl) (by with_reducible assumption) (by with_reducible assumption) lF' lN' (by first | exact dp_ok hd rfl | (with_unfolding_all show (dp + 1) + _ < 900; omega) | (with_unfolding_all show (dp + 2) + _ < 900; omega) | (with_unfolding_all show (dp + 3) + _ < 900; omega) | (with_unfolding_all show (dp + 4) + _ < 900; omega)) (by first | exact dp_ok hu rfl | (with_unfolding_all show (un + 3) + _ < 9000; omega) | (with_unfolding_all show (un + 6) + _ < 9000; omega) | (with_unfolding_all show (un + 9) + _ < 9000; omega) | (with_unfolding_all show (un + 12) + _ < 9000; omega)) ?_); (intro kcr kcus kcn kch kctk kcF kcN kcI kcNe); (try clear lF' lN'); (try dsimp only); (try k_fold))
    | ((rename Fr _ _ _ _ => lF'); (rename News _ _ _ _ => lN'); (refine' use_tupB (by first | exact ⟨_, by is_list, by l_ints⟩ | exact ⟨⟨_, by is_list, by l_ints⟩, ⟨_, by is_list, by l_ints⟩⟩ | trivial) (signed_spec w hnl) (by with_unfolding_all rfl) (by with_reducible assumption) (by with_reducible assumption) lF' lN' (by first | exact dp_ok hd rfl | (with_unfolding_all show (dp + 1) + _ < 900; omega) | (with_unfolding_all show (dp + 2) + _ < 900; omega) | (with_unfolding_all show (dp + 3) + _ < 900; omega) | (with_unfolding_all show (dp + 4) + _ < 900; omega)) (by first | exact dp_ok hu rfl | (with_unfolding_all show (un + 3) + _ < 9000; omega) | (with_unfolding_all show (un + 6) + _ < 9000; omega) | (with_unfolding_all show (un + 9) + _ < 9000; omega) | (with_unfolding_all show (un + 12) + _ < 9000; omega)) ?_); (intro kcq kcc kch kctk kcF kcN); (try clear lF' lN'); (try dsimp only); (try k_fold)))
  k_steps
  k_with_none
  all_goals (try dsimp only)
  refine ret _ _ _ (Fr.keep (by assumption)) ?_
  exact NewSg.of kcN (by k_memK) (by k_memK) kcI

end
section
theorem cmpAt_anti : ∀ (as bs : List Int) (n : Nat), cmpAt as bs n < 0 → ¬ cmpAt bs as n < 0 := by
  intro as bs n
  induction n with
  | zero => intro h; exact fun _ => by cases h
  | succ n ih =>
    unfold cmpAt
    by_cases e : as.getD n 0 = bs.getD n 0
    · rw [if_neg (fun q => q e), if_neg (fun q => q e.symm)]
      exact ih
    · rw [if_pos e, if_pos (Ne.symm e)]
      by_cases l : as.getD n 0 < bs.getD n 0
      · rw [if_pos l, if_neg (by omega)]; omega
      · rw [if_neg l]; omega
theorem cmpL_anti {as bs : List Int} (h : cmpL as bs < 0) : ¬ cmpL bs as < 0 := by
  unfold cmpL at h ⊢
  split at h
  · rename_i h1
    rw [if_pos (Ne.symm h1)]
    split at h
    · rw [if_neg (by omega)]; omega
    · omega
  · rename_i h1
    rw [if_neg (by omega)]
    have h1 : as.length = bs.length := by omega
    rw [← h1]
    exact cmpAt_anti _ _ _ h
def sadd (B : Int) (x y : Bool × List Int) : Bool × List Int :=
  if (x.1 == y.1) = true then (x.1 && decide (0 < (addL B x.2 y.2).length), addL B x.2 y.2)
  else if cmpL x.2 y.2 < 0 then (y.1 && decide (0 < (subL B y.2 x.2).length), subL B y.2 x.2)
  else (x.1 && decide (0 < (subL B x.2 y.2).length), subL B x.2 y.2)
theorem s_add_spec (w : World) {x y : Addr} {b1 b2 : Bool} {as bs : List Int} {k : Int} {u : Tok} (hk : 3 ≤ k) (hk' : k ≤ 8) (ha : as.length < 100) (hb : bs.length < 100)
    (h1 : (addL (2 ^ k.toNat) as bs).length < 900) (h2 : (subL (2 ^ k.toNat) bs as).length < 900) (h3 : (subL (2 ^ k.toNat) as bs).length < 900) :
    Spec w 135 4 [.ref x, .ref y, .int k u] (fun h => Sg h x b1 as ∧ Sg h y b2 bs) (fun h h' v => NewSg h h' v (sadd (2 ^ k.toNat) (b1, as) (b2, bs)).1 (sadd (2 ^ k.toNat) (b1, as) (b2, bs)).2) := by
  k_with_none
  intro dp un fr gd s mean mg mb Q E X T hd hu hpre ret
  obtain ⟨⟨a, ta, va, la, ia⟩, ⟨b, tb, vb, lb, ib⟩⟩ := hpre
  refine' enter (binds := [(Str.ofString "x", .ref x), (Str.ofString "y", .ref y), (Str.ofString "w", .int k u)]) ?kX ?kT ?ho ?hcd ?hroom ?k9 ?kB ?kD ?_ ?c2 ?c3 ?c4 ?c5
  case kX => assumption
  case kT => assumption
  case ho => k_is
  case hcd => k_is
  case hroom => exact room_ok hd
  case k9 => exact BindsTo.of_eq rfl
  case kB => exact locs rfl
  case kD => (simp only [List.map_cons, List.map_nil]; decide)
  case c2 => rfl
  case c3 => rfl
  case c4 => rfl
  case c5 => decide
  intro L' h₁ tk₁ F' N'
  (try dsimp only [kstB_c, kstB_n] at F')
  (try dsimp only)
  (try k_fold)
  k_with "call ref" => k_dflt (k_here; first
    | ((rename Fr _ _ _ _ => lF'); (rename News _ _ _ _ => lN'); (refine' use_int (by first | exact ⟨_, by is_list, by l_ints⟩ | exact ⟨⟨_, by is_list, by l_ints⟩, ⟨_, by is_list, by l_ints⟩⟩ | trivial) (compare_spec w (a := a) (b := b) (as := as) (bs := bs) (by first | assumption | omega | (simp only [List.length_append, List.length_cons, List.length_nil, rangeKs_length, downKs_length] at *; omega)) (by first | assumption | omega | (simp only [List.length_append, List.length_cons, List.length_nil, rangeKs_length, downKs_length] at *; omega))) (by with_unfolding_all rfl) (by with_reducible assumption) (by with_reducible assumption) lF' lN' (by first | exact dp_ok hd rfl | (with_unfolding_all show (dp + 1) + _ < 900; omega) | (with_unfolding_all show (dp + 2) + _ < 900; omega) | (with_unfolding_all show (dp + 3) + _ < 900; omega) | (with_unfolding_all show (dp + 4) + _ < 900; omega)) (by first | exact dp_ok hu rfl | (with_unfolding_all show (un + 3) + _ < 9000; omega) | (with_unfolding_all show (un + 6) + _ < 9000; omega) | (with_unfolding_all show (un + 9) + _ < 9000; omega) | (with_unfolding_all show (un + 12) + _ < 9000; omega)) ?_); (intro kct kch kctk kcF kcN); (try clear lF' lN'); (try dsimp only); (try k_fold))
    | ((rename Fr _ _ _ _ => lF'); (rename News _ _ _ _ => lN'); (refine' use_list (by first | exact ⟨_, by is_list, by l_ints⟩ | exact ⟨⟨_, by is_list, by l_ints⟩, ⟨_, by is_list, by l_ints⟩⟩ | trivial) (add_spec w (a := a) (b := b) (as := as) (bs := bs) hk hk' (by first | assumption | omega | (simp only [List.length_append, List.length_cons, List.length_nil, rangeKs_length, downKs_length] at *; omega)) (by first | assumption | omega | (simp only [List.length_append, List.length_cons, List.length_nil, rangeKs_length, downKs_length] at *; omega))) (by with_unfolding_all rfl) (by with_reducible assumption) (by with_reducible assumption) lF' lN' (by first | exact dp_ok hd rfl | (with_unfolding_all show (dp + 1) + _ < 900; omega) | (with_unfolding_all show (dp + 2) + _ < 900; omega) | (with_unfolding_all show (dp + 3) + _ < 900; omega) | (with_unfolding_all show (dp + 4) + _ < 900; omega)) (by first | exact dp_ok hu rfl | (with_unfolding_all show (un + 3) + _ < 9000; omega) | (with_unfolding_all show (un + 6) + _ < 9000; omega) | (with_unfolding_all show (un + 9) + _ < 9000; omega) | (with_unfolding_all show (un + 12) + _ < 9000; omega)) ?_); (intro kcr kcus kcn kch kctk kcF kcN kcI kcNe); (try clear lF' lN'); (try dsimp only); (try k_fold))
    | ((rename Fr _ _ _ _ => lF'); (rename News _ _ _ _ => lN'); (refine' use_list (by first | exact ⟨_, by is_list, by l_ints⟩ | exact ⟨⟨_, by is_list, by l_ints⟩, ⟨_, by is_list, by l_ints⟩⟩ | trivial) (sub_spec w (a := a) (b := b) (as := as) (bs := bs) hk hk' (by first | assumption | omega | (simp only [List.length_append, List.length_cons, List.length_nil, rangeKs_length, downKs_length] at *; omega)) (by first | assumption | omega | (simp only [List.length_append, List.length_cons, List.length_nil, rangeKs_length, downKs_length] at *; omega)) (by first | assumption | omega | (simp only [List.length_append, List.length_cons, List.length_nil, rangeKs_length, downKs_length] at *; omega))) (by with_unfolding_all rfl) (by with_reducible assumption) (by with_reducible assumption) lF' lN' (by first | exact dp_ok hd rfl | (with_unfolding_all show (dp + 1) + _ < 900; omega) | (with_unfolding_all show (dp + 2) + _ < 900; omega) | (with_unfolding_all show (dp + 3) + _ < 900; omega) | (with_unfolding_all show (dp + 4) + _ < 900; omega)) (by first | exact dp_ok hu rfl | (with_unfolding_all show (un + 3) + _ < 9000; omega) | (with_unfolding_all show (un + 6) + _ < 9000; omega) | (with_unfolding_all show (un + 9) + _ < 9000; omega) | (with_unfolding_all show (un + 12) + _ < 9000; omega)) ?_); (intro kcr kcus kcn kch kctk kcF kcN kcI kcNe); (try clear lF' lN'); (try dsimp only); (try k_fold))
    | ((rename Fr _ _ _ _ => lF'); (rename News _ _ _ _ => lN'); (refine' use_list (by first | exact ⟨_, by is_list, by l_ints⟩ | exact ⟨⟨_, by is_list, by l_ints⟩, ⟨_, by is_list, by l_ints⟩⟩ | trivial) (sub_spec w (a := b) (b := a) (as := bs) (bs := as) hk hk' (by first | assumption | omega | (simp only [List.length_append, List.length_cons, List.length_nil, rangeKs_length, downKs_length] at *; omega)) (by first | assumption | omega | (simp only [List.length_append, List.length_cons, List.length_nil, rangeKs_length, downKs_length] at *; omega)) (cmpL_anti (by assumption))) (by with_unfolding_all rfl) (by with_reducible assumption) (by with_reducible assumption) lF' lN' (by first | exact dp_ok hd rfl | (with_unfolding_all show (dp + 1) + _ < 900; omega) | (with_unfolding_all show (dp + 2) + _ < 900; omega) | (with_unfolding_all show (dp + 3) + _ < 900; omega) | (with_unfolding_all show (dp + 4) + _ < 900; omega)) (by first | exact dp_ok hu rfl | (with_unfolding_all show (un + 3) + _ < 9000; omega) | (with_unfolding_all show (un + 6) + _ < 9000; omega) | (with_unfolding_all show (un + 9) + _ < 9000; omega) | (with_unfolding_all show (un + 12) + _ < 9000; omega)) ?_); (intro kcr kcus kcn kch kctk kcF kcN kcI kcNe); (try clear lF' lN'); (try dsimp only); (try k_fold))
    | ((rename Fr _ _ _ _ => lF'); (rename News _ _ _ _ => lN'); (refine' use_tupB (by first | exact ⟨_, by is_list, by l_ints⟩ | exact ⟨⟨_, by is_list, by l_ints⟩, ⟨_, by is_list, by l_ints⟩⟩ | trivial) (signed_spec w h1) (by with_unfolding_all rfl) (by with_reducible assumption) (by with_reducible assumption) lF' lN' (by first | exact dp_ok hd rfl | (with_unfolding_all show (dp + 1) + _ < 900; omega) | (with_unfolding_all show (dp + 2) + _ < 900; omega) | (with_unfolding_all show (dp + 3) + _ < 900; omega) | (with_unfolding_all show (dp + 4) + _ < 900; omega)) (by first | exact dp_ok hu rfl | (with_unfolding_all show (un + 3) + _ < 9000; omega) | (with_unfolding_all show (un + 6) + _ < 9000; omega) | (with_unfolding_all show (un + 9) + _ < 9000; omega) | (with_unfolding_all show (un + 12) + _ < 9000; omega)) ?_); (intro kcq kcc kch kctk kcF kcN); (try clear lF' lN'); (try dsimp only); (try k_fold))
    | ((rename Fr _ _ _ _ => lF'); (rename News _ _ _ _ => lN'); (refine' use_tupB (by first | exact ⟨_, by is_list, by l_ints⟩ | exact ⟨⟨_, by is_list, by l_ints⟩, ⟨_, by is_list, by l_ints⟩⟩ | trivial) (signed_spec w h2) (by with_unfolding_all rfl) (by with_reducible assumption) (by with_reducible assumption) lF' lN' (by first | exact dp_ok hd rfl | (with_unfolding_all show (dp + 1) + _ < 900; omega) | (with_unfolding_all show (dp + 2) + _ < 900; omega) | (with_unfolding_all show (dp + 3) + _ < 900; omega) | (with_unfolding_all show (dp + 4) + _ < 900; omega)) (by first | exact dp_ok hu rfl | (with_unfolding_all show (un + 3) + _ < 9000; omega) | (with_unfolding_all show (un + 6) + _ < 9000; omega) | (with_unfolding_all show (un + 9) + _ < 9000; omega) | (with_unfolding_all show (un + 12) + _ < 9000; omega)) ?_); (intro kcq kcc kch kctk kcF kcN); (try clear lF' lN'); (try dsimp only); (try k_fold))
    | ((rename Fr _ _ _ _ => lF'); (rename News _ _ _ _ => lN'); (refine' use_tupB (by first | exact ⟨_, by is_list, by l_ints⟩ | exact ⟨⟨_, by is_list, by l_ints⟩, ⟨_, by is_list, by l_ints⟩⟩ | trivial) (signed_spec w h3) (by with_unfolding_all rfl) (by with_reducible assumption) (by with_reducible assumption) lF' lN' (by first | exact dp_ok hd rfl | (with_unfolding_all show (dp + 1) + _ < 900; omega) | (with_unfolding_all show (dp + 2) + _ < 900; omega) | (with_unfolding_all show (dp + 3) + _ < 900; omega) | (with_unfolding_all show (dp + 4) + _ < 900; omega)) (by first | exact dp_ok hu rfl | (with_unfolding_all show (un + 3) + _ < 9000; omega) | (with_unfolding_all show (un + 6) + _ < 9000; omega) | (with_unfolding_all show (un + 9) + _ < 9000; omega) | (with_unfolding_all show (un + 12) + _ < 9000; omega)) ?_); (intro kcq kcc kch kctk kcF kcN); (try clear lF' lN'); (try dsimp only); (try k_fold)))
  k_steps
  k_with_none
  all_goals (try dsimp only)
  all_goals (refine ret _ _ _ (Fr.keep (by assumption)) ?_)
  all_goals (dsimp only)
  all_goals (unfold sadd; dsimp only)
  · rw [if_pos (by assumption)]
    exact NewSg.of kcN (by k_memK) (by k_memK) kcI
  · rename (b1 == b2) = false => e0
    rw [if_neg (by rw [e0]; decide), if_pos (by assumption)]
    exact NewSg.of kcN (by k_memK) (by k_memK) kcI
  · rename (b1 == b2) = false => e0
    rw [if_neg (by rw [e0]; decide), if_neg (by assumption)]
    exact NewSg.of kcN (by k_memK) (by k_memK) kcI

end
section
theorem s_of_spec (w : World) {n k : Int} {t u : Tok} (hk : 3 ≤ k) (hk' : k ≤ 8) (hn : -2000 ≤ n) (hn' : n ≤ 2000) :
    Spec w 128 2 [.int n t, .int k u] (fun _ => True) (fun h h' v => NewSg h h' v (decide (n < 0)) (dg (2 ^ k.toNat) n.natAbs n.natAbs)) := by
  k_with_none
  intro dp un fr gd s mean mg mb Q E X T hd hu hpre ret
  refine' enter (binds := [(Str.ofString "number", .int n t), (Str.ofString "w", .int k u)]) ?kX ?kT ?ho ?hcd ?hroom ?k9 ?kB ?kD ?_ ?c2 ?c3 ?c4 ?c5
  case kX => assumption
  case kT => assumption
  case ho => k_is
  case hcd => k_is
  case hroom => exact room_ok hd
  case k9 => exact BindsTo.of_eq rfl
  case kB => exact locs rfl
  case kD => (simp only [List.map_cons, List.map_nil]; decide)
  case c2 => rfl
  case c3 => rfl
  case c4 => rfl
  case c5 => decide
  intro L' h₁ tk₁ F' N'
  (try dsimp only [kstB_c, kstB_n] at F')
  (try dsimp only)
  (try k_fold)
  k_with "call ref" => k_dflt (k_here; first
    | ((rename Fr _ _ _ _ => lF'); (rename News _ _ _ _ => lN'); (refine' use_list (by first | exact ⟨_, by is_list, by l_ints⟩ | exact ⟨⟨_, by is_list, by l_ints⟩, ⟨_, by is_list, by l_ints⟩⟩ | trivial) (nat_of_spec w hk hk' (by first | assumption | omega | (simp only [List.length_append, List.length_cons, List.length_nil, rangeKs_length, downKs_length] at *; omega)) (by first | assumption | omega | (simp only [List.length_append, List.length_cons, List.length_nil, rangeKs_length, downKs_length] at *; omega))) (by with_unfolding_all rfl) (by with_reducible assumption) (by with_reducible assumption) lF' lN' (by first | exact dp_ok hd rfl | (with_unfolding_all show (dp + 1) + _ < 900; omega) | (with_unfolding_all show (dp + 2) + _ < 900; omega) | (with_unfolding_all show (dp + 3) + _ < 900; omega) | (with_unfolding_all show (dp + 4) + _ < 900; omega)) (by first | exact dp_ok hu rfl | (with_unfolding_all show (un + 3) + _ < 9000; omega) | (with_unfolding_all show (un + 6) + _ < 9000; omega) | (with_unfolding_all show (un + 9) + _ < 9000; omega) | (with_unfolding_all show (un + 12) + _ < 9000; omega)) ?_); (intro kcr kcus kcn kch kctk kcF kcN kcI kcNe); (try clear lF' lN'); (try dsimp only); (try k_fold)))
  k_steps
  k_with_none
  all_goals (try dsimp only)
  refine ret _ _ _ (Fr.keep (by assumption)) ?_
  have e : (if n < 0 then -n else n) = (n.natAbs : Int) := by omega
  rw [e, Int.toNat_natCast] at kcI
  exact NewSg.of (by assumption) (by k_memK) (by k_memK) kcI

end
section
def ip (B : Int) (f x y : Bool × List Int) : Bool × List Int := sadd B f (smul B x y)
def ipOk (B : Int) (f x y : Bool × List Int) : Bool :=
  decide (x.2.length < 100) && decide (y.2.length < 100) && x.2.all (fun z => decide (0 ≤ z ∧ z < 256)) && decide (f.2.length < 100) && decide ((smul B x y).2.length < 100) &&
  decide ((addL B f.2 (smul B x y).2).length < 900) && decide ((subL B (smul B x y).2 f.2).length < 900) && decide ((subL B f.2 (smul B x y).2).length < 900)
theorem ip_mul_spec (w : World) {x y : Addr} {f : Bool × List Int} {b1 b2 : Bool} {as bs : List Int} {k : Int} {u : Tok} (hk : 3 ≤ k) (hk' : k ≤ 8) (hok : ipOk (2 ^ k.toNat) f (b1, as) (b2, bs) = true) :
    Spec w 142 4 [.ref x, .ref y, .int k u, .ref 175] (fun h => Sg h x b1 as ∧ Sg h y b2 bs) (fun h h' v => NewSg h h' v (smul (2 ^ k.toNat) (b1, as) (b2, bs)).1 (smul (2 ^ k.toNat) (b1, as) (b2, bs)).2) := by
  simp only [ipOk, Bool.and_eq_true, decide_eq_true_eq, List.all_eq_true] at hok
  obtain ⟨⟨⟨⟨⟨⟨⟨h1, h2⟩, h3⟩, h4⟩, h5⟩, _⟩, _⟩, _⟩ := hok
  exact s_mul_spec w hk hk' h1 h2 h3 (Nat.lt_trans h5 (by decide))
theorem ip_add_spec (w : World) {x y : Addr} {fb b1 b2 : Bool} {fl as bs : List Int} {k : Int} {u : Tok} (hk : 3 ≤ k) (hk' : k ≤ 8) (hok : ipOk (2 ^ k.toNat) (fb, fl) (b1, as) (b2, bs) = true) :
    Spec w 135 4 [.ref x, .ref y, .int k u] (fun h => Sg h x fb fl ∧ Sg h y (smul (2 ^ k.toNat) (b1, as) (b2, bs)).1 (smul (2 ^ k.toNat) (b1, as) (b2, bs)).2) (fun h h' v => NewSg h h' v (ip (2 ^ k.toNat) (fb, fl) (b1, as) (b2, bs)).1 (ip (2 ^ k.toNat) (fb, fl) (b1, as) (b2, bs)).2) := by
  simp only [ipOk, Bool.and_eq_true, decide_eq_true_eq, List.all_eq_true] at hok
  obtain ⟨⟨⟨⟨⟨_, h4⟩, h5⟩, h6⟩, h7⟩, h8⟩ := hok
  exact s_add_spec w hk hk' (by omega) (by omega) h6 h7 h8
theorem Sg.new {h₀ h : Heap} {L q l : Addr} {b : Bool} {us : List Value} {n c : Nat} {ns : List Int} {news : List (Addr × Obj)} (N : News h₀ L h news) (h1 : (q, tupBL b l c) ∈ news) (h2 : (l, listOf us.toArray n) ∈ news) (hi : IntsAre us ns) : Sg h q b ns :=
  ⟨l, ⟨_, (N _ h1).1, rfl, c, rfl⟩, us, ⟨_, (N _ h2).1, rfl, n, rfl⟩, hi⟩
theorem NewSg.unhide {h g h' : Heap} {v : Value} {b : Bool} {ns : List Int} {own : List (Addr × Obj)} (hg : g = HidL h own) (hk : ∀ p ∈ own, h'.get? p.1 = some p.2) (hr : ∀ p ∈ own, ∃ r l n, p.2 = listOf (List.toArray (.ref r :: l)) n) (S : NewSg g h' v b ns) : NewSg h h' v b ns := by
  subst hg
  obtain ⟨a, l, us, n, c, rfl, h1, h2, h3, h4, hi⟩ := S
  have up : ∀ q, q ∉ own.map (·.1) → (HidL h own).get? q = none → h.get? q = none := fun q hq e => by
    cases x : h.get? q with
    | none => rfl
    | some o => rw [hideAll_get _ x hq] at e; cases e
  refine ⟨a, l, us, n, c, rfl, up _ (fun hm => ?_) h1, h2, up _ (fun hm => ?_) h3, h4, hi⟩
  · obtain ⟨q, hq, e⟩ := List.mem_map.mp hm
    have e1 := hk q hq
    obtain ⟨r, l', n', e2⟩ := hr q hq
    rw [e, h2, e2] at e1
    have h2' : Value.type "tuple" = Value.type "list" := congrArg Obj.cls (Option.some.inj e1)
    injection h2' with h2''
    exact absurd h2'' (by decide)
  · obtain ⟨q, hq, e⟩ := List.mem_map.mp hm
    have e1 := hk q hq
    obtain ⟨r, l', n', e2⟩ := hr q hq
    rw [e, h4, e2] at e1
    have h7 : Data.seq us.toArray n = Data.seq (List.toArray (.ref r :: l')) n' := congrArg Obj.data (Option.some.inj e1)
    injection h7 with h8 h9
    have h10 : us = (.ref r :: l') := by simpa using h8
    subst h10
    cases hi
theorem done_sg {s : Shared} {g h₀ h' : Heap} {L0 L' : Addr} {m' : Str → Option Value} {v : Value} {b : Bool} {ns : List Int} {own news : List (Addr × Obj)} {G : Prop} (hg : g = HidL s.heap own) (N0 : News h₀ L0 s.heap own) (F : Fr g L' h' m') (N : News g L' h' news) (hs : ∀ p ∈ own, p ∈ news)
    (hr : ∀ p ∈ own, ∃ r l n, p.2 = listOf (List.toArray (.ref r :: l)) n) (x : NewSg g h' v b ns) (k : Keep s.heap h' → NewSg s.heap h' v b ns → G) : G :=
  k (hidL_keep hg (fun p hp => (N0 p hp).1) F.keep N hs) (x.unhide hg (fun p hp => (N p (hs p hp)).1) hr)
def inn (B : Int) (x0 x1 x2 y0 y1 y2 : Bool × List Int) : Bool × List Int := ip B (ip B (ip B (false, []) x0 y0) x1 y1) x2 y2
def innOk (B : Int) (x0 x1 x2 y0 y1 y2 : Bool × List Int) : Bool := ipOk B (false, []) x0 y0 && ipOk B (ip B (false, []) x0 y0) x1 y1 && ipOk B (ip B (ip B (false, []) x0 y0) x1 y1) x2 y2
theorem inner_spec (w : World) {x y p0 p1 p2 q0 q1 q2 : Addr} {b0 b1 b2 c0 c1 c2 : Bool} {as0 as1 as2 bs0 bs1 bs2 : List Int} {k : Int} {u : Tok} {n1 n2 : Nat} (hk : 3 ≤ k) (hk' : k ≤ 8)
    (hok : innOk (2 ^ k.toNat) (b0, as0) (b1, as1) (b2, as2) (c0, bs0) (c1, bs1) (c2, bs2) = true) :
    SpecT w 156 7 [(x, listOf #[.ref p0, .ref p1, .ref p2] n1), (y, listOf #[.ref q0, .ref q1, .ref q2] n2)] [.ref x, .ref y, .int k u, .ref 175] (fun h => Sg h p0 b0 as0 ∧ Sg h p1 b1 as1 ∧ Sg h p2 b2 as2 ∧ Sg h q0 c0 bs0 ∧ Sg h q1 c1 bs1 ∧ Sg h q2 c2 bs2) (fun h h' v => NewSg h h' v (inn (2 ^ k.toNat) (b0, as0) (b1, as1) (b2, as2) (c0, bs0) (c1, bs1) (c2, bs2)).1 (inn (2 ^ k.toNat) (b0, as0) (b1, as1) (b2, as2) (c0, bs0) (c1, bs1) (c2, bs2)).2) := by
  k_with_none
  intro dp un gd s mean mg mb Q E A0 base h₀ outer env L0 m0 hf hke B0 F0 N0 X0 T0 hd hu hpre ret
  simp only [innOk, Bool.and_eq_true] at hok
  obtain ⟨⟨hok0, hok1⟩, hok2⟩ := hok
  obtain ⟨sp0, sp1, sp2, sq0, sq1, sq2⟩ := hpre
  refine' enterT (binds := [(Str.ofString "one", .ref x), (Str.ofString "other", .ref y), (Str.ofString "w", .int k u), (Str.ofString "mul", .ref 175)]) hf hke B0 F0 N0 X0 T0 ?ho ?hcd ?hroom ?k9 ?kB ?kD ?_ ?c2 ?c3 ?c4 ?c5
  case ho => k_is
  case hcd => k_is
  case hroom => exact room_ok hd
  case k9 => exact BindsTo.of_eq rfl
  case kB => exact locs rfl
  case kD => (simp only [List.map_cons, List.map_nil]; decide)
  case c2 => rfl
  case c3 => rfl
  case c4 => rfl
  case c5 => decide
  intro g0 L' h₁ tk₁ hg F' N' B X T l1
  (try k_lt l1)
  (try dsimp only [kstB_c, kstB_n] at F')
  (try dsimp only)
  (try k_fold)
  have hr : ∀ p ∈ [(x, listOf #[.ref p0, .ref p1, .ref p2] n1), (y, listOf #[.ref q0, .ref q1, .ref q2] n2)], ∃ r l n, p.2 = listOf (List.toArray (.ref r :: l)) n := by
    intro p hp
    rcases List.mem_cons.mp hp with rfl | hp
    · exact ⟨_, _, _, rfl⟩
    · rw [List.mem_singleton.mp hp]; exact ⟨_, _, _, rfl⟩
  replace sp0 := hidL_sg hg (fun p hp => (N0 p hp).1) hr sp0
  replace sp1 := hidL_sg hg (fun p hp => (N0 p hp).1) hr sp1
  replace sp2 := hidL_sg hg (fun p hp => (N0 p hp).1) hr sp2
  replace sq0 := hidL_sg hg (fun p hp => (N0 p hp).1) hr sq0
  replace sq1 := hidL_sg hg (fun p hp => (N0 p hp).1) hr sq1
  replace sq2 := hidL_sg hg (fun p hp => (N0 p hp).1) hr sq2
  have nought : Sg g0 144 false [] := by
    have e1 := X 144 _ (by k_is)
    have e2 := X 143 _ (by k_is)
    exact ⟨143, ⟨_, e1, rfl, _, rfl⟩, [], ⟨_, e2, rfl, _, rfl⟩, .nil⟩
  k_with "call ref" => k_dflt (k_here; first
    | ((rename Fr _ _ _ _ => lF'); (rename News _ _ _ _ => lN'); (refine' use_sg (by exact ⟨Sg.keep (by assumption) (Fr.keep lF'), Sg.keep (by assumption) (Fr.keep lF')⟩) (ip_mul_spec w hk hk' (by assumption)) (by with_unfolding_all rfl) (by with_reducible assumption) (by with_reducible assumption) lF' lN' (by first | exact dp_ok hd rfl | (with_unfolding_all show (dp + 1) + _ < 900; omega) | (with_unfolding_all show (dp + 2) + _ < 900; omega) | (with_unfolding_all show (dp + 3) + _ < 900; omega) | (with_unfolding_all show (dp + 4) + _ < 900; omega)) (by first | exact dp_ok hu rfl | (with_unfolding_all show (un + 3) + _ < 9000; omega) | (with_unfolding_all show (un + 6) + _ < 9000; omega) | (with_unfolding_all show (un + 9) + _ < 9000; omega) | (with_unfolding_all show (un + 12) + _ < 9000; omega)) ?_); (intro kcq kcr kcus kcn kcc kch kctk kcF kcN kcI); (try clear lF' lN'); (try dsimp only); (try k_fold))
    | ((rename Fr _ _ _ _ => lF'); (rename News _ _ _ _ => lN'); (refine' use_sg (by first | exact ⟨Sg.keep (by assumption) (Fr.keep lF'), Sg.new lN' (by k_memK) (by k_memK) (by assumption)⟩ | exact ⟨Sg.new lN' (by k_memK) (by k_memK) (by assumption), Sg.new lN' (by k_memK) (by k_memK) (by assumption)⟩) (ip_add_spec w hk hk' (by assumption)) (by with_unfolding_all rfl) (by with_reducible assumption) (by with_reducible assumption) lF' lN' (by first | exact dp_ok hd rfl | (with_unfolding_all show (dp + 1) + _ < 900; omega) | (with_unfolding_all show (dp + 2) + _ < 900; omega) | (with_unfolding_all show (dp + 3) + _ < 900; omega) | (with_unfolding_all show (dp + 4) + _ < 900; omega)) (by first | exact dp_ok hu rfl | (with_unfolding_all show (un + 3) + _ < 9000; omega) | (with_unfolding_all show (un + 6) + _ < 9000; omega) | (with_unfolding_all show (un + 9) + _ < 9000; omega) | (with_unfolding_all show (un + 12) + _ < 9000; omega)) ?_); (intro kcq kcr kcus kcn kcc kch kctk kcF kcN kcI); (try clear lF' lN'); (try dsimp only); (try k_fold)))
  k_steps
  k_with_none
  rename Fr _ _ _ _ => lF'
  rename News _ _ _ _ => lN'
  refine done_sg hg N0 lF' lN' (List.forall_mem_cons.mpr ⟨by k_memK, List.forall_mem_cons.mpr ⟨by k_memK, List.forall_mem_nil _⟩⟩) hr (NewSg.of lN' (by k_memK) (by k_memK) (by assumption)) fun z1 z2 => ret _ _ _ z1 z2

end
section
local macro_rules | `(tactic| walk_at "exec For") => `(tactic| (k_here; (rename Fr _ _ _ _ => lF'); (with_unfolding_all refine' For_invVF lF' ?k1 ?k2 ?_; (case k1 => exact rfl); (case k2 => exact rfl); k_whole)))
def wor (B : Int) (ns : List Int) : Int := ns.reverse.foldl (fun a x => a * B + x) 0
theorem law_worth_spec (w : World) {l : Addr} {ns : List Int} {k : Int} {u : Tok} (hk : 3 ≤ k) (hk' : k ≤ 8) (hl : ns.length < 100) :
    Spec w 238 1 [.ref l, .int k u] (fun h => Nums h l ns) (fun _ _ v => ∃ t, v = .int (wor (2 ^ k.toNat) ns) t) := by
  k_with_none
  intro dp un fr gd s mean mg mb Q E X T hd hu hpre ret
  obtain ⟨va, la, ia⟩ := hpre
  have hB1 := bge hk
  have hB2 := ble hk'
  refine' enter (binds := [(Str.ofString "limbs", .ref l), (Str.ofString "w", .int k u)]) ?kX ?kT ?ho ?hcd ?hroom ?k9 ?kB ?kD ?_ ?c2 ?c3 ?c4 ?c5
  case kX => assumption
  case kT => assumption
  case ho => k_is
  case hcd => k_is
  case hroom => exact room_ok hd
  case k9 => exact BindsTo.of_eq rfl
  case kB => exact locs rfl
  case kD => (simp only [List.map_cons, List.map_nil]; decide)
  case c2 => rfl
  case c3 => rfl
  case c4 => rfl
  case c5 => decide
  intro L' h₁ tk₁ F' N'
  (try dsimp only [kstB_c, kstB_n] at F')
  (try dsimp only)
  (try k_fold)
  k_with "pyIter ref" => k_dflt (refine stopD ?_)
  k_with "state" => k_dflt (rw [List.foldl_append]; simp only [List.foldl_cons, List.foldl_nil]; congr 1; congr 1; assumption)
  k_steps
  apply StopD.mk
  k_here
  rename Fr _ _ _ _ => lF'
  rename News _ _ _ _ => lN'
  rename IntsAre _ (List.reverse _) => hI
  with_unfolding_all refine' kst_listL (σ := Int × Tok) (fun _ => [(_, listOf (List.toArray _) 0)]) (fun c => [(Str.ofString "worth", .int c.1 c.2)]) (fun _ => True) [] (fun pre c => c.1 = pre.foldl (fun a x => a * 2 ^ k.toNat + x) 0) (0, _) (by rfl) (fun _ => List.Mem.head _) hI lF' lN' trivial (by kst_all) (by rfl) ?_ ?_
  · rintro ⟨wo, wt⟩ pre post n nt kU kH kTk kOwn kEq kMem kOff - kI0 kFr kNews
    clear lF' lN'
    (try dsimp only [kstB_c, kstB_n] at kFr)
    (try dsimp only at kNews)
    (try dsimp only at kI0)
    (try simp only [List.nil_append, List.cons_append, List.append_nil] at kNews)
    (try dsimp only)
    (try k_fold)
    k_steps
  · rintro ⟨wo, wt⟩ kU kH kTk - kI0 kFr kNews
    clear lF' lN'
    (try dsimp only [kstB_c, kstB_n] at kFr)
    (try dsimp only at kNews)
    (try dsimp only at kI0)
    (try dsimp only)
    (try k_fold)
    k_steps
    refine ret _ _ _ (Fr.keep (by assumption)) ⟨_, congrArg (fun z => Value.int z _) kI0⟩
  k_with_none

end
local macro_rules | `(tactic| walk_at "CompSrc") => `(tactic| (k_here; k_dflt (first
  | (refine LCg.CompSrc.ledger (by rfl) (by k_asm) (by k_asm) (by k_mem) (by first | size_fits | exact Nat.le_of_ble_eq_true rfl) ?_; intro g'; lcg_lit)
  | (refine LCg.CompSrc.base (by rfl) (by k_asm) (by k_asm) (by assumption) (by first | size_fits | exact Nat.le_of_ble_eq_true rfl) ?_; intro g'; lcg_lit)
  | (refine LCg.CompSrc.range (by rfl) (by k_asm) (by k_asm) (by assumption) (by first | decide | rfl) (by first | rfl | decide) (by first | size_fits | exact Nat.le_of_ble_eq_true rfl) ?_; intro g'; lcg_lit))))
local macro_rules | `(tactic| k_room) => `(tactic| ((try simp only [depth_under_make, depth_under_kw, depth_in1, depth_deeper, depth_caller]); (simp only [recursionLimit]); omega))
local macro_rules | `(tactic| k_ne) => `(tactic| (refine neN ?_; (try dsimp only); k_dflt (first
  | exact ltN_get (by with_reducible assumption) (by k_memK)
  | exact Ne.symm (ltN_get (by with_reducible assumption) (by k_memK))
  | exact AllNeN.get (by with_reducible assumption) (by k_memK)
  | exact AllNeN.get' (by with_reducible assumption) (by k_memK)
  | exact off_I (by with_reducible assumption) (by k_memK)
  | exact off_C (by with_reducible assumption) (by k_memK)
  | exact off_D (by with_reducible assumption) (by k_memK)
  | exact Ne.symm (off_I (by with_reducible assumption) (by k_memK))
  | exact Ne.symm (off_C (by with_reducible assumption) (by k_memK))
  | exact Ne.symm (off_D (by with_reducible assumption) (by k_memK))
  | exact off1_D (by with_reducible assumption) (by k_memK)
  | exact Ne.symm (off1_D (by with_reducible assumption) (by k_memK))
  | omega)))
local macro_rules | `(tactic| walk_at "CompRest") => `(tactic| (with_unfolding_all first
  | (refine LCg.CompRest.succ ?_; intro v' I' oI' C' oC' D' m' h' tk' E' hv' hC' hx' F' N' off' ne'; (first | lcg_open hv' | (obtain ⟨t9', hv9'⟩ := hv'; subst hv9')))
  | refine LCg.CompRest.zero ?_))
local macro_rules | `(tactic| walk_at "FinE") => `(tactic| ((unfold LCg.FinE); intro D' h' tk' F' N' o1'; (try simp only [List.nil_append, List.cons_append] at N'); (try dsimp only)))
local macro_rules | `(tactic| walk_at "FinA") => `(tactic| ((unfold LCg.FinA); intro D' h' tk' F' N' o1'; (try simp only [List.nil_append, List.cons_append] at N'); (try dsimp only)))
local macro_rules | `(tactic| k_lt $h:ident) => `(tactic| (replace $h := allLt_of $h))
local macro_rules | `(tactic| walk_at $s:str) => `(tactic| k_extra $s)
section
theorem om_six {k : Int} (hk : 3 ≤ k) (hk' : k ≤ 8) : k = 3 ∨ k = 4 ∨ k = 5 ∨ k = 6 ∨ k = 7 ∨ k = 8 := by omega
def ltL : List Int → List Int → Bool
  | [], [] => false
  | [], _ :: _ => true
  | _ :: _, [] => false
  | a :: as, b :: bs => if a = b then ltL as bs else decide (a < b)
open PySem.SeqAt PySem.AutoSeq1 PySem.MeetsSeq PySem.MeetsSeq2 PySem.MeetsSeq3 PySem.SeqRoads2 in
theorem lt_loopAt (l b : Addr) (items items2 : Array Value) (xs ys : List Int) (hx : IntsAre items.toList xs) (hy : IntsAre items2.toList ys) (n n2 : Nat) (dd dd2 : Option Addr) (sl sl2 : Array (Option Value)) (k : Nat) :
    ∀ i : Nat, items.size - i = k → i ≤ items.size → i ≤ items2.size → Meets (Builtin.«list.__eq__.loop» ⟨[.ref l, .ref b, rawInt i, rawInt 0], []⟩)
      (fun A R s => s.heap.get? l = some { cls := .type "list", dict := dd, data := .seq items n, slots := sl } ∧ s.heap.get? b = some { cls := .type "list", dict := dd2, data := .seq items2 n2, slots := sl2 } ∧
        R (.ok (.ret (.bool (ltL (xs.drop i) (ys.drop i))))) s) := by
  have lx : xs.length = items.size := by have := hx.length; simpa using this.symm
  have ly : ys.length = items2.size := by have := hy.length; simpa using this.symm
  induction k with
  | zero =>
    intro i hk hi1 hi2 prog w A R s h
    obtain ⟨hp, g, d, tk, os⟩ := s; obtain ⟨hl, hb, h⟩ := h
    wp_walk using wpAny_loadPart' hl, wpAny_loadPart' hb
    have e1 : items[((i : Nat) : Int).toNat]? = none := by simp; omega
    have hd : xs.drop i = [] := by simp; omega
    rw [hd] at h
    rw [e1]
    wp_walk using wpAny_loadPart' hl, wpAny_loadPart' hb
    show R (.ok (.ret (.bool (decide (items.size < items2.size))))) _
    have e2 : ltL [] (ys.drop i) = decide (items.size < items2.size) := by
      rcases Nat.lt_or_ge i items2.size with h1 | h1
      · rw [List.drop_eq_getElem_cons (by omega)]
        show true = _
        exact (decide_eq_true (by omega)).symm
      · have : ys.drop i = [] := by simp; omega
        rw [this]
        show false = _
        exact (decide_eq_false (by omega)).symm
    rw [e2] at h
    exact h
  | succ k ih =>
    intro i hk hi1 hi2 prog w A R s h
    obtain ⟨hp, g, d, tk, os⟩ := s; obtain ⟨hl, hb, h⟩ := h
    wp_walk using wpAny_loadPart' hl, wpAny_loadPart' hb
    have hlt : i < items.size := by omega
    have e1 : items[((i : Nat) : Int).toNat]? = some items[i] := by simp [hlt]
    obtain ⟨t, hxi⟩ := hx.get i xs[i] (by simp)
    have hxv : items[i] = .int xs[i] t := by
      have : items[i]? = some (.int xs[i] t) := by simpa using hxi
      rw [Array.getElem?_eq_getElem hlt] at this
      exact Option.some.inj this
    have hdx : xs.drop i = xs[i] :: xs.drop (i + 1) := List.drop_eq_getElem_cons (by omega)
    rw [e1]
    rcases Nat.lt_or_ge i items2.size with hlt2 | hge2
    · have e2 : items2[((i : Nat) : Int).toNat]? = some items2[i] := by simp [hlt2]
      obtain ⟨u, hyi⟩ := hy.get i ys[i] (by simp)
      have hyv : items2[i] = .int ys[i] u := by
        have : items2[i]? = some (.int ys[i] u) := by simpa using hyi
        rw [Array.getElem?_eq_getElem hlt2] at this
        exact Option.some.inj this
      have hdy : ys.drop i = ys[i] :: ys.drop (i + 1) := List.drop_eq_getElem_cons (by omega)
      have hc : ((i : Int) + 1) = ((i + 1 : Nat) : Int) := by push_cast; rfl
      rw [hdx, hdy] at h
      rw [e2]
      rw [hxv, hyv]
      refine wpAny_bind (PySem.SeqAt.EqAt.int_int xs[i] t ys[i] u prog w _ _ ?_)
      by_cases heq : xs[i] = ys[i]
      · have hb' : (xs[i] == ys[i]) = true := by simpa using heq
        have h' : ltL (xs[i] :: xs.drop (i + 1)) (ys[i] :: ys.drop (i + 1)) = ltL (xs.drop (i + 1)) (ys.drop (i + 1)) := if_pos heq
        rw [h'] at h
        rw [hb']
        wp_walk
        rw [hc]
        exact ⟨plainId_quiet plain_eq_loop _, codeAny_builtin entry_eq_loop (by
          rw [Around.under_plainId plain_eq_loop _]
          exact ih (i + 1) (by omega) (by omega) (by omega) prog w A R _ ⟨hl, hb, h⟩)⟩
      · have hb' : (xs[i] == ys[i]) = false := by simpa using heq
        have h' : ltL (xs[i] :: xs.drop (i + 1)) (ys[i] :: ys.drop (i + 1)) = decide (xs[i] < ys[i]) := if_neg heq
        rw [h'] at h
        rw [hb']
        wp_walk using wpAny_loadPart' hl, wpAny_loadPart' hb
        rw [e1, e2, hxv, hyv]
        refine wpAny_bind ?_
        show wpAny _ _ (compareOp .Lt (.int xs[i] t) (.int ys[i] u)) _ _ _
        refine PyProof.Rows.lt_int ?_
        wp_walk
        exact h
    · have e2 : items2[((i : Nat) : Int).toNat]? = none := by simp; omega
      have hdy : ys.drop i = [] := by simp; omega
      rw [hdx, hdy] at h
      rw [e2]
      wp_walk using wpAny_loadPart' hl, wpAny_loadPart' hb
      show R (.ok (.ret (.bool (decide (items.size < items2.size))))) _
      have e3 : decide (items.size < items2.size) = ltL (xs[i] :: xs.drop (i + 1)) [] := by
        show _ = false
        exact decide_eq_false (by omega)
      rw [e3]
      exact h
open PySem.SeqAt PySem.AutoSeq1 PySem.MeetsSeq PySem.MeetsSeq2 PySem.MeetsSeq3 PySem.SeqRoads2 in
theorem list_ltAt (l b : Addr) (items items2 : Array Value) (xs ys : List Int) (hx : IntsAre items.toList xs) (hy : IntsAre items2.toList ys) (n n2 : Nat) (dd dd2 : Option Addr) (sl sl2 : Array (Option Value)) :
    Meets (Builtin.«list.__lt__» ⟨[.ref l, .ref b], []⟩)
      (fun A R s => s.heap.get? l = some { cls := .type "list", dict := dd, data := .seq items n, slots := sl } ∧ s.heap.get? b = some { cls := .type "list", dict := dd2, data := .seq items2 n2, slots := sl2 } ∧
        R (.ok (.ret (.bool (ltL xs ys)))) s) := by
  intro prog w A R s h
  obtain ⟨hp, g, d, tk, os⟩ := s; obtain ⟨hl, hb, h⟩ := h
  have f3 := AutoSeq1.sub_list_list
  wp_walk using wpAny_loadPart' hl, wpAny_loadPart' hb
  exact ⟨plainId_quiet plain_eq_loop _, codeAny_builtin entry_eq_loop (by
    rw [Around.under_plainId plain_eq_loop _]
    exact lt_loopAt l b items items2 xs ys hx hy n n2 dd dd2 sl sl2 _ 0 rfl (Nat.zero_le _) (Nat.zero_le _) prog w A R _ ⟨hl, hb, h⟩)⟩
section
variable {prog : Program} {w : World} {A : Around} {E : Value → Shared → Prop} {s : Shared}
theorem call_list_lt {l b : Addr} {xs ys : List Int} {Q : Value → Shared → Prop} (hl : Nums s.heap l xs) (hb : Nums s.heap b ys) (h : Q (.bool (ltL xs ys)) s) :
    wpAny (model prog w) A (call (.builtin "list.__lt__") [.ref l, .ref b]) Q E s := by
  obtain ⟨vs, ⟨⟨cls, dd, data, sl⟩, ho, hc, n, hd⟩, hi⟩ := hl
  obtain ⟨vs2, ⟨⟨cls2, dd2, data2, sl2⟩, ho2, hc2, n2, hd2⟩, hi2⟩ := hb
  simp only at hc hd hc2 hd2
  subst hc hd hc2 hd2
  exact call_meets F.slot_list_lt ⟨_, ho, rfl⟩ F.entry_list_lt (F.args_list_lt_2 _ _) (list_ltAt l b _ _ xs ys (by simpa using hi) (by simpa using hi2) n n2 dd dd2 sl sl2) ⟨ho, ho2, h⟩
theorem nums_type {h : Heap} {l : Addr} {xs : List Int} (x : Nums h l xs) : ∃ o, h.get? l = some o ∧ o.cls = .type "list" := by
  obtain ⟨vs, ⟨o, ho, hc, _⟩, _⟩ := x
  exact ⟨o, ho, hc⟩
theorem key_list_lt {l b : Addr} {xs ys : List Int} {Q : Bool → Shared → Prop} (hu : A.units < cLine) (hl : Nums s.heap l xs) (hb : Nums s.heap b ys) (h : Q (ltL xs ys) s) :
    wpAny (model prog w) A (keyLt' oneType' (.ref l) (.ref b)) Q E s := by
  rw [keyLt'_oneType, oneLt'_eq]
  simp only [if_true]
  refine wpAny_bind (wpAny_cRoomFor hu ?_)
  have ht : s.TypeIs (.ref l) "list" := nums_type hl
  refine wpAny_bind (wpAny_callSpecialIfBound?_slot ht F.slot_list_lt (call_list_lt hl hb ?_))
  exact wpAny_truthy_bool h
end
def kRun {α : Type} (n : Nat) (lt : Nat → Nat → Bool) : KasT α → Option α
  | .ret a => some a
  | .ask i j k => if i < n ∧ j < n then kRun n lt (k (lt i j)) else none
theorem kas_run {α : Type} {cmp : Nat → Nat → (Bool → Shared → Prop) → Shared → Prop} {n : Nat} {lt : Nat → Nat → Bool} {s : Shared} {Q : α → Shared → Prop} {r : α} (h : ∀ i j (C : Bool → Shared → Prop), i < n → j < n → C (lt i j) s → cmp i j C s) :
    ∀ {t : KasT α}, kRun n lt t = some r → Q r s → t.kasWp cmp Q s
  | .ret a, e, q => by
    have e' : a = r := Option.some.inj e
    subst e'
    exact q
  | .ask i j k, e, q => by
    have e' : (if i < n ∧ j < n then kRun n lt (k (lt i j)) else none) = some r := e
    by_cases c : i < n ∧ j < n
    · rw [if_pos c] at e'
      exact h i j _ c.1 c.2 (kas_run h e' q)
    · rw [if_neg c] at e'; cases e'
theorem looks_list {M : Model} {h : Heap} {l : Addr} {o : Obj} (e : h.get? l = some o) (hc : o.cls = .type "list") : Looks M h (typeOf (.ref l)) (.type "list") := hc ▸ (Looks.ld e).andThen .now
/-- each of the addresses holds its ints, in the ledger -/
inductive TrisIn (news : List (Addr × Obj)) : List Addr → List (List Int) → Prop
  | nil : TrisIn news [] []
  | cons {a : Addr} {us : List Value} {c : Nat} {xs : List Int} {as : List Addr} {cs : List (List Int)} : (a, listOf us.toArray c) ∈ news → IntsAre us xs → TrisIn news as cs → TrisIn news (a :: as) (xs :: cs)
theorem TrisIn.mono {news news' : List (Addr × Obj)} (hs : ∀ p ∈ news, p ∈ news') : ∀ {as : List Addr} {cs : List (List Int)}, TrisIn news as cs → TrisIn news' as cs
  | _, _, .nil => .nil
  | _, _, .cons h i r => .cons (hs _ h) i (r.mono hs)
theorem TrisIn.length {news : List (Addr × Obj)} : ∀ {as : List Addr} {cs : List (List Int)}, TrisIn news as cs → as.length = cs.length
  | _, _, .nil => rfl
  | _, _, .cons _ _ r => by rw [List.length_cons, List.length_cons, r.length]
theorem TrisIn.append {news : List (Addr × Obj)} : ∀ {as bs : List Addr} {cs ds : List (List Int)}, TrisIn news as cs → TrisIn news bs ds → TrisIn news (as ++ bs) (cs ++ ds)
  | _, _, _, _, .nil, y => y
  | _, _, _, _, .cons h i r, y => .cons h i (r.append y)
theorem TrisIn.at {news : List (Addr × Obj)} : ∀ {as : List Addr} {cs : List (List Int)}, TrisIn news as cs → ∀ i, i < as.length → ∃ us c, (as.getD i 0, listOf (List.toArray us) c) ∈ news ∧ IntsAre us (cs.getD i [])
  | _, _, .nil, i, h => absurd h (Nat.not_lt_zero _)
  | _, _, .cons h x r, 0, _ => ⟨_, _, h, x⟩
  | _, _, .cons h x r, i + 1, hi => r.at i (Nat.lt_of_succ_lt_succ hi)
theorem TrisIn.pick {news : List (Addr × Obj)} {as : List Addr} {cs : List (List Int)} (T : TrisIn news as cs) : ∀ {p : List Nat}, (∀ i ∈ p, i < as.length) → TrisIn news (p.map fun i => as.getD i 0) (p.map fun i => cs.getD i [])
  | [], _ => .nil
  | i :: p, h => by
    obtain ⟨us, c, hm, hi⟩ := T.at i (h i (.head _))
    exact .cons hm hi (T.pick fun j hj => h j (.tail _ hj))
theorem getD_ref {as : List Addr} {i : Nat} (h : i < as.length) : (as.map Value.ref).getD i Value.none = .ref (as.getD i 0) := by
  simp [h]
def sortP (cs : List (List Int)) : Option (List Nat) := ((kRun cs.length (fun i j => ltL (cs.getD i []) (cs.getD j [])) (kas_sort cs.length)).map Array.toList)
section
variable {prog : Program} {w : World} {A : Around} {E : Value → Shared → Prop} {s : Shared} {h₀ : Heap} {L : Addr} {m : Str → Option Value} {news : List (Addr × Obj)}
theorem sorted_tris {l : Addr} {c : Nat} {as : List Addr} {cs : List (List Int)} {p : List Nat} {Q : Value → Shared → Prop} (F : Fr h₀ L s.heap m) (N : News h₀ L s.heap news) (hm : (l, listOf (as.map Value.ref).toArray c) ∈ news) (T : TrisIn news as cs)
    (h2 : 2 ≤ cs.length) (h64 : cs.length < 64) (hp : sortP cs = some p) (hin : ∀ i ∈ p, i < cs.length) (hu : A.units + 2 < cLine)
    (k : ∀ D c' h', Fr h₀ L h' m → News h₀ L h' ((D, listOf ((p.map fun i => as.getD i 0).map Value.ref).toArray c') :: news) → (∀ q ∈ news, q.1 < D) → Q (.ref D) { s with heap := h' }) :
    wpAny (model prog w) A (call (.builtin "sorted") [.ref l]) Q E s := by
  have hlen := T.length
  have hvl : (as.map Value.ref).length = cs.length := by rw [List.length_map, hlen]
  refine kas_sorted (T := .type "list") (vs := as.map Value.ref) F N ⟨_, (N _ hm).1, rfl, _, rfl⟩ (by omega) (by omega) ?_ (by decide) ?_
  · intro h' F' N' v hv
    obtain ⟨a, ha, rfl⟩ := List.mem_map.mp hv
    obtain ⟨i, hi, rfl⟩ := List.getElem_of_mem ha
    obtain ⟨us, c', hm', -⟩ := T.at i hi
    have e : as.getD i 0 = as[i] := by simp [hi]
    rw [e] at hm'
    exact looks_list (N' _ hm').1 rfl
  · intro D e1 h' F' N' hlt
    obtain ⟨pa, hpa, rfl⟩ := Option.map_eq_some_iff.mp hp
    rw [hvl]
    refine kas_run (n := cs.length) (lt := fun i j => ltL (cs.getD i []) (cs.getD j [])) ?_ hpa ?_
    · intro i j C hi hj hC
      obtain ⟨us, c1, m1, i1⟩ := T.at i (by omega)
      obtain ⟨vs, c2, m2, i2⟩ := T.at j (by omega)
      show wpAny _ _ (keyLt' oneType' _ _) _ _ _
      rw [getD_ref (by omega), getD_ref (by omega)]
      exact key_list_lt (by rw [units_in1, units_in1]; omega) (nums_of (N' _ (.tail _ m1)).1 i1) (nums_of (N' _ (.tail _ m2)).1 i2) hC
    · refine KasFin.intro F' N' (g := fun o => (D, o) :: news) (.head (fun q hq => Nat.ne_of_lt (hlt q hq))) fun h2 c2 F2 N2 => ?_
      have e : (pa.toList.map fun i => (as.map Value.ref).getD i Value.none) = (pa.toList.map fun i => as.getD i 0).map Value.ref := by
        rw [List.map_map]
        refine List.map_congr_left fun i hi => ?_
        exact getD_ref (by have := hin i hi; omega)
      rw [e] at N2
      exact k D c2 h2 F2 N2 hlt
end

end
section
section
variable {prog : Program} {w : World} {A : Around} {E : Value → Shared → Prop} {s : Shared} {env : Env} {h₀ : Heap} {x : Str} {body : List Stmt} {Q : Flow → Shared → Prop} {σ : Type}
def FfEnd (h₀ : Heap) (L : Addr) (Led : σ → List (Addr × Obj)) (ps : σ → List (Str × Value)) (Facts : σ → Prop) (stored : List Str) (x : Str) (m₀ : Str → Option Value) (P : Nat → σ → Prop) (i : Nat) (own : List (Addr × Obj)) (s₁ s₂ : Shared) : Prop :=
  ∃ (c' : σ) (h' : Heap) (tk : Nat) (m' : Str → Option Value) (news' : List (Addr × Obj)), s₂ = { s₁ with heap := h', toks := tk } ∧ Fr h₀ L h' m' ∧ News h₀ L h' news' ∧ (∀ p ∈ Led c', p ∈ news') ∧ (∀ p ∈ own, p ∈ news') ∧ (∀ p ∈ Led c', AllNeN p.1 own) ∧ Facts c' ∧ (∀ p ∈ ps c', m' p.1 = some p.2) ∧ (∀ z, z ≠ x → (∀ p ∈ ps c', z ≠ p.1) → stored.contains z = false → m' z = m₀ z) ∧ P (i + 1) c'
def FfPost (h₀ : Heap) (L : Addr) (Led : σ → List (Addr × Obj)) (ps : σ → List (Str × Value)) (Facts : σ → Prop) (stored : List Str) (x : Str) (m₀ : Str → Option Value) (P : Nat → σ → Prop) (i : Nat) (own : List (Addr × Obj)) (s₁ : Shared) (Q : Flow → Shared → Prop) (f : Flow) (s₂ : Shared) : Prop :=
  match f with
  | .ret v => Q (.ret v) s₂
  | .brk => Q .next s₂
  | _ => FfEnd h₀ L Led ps Facts stored x m₀ P i own s₁ s₂
theorem ff_end {L : Addr} {Led : σ → List (Addr × Obj)} {ps : σ → List (Str × Value)} {Facts : σ → Prop} {stored : List Str} {m₀ m' : Str → Option Value} {P : Nat → σ → Prop} {i : Nat} {own news' : List (Addr × Obj)} {s₁ : Shared} {h' : Heap} {tk : Nat} (c' : σ)
    (F : Fr h₀ L h' m') (N : News h₀ L h' news') (hl : ∀ p ∈ Led c', p ∈ news') (ho : ∀ p ∈ own, p ∈ news') (hne : ∀ p ∈ Led c', AllNeN p.1 own) (hf : Facts c') (hk : ∀ p ∈ ps c', m' p.1 = some p.2)
    (hr : ∀ z, z ≠ x → (∀ p ∈ ps c', z ≠ p.1) → stored.contains z = false → m' z = m₀ z) (hp : P (i + 1) c') : FfEnd h₀ L Led ps Facts stored x m₀ P i own s₁ { s₁ with heap := h', toks := tk } :=
  ⟨c', h', tk, m', news', rfl, F, N, hl, ho, hne, hf, hk, hr, hp⟩
theorem for_walk {I : Addr} {fp wr : List Addr} {n : Nat} {Pv : Nat → Value → Prop} {St : Nat → Heap → Prop} {m₀ : Str → Option Value} (Led : σ → List (Addr × Obj)) (ps : σ → List (Str × Value)) (Facts : σ → Prop) (stored : List Str) (P : Nat → σ → Prop) (c₀ : σ)
    (W : Walks prog w A I fp wr n Pv St) (hLf : env.locals ∉ fp) (hwr : ∀ b ∈ wr, h₀.get? b = none) (hlive : ∀ i h, St i h → ∀ b ∈ fp, ∃ o, h.get? b = some o) (hfp : ∀ p ∈ Led c₀, p.1 ∉ fp) (hst : St 0 s.heap)
    (F : Fr h₀ env.locals s.heap m₀) (N : News h₀ env.locals s.heap (Led c₀)) (hf : Facts c₀) (hk : ∀ p ∈ ps c₀, m₀ p.1 = some p.2) (hp : P 0 c₀)
    (turn : ∀ (c : σ) i v (u : Str → Option Value) h tk own, i < n → Pv i v → (∀ p ∈ Led c, AllNeN p.1 own) → Facts c → P i c →
      Fr h₀ env.locals h (fun y => if y = x then some v else kstB (fun z => if stored.contains z then u z else m₀ z) (ps c) y) → News h₀ env.locals h (Led c ++ own) →
      wpAny (model prog w) A (execs body env) (FfPost h₀ env.locals Led ps Facts stored x m₀ P i own { s with heap := h, toks := tk } Q) E { s with heap := h, toks := tk })
    (done : ∀ (c : σ) (u : Str → Option Value) h tk, Facts c → P n c → Fr h₀ env.locals h (fun y => if y = x then u y else kstB (fun z => if stored.contains z then u z else m₀ z) (ps c) y) → News h₀ env.locals h (Led c) → Q .next { s with heap := h, toks := tk }) :
    LoopAtV prog w A h₀ env x body Q E (.ref I) s := by
  have base_off : ∀ {h : Heap} {l : List (Addr × Obj)} {b : Addr} {o : Obj}, News h₀ env.locals h l → h₀.get? b = some o → ∀ p ∈ l, p.1 ≠ b := fun N e p hp q => by rw [← q, (N p hp).2.2] at e; cases e
  let J : Nat → (Str → Option Value) → List (Addr × Obj) → Prop := fun i m nx => ∃ c, nx = Led c ∧ (∀ p ∈ nx, p.1 ∉ fp) ∧ Facts c ∧ (∀ p ∈ ps c, m p.1 = some p.2) ∧ (∀ z, z ≠ x → (∀ p ∈ ps c, z ≠ p.1) → stored.contains z = false → m z = m₀ z) ∧ P i c
  refine ⟨I, fp, wr, n, Pv, St, m₀, Led c₀, J, rfl, W, hLf, hwr, (fun p hp q => hfp p hp (W.sub _ q)), hst, F, N, ⟨c₀, rfl, hfp, hf, hk, fun _ _ _ _ => rfl, hp⟩, ?_, ?_⟩
  · rintro i v m₁ news₁ s₁ own ⟨hh, tk, rfl⟩ hin hP ⟨c, rfl, hcf, hf', h1, h2, hp'⟩ hoff hown hol hmem hst' F₁ N₁
    have N₂ : News h₀ env.locals hh (Led c ++ own) := fun p hp => N₁ p ((List.mem_append.mp hp).elim (fun h => List.mem_append.mpr (.inr h)) fun h => List.mem_append.mpr (.inl h))
    have hsep : ∀ p ∈ Led c, AllNeN p.1 own := fun p hp => allNeN_of fun q hq e => hcf p hp (e ▸ hown q hq)
    refine wpAny_mono (turn c i v m₁ hh tk own hin hP hsep hf' hp' (kst_fr h1 h2 F₁) N₂) (fun f s₂ p => ?_) fun _ _ e => e
    have fin : FfEnd h₀ env.locals Led ps Facts stored x m₀ P i own { s with heap := hh, toks := tk } s₂ → LoopStepU h₀ env.locals wr own (J (i + 1)) { s with heap := hh, toks := tk } .next s₂ := by
      rintro ⟨c', h', tk', m', news', rfl, F', N', hl, ho, hne, hf9, hk9, hr9, hp9⟩
      have off : ∀ p ∈ Led c', p.1 ∉ fp := fun p hp hq => by
        cases e : h₀.get? p.1 with
        | some o => exact base_off N' e p (hl p hp) rfl
        | none =>
          obtain ⟨o, ho'⟩ := hlive (i + 1) hh hst' p.1 hq
          exact (hne p hp).get (hmem p.1 hq e o ho') rfl
      refine ⟨rfl, h', tk', m', Led c', rfl, F', fun p hp => N' p ((List.mem_append.mp hp).elim (ho p) (hl p)), fun p hp hq => off p hp (W.sub _ hq), c', rfl, off, hf9, hk9, hr9, hp9⟩
    cases f with
    | ret v => exact .ret p
    | brk => exact .brk p
    | next => exact .next (fin p)
    | cont => exact .cont (fin p)
  · rintro h' tk m' news' F' N' _ ⟨c, rfl, _, hf', h1, h2, hp'⟩
    exact done c m' h' tk hf' hp' (kst_frOut h1 h2 F') N'
theorem for_range {r : Addr} {a₀ b₀ st : Int} {t₀ u₀ v₀ : Tok} {n : Nat} {m₀ : Str → Option Value} (Led : σ → List (Addr × Obj)) (ps : σ → List (Str × Value)) (Facts : σ → Prop) (stored : List Str) (P : Nat → σ → Prop) (c₀ : σ)
    (hh : A.handled = none) (hr : IsRange s.heap r a₀ b₀ st t₀ u₀ v₀) (hsmall : Builtin.Range.small a₀ b₀ st = true) (hn : Builtin.Range.rangeSize a₀ b₀ st = (n : Int))
    (F : Fr h₀ env.locals s.heap m₀) (N : News h₀ env.locals s.heap (Led c₀)) (hf : Facts c₀) (hk : ∀ p ∈ ps c₀, m₀ p.1 = some p.2) (hp : P 0 c₀)
    (turn : ∀ (c : σ) (i : Nat) t (u : Str → Option Value) h tk own, i < n → (∀ p ∈ Led c, AllNeN p.1 own) → Facts c → P i c →
      Fr h₀ env.locals h (fun y => if y = x then some (.int (a₀ + i * st) t) else kstB (fun z => if stored.contains z then u z else m₀ z) (ps c) y) → News h₀ env.locals h (Led c ++ own) →
      wpAny (model prog w) A (execs body env) (FfPost h₀ env.locals Led ps Facts stored x m₀ P i own { s with heap := h, toks := tk } Q) E { s with heap := h, toks := tk })
    (done : ∀ (c : σ) (u : Str → Option Value) h tk, Facts c → P n c → Fr h₀ env.locals h (fun y => if y = x then u y else kstB (fun z => if stored.contains z then u z else m₀ z) (ps c) y) → News h₀ env.locals h (Led c) → Q .next { s with heap := h, toks := tk }) :
    wpAny (model prog w) A (pyIter (.ref r)) (fun it s₂ => LoopAtV prog w A h₀ env x body Q E it s₂) E s := by
  refine wpAny_pyIter_range hr hsmall ?_
  refine for_walk (s := { s with heap := s.heap.push { cls := .type "range_iterator", data := .fields #[rawInt a₀, rawInt (Builtin.Range.rangeSize a₀ b₀ st), rawInt st] } }) Led ps Facts stored P c₀ (Walks.range hh s.heap.objs.size a₀ st n) ?_ ?_ ?_ ?_ ?_ (F.push _) (fun p hp => ⟨Heap.get?_push_of_some _ (N p hp).1, (N p hp).2⟩) hf hk hp ?_ done
  · intro hm; exact absurd F.ns.lt ((List.mem_singleton.mp hm) ▸ Nat.lt_irrefl _)
  · intro b hb
    rw [List.mem_singleton.mp hb]
    exact next_is_new F
  · intro i h st' b hb
    rw [List.mem_singleton.mp hb]
    exact ⟨_, st'⟩
  · intro p hp hI
    exact absurd (Heap.lt_size (N p hp).1) ((List.mem_singleton.mp hI) ▸ Nat.lt_irrefl _)
  · show IsRangeIter _ _ _ _ _
    rw [hn]; simpa using Heap.get?_push_size _ rfl
  · rintro c i v u h tk own hi ⟨t, rfl⟩ hsep hf' hp' F₁ N₁
    exact turn c i t u h tk own hi hsep hf' hp' F₁ N₁
theorem for_list {l : Addr} {vs : List Value} {ns : List Int} {nn : Nat} {m₀ : Str → Option Value} (Led : σ → List (Addr × Obj)) (ps : σ → List (Str × Value)) (Facts : σ → Prop) (stored : List Str) (P : Nat → σ → Prop) (c₀ : σ)
    (hh : A.handled = none) (hl : s.heap.get? l = some (PySem.W.listOf vs.toArray nn)) (hi : IntsAre vs ns) (hlL : env.locals ≠ l) (hlN : ∀ p ∈ Led c₀, p.1 ≠ l)
    (F : Fr h₀ env.locals s.heap m₀) (N : News h₀ env.locals s.heap (Led c₀)) (hf : Facts c₀) (hk : ∀ p ∈ ps c₀, m₀ p.1 = some p.2) (hp : P 0 c₀)
    (turn : ∀ (c : σ) (i : Nat) n t (u : Str → Option Value) h tk own, ns[i]? = some n → (∀ p ∈ Led c, AllNeN p.1 own) → Facts c → P i c →
      Fr h₀ env.locals h (fun y => if y = x then some (.int n t) else kstB (fun z => if stored.contains z then u z else m₀ z) (ps c) y) → News h₀ env.locals h (Led c ++ own) →
      wpAny (model prog w) A (execs body env) (FfPost h₀ env.locals Led ps Facts stored x m₀ P i own { s with heap := h, toks := tk } Q) E { s with heap := h, toks := tk })
    (done : ∀ (c : σ) (u : Str → Option Value) h tk, Facts c → P ns.length c → Fr h₀ env.locals h (fun y => if y = x then u y else kstB (fun z => if stored.contains z then u z else m₀ z) (ps c) y) → News h₀ env.locals h (Led c) → Q .next { s with heap := h, toks := tk }) :
    wpAny (model prog w) A (pyIter (.ref l)) (fun it s₂ => LoopAtV prog w A h₀ env x body Q E it s₂) E s := by
  have hls : s.heap.IsList l vs.toArray := ⟨_, hl, rfl, _, rfl⟩
  have hlt : l < s.heap.objs.size := Heap.lt_size hl
  refine wpAny_pyIter_list hls ?_
  have W := Walks.list (prog := prog) (w := w) hh s.heap.objs.size l (Nat.ne_of_lt hlt) vs.toArray
  have hlen : vs.toArray.size = ns.length := by simp [hi.length]
  rw [hlen] at W
  refine for_walk (s := { s with heap := s.heap.push _ }) Led ps Facts stored P c₀ W ?_ ?_ ?_ ?_ ⟨⟨_, Heap.get?_push_size _ rfl, rfl, rfl⟩, hls.at fun o e => Heap.get?_push_of_some _ e⟩ (F.push _) (fun p hp => ⟨Heap.get?_push_of_some _ (N p hp).1, (N p hp).2⟩) hf hk hp ?_ done
  · intro hm
    rcases List.mem_cons.mp hm with e | hm
    · exact absurd F.ns.lt (e ▸ Nat.lt_irrefl _)
    · exact hlL (List.mem_singleton.mp hm)
  · intro b hb
    rw [List.mem_singleton.mp hb]
    exact next_is_new F
  · rintro i h ⟨⟨o, e, _⟩, ⟨o', e', _⟩⟩ b hb
    rcases List.mem_cons.mp hb with rfl | hb
    · exact ⟨o, e⟩
    · rw [List.mem_singleton.mp hb]; exact ⟨o', e'⟩
  · intro p hp hI
    rcases List.mem_cons.mp hI with e | hI
    · exact absurd (Heap.lt_size (N p hp).1) (e ▸ Nat.lt_irrefl _)
    · exact hlN p hp (List.mem_singleton.mp hI)
  · rintro c i v u h tk own hi' hP hsep hf' hp' F₁ N₁
    obtain ⟨t, hx⟩ := hi.get i ns[i] (by simp [hi'])
    have hv : v = .int ns[i] t := by
      have hP' : vs[i]? = some v := by simpa using hP
      rw [hx] at hP'; exact (Option.some.inj hP').symm
    subst hv
    exact turn c i ns[i] t u h tk own (by simp [hi']) hsep hf' hp' F₁ N₁
def FbEnd (h₀ : Heap) (L : Addr) (Led : σ → List (Addr × Obj)) (ps : σ → List (Str × Value)) (Facts : σ → Prop) (stored : List Str) (x : Str) (m₀ : Str → Option Value) (Pe : σ → Prop) (s₁ s₂ : Shared) : Prop :=
  ∃ (c' : σ) (h' : Heap) (tk : Nat) (m' : Str → Option Value) (news' : List (Addr × Obj)), s₂ = { s₁ with heap := h', toks := tk } ∧ Fr h₀ L h' m' ∧ News h₀ L h' news' ∧ (∀ p ∈ Led c', p ∈ news') ∧ Facts c' ∧ (∀ p ∈ ps c', m' p.1 = some p.2) ∧ (∀ z, z ≠ x → (∀ p ∈ ps c', z ≠ p.1) → stored.contains z = false → m' z = m₀ z) ∧ Pe c'
def FbPost (h₀ : Heap) (L : Addr) (Led : σ → List (Addr × Obj)) (ps : σ → List (Str × Value)) (Facts : σ → Prop) (stored : List Str) (x : Str) (m₀ : Str → Option Value) (P : Nat → σ → Prop) (Pe : σ → Prop) (i : Nat) (own : List (Addr × Obj)) (s₁ : Shared) (Q : Flow → Shared → Prop) (f : Flow) (s₂ : Shared) : Prop :=
  match f with
  | .ret v => Q (.ret v) s₂
  | .brk => FbEnd h₀ L Led ps Facts stored x m₀ Pe s₁ s₂
  | _ => FfEnd h₀ L Led ps Facts stored x m₀ P i own s₁ s₂
/-- for_range for a loop that breaks: one end for both ways out -/
theorem for_range_brk {r : Addr} {a₀ b₀ st : Int} {t₀ u₀ v₀ : Tok} {n : Nat} {m₀ : Str → Option Value} (Led : σ → List (Addr × Obj)) (ps : σ → List (Str × Value)) (Facts : σ → Prop) (stored : List Str) (P : Nat → σ → Prop) (Pe : σ → Prop) (c₀ : σ)
    (hh : A.handled = none) (hr : IsRange s.heap r a₀ b₀ st t₀ u₀ v₀) (hsmall : Builtin.Range.small a₀ b₀ st = true) (hn : Builtin.Range.rangeSize a₀ b₀ st = (n : Int))
    (F : Fr h₀ env.locals s.heap m₀) (N : News h₀ env.locals s.heap (Led c₀)) (hf : Facts c₀) (hk : ∀ p ∈ ps c₀, m₀ p.1 = some p.2) (hp : P 0 c₀) (hPe : ∀ c, P n c → Pe c)
    (turn : ∀ (c : σ) (i : Nat) t (u : Str → Option Value) h tk own, i < n → (∀ p ∈ Led c, AllNeN p.1 own) → Facts c → P i c →
      Fr h₀ env.locals h (fun y => if y = x then some (.int (a₀ + i * st) t) else kstB (fun z => if stored.contains z then u z else m₀ z) (ps c) y) → News h₀ env.locals h (Led c ++ own) →
      wpAny (model prog w) A (execs body env) (FbPost h₀ env.locals Led ps Facts stored x m₀ P Pe i own { s with heap := h, toks := tk } Q) E { s with heap := h, toks := tk })
    (fin : ∀ (c : σ) (u : Str → Option Value) h tk, Facts c → Pe c → Fr h₀ env.locals h (fun y => if y = x then u y else kstB (fun z => if stored.contains z then u z else m₀ z) (ps c) y) → News h₀ env.locals h (Led c) → Q .next { s with heap := h, toks := tk }) :
    wpAny (model prog w) A (pyIter (.ref r)) (fun it s₂ => LoopAtV prog w A h₀ env x body Q E it s₂) E s := by
  refine for_range Led ps Facts stored P c₀ hh hr hsmall hn F N hf hk hp (fun c i t u h tk own hi hsep hf' hp' F₁ N₁ => ?_) fun c u h tk hf' hp' F₁ N₁ => fin c u h tk hf' (hPe c hp') F₁ N₁
  refine wpAny_mono (turn c i t u h tk own hi hsep hf' hp' F₁ N₁) (fun f s₂ q => ?_) fun _ _ e => e
  cases f with
  | ret v => exact q
  | next => exact q
  | cont => exact q
  | brk =>
    obtain ⟨c', h', tk', m', news', rfl, F', N', hl, hf9, hk9, hr9, hp9⟩ := q
    exact fin c' m' h' tk' hf9 hp9 (kst_frOut hk9 hr9 F') fun p hp => N' p (hl p hp)
end

end
section
section
variable {prog : Program} {w : World} {A : Around} {E : Value → Shared → Prop} {s : Shared} {env : Env} {h₀ : Heap} {x : Str} {px : Pos} {body : List Stmt} {Q : Flow → Shared → Prop} {σ : Type}
def FcEnd (h₀ : Heap) (L : Addr) (Led : σ → List (Addr × Obj)) (ps : σ → List (Str × Value)) (Facts : σ → Prop) (stored : List Str) (m₀ : Str → Option Value) (P : Nat → σ → Prop) (i : Nat) (own : List (Addr × Obj)) (s₁ s₂ : Shared) : Prop :=
  ∃ (c' : σ) (h' : Heap) (tk : Nat) (m' : Str → Option Value) (news' : List (Addr × Obj)), s₂ = { s₁ with heap := h', toks := tk } ∧ Fr h₀ L h' m' ∧ News h₀ L h' news' ∧ (∀ p ∈ Led c', p ∈ news') ∧ (∀ p ∈ own, p ∈ news') ∧ (∀ p ∈ Led c', AllNeN p.1 own) ∧ Facts c' ∧ (∀ p ∈ ps c', m' p.1 = some p.2) ∧ (∀ z, (∀ p ∈ ps c', z ≠ p.1) → stored.contains z = false → m' z = m₀ z) ∧ P (i + 1) c'
def FcPost (h₀ : Heap) (L : Addr) (Led : σ → List (Addr × Obj)) (ps : σ → List (Str × Value)) (Facts : σ → Prop) (stored : List Str) (m₀ : Str → Option Value) (P : Nat → σ → Prop) (i : Nat) (own : List (Addr × Obj)) (s₁ : Shared) (Q : Flow → Shared → Prop) (f : Flow) (s₂ : Shared) : Prop :=
  match f with
  | .ret v => Q (.ret v) s₂
  | .brk => Q .next s₂
  | _ => FcEnd h₀ L Led ps Facts stored m₀ P i own s₁ s₂
theorem fc_end {L : Addr} {Led : σ → List (Addr × Obj)} {ps : σ → List (Str × Value)} {Facts : σ → Prop} {stored : List Str} {m₀ m' : Str → Option Value} {P : Nat → σ → Prop} {i : Nat} {own news' : List (Addr × Obj)} {s₁ : Shared} {h' : Heap} {tk : Nat} (c' : σ)
    (F : Fr h₀ L h' m') (N : News h₀ L h' news') (hl : ∀ p ∈ Led c', p ∈ news') (ho : ∀ p ∈ own, p ∈ news') (hne : ∀ p ∈ Led c', AllNeN p.1 own) (hf : Facts c') (hk : ∀ p ∈ ps c', m' p.1 = some p.2)
    (hr : ∀ z, (∀ p ∈ ps c', z ≠ p.1) → stored.contains z = false → m' z = m₀ z) (hp : P (i + 1) c') : FcEnd h₀ L Led ps Facts stored m₀ P i own s₁ { s₁ with heap := h', toks := tk } :=
  ⟨c', h', tk, m', news', rfl, F, N, hl, ho, hne, hf, hk, hr, hp⟩
def FcTurn (prog : Program) (w : World) (A : Around) (E : Value → Shared → Prop) (env : Env) (h₀ : Heap) (x : Str) (px : Pos) (body : List Stmt) (Q : Flow → Shared → Prop) (a₀ st : Int) (n : Nat) (m₀ : Str → Option Value) (L : Addr) (Led : σ → List (Addr × Obj)) (ps : σ → List (Str × Value)) (Facts : σ → Prop) (stored : List Str) (P : Nat → σ → Prop) (s₁ : Shared) : Prop :=
  ∀ (c : σ) (i : Nat) t (u : Str → Option Value) h tk own, i < n → (∀ p ∈ Led c, AllNeN p.1 own) → Facts c → P i c →
        Fr h₀ L h (kstB (fun z => if stored.contains z then u z else m₀ z) (ps c)) → News h₀ L h (Led c ++ own) →
        wpAny (model prog w) A (assign (.Name x px) env (.int (a₀ + i * st) t)) (fun _ s₂ => wpAny (model prog w) A (execs body env) (FcPost h₀ L Led ps Facts stored m₀ P i own { s₁ with heap := h, toks := tk } Q) E s₂) E { s₁ with heap := h, toks := tk }
def FcDone (h₀ : Heap) (Q : Flow → Shared → Prop) (n : Nat) (m₀ : Str → Option Value) (L : Addr) (Led : σ → List (Addr × Obj)) (ps : σ → List (Str × Value)) (Facts : σ → Prop) (stored : List Str) (P : Nat → σ → Prop) (s₁ : Shared) : Prop :=
  ∀ (c : σ) (u : Str → Option Value) h tk, Facts c → P n c → Fr h₀ L h (kstB (fun z => if stored.contains z then u z else m₀ z) (ps c)) → News h₀ L h (Led c) → Q .next { s₁ with heap := h, toks := tk }
/-- a for over a range whose name is a cell: the turn begins with the assignment -/
theorem For_cell {iter : Expr} {pos : Pos} {a₀ b₀ st : Int} {n : Nat} {m₀ : Str → Option Value} (L : Addr) (hL : env.locals = L) (Led : σ → List (Addr × Obj)) (ps : σ → List (Str × Value)) (Facts : σ → Prop) (stored : List Str) (P : Nat → σ → Prop) (c₀ : σ) {news₀ : List (Addr × Obj)} (_F₀ : Fr h₀ L s.heap m₀) (_N₀ : News h₀ L s.heap news₀) (_e₀ : Led c₀ = news₀) (hh : A.handled = none)
    (h : wpAny (model prog w) A (eval iter env) (fun xv s₁ => StopD (∃ r t₀ u₀ v₀, xv = .ref r ∧ IsRange s₁.heap r a₀ b₀ st t₀ u₀ v₀ ∧ Builtin.Range.small a₀ b₀ st = true ∧ Builtin.Range.rangeSize a₀ b₀ st = (n : Int) ∧
      Fr h₀ L s₁.heap m₀ ∧ News h₀ L s₁.heap (Led c₀) ∧ Facts c₀ ∧ (∀ p ∈ ps c₀, m₀ p.1 = some p.2) ∧ P 0 c₀ ∧
      FcTurn prog w A E env h₀ x px body Q a₀ st n m₀ L Led ps Facts stored P s₁ ∧
      FcDone h₀ Q n m₀ L Led ps Facts stored P s₁)) E s)
    (hs : ∀ x, foldedSetIterable iter env x = pure x := by intro _; rfl) (hE : PassesOwn (model prog w) A env E := by passes_own) :
    wpAny (model prog w) A (exec (.For (.Name x px) iter body [] pos) env) Q E s := by
  subst hL
  refine wpAny_For (wpAny_mono h (fun xv s₁ h₁ => ?_) fun _ _ e => e) hs
  obtain ⟨r, t₀, u₀, v₀, rfl, hr, hsm, hn, F, N, hf, hk, hp, turn, done⟩ := stopD h₁
  refine wpAny_pyIter_range hr hsm ?_
  have W := Walks.range (prog := prog) (w := w) hh s₁.heap.objs.size a₀ st n
  have hI₀ : h₀.get? s₁.heap.objs.size = none := next_is_new F
  have hIL : env.locals ≠ s₁.heap.objs.size := Nat.ne_of_lt F.ns.lt
  have hst : IsRangeIter (s₁.heap.push { cls := .type "range_iterator", data := .fields #[rawInt a₀, rawInt (Builtin.Range.rangeSize a₀ b₀ st), rawInt st] }) s₁.heap.objs.size (a₀ + ((0 : Nat) : Int) * st) ((n : Int) - ((0 : Nat) : Int)) st := by
    show Heap.get? _ _ = some _
    rw [hn]; simpa using Heap.get?_push_size _ rfl
  have hNI : ∀ p ∈ Led c₀, p.1 ≠ s₁.heap.objs.size := fun p hp => Nat.ne_of_lt (Heap.lt_size (N p hp).1)
  have F0 := F.push { cls := .type "range_iterator", data := .fields #[rawInt a₀, rawInt (Builtin.Range.rangeSize a₀ b₀ st), rawInt st] }
  have N0 : News h₀ env.locals (s₁.heap.push { cls := .type "range_iterator", data := .fields #[rawInt a₀, rawInt (Builtin.Range.rangeSize a₀ b₀ st), rawInt st] }) (Led c₀) := fun p hp => ⟨Heap.get?_push_of_some _ (N p hp).1, (N p hp).2⟩
  generalize s₁.heap.push { cls := .type "range_iterator", data := .fields #[rawInt a₀, rawInt (Builtin.Range.rangeSize a₀ b₀ st), rawInt st] } = H at *
  generalize s₁.heap.objs.size = I at *
  let Inv : Nat → Nat → Shared → Prop := fun k i s' => ∃ (c : σ) (h' : Heap) (tk : Nat) (m' : Str → Option Value), s' = { s₁ with heap := h', toks := tk } ∧ IsRangeIter h' I (a₀ + (i : Int) * st) ((n : Int) - (i : Int)) st ∧ Fr h₀ env.locals h' m' ∧ News h₀ env.locals h' (Led c) ∧ (∀ p ∈ Led c, p.1 ≠ I) ∧ Facts c ∧ (∀ p ∈ ps c, m' p.1 = some p.2) ∧
    (∀ z, (∀ p ∈ ps c, z ≠ p.1) → stored.contains z = false → m' z = m₀ z) ∧ P i c ∧ i ≤ n ∧ k = n + 1 - i
  refine codeAny_forLoop (fun k s' => ∃ i, Inv k i s') ?_ (n + 1) ⟨0, c₀, _, s₁.toks, m₀, rfl, hst, F0, N0, hNI, hf, hk, fun _ _ _ => rfl, hp, Nat.zero_le _, rfl⟩
  rintro k s' ⟨i, c, h', tk, m', rfl, hst', F', N', hoff, hf', h1, h2, hp', hi, rfl⟩
  have next : ∀ h₁ : Heap, (∀ b o, b ∉ [I] → h'.get? b = some o → h₁.get? b = some o) → Fr h₀ env.locals h₁ m' ∧ News h₀ env.locals h₁ (Led c) := fun h₁ hk₁ =>
    ⟨⟨F'.ns.at' fun o e => hk₁ _ o (by simpa using hIL) e, fun b o e => hk₁ b o (by intro hb; rw [List.mem_singleton.mp hb, hI₀] at e; cases e) (F'.keep b o e), F'.above⟩, fun p hp => ⟨hk₁ _ _ (by simpa using hoff p hp) (N' p hp).1, (N' p hp).2⟩⟩
  by_cases hlt : i < n
  · refine W.item i _ _ _ hlt hst' fun v h₁ tk₁ hP hst₁ hk₁ => ?_
    obtain ⟨t, rfl⟩ := hP
    obtain ⟨F₁, N₁⟩ := next h₁ hk₁
    have hget : ∃ o, h₁.get? I = some o := ⟨_, hst₁⟩
    obtain ⟨oI, hoI⟩ := hget
    have N₂ : News h₀ env.locals h₁ (Led c ++ [(I, oI)]) := fun p hp => by
      rcases List.mem_append.mp hp with hp | hp
      · exact N₁ p hp
      · rw [List.mem_singleton.mp hp]; exact ⟨hoI, Ne.symm hIL, hI₀⟩
    refine wpAny_passesOwn hE (wpAny_mono (turn c i t m' h₁ tk₁ [(I, oI)] hlt (fun p hp => ⟨Ne.symm (hoff p hp), trivial⟩) hf' hp' (ksw_fr h1 h2 F₁) N₂) (fun _ s₂ hb => ?_) fun _ _ e => e)
    refine wpAny_passesOwn hE (wpAny_mono hb (fun f s₃ h₃ => ?_) fun _ _ e => e)
    have fin : FcEnd h₀ env.locals Led ps Facts stored m₀ P i [(I, oI)] { s₁ with heap := h₁, toks := tk₁ } s₃ → ∃ m, m < n + 1 - i ∧ ∃ j, Inv m j s₃ := by
      rintro ⟨c', h3, tk3, m3, news3, rfl, F3, N3, hl, ho, hne, hf9, hk9, hr9, hp9⟩
      refine ⟨n + 1 - (i + 1), by omega, i + 1, c', h3, tk3, m3, rfl, ?_, F3, fun p hp => N3 p (hl p hp), fun p hp => Ne.symm (hne p hp).1, hf9, hk9, hr9, hp9, hlt, rfl⟩
      have e := (N3 (I, oI) (ho _ (.head _))).1
      show h3.get? I = some _
      rw [e, ← hoI]
      exact hst₁
    cases f with
    | ret v => exact h₃
    | brk => exact h₃
    | next => exact fin h₃
    | cont => exact fin h₃
  · have hin : i = n := by omega
    subst hin
    refine W.done _ _ _ hst' fun h₁ tk₁ hk₁ => wpAny_execs_nil ?_
    obtain ⟨F₁, N₁⟩ := next h₁ hk₁
    exact done c m' h₁ tk₁ hf' hp' (ksw_fr h1 h2 F₁) N₁
end
section
variable {prog : Program} {w : World} {A : Around} {E : Value → Shared → Prop} {s : Shared} {env : Env} {h₀ : Heap} {L : Addr} {m : Str → Option Value}
open LCt LCg in
/-- a comprehension with one test over a range of any step -/
theorem ListComp_S {ct elt iter : Expr} {x : Str} {px : Pos} {scope : Scope} {cl : List (Str × Addr)} {pos : Pos} {Q : Value → Shared → Prop} (_F₀ : Fr h₀ L s.heap m)
    (hclos : closureFor scope env = pure cl) (hcell : ∀ y ∈ scope.names, y.2 ≠ .cell) (hkind : scope.kind = .function)
    (hnames : ∀ y ∈ scope.names, y.2 = .local → scope.names.lookup y.1 = some .local) (hx : scope.names.lookup x = some .local)
    (h : wpAny (model prog w) A (eval iter env) (fun xv s₁ => StopD (∃ r a b st t u v n news, xv = .ref r ∧ A.handled = none ∧ Fr h₀ L s₁.heap m ∧ News h₀ L s₁.heap news ∧ IsRange s₁.heap r a b st t u v ∧ Builtin.Range.small a b st = true ∧ Builtin.Range.rangeSize a b st = ((n : Nat) : Int) ∧ n ≤ sizeLine ∧
      ∀ s₂ : Shared, (∃ h, s₂ = { s₁ with heap := h }) → CompRestT prog w A h₀ L m env ct elt x scope cl s₂ (fun _ => True) (fun i v => ∃ t, v = .int (a + (i : Int) * st) t) (FinE h₀ L m s₂ Q) n 0 [] news)) E s)
    (hs : ∀ x, foldedSetIterable iter env x = pure x := by intro _; rfl) :
    wpAny (model prog w) A (eval (.ListComp elt [⟨.Name x px, iter, [ct], 0⟩] scope pos) env) Q E s := by
  rw [eval_ListComp]
  refine wpAny_comprehension_free (use := none) rfl hs hclos hkind hnames (wpAny_mono h (fun xv s₁ h₁ => ?_) fun _ _ e => e)
  obtain ⟨r, a, b, st, t, u, v, n, news, rfl, hh, F, N, hr, hsm, hn, hsz, R⟩ := stopD h₁
  refine wpAny_pyIter_range hr hsm ?_
  refine block_T (Walks.range hh s₁.heap.objs.size a st n) hsz (fun i h st => ⟨_, st⟩) (fun i h h' o nw st e e' _ _ _ => ?_) hcell hkind hx (by show IsRangeIter _ _ _ _ _; rw [hn]; simpa using Heap.get?_push_size _ rfl) (fun b hb => ?_)
    (F.keeps fun _ _ e => Heap.get?_push_of_some _ e) (N.grown fun _ _ e => Heap.get?_push_of_some _ e) (Nat.ne_of_lt F.ns.lt) (next_is_new F) (fun p hp => Nat.ne_of_lt (Heap.lt_size (N p hp).1)) trivial (R _ ⟨_, rfl⟩) ?_
  · have st' : h.get? s₁.heap.objs.size = some _ := st
    show h'.get? _ = some _
    rw [e', ← e]; exact st'
  · rw [List.mem_singleton.mp hb]
    show s₁.heap.objs.size < (s₁.heap.push _).objs.size
    rw [Heap.size_push]; exact Nat.lt_succ_self _
  · intro D C h tk m' ys news' F' N' o1 hn hC₀ hD₀ hCL hDL hCD offC fin
    refine ⟨m', hn, fun h'' hs'' => fin D h'' tk (F'.change hs'' hCL hC₀) (fun p hp => ?_) o1⟩
    refine ⟨hs''.extBut _ _ ?_ (N' p hp).1, (N' p hp).2⟩
    rcases List.mem_cons.mp hp with rfl | hp
    · exact Ne.symm hCD
    · exact offC p hp
end

end
section
def evens (third one : Int) : List Int := ((List.range ((third - 1) / 2).toNat).map fun i : Nat => 2 + (i : Int) * 2).filter fun e => decide (e * e = third * third - one * one)
def tE (k third one : Int) (cs : List (List Int)) (e : Int) : List (List Int) := if gcF k 60 (dg (2 ^ k.toNat) one.toNat one) (dg (2 ^ k.toNat) e.toNat e) = some [1] then cs ++ [[one, e, third]] else cs
def tO (k third : Int) (cs : List (List Int)) (i : Nat) : List (List Int) := (evens third (1 + i * 2)).foldl (tE k third (1 + i * 2)) cs
def tT (k : Int) (cs : List (List Int)) (j : Nat) : List (List Int) := (List.range ((5 + (j : Int) * 2 - 1) / 2).toNat).foldl (tO k (5 + j * 2)) cs
def tried (k most : Int) : List (List Int) := (List.range ((most - 3) / 2).toNat).foldl (tT k) []
def TL (most : Int) : List (List Int) :=
  if most < 17 then [[3, 4, 5], [5, 12, 13]] else if most < 25 then [[3, 4, 5], [5, 12, 13], [15, 8, 17]] else if most < 29 then [[3, 4, 5], [5, 12, 13], [7, 24, 25], [15, 8, 17]]
  else if most < 37 then [[3, 4, 5], [5, 12, 13], [7, 24, 25], [15, 8, 17], [21, 20, 29]] else [[3, 4, 5], [5, 12, 13], [7, 24, 25], [15, 8, 17], [21, 20, 29], [35, 12, 37]]

def gcChk (k : Int) : Bool := (List.range 18).all fun a => (List.range 20).all fun b => (evens (5 + a * 2) (1 + b * 2)).all fun e => (gcF k 60 (dg (2 ^ k.toNat) (1 + (b : Int) * 2).toNat (1 + b * 2)) (dg (2 ^ k.toNat) e.toNat e)).isSome
theorem gcChk3 : gcChk 3 = true := by decide +kernel
theorem gcChk4 : gcChk 4 = true := by decide +kernel
theorem gcChk5 : gcChk 5 = true := by decide +kernel
theorem gcChk6 : gcChk 6 = true := by decide +kernel
theorem gcChk7 : gcChk 7 = true := by decide +kernel
theorem gcChk8 : gcChk 8 = true := by decide +kernel
def triedN (k : Int) (n : Nat) : List (List Int) := (List.range n).foldl (tT k) []
def TLn (n : Nat) : List (List Int) := TL (2 * n + 3)
def trOk (cs : List (List Int)) (T : List (List Int)) : Bool := match sortP cs with
  | some p => p.all (fun i => decide (i < cs.length)) && decide (2 ≤ cs.length) && decide (cs.length < 64) && decide ((p.map fun i => cs.getD i []) = T)
  | none => false
def trChk (k : Int) : Bool := (List.range 14).all fun y => trOk (triedN k (5 + y)) (TLn (5 + y))
theorem trChk3 : trChk 3 = true := by decide +kernel
theorem trChk4 : trChk 4 = true := by decide +kernel
theorem trChk5 : trChk 5 = true := by decide +kernel
theorem trChk6 : trChk 6 = true := by decide +kernel
theorem trChk7 : trChk 7 = true := by decide +kernel
theorem trChk8 : trChk 8 = true := by decide +kernel

theorem gc_ok {k third one e : Int} (hk : 3 ≤ k) (hk' : k ≤ 8) (h1 : 5 ≤ third) (h2 : third ≤ 40) (h3 : third % 2 = 1) (h4 : 1 ≤ one) (h5 : one < third) (h6 : one % 2 = 1) (he : e ∈ evens third one) :
    ∃ g, gcF k 60 (dg (2 ^ k.toNat) one.toNat one) (dg (2 ^ k.toNat) e.toNat e) = some g := by
  have all : gcChk k = true := by
    have hc := om_six hk hk'
    rcases hc with rfl | rfl | rfl | rfl | rfl | rfl
    · exact gcChk3
    · exact gcChk4
    · exact gcChk5
    · exact gcChk6
    · exact gcChk7
    · exact gcChk8
  simp only [gcChk, List.all_eq_true, List.mem_range] at all
  have e1 : 5 + (((third - 5) / 2).toNat : Int) * 2 = third := by omega
  have e2 : 1 + (((one - 1) / 2).toNat : Int) * 2 = one := by omega
  have r := all ((third - 5) / 2).toNat (by omega) ((one - 1) / 2).toNat (by omega)
  rw [e1, e2] at r
  exact Option.isSome_iff_exists.mp (r e he)
theorem tried_ok {k most : Int} (hk : 3 ≤ k) (hk' : k ≤ 8) (hm : 13 ≤ most) (hm' : most ≤ 40) :
    ∃ p, sortP (tried k most) = some p ∧ (∀ i ∈ p, i < (tried k most).length) ∧ 2 ≤ (tried k most).length ∧ (tried k most).length < 64 ∧ (p.map fun i => (tried k most).getD i []) = TL most := by
  have all : trChk k = true := by
    have hc := om_six hk hk'
    rcases hc with rfl | rfl | rfl | rfl | rfl | rfl
    · exact trChk3
    · exact trChk4
    · exact trChk5
    · exact trChk6
    · exact trChk7
    · exact trChk8
  simp only [trChk, List.all_eq_true, List.mem_range] at all
  have r := all (((most - 3) / 2).toNat - 5) (by omega)
  have e1 : 5 + (((most - 3) / 2).toNat - 5) = ((most - 3) / 2).toNat := by omega
  rw [e1] at r
  have e2 : triedN k ((most - 3) / 2).toNat = tried k most := rfl
  have e3 : TLn ((most - 3) / 2).toNat = TL most := by
    unfold TLn TL
    obtain ⟨z, hz⟩ : ∃ z : Int, z = 2 * (((most - 3) / 2).toNat : Int) + 3 := ⟨_, rfl⟩
    have hc : most = z ∨ most = z + 1 := by omega
    have h9 : z % 2 = 1 := by omega
    rw [← hz]
    clear hz e1 r all
    rcases hc with rfl | rfl
    · rfl
    · simp only [show (z < 17 ↔ z + 1 < 17) by omega, show (z < 25 ↔ z + 1 < 25) by omega, show (z < 29 ↔ z + 1 < 29) by omega, show (z < 37 ↔ z + 1 < 37) by omega]
  rw [e2, e3] at r
  unfold trOk at r
  split at r
  · rename_i p hp
    simp only [Bool.and_eq_true, List.all_eq_true, decide_eq_true_eq] at r
    exact ⟨p, hp, r.1.1.1, r.1.1.2, r.1.2, r.2⟩
  · cases r

end
section
section
variable {prog : Program} {w : World} {A : Around} {E : Value → Shared → Prop} {s : Shared} {Q : Value → Shared → Prop}
theorem eq_nil {l b : Addr} {as : List Addr} {n n2 : Nat} (hl : s.heap.get? l = some (PySem.W.listOf (as.map Value.ref).toArray n)) (hb : s.heap.get? b = some (PySem.W.listOf #[] n2)) (hu : A.units < cLine) (h : Q (.bool (decide (as = []))) s) :
    wpAny (model prog w) A (compareOp .Eq (.ref l) (.ref b)) Q E s := by
  cases as with
  | nil => exact PySem.SeqAt.eq_listAt (items := #[]) (items2 := #[]) (e := fun _ => true) ⟨_, hl, rfl, _, rfl⟩ ⟨_, hb, rfl, _, rfl⟩ rfl hu (fun j h1 => absurd h1 (Nat.not_lt_zero _)) h
  | cons a as => exact PySem.SeqAt.eq_list_lengthsAt (items := (List.map Value.ref (a :: as)).toArray) (items2 := #[]) ⟨_, hl, rfl, _, rfl⟩ ⟨_, hb, rfl, _, rfl⟩ (by simp) hu h
end
theorem pick_tail {a : Addr} {as : List Addr} : slicePick ((List.map Value.ref (a :: as)).toArray) (some 1) none none = (List.map Value.ref as).toArray := by
  have e : sliceBounds (some 1) none none ((List.map Value.ref (a :: as)).toArray).size = (((1 : Nat) : Int), ((as.length + 1 : Nat) : Int), 1) := by
    simp [sliceBounds]
    omega
  rw [kmk_pick_nat _ e]
  simp only [List.map_cons, List.drop_succ_cons, List.drop_zero, Nat.add_sub_cancel]
  rw [List.take_of_length_le (by simp)]
open PySem.SeqAt in
theorem eq_ints {A : Around} {s : Shared} {l b : Addr} {us vs : List Value} {n n2 : Nat} {xs : List Int} (hl : s.heap.get? l = some (listOf us.toArray n)) (hb : s.heap.get? b = some (listOf vs.toArray n2)) (hi : IntsAre us xs) (hj : IntsAre vs xs) (hu : A.units < cLine) : EqAt A s (.ref l) (.ref b) true := by
  by_cases e : l = b
  · rw [e]; exact EqAt.same _
  have hsz : us.toArray.size = vs.toArray.size := by rw [List.size_toArray, List.size_toArray, hi.length, hj.length]
  have r := RcAt.lists (A := A) (e := fun _ => true) ⟨_, hl, rfl, _, rfl⟩ ⟨_, hb, rfl, _, rfl⟩ hsz hu fun j h1 h2 => by
    have l1 : j < xs.length := by rw [← hi.length]; simpa using h1
    obtain ⟨t, ht⟩ := hi.get j xs[j] (by simp [l1])
    obtain ⟨u, hu'⟩ := hj.get j xs[j] (by simp [l1])
    have e1 : us.toArray[j] = .int xs[j] t := by
      have q : us.toArray[j]? = some (.int xs[j] t) := by simpa using ht
      rw [Array.getElem?_eq_getElem h1] at q
      exact Option.some.inj q
    have e2 : vs.toArray[j] = .int xs[j] u := by
      have q : vs.toArray[j]? = some (.int xs[j] u) := by simpa using hu'
      rw [Array.getElem?_eq_getElem h2] at q
      exact Option.some.inj q
    rw [e1, e2]
    have z : EqAt A.in1 s (.int xs[j] t) (.int xs[j] u) (xs[j] == xs[j]) := PySem.SeqAt.EqAt.int_int xs[j] t xs[j] u
    rw [beq_self_eq_true] at z
    exact z
  have ea : ((List.range us.toArray.size).all fun _ => true) = true := by simp
  rw [ea] at r
  exact EqAt.of_refs e r
open PySem.SeqAt in
theorem eq_tris {prog : Program} {w : World} {A : Around} {E : Value → Shared → Prop} {s : Shared} {Q : Value → Shared → Prop} {l b : Addr} {as bs : List Addr} {cs : List (List Int)} {n n2 : Nat} {n1 n3 : List (Addr × Obj)} (hl : s.heap.get? l = some (listOf (as.map Value.ref).toArray n)) (hb : s.heap.get? b = some (listOf (bs.map Value.ref).toArray n2))
    (T : TrisIn n1 as cs) (N : ∀ p ∈ n1, s.heap.get? p.1 = some p.2) (T2 : TrisIn n3 bs cs) (N2 : ∀ p ∈ n3, s.heap.get? p.1 = some p.2) (hu : A.units + 2 < cLine) (h : Q (.bool true) s) : wpAny (model prog w) A (compareOp .Eq (.ref l) (.ref b)) Q E s := by
  have hla := T.length
  have hlb := T2.length
  have hsz : (as.map Value.ref).toArray.size = (bs.map Value.ref).toArray.size := by simp [hla, hlb]
  refine eq_listAt (e := fun _ => true) ⟨_, hl, rfl, _, rfl⟩ ⟨_, hb, rfl, _, rfl⟩ hsz (by omega) (fun j h1 h2 => ?_) (by rw [show ((List.range (as.map Value.ref).toArray.size).all fun _ => true) = true by simp]; exact h)
  have k1 : j < as.length := by simpa using h1
  have k2 : j < bs.length := by simpa using h2
  obtain ⟨us, c, hm, hi⟩ := T.at j k1
  obtain ⟨vs, c2, hm2, hj⟩ := T2.at j k2
  have e1 : (as.map Value.ref).toArray[j] = .ref (as.getD j 0) := by simp [k1]
  have e2 : (bs.map Value.ref).toArray[j] = .ref (bs.getD j 0) := by simp [k2]
  rw [e1, e2]
  exact eq_ints (N _ hm) (N2 _ hm2) hi hj (by rw [PyProof.Rows.units_in1]; omega)

end
section
section
open LCg LCt
variable {prog : Program} {w : World} {A : Around} {h₀ : Heap} {L : Addr} {m : Str → Option Value} {env : Env} {ct elt : Expr} {x : Str} {scope : Scope} {cl : List (Str × Addr)} {s : Shared} {S : List (Addr × Obj) → Prop} {P : Nat → Value → Prop} {Fin : List Value → List (Addr × Obj) → Prop} {news : List (Addr × Obj)}
/-- a comprehension over a range whose items are new lists of ints -/
theorem kids_rest {n : Nat} {a₀ : Int} (g : Nat → List Int)
    (turn : ∀ i t I oI C oC D m₂ ys nx h tk (E' : Value → Shared → Prop), i < n → (∀ p ∈ nx, AllNeN p.1 news) → NsObj oC m₂ → m₂ x = some (.int (a₀ + (i : Int)) t) → Fr h₀ L h m → News h₀ L h ((I, oI) :: (C, oC) :: (D, lst ys) :: (news ++ nx)) → Off3 I C D (news ++ nx) → ((@Ne Nat I C) ∧ (@Ne Nat I D) ∧ (@Ne Nat C D)) →
      wpAny (model prog w) A (eval elt (compEnvC scope cl C env)) (CompEnd h₀ L m { s with heap := h, toks := tk } I oI C oC D (lst ys) (fun _ => True) (fun y news' => ∃ R us c, y = .ref R ∧ news' = news ++ ((R, listOf (List.toArray us) c) :: nx) ∧ IntsAre us (g i) ∧ AllNeN R news)) E' { s with heap := h, toks := tk })
    (fin : ∀ as nx, TrisIn nx as ((List.range n).map g) → (∀ p ∈ nx, AllNeN p.1 news) → Fin (as.map Value.ref) (news ++ nx)) :
    CompRest prog w A h₀ L m env elt x scope cl s (fun _ => True) (fun i v => ∃ t, v = .int (a₀ + (i : Int)) t) Fin n 0 [] news := by
  have key : ∀ (j i : Nat) (as : List Addr) (nx : List (Addr × Obj)), i + j = n → TrisIn nx as ((List.range i).map g) → (∀ p ∈ nx, AllNeN p.1 news) → CompRest prog w A h₀ L m env elt x scope cl s (fun _ => True) (fun i v => ∃ t, v = .int (a₀ + (i : Int)) t) Fin j i (as.map Value.ref) (news ++ nx) := by
    intro j
    induction j with
    | zero =>
      intro i as nx hi T hn
      have e : i = n := by omega
      subst e
      exact CompRest.zero (fin as nx T hn)
    | succ j ih =>
      intro i as nx hi T hn
      refine CompRest.succ ?_
      rintro v I oI C oC D m₂ h tk E' ⟨t, rfl⟩ hC hx F N off ne
      refine wpAny_mono (turn i t I oI C oC D m₂ _ nx h tk E' (by omega) hn hC hx F N off ne) (fun y s₂ hq => ?_) fun _ _ e => e
      obtain ⟨h', tk', nw, e, F', N', off', hS, R, us, c, rfl, rfl, hi', hR⟩ := hq
      refine ⟨h', tk', _, e, F', N', off', trivial, ?_⟩
      have e2 : as.map Value.ref ++ [Value.ref R] = (as ++ [R]).map Value.ref := by simp
      show CompRest _ _ _ _ _ _ _ _ _ _ _ _ _ _ _ _ _ (as.map Value.ref ++ [Value.ref R]) _
      rw [e2]
      refine ih (i + 1) (as ++ [R]) _ (by omega) ?_ (List.forall_mem_cons.mpr ⟨hR, hn⟩)
      rw [List.range_succ, List.map_append]
      exact (T.mono fun p hp => .tail _ hp).append (.cons (.head _) hi' .nil)
  have r := key n 0 [] [] (by omega) .nil (List.forall_mem_nil _)
  rw [List.append_nil] at r
  exact r
/-- those of some lists of ints that pass a test -/
theorem pick_rest {n : Nat} {ks : List (Addr × List Int)} (pp : List Int → Bool) (hks : ks.length = n) (hP : ∀ i v, i < n → P i v → ∃ q, ks[i]? = some q ∧ v = .ref q.1) (hS : S news)
    (turn : ∀ q I oI C oC D m₂ ys h tk (E' : Value → Shared → Prop), q ∈ ks → NsObj oC m₂ → m₂ x = some (.ref q.1) → Fr h₀ L h m → News h₀ L h ((I, oI) :: (C, oC) :: (D, lst ys) :: news) → Off3 I C D news → ((@Ne Nat I C) ∧ (@Ne Nat I D) ∧ (@Ne Nat C D)) →
      wpAny (model prog w) A (isTrue ct (compEnvC scope cl C env) (eval ct (compEnvC scope cl C env))) (fun b s' => if b = true then wpAny (model prog w) A (eval elt (compEnvC scope cl C env)) (CompEnd h₀ L m { s with heap := h, toks := tk } I oI C oC D (lst ys) (fun _ => True) (fun y news' => news' = news ∧ y = .ref q.1 ∧ pp q.2 = true)) E' s'
        else CompEnd h₀ L m { s with heap := h, toks := tk } I oI C oC D (lst ys) (fun _ => True) (fun _ news' => news' = news ∧ pp q.2 = false) Value.none s') E' { s with heap := h, toks := tk })
    (fin : Fin ((ks.filter fun q => pp q.2).map fun q => Value.ref q.1) news) : CompRestT prog w A h₀ L m env ct elt x scope cl s S P Fin n 0 [] news := by
  have key : ∀ (j i : Nat), i + j = n → CompRestT prog w A h₀ L m env ct elt x scope cl s S P Fin j i (((ks.take i).filter fun q => pp q.2).map fun q => Value.ref q.1) news := by
    intro j
    induction j with
    | zero =>
      intro i hi
      have e : i = ks.length := by omega
      subst e
      rw [List.take_length]
      exact CompRestT.zero fin
    | succ j ih =>
      intro i hi
      refine CompRestT.succ ?_
      intro v I oI C oC D m₂ h tk E' hv hC hx F N off ne
      obtain ⟨q, hq, rfl⟩ := hP i v (by omega) hv
      have hs : ks.take (i + 1) = ks.take i ++ [q] := by rw [List.take_add_one, hq]; rfl
      have r := ih (i + 1) (by omega)
      rw [hs, List.filter_append, List.map_append] at r
      refine wpAny_mono (turn q I oI C oC D m₂ _ h tk E' (List.mem_of_getElem? hq) hC hx F N off ne) (fun b s₂ hb => ?_) fun _ _ e => e
      cases b with
      | true =>
        simp only [if_true] at hb ⊢
        refine wpAny_mono hb (fun y s₃ hr => ?_) fun _ _ e => e
        obtain ⟨h', tk', nw, e, F', N', off', -, rfl, rfl, hpp⟩ := hr
        refine ⟨h', tk', _, e, F', N', off', hS, ?_⟩
        have e2 : ([q].filter fun q => pp q.2).map (fun q => Value.ref q.1) = [Value.ref q.1] := by simp [hpp]
        rw [e2] at r
        exact r
      | false =>
        simp only [Bool.false_eq_true, if_false] at hb ⊢
        obtain ⟨h', tk', nw, e, F', N', off', -, rfl, hpp⟩ := hb
        refine ⟨h', tk', _, e, F', N', off', hS, ?_⟩
        have e2 : ([q].filter fun q => pp q.2).map (fun q => Value.ref q.1) = [] := by simp [hpp]
        rw [e2, List.append_nil] at r
        exact r
  exact key n 0 (by omega)
end
def keepA (pp : List Int → Bool) (as : List Addr) (cs : List (List Int)) : List Addr := ((as.zip cs).filter fun q => pp q.2).map (·.1)
theorem TrisIn.filter {news : List (Addr × Obj)} (pp : List Int → Bool) : ∀ {as : List Addr} {cs : List (List Int)}, TrisIn news as cs → TrisIn news (keepA pp as cs) (cs.filter pp)
  | _, _, .nil => .nil
  | _, _, .cons (a := a) (xs := xs) (as := as) (cs := cs) h i r => by
    have t := r.filter pp
    have e1 : keepA pp (a :: as) (xs :: cs) = if pp xs = true then a :: keepA pp as cs else keepA pp as cs := by
      unfold keepA
      rw [List.zip_cons_cons, List.filter_cons]
      by_cases h : pp xs = true
      · rw [if_pos h, if_pos h]; rfl
      · rw [if_neg h, if_neg h]
    rw [e1, List.filter_cons]
    by_cases h' : pp xs = true
    · rw [if_pos h', if_pos h']; exact .cons h i t
    · rw [if_neg h', if_neg h']; exact t
theorem TrisIn.zip {news : List (Addr × Obj)} : ∀ {as : List Addr} {cs : List (List Int)}, TrisIn news as cs → ∀ q ∈ as.zip cs, ∃ us c, (q.1, listOf (List.toArray us) c) ∈ news ∧ IntsAre us q.2
  | _, _, .nil, q, h => nomatch h
  | _, _, .cons h i r, q, hq => by
    rcases List.mem_cons.mp hq with rfl | hq
    · exact ⟨_, _, h, i⟩
    · exact r.zip q hq
theorem keepA_map {pp : List Int → Bool} {as : List Addr} {cs : List (List Int)} : (((as.zip cs).filter fun q => pp q.2).map fun q => Value.ref q.1) = (keepA pp as cs).map Value.ref := by
  unfold keepA; rw [List.map_map]; rfl
theorem zip_at {as : List Addr} {cs : List (List Int)} {i : Nat} {v : Value} (h : as.length = cs.length) (hv : (as.map Value.ref).toArray[i]? = some v) : ∃ q, (as.zip cs)[i]? = some q ∧ v = .ref q.1 := by
  have hv' : (as.map Value.ref)[i]? = some v := by simpa using hv
  rw [List.getElem?_map] at hv'
  obtain ⟨a, ha, rfl⟩ := Option.map_eq_some_iff.mp hv'
  obtain ⟨hi, -⟩ := List.getElem?_eq_some_iff.mp ha
  have hc : cs[i]? = some cs[i] := List.getElem?_eq_getElem (h ▸ hi)
  exact ⟨(a, cs[i]), by rw [List.getElem?_zip_eq_some]; exact ⟨ha, hc⟩, rfl⟩
theorem mem_ins {α : Type} {p q : α} {l1 l2 : List α} (h : p ∈ l1 ++ q :: l2) : p = q ∨ p ∈ l1 ++ l2 := by
  rcases List.mem_append.mp h with h | h
  · exact .inr (List.mem_append_left _ h)
  · rcases List.mem_cons.mp h with h | h
    · exact .inl h
    · exact .inr (List.mem_append_right _ h)
theorem off3_ins {I C D : Addr} {q : Addr × Obj} {l1 l2 : List (Addr × Obj)} (h : LCg.Off3 I C D (l1 ++ l2)) (hq : @Ne Nat q.1 I ∧ @Ne Nat q.1 C ∧ @Ne Nat q.1 D) : LCg.Off3 I C D (l1 ++ q :: l2) := LCg.Off3.of fun p hp => by
  rcases mem_ins hp with rfl | hp
  · exact hq
  · exact h.mem p hp

end
section
/-- each of the addresses holds its signed number, in the ledger -/
inductive SgsIn (news : List (Addr × Obj)) : List Addr → List (Bool × List Int) → Prop
  | nil : SgsIn news [] []
  | cons {a l : Addr} {us : List Value} {c n : Nat} {s : Bool × List Int} {as : List Addr} {ss : List (Bool × List Int)} : (a, tupBL s.1 l c) ∈ news → (l, listOf (List.toArray us) n) ∈ news → IntsAre us s.2 → SgsIn news as ss → SgsIn news (a :: as) (s :: ss)
theorem SgsIn.mono {news news' : List (Addr × Obj)} (hs : ∀ p ∈ news, p ∈ news') : ∀ {as : List Addr} {ss : List (Bool × List Int)}, SgsIn news as ss → SgsIn news' as ss
  | _, _, .nil => .nil
  | _, _, .cons h h2 i r => .cons (hs _ h) (hs _ h2) i (r.mono hs)
theorem SgsIn.append {news : List (Addr × Obj)} : ∀ {as bs : List Addr} {ss zs : List (Bool × List Int)}, SgsIn news as ss → SgsIn news bs zs → SgsIn news (as ++ bs) (ss ++ zs)
  | _, _, _, _, .nil, y => y
  | _, _, _, _, .cons h h2 i r, y => .cons h h2 i (r.append y)
/-- each of the addresses holds a row of signed numbers -/
inductive MatIn (g : Int → Bool × List Int) (news : List (Addr × Obj)) : List Addr → List (List Int) → Prop
  | nil : MatIn g news [] []
  | cons {r : Addr} {as : List Addr} {n : Nat} {xs : List Int} {rs : List Addr} {rows : List (List Int)} : (r, listOf (as.map Value.ref).toArray n) ∈ news → SgsIn news as (xs.map g) → MatIn g news rs rows → MatIn g news (r :: rs) (xs :: rows)
theorem MatIn.mono {g : Int → Bool × List Int} {news news' : List (Addr × Obj)} (hs : ∀ p ∈ news, p ∈ news') : ∀ {as : List Addr} {ss : List (List Int)}, MatIn g news as ss → MatIn g news' as ss
  | _, _, .nil => .nil
  | _, _, .cons h T r => .cons (hs _ h) (T.mono hs) (r.mono hs)
theorem MatIn.append {g : Int → Bool × List Int} {news : List (Addr × Obj)} : ∀ {as bs : List Addr} {ss zs : List (List Int)}, MatIn g news as ss → MatIn g news bs zs → MatIn g news (as ++ bs) (ss ++ zs)
  | _, _, _, _, .nil, y => y
  | _, _, _, _, .cons h T r, y => .cons h T (r.append y)
section
open LCg
variable {prog : Program} {w : World} {A : Around} {h₀ : Heap} {L : Addr} {m : Str → Option Value} {env : Env} {elt : Expr} {x : Str} {scope : Scope} {cl : List (Str × Addr)} {s : Shared} {S : List (Addr × Obj) → Prop} {Fin : List Value → List (Addr × Obj) → Prop} {news : List (Addr × Obj)}
theorem sgsG_rest {ι : Type} {its : Array Value} {ks : List ι} (val : ι → Value) (g : ι → Bool × List Int) (hits : its = (ks.map val).toArray) (hS : ∀ nx, S (news ++ nx))
    (turn : ∀ k I oI C oC D m₂ ys nx h tk (E' : Value → Shared → Prop), k ∈ ks → (∀ p ∈ nx, AllNeN p.1 news) → NsObj oC m₂ → m₂ x = some (val k) → Fr h₀ L h m → News h₀ L h ((I, oI) :: (C, oC) :: (D, lst ys) :: (news ++ nx)) → Off3 I C D (news ++ nx) → ((@Ne Nat I C) ∧ (@Ne Nat I D) ∧ (@Ne Nat C D)) →
      wpAny (model prog w) A (eval elt (compEnvC scope cl C env)) (CompEnd h₀ L m { s with heap := h, toks := tk } I oI C oC D (lst ys) (fun _ => True) (fun y news' => ∃ a l us c n, y = .ref a ∧ news' = news ++ ((a, tupBL (g k).1 l c) :: (l, listOf (List.toArray us) n) :: nx) ∧ IntsAre us (g k).2 ∧ AllNeN a news ∧ AllNeN l news)) E' { s with heap := h, toks := tk })
    (fin : ∀ as nx, SgsIn nx as (ks.map g) → (∀ p ∈ nx, AllNeN p.1 news) → Fin (as.map Value.ref) (news ++ nx)) :
    CompRest prog w A h₀ L m env elt x scope cl s S (fun i v => its[i]? = some v) Fin its.size 0 [] news := by
  subst hits
  have hl : (ks.map val).toArray.size = ks.length := by simp
  have key : ∀ (j i : Nat) (as : List Addr) (nx : List (Addr × Obj)), i + j = (ks.map val).toArray.size → SgsIn nx as ((ks.take i).map g) → (∀ p ∈ nx, AllNeN p.1 news) → CompRest prog w A h₀ L m env elt x scope cl s S (fun i v => (ks.map val).toArray[i]? = some v) Fin j i (as.map Value.ref) (news ++ nx) := by
    intro j
    induction j with
    | zero =>
      intro i as nx hi' T hn
      have e : i = ks.length := by rw [← hl]; exact hi'
      rw [e, List.take_length] at T
      exact CompRest.zero (fin as nx T hn)
    | succ j ih =>
      intro i as nx hi' T hn
      refine CompRest.succ ?_
      intro v I oI C oC D m₂ h tk E' hv hC hx F N off ne
      have hv' : (ks.map val)[i]? = some v := by simpa using hv
      rw [List.getElem?_map] at hv'
      obtain ⟨k, hk, rfl⟩ := Option.map_eq_some_iff.mp hv'
      refine wpAny_mono (turn k I oI C oC D m₂ _ nx h tk E' (List.mem_of_getElem? hk) hn hC hx F N off ne) (fun y s₂ hq => ?_) fun _ _ e => e
      obtain ⟨h', tk', nw, e, F', N', off', -, a, l, us, c, n, rfl, rfl, hu, hA, hL⟩ := hq
      refine ⟨h', tk', _, e, F', N', off', hS _, ?_⟩
      show CompRest _ _ _ _ _ _ _ _ _ _ _ _ _ _ _ _ _ (as.map Value.ref ++ [Value.ref a]) _
      have e2 : as.map Value.ref ++ [Value.ref a] = (as ++ [a]).map Value.ref := by simp
      rw [e2]
      refine ih (i + 1) (as ++ [a]) _ (by rw [← hi', Nat.add_assoc, Nat.add_comm 1 j]) ?_ (List.forall_mem_cons.mpr ⟨hA, List.forall_mem_cons.mpr ⟨hL, hn⟩⟩)
      rw [List.take_add_one, hk, List.map_append]
      exact (T.mono fun p hp => .tail _ (.tail _ hp)).append (.cons (.head _) (.tail _ (.head _)) hu .nil)
  have r := key _ 0 [] [] (Nat.zero_add _) .nil (List.forall_mem_nil _)
  rw [List.append_nil] at r
  exact r
/-- a comprehension over ints whose items are new signed numbers -/
theorem sgs_rest {its : Array Value} {vs : List Value} {xs : List Int} (g : Int → Bool × List Int) (hits : its = vs.toArray) (hi : IntsAre vs xs) (hS : ∀ nx, S (news ++ nx))
    (turn : ∀ k t I oI C oC D m₂ ys nx h tk (E' : Value → Shared → Prop), k ∈ xs → (∀ p ∈ nx, AllNeN p.1 news) → NsObj oC m₂ → m₂ x = some (.int k t) → Fr h₀ L h m → News h₀ L h ((I, oI) :: (C, oC) :: (D, lst ys) :: (news ++ nx)) → Off3 I C D (news ++ nx) → ((@Ne Nat I C) ∧ (@Ne Nat I D) ∧ (@Ne Nat C D)) →
      wpAny (model prog w) A (eval elt (compEnvC scope cl C env)) (CompEnd h₀ L m { s with heap := h, toks := tk } I oI C oC D (lst ys) (fun _ => True) (fun y news' => ∃ a l us c n, y = .ref a ∧ news' = news ++ ((a, tupBL (g k).1 l c) :: (l, listOf (List.toArray us) n) :: nx) ∧ IntsAre us (g k).2 ∧ AllNeN a news ∧ AllNeN l news)) E' { s with heap := h, toks := tk })
    (fin : ∀ as nx, SgsIn nx as (xs.map g) → (∀ p ∈ nx, AllNeN p.1 news) → Fin (as.map Value.ref) (news ++ nx)) :
    CompRest prog w A h₀ L m env elt x scope cl s S (fun i v => its[i]? = some v) Fin its.size 0 [] news := by
  have key : ∃ ks : List (Int × Tok), vs = ks.map (fun k => Value.int k.1 k.2) ∧ xs = ks.map (·.1) := by
    clear turn fin hits
    induction hi with
    | nil => exact ⟨[], rfl, rfl⟩
    | cons n t _ ih => obtain ⟨ks, e1, e2⟩ := ih; exact ⟨(n, t) :: ks, by rw [e1]; rfl, by rw [e2]; rfl⟩
  obtain ⟨ks, rfl, rfl⟩ := key
  rw [List.map_map] at fin
  exact sgsG_rest (ks := ks) (fun k => Value.int k.1 k.2) (fun k => g k.1) hits hS (fun k => by intro I oI C oC D m₂ ys nx h tk E' hk; exact turn k.1 k.2 I oI C oC D m₂ ys nx h tk E' (List.mem_map_of_mem hk)) fin
/-- a comprehension over rows whose items are new rows of signed numbers -/
theorem rows_rest {its : Array Value} {rs : List Addr} {rows : List (List Int)} (g : Int → Bool × List Int) (hits : its = (rs.map Value.ref).toArray) (T₀ : TrisIn news rs rows) (hS : ∀ nx, S (news ++ nx))
    (turn : ∀ r xs us c I oI C oC D m₂ ys nx h tk (E' : Value → Shared → Prop), xs ∈ rows → (r, listOf (List.toArray us) c) ∈ news → IntsAre us xs → (∀ p ∈ nx, AllNeN p.1 news) → NsObj oC m₂ → m₂ x = some (.ref r) → Fr h₀ L h m → News h₀ L h ((I, oI) :: (C, oC) :: (D, lst ys) :: (news ++ nx)) → Off3 I C D (news ++ nx) → ((@Ne Nat I C) ∧ (@Ne Nat I D) ∧ (@Ne Nat C D)) →
      wpAny (model prog w) A (eval elt (compEnvC scope cl C env)) (CompEnd h₀ L m { s with heap := h, toks := tk } I oI C oC D (lst ys) (fun _ => True) (fun y news' => ∃ R as n nz, y = .ref R ∧ news' = news ++ ((R, listOf (List.map Value.ref as).toArray n) :: (nz ++ nx)) ∧ SgsIn nz as (xs.map g) ∧ AllNeN R news ∧ ∀ p ∈ nz, AllNeN p.1 news)) E' { s with heap := h, toks := tk })
    (fin : ∀ Rs nx, MatIn g nx Rs rows → (∀ p ∈ nx, AllNeN p.1 news) → Fin (Rs.map Value.ref) (news ++ nx)) :
    CompRest prog w A h₀ L m env elt x scope cl s S (fun i v => its[i]? = some v) Fin its.size 0 [] news := by
  subst hits
  have hl := T₀.length
  have key : ∀ (j i : Nat) (Rs : List Addr) (nx : List (Addr × Obj)), i + j = (rs.map Value.ref).toArray.size → MatIn g nx Rs (rows.take i) → (∀ p ∈ nx, AllNeN p.1 news) → CompRest prog w A h₀ L m env elt x scope cl s S (fun i v => (rs.map Value.ref).toArray[i]? = some v) Fin j i (Rs.map Value.ref) (news ++ nx) := by
    intro j
    induction j with
    | zero =>
      intro i Rs nx hi' T hn
      have e : i = rows.length := by rw [← hl]; simpa using hi'
      rw [e, List.take_length] at T
      exact CompRest.zero (fin Rs nx T hn)
    | succ j ih =>
      intro i Rs nx hi' T hn
      refine CompRest.succ ?_
      intro v I oI C oC D m₂ h tk E' hv hC hx F N off ne
      have hir : i < rs.length := by
        have : (rs.map Value.ref).toArray.size = rs.length := by simp
        rw [← this, ← hi']
        exact Nat.lt_add_of_pos_right (Nat.succ_pos j)
      obtain ⟨us, c, hm, hu⟩ := T₀.at i hir
      have hv' : v = .ref (rs.getD i 0) := by
        have q : (rs.map Value.ref)[i]? = some v := by simpa using hv
        rw [List.getElem?_map, List.getElem?_eq_getElem hir] at q
        rw [show rs.getD i 0 = rs[i] by simp [hir]]
        exact (Option.some.inj q).symm
      subst hv'
      have hrow : rows[i]? = some (rows.getD i []) := by
        have : i < rows.length := hl ▸ hir
        simp [this]
      refine wpAny_mono (turn _ _ us c I oI C oC D m₂ _ nx h tk E' (List.mem_of_getElem? hrow) hm hu hn hC hx F N off ne) (fun y s₂ hq => ?_) fun _ _ e => e
      obtain ⟨h', tk', nw, e, F', N', off', -, R, as, n, nz, rfl, rfl, hs, hR, hz⟩ := hq
      refine ⟨h', tk', _, e, F', N', off', hS _, ?_⟩
      show CompRest _ _ _ _ _ _ _ _ _ _ _ _ _ _ _ _ _ (Rs.map Value.ref ++ [Value.ref R]) _
      have e2 : Rs.map Value.ref ++ [Value.ref R] = (Rs ++ [R]).map Value.ref := by simp
      rw [e2]
      refine ih (i + 1) (Rs ++ [R]) _ (by rw [← hi', Nat.add_assoc, Nat.add_comm 1 j]) ?_ (List.forall_mem_cons.mpr ⟨hR, fun p hp => (List.mem_append.mp hp).elim (hz p) (hn p)⟩)
      rw [List.take_add_one, hrow]
      exact (T.mono fun p hp => .tail _ (List.mem_append_right _ hp)).append (.cons (.head _) (hs.mono fun p hp => .tail _ (List.mem_append_left _ hp)) .nil)
  have r := key _ 0 [] [] (Nat.zero_add _) .nil (List.forall_mem_nil _)
  rw [List.append_nil] at r
  exact r
end
theorem SgsIn.three {h₀ h : Heap} {L : Addr} {nx news : List (Addr × Obj)} {as : List Addr} {s0 s1 s2 : Bool × List Int} (x : SgsIn nx as [s0, s1, s2]) (N : News h₀ L h news) (hs : ∀ p ∈ nx, p ∈ news) : ∃ p0 p1 p2, as = [p0, p1, p2] ∧ Sg h p0 s0.1 s0.2 ∧ Sg h p1 s1.1 s1.2 ∧ Sg h p2 s2.1 s2.2 := by
  rcases x with _ | ⟨a0, b0, i0, x⟩
  rcases x with _ | ⟨a1, b1, i1, x⟩
  rcases x with _ | ⟨a2, b2, i2, x⟩
  rcases x with _ | _
  exact ⟨_, _, _, rfl, Sg.new N (hs _ a0) (hs _ b0) i0, Sg.new N (hs _ a1) (hs _ b1) i1, Sg.new N (hs _ a2) (hs _ b2) i2⟩
theorem MatIn.three {g : Int → Bool × List Int} {nx : List (Addr × Obj)} {Rs : List Addr} {r s t : List Int} (x : MatIn g nx Rs [r, s, t]) : ∃ r0 r1 r2 as0 as1 as2 n0 n1 n2, Rs = [r0, r1, r2] ∧ (r0, listOf (List.map Value.ref as0).toArray n0) ∈ nx ∧ (r1, listOf (List.map Value.ref as1).toArray n1) ∈ nx ∧ (r2, listOf (List.map Value.ref as2).toArray n2) ∈ nx ∧ SgsIn nx as0 (r.map g) ∧ SgsIn nx as1 (s.map g) ∧ SgsIn nx as2 (t.map g) := by
  rcases x with _ | ⟨a0, b0, x⟩
  rcases x with _ | ⟨a1, b1, x⟩
  rcases x with _ | ⟨a2, b2, x⟩
  rcases x with _ | _
  exact ⟨_, _, _, _, _, _, _, _, _, rfl, a0, a1, a2, b0, b1, b2⟩

end
section
structure EvInt (e : PySem.Expr) (a : Int) : Prop where
  ev : ∀ {prog : Program} {w : World} {A : Around} {env : Env} {E : Value → Shared → Prop} {s : Shared} {Q : Value → Shared → Prop}, (∀ t tk', Q (.int a t) { s with toks := tk' }) → wpAny (model prog w) A (eval e env) Q E s
  st : ∀ rest env, starEach (e :: rest) env = (false, eval e env) :: starEach rest env
theorem evInt {a : Int} {k : Nat} {pos : Pos} : EvInt (.Constant (.int a) k pos) a := ⟨fun h => wpAny_Constant_int (h _ _), fun _ _ => rfl⟩
theorem evNeg {a : Int} {k : Nat} {pos pos2 : Pos} : EvInt (.UnaryOp .USub (.Constant (.int a) k pos) pos2) (-a) := ⟨fun h => UnaryOp_ (wpAny_Constant_int (PyProof.Rows.neg_int (h _ _))), fun _ _ => rfl⟩
section
variable {prog : Program} {w : World} {A : Around} {env : Env} {E : Value → Shared → Prop} {s : Shared} {Q : Value → Shared → Prop} {h₀ : Heap} {L : Addr} {m : Str → Option Value} {news : List (Addr × Obj)}
theorem list3 {e1 e2 e3 : PySem.Expr} {a b c : Int} {pos : Pos} (h1 : EvInt e1 a) (h2 : EvInt e2 b) (h3 : EvInt e3 c) (F : Fr h₀ L s.heap m) (N : News h₀ L s.heap news)
    (k : ∀ D h' tk' t1 t2 t3, Fr h₀ L h' m → News h₀ L h' ((D, listOf #[.int a t1, .int b t2, .int c t3] 0) :: news) → Q (.ref D) { s with heap := h', toks := tk' }) : wpAny (model prog w) A (eval (.List [e1, e2, e3] pos) env) Q E s :=
  List_ (args_cons (h1.ev fun t1 _ => args_cons (h2.ev fun t2 _ => args_cons (h3.ev fun t3 _ => args_nil (newList_K F N (fun D h' F' N' _ => k D h' _ t1 t2 t3 F' N') (Nat.le_of_ble_eq_true rfl))) (h3.st _ _)) (h2.st _ _)) (h1.st _ _))
def MatL (nx : List (Addr × Obj)) (M : Addr) (x : List Int) : Prop := ∃ r0 r1 r2 n n0 n1 n2 x1 x2 x3 x4 x5 x6 x7 x8 x9 t1 t2 t3 t4 t5 t6 t7 t8 t9, nx = [(M, listOf #[.ref r0, .ref r1, .ref r2] n), (r2, listOf #[.int x7 t7, .int x8 t8, .int x9 t9] n2), (r1, listOf #[.int x4 t4, .int x5 t5, .int x6 t6] n1), (r0, listOf #[.int x1 t1, .int x2 t2, .int x3 t3] n0)] ∧ x = [x1, x2, x3, x4, x5, x6, x7, x8, x9]
theorem mat3 {e1 e2 e3 e4 e5 e6 e7 e8 e9 : PySem.Expr} {x1 x2 x3 x4 x5 x6 x7 x8 x9 : Int} {pos p1 p2 p3 : Pos} (h1 : EvInt e1 x1) (h2 : EvInt e2 x2) (h3 : EvInt e3 x3) (h4 : EvInt e4 x4) (h5 : EvInt e5 x5) (h6 : EvInt e6 x6) (h7 : EvInt e7 x7) (h8 : EvInt e8 x8) (h9 : EvInt e9 x9) (F : Fr h₀ L s.heap m) (N : News h₀ L s.heap news)
    (k : ∀ M nx h' tk', MatL nx M [x1, x2, x3, x4, x5, x6, x7, x8, x9] → Fr h₀ L h' m → News h₀ L h' (news ++ nx) → Q (.ref M) { s with heap := h', toks := tk' }) :
    wpAny (model prog w) A (eval (.List [.List [e1, e2, e3] p1, .List [e4, e5, e6] p2, .List [e7, e8, e9] p3] pos) env) Q E s :=
  List_ (args_cons (list3 h1 h2 h3 F N fun r0 _ _ t1 t2 t3 F1 N1 => args_cons (list3 h4 h5 h6 F1 N1 fun r1 _ _ t4 t5 t6 F2 N2 => args_cons (list3 h7 h8 h9 F2 N2 fun r2 _ _ t7 t8 t9 F3 N3 => args_nil (newList_K F3 N3 (fun M h' F' N' _ =>
    k M _ h' _ ⟨r0, r1, r2, _, _, _, _, _, _, _, _, _, _, _, _, _, t1, t2, t3, t4, t5, t6, t7, t8, t9, rfl, rfl⟩ F' fun p hp => N' p (by
      rcases List.mem_append.mp hp with hp | hp
      · exact .tail _ (.tail _ (.tail _ (.tail _ hp)))
      · rcases List.mem_cons.mp hp with rfl | hp
        · exact .head _
        rcases List.mem_cons.mp hp with rfl | hp
        · exact .tail _ (.head _)
        rcases List.mem_cons.mp hp with rfl | hp
        · exact .tail _ (.tail _ (.head _))
        · rw [List.mem_singleton.mp hp]; exact .tail _ (.tail _ (.tail _ (.head _))))) (Nat.le_of_ble_eq_true rfl))))))
end
theorem SgsIn.at {news : List (Addr × Obj)} : ∀ {as : List Addr} {ss : List (Bool × List Int)}, SgsIn news as ss → ∀ i, i < as.length → ∃ s l us c n, ss[i]? = some s ∧ (as.getD i 0, tupBL s.1 l c) ∈ news ∧ (l, listOf (List.toArray us) n) ∈ news ∧ IntsAre us s.2
  | _, _, .nil, i, h => absurd h (Nat.not_lt_zero _)
  | _, _, .cons (s := s) h h2 x r, 0, _ => ⟨s, _, _, _, _, rfl, h, h2, x⟩
  | _, _, .cons h h2 x r, i + 1, hi => r.at i (Nat.lt_of_succ_lt_succ hi)
theorem SgsIn.length {news : List (Addr × Obj)} : ∀ {as : List Addr} {ss : List (Bool × List Int)}, SgsIn news as ss → as.length = ss.length
  | _, _, .nil => rfl
  | _, _, .cons _ _ _ r => by rw [List.length_cons, List.length_cons, r.length]
section
open LCg
variable {prog : Program} {w : World} {A : Around} {h₀ : Heap} {L : Addr} {m : Str → Option Value} {env : Env} {elt : Expr} {x : Str} {scope : Scope} {cl : List (Str × Addr)} {s : Shared} {S : List (Addr × Obj) → Prop} {Fin : List Value → List (Addr × Obj) → Prop} {news : List (Addr × Obj)}
/-- a comprehension over signed numbers whose items are ints -/
theorem signs_rest {its : Array Value} {as : List Addr} {ss : List (Bool × List Int)} (V : Bool × List Int → Int) (hits : its = (as.map Value.ref).toArray) (T₀ : SgsIn news as ss) (hS : S news)
    (turn : ∀ a l us c n z I oI C oC D m₂ ys h tk (E' : Value → Shared → Prop), z ∈ ss → (a, tupBL z.1 l c) ∈ news → (l, listOf (List.toArray us) n) ∈ news → IntsAre us z.2 → NsObj oC m₂ → m₂ x = some (.ref a) → Fr h₀ L h m → News h₀ L h ((I, oI) :: (C, oC) :: (D, lst ys) :: news) → Off3 I C D news → ((@Ne Nat I C) ∧ (@Ne Nat I D) ∧ (@Ne Nat C D)) →
      wpAny (model prog w) A (eval elt (compEnvC scope cl C env)) (CompEnd h₀ L m { s with heap := h, toks := tk } I oI C oC D (lst ys) (fun _ => True) (fun y news' => news' = news ∧ ∃ t, y = .int (V z) t)) E' { s with heap := h, toks := tk })
    (fin : ∀ ys, IntsAre ys (ss.map V) → Fin ys news) :
    CompRest prog w A h₀ L m env elt x scope cl s S (fun i v => its[i]? = some v) Fin its.size 0 [] news := by
  subst hits
  have hl := T₀.length
  have key : ∀ (j i : Nat) (ys : List Value), i + j = (as.map Value.ref).toArray.size → IntsAre ys ((ss.take i).map V) → CompRest prog w A h₀ L m env elt x scope cl s S (fun i v => (as.map Value.ref).toArray[i]? = some v) Fin j i ys news := by
    intro j
    induction j with
    | zero =>
      intro i ys hi' T
      have e : i = ss.length := by rw [← hl]; simpa using hi'
      rw [e, List.take_length] at T
      exact CompRest.zero (fin ys T)
    | succ j ih =>
      intro i ys hi' T
      refine CompRest.succ ?_
      intro v I oI C oC D m₂ h tk E' hv hC hx F N off ne
      have hir : i < as.length := by
        have : (as.map Value.ref).toArray.size = as.length := by simp
        rw [← this, ← hi']
        exact Nat.lt_add_of_pos_right (Nat.succ_pos j)
      obtain ⟨z, l, us, c, n, hz, ha, hu, hi⟩ := T₀.at i hir
      have hv' : v = .ref (as.getD i 0) := by
        have q : (as.map Value.ref)[i]? = some v := by simpa using hv
        rw [List.getElem?_map, List.getElem?_eq_getElem hir] at q
        rw [show as.getD i 0 = as[i] by simp [hir]]
        exact (Option.some.inj q).symm
      subst hv'
      refine wpAny_mono (turn _ l us c n z I oI C oC D m₂ _ h tk E' (List.mem_of_getElem? hz) ha hu hi hC hx F N off ne) (fun y s₂ hq => ?_) fun _ _ e => e
      obtain ⟨h', tk', nw, e, F', N', off', -, rfl, t, rfl⟩ := hq
      refine ⟨h', tk', _, e, F', N', off', hS, ?_⟩
      refine ih (i + 1) _ (by rw [← hi', Nat.add_assoc, Nat.add_comm 1 j]) ?_
      rw [List.take_add_one, hz, List.map_append]
      exact IntsAre.append T (.cons _ t .nil)
  exact key _ 0 [] (Nat.zero_add _) .nil
end

end
section
theorem off3_ins2 {I C D : Addr} {q r : Addr × Obj} {l1 l2 : List (Addr × Obj)} (h : LCg.Off3 I C D (l1 ++ l2)) (hq : @Ne Nat q.1 I ∧ @Ne Nat q.1 C ∧ @Ne Nat q.1 D) (hr : @Ne Nat r.1 I ∧ @Ne Nat r.1 C ∧ @Ne Nat r.1 D) : LCg.Off3 I C D (l1 ++ q :: r :: l2) :=
  off3_ins (l2 := r :: l2) (off3_ins h hr) hq
theorem mem_ins2 {α : Type} {p q r : α} {l1 l2 : List α} (h : p ∈ l1 ++ q :: r :: l2) : p = q ∨ p = r ∨ p ∈ l1 ++ l2 := (mem_ins h).imp id fun h => mem_ins h
theorem mem_insL {α : Type} {p q : α} {l1 l2 l3 : List α} (h : p ∈ l1 ++ q :: (l2 ++ l3)) : p = q ∨ p ∈ l2 ∨ p ∈ l1 ++ l3 := by
  rcases mem_ins h with h | h
  · exact .inl h
  · rcases List.mem_append.mp h with h | h
    · exact .inr (.inr (List.mem_append_left _ h))
    · exact (List.mem_append.mp h).elim (fun h => .inr (.inl h)) fun h => .inr (.inr (List.mem_append_right _ h))
theorem off3_insL {I C D : Addr} {q : Addr × Obj} {l1 l2 l3 : List (Addr × Obj)} (h : LCg.Off3 I C D (l1 ++ l3)) (hq : @Ne Nat q.1 I ∧ @Ne Nat q.1 C ∧ @Ne Nat q.1 D) (hr : ∀ p ∈ l2, @Ne Nat p.1 I ∧ @Ne Nat p.1 C ∧ @Ne Nat p.1 D) : LCg.Off3 I C D (l1 ++ q :: (l2 ++ l3)) := LCg.Off3.of fun p hp => by
  rcases mem_insL hp with rfl | hp | hp
  · exact hq
  · exact hr p hp
  · exact h.mem p hp
theorem allNeN_off1 {D : Addr} : ∀ {l : List (Addr × Obj)}, LCg.Off1 D l → AllNeN D l
  | [], _ => trivial
  | _ :: _, x => ⟨x.1, allNeN_off1 x.2⟩
theorem AllNeN.left {d : Addr} {l1 l2 : List (Addr × Obj)} (x : AllNeN d (l1 ++ l2)) : AllNeN d l1 := allNeN_of fun p hp => x.get (o := p.2) (List.mem_append_left _ hp)
theorem three3 {us : List Int} (h : us.length = 3) : ∃ a b c, us = [a, b, c] := by
  match us, h with
  | [a, b, c], _ => exact ⟨a, b, c, rfl⟩
def sgn (B n : Int) : Bool × List Int := (decide (n < 0), dg B n.natAbs n.natAbs)
def NewMat (h h' : Heap) (v : Value) (s0 s1 s2 s3 s4 s5 s6 s7 s8 : Bool × List Int) : Prop :=
  ∃ M r0 r1 r2 p0 p1 p2 p3 p4 p5 p6 p7 p8 n n0 n1 n2, v = .ref M ∧ AllFresh h h' [(M, listOf #[.ref r0, .ref r1, .ref r2] n), (r0, listOf #[.ref p0, .ref p1, .ref p2] n0), (r1, listOf #[.ref p3, .ref p4, .ref p5] n1), (r2, listOf #[.ref p6, .ref p7, .ref p8] n2)] ∧
    Sg h' p0 s0.1 s0.2 ∧ Sg h' p1 s1.1 s1.2 ∧ Sg h' p2 s2.1 s2.2 ∧ Sg h' p3 s3.1 s3.2 ∧ Sg h' p4 s4.1 s4.2 ∧ Sg h' p5 s5.1 s5.2 ∧ Sg h' p6 s6.1 s6.2 ∧ Sg h' p7 s7.1 s7.2 ∧ Sg h' p8 s8.1 s8.2
theorem NewMat.of {h h' : Heap} {M r0 r1 r2 p0 p1 p2 p3 p4 p5 p6 p7 p8 : Addr} {n n0 n1 n2 : Nat} {s0 s1 s2 s3 s4 s5 s6 s7 s8 : Bool × List Int} (x : AllFresh h h' [(M, listOf #[.ref r0, .ref r1, .ref r2] n), (r0, listOf #[.ref p0, .ref p1, .ref p2] n0), (r1, listOf #[.ref p3, .ref p4, .ref p5] n1), (r2, listOf #[.ref p6, .ref p7, .ref p8] n2)])
    (a0 : Sg h' p0 s0.1 s0.2) (a1 : Sg h' p1 s1.1 s1.2) (a2 : Sg h' p2 s2.1 s2.2) (a3 : Sg h' p3 s3.1 s3.2) (a4 : Sg h' p4 s4.1 s4.2) (a5 : Sg h' p5 s5.1 s5.2) (a6 : Sg h' p6 s6.1 s6.2) (a7 : Sg h' p7 s7.1 s7.2) (a8 : Sg h' p8 s8.1 s8.2) :
    NewMat h h' (.ref M) s0 s1 s2 s3 s4 s5 s6 s7 s8 := ⟨_, _, _, _, _, _, _, _, _, _, _, _, _, _, _, _, _, rfl, x, a0, a1, a2, a3, a4, a5, a6, a7, a8⟩
set_option maxHeartbeats 600000 in
theorem m_of_spec (w : World) {a ra rb rc : Addr} {x1 x2 x3 x4 x5 x6 x7 x8 x9 k : Int} {t1 t2 t3 t4 t5 t6 t7 t8 t9 u : Tok} {n na nb nc : Nat} (hk : 3 ≤ k) (hk' : k ≤ 8)
    (h1 : -9 ≤ x1 ∧ x1 ≤ 9) (h2 : -9 ≤ x2 ∧ x2 ≤ 9) (h3 : -9 ≤ x3 ∧ x3 ≤ 9) (h4 : -9 ≤ x4 ∧ x4 ≤ 9) (h5 : -9 ≤ x5 ∧ x5 ≤ 9) (h6 : -9 ≤ x6 ∧ x6 ≤ 9) (h7 : -9 ≤ x7 ∧ x7 ≤ 9) (h8 : -9 ≤ x8 ∧ x8 ≤ 9) (h9 : -9 ≤ x9 ∧ x9 ≤ 9) :
    SpecT w 149 10 [(a, listOf #[.ref ra, .ref rb, .ref rc] n), (ra, listOf #[.int x1 t1, .int x2 t2, .int x3 t3] na), (rb, listOf #[.int x4 t4, .int x5 t5, .int x6 t6] nb), (rc, listOf #[.int x7 t7, .int x8 t8, .int x9 t9] nc)] [.ref a, .int k u] (fun _ => True)
      (fun h h' v => NewMat h h' v (sgn (2 ^ k.toNat) x1) (sgn (2 ^ k.toNat) x2) (sgn (2 ^ k.toNat) x3) (sgn (2 ^ k.toNat) x4) (sgn (2 ^ k.toNat) x5) (sgn (2 ^ k.toNat) x6) (sgn (2 ^ k.toNat) x7) (sgn (2 ^ k.toNat) x8) (sgn (2 ^ k.toNat) x9)) := by
  have hall : ∀ xs ∈ [[x1, x2, x3], [x4, x5, x6], [x7, x8, x9]], xs.length = 3 ∧ ∀ k ∈ xs, -9 ≤ k ∧ k ≤ 9 :=
    List.forall_mem_cons.mpr ⟨⟨rfl, List.forall_mem_cons.mpr ⟨h1, List.forall_mem_cons.mpr ⟨h2, List.forall_mem_cons.mpr ⟨h3, List.forall_mem_nil _⟩⟩⟩⟩, List.forall_mem_cons.mpr ⟨⟨rfl, List.forall_mem_cons.mpr ⟨h4, List.forall_mem_cons.mpr ⟨h5, List.forall_mem_cons.mpr ⟨h6, List.forall_mem_nil _⟩⟩⟩⟩, List.forall_mem_cons.mpr ⟨⟨rfl, List.forall_mem_cons.mpr ⟨h7, List.forall_mem_cons.mpr ⟨h8, List.forall_mem_cons.mpr ⟨h9, List.forall_mem_nil _⟩⟩⟩⟩, List.forall_mem_nil _⟩⟩⟩
  clear h1 h2 h3 h4 h5 h6 h7 h8 h9
  k_with_none
  intro dp un gd s mean mg mb Q E A0 base h₀ outer env L0 m0 hf hke B0 F0 N0 X0 T0 hd hu hpre ret
  refine' enterTC (binds := [(Str.ofString "rows", .ref a), (Str.ofString "w", .int k u)]) hf hke B0 F0 N0 X0 T0 ?ho ?hcd ?hroom ?k9 ?kB ?kD ?_ ?c2 ?c3 ?c4
  case ho => k_is
  case hcd => k_is
  case hroom => exact room_ok hd
  case k9 => exact BindsTo.of_eq rfl
  case kB => exact rfl
  case kD => decide +kernel
  case c2 => rfl
  case c3 => rfl
  case c4 => rfl
  intro g0 L' h₁ tk cells hg F' N' Y' B X T l1
  (try k_lt l1)
  k_cells Y'
  (try simp only [List.cons_append, List.nil_append] at N')
  (try dsimp only)
  (try k_fold)
  k_with "call ref" => k_dflt (k_here; refine stopD ?_)
  k_with "eval ListComp" => k_dflt (k_here; refine stopD ?_)
  k_with "CompSrc" => k_dflt (k_here; refine stopD ?_)
  k_with "CompEnd" => k_dflt (k_here; refine stopD ?_)
  k_steps
  apply StopD.mk
  refine LCg.ListComp_U (F₀ := by k_asm) (by rfl) (by decide) (by rfl) (by decide) (by rfl) ?_
  k_steps
  apply StopD.mk
  rename Fr _ _ _ _ => lF'
  rename News _ _ _ _ => lN'
  rename AllLt _ _ => lT
  rename_i oc dc
  replace dc : oc.data = .cell (some (.int k u)) := dc
  generalize bindL _ _ _ = mm at lF' ⊢
  have mA : (a, listOf #[Value.ref ra, .ref rb, .ref rc] n) ∈ [(L' + 1, oc), (a, listOf #[Value.ref ra, .ref rb, .ref rc] n), (ra, listOf #[Value.int x1 t1, .int x2 t2, .int x3 t3] na), (rb, listOf #[Value.int x4 t4, .int x5 t5, .int x6 t6] nb), (rc, listOf #[Value.int x7 t7, .int x8 t8, .int x9 t9] nc)] := .tail _ (.head _)
  have T₀ : TrisIn [(L' + 1, oc), (a, listOf #[Value.ref ra, .ref rb, .ref rc] n), (ra, listOf #[Value.int x1 t1, .int x2 t2, .int x3 t3] na), (rb, listOf #[Value.int x4 t4, .int x5 t5, .int x6 t6] nb), (rc, listOf #[Value.int x7 t7, .int x8 t8, .int x9 t9] nc)] [ra, rb, rc] [[x1, x2, x3], [x4, x5, x6], [x7, x8, x9]] :=
    .cons (.tail _ (.tail _ (.head _))) (.cons _ _ (.cons _ _ (.cons _ _ .nil))) (.cons (.tail _ (.tail _ (.tail _ (.head _)))) (.cons _ _ (.cons _ _ (.cons _ _ .nil))) (.cons (.tail _ (.tail _ (.tail _ (.tail _ (.head _))))) (.cons _ _ (.cons _ _ (.cons _ _ .nil))) .nil))
  refine LCg.CompSrc.ledger rfl lF' lN' mA (Nat.le_of_ble_eq_true rfl) ?_
  clear lT
  have hNo : ∀ p ∈ [(a, listOf #[Value.ref ra, .ref rb, .ref rc] n), (ra, listOf #[Value.int x1 t1, .int x2 t2, .int x3 t3] na), (rb, listOf #[Value.int x4 t4, .int x5 t5, .int x6 t6] nb), (rc, listOf #[Value.int x7 t7, .int x8 t8, .int x9 t9] nc)], s.heap.get? p.1 = some p.2 := fun p hp => (N0 p hp).1
  generalize [(a, listOf #[Value.ref ra, .ref rb, .ref rc] n), (ra, listOf #[Value.int x1 t1, .int x2 t2, .int x3 t3] na), (rb, listOf #[Value.int x4 t4, .int x5 t5, .int x6 t6] nb), (rc, listOf #[Value.int x7 t7, .int x8 t8, .int x9 t9] nc)] = own at *
  intro g'
  refine rows_rest (rs := [ra, rb, rc]) (sgn (2 ^ k.toNat)) rfl T₀ (fun nx => .inr ⟨_, List.mem_append_left _ mA, rfl, _, rfl⟩) ?turn ?fin
  case turn =>
    intro r xs us c I oI C oC D m2 ys nx h tk E' hx hm hu hn hC hxx F N off ne
    (try clear lF'); (try clear lN')
    obtain ⟨hx3, hxb⟩ := hall xs hx
    have hm2 := List.mem_append_left nx hm
    dsimp only [List.cons_append] at N off hm2
    generalize hG : own ++ nx = W at N off hm2
    k_steps
    apply StopD.mk
    refine LCg.ListComp_U (F₀ := by k_asm) (by rfl) (by decide) (by rfl) (by decide) (by rfl) ?_
    k_steps
    apply StopD.mk
    rename Fr _ _ _ _ => lF'
    rename News _ _ _ _ => lN'
    refine LCg.CompSrc.ledger rfl lF' lN' (.tail _ (.tail _ (.tail _ hm2))) (by rw [List.size_toArray, hu.length, hx3]; exact Nat.le_of_ble_eq_true rfl) ?_
    intro g2
    refine sgs_rest (sgn (2 ^ k.toNat)) rfl hu (fun nx => .inr ⟨_, List.mem_append_left _ (.tail _ (.tail _ (.tail _ hm2))), rfl, _, rfl⟩) ?turn2 ?fin2
    case turn2 =>
      intro e te I2 oI2 C2 oC2 D2 m3 ys2 nx2 h2 tk2 E2 he hn2 hC2 hx2 F2 N2 off2 ne2
      obtain ⟨hb1, hb2⟩ := hxb e he
      (try clear lF'); (try clear lN'); (try clear F); (try clear N)
      dsimp only [List.cons_append] at N2
      k_steps
      apply StopD.mk
      rename Fr _ _ _ _ => lF'
      rename News _ _ _ _ => lN'
      refine' use_sgN trivial (s_of_spec w hk hk' (by omega) (by omega)) (by with_unfolding_all rfl) X T lF' lN' (by with_unfolding_all (show (dp + 1) + _ < 900; omega)) (by with_unfolding_all (show (un + 3) + _ < 9000; omega)) ?_
      clear lF' lN'
      intro a1 l1 us1 n1 c1 h3 tk3 F3 N3 i3 nA nL
      (try dsimp only)
      (try k_fold)
      k_steps
      apply StopD.mk
      rename Fr _ _ _ _ => lF'
      rename News _ _ _ _ => lN'
      have N4 := kst_newsOf (l' := (I2, oI2) :: (C2, oC2) :: (D2, LCg.lst ys2) :: (((I, oI) :: (C, oC) :: (D, LCg.lst ys) :: (L' + 1, oc) :: W) ++ (a1, tupBL (sgn (2 ^ k.toNat) e).1 l1 c1) :: (l1, listOf (List.toArray us1) n1) :: nx2)) lN' (List.forall_mem_cons.mpr ⟨by k_memK, List.forall_mem_cons.mpr ⟨by k_memK, List.forall_mem_cons.mpr ⟨by k_memK, fun p hp => by
        rcases mem_ins2 hp with rfl | rfl | hp
        · k_memK
        · k_memK
        · exact .tail _ (.tail _ (.tail _ (.tail _ (.tail _ hp))))⟩⟩⟩)
      exact ⟨_, _, _, rfl, lF', N4, off3_ins2 (by assumption) ⟨nA.2.1.symm, nA.2.2.1.symm, nA.2.2.2.1.symm⟩ ⟨nL.1.symm, nL.2.1.symm, nL.2.2.1.symm⟩, trivial, a1, l1, us1, c1, n1, rfl, rfl, i3, AllNeN.left nA.2.2.2.2, AllNeN.left nL.2.2.2⟩
    case fin2 =>
      intro as nz T2 hz
      dsimp only [List.cons_append]
      (try clear lF'); (try clear lN'); (try clear F); (try clear N)
      k_steps
      apply StopD.mk
      rename Fr _ _ _ _ => lF'
      rename News _ _ _ _ => lN'
      rename LCg.Off1 _ _ => lO
      have nO := allNeN_off1 lO
      rename_i R _ _
      subst hG
      have N5 := kst_newsOf (l' := (I, oI) :: (C, oC) :: (D, LCg.lst ys) :: (((L' + 1, oc) :: own) ++ (R, LCg.lst (List.map Value.ref as)) :: (nz ++ nx))) lN' (List.forall_mem_cons.mpr ⟨by k_memK, List.forall_mem_cons.mpr ⟨by k_memK, List.forall_mem_cons.mpr ⟨by k_memK, fun p hp => by
        rcases mem_insL hp with rfl | hp | hp
        · exact .head _
        · exact .tail _ (.tail _ (.tail _ (.tail _ (.tail _ (List.mem_append_right _ hp)))))
        · exact .tail _ (.tail _ (.tail _ (.tail _ (List.mem_append_left nz hp))))⟩⟩⟩)
      exact ⟨_, _, _, rfl, lF', N5, off3_insL (l1 := (L' + 1, oc) :: own) off ⟨nO.1.symm, nO.2.1.symm, nO.2.2.1.symm⟩ (fun p hp => ⟨(hz p hp).1.symm, (hz p hp).2.1.symm, (hz p hp).2.2.1.symm⟩), trivial, R, as, _, nz, rfl, rfl, T2, ⟨nO.2.2.2.1, AllNeN.left (AllNeN.left nO.2.2.2.2)⟩, fun p hp => ⟨(hz p hp).2.2.2.1, AllNeN.left (hz p hp).2.2.2.2⟩⟩
  case fin =>
    intro Rs nx T2 hn2
    dsimp only [List.cons_append]
    (try clear lF'); (try clear lN')
    k_steps
    rename Fr _ _ _ _ => lF'
    rename News _ _ _ _ => lN'
    rename LCg.Off1 _ _ => lO
    have nO := allNeN_off1 lO
    rename_i DM _ _
    obtain ⟨r0, r1, r2, as0, as1, as2, n0, n1, n2, rfl, m0, m1, m2, S0, S1, S2⟩ := T2.three
    have sub : ∀ p ∈ nx, p ∈ (DM, LCg.lst (List.map Value.ref [r0, r1, r2])) :: (L' + 1, oc) :: (own ++ nx) := fun p hp => .tail _ (.tail _ (List.mem_append_right _ hp))
    obtain ⟨p0, p1, p2, rfl, s0, s1, s2⟩ := S0.three lN' sub
    obtain ⟨p3, p4, p5, rfl, s3, s4, s5⟩ := S1.three lN' sub
    obtain ⟨p6, p7, p8, rfl, s6, s7, s8⟩ := S2.three lN' sub
    refine ret _ _ _ (hidL_keep hg hNo (Fr.keep lF') lN' fun p hp => .tail _ (.tail _ (List.mem_append_left _ hp))) (NewMat.of (M := DM) (r0 := r0) (r1 := r1) (r2 := r2) (n := 3) (n0 := n0) (n1 := n1) (n2 := n2) (List.forall_mem_cons.mpr ⟨?_, List.forall_mem_cons.mpr ⟨?_, List.forall_mem_cons.mpr ⟨?_, List.forall_mem_cons.mpr ⟨?_, List.forall_mem_nil _⟩⟩⟩⟩) s0 s1 s2 s3 s4 s5 s6 s7 s8)
    · exact fresh_at hg lN' (.head _) fun p hp => (AllNeN.left nO.2).get (o := p.2) hp
    · exact fresh_at hg lN' (sub _ m0) fun p hp => ((hn2 _ m0).2).get (o := p.2) hp
    · exact fresh_at hg lN' (sub _ m1) fun p hp => ((hn2 _ m1).2).get (o := p.2) hp
    · exact fresh_at hg lN' (sub _ m2) fun p hp => ((hn2 _ m2).2).get (o := p.2) hp

end
section
def NewRow (h h' : Heap) (v : Value) (s0 s1 s2 : Bool × List Int) : Prop :=
  ∃ R a0 a1 a2 l0 l1 l2 u0 u1 u2 n m0 m1 m2 c0 c1 c2, v = .ref R ∧ AllFresh h h' [(R, listOf #[.ref a0, .ref a1, .ref a2] n), (a0, tupBL s0.1 l0 c0), (l0, listOf (List.toArray u0) m0), (a1, tupBL s1.1 l1 c1), (l1, listOf (List.toArray u1) m1), (a2, tupBL s2.1 l2 c2), (l2, listOf (List.toArray u2) m2)] ∧
    IntsAre u0 s0.2 ∧ IntsAre u1 s1.2 ∧ IntsAre u2 s2.2
theorem NewRow.of {h h' : Heap} {R a0 a1 a2 l0 l1 l2 : Addr} {u0 u1 u2 : List Value} {n m0 m1 m2 c0 c1 c2 : Nat} {s0 s1 s2 : Bool × List Int} (x : AllFresh h h' [(R, listOf #[.ref a0, .ref a1, .ref a2] n), (a0, tupBL s0.1 l0 c0), (l0, listOf (List.toArray u0) m0), (a1, tupBL s1.1 l1 c1), (l1, listOf (List.toArray u1) m1), (a2, tupBL s2.1 l2 c2), (l2, listOf (List.toArray u2) m2)])
    (i0 : IntsAre u0 s0.2) (i1 : IntsAre u1 s1.2) (i2 : IntsAre u2 s2.2) : NewRow h h' (.ref R) s0 s1 s2 := ⟨_, _, _, _, _, _, _, _, _, _, _, _, _, _, _, _, _, rfl, x, i0, i1, i2⟩
set_option maxHeartbeats 4000000 in
theorem m_led_spec (w : World) {a r0 r1 r2 c p0 p1 p2 p3 p4 p5 p6 p7 p8 q0 q1 q2 : Addr} {k : Int} {u : Tok} {n n0 n1 n2 nc : Nat} {b0 b1 b2 b3 b4 b5 b6 b7 b8 e0 e1 e2 : Bool} {x0 x1 x2 x3 x4 x5 x6 x7 x8 y0 y1 y2 : List Int} (hk : 3 ≤ k) (hk' : k ≤ 8)
    (ok0 : innOk (2 ^ k.toNat) (b0, x0) (b1, x1) (b2, x2) (e0, y0) (e1, y1) (e2, y2) = true) (ok1 : innOk (2 ^ k.toNat) (b3, x3) (b4, x4) (b5, x5) (e0, y0) (e1, y1) (e2, y2) = true) (ok2 : innOk (2 ^ k.toNat) (b6, x6) (b7, x7) (b8, x8) (e0, y0) (e1, y1) (e2, y2) = true) :
    SpecT w 161 12 [(a, listOf #[.ref r0, .ref r1, .ref r2] n), (r0, listOf #[.ref p0, .ref p1, .ref p2] n0), (r1, listOf #[.ref p3, .ref p4, .ref p5] n1), (r2, listOf #[.ref p6, .ref p7, .ref p8] n2), (c, listOf #[.ref q0, .ref q1, .ref q2] nc)] [.ref a, .ref c, .int k u, .ref 175] (fun h => Sg h p0 b0 x0 ∧ Sg h p1 b1 x1 ∧ Sg h p2 b2 x2 ∧ Sg h p3 b3 x3 ∧ Sg h p4 b4 x4 ∧ Sg h p5 b5 x5 ∧ Sg h p6 b6 x6 ∧ Sg h p7 b7 x7 ∧ Sg h p8 b8 x8 ∧ Sg h q0 e0 y0 ∧ Sg h q1 e1 y1 ∧ Sg h q2 e2 y2)
      (fun h h' v => NewRow h h' v (inn (2 ^ k.toNat) (b0, x0) (b1, x1) (b2, x2) (e0, y0) (e1, y1) (e2, y2)) (inn (2 ^ k.toNat) (b3, x3) (b4, x4) (b5, x5) (e0, y0) (e1, y1) (e2, y2)) (inn (2 ^ k.toNat) (b6, x6) (b7, x7) (b8, x8) (e0, y0) (e1, y1) (e2, y2))) := by
  k_with_none
  intro dp un gd s mean mg mb Q E A0 base h₀ outer env L0 m0 hf hke B0 F0 N0 X0 T0 hd hu hpre ret
  obtain ⟨sp0, sp1, sp2, sp3, sp4, sp5, sp6, sp7, sp8, sq0, sq1, sq2⟩ := hpre
  refine' enterTC (binds := [(Str.ofString "a", .ref a), (Str.ofString "column", .ref c), (Str.ofString "w", .int k u), (Str.ofString "mul", .ref 175)]) hf hke B0 F0 N0 X0 T0 ?ho ?hcd ?hroom ?k9 ?kB ?kD ?_ ?c2 ?c3 ?c4
  case ho => k_is
  case hcd => k_is
  case hroom => exact room_ok hd
  case k9 => exact BindsTo.of_eq rfl
  case kB => exact rfl
  case kD => decide +kernel
  case c2 => rfl
  case c3 => rfl
  case c4 => rfl
  intro g0 L' h₁ tk cells hg F' N' Y' B X T l1
  (try k_lt l1)
  k_cells Y'
  (try simp only [List.cons_append, List.nil_append] at N')
  (try dsimp only)
  (try k_fold)
  have hr : ∀ p ∈ [(a, listOf #[.ref r0, .ref r1, .ref r2] n), (r0, listOf #[.ref p0, .ref p1, .ref p2] n0), (r1, listOf #[.ref p3, .ref p4, .ref p5] n1), (r2, listOf #[.ref p6, .ref p7, .ref p8] n2), (c, listOf #[.ref q0, .ref q1, .ref q2] nc)], ∃ r l n, p.2 = listOf (List.toArray (.ref r :: l)) n := by
    intro p hp
    rcases List.mem_cons.mp hp with rfl | hp
    · exact ⟨_, _, _, rfl⟩
    rcases List.mem_cons.mp hp with rfl | hp
    · exact ⟨_, _, _, rfl⟩
    rcases List.mem_cons.mp hp with rfl | hp
    · exact ⟨_, _, _, rfl⟩
    rcases List.mem_cons.mp hp with rfl | hp
    · exact ⟨_, _, _, rfl⟩
    · rw [List.mem_singleton.mp hp]; exact ⟨_, _, _, rfl⟩
  replace sp0 := hidL_sg hg (fun p hp => (N0 p hp).1) hr sp0
  replace sp1 := hidL_sg hg (fun p hp => (N0 p hp).1) hr sp1
  replace sp2 := hidL_sg hg (fun p hp => (N0 p hp).1) hr sp2
  replace sp3 := hidL_sg hg (fun p hp => (N0 p hp).1) hr sp3
  replace sp4 := hidL_sg hg (fun p hp => (N0 p hp).1) hr sp4
  replace sp5 := hidL_sg hg (fun p hp => (N0 p hp).1) hr sp5
  replace sp6 := hidL_sg hg (fun p hp => (N0 p hp).1) hr sp6
  replace sp7 := hidL_sg hg (fun p hp => (N0 p hp).1) hr sp7
  replace sp8 := hidL_sg hg (fun p hp => (N0 p hp).1) hr sp8
  replace sq0 := hidL_sg hg (fun p hp => (N0 p hp).1) hr sq0
  replace sq1 := hidL_sg hg (fun p hp => (N0 p hp).1) hr sq1
  replace sq2 := hidL_sg hg (fun p hp => (N0 p hp).1) hr sq2
  clear hr
  k_with "call ref" => k_dflt (k_here; first
    | ((rename Fr _ _ _ _ => lF'); (rename News _ _ _ _ => lN'); (refine' use_Tsg ?_ (inner_spec w hk hk' ?_) (by with_unfolding_all rfl) (by with_unfolding_all rfl) (by with_unfolding_all rfl) (by with_reducible assumption) (by with_reducible assumption) (by with_reducible assumption) lF' lN' (List.forall_mem_cons.mpr ⟨by with_unfolding_all k_memK, List.forall_mem_cons.mpr ⟨by with_unfolding_all k_memK, List.forall_mem_nil _⟩⟩) (by first | exact dp_ok hd rfl | (with_unfolding_all show (dp + 1) + _ < 900; omega) | (with_unfolding_all show (dp + 2) + _ < 900; omega) | (with_unfolding_all show (dp + 3) + _ < 900; omega) | (with_unfolding_all show (dp + 4) + _ < 900; omega)) (by first | exact dp_ok hu rfl | (with_unfolding_all show (un + 3) + _ < 9000; omega) | (with_unfolding_all show (un + 6) + _ < 9000; omega) | (with_unfolding_all show (un + 9) + _ < 9000; omega) | (with_unfolding_all show (un + 12) + _ < 9000; omega)) ?_); (· exact ⟨Sg.keep (by assumption) (Fr.keep lF'), Sg.keep (by assumption) (Fr.keep lF'), Sg.keep (by assumption) (Fr.keep lF'), Sg.keep (by assumption) (Fr.keep lF'), Sg.keep (by assumption) (Fr.keep lF'), Sg.keep (by assumption) (Fr.keep lF')⟩); (· assumption); (intro kcq kcr kcus kcn kcc kch kctk kcF kcN kcI kcNe kcNf); (try clear lF' lN'); (try dsimp only); (try k_fold)))
  k_steps
  k_with_none
  rename Fr _ _ _ _ => lF'
  rename News _ _ _ _ => lN'
  refine ret _ _ _ (hidL_keep hg (fun p hp => (N0 p hp).1) (Fr.keep lF') lN' ?own) ?fin
  case own => exact List.forall_mem_cons.mpr ⟨by k_memK, List.forall_mem_cons.mpr ⟨by k_memK, List.forall_mem_cons.mpr ⟨by k_memK, List.forall_mem_cons.mpr ⟨by k_memK, List.forall_mem_cons.mpr ⟨by k_memK, List.forall_mem_nil _⟩⟩⟩⟩⟩
  case fin =>
    refine' NewRow.of (AllFresh.cons hg lN' ?m0 ?a0 (AllFresh.cons hg lN' ?m1 ?a1 (AllFresh.cons hg lN' ?m2 ?a2 (AllFresh.cons hg lN' ?m3 ?a3 (AllFresh.cons hg lN' ?m4 ?a4 (AllFresh.cons hg lN' ?m5 ?a5 (AllFresh.cons hg lN' ?m6 ?a6 .nil))))))) ?s0 ?s1 ?s2
    case m0 => k_memK
    case m1 => k_memK
    case m2 => k_memK
    case m3 => k_memK
    case m4 => k_memK
    case m5 => k_memK
    case m6 => k_memK
    case s0 => assumption
    case s1 => assumption
    case s2 => assumption
    all_goals refine List.forall_mem_cons.mpr ⟨?_, List.forall_mem_cons.mpr ⟨?_, List.forall_mem_cons.mpr ⟨?_, List.forall_mem_cons.mpr ⟨?_, List.forall_mem_cons.mpr ⟨?_, List.forall_mem_nil _⟩⟩⟩⟩⟩ <;> k_ne

end
section
def MAT (kind : Int) : List Int := if kind = 0 then [1, -2, 2, 2, -1, 2, 2, -2, 3] else if kind = 1 then [1, 2, 2, 2, 1, 2, 2, 2, 3] else if kind = 2 then [-1, 2, 2, -2, 1, 2, -2, 2, 3] else [1, 2, -2, 2, 1, -2, -2, -2, 3]
section
variable {w : World} {A A₀ : Around} {s : Shared} {Q E : Value → Shared → Prop} {mean : ExcName → Option Value} {mg mb : Str → Option Value} {f : Addr} {need : Nat} {vs : List Value} {base h₀ : Heap} {L : Addr} {m : Str → Option Value} {news own : List (Addr × Obj)} {outer : List Env} {env : Env} {Pre : Heap → Prop}
theorem use_mat {s0 s1 s2 s3 s4 s5 s6 s7 s8 : Bool × List Int} (S : SpecT w f need own vs Pre (fun h h' v => NewMat h h' v s0 s1 s2 s3 s4 s5 s6 s7 s8)) (pre : Pre s.heap) (hA : A = Ar A.depth A.units (some (env :: outer)) A.guards) (hf : env.frame = some L) (hke : env.scope.kind = .function) (B : Below A₀ base outer h₀) (X₀ : (top0.heap_1 w.params).In h₀) (T : Top vw (looseW vw [Str.ofString "NOUGHT"]) mean mg mb h₀)
    (F : Fr h₀ L s.heap m) (N : News h₀ L s.heap news) (hown : ∀ p ∈ own, p ∈ news) (hdp : A.depth + need < 900) (hun : A.units + 10 * need < 9000)
    (k : ∀ M r0 r1 r2 p0 p1 p2 p3 p4 p5 p6 p7 p8 n n0 n1 n2 h' tk', Fr h₀ L h' m → News h₀ L h' ((M, listOf #[.ref r0, .ref r1, .ref r2] n) :: (r0, listOf #[.ref p0, .ref p1, .ref p2] n0) :: (r1, listOf #[.ref p3, .ref p4, .ref p5] n1) :: (r2, listOf #[.ref p6, .ref p7, .ref p8] n2) :: news) →
      Sg h' p0 s0.1 s0.2 → Sg h' p1 s1.1 s1.2 → Sg h' p2 s2.1 s2.2 → Sg h' p3 s3.1 s3.2 → Sg h' p4 s4.1 s4.2 → Sg h' p5 s5.1 s5.2 → Sg h' p6 s6.1 s6.2 → Sg h' p7 s7.1 s7.2 → Sg h' p8 s8.1 s8.2 → Q (.ref M) { s with heap := h', toks := tk' }) :
    wpAny (model PySem.Challenge.rw_xm0402_01.row.prog w) A (call (.ref f) vs) Q E s :=
  use_T pre S hA hf hke B X₀ T F N hown hdp hun fun h' tk' v F' _ kp x => by
    obtain ⟨M, r0, r1, r2, p0, p1, p2, p3, p4, p5, p6, p7, p8, n, n0, n1, n2, rfl, fr, a0, a1, a2, a3, a4, a5, a6, a7, a8⟩ := x
    exact k M r0 r1 r2 p0 p1 p2 p3 p4 p5 p6 p7 p8 n n0 n1 n2 h' tk' F' (fr.news F N kp) a0 a1 a2 a3 a4 a5 a6 a7 a8
theorem use_row {s0 s1 s2 : Bool × List Int} (S : SpecT w f need own vs Pre (fun h h' v => NewRow h h' v s0 s1 s2)) (pre : Pre s.heap) (hA : A = Ar A.depth A.units (some (env :: outer)) A.guards) (hf : env.frame = some L) (hke : env.scope.kind = .function) (B : Below A₀ base outer h₀) (X₀ : (top0.heap_1 w.params).In h₀) (T : Top vw (looseW vw [Str.ofString "NOUGHT"]) mean mg mb h₀)
    (F : Fr h₀ L s.heap m) (N : News h₀ L s.heap news) (hown : ∀ p ∈ own, p ∈ news) (hdp : A.depth + need < 900) (hun : A.units + 10 * need < 9000)
    (k : ∀ R a0 a1 a2 l0 l1 l2 u0 u1 u2 n m0 m1 m2 c0 c1 c2 h' tk', Fr h₀ L h' m → News h₀ L h' ((R, listOf #[.ref a0, .ref a1, .ref a2] n) :: (a0, tupBL s0.1 l0 c0) :: (l0, listOf (List.toArray u0) m0) :: (a1, tupBL s1.1 l1 c1) :: (l1, listOf (List.toArray u1) m1) :: (a2, tupBL s2.1 l2 c2) :: (l2, listOf (List.toArray u2) m2) :: news) →
      IntsAre u0 s0.2 → IntsAre u1 s1.2 → IntsAre u2 s2.2 → Q (.ref R) { s with heap := h', toks := tk' }) :
    wpAny (model PySem.Challenge.rw_xm0402_01.row.prog w) A (call (.ref f) vs) Q E s :=
  use_T pre S hA hf hke B X₀ T F N hown hdp hun fun h' tk' v F' _ kp x => by
    obtain ⟨R, a0, a1, a2, l0, l1, l2, u0, u1, u2, n, m0, m1, m2, c0, c1, c2, rfl, fr, i0, i1, i2⟩ := x
    exact k R a0 a1 a2 l0 l1 l2 u0 u1 u2 n m0 m1 m2 c0 c1 c2 h' tk' F' (fr.news F N kp) i0 i1 i2
theorem allLt_ne' {d : Addr} {l1 l2 : List (Addr × Obj)} (x : AllLt d l1) (h : ∀ p ∈ l2, p ∈ l1) : AllNeN d l2 := allNeN_of fun p hp => ltN_get (o := p.2) x (h p hp)
theorem pick_kind {nx : List (Addr × Obj)} {M0 M1 M2 M3 : Addr} {n0 n1 n2 n3 : List (Addr × Obj)} {kind : Int} (hd1 : 0 ≤ kind) (hd2 : kind ≤ 3) (h0 : MatL n0 M0 (MAT 0)) (h1 : MatL n1 M1 (MAT 1)) (h2 : MatL n2 M2 (MAT 2)) (h3 : MatL n3 M3 (MAT 3)) (s0 : ∀ p ∈ n0, p ∈ nx) (s1 : ∀ p ∈ n1, p ∈ nx) (s2 : ∀ p ∈ n2, p ∈ nx) (s3 : ∀ p ∈ n3, p ∈ nx) :
    ∃ M n, [Value.ref M0, .ref M1, .ref M2, .ref M3][kind.toNat]? = some (.ref M) ∧ MatL n M (MAT kind) ∧ ∀ p ∈ n, p ∈ nx := by
  have hc : kind = 0 ∨ kind = 1 ∨ kind = 2 ∨ kind = 3 := by omega
  rcases hc with rfl | rfl | rfl | rfl
  · exact ⟨M0, n0, rfl, h0, s0⟩
  · exact ⟨M1, n1, rfl, h1, s1⟩
  · exact ⟨M2, n2, rfl, h2, s2⟩
  · exact ⟨M3, n3, rfl, h3, s3⟩
theorem mat_nine {kind : Int} (hd1 : 0 ≤ kind) (hd2 : kind ≤ 3) {x1 x2 x3 x4 x5 x6 x7 x8 x9 : Int} (h : MAT kind = [x1, x2, x3, x4, x5, x6, x7, x8, x9]) : (-9 ≤ x1 ∧ x1 ≤ 9) ∧ (-9 ≤ x2 ∧ x2 ≤ 9) ∧ (-9 ≤ x3 ∧ x3 ≤ 9) ∧ (-9 ≤ x4 ∧ x4 ≤ 9) ∧ (-9 ≤ x5 ∧ x5 ≤ 9) ∧ (-9 ≤ x6 ∧ x6 ≤ 9) ∧ (-9 ≤ x7 ∧ x7 ≤ 9) ∧ (-9 ≤ x8 ∧ x8 ≤ 9) ∧ (-9 ≤ x9 ∧ x9 ≤ 9) := by
  have hc : kind = 0 ∨ kind = 1 ∨ kind = 2 ∨ kind = 3 := by omega
  have all : ∀ y ∈ MAT kind, -9 ≤ y ∧ y ≤ 9 := by rcases hc with rfl | rfl | rfl | rfl <;> decide
  rw [h] at all
  simpa using all
end
def colv (B a : Int) : Bool × List Int := (decide (a < 0), dg B (if a < 0 then -a else a).toNat (if a < 0 then -a else a))
def row3 (B x y z a b c : Int) : Bool × List Int := inn B (sgn B x) (sgn B y) (sgn B z) (colv B a) (colv B b) (colv B c)
def row3Ok (B x y z a b c : Int) : Bool := innOk B (sgn B x) (sgn B y) (sgn B z) (colv B a) (colv B b) (colv B c) && decide ((row3 B x y z a b c).2.length < 100)
def sv (B : Int) (s : Bool × List Int) : Int := if s.1 = true then 0 - wor B s.2 else wor B s.2
def ledV (B a b c : Int) (x : List Int) : List Int := [sv B (row3 B (x.getD 0 0) (x.getD 1 0) (x.getD 2 0) a b c), sv B (row3 B (x.getD 3 0) (x.getD 4 0) (x.getD 5 0) a b c), sv B (row3 B (x.getD 6 0) (x.getD 7 0) (x.getD 8 0) a b c)]
def ledOk (B a b c : Int) (x : List Int) : Bool := row3Ok B (x.getD 0 0) (x.getD 1 0) (x.getD 2 0) a b c && row3Ok B (x.getD 3 0) (x.getD 4 0) (x.getD 5 0) a b c && row3Ok B (x.getD 6 0) (x.getD 7 0) (x.getD 8 0) a b c
theorem NewNums.fresh {h h' : Heap} {r : Addr} {us : List Value} {n : Nat} {ns : List Int} (x : h.get? r = none ∧ h'.get? r = some (listOf (List.toArray us) n)) (hi : IntsAre us ns) : NewNums h h' (.ref r) ns := ⟨r, us, n, rfl, x.1, x.2, hi⟩
set_option maxHeartbeats 800000 in
theorem law_led_spec (w : World) {r : Addr} {a b c k kind : Int} {ta tb tc u t : Tok} {n : Nat} (hk : 3 ≤ k) (hk' : k ≤ 8) (hkind : 0 ≤ kind ∧ kind ≤ 3) (ha : -2000 ≤ a ∧ a ≤ 2000) (hb : -2000 ≤ b ∧ b ≤ 2000) (hc : -2000 ≤ c ∧ c ≤ 2000) (hok : ledOk (2 ^ k.toNat) a b c (MAT kind) = true) :
    SpecT w 243 20 [(r, listOf #[.int a ta, .int b tb, .int c tc] n)] [.int kind t, .ref r, .int k u] (fun _ => True) (fun h h' v => NewNums h h' v (ledV (2 ^ k.toNat) a b c (MAT kind))) := by
  obtain ⟨ha1, ha2⟩ := ha
  obtain ⟨hb1, hb2⟩ := hb
  obtain ⟨hc1, hc2⟩ := hc
  obtain ⟨hd1, hd2⟩ := hkind
  k_with_none
  intro dp un gd s mean mg mb Q E A0 base h₀ outer env L0 m0 hf hke B0 F0 N0 X0 T0 hd hu hpre ret
  refine' enterTC (binds := [(Str.ofString "kind", .int kind t), (Str.ofString "triangle", .ref r), (Str.ofString "w", .int k u)]) hf hke B0 F0 N0 X0 T0 ?ho ?hcd ?hroom ?k9 ?kB ?kD ?_ ?c2 ?c3 ?c4
  case ho => k_is
  case hcd => k_is
  case hroom => exact room_ok hd
  case k9 => exact BindsTo.of_eq rfl
  case kB => exact rfl
  case kD => decide +kernel
  case c2 => rfl
  case c3 => rfl
  case c4 => rfl
  intro g0 L' h₁ tk cells hg F' N' Y' B X T l1
  (try k_lt l1)
  k_cells Y'
  (try simp only [List.cons_append, List.nil_append] at N')
  (try dsimp only)
  (try k_fold)
  k_with "eval List" => k_dflt (k_here; (with_reducible show wpAny _ _ (eval (PySem.Expr.List [PySem.Expr.List [_, _, _] _, PySem.Expr.List [_, _, _] _, PySem.Expr.List [_, _, _] _] _) _) _ _ _); (rename Fr _ _ _ _ => lF'); (rename News _ _ _ _ => lN'); (refine' mat3 ?i1 ?i2 ?i3 ?i4 ?i5 ?i6 ?i7 ?i8 ?i9 lF' lN' ?_; (case i1 => first | exact evInt | exact evNeg); (case i2 => first | exact evInt | exact evNeg); (case i3 => first | exact evInt | exact evNeg); (case i4 => first | exact evInt | exact evNeg); (case i5 => first | exact evInt | exact evNeg); (case i6 => first | exact evInt | exact evNeg); (case i7 => first | exact evInt | exact evNeg); (case i8 => first | exact evInt | exact evNeg); (case i9 => first | exact evInt | exact evNeg)); (clear lF' lN'); intro M' nx' h' tk' hM' F' N'; (try dsimp only [List.cons_append, List.nil_append] at N'))
  k_with "call ref" => k_dflt (k_here; refine stopD ?_)
  k_with "exec Assign cons ListComp" => k_dflt (k_here; refine stopD ?_)
  k_with "eval ListComp" => k_dflt (k_here; refine stopD ?_)
  k_with "CompSrc" => k_dflt (k_here; refine stopD ?_)
  k_with "CompEnd" => k_dflt (k_here; refine stopD ?_)
  k_with "subscriptTail Name Name ref int" => k_dflt (k_here; refine stopD ?_)
  k_steps
  apply StopD.mk
  rename Fr _ _ _ _ => lF'
  rename News _ _ _ _ => lN'
  rename_i oc dc M0 nx0 z1 z2 hM0 M1 nx1 z3 z4 hM1 S1 z5 z6 z7 z8 M2 nx2 z9 z10 hM2 S2 z11 z12 SS z13 z14 z15
  replace dc : oc.data = .cell (some (.int k u)) := dc
  obtain ⟨M, nxM, hx, hM, hs⟩ := pick_kind (nx := nx0 ++ nx1 ++ nx2 ++ nx') hd1 hd2 hM0 hM1 hM2 hM' (fun p hp => List.mem_append_left _ (List.mem_append_left _ (List.mem_append_left _ hp))) (fun p hp => List.mem_append_left _ (List.mem_append_left _ (List.mem_append_right _ hp))) (fun p hp => List.mem_append_left _ (List.mem_append_right _ hp)) (fun p hp => List.mem_append_right _ hp)
  obtain ⟨r0, r1, r2, nm, n0, n1, n2, x1, x2, x3, x4, x5, x6, x7, x8, x9, v1, v2, v3, v4, v5, v6, v7, v8, v9, rfl, hMx⟩ := hM
  have N1 := kst_newsOf (l' := [(SS, listOf #[.ref M0, .ref M1, .ref M2, .ref M'] 0), (L' + 1, oc), (r, listOf #[.int a ta, .int b tb, .int c tc] n), (M, listOf #[.ref r0, .ref r1, .ref r2] nm), (r2, listOf #[.int x7 v7, .int x8 v8, .int x9 v9] n2), (r1, listOf #[.int x4 v4, .int x5 v5, .int x6 v6] n1), (r0, listOf #[.int x1 v1, .int x2 v2, .int x3 v3] n0)]) lN' (List.forall_mem_cons.mpr ⟨by k_memK, List.forall_mem_cons.mpr ⟨by k_memK, List.forall_mem_cons.mpr ⟨by k_memK, fun p hp => .tail _ (.tail _ (.tail _ (.tail _ (.tail _ (hs p hp)))))⟩⟩⟩)
  obtain ⟨mm, F1⟩ := fr_prune [(Str.ofString "some", .ref SS), (Str.ofString "kind", .int kind t), (Str.ofString "triangle", .ref r)] lF' (by kst_all)
  dsimp only [kstB_c, kstB_n] at F1
  obtain ⟨hx1, hx2, hx3, hx4, hx5, hx6, hx7, hx8, hx9⟩ := mat_nine hd1 hd2 hMx
  rw [hMx] at hok ret
  clear lF' lN' hM0 hM1 hM2 hM' hs hMx
  simp only [ledOk, row3Ok, List.getD_cons_zero, List.getD_cons_succ, Bool.and_eq_true, decide_eq_true_eq] at hok
  obtain ⟨⟨⟨ok0, l0⟩, ⟨ok1, l1⟩⟩, ⟨ok2, l2⟩⟩ := hok
  refine LCg.Assign_ListComp_U (F₀ := by k_asm) (by rfl) (by with_unfolding_all rfl) (by rfl) (by decide) (by rfl) (by decide) (by rfl) (by rfl) (by rfl) ?_
  k_steps
  apply StopD.mk
  rename Fr _ _ _ _ => lF'
  rename News _ _ _ _ => lN'
  have mR : (r, listOf #[.int a ta, .int b tb, .int c tc] n) ∈ [(SS, listOf #[.ref M0, .ref M1, .ref M2, .ref M'] 0), (L' + 1, oc), (r, listOf #[.int a ta, .int b tb, .int c tc] n), (M, listOf #[.ref r0, .ref r1, .ref r2] nm), (r2, listOf #[.int x7 v7, .int x8 v8, .int x9 v9] n2), (r1, listOf #[.int x4 v4, .int x5 v5, .int x6 v6] n1), (r0, listOf #[.int x1 v1, .int x2 v2, .int x3 v3] n0)] := .tail _ (.tail _ (.head _))
  refine LCg.CompSrc.ledger rfl lF' lN' mR (Nat.le_of_ble_eq_true rfl) ?_
  intro g1
  refine sgs_rest (vs := [.int a ta, .int b tb, .int c tc]) (xs := [a, b, c]) (colv (2 ^ k.toNat)) rfl (.cons _ _ (.cons _ _ (.cons _ _ .nil))) (fun nx => .inr ⟨_, List.mem_append_left _ mR, rfl, _, rfl⟩) ?turn ?fin
  case turn =>
    intro e te I oI C oC D m2 ys nx h tk E' he hn hC hxx F N off ne
    have hb : -2000 ≤ e ∧ e ≤ 2000 := (List.forall_mem_cons.mpr ⟨⟨ha1, ha2⟩, List.forall_mem_cons.mpr ⟨⟨hb1, hb2⟩, List.forall_mem_cons.mpr ⟨⟨hc1, hc2⟩, List.forall_mem_nil _⟩⟩⟩ : ∀ e ∈ [a, b, c], -2000 ≤ e ∧ e ≤ 2000) e he
    obtain ⟨he1, he2⟩ := hb
    (try clear lF'); (try clear lN')
    dsimp only [List.cons_append, List.nil_append] at N off
    k_steps
    apply StopD.mk
    rename Fr _ _ _ _ => lF'
    rename News _ _ _ _ => lN'
    refine' use_listN trivial (law_limbs_spec w hk hk' (by omega) (by omega)) (by with_unfolding_all rfl) X T lF' lN' (by with_unfolding_all (show (dp + 1) + _ < 900; omega)) (by with_unfolding_all (show (un + 3) + _ < 9000; omega)) ?_
    clear lF' lN'
    intro q1 us1 m1 h1 tk1 F1 N1 i1 nq
    (try dsimp only)
    (try k_fold)
    k_steps
    apply StopD.mk
    rename Fr _ _ _ _ => lF'
    rename News _ _ _ _ => lN'
    rename_i q2 z20 z21
    have N13 := kst_newsOf (l' := (I, oI) :: (C, oC) :: (D, LCg.lst ys) :: ([(SS, listOf #[.ref M0, .ref M1, .ref M2, .ref M'] 0), (L' + 1, oc), (r, listOf #[.int a ta, .int b tb, .int c tc] n), (M, listOf #[.ref r0, .ref r1, .ref r2] nm), (r2, listOf #[.int x7 v7, .int x8 v8, .int x9 v9] n2), (r1, listOf #[.int x4 v4, .int x5 v5, .int x6 v6] n1), (r0, listOf #[.int x1 v1, .int x2 v2, .int x3 v3] n0)] ++ (q2, tupBL (colv (2 ^ k.toNat) e).1 q1 0) :: (q1, listOf (List.toArray us1) m1) :: nx)) lN' (List.forall_mem_cons.mpr ⟨by k_memK, List.forall_mem_cons.mpr ⟨by k_memK, List.forall_mem_cons.mpr ⟨by k_memK, fun p hp => by
      rcases mem_ins2 hp with rfl | rfl | hp
      · exact .head _
      · exact .tail _ (.head _)
      · exact .tail _ (.tail _ (.tail _ (.tail _ (.tail _ hp))))⟩⟩⟩)
    exact ⟨_, _, _, rfl, lF', N13, off3_ins2 (l1 := [(SS, listOf #[.ref M0, .ref M1, .ref M2, .ref M'] 0), (L' + 1, oc), (r, listOf #[.int a ta, .int b tb, .int c tc] n), (M, listOf #[.ref r0, .ref r1, .ref r2] nm), (r2, listOf #[.int x7 v7, .int x8 v8, .int x9 v9] n2), (r1, listOf #[.int x4 v4, .int x5 v5, .int x6 v6] n1), (r0, listOf #[.int x1 v1, .int x2 v2, .int x3 v3] n0)]) off ⟨(ltN_get z21 (.tail _ (.head _))).symm, (ltN_get z21 (.tail _ (.tail _ (.head _)))).symm, (ltN_get z21 (.tail _ (.tail _ (.tail _ (.head _))))).symm⟩ ⟨nq.1.symm, nq.2.1.symm, nq.2.2.1.symm⟩, trivial, q2, q1, us1, 0, m1, rfl, rfl, i1, allLt_ne' z21 (fun p hp => .tail _ (.tail _ (.tail _ (.tail _ (List.mem_append_left nx hp))))), AllNeN.left (l1 := [(SS, listOf #[.ref M0, .ref M1, .ref M2, .ref M'] 0), (L' + 1, oc), (r, listOf #[.int a ta, .int b tb, .int c tc] n), (M, listOf #[.ref r0, .ref r1, .ref r2] nm), (r2, listOf #[.int x7 v7, .int x8 v8, .int x9 v9] n2), (r1, listOf #[.int x4 v4, .int x5 v5, .int x6 v6] n1), (r0, listOf #[.int x1 v1, .int x2 v2, .int x3 v3] n0)]) nq.2.2.2⟩
  case fin =>
    intro as nz T1 hz
    dsimp only [List.cons_append, List.nil_append]
    (try clear lF'); (try clear lN')
    k_steps
    apply StopD.mk
    rename Fr _ _ _ _ => lF'
    rename News _ _ _ _ => lN'
    rename LCg.Off1 _ _ => lO
    rename_i CL z30 z31
    refine' item_litK (vs := [.ref M0, .ref M1, .ref M2, .ref M']) ⟨_, (lN' (SS, listOf #[.ref M0, .ref M1, .ref M2, .ref M'] 0) (.tail _ (.head _))).1, rfl, _, rfl⟩ hd1 (by omega) hx ?_ (by with_unfolding_all rfl)
    k_steps
    apply StopD.mk
    rename Fr _ _ _ _ => lF'
    rename News _ _ _ _ => lN'
    refine' use_mat (m_of_spec w hk hk' hx1 hx2 hx3 hx4 hx5 hx6 hx7 hx8 hx9) trivial (by with_unfolding_all rfl) (by with_unfolding_all rfl) (by with_unfolding_all rfl) B X T lF' lN' ?own (by with_unfolding_all (show (dp + 1) + _ < 900; omega)) (by with_unfolding_all (show (un + 3) + _ < 9000; omega)) ?_
    case own => exact List.forall_mem_cons.mpr ⟨by k_memK, List.forall_mem_cons.mpr ⟨by k_memK, List.forall_mem_cons.mpr ⟨by k_memK, List.forall_mem_cons.mpr ⟨by k_memK, List.forall_mem_nil _⟩⟩⟩⟩
    intro MM s0 s1 s2 p0 p1 p2 p3 p4 p5 p6 p7 p8 m9 m0 m1 m2 h2 tk2 F2 N3 sp0 sp1 sp2 sp3 sp4 sp5 sp6 sp7 sp8
    have N4 := kst_newsOf (l' := (MM, listOf #[.ref s0, .ref s1, .ref s2] m9) :: (s0, listOf #[.ref p0, .ref p1, .ref p2] m0) :: (s1, listOf #[.ref p3, .ref p4, .ref p5] m1) :: (s2, listOf #[.ref p6, .ref p7, .ref p8] m2) :: (CL, LCg.lst (List.map Value.ref as)) :: (L' + 1, oc) :: (r, listOf #[.int a ta, .int b tb, .int c tc] n) :: nz) N3 (List.forall_mem_cons.mpr ⟨by k_memK, List.forall_mem_cons.mpr ⟨by k_memK, List.forall_mem_cons.mpr ⟨by k_memK, List.forall_mem_cons.mpr ⟨by k_memK, List.forall_mem_cons.mpr ⟨by k_memK, List.forall_mem_cons.mpr ⟨by k_memK, List.forall_mem_cons.mpr ⟨by k_memK, fun p hp => by repeat (first | exact hp | refine List.Mem.tail _ ?_)⟩⟩⟩⟩⟩⟩⟩)
    clear lF' lN' N3 lO hz
    (try dsimp only)
    (try k_fold)
    k_steps
    apply StopD.mk
    rename Fr _ _ _ _ => lF'
    rename News _ _ _ _ => lN'
    obtain ⟨q0, q1, q2, rfl, sq0, sq1, sq2⟩ := T1.three lN' (fun p hp => .tail _ (.tail _ (.tail _ (.tail _ (.tail _ (.tail _ (.tail _ hp)))))))
    refine' use_row (m_led_spec w hk hk' (b0 := (sgn (2 ^ k.toNat) x1).1) (x0 := (sgn (2 ^ k.toNat) x1).2) (b1 := (sgn (2 ^ k.toNat) x2).1) (x1 := (sgn (2 ^ k.toNat) x2).2) (b2 := (sgn (2 ^ k.toNat) x3).1) (x2 := (sgn (2 ^ k.toNat) x3).2) (b3 := (sgn (2 ^ k.toNat) x4).1) (x3 := (sgn (2 ^ k.toNat) x4).2) (b4 := (sgn (2 ^ k.toNat) x5).1) (x4 := (sgn (2 ^ k.toNat) x5).2) (b5 := (sgn (2 ^ k.toNat) x6).1) (x5 := (sgn (2 ^ k.toNat) x6).2) (b6 := (sgn (2 ^ k.toNat) x7).1) (x6 := (sgn (2 ^ k.toNat) x7).2) (b7 := (sgn (2 ^ k.toNat) x8).1) (x7 := (sgn (2 ^ k.toNat) x8).2) (b8 := (sgn (2 ^ k.toNat) x9).1) (x8 := (sgn (2 ^ k.toNat) x9).2) (e0 := (colv (2 ^ k.toNat) a).1) (y0 := (colv (2 ^ k.toNat) a).2) (e1 := (colv (2 ^ k.toNat) b).1) (y1 := (colv (2 ^ k.toNat) b).2) (e2 := (colv (2 ^ k.toNat) c).1) (y2 := (colv (2 ^ k.toNat) c).2) ok0 ok1 ok2) ?pre (by with_unfolding_all rfl) (by with_unfolding_all rfl) (by with_unfolding_all rfl) B X T lF' lN' ?own2 (by with_unfolding_all (show (dp + 1) + _ < 900; omega)) (by with_unfolding_all (show (un + 3) + _ < 9000; omega)) ?_
    case own2 => exact List.forall_mem_cons.mpr ⟨.head _, List.forall_mem_cons.mpr ⟨.tail _ (.head _), List.forall_mem_cons.mpr ⟨.tail _ (.tail _ (.head _)), List.forall_mem_cons.mpr ⟨.tail _ (.tail _ (.tail _ (.head _))), List.forall_mem_cons.mpr ⟨.tail _ (.tail _ (.tail _ (.tail _ (.head _)))), List.forall_mem_nil _⟩⟩⟩⟩⟩
    case pre => exact ⟨sp0, sp1, sp2, sp3, sp4, sp5, sp6, sp7, sp8, sq0, sq1, sq2⟩
    intro R z0 z1 z2 y0 y1 y2 u0 u1 u2 nR g0' g1' g2' c0 c1 c2 h3 tk3 F3 N5 i0 i1 i2
    clear lF' lN' sp0 sp1 sp2 sp3 sp4 sp5 sp6 sp7 sp8 sq0 sq1 sq2 T1
    have TS : SgsIn [(z0, tupBL (row3 (2 ^ k.toNat) x1 x2 x3 a b c).1 y0 c0), (y0, listOf (List.toArray u0) g0'), (z1, tupBL (row3 (2 ^ k.toNat) x4 x5 x6 a b c).1 y1 c1), (y1, listOf (List.toArray u1) g1'), (z2, tupBL (row3 (2 ^ k.toNat) x7 x8 x9 a b c).1 y2 c2), (y2, listOf (List.toArray u2) g2')] [z0, z1, z2] [row3 (2 ^ k.toNat) x1 x2 x3 a b c, row3 (2 ^ k.toNat) x4 x5 x6 a b c, row3 (2 ^ k.toNat) x7 x8 x9 a b c] :=
      .cons (.head _) (.tail _ (.head _)) i0 (.cons (.tail _ (.tail _ (.head _))) (.tail _ (.tail _ (.tail _ (.head _)))) i1 (.cons (.tail _ (.tail _ (.tail _ (.tail _ (.head _))))) (.tail _ (.tail _ (.tail _ (.tail _ (.tail _ (.head _)))))) i2 .nil))
    obtain ⟨W, hW⟩ : ∃ W, W = [(z0, tupBL (row3 (2 ^ k.toNat) x1 x2 x3 a b c).1 y0 c0), (y0, listOf (List.toArray u0) g0'), (z1, tupBL (row3 (2 ^ k.toNat) x4 x5 x6 a b c).1 y1 c1), (y1, listOf (List.toArray u1) g1'), (z2, tupBL (row3 (2 ^ k.toNat) x7 x8 x9 a b c).1 y2 c2), (y2, listOf (List.toArray u2) g2')] := ⟨_, rfl⟩
    have N6 := kst_newsOf (l' := (R, listOf (List.map Value.ref [z0, z1, z2]).toArray nR) :: (L' + 1, oc) :: (r, listOf #[.int a ta, .int b tb, .int c tc] n) :: W) N5 (List.forall_mem_cons.mpr ⟨.head _, List.forall_mem_cons.mpr ⟨by k_memK, List.forall_mem_cons.mpr ⟨by k_memK, fun p hp => .tail _ (List.mem_append_left _ (hW ▸ hp))⟩⟩⟩)
    rw [← hW] at TS
    clear hW N5
    generalize hV : ledV (2 ^ k.toNat) a b c [x1, x2, x3, x4, x5, x6, x7, x8, x9] = V at ret
    have hV' : V = [row3 (2 ^ k.toNat) x1 x2 x3 a b c, row3 (2 ^ k.toNat) x4 x5 x6 a b c, row3 (2 ^ k.toNat) x7 x8 x9 a b c].map (sv (2 ^ k.toNat)) := hV.symm
    have hlen : ∀ z ∈ [row3 (2 ^ k.toNat) x1 x2 x3 a b c, row3 (2 ^ k.toNat) x4 x5 x6 a b c, row3 (2 ^ k.toNat) x7 x8 x9 a b c], z.2.length < 100 := List.forall_mem_cons.mpr ⟨l0, List.forall_mem_cons.mpr ⟨l1, List.forall_mem_cons.mpr ⟨l2, List.forall_mem_nil _⟩⟩⟩
    generalize [row3 (2 ^ k.toNat) x1 x2 x3 a b c, row3 (2 ^ k.toNat) x4 x5 x6 a b c, row3 (2 ^ k.toNat) x7 x8 x9 a b c] = ss at TS hV' hlen
    clear hV ok0 ok1 ok2
    (try dsimp only)
    (try k_fold)
    k_steps
    apply StopD.mk
    rename Fr _ _ _ _ => lF'
    rename News _ _ _ _ => lN'
    refine LCg.ListComp_U (F₀ := by k_asm) (by rfl) (by decide) (by rfl) (by decide) (by rfl) ?_
    k_steps
    apply StopD.mk
    rename Fr _ _ _ _ => lF'
    rename News _ _ _ _ => lN'
    refine LCg.CompSrc.ledger rfl lF' lN' (.head _) (Nat.le_of_ble_eq_true rfl) ?_
    intro g3
    refine signs_rest (as := [z0, z1, z2]) (sv (2 ^ k.toNat)) rfl (TS.mono fun p hp => .tail _ (.tail _ (.tail _ hp))) (.inr ⟨_, .head _, rfl, _, rfl⟩) ?turn3 ?fin3
    case turn3 =>
      intro a9 l9 us9 c9 n9 z I oI C oC D m2 ys h tk E' hz ma ml hi hC hxx F N off ne
      have hzl := hlen z hz
      (try clear lF'); (try clear lN'); (try clear TS); (try clear hlen)
      k_with_none
      k_with "call ref" => k_dflt (k_here; first
        | ((rename Fr _ _ _ _ => lF'); (rename News _ _ _ _ => lN'); (refine' use_int (by first | exact ⟨_, by is_list, by l_ints⟩ | exact ⟨⟨_, by is_list, by l_ints⟩, ⟨_, by is_list, by l_ints⟩⟩ | trivial) (law_worth_spec w hk hk' (by assumption)) (by with_unfolding_all rfl) (by with_reducible assumption) (by with_reducible assumption) lF' lN' (by first | exact dp_ok hd rfl | (with_unfolding_all show (dp + 1) + _ < 900; omega) | (with_unfolding_all show (dp + 2) + _ < 900; omega) | (with_unfolding_all show (dp + 3) + _ < 900; omega) | (with_unfolding_all show (dp + 4) + _ < 900; omega)) (by first | exact dp_ok hu rfl | (with_unfolding_all show (un + 3) + _ < 9000; omega) | (with_unfolding_all show (un + 6) + _ < 9000; omega) | (with_unfolding_all show (un + 9) + _ < 9000; omega) | (with_unfolding_all show (un + 12) + _ < 9000; omega)) ?_); (intro kct kch kctk kcF kcN); (try clear lF' lN'); (try dsimp only); (try k_fold)))
      k_with "CompEnd" => k_dflt (k_here; refine stopD ?_)
      generalize hW : (R, listOf (List.map Value.ref [z0, z1, z2]).toArray nR) :: (L' + 1, oc) :: (r, listOf #[.int a ta, .int b tb, .int c tc] n) :: W = W2 at N off ma ml
      have hoc : (L' + 1, oc) ∈ W2 := hW ▸ .tail _ (.head _)
      obtain ⟨N7, hN7⟩ : ∃ N7, N7 = (L' + 1, oc) :: (a9, tupBL z.1 l9 c9) :: (l9, listOf (List.toArray us9) n9) :: W2 := ⟨_, rfl⟩
      have N8 := kst_newsOf (l' := (I, oI) :: (C, oC) :: (D, LCg.lst ys) :: (L' + 1, oc) :: (a9, tupBL z.1 l9 c9) :: (l9, listOf (List.toArray us9) n9) :: W2) N (List.forall_mem_cons.mpr ⟨.head _, List.forall_mem_cons.mpr ⟨.tail _ (.head _), List.forall_mem_cons.mpr ⟨.tail _ (.tail _ (.head _)), List.forall_mem_cons.mpr ⟨.tail _ (.tail _ (.tail _ hoc)), List.forall_mem_cons.mpr ⟨.tail _ (.tail _ (.tail _ ma)), List.forall_mem_cons.mpr ⟨.tail _ (.tail _ (.tail _ ml)), fun p hp => .tail _ (.tail _ (.tail _ hp))⟩⟩⟩⟩⟩⟩)
      clear N hN7
      k_steps
      all_goals rename Fr _ _ _ _ => lF'
      all_goals rename News _ _ _ _ => lN'
      all_goals have N9 := kst_newsOf (l' := (I, oI) :: (C, oC) :: (D, LCg.lst ys) :: W2) lN' (List.forall_mem_cons.mpr ⟨by k_memK, List.forall_mem_cons.mpr ⟨by k_memK, List.forall_mem_cons.mpr ⟨by k_memK, fun p hp => by repeat (first | exact hp | refine List.Mem.tail _ ?_)⟩⟩⟩)
      all_goals apply StopD.mk
      · exact ⟨_, _, _, rfl, lF', N9, off, trivial, rfl, _, congrArg (Value.int · _) (if_pos (by assumption : z.1 = true)).symm⟩
      · exact ⟨_, _, _, rfl, lF', N9, off, trivial, rfl, _, congrArg (Value.int · _) (if_neg (by rw [(by assumption : z.1 = false)]; decide) : sv (2 ^ k.toNat) z = _).symm⟩
    case fin3 =>
      intro ys hys
      rw [← hV'] at hys
      (try clear lF'); (try clear lN')
      k_with_none
      k_steps
      rename Fr _ _ _ _ => lF'
      rename News _ _ _ _ => lN'
      rename LCg.Off1 _ _ => lO
      have nO := allNeN_off1 lO
      refine ret _ _ _ (hidL_keep hg (fun p hp => (N0 p hp).1) (Fr.keep lF') lN' (List.forall_mem_cons.mpr ⟨.tail _ (.tail _ (.tail _ (.head _))), List.forall_mem_nil _⟩)) (NewNums.fresh (fresh_at hg lN' (.head _) (List.forall_mem_cons.mpr ⟨nO.2.2.1, List.forall_mem_nil _⟩)) hys)

end
section
local macro_rules | `(tactic| omega) => `(tactic| lia)
structure TS where
  as : List Addr
  nx : List (Addr × Obj)
  cs : List (List Int)
  cnt : Nat
  o1 : Obj
  o2 : Obj
abbrev TS.led (l c1 c2 : Addr) (c : TS) : List (Addr × Obj) := (l, listOf (c.as.map Value.ref).toArray c.cnt) :: (c2, c.o2) :: (c1, c.o1) :: c.nx
structure TS.Ok (l c1 c2 : Addr) (far : List (Addr × Obj)) (c : TS) : Prop where
  tri : TrisIn c.nx c.as c.cs
  d1 : ∃ v, c.o1.data = .cell v
  d2 : ∃ v, c.o2.data = .cell v
  nl : AllNeN l c.nx
  n1 : AllNeN c1 c.nx
  n2 : AllNeN c2 c.nx
  nf : ∀ p ∈ c.nx, AllNeN p.1 far
theorem allNe_app {d : Addr} {l1 l2 : List (Addr × Obj)} (x : AllNeN d l1) (y : AllNeN d l2) : ∀ p ∈ l1 ++ l2, p.1 ≠ d := fun p hp => by
  rcases List.mem_append.mp hp with h | h
  · exact x.get h
  · exact y.get h
theorem allNeN_app {d : Addr} {l1 l2 : List (Addr × Obj)} (x : AllNeN d l1) (y : AllNeN d l2) : AllNeN d (l1 ++ l2) := allNeN_of (allNe_app x y)
theorem allNeN_mono {d : Addr} {l1 l2 : List (Addr × Obj)} (x : AllNeN d l1) (h : ∀ p ∈ l2, p ∈ l1) : AllNeN d l2 := allNeN_of fun p hp => x.get (h p hp)
theorem allLt_ne {d : Addr} {l1 l2 : List (Addr × Obj)} (x : AllLt d l1) (h : ∀ p ∈ l2, p ∈ l1) : AllNeN d l2 := allNeN_of fun p hp => ltN_get x (h p hp)
theorem small2 {a b : Int} (h1 : -1000000 ≤ a) (h2 : a ≤ 1000000) (h3 : -1000000 ≤ b) (h4 : b ≤ 1000000) : Builtin.Range.small a b 2 = true := by
  unfold Builtin.Range.small Builtin.Range.rangeSize
  simp only [Builtin.Range.rangeFitsLong, Bool.and_eq_true, Bool.or_eq_true, decide_eq_true_eq, beq_iff_eq, show (2 : Int) > 0 by decide, if_true]
  split <;> omega
theorem size2 {b : Int} {n : Nat} {a : Int} (h : (n : Int) = (b - a + 1) / 2) (h' : a ≤ b + 1) : Builtin.Range.rangeSize a b 2 = (n : Int) := by
  unfold Builtin.Range.rangeSize
  simp only [show (2 : Int) > 0 by decide, if_true]
  split <;> omega
theorem ltOff1 {D : Addr} {l l' : List (Addr × Obj)} (x : LCg.Off1 D l) (hs : ∀ p ∈ l', p ∈ l) {p : Addr × Obj} (hp : p ∈ l') : p.1 ≠ D := off1_D x (hs p hp)
theorem foldl_filter {p : Int → Bool} : ∀ (ks acc : List Int), ks.foldl (fun l e => if p e = true then l ++ [e] else l) acc = acc ++ ks.filter p
  | [], acc => by simp
  | k :: ks, acc => by
    rw [List.foldl_cons, foldl_filter ks, List.filter_cons]
    by_cases h : p k = true
    · rw [if_pos h, if_pos h]; simp
    · rw [if_neg h, if_neg h]
theorem evens_eq (third one : Int) : ((List.range ((third - 1) / 2).toNat).map fun i : Nat => 2 + (i : Int) * 2).foldl (fun l e => if decide (e * e = third * third - one * one) = true then l ++ [e] else l) [] = evens third one := by
  rw [foldl_filter]; rfl
theorem evens_bnd {third one e : Int} (h : e ∈ evens third one) : 2 ≤ e ∧ e < third + 2 := by
  obtain ⟨h, -⟩ := List.mem_filter.mp h
  obtain ⟨q, hq, rfl⟩ := List.mem_map.mp h
  have := List.mem_range.mp hq
  omega
theorem app_own {prog : Program} {w : World} {A : Around} {E : Value → Shared → Prop} {s : Shared} {h₀ : Heap} {L T l : Addr} {oT : Obj} {m : Str → Option Value} {its : Array Value} {n : Nat} {Q : Value → Shared → Prop} {news : List (Addr × Obj)} (F : Fr h₀ L s.heap m) (N : News h₀ L s.heap news) (hT : (T, oT) ∈ news) (hl : (l, listOf its n) ∈ news) (rest : List (Addr × Obj)) (hrest : ∀ p ∈ rest, p ∈ news)
    (hTl : @Ne Nat T l) (hne : AllNeN l rest) (hsz : its.size ≤ sizeLine) (k : ∀ h', Fr h₀ L h' m → News h₀ L h' ((T, oT) :: (l, listOf (its.push (.ref T)) (n + 1)) :: rest) → Q .none { s with heap := h' }) : wpAny (model prog w) A (call (.builtin "list.append") [.ref l, .ref T]) Q E s := by
  refine append_K (news := (T, oT) :: (l, listOf its n) :: rest) F (fun p hp => ?_) (.tail hTl (.head fun p hp => hne.get hp)) k hsz
  rcases List.mem_cons.mp hp with rfl | hp
  · exact N _ hT
  rcases List.mem_cons.mp hp with rfl | hp
  · exact N _ hl
  · exact N _ (hrest p hp)
theorem t_in {k third one e : Int} {q : Nat} {ds es : List (List Int)} {g : List Int} (hP : es = ((evens third one).take q).foldl (tE k third one) ds) (hqe : (evens third one)[q]? = some e) (hg : gcF k 60 (dg (2 ^ k.toNat) one.toNat one) (dg (2 ^ k.toNat) e.toNat e) = some g) :
    (g = [1] → es ++ [[one, e, third]] = ((evens third one).take (q + 1)).foldl (tE k third one) ds) ∧ (¬ g = [1] → es = ((evens third one).take (q + 1)).foldl (tE k third one) ds) := by
  rw [List.take_add_one, hqe]
  simp only [Option.toList_some, List.foldl_append, List.foldl_cons, List.foldl_nil]
  rw [← hP]
  refine ⟨fun h => ?_, fun h => ?_⟩
  · show _ = if _ then _ else _
    rw [hg, h, if_pos rfl]
  · show _ = if _ then _ else _
    rw [hg, if_neg (fun e => h (Option.some.inj e))]
theorem push_map {cs : List Addr} {T : Addr} {n : Nat} : listOf ((List.map Value.ref cs).toArray.push (.ref T)) n = listOf (List.map Value.ref (cs ++ [T])).toArray n := by
  rw [List.map_append, List.push_toArray]; rfl
theorem allLt_own {d : Addr} {l own : List (Addr × Obj)} (x : AllLt d l) (h : ∀ p ∈ own, p ∈ l) : AllNeN d own := allLt_ne x h
section
variable {w : World} {A : Around} {s : Shared} {Q E : Value → Shared → Prop} {mean : ExcName → Option Value} {mg mb : Str → Option Value} {h₀ : Heap} {L : Addr} {m : Str → Option Value} {news : List (Addr × Obj)}
theorem use_gcd {a b : Addr} {ua ub : List Value} {na nb : Nat} {as bs g : List Int} {k : Int} {u : Tok} (S : Spec w 168 10 [.ref a, .ref b, .int k u, .ref 217] (fun h => Nums h a as ∧ Nums h b bs) (fun h h' v => ∃ x, v = .ref x ∧ ((x = a ∧ g = as) ∨ (x = b ∧ g = bs) ∨ NewNums h h' (.ref x) g)))
    (ha : (a, listOf ua.toArray na) ∈ news) (ia : IntsAre ua as) (hb : (b, listOf ub.toArray nb) ∈ news) (ib : IntsAre ub bs) (hA : A.handled = none) (X₀ : (top0.heap_1 w.params).In h₀) (T : Top vw (looseW vw [Str.ofString "NOUGHT"]) mean mg mb h₀)
    (F : Fr h₀ L s.heap m) (N : News h₀ L s.heap news) (hdp : A.depth + 10 < 900) (hun : A.units + 10 * 10 < 9000)
    (kont : ∀ r us n h' tk', Fr h₀ L h' m → News h₀ L h' ((r, listOf (List.toArray us) n) :: news) → IntsAre us g → Q (.ref r) { s with heap := h', toks := tk' }) :
    wpAny (model PySem.Challenge.rw_xm0402_01.row.prog w) A (call (.ref 168) [.ref a, .ref b, .int k u, .ref 217]) Q E s :=
  use_any ⟨nums_of (N _ ha).1 ia, nums_of (N _ hb).1 ib⟩ S hA X₀ T F N hdp hun fun h' tk' v F' N' kp x => by
    obtain ⟨x, rfl, ⟨rfl, rfl⟩ | ⟨rfl, rfl⟩ | x⟩ := x
    · exact kont _ _ _ h' tk' F' (fun p hp => (List.mem_cons.mp hp).elim (fun e => e ▸ N' _ ha) (N' p)) ia
    · exact kont _ _ _ h' tk' F' (fun p hp => (List.mem_cons.mp hp).elim (fun e => e ▸ N' _ hb) (N' p)) ib
    · obtain ⟨r, us, n, e, N9, hi, -⟩ := x.open F N kp
      exact e ▸ kont r us n h' tk' F' N9 hi
end
theorem foldl_lenT {α : Type} {f : List (List Int) → α → List (List Int)} {B : Nat} (h : ∀ c x, (f c x).length ≤ c.length + B) : ∀ (L : List α) (c : List (List Int)), (L.foldl f c).length ≤ c.length + B * L.length
  | [], c => by simp
  | x :: L, c => by
    rw [List.foldl_cons, List.length_cons]
    have h1 := foldl_lenT h L (f c x)
    have h2 := h c x
    rw [Nat.mul_add]
    omega
theorem tE_len {k third one : Int} (c : List (List Int)) (e : Int) : (tE k third one c e).length ≤ c.length + 1 := by
  unfold tE
  split <;> simp
theorem evens_len {third one : Int} (h : third ≤ 40) : (evens third one).length ≤ 20 := by
  unfold evens
  refine Nat.le_trans (List.length_filter_le _ _) ?_
  rw [List.length_map, List.length_range]
  omega
theorem tO_len {k third : Int} (h : third ≤ 40) (c : List (List Int)) (i : Nat) : (tO k third c i).length ≤ c.length + 20 := by
  have h1 := foldl_lenT (tE_len (k := k) (third := third) (one := 1 + i * 2)) (evens third (1 + i * 2)) c
  have h2 := evens_len (one := 1 + i * 2) h
  unfold tO
  omega
theorem es_len {k third one : Int} {q : Nat} {ds es : List (List Int)} (h : third ≤ 40) (hP : es = ((evens third one).take q).foldl (tE k third one) ds) : es.length ≤ ds.length + 20 := by
  have h1 := foldl_lenT (tE_len (k := k) (third := third) (one := one)) ((evens third one).take q) ds
  have h2 := evens_len (one := one) h
  have h3 : ((evens third one).take q).length ≤ (evens third one).length := by rw [List.length_take]; omega
  rw [hP]; omega
theorem ds_len {k third : Int} {j : Nat} {cs ds : List (List Int)} (h : third ≤ 40) (hj : j ≤ 20) (hP : ds = (List.range j).foldl (tO k third) cs) : ds.length ≤ cs.length + 400 := by
  have h1 := foldl_lenT (tO_len (k := k) h) (List.range j) cs
  rw [List.length_range] at h1
  rw [hP]; omega
theorem cs_len {k : Int} {cs : List (List Int)} : ∀ {i : Nat}, i ≤ 18 → cs = (List.range i).foldl (tT k) [] → cs.length ≤ 400 * i := by
  intro i
  induction i generalizing cs with
  | zero => intro _ h; rw [h]; exact Nat.le_refl _
  | succ i ih =>
    intro hi h
    rw [List.range_succ, List.foldl_append] at h
    have h1 := ih (by omega) rfl
    have h2 := ds_len (k := k) (third := 5 + (i : Int) * 2) (j := ((5 + (i : Int) * 2 - 1) / 2).toNat) (cs := (List.range i).foldl (tT k) []) (ds := cs) (by omega) (by omega) h
    omega
def NewTris (h h' : Heap) (v : Value) (cs : List (List Int)) : Prop := ∃ R as nx n, v = .ref R ∧ AllFresh h h' ((R, listOf (List.map Value.ref as).toArray n) :: nx) ∧ TrisIn nx as cs
set_option maxHeartbeats 1500000 in
theorem tried_spec (w : World) {most k : Int} {t u : Tok} (hk : 3 ≤ k) (hk' : k ≤ 8) (hm : 13 ≤ most) (hm' : most ≤ 40) :
    SpecT w 248 14 [] [.int most t, .int k u] (fun _ => True) (fun h h' v => NewTris h h' v (TL most)) := by
  k_with_none
  intro dp un gd s mean mg mb Q E A0 base h₀ outer env L0 m0 hf hke B0 F0 N0 X0 T0 hd hu hpre ret
  refine' enterTC (binds := [(Str.ofString "most", .int most t), (Str.ofString "w", .int k u)]) hf hke B0 F0 N0 X0 T0 ?ho ?hcd ?hroom ?k9 ?kB ?kD ?_ ?c2 ?c3 ?c4
  case ho => k_is
  case hcd => k_is
  case hroom => exact room_ok hd
  case k9 => exact BindsTo.of_eq rfl
  case kB => exact rfl
  case kD => decide +kernel
  case c2 => rfl
  case c3 => rfl
  case c4 => rfl
  intro g0 L' h₁ tk cells hg F' N' Y' B X T l1
  (try k_lt l1)
  k_cells Y'
  (try simp only [List.cons_append, List.nil_append] at N')
  (try dsimp only)
  (try k_fold)
  k_with "exec For" => k_dflt (k_here; refine stopD ?_)
  k_with "eval ListComp" => k_dflt (k_here; refine stopD ?_)
  k_steps
  apply StopD.mk
  rename Fr _ _ _ _ => lF'
  rename News _ _ _ _ => lN'
  rename AllLt _ _ => lA
  rename_i l hx1 hx2
  obtain ⟨mm, lF'⟩ := fr_prune [(Str.ofString "found", .ref l), (Str.ofString "most", .int most t), (Str.ofString "w", .int k u)] lF' (by kst_all)
  dsimp only [kstB_c, kstB_n] at lF'
  refine' For_cell (σ := TS) (a₀ := 5) (b₀ := most + 1) (st := 2) (n := ((most - 3) / 2).toNat) L' rfl (fun c => c.led l (L' + 1) (L' + 1 + 1)) (fun _ => []) (fun c => c.Ok l (L' + 1) (L' + 1 + 1) []) [Str.ofString "other"] (fun i c => c.cs = (List.range i).foldl (tT k) []) ⟨[], [], [], 0, _, _⟩ lF' lN' rfl rfl ?h
  k_steps
  apply StopD.mk
  rename Fr _ _ _ _ => lF1
  rename News _ _ _ _ => lN1
  rename IsRange _ _ _ _ _ _ _ _ => rg1
  refine ⟨_, _, _, _, rfl, rg1, small2 (by omega) (by omega) (by omega) (by omega), size2 (by omega) (by omega), lF1, kst_newsOf lN1 ?news, ⟨.nil, ⟨_, by assumption⟩, ⟨_, by assumption⟩, trivial, trivial, trivial, List.forall_mem_nil _⟩, List.forall_mem_nil _, rfl, ?turn, ?done⟩
  case news => exact List.forall_mem_cons.mpr ⟨by k_memK, List.forall_mem_cons.mpr ⟨by k_memK, List.forall_mem_cons.mpr ⟨by k_memK, List.forall_mem_nil _⟩⟩⟩
  case done =>
    rintro ⟨as, nx, cs, cnt, o1, o2⟩ u1 h1 tk1 ⟨tri, -, -, nl, n1, n2, -⟩ hP F1 N1
    dsimp only at tri hP nl n1 n2
    dsimp only [kstB_c, kstB_n] at F1
    (try clear lF'); (try clear lN'); (try clear lF1); (try clear lN1)
    have hP' : cs = tried k most := hP
    obtain ⟨p, hp, hin, h2, h64, hTL⟩ := tried_ok hk hk' hm hm'
    rw [← hP'] at hp hin h2 h64 hTL
    k_with "call builtin:sorted" => k_dflt (k_here; refine stopD ?_)
    k_steps
    apply StopD.mk
    rename Fr _ _ _ _ => lF'
    rename News _ _ _ _ => lN'
    refine' sorted_tris (as := as) (cs := cs) lF' lN' (by k_memK) (tri.mono fun q hq => .tail _ (.tail _ (.tail _ hq))) h2 h64 hp hin (by with_unfolding_all (show (un + 3) + 2 < 9900; omega)) ?_
    clear lF' lN'
    intro D cD hD FD ND hDlt
    k_steps
    refine ret _ _ _ (hidL_keep hg (fun p hp => nomatch hp) (Fr.keep FD) ND (List.forall_mem_nil _)) ⟨D, p.map (fun i => as.getD i 0), nx, cD, rfl, fun q hq => ?_, ?_⟩
    · refine fresh_at hg ND (q := q.1) (o := q.2) ?_ (List.forall_mem_nil _)
      rcases List.mem_cons.mp hq with rfl | hq
      · exact List.Mem.head _
      · exact .tail _ (.tail _ (.tail _ (.tail _ hq)))
    · rw [← hTL]
      exact tri.pick fun i hi => by rw [tri.length]; exact hin i hi
  case turn =>
    have hl1 := ltN_get lA (List.Mem.tail _ (List.Mem.head _))
    have hl2 := ltN_get lA (List.Mem.head _)
    have h12 : @Ne Nat (L' + 1 + 1) (L' + 1) := by omega
    (try clear lN'); (try clear lN1); (try clear lA)
    rintro ⟨as, nx, cs, cnt, o1, o2⟩ i ti u1 h1 tk1 own hi hsep ⟨tri, ⟨w1, hw1⟩, ⟨w2, hw2⟩, nl, n1, n2, -⟩ hP F1 N1
    dsimp only at tri hw1 hw2 hP nl n1 n2
    dsimp only [TS.led, List.cons_append] at N1
    dsimp only [kstB_c, kstB_n] at F1
    have nlo := hsep _ (List.Mem.head _)
    have n2o := hsep _ (List.Mem.tail _ (List.Mem.head _))
    have n1o := hsep _ (List.Mem.tail _ (List.Mem.tail _ (List.Mem.head _)))
    dsimp only at nlo n1o n2o
    have hnf : ∀ p ∈ nx, AllNeN p.1 own := fun p hp => hsep p (.tail _ (.tail _ (.tail _ hp)))
    have hcsb : cs.length ≤ 7200 := by have := cs_len (by omega) hP; omega
    have hth1 : 5 ≤ 5 + (i : Int) * 2 ∧ 5 + (i : Int) * 2 ≤ 40 ∧ (5 + (i : Int) * 2) % 2 = 1 := by omega
    generalize hth : 5 + (i : Int) * 2 = third at hth1 ⊢
    obtain ⟨ht1, ht2, ht3⟩ := hth1
    generalize hQ1 : FcPost _ _ _ _ _ _ _ _ _ _ _ _ = Q1
    (try clear lF'); (try clear lF1)
    k_with "storeName" => k_dflt (k_here; refine stopD ?_)
    k_steps
    apply StopD.mk
    refine' storeX_C F1 N1 rfl (.tail hl1.symm (.tail h12 (.head (allNe_app n1 n1o)))) hw1 ?_
    intro h2 o1' F2 N2 e1
    clear F1 N1
    k_steps
    apply StopD.mk
    rename Fr _ _ _ _ => lF'
    rename News _ _ _ _ => lN'
    refine' For_cell (σ := TS) (a₀ := 1) (b₀ := third) (st := 2) (n := ((third - 1) / 2).toNat) L' rfl (fun c => (l, listOf (c.as.map Value.ref).toArray c.cnt) :: (L' + 1 + 1, c.o2) :: (L' + 1, o1') :: (c.nx ++ own)) (fun _ => []) (fun c => c.Ok l (L' + 1) (L' + 1 + 1) own) [Str.ofString "other"] (fun q c => c.cs = (List.range q).foldl (tO k third) cs) ⟨as, nx, cs, cnt, o1', o2⟩ lF' lN' rfl rfl ?h2
    k_steps
    apply StopD.mk
    rename Fr _ _ _ _ => lF1
    rename News _ _ _ _ => lN1
    rename IsRange _ _ _ _ _ _ _ _ => rg1
    refine ⟨_, _, _, _, rfl, rg1, small2 (by omega) (by omega) (by omega) (by omega), size2 (by omega) (by omega), lF1, kst_newsOf lN1 ?news2, ⟨tri, ⟨_, e1⟩, ⟨_, hw2⟩, nl, n1, n2, hnf⟩, List.forall_mem_nil _, rfl, ?turn2, ?done2⟩
    case news2 => exact List.forall_mem_cons.mpr ⟨by k_memK, List.forall_mem_cons.mpr ⟨by k_memK, List.forall_mem_cons.mpr ⟨by k_memK, fun p hp => by first | exact hp | exact .tail _ (.tail _ (.tail _ hp)) | exact .tail _ (.tail _ (.tail _ (.tail _ hp)))⟩⟩⟩
    case done2 =>
      rintro ⟨cs3, nz, es, cnt3, r1, r2⟩ u3 h5 tk5 ⟨tri3, -, ⟨w2', hw2'⟩, nl', n1', n2', nf⟩ hP3 F5 N5
      dsimp only at tri3 hP3 nl' n1' n2' nf hw2'
      dsimp only [kstB_c, kstB_n] at F5
      (try clear lF'); (try clear lN'); (try clear lF1); (try clear lN1)
      k_steps
      rw [← hQ1]
      dsimp only [FcPost]
      refine' fc_end (σ := TS) ⟨cs3, nz, es, cnt3, o1', r2⟩ F5 N5 ?b1 ?b2 ?b3 ⟨tri3, ⟨_, e1⟩, ⟨_, hw2'⟩, nl', n1', n2', fun p hp => trivial⟩ (List.forall_mem_nil _) ?b8 ?bP
      case b8 => ksw_same
      case b1 => exact fun p hp => by repeat (first | exact List.mem_append_left _ hp | refine List.Mem.tail _ ?_)
      case b2 => exact fun p hp => by repeat (first | exact List.mem_append_right _ hp | refine List.Mem.tail _ ?_)
      case b3 => exact List.forall_mem_cons.mpr ⟨nlo, List.forall_mem_cons.mpr ⟨n2o, List.forall_mem_cons.mpr ⟨n1o, nf⟩⟩⟩
      case bP =>
        show es = (List.range (i + 1)).foldl (tT k) []
        rw [List.range_succ, List.foldl_append, ← hP, hP3]
        show _ = (List.range ((5 + (i : Int) * 2 - 1) / 2).toNat).foldl (tO k (5 + (i : Int) * 2)) cs
        rw [hth]
    case turn2 =>
      (try clear lN'); (try clear lN1); (try clear lF'); (try clear lF1); (try clear N2); (try clear F2)
      clear tri hP nl n1 n2 hnf hw2
      rintro ⟨bs, ny, ds, cnt2, q1, q2⟩ j tj u2 h3 tk3 own2 hj hsep2 ⟨tri2, -, ⟨w2', hw2'⟩, nl, n1, n2, nf⟩ hP2 F3 N3
      dsimp only at tri2 hw2' hP2 nl n1 n2 nf hsep2
      dsimp only [List.cons_append] at N3
      dsimp only [kstB_c, kstB_n] at F3
      have nlo2 := hsep2 _ (List.Mem.head _)
      have n2o2 := hsep2 _ (List.Mem.tail _ (List.Mem.head _))
      have n1o2 := hsep2 _ (List.Mem.tail _ (List.Mem.tail _ (List.Mem.head _)))
      have hnf2 : ∀ p ∈ ny, AllNeN p.1 own2 := fun p hp => hsep2 p (.tail _ (.tail _ (.tail _ (List.mem_append_left _ hp))))
      have hof2 : ∀ p ∈ own, AllNeN p.1 own2 := fun p hp => hsep2 p (.tail _ (.tail _ (.tail _ (List.mem_append_right _ hp))))
      dsimp only at nlo2 n1o2 n2o2
      have hdsb : ds.length ≤ 7600 := by have := ds_len ht2 (by omega) hP2; omega
      have hon1 : 1 ≤ 1 + (j : Int) * 2 ∧ 1 + (j : Int) * 2 < third ∧ (1 + (j : Int) * 2) % 2 = 1 := by omega
      generalize hon : 1 + (j : Int) * 2 = one at hon1 ⊢
      obtain ⟨ho1, ho2, ho3⟩ := hon1
      generalize hQ2 : FcPost _ _ _ _ _ _ _ _ _ _ _ _ = Q2
      k_steps
      apply StopD.mk
      refine' storeX_C F3 N3 rfl (.tail hl2.symm (.head (List.forall_mem_cons.mpr ⟨Ne.symm h12, allNe_app (allNeN_app n2 n2o) n2o2⟩))) hw2' ?_
      intro h4 o2' F4 N4 e2
      clear F3 N3
      k_steps
      apply StopD.mk
      rename Fr _ _ _ _ => lF'
      with_unfolding_all refine' For_invVF lF' ?k1 ?k2 ?_
      case k1 => exact rfl
      case k2 => exact rfl
      k_steps
      apply StopD.mk
      rename Fr _ _ _ _ => lF'
      refine' ListComp_S lF' (by with_unfolding_all rfl) (by decide) (by rfl) (by decide) (by rfl) ?comp
      k_steps
      apply StopD.mk
      rename Fr _ _ _ _ => lF1
      rename News _ _ _ _ => lN1
      rename IsRange _ _ _ _ _ _ _ _ => rg2
      refine ⟨_, _, _, _, _, _, _, ((third - 1) / 2).toNat, _, rfl, rfl, lF1, lN1, rg2, small2 (by omega) (by omega) (by omega) (by omega), size2 (by omega) (by omega), (by rw [sizeLine_eq]; omega), ?rest⟩
      rintro s₂ ⟨gX, rfl⟩
      refine' kci_rest (ks := (List.range ((third - 1) / 2).toNat).map fun i : Nat => 2 + (i : Int) * 2) (fun l e => if decide (e * e = third * third - one * one) = true then l ++ [e] else l) (by simp) ?hP ?turn3 ?fin ?hg
      case hP =>
        rintro q v hq ⟨tq, rfl⟩
        exact ⟨_, tq, by simp [hq], rfl⟩
      case hg =>
        intro l q
        dsimp only
        split <;> simp
      case turn3 =>
        intro ke te I' oI' C' oC' D' m2 ys ls h' tk' E' hke hys hC' hx' F' N' off' ne' mark'
        have hkb : 2 ≤ ke ∧ ke < third + 2 := by
          obtain ⟨q, hq, rfl⟩ := List.mem_map.mp hke
          have := List.mem_range.mp hq
          omega
        obtain ⟨hkb1, hkb2⟩ := hkb
        k_steps
        all_goals rename Fr _ _ _ _ => lF'
        all_goals rename News _ _ _ _ => lN'
        · exact ⟨_, _, _, rfl, lF', lN', by assumption, trivial, kci_el (by first | exact if_pos (decide_eq_true (by assumption)) | exact if_pos (by assumption)) rfl rfl⟩
        · exact ⟨_, _, _, rfl, lF', lN', by assumption, trivial, kci_no (by first | exact if_neg (by rw [decide_eq_true_eq]; assumption) | exact if_neg (by assumption)) rfl⟩
      case fin =>
        unfold KPfDone
        intro ys hys hlen
        rw [evens_eq] at hys
        (try clear lF'); (try clear lF1); (try clear lN1)
        k_steps
        rename Fr _ _ _ _ => lF'
        rename News _ _ _ _ => lN'
        rename LCg.Off1 _ _ => lO
        k_here
        refine' for_list (σ := TS) (vs := ys) (ns := evens third one) (nn := ys.length) (fun c => (l, listOf (c.as.map Value.ref).toArray c.cnt) :: (L' + 1 + 1, o2') :: (L' + 1, o1') :: (c.nx ++ own ++ own2)) (fun _ => []) (fun c => c.Ok l (L' + 1) (L' + 1 + 1) (own ++ own2)) [] (fun q c => c.cs = ((evens third one).take q).foldl (tE k third one) ds) ⟨bs, ny, ds, cnt2, o1', o2'⟩ rfl (lN' _ (by k_memK)).1 hys (lN' _ (List.Mem.head _)).2.1.symm ?lN lF' (kst_newsOf lN' ?news3) ⟨tri2, ⟨_, e1⟩, ⟨_, e2⟩, nl, n1, n2, ?nf⟩ (List.forall_mem_nil _) rfl ?turn4 ?done4
        case lN =>
          intro p hp
          exact ltOff1 lO (by exact List.forall_mem_cons.mpr ⟨by k_memK, List.forall_mem_cons.mpr ⟨by k_memK, List.forall_mem_cons.mpr ⟨by k_memK, fun p hp => by first | exact hp | exact .tail _ hp | exact .tail _ (.tail _ hp) | exact .tail _ (.tail _ (.tail _ hp)) | exact .tail _ (.tail _ (.tail _ (.tail _ hp))) | exact .tail _ (.tail _ (.tail _ (.tail _ (.tail _ hp))))⟩⟩⟩) hp
        case news3 => exact List.forall_mem_cons.mpr ⟨by k_memK, List.forall_mem_cons.mpr ⟨by k_memK, List.forall_mem_cons.mpr ⟨by k_memK, fun p hp => by first | exact hp | exact .tail _ hp | exact .tail _ (.tail _ hp) | exact .tail _ (.tail _ (.tail _ hp)) | exact .tail _ (.tail _ (.tail _ (.tail _ hp))) | exact .tail _ (.tail _ (.tail _ (.tail _ (.tail _ hp))))⟩⟩⟩
        case nf => exact fun p hp => allNeN_app (nf p hp) (hnf2 p hp)
        case done4 =>
          rintro ⟨cs3, nz, es, cnt3, r1, r2⟩ u3 h5 tk5 ⟨tri3, -, -, nl, n1, n2, nf⟩ hP3 F5 N5
          dsimp only at tri3 hP3 nl n1 n2 nf
          dsimp only [kstB_c, kstB_n] at F5
          rw [List.take_length] at hP3
          (try clear lF'); (try clear lN'); (try clear lO); (try clear F4); (try clear N4)
          k_steps
          rw [← hQ2]
          dsimp only [FcPost]
          refine' fc_end (σ := TS) ⟨cs3, nz, es, cnt3, o1', o2'⟩ F5 N5 ?b1 ?b2 ?b3 ⟨tri3, ⟨_, e1⟩, ⟨_, e2⟩, nl, n1, n2, fun p hp => allNeN_mono (nf p hp) fun q hq => List.mem_append_left _ hq⟩ (List.forall_mem_nil _) ?b8 ?bP
          case b8 => ksw_same
          case b1 => exact fun p hp => by repeat (first | exact List.mem_append_left _ hp | refine List.Mem.tail _ ?_)
          case b2 => exact fun p hp => by repeat (first | exact List.mem_append_right _ hp | refine List.Mem.tail _ ?_)
          case b3 => exact List.forall_mem_cons.mpr ⟨nlo2, List.forall_mem_cons.mpr ⟨n2o2, List.forall_mem_cons.mpr ⟨n1o2, fun p hp => (List.mem_append.mp hp).elim (fun hp => allNeN_mono (nf p hp) fun q hq => List.mem_append_right _ hq) (hof2 p)⟩⟩⟩
          case bP =>
            show es = (List.range (j + 1)).foldl (tO k third) cs
            rw [List.range_succ, List.foldl_append, ← hP2, hP3]
            show _ = (evens third (1 + (j : Int) * 2)).foldl (tE k third (1 + (j : Int) * 2)) ds
            rw [hon]
        case turn4 =>
          (try clear lN'); (try clear lF'); (try clear F4); (try clear N4)
          clear tri2 hP2 nl n1 n2 nf hnf2
          rintro ⟨cs3, nz, es, cnt3, r1, r2⟩ q e te u3 h5 tk5 own3 hqe hsep3 ⟨tri3, -, -, nl, n1, n2, nf⟩ hP3 F5 N5
          dsimp only at tri3 hP3 nl n1 n2 nf hsep3
          dsimp only [List.cons_append] at N5
          dsimp only [kstB_c, kstB_n] at F5
          have heb := evens_bnd (List.mem_of_getElem? hqe)
          obtain ⟨he1, he2⟩ := heb
          obtain ⟨g, hg⟩ := gc_ok hk hk' ht1 ht2 ht3 ho1 ho2 ho3 (List.mem_of_getElem? hqe)
          have sl3 := hsep3 _ (List.Mem.head _)
          have s23 := hsep3 _ (.tail _ (List.Mem.head _))
          have s13 := hsep3 _ (.tail _ (.tail _ (List.Mem.head _)))
          dsimp only at sl3 s23 s13
          refine abs_post ?_
          intro Q3 hQ3
          k_with "call ref" => k_dflt (k_here; refine stopD ?_)
          k_with "call ref" => k_dflt (k_here; first
            | ((rename Fr _ _ _ _ => lF'); (rename News _ _ _ _ => lN'); (refine' use_listN (by trivial) (law_limbs_spec w hk hk' (by omega) (by omega)) (by with_unfolding_all rfl) (by with_reducible assumption) (by with_reducible assumption) lF' lN' (by first | exact dp_ok hd rfl | (with_unfolding_all show (dp + 1) + _ < 900; omega) | (with_unfolding_all show (dp + 2) + _ < 900; omega) | (with_unfolding_all show (dp + 3) + _ < 900; omega) | (with_unfolding_all show (dp + 4) + _ < 900; omega)) (by first | exact dp_ok hu rfl | (with_unfolding_all show (un + 3) + _ < 9000; omega) | (with_unfolding_all show (un + 6) + _ < 9000; omega) | (with_unfolding_all show (un + 9) + _ < 9000; omega) | (with_unfolding_all show (un + 12) + _ < 9000; omega)) ?_); (intro kcr kcus kcn kch kctk kcF kcN kcI kcNe); (try clear lF' lN'); (try dsimp only); (try k_fold)))
          k_steps
          apply StopD.mk
          rename Fr _ _ _ _ => lF'
          rename News _ _ _ _ => lN'
          refine' use_gcd (gcd_spec w hk hk' hg) (by k_memK) (by assumption) (by k_memK) (by assumption) (by with_unfolding_all rfl) X T lF' lN' (by with_unfolding_all (show (dp + 1) + _ < 900; omega)) (by with_unfolding_all (show (un + 3) + _ < 9000; omega)) ?_
          clear lF' lN'
          intro rg usg ng hG tkG FG NG iG
          (try dsimp only)
          (try k_fold)
          k_steps
          · rename Fr _ _ _ _ => lF'
            rename News _ _ _ _ => lN'
            rename AllLt _ _ => lT
            rename g = [1] => hg1
            rename_i T hX
            refine' app_own lF' lN' (by k_memK) (by k_memK) ((L' + 1 + 1, o2') :: (L' + 1, o1') :: (nz ++ own ++ own2 ++ own3)) ?hrest (Ne.symm (ltN_get lT (by k_memK))) ?hne ?hsz ?kk
            case hrest => exact List.forall_mem_cons.mpr ⟨by k_memK, List.forall_mem_cons.mpr ⟨by k_memK, fun p hp => by repeat (first | exact hp | refine List.Mem.tail _ ?_)⟩⟩
            case hne => exact ⟨hl2, hl1, allNeN_app (allNeN_app (allNeN_app nl nlo) nlo2) (hsep3 _ (List.Mem.head _))⟩
            case hsz =>
              have z1 := es_len ht2 hP3
              have z2 := tri3.length
              rw [List.size_toArray, List.length_map, sizeLine_eq]
              omega
            case kk =>
              intro h6 F6 N6
              rw [push_map] at N6
              k_steps
              refine hQ3 _ _ ?_
              dsimp only [FfPost]
              have nT : AllNeN T own3 := allLt_ne lT fun p hp => by repeat (first | exact List.mem_append_right _ hp | refine List.Mem.tail _ ?_)
              have nTo : AllNeN T (own ++ own2) := allLt_ne lT fun p hp => by repeat (first | exact List.mem_append_left _ ((List.append_assoc nz own own2).symm ▸ List.mem_append_right _ hp) | refine List.Mem.tail _ ?_)
              refine' ff_end (σ := TS) ⟨cs3 ++ [T], (T, _) :: nz, es ++ [[one, e, third]], cnt3 + 1, o1', o2'⟩ F6 N6 ?a1 ?a2 ?a3 ?fac (List.forall_mem_nil _) ?a8 ((t_in hP3 hqe hg).1 hg1)
              case a1 => exact List.forall_mem_cons.mpr ⟨by k_memK, List.forall_mem_cons.mpr ⟨by k_memK, List.forall_mem_cons.mpr ⟨by k_memK, List.forall_mem_cons.mpr ⟨by k_memK, fun p hp => .tail _ (.tail _ (.tail _ (.tail _ (List.mem_append_left _ hp))))⟩⟩⟩⟩
              case fac => exact ⟨tri3.mono (fun p hp => .tail _ hp) |>.append (.cons (List.Mem.head _) (.cons _ _ (.cons _ _ (.cons _ _ .nil))) .nil), ⟨_, e1⟩, ⟨_, e2⟩, ⟨Ne.symm (ltN_get lT (by k_memK)), nl⟩, ⟨Ne.symm (ltN_get lT (by k_memK)), n1⟩, ⟨Ne.symm (ltN_get lT (by k_memK)), n2⟩, List.forall_mem_cons.mpr ⟨nTo, nf⟩⟩
              case a8 => ksw_same
              case a2 => exact fun p hp => .tail _ (.tail _ (.tail _ (.tail _ (List.mem_append_right _ hp))))
              case a3 => exact List.forall_mem_cons.mpr ⟨sl3, List.forall_mem_cons.mpr ⟨s23, List.forall_mem_cons.mpr ⟨s13, List.forall_mem_cons.mpr ⟨nT, fun p hp => hsep3 p (.tail _ (.tail _ (.tail _ hp)))⟩⟩⟩⟩
          · rename Fr _ _ _ _ => lF'
            rename News _ _ _ _ => lN'
            rename ¬ g = [1] => hg1
            refine hQ3 _ _ ?_
            dsimp only [FfPost]
            refine' ff_end (σ := TS) ⟨cs3, nz, es, cnt3, o1', o2'⟩ lF' lN' ?b1 ?b2 ?b3 ⟨tri3, ⟨_, e1⟩, ⟨_, e2⟩, nl, n1, n2, nf⟩ (List.forall_mem_nil _) ?b8 ((t_in hP3 hqe hg).2 hg1)
            case b8 => ksw_same
            case b1 => exact fun p hp => by repeat (first | exact List.mem_append_left _ hp | refine List.Mem.tail _ ?_)
            case b2 => exact fun p hp => by repeat (first | exact List.mem_append_right _ hp | refine List.Mem.tail _ ?_)
            case b3 => exact hsep3

end
section
def SpecR (w : World) (r l : Addr) (many : Int) (tm : Tok) : Prop :=
  ∀ (dp un : Nat) (fr : Option (List Env)) (gd : Option (List Code)) (s : Shared) (mean : ExcName → Option Value) (mg mb : Str → Option Value) (Q E : Value → Shared → Prop) (h₀ : Heap) (i : Int) (ti : Tok) (n : Nat) (ns : List Int),
    (top0.heap_1 w.params).In h₀ → Top vw (looseW vw [Str.ofString "NOUGHT"]) mean mg mb h₀ → Keep h₀ s.heap → h₀.get? r = none → s.heap.get? r = some (listOf #[.int i ti, .ref l] n) → l ≠ r → Nums s.heap l ns → ns.length < 100 → 0 ≤ i → i ≤ 100 →
    dp + 1 < 900 → un + 10 * 1 < 9000 →
    (∀ h' tk' x tx t' n', (∀ b o, b ≠ r → s.heap.get? b = some o → h'.get? b = some o) → h'.get? r = some (listOf #[.int (i + 1) t', .ref l] n') → 0 ≤ x → x < many → Q (.int x tx) { s with heap := h', toks := tk' }) →
    wpAny (model PySem.Challenge.rw_xm0402_01.row.prog w) (Ar dp un fr gd) (call (.ref 224) [.ref r, .int many tm]) Q E s
theorem ruled_spec (w : World) {r l : Addr} {many : Int} {tm : Tok} (h1 : 1 ≤ many) (h2 : many ≤ 100) : SpecR w r l many tm := by
  k_with_none
  intro dp un fr gd s mean mg mb Q E h₀ i ti n ns X0 T0 K0 hr0 hr hlr hl hlen hi0 hi1 hd hu ret
  have X := X0.keeps (hid_stays K0 hr0)
  have T := T0.keeps (hid_stays K0 hr0)
  obtain ⟨vs, hls, hvs⟩ := hid_nums hl hlr
  refine' enterM (binds := [(Str.ofString "ruler", .ref r), (Str.ofString "many", .int many tm)]) X T hr ?ho ?hcd ?hroom ?k9 ?kB ?kD ?_ ?c2 ?c3 ?c4 ?c5
  case ho => k_is
  case hcd => k_is
  case hroom => exact room_ok hd
  case k9 => exact BindsTo.of_eq rfl
  case kB => exact locs rfl
  case kD => (simp only [List.map_cons, List.map_nil]; decide)
  case c2 => rfl
  case c3 => rfl
  case c4 => rfl
  case c5 => decide
  intro L' h₁ tk₁ F' N'
  (try dsimp only [kstB_c, kstB_n] at F')
  (try dsimp only)
  (try k_fold)
  k_steps
  k_with_none
  all_goals (try dsimp only)
  all_goals rename Fr _ _ _ _ => lF'
  all_goals rename News _ _ _ _ => lN'
  all_goals exact ret _ _ _ _ _ _ (ret_mut lF') (lN' _ (List.Mem.head _)).1 (Int.fmod_nonneg_of_pos _ (by omega)) (Int.fmod_lt_of_pos _ (by omega))
section
variable {w : World} {A : Around} {s : Shared} {Q E : Value → Shared → Prop} {mean : ExcName → Option Value} {mg mb : Str → Option Value} {h₀ : Heap} {L : Addr} {m : Str → Option Value} {news : List (Addr × Obj)}
theorem use_ruled {r l : Addr} {i many : Int} {ti tm : Tok} {n : Nat} {us : List Value} {nl : Nat} {ns : List Int} (S : SpecR w r l many tm) (hA : A = Ar A.depth A.units A.frames A.guards) (X₀ : (top0.heap_1 w.params).In h₀) (T : Top vw (looseW vw [Str.ofString "NOUGHT"]) mean mg mb h₀)
    (F : Fr h₀ L s.heap m) (N : News h₀ L s.heap ((r, listOf #[.int i ti, .ref l] n) :: news)) (hl : (l, listOf us.toArray nl) ∈ news) (hi : IntsAre us ns) (hlen : ns.length < 100) (h0 : 0 ≤ i) (h1 : i ≤ 100) (hoff : AllNeN r news) (hdp : A.depth + 1 < 900) (hun : A.units + 10 * 1 < 9000)
    (k : ∀ x tx t' n' h' tk', Fr h₀ L h' m → News h₀ L h' ((r, listOf #[.int (i + 1) t', .ref l] n') :: news) → 0 ≤ x → x < many → Q (.int x tx) { s with heap := h', toks := tk' }) :
    wpAny (model PySem.Challenge.rw_xm0402_01.row.prog w) A (call (.ref 224) [.ref r, .int many tm]) Q E s := by
  rw [hA]
  have hr := N _ (List.mem_cons_self ..)
  have hll := N _ (.tail _ hl)
  refine S _ _ _ _ s mean mg mb Q E h₀ i ti n ns X₀ T F.keep hr.2.2 hr.1 (hoff.get hl) (nums_of hll.1 hi) hlen h0 h1 hdp hun fun h' tk' x tx t' n' kp hr' hx0 hx1 => ?_
  have hne : ∀ b o, h₀.get? b = some o → b ≠ r := fun b o e q => by rw [q, hr.2.2] at e; cases e
  refine k x tx t' n' h' tk' ⟨F.ns.at' fun o e => kp L o (Ne.symm hr.2.1) e, fun b o e => kp b o (hne b o e) (F.keep b o e), F.above⟩ (fun p hp => ?_) hx0 hx1
  rcases List.mem_cons.mp hp with rfl | hp
  · exact ⟨hr', hr.2.1, hr.2.2⟩
  · have z := N p (.tail _ hp)
    exact ⟨kp _ _ (hoff.get hp) z.1, z.2⟩
end

section
variable {w : World} {A A₀ : Around} {s : Shared} {Q E : Value → Shared → Prop} {mean : ExcName → Option Value} {mg mb : Str → Option Value} {f : Addr} {need : Nat} {vs : List Value} {base h₀ : Heap} {L : Addr} {m : Str → Option Value} {news own : List (Addr × Obj)} {outer : List Env} {env : Env} {Pre : Heap → Prop}
theorem use_Tlist {ns : List Int} (S : SpecT w f need own vs Pre (fun h h' v => NewNums h h' v ns)) (pre : Pre s.heap) (hA : A = Ar A.depth A.units (some (env :: outer)) A.guards) (hf : env.frame = some L) (hke : env.scope.kind = .function) (B : Below A₀ base outer h₀) (X₀ : (top0.heap_1 w.params).In h₀) (T : Top vw (looseW vw [Str.ofString "NOUGHT"]) mean mg mb h₀)
    (F : Fr h₀ L s.heap m) (N : News h₀ L s.heap news) (hown : ∀ p ∈ own, p ∈ news) (hdp : A.depth + need < 900) (hun : A.units + 10 * need < 9000)
    (k : ∀ r us n h' tk', Fr h₀ L h' m → News h₀ L h' ((r, listOf (List.toArray us) n) :: news) → IntsAre us ns → AllNeN r news → Q (.ref r) { s with heap := h', toks := tk' }) :
    wpAny (model PySem.Challenge.rw_xm0402_01.row.prog w) A (call (.ref f) vs) Q E s :=
  use_T pre S hA hf hke B X₀ T F N hown hdp hun fun h' tk' v F' _ kp x => by
    obtain ⟨r, us, n, rfl, N', hi, hne⟩ := x.open F N kp
    exact k r us n h' tk' F' N' hi (allNeN_of hne)
end
theorem three {us : List Value} {a b c : Int} (h : IntsAre us [a, b, c]) : ∃ t1 t2 t3, us = [.int a t1, .int b t2, .int c t3] := by
  obtain ⟨t1, us1, rfl, h1⟩ := h.cons_inv
  obtain ⟨t2, us2, rfl, h2⟩ := h1.cons_inv
  obtain ⟨t3, us3, rfl, h3⟩ := h2.cons_inv
  obtain rfl := h3.nil_inv
  exact ⟨t1, t2, t3, rfl⟩

end
section
def nx3 (kind a b c : Int) : List Int :=
  if kind = 0 then [a - 2 * b + 2 * c, 2 * a - b + 2 * c, 2 * a - 2 * b + 3 * c] else if kind = 1 then [a + 2 * b + 2 * c, 2 * a + b + 2 * c, 2 * a + 2 * b + 3 * c]
  else [-a + 2 * b + 2 * c, -2 * a + b + 2 * c, -2 * a + 2 * b + 3 * c]
def kids : List Int → List (List Int)
  | [a, b, c] => [nx3 0 a b c, nx3 1 a b c, nx3 2 a b c]
  | _ => []
def nodes : Nat → List (List Int)
  | 0 => [[3, 4, 5]]
  | t + 1 => (nodes t).flatMap kids
def bnd (a b c : Int) : Bool := decide (0 < a ∧ a ≤ 2000 ∧ 0 < b ∧ b ≤ 2000 ∧ 0 < c ∧ c ≤ 2000)
def stepOk (k kind a b c a' b' c' : Int) : Bool :=
  bnd a b c && bnd a' b' c' && ledOk (2 ^ k.toNat) a b c (MAT kind) && decide (ledV (2 ^ k.toNat) a b c (MAT kind) = [a', b', c']) && decide (a' * a' + b' * b' = c' * c') && decide (c < c') && decide (a' % 2 = 1) &&
  decide (gcF k 60 (dg (2 ^ k.toNat) a'.toNat a') (dg (2 ^ k.toNat) b'.toNat b') = some [1]) && ledOk (2 ^ k.toNat) a' b' c' (MAT 3) &&
  decide (ledV (2 ^ k.toNat) a' b' c' (MAT 3) = [a * (1 - 2 * (if kind = 2 then 1 else 0)), b * (1 - 2 * (if kind = 0 then 1 else 0)), c])
def nodeOk (k : Int) : List Int → Bool
  | [a, b, c] => [0, 1, 2].all fun kind => match nx3 kind a b c with
    | [a', b', c'] => stepOk k kind a b c a' b' c'
    | _ => false
  | _ => false
def nodeChk (k : Int) : Bool := (List.range 3).all fun t => (nodes t).all (nodeOk k)
theorem nodeChk3 : nodeChk 3 = true := by decide +kernel
theorem nodeChk4 : nodeChk 4 = true := by decide +kernel
theorem nodeChk5 : nodeChk 5 = true := by decide +kernel
theorem nodeChk6 : nodeChk 6 = true := by decide +kernel
theorem nodeChk7 : nodeChk 7 = true := by decide +kernel
theorem nodeChk8 : nodeChk 8 = true := by decide +kernel
theorem step_ok {k kind a b c : Int} {t : Nat} (hk : 3 ≤ k) (hk' : k ≤ 8) (ht : t < 3) (hn : [a, b, c] ∈ nodes t) (h0 : 0 ≤ kind) (h1 : kind < 3) :
    ∃ a' b' c', [a', b', c'] ∈ nodes (t + 1) ∧ nx3 kind a b c = [a', b', c'] ∧ stepOk k kind a b c a' b' c' = true := by
  have all : nodeChk k = true := by
    have hc := om_six hk hk'
    rcases hc with rfl | rfl | rfl | rfl | rfl | rfl
    · exact nodeChk3
    · exact nodeChk4
    · exact nodeChk5
    · exact nodeChk6
    · exact nodeChk7
    · exact nodeChk8
  have r := List.all_eq_true.mp (List.all_eq_true.mp all t (List.mem_range.mpr ht)) _ hn
  have hkd : kind ∈ ([0, 1, 2] : List Int) := by
    have hc : kind = 0 ∨ kind = 1 ∨ kind = 2 := by omega
    rcases hc with rfl | rfl | rfl <;> decide
  have r2 := List.all_eq_true.mp r kind hkd
  have hmem : nx3 kind a b c ∈ nodes (t + 1) := by
    refine List.mem_flatMap.mpr ⟨_, hn, ?_⟩
    have hc : kind = 0 ∨ kind = 1 ∨ kind = 2 := by omega
    rcases hc with rfl | rfl | rfl
    · exact .head _
    · exact .tail _ (.head _)
    · exact .tail _ (.tail _ (.head _))
  split at r2
  · rename_i a' b' c' e
    exact ⟨a', b', c', e ▸ hmem, e, r2⟩
  · cases r2

end
section
def bfs (most : Int) : List (List Int) × List (List Int) → List (List Int) × List (List Int)
  | (told, []) => (told, [])
  | (told, T :: ws) => (told ++ [T], ws ++ (kids T).filter fun U => decide (U.getD 2 0 ≤ most))
def bfsN (most : Int) : Nat → List (List Int) × List (List Int)
  | 0 => ([], [[3, 4, 5]])
  | i + 1 => bfs most (bfsN most i)
def isNode (T : List Int) : Bool := (List.range 3).any fun t => (nodes t).any fun U => decide (U = T)
def bfsOk (most : Int) : Bool := (List.range 8).all fun i =>
  decide ((bfsN most i).1.length ≤ 6) && decide ((bfsN most i).2.length ≤ 6) && (bfsN most i).2.all isNode && (if (bfsN most i).2 = [] then trOk (bfsN most i).1 (TL most) else decide (i < 7))
theorem bfsAll : ((List.range 28).all fun y => bfsOk (13 + y)) = true := by decide +kernel
theorem bfs_ok {most : Int} (hm : 13 ≤ most) (hm' : most ≤ 40) : bfsOk most = true := by
  have r := List.all_eq_true.mp bfsAll (most - 13).toNat (List.mem_range.mpr (by omega))
  have e : 13 + ((most - 13).toNat : Int) = most := by omega
  rw [e] at r
  exact r
theorem bfs_nil {most : Int} : ∀ {q : List (List Int) × List (List Int)}, q.2 = [] → bfs most q = q
  | (_, []), _ => rfl
  | (_, _ :: _), h => by cases h
theorem bfs_stay {most : Int} {i : Nat} (h : (bfsN most i).2 = []) : bfsN most (i + 1) = bfsN most i := bfs_nil h
theorem bfs_le {most : Int} (h : (bfsN most 7).2 = []) : ∀ i, bfsN most (7 + i) = bfsN most 7
  | 0 => rfl
  | i + 1 => by
    have e := bfs_le h i
    have s : bfsN most (7 + i + 1) = bfsN most (7 + i) := bfs_stay (by rw [e]; exact h)
    rw [← Nat.add_assoc, s, e]
theorem bfs_facts {most : Int} (hm : 13 ≤ most) (hm' : most ≤ 40) (i : Nat) :
    (bfsN most i).1.length ≤ 6 ∧ (bfsN most i).2.length ≤ 6 ∧ (∀ T ∈ (bfsN most i).2, isNode T = true) ∧ ((bfsN most i).2 = [] → trOk (bfsN most i).1 (TL most) = true) ∧ (7 ≤ i → (bfsN most i).2 = []) := by
  have all := List.all_eq_true.mp (bfs_ok hm hm')
  have one : ∀ j, j < 8 → (bfsN most j).1.length ≤ 6 ∧ (bfsN most j).2.length ≤ 6 ∧ (∀ T ∈ (bfsN most j).2, isNode T = true) ∧ ((bfsN most j).2 = [] → trOk (bfsN most j).1 (TL most) = true) ∧ (7 ≤ j → (bfsN most j).2 = []) := by
    intro j hj
    have r := all j (List.mem_range.mpr hj)
    simp only [Bool.and_eq_true, decide_eq_true_eq, List.all_eq_true] at r
    obtain ⟨⟨⟨r1, r2⟩, r3⟩, r4⟩ := r
    refine ⟨r1, r2, r3, fun h => ?_, fun h => ?_⟩
    · rw [if_pos h] at r4; exact r4
    · by_cases q : (bfsN most j).2 = []
      · exact q
      · rw [if_neg q] at r4
        have := of_decide_eq_true r4
        omega
  rcases Nat.lt_or_ge i 8 with h | h
  · exact one i h
  · have h7 := one 7 (by omega)
    have e : bfsN most i = bfsN most 7 := by
      have := bfs_le (h7.2.2.2.2 (Nat.le_refl _)) (i - 7)
      rwa [show 7 + (i - 7) = i by omega] at this
    rw [e]
    exact ⟨h7.1, h7.2.1, h7.2.2.1, h7.2.2.2.1, fun _ => h7.2.2.2.2 (Nat.le_refl _)⟩
theorem nodesThree : ((List.range 3).all fun t => (nodes t).all fun U => decide (U.length = 3)) = true := by decide +kernel
theorem node_three {T : List Int} (h : isNode T = true) : ∃ t a b c, t < 3 ∧ T = [a, b, c] ∧ [a, b, c] ∈ nodes t := by
  obtain ⟨t, ht, h⟩ := List.any_eq_true.mp h
  obtain ⟨U, hU, h⟩ := List.any_eq_true.mp h
  have e := of_decide_eq_true h
  subst e
  have l := of_decide_eq_true (List.all_eq_true.mp (List.all_eq_true.mp nodesThree t ht) U hU)
  match U, l, hU with
  | [a, b, c], _, hU => exact ⟨t, a, b, c, List.mem_range.mp ht, rfl, hU⟩
theorem tr_open {cs T : List (List Int)} (h : trOk cs T = true) : ∃ p, sortP cs = some p ∧ (∀ i ∈ p, i < cs.length) ∧ 2 ≤ cs.length ∧ cs.length < 64 ∧ (p.map fun i => cs.getD i []) = T := by
  unfold trOk at h
  split at h
  · rename_i p hp
    simp only [Bool.and_eq_true, List.all_eq_true, decide_eq_true_eq] at h
    exact ⟨p, hp, h.1.1.1, h.1.1.2, h.1.2, h.2⟩
  · cases h

end
section
local macro_rules | `(tactic| walk_at "subscriptTail Name Constant ref int") => `(tactic| (k_here; (with_reducible show wpAny _ _ (subscriptTail _ _ (Value.ref _) (Value.int _ _)) _ _ _); (with_unfolding_all refine' item_litK ?k1 ?k2 ?k3 ?k4 ?_ ?k6; (case k1 => is_list); (case k2 => decide); (case k3 => decide); (case k4 => rfl); (case k6 => with_unfolding_all rfl); k_whole)))
local macro_rules | `(tactic| walk_at "subscriptTail Name Constant ref int") => `(tactic| k_extra "subscriptTail Name Constant ref int")
theorem pow_sq {prog : Program} {w : World} {A : Around} {E : Value → Shared → Prop} {s : Shared} {Q : Value → Shared → Prop} {a : Int} {t u : Tok} (h0 : 0 < a) (h1 : a ≤ 2000) (h : Q (.int (a * a) s.toks) { s with toks := s.toks + 1 }) : wpAny (model prog w) A (binaryOp .Pow (.int a t) (.int 2 u)) Q E s := by
  refine pow_int_small (by decide) (by decide) (by omega) ?_
  have e : a ^ (Int.toNat 2) = a * a := by show a ^ 2 = _; rw [Int.pow_succ, Int.pow_succ, Int.pow_zero, Int.one_mul]
  rw [e]; exact h
structure HS where
  i : Int
  ti : Tok
  n : Nat
  oh : Obj
  hr : Addr
  a : Int
  b : Int
  c : Int
  ta : Tok
  tb : Tok
  tc : Tok
  nh : Nat
structure BS where
  told : List Addr
  wait : List Addr
  nx : List (Addr × Obj)
  csT : List (List Int)
  csW : List (List Int)
  ct : Nat
  cw : Nat
  wl : Addr
  oh : Obj
set_option maxHeartbeats 4000000 in
theorem law_holds : PySem.Challenge.rw_xm0402_01.Holds := by
  k_with_none
  refine top0 ?_
  k_go0
  all_goals (try k_fold)
  rename Shared => S1
  rename World => W0
  rename Fr _ _ _ _ => lF0
  obtain ⟨mm0, lF0⟩ := fr_prune [(Str.ofString "script", .ref _)] lF0 (List.forall_mem_cons.mpr ⟨by with_unfolding_all rfl, List.forall_mem_nil _⟩)
  dsimp only [kstB_c, kstB_n] at lF0
  refine abs_post ?_
  intro Qv hQv
  refine wpAny_noRaise ?_
  k_with "call ref" => k_dflt (k_here; refine stopD ?_)
  k_steps
  apply StopD.mk
  rename Fr _ _ _ _ => lF'
  rename News _ _ _ _ => lN'
  rename AllLt _ _ => lR
  rename IntsAre _ (List.map _ _) => hys
  rename List Int => scr
  have hlen : (List.map (fun k' : Int => if k' < 0 then -k' else k') (List.take 6 scr)).length < 100 := by rw [List.length_map, List.length_take]; omega
  refine' use_ruled (ruled_spec _ (by decide) (by decide)) (by with_unfolding_all rfl) (by assumption) (by assumption) lF' lN' (by k_memK) hys hlen (by decide) (by decide) (allLt_ne lR fun p hp => hp) (Nat.le_of_ble_eq_true (by with_unfolding_all rfl)) (Nat.le_of_ble_eq_true (by with_unfolding_all rfl)) ?_
  clear lF' lN'
  intro xw txw t1 n1 h1 tk1 F1 N1 hxw0 hxw1
  (try dsimp only)
  (try k_fold)
  k_steps
  apply StopD.mk
  rename Fr _ _ _ _ => lF'
  rename News _ _ _ _ => lN'
  refine' use_ruled (ruled_spec _ (by decide) (by decide)) (by with_unfolding_all rfl) (by assumption) (by assumption) lF' lN' (by k_memK) hys hlen (by decide) (by decide) (allLt_ne lR fun p hp => hp) (Nat.le_of_ble_eq_true (by with_unfolding_all rfl)) (Nat.le_of_ble_eq_true (by with_unfolding_all rfl)) ?_
  (try clear lF'); (try clear lN'); (try clear F1); (try clear N1)
  intro xm txm t2 n2 h2 tk2 F2 N2 hxm0 hxm1
  (try dsimp only)
  (try k_fold)
  k_steps
  apply StopD.mk
  rename Fr _ _ _ _ => lF'
  rename News _ _ _ _ => lN'
  rename_i Dd r1 r2 r3 rr r4 r5 r6 r7 r8 Hd r9 lHd r10 r11 r12 r13 r14 ow dw r15 om dm r16 oh dh
  obtain ⟨q3, q4, q5, N3⟩ : ∃ q3 q4 q5, News S1.heap S1.heap.objs.size r16 [(rr, listOf #[.int (0 + 1 + 1) t2, .ref Dd] n2), (Dd, listOf ys.toArray ys.length), (Hd, listOf #[.int 3 q3, .int 4 q4, .int 5 q5] 0), (S1.heap.objs.size + 1 + 1 + 1, oh), (S1.heap.objs.size + 1 + 1, om), (S1.heap.objs.size + 1, ow)] :=
    ⟨_, _, _, kst_newsOf lN' (List.forall_mem_cons.mpr ⟨by k_memK, List.forall_mem_cons.mpr ⟨by k_memK, List.forall_mem_cons.mpr ⟨by k_memK, List.forall_mem_cons.mpr ⟨by k_memK, List.forall_mem_cons.mpr ⟨by k_memK, List.forall_mem_cons.mpr ⟨by k_memK, List.forall_mem_nil _⟩⟩⟩⟩⟩⟩)⟩
  have nR : AllNeN rr [(Dd, listOf ys.toArray ys.length), (Hd, listOf #[.int 3 q3, .int 4 q4, .int 5 q5] 0), (S1.heap.objs.size + 1 + 1 + 1, oh), (S1.heap.objs.size + 1 + 1, om), (S1.heap.objs.size + 1, ow)] := by
    refine ⟨?_, ?_, ?_, ?_, ?_, trivial⟩ <;> k_ne
  refine' use_ruled (ruled_spec _ (by decide) (by decide)) (by with_unfolding_all rfl) (by assumption) (by assumption) lF' N3 (List.Mem.head _) hys hlen (by decide) (by decide) nR (Nat.le_of_ble_eq_true (by with_unfolding_all rfl)) (Nat.le_of_ble_eq_true (by with_unfolding_all rfl)) ?_
  (try clear lF'); (try clear lN'); (try clear N3); (try clear F1); (try clear N1); (try clear F2); (try clear N2)
  intro xt txt t3 n3 h3 tk3 F3 N3 hxt0 hxt1
  (try dsimp only)
  (try k_fold)
  k_with "pyIter ref" => k_dflt (k_here; refine stopD ?_)
  k_steps
  apply StopD.mk
  rename Fr _ _ _ _ => lF'
  rename News _ _ _ _ => lN'
  rename IsRange _ _ _ _ _ _ _ _ => rgX
  have tnH : AllNeN Hd [(rr, listOf #[.int (0 + 1 + 1 + 1) t3, .ref Dd] n3), (S1.heap.objs.size + 1 + 1 + 1, oh), (Dd, listOf ys.toArray ys.length), (S1.heap.objs.size + 1 + 1, om), (S1.heap.objs.size + 1, ow)] := by
    refine ⟨?_, ?_, ?_, ?_, ?_, trivial⟩ <;> k_ne
  have nC : AllNeN (S1.heap.objs.size + 1 + 1 + 1) [(rr, listOf #[.int (0 + 1 + 1 + 1) t3, .ref Dd] n3), (Dd, listOf ys.toArray ys.length), (S1.heap.objs.size + 1 + 1, om), (S1.heap.objs.size + 1, ow)] := by
    refine ⟨?_, ?_, ?_, ?_, trivial⟩ <;> k_ne
  refine' for_range (σ := HS) (fun c => [(rr, listOf #[.int c.i c.ti, .ref Dd] c.n), (S1.heap.objs.size + 1 + 1 + 1, c.oh), (c.hr, listOf #[.int c.a c.ta, .int c.b c.tb, .int c.c c.tc] c.nh), (Dd, listOf ys.toArray ys.length), (S1.heap.objs.size + 1 + 1, om), (S1.heap.objs.size + 1, ow)]) (fun _ => []) (fun c => c.oh.data = .cell (some (.ref c.hr)) ∧ AllNeN c.hr [(rr, listOf #[.int c.i c.ti, .ref Dd] c.n), (S1.heap.objs.size + 1 + 1 + 1, c.oh), (Dd, listOf ys.toArray ys.length), (S1.heap.objs.size + 1 + 1, om), (S1.heap.objs.size + 1, ow)]) [Str.ofString "kind", Str.ofString "later"] (fun t c => 0 ≤ c.i ∧ c.i ≤ 10 + t ∧ [c.a, c.b, c.c] ∈ nodes t) (n := (1 + xt).toNat) ⟨_, _, _, oh, Hd, 3, 4, 5, q3, q4, q5, 0⟩ (by with_unfolding_all rfl) rgX ?small ?size lF' (kst_newsOf lN' ?news) ⟨dh, tnH⟩ (List.forall_mem_nil _) ⟨by show (0 : Int) ≤ 0 + 1 + 1 + 1; decide, by show (0 + 1 + 1 + 1 : Int) ≤ 10 + ((0 : Nat) : Int); decide, List.Mem.head _⟩ ?turn ?done
  case small => exact small_one (by omega) (by omega) (by omega) (by omega)
  case size => rw [rangeSize_nat]; congr 1; omega
  case news => exact List.forall_mem_cons.mpr ⟨by k_memK, List.forall_mem_cons.mpr ⟨by k_memK, List.forall_mem_cons.mpr ⟨by k_memK, List.forall_mem_cons.mpr ⟨by k_memK, List.forall_mem_cons.mpr ⟨by k_memK, List.forall_mem_cons.mpr ⟨by k_memK, List.forall_mem_nil _⟩⟩⟩⟩⟩⟩
  case done =>
    rintro ⟨i, ti, n, oh2, hr, a, b, c, ta, tb, tc, nh⟩ u5 h5 tk5 ⟨hoh, nH⟩ ⟨hi0, hi1, hnode⟩ F5 N5
    dsimp only at hoh nH N5
    obtain ⟨mm5, F5⟩ : ∃ mm, Fr S1.heap S1.heap.objs.size h5 mm := ⟨_, F5⟩
    clear hi0 hi1 hnode
    (try clear lF'); (try clear lN'); (try clear F3); (try clear N3)
    k_steps
    apply StopD.mk
    rename Fr _ _ _ _ => lF'
    rename News _ _ _ _ => lN'
    rename IsRange _ _ _ _ _ _ _ _ => rgY
    rename_i AT hh1 lAT T0 hh2 lT0 WL hh3 lWL DT hh4 lDT ee1 ee2 ee3 ee4 ee5 ee8 ee9 ee10 ee11 ee12 ee13
    obtain ⟨g3, g4, g5, N6⟩ : ∃ g3 g4 g5, News S1.heap S1.heap.objs.size ee8 [(AT, listOf (List.map Value.ref ([] : List Addr)).toArray 0), (WL, listOf (List.map Value.ref [T0]).toArray 0), (S1.heap.objs.size + 1 + 1 + 1, oh2), (S1.heap.objs.size + 1 + 1, om), (S1.heap.objs.size + 1, ow), (T0, listOf #[.int 3 g3, .int 4 g4, .int 5 g5] 0)] :=
      ⟨_, _, _, kst_newsOf lN' (List.forall_mem_cons.mpr ⟨by k_memK, List.forall_mem_cons.mpr ⟨by k_memK, List.forall_mem_cons.mpr ⟨by k_memK, List.forall_mem_cons.mpr ⟨by k_memK, List.forall_mem_cons.mpr ⟨by k_memK, List.forall_mem_cons.mpr ⟨by k_memK, List.forall_mem_nil _⟩⟩⟩⟩⟩⟩)⟩
    have nAT : AllNeN AT [(WL, listOf (List.map Value.ref [T0]).toArray 0), (S1.heap.objs.size + 1 + 1 + 1, oh2), (S1.heap.objs.size + 1 + 1, om), (S1.heap.objs.size + 1, ow), (T0, listOf #[.int 3 g3, .int 4 g4, .int 5 g5] 0)] := by
      refine ⟨?_, ?_, ?_, ?_, ?_, trivial⟩ <;> k_ne
    have nCH : AllNeN (S1.heap.objs.size + 1 + 1 + 1) [(AT, listOf (List.map Value.ref ([] : List Addr)).toArray 0), (WL, listOf (List.map Value.ref [T0]).toArray 0), (S1.heap.objs.size + 1 + 1, om), (S1.heap.objs.size + 1, ow), (T0, listOf #[.int 3 g3, .int 4 g4, .int 5 g5] 0)] := by
      refine ⟨?_, ?_, ?_, ?_, ?_, trivial⟩ <;> k_ne
    refine' for_range_brk (σ := BS) (fun c => (AT, listOf (List.map Value.ref c.told).toArray c.ct) :: (c.wl, listOf (List.map Value.ref c.wait).toArray c.cw) :: (S1.heap.objs.size + 1 + 1 + 1, c.oh) :: (S1.heap.objs.size + 1 + 1, om) :: (S1.heap.objs.size + 1, ow) :: c.nx) (fun c => [(Str.ofString "waiting", .ref c.wl)])
      (fun c => TrisIn c.nx c.told c.csT ∧ TrisIn c.nx c.wait c.csW ∧ (∃ v, c.oh.data = .cell v) ∧ AllNeN AT ((c.wl, listOf (List.map Value.ref c.wait).toArray c.cw) :: (S1.heap.objs.size + 1 + 1 + 1, c.oh) :: (S1.heap.objs.size + 1 + 1, om) :: (S1.heap.objs.size + 1, ow) :: c.nx) ∧ AllNeN (S1.heap.objs.size + 1 + 1 + 1) ((AT, listOf (List.map Value.ref c.told).toArray c.ct) :: (c.wl, listOf (List.map Value.ref c.wait).toArray c.cw) :: (S1.heap.objs.size + 1 + 1, om) :: (S1.heap.objs.size + 1, ow) :: c.nx))
      [] (fun i c => (c.csT, c.csW) = bfsN (13 + xm) i) (fun c => c.csW = [] ∧ trOk c.csT (TL (13 + xm)) = true) (n := 30) ⟨[], [T0], [(T0, listOf #[.int 3 g3, .int 4 g4, .int 5 g5] 0)], [], [[3, 4, 5]], 0, 0, WL, oh2⟩ (by with_unfolding_all rfl) rgY (by decide) (by rfl) lF' N6 ⟨.nil, .cons (List.Mem.head _) (.cons _ _ (.cons _ _ (.cons _ _ .nil))) .nil, ⟨_, hoh⟩, nAT, nCH⟩ ?psB rfl ?peB ?turnB ?finB
    case peB =>
      intro c hc
      have f := bfs_facts (most := 13 + xm) (by omega) (by omega) 30
      rw [← hc] at f
      exact ⟨f.2.2.2.2 (by decide), f.2.2.2.1 (f.2.2.2.2 (by decide))⟩
    case psB => kst_all
    case turnB =>
      rintro ⟨told, wait, nx, csT, csW, ct, cw, wl, oh3⟩ i ti u6 h6 tk6 own hi hsep ⟨triT, triW, ⟨vh, hvh⟩, nAT2, nCH2⟩ hbf F6 N6
      dsimp only at triT triW hvh nAT2 nCH2 hbf hsep
      dsimp only [List.cons_append, List.nil_append] at N6
      dsimp only [kstB_c, kstB_n] at F6
      (try clear lF'); (try clear lN'); (try clear F5); (try clear N5); (try clear nAT); (try clear nCH)
      have fcts := bfs_facts (most := 13 + xm) (by omega) (by omega) i
      rw [← hbf] at fcts
      dsimp only at fcts
      obtain ⟨fc1, fc2, fc3, fc4, fc5⟩ := fcts
      refine abs_post ?_
      intro Qt hQt
      k_with "compareOp Eq ref ref" => k_dflt (k_here; refine stopD ?_)
      k_with "ite" => k_dflt (refine stopD ?_)
      k_steps
      apply StopD.mk
      rename Fr _ _ _ _ => lF'
      rename News _ _ _ _ => lN'
      refine eq_nil (lN' (wl, listOf (List.map Value.ref wait).toArray cw) (by k_memK)).1 (lN' _ (List.Mem.head _)).1 (Nat.le_of_ble_eq_true (by with_unfolding_all rfl)) ?_
      k_steps
      apply StopD.mk
      rename Fr _ _ _ _ => lF'
      rename News _ _ _ _ => lN'
      rcases triW with _ | @⟨hd, us, ch, xs, as, cs, hmA, hiA, triR⟩
      · refine ite_pos (by simp) ?_
        (try dsimp only)
        k_steps
        refine hQt _ _ ?_
        dsimp only [FbPost]
        refine ⟨⟨told, [], nx, csT, [], ct, cw, wl, oh3⟩, _, _, _, _, rfl, lF', lN', ?b1, ⟨triT, .nil, ⟨_, hvh⟩, nAT2, nCH2⟩, ?b2, ?b3, rfl, fc4 rfl⟩
        case b1 => exact List.forall_mem_cons.mpr ⟨by k_memK, List.forall_mem_cons.mpr ⟨by k_memK, List.forall_mem_cons.mpr ⟨by k_memK, List.forall_mem_cons.mpr ⟨by k_memK, List.forall_mem_cons.mpr ⟨by k_memK, fun p hp => by repeat (first | exact List.mem_append_left _ hp | refine List.Mem.tail _ ?_)⟩⟩⟩⟩⟩
        case b2 => kst_all
        case b3 => first | kst_same | ksw_same
      refine ite_neg (by simp) ?_
      (try dsimp only)
      k_with "subscriptTail Name Constant ref int" => k_dflt (k_here; refine stopD ?_)
      k_with "subscriptTail Name Slice ref ref" => k_dflt (k_here; refine stopD ?_)
      k_with "storeName" => k_dflt (k_here; (with_reducible show wpAny _ _ (storeName _ (Str.ofString "here") _) _ _ _); refine stopD ?_)
      k_steps
      apply StopD.mk
      rename Fr _ _ _ _ => lF'
      rename News _ _ _ _ => lN'
      refine' item_litK (vs := List.map Value.ref (hd :: as)) ⟨_, (lN' (wl, listOf (List.map Value.ref (hd :: as)).toArray cw) (by k_memK)).1, rfl, _, rfl⟩ (by decide) (by decide) rfl ?_ (by with_unfolding_all rfl)
      k_steps
      apply StopD.mk
      rename Fr _ _ _ _ => lF'
      rename News _ _ _ _ => lN'
      refine' kmk_slice lF' lN' ⟨_, (lN' (wl, listOf (List.map Value.ref (hd :: as)).toArray cw) (by k_memK)).1, rfl, _, rfl⟩ (.int 1 _) .none ?_ (by with_unfolding_all rfl) (by intro _; with_unfolding_all rfl) ?hz1
      case hz1 =>
        have := triR.length
        rw [List.size_toArray, List.length_map, List.length_cons, sizeLine_eq]
        rw [List.length_cons] at fc2
        omega
      clear lF' lN'
      intro WT h7 F7 N7 l7
      rw [pick_tail] at N7
      k_lt l7
      (try dsimp only)
      k_steps
      apply StopD.mk
      rename Fr _ _ _ _ => lF'
      rename News _ _ _ _ => lN'
      have N7' := kst_newsOf (l' := (AT, listOf (List.map Value.ref told).toArray ct) :: (WT, listOf (List.map Value.ref as).toArray 0) :: (S1.heap.objs.size + 1 + 1 + 1, oh3) :: (S1.heap.objs.size + 1 + 1, om) :: (S1.heap.objs.size + 1, ow) :: (nx ++ own)) lN' (List.forall_mem_cons.mpr ⟨by k_memK, List.forall_mem_cons.mpr ⟨by k_memK, List.forall_mem_cons.mpr ⟨by k_memK, List.forall_mem_cons.mpr ⟨by k_memK, List.forall_mem_cons.mpr ⟨by k_memK, fun p hp => by repeat (first | exact hp | refine List.Mem.tail _ ?_)⟩⟩⟩⟩⟩)
      have sAT := hsep _ (List.Mem.head _)
      have sCH := hsep _ (.tail _ (.tail _ (List.Mem.head _)))
      have sCM := hsep _ (.tail _ (.tail _ (.tail _ (List.Mem.head _))))
      have sCW := hsep _ (.tail _ (.tail _ (.tail _ (.tail _ (List.Mem.head _)))))
      have sNX : ∀ p ∈ nx, AllNeN p.1 own := fun p hp => hsep p (.tail _ (.tail _ (.tail _ (.tail _ (.tail _ hp)))))
      dsimp only at sAT sCH sCM sCW
      have wtA : @Ne Nat WT AT := by k_ne
      have wtH : @Ne Nat WT (S1.heap.objs.size + 1 + 1 + 1) := by k_ne
      clear lN' hsep
      refine' storeX_C lF' N7' rfl (.tail nCH2.1 (.tail wtH (.head (List.forall_mem_cons.mpr ⟨nCH2.2.2.1, List.forall_mem_cons.mpr ⟨nCH2.2.2.2.1, fun p hp => (List.mem_append.mp hp).elim (fun hp => nCH2.2.2.2.2.get hp) (fun hp => sCH.get hp)⟩⟩)))) hvh ?_
      (try clear lF'); (try clear N7'); (try clear l7)
      intro h8 oh4 F8 N8 hoh4
      k_with "call builtin:list.append" => k_dflt (k_here; refine stopD ?_)
      k_steps
      apply StopD.mk
      rename Fr _ _ _ _ => lF'
      rename News _ _ _ _ => lN'
      refine' app_own (T := hd) (oT := listOf us.toArray ch) (l := AT) (its := (List.map Value.ref told).toArray) (n := ct) lF' lN' (by repeat (first | exact List.mem_append_left _ hmA | refine List.Mem.tail _ ?_)) (by k_memK) ((WT, listOf (List.map Value.ref as).toArray 0) :: (S1.heap.objs.size + 1 + 1 + 1, oh4) :: (S1.heap.objs.size + 1 + 1, om) :: (S1.heap.objs.size + 1, ow) :: (nx ++ own)) ?hr1 (nAT2.2.2.2.2.get hmA) ?hn1 ?hs1 ?_
      case hr1 => exact List.forall_mem_cons.mpr ⟨by k_memK, List.forall_mem_cons.mpr ⟨by k_memK, List.forall_mem_cons.mpr ⟨by k_memK, List.forall_mem_cons.mpr ⟨by k_memK, fun p hp => by repeat (first | exact hp | refine List.Mem.tail _ ?_)⟩⟩⟩⟩
      case hn1 => exact ⟨wtA, nAT2.2.1, nAT2.2.2.1, nAT2.2.2.2.1, allNeN_app nAT2.2.2.2.2 sAT⟩
      case hs1 =>
        have := triT.length
        rw [List.size_toArray, List.length_map, sizeLine_eq]
        omega
      (try clear lF'); (try clear lN'); (try clear F8); (try clear N8)
      intro h9 F9 N9
      rw [push_map] at N9
      (try dsimp only)
      k_with "eval ListComp" => k_dflt (k_here; refine stopD ?_)
      k_steps
      apply StopD.mk
      rename Fr _ _ _ _ => lF'
      rename News _ _ _ _ => lN'
      have N10 := kst_newsOf (l' := (hd, listOf us.toArray ch) :: (AT, listOf (List.map Value.ref (told ++ [hd])).toArray (ct + 1)) :: (WT, listOf (List.map Value.ref as).toArray 0) :: (S1.heap.objs.size + 1 + 1 + 1, oh4) :: (S1.heap.objs.size + 1 + 1, om) :: (S1.heap.objs.size + 1, ow) :: (nx ++ own)) lN' (List.forall_mem_cons.mpr ⟨by k_memK, List.forall_mem_cons.mpr ⟨by k_memK, List.forall_mem_cons.mpr ⟨by k_memK, List.forall_mem_cons.mpr ⟨by k_memK, List.forall_mem_cons.mpr ⟨by k_memK, List.forall_mem_cons.mpr ⟨by k_memK, fun p hp => by repeat (first | exact hp | refine List.Mem.tail _ ?_)⟩⟩⟩⟩⟩⟩)
      clear lN'
      obtain ⟨t0, a, b, c, ht0, rfl, hnode⟩ := node_three (fc3 _ (List.Mem.head _))
      obtain ⟨y1, y2, y3, rfl⟩ := three hiA
      refine LCt.ListComp_T (F₀ := lF') (by with_unfolding_all rfl) (by decide) (by rfl) (by decide) (by rfl) ?_
      k_steps
      apply StopD.mk
      refine LCg.ListComp_U (F₀ := by k_asm) (by rfl) (by decide) (by rfl) (by decide) (by rfl) ?_
      k_with "CompSrc" => k_dflt (k_here; refine stopD ?_)
      k_steps
      apply StopD.mk
      (try clear lF')
      rename Fr _ _ _ _ => lF'
      rename News _ _ _ _ => lN'
      rename IsRange _ _ _ _ _ _ _ _ => rgZ
      have N11 := kst_newsOf (l' := (hd, listOf #[.int a y1, .int b y2, .int c y3] ch) :: (AT, listOf (List.map Value.ref (told ++ [hd])).toArray (ct + 1)) :: (WT, listOf (List.map Value.ref as).toArray 0) :: (S1.heap.objs.size + 1 + 1 + 1, oh4) :: (S1.heap.objs.size + 1 + 1, om) :: (S1.heap.objs.size + 1, ow) :: (nx ++ own)) lN' (List.forall_mem_cons.mpr ⟨by k_memK, List.forall_mem_cons.mpr ⟨by k_memK, List.forall_mem_cons.mpr ⟨by k_memK, List.forall_mem_cons.mpr ⟨by k_memK, List.forall_mem_cons.mpr ⟨by k_memK, List.forall_mem_cons.mpr ⟨by k_memK, fun p hp => by repeat (first | exact hp | refine List.Mem.tail _ ?_)⟩⟩⟩⟩⟩⟩)
      clear lN'
      refine LCg.CompSrc.range (n := 3) rfl lF' N11 rgZ (by decide) (by rfl) (Nat.le_of_ble_eq_true rfl) ?_
      intro g'
      k_with "CompEnd" => k_dflt (k_here; refine stopD ?_)
      refine kids_rest (fun i => nx3 (0 + (i : Int)) a b c) ?turnK ?finK
      case turnK =>
        intro i t I oI C oC D m2 ys nx' h tk E' hi hn hC hx F N off ne
        dsimp only [List.cons_append] at N off
        obtain ⟨a', b', c', hn', hnx, hchk⟩ := step_ok (by show (3 : Int) ≤ 3 + xw; omega) (by omega) ht0 hnode (show (0 : Int) ≤ 0 + (i : Int) by omega) (by omega)
        simp only [stepOk, bnd, Bool.and_eq_true, decide_eq_true_eq] at hchk
        obtain ⟨⟨⟨⟨⟨⟨⟨⟨⟨⟨ba0, ba1, bb0, bb1, bc0, bc1⟩, -⟩, hled⟩, hledV⟩, -⟩, -⟩, -⟩, -⟩, -⟩, -⟩ := hchk
        (try clear lF'); (try clear N11)
        k_steps
        apply StopD.mk
        rename Fr _ _ _ _ => lF'
        rename News _ _ _ _ => lN'
        refine' use_Tlist (law_led_spec W0 (by show (3 : Int) ≤ 3 + xw; omega) (by omega) ⟨by omega, by omega⟩ ⟨by omega, by omega⟩ ⟨by omega, by omega⟩ ⟨by omega, by omega⟩ hled) trivial (by with_unfolding_all rfl) (by with_unfolding_all rfl) (by with_unfolding_all rfl) (by assumption) (by assumption) (by assumption) lF' lN' ?ownK (Nat.le_of_ble_eq_true (by with_unfolding_all rfl)) (Nat.le_of_ble_eq_true (by with_unfolding_all rfl)) ?_
        case ownK => exact List.forall_mem_cons.mpr ⟨by k_memK, List.forall_mem_nil _⟩
        (try clear lF'); (try clear lN'); (try clear F); (try clear N)
        intro R us nR2 h12 tk12 F12 N12 i12 nR12
        rw [hledV] at i12
        (try dsimp only)
        (try k_fold)
        k_steps
        apply StopD.mk
        rename Fr _ _ _ _ => lF'
        rename News _ _ _ _ => lN'
        rename LCg.Off3 _ _ _ _ => off
        have N13 := kst_newsOf (l' := (I, oI) :: (C, oC) :: (D, LCg.lst ys) :: (hd, listOf #[.int a y1, .int b y2, .int c y3] ch) :: (AT, listOf (List.map Value.ref (told ++ [hd])).toArray (ct + 1)) :: (WT, listOf (List.map Value.ref as).toArray 0) :: (S1.heap.objs.size + 1 + 1 + 1, oh4) :: (S1.heap.objs.size + 1 + 1, om) :: (S1.heap.objs.size + 1, ow) :: ((nx ++ own) ++ (R, listOf (List.toArray us) nR2) :: nx')) lN' (List.forall_mem_cons.mpr ⟨by k_memK, List.forall_mem_cons.mpr ⟨by k_memK, List.forall_mem_cons.mpr ⟨by k_memK, List.forall_mem_cons.mpr ⟨by k_memK, List.forall_mem_cons.mpr ⟨by k_memK, List.forall_mem_cons.mpr ⟨by k_memK, List.forall_mem_cons.mpr ⟨by k_memK, List.forall_mem_cons.mpr ⟨by k_memK, List.forall_mem_cons.mpr ⟨by k_memK, fun p hp => (mem_ins hp).elim (fun e => e ▸ List.Mem.head _) (fun hp => by repeat (first | exact hp | refine List.Mem.tail _ ?_))⟩⟩⟩⟩⟩⟩⟩⟩⟩)
        exact ⟨_, _, _, rfl, lF', N13, off3_ins (l1 := (hd, listOf #[.int a y1, .int b y2, .int c y3] ch) :: (AT, listOf (List.map Value.ref (told ++ [hd])).toArray (ct + 1)) :: (WT, listOf (List.map Value.ref as).toArray 0) :: (S1.heap.objs.size + 1 + 1 + 1, oh4) :: (S1.heap.objs.size + 1 + 1, om) :: (S1.heap.objs.size + 1, ow) :: (nx ++ own)) off ⟨nR12.1.symm, nR12.2.1.symm, nR12.2.2.1.symm⟩, trivial, R, us, nR2, rfl, rfl, hnx ▸ i12, allNeN_mono nR12.2.2.2 fun p hp => List.mem_append_left nx' hp⟩
      case finK =>
        intro as' nx' T' hn'
        dsimp only [List.cons_append]
        (try clear lF'); (try clear N11)
        k_with "CompSrcT" => k_dflt (k_here; refine stopD ?_)
        k_steps
        apply StopD.mk
        rename Fr _ _ _ _ => lF'
        rename News _ _ _ _ => lN'
        rename LCg.Off1 _ _ => lO
        rename_i DK _ _
        have N15 := kst_newsOf (l' := (DK, LCg.lst (List.map Value.ref as')) :: (hd, listOf #[.int a y1, .int b y2, .int c y3] ch) :: (AT, listOf (List.map Value.ref (told ++ [hd])).toArray (ct + 1)) :: (WT, listOf (List.map Value.ref as).toArray 0) :: (S1.heap.objs.size + 1 + 1 + 1, oh4) :: (S1.heap.objs.size + 1 + 1, om) :: (S1.heap.objs.size + 1, ow) :: ((nx ++ own) ++ nx')) lN' (List.forall_mem_cons.mpr ⟨by k_memK, List.forall_mem_cons.mpr ⟨by k_memK, List.forall_mem_cons.mpr ⟨by k_memK, List.forall_mem_cons.mpr ⟨by k_memK, List.forall_mem_cons.mpr ⟨by k_memK, List.forall_mem_cons.mpr ⟨by k_memK, List.forall_mem_cons.mpr ⟨by k_memK, fun p hp => by repeat (first | exact hp | refine List.Mem.tail _ ?_)⟩⟩⟩⟩⟩⟩⟩)
        have hl' := T'.length
        have hl3 : as'.length = 3 := by rw [hl', List.length_map, List.length_range]
        refine LCt.CompSrcT.ledger rfl lF' N15 (List.Mem.head _) (by rw [List.size_toArray, List.length_map, hl3]; exact Nat.le_of_ble_eq_true rfl) ?_
        intro g2
        refine pick_rest (ks := as'.zip ((List.range 3).map fun i : Nat => nx3 (0 + (i : Int)) a b c)) (fun U => decide (U.getD 2 0 ≤ 13 + xm)) (by simp [hl3]) (fun j v hj hv => zip_at hl' hv) (.inr ⟨_, List.Mem.head _, rfl, _, rfl⟩) ?turnP ?finP
        case turnP =>
          intro q I oI C oC D m2 ys h tk E' hq hC hx F N off ne
          obtain ⟨us, cq, hmq, hiq⟩ := T'.zip q hq
          obtain ⟨x1, x2, x3, hq3⟩ : ∃ x1 x2 x3, q.2 = [x1, x2, x3] := by
            obtain ⟨j, hj, hj'⟩ := List.mem_map.mp (List.of_mem_zip hq).2
            obtain ⟨a', b', c', -, hnx, -⟩ := step_ok (k := 3) (by decide) (by decide) ht0 hnode (show (0 : Int) ≤ 0 + (j : Int) by omega) (by have := List.mem_range.mp hj; omega)
            exact ⟨a', b', c', hj' ▸ hnx⟩
          obtain ⟨qa, q2⟩ := q
          dsimp only at hx hmq hiq hq3
          subst hq3
          obtain ⟨z1, z2, z3, rfl⟩ := three hiq
          (try clear lF'); (try clear N15)
          k_steps
          apply StopD.mk
          rename Fr _ _ _ _ => lF'
          rename News _ _ _ _ => lN'
          refine' item_litK (vs := [.int x1 z1, .int x2 z2, .int x3 z3]) ⟨_, (lN' (qa, listOf #[.int x1 z1, .int x2 z2, .int x3 z3] cq) (.tail _ (.tail _ (.tail _ (.tail _ (.tail _ (.tail _ (.tail _ (.tail _ (.tail _ (.tail _ (List.mem_append_right _ hmq)))))))))))).1, rfl, _, rfl⟩ (by decide) (by decide) rfl ?_ (by with_unfolding_all rfl)
          (try dsimp only)
          k_steps
          apply StopD.mk
          by_cases hpp : x3 ≤ 13 + xm
          · refine ite_pos (by simpa using hpp) ?_
            (try dsimp only)
            k_steps
            apply StopD.mk
            rename Fr _ _ _ _ => lF'
            rename News _ _ _ _ => lN'
            exact ⟨_, _, _, rfl, lF', lN', by assumption, trivial, rfl, rfl, decide_eq_true hpp⟩
          · refine ite_neg (by simpa using hpp) ?_
            (try dsimp only)
            k_steps
            apply StopD.mk
            rename Fr _ _ _ _ => lF'
            rename News _ _ _ _ => lN'
            exact ⟨_, _, _, rfl, lF', lN', by assumption, trivial, rfl, decide_eq_false hpp⟩
        case finP =>
          intro DP h13 tk13 F13 N13 o13
          rw [keepA_map (pp := fun U => decide (U.getD 2 0 ≤ 13 + xm))] at N13
          (try clear lF'); (try clear N15)
          k_with "binaryOp Add ref ref" => k_dflt (k_here; refine stopD ?_)
          (try dsimp only)
          k_steps
          apply StopD.mk
          rename Fr _ _ _ _ => lF'
          rename News _ _ _ _ => lN'
          have hKL : (keepA (fun U => decide (U.getD 2 0 ≤ 13 + xm)) as' ((List.range 3).map fun i : Nat => nx3 (0 + (i : Int)) a b c)).length ≤ 3 := by
            unfold keepA
            rw [List.length_map]
            refine Nat.le_trans (List.length_filter_le _ _) ?_
            rw [List.length_zip, hl3]
            exact Nat.min_le_left _ _
          refine' kmk_add_lit (zs := List.map Value.ref (as ++ keepA (fun U => decide (U.getD 2 0 ≤ 13 + xm)) as' ((List.range 3).map fun i : Nat => nx3 (0 + (i : Int)) a b c))) lF' lN' ⟨_, (lN' (WT, listOf (List.map Value.ref as).toArray 0) (by k_memK)).1, rfl, _, rfl⟩ ⟨_, (lN' (DP, _) (by k_memK)).1, rfl, _, rfl⟩ (by rw [List.map_append]) ?_ ?hz2
          case hz2 =>
            have := triR.length
            rw [List.length_cons] at fc2
            rw [List.length_map, List.length_map, sizeLine_eq]
            omega
          clear lF' lN'
          intro DW h14 F14 N14 l14
          k_lt l14
          (try dsimp only)
          k_steps
          refine hQt _ _ ?_
          dsimp only [FbPost]
          rename Fr _ _ _ _ => lF'
          rename News _ _ _ _ => lN'
          have dA : @Ne Nat DW AT := by k_ne
          have dH : @Ne Nat DW (S1.heap.objs.size + 1 + 1 + 1) := by k_ne
          refine' ff_end (σ := BS) ⟨told ++ [hd], as ++ keepA (fun U => decide (U.getD 2 0 ≤ 13 + xm)) as' ((List.range 3).map fun i : Nat => nx3 (0 + (i : Int)) a b c), nx ++ nx', csT ++ [[a, b, c]], cs ++ ((List.range 3).map fun i : Nat => nx3 (0 + (i : Int)) a b c).filter (fun U => decide (U.getD 2 0 ≤ 13 + xm)), ct + 1, 0, DW, oh4⟩ lF' lN' ?q1 ?q2 ?q3 ⟨(triT.mono fun p hp => List.mem_append_left _ hp).append (.cons (List.mem_append_left _ hmA) hiA .nil), (triR.mono fun p hp => List.mem_append_left _ hp).append ((T'.filter _).mono fun p hp => List.mem_append_right _ hp), ⟨_, hoh4⟩, ⟨dA, nAT2.2.1, nAT2.2.2.1, nAT2.2.2.2.1, allNeN_app nAT2.2.2.2.2 (allNeN_of fun p hp => (hn' p hp).get' (.tail _ (List.Mem.head _)))⟩, ⟨nCH2.1, dH, nCH2.2.2.1, nCH2.2.2.2.1, allNeN_app nCH2.2.2.2.2 (allNeN_of fun p hp => (hn' p hp).get' (.tail _ (.tail _ (.tail _ (List.Mem.head _)))))⟩⟩ ?q7 ?q8 ?qP
          case q1 => exact List.forall_mem_cons.mpr ⟨by k_memK, List.forall_mem_cons.mpr ⟨by k_memK, List.forall_mem_cons.mpr ⟨by k_memK, List.forall_mem_cons.mpr ⟨by k_memK, List.forall_mem_cons.mpr ⟨by k_memK, fun p hp => (List.mem_append.mp hp).elim (fun hp => by repeat (first | exact List.mem_append_left _ (List.mem_append_left _ hp) | refine List.Mem.tail _ ?_)) (fun hp => by repeat (first | exact List.mem_append_right _ hp | refine List.Mem.tail _ ?_))⟩⟩⟩⟩⟩
          case q2 => exact fun p hp => by repeat (first | exact List.mem_append_left _ (List.mem_append_right _ hp) | refine List.Mem.tail _ ?_)
          case q3 => exact List.forall_mem_cons.mpr ⟨sAT, List.forall_mem_cons.mpr ⟨allLt_ne (by assumption) fun p hp => (by repeat (first | exact List.mem_append_left _ (List.mem_append_right _ hp) | refine List.Mem.tail _ ?_)), List.forall_mem_cons.mpr ⟨sCH, List.forall_mem_cons.mpr ⟨sCM, List.forall_mem_cons.mpr ⟨sCW, fun p hp => (List.mem_append.mp hp).elim (sNX p) fun hp => allNeN_mono (hn' p hp) fun q hq => .tail _ (.tail _ (.tail _ (.tail _ (.tail _ (.tail _ (List.mem_append_right _ hq))))))⟩⟩⟩⟩⟩
          case q7 => kst_all
          case q8 => first | kst_same | ksw_same
          case qP =>
            show _ = bfs (13 + xm) (bfsN (13 + xm) i)
            rw [← hbf]
            rfl
    case finB =>
      rintro ⟨told, wait, nx, csT, csW, ct, cw, wl, oh3⟩ u6 h6 tk6 ⟨triT, triW, -, nAT2, -⟩ ⟨hcw, htr⟩ F6 N6
      dsimp only at triT triW nAT2 hcw htr N6
      dsimp only [kstB_c, kstB_n] at F6
      subst hcw
      obtain ⟨p, hp1, hp2, hp3, hp4, hp5⟩ := tr_open htr
      rcases triW with _ | _
      (try clear lF'); (try clear lN'); (try clear F5); (try clear N5); (try clear nAT); (try clear nCH)
      k_with "compareOp Eq ref ref" => k_dflt (k_here; refine stopD ?_)
      k_with "ite" => k_dflt (refine stopD ?_)
      k_with "call builtin:sorted" => k_dflt (k_here; refine stopD ?_)
      k_steps
      apply StopD.mk
      rename Fr _ _ _ _ => lF'
      rename News _ _ _ _ => lN'
      refine eq_nil (as := []) (lN' (wl, listOf (List.map Value.ref ([] : List Addr)).toArray cw) (by k_memK)).1 (lN' _ (List.Mem.head _)).1 (Nat.le_of_ble_eq_true (by with_unfolding_all rfl)) ?_
      (try simp only [decide_true])
      k_steps
      apply StopD.mk
      refine ite_pos rfl ?_
      (try dsimp only)
      k_steps
      apply StopD.mk
      rename Fr _ _ _ _ => lF'
      rename News _ _ _ _ => lN'
      refine' sorted_tris (as := told) (cs := csT) lF' lN' (by k_memK) (triT.mono fun q hq => by repeat (first | exact hq | refine List.Mem.tail _ ?_)) hp3 hp4 hp1 hp2 (Nat.le_of_ble_eq_true (by with_unfolding_all rfl)) ?_
      clear lF' lN'
      intro D cD hD FD ND hDlt
      k_lt hDlt
      have tri3 := triT.pick (p := p) fun i hi => by rw [triT.length]; exact hp2 i hi
      rw [hp5] at tri3
      k_steps
      apply StopD.mk
      rename Fr _ _ _ _ => lF'
      rename News _ _ _ _ => lN'
      refine' use_T trivial (tried_spec W0 (by show (3 : Int) ≤ 3 + xw; omega) (by omega) (by omega) (by omega)) (by with_unfolding_all rfl) (by with_unfolding_all rfl) (by with_unfolding_all rfl) (by assumption) (by assumption) (by assumption) lF' lN' (List.forall_mem_nil _) (Nat.le_of_ble_eq_true (by with_unfolding_all rfl)) (Nat.le_of_ble_eq_true (by with_unfolding_all rfl)) ?_
      rintro h15 tk15 v F15 N15 kp15 ⟨R, bs, ny, nn, rfl, fr15, T2⟩
      have N16 := kst_newsOf (l' := (R, listOf (List.map Value.ref bs).toArray nn) :: (D, listOf (List.map Value.ref (p.map fun i => told.getD i 0)).toArray cD) :: (ny ++ nx)) (fr15.news lF' lN' kp15) (List.forall_mem_cons.mpr ⟨List.Mem.head _, List.forall_mem_cons.mpr ⟨List.mem_append_right _ (by k_memK), fun p hp => (List.mem_append.mp hp).elim (fun hp => List.mem_append_left _ (.tail _ hp)) (fun hp => List.mem_append_right _ (by repeat (first | exact hp | refine List.Mem.tail _ ?_)))⟩⟩)
      clear lF' lN' N15
      (try dsimp only)
      (try k_fold)
      k_steps
      apply StopD.mk
      rename Fr _ _ _ _ => lF'
      rename News _ _ _ _ => lN'
      refine eq_tris (lN' (D, listOf (List.map Value.ref (p.map fun i => told.getD i 0)).toArray cD) (by k_memK)).1 (lN' (R, listOf (List.map Value.ref bs).toArray nn) (by k_memK)).1 tri3 (fun q hq => (lN' q (.tail _ (.tail _ (List.mem_append_right _ hq)))).1) T2 (fun q hq => (lN' q (.tail _ (.tail _ (List.mem_append_left _ hq)))).1) (Nat.le_of_ble_eq_true (by with_unfolding_all rfl)) ?_
      (try dsimp only)
      refine hQv _ _ ?_
      k_steps
  case turn =>
    rintro ⟨i, ti, n, oh2, hr, a, b, c, ta, tb, tc, nh⟩ t tt u5 h5 tk5 own ht hsep ⟨hoh, nH⟩ ⟨hi0, hi1, hnode⟩ F5 N5
    dsimp only at hoh nH hi0 hi1 hnode hsep
    dsimp only [List.cons_append, List.nil_append] at N5
    dsimp only [kstB_c, kstB_n] at F5
    have ht3 : t < 3 := by omega
    have hk : 3 ≤ 3 + xw := by omega
    have hk' : 3 + xw ≤ 8 := by omega
    have sr := hsep _ (List.Mem.head _)
    have sc := hsep _ (.tail _ (List.Mem.head _))
    have sh := hsep _ (.tail _ (.tail _ (List.Mem.head _)))
    have sd := hsep _ (.tail _ (.tail _ (.tail _ (List.Mem.head _))))
    have sm := hsep _ (.tail _ (.tail _ (.tail _ (.tail _ (List.Mem.head _)))))
    have sw := hsep _ (.tail _ (.tail _ (.tail _ (.tail _ (.tail _ (List.Mem.head _))))))
    dsimp only at sr sc sh sd sm sw
    (try clear lF'); (try clear lN'); (try clear F3); (try clear N3)
    refine abs_post ?_
    intro Qt hQt
    k_with_none
    k_with "call ref" => k_dflt (k_here; refine stopD ?_)
    k_steps
    apply StopD.mk
    refine' use_ruled (ruled_spec _ (by decide) (by decide)) (by with_unfolding_all rfl) (by assumption) (by assumption) F5 N5 (by k_memK) hys hlen hi0 (by omega) ⟨nR.2.2.1, Ne.symm nH.1, nR.1, nR.2.2.2.1, nR.2.2.2.2.1, sr⟩ (Nat.le_of_ble_eq_true (by with_unfolding_all rfl)) (Nat.le_of_ble_eq_true (by with_unfolding_all rfl)) ?_
    clear F5 N5
    intro kind tkd t6 n6 h6 tk6 F6 N6 hkd0 hkd1
    obtain ⟨a', b', c', hn', hnx, hchk⟩ := step_ok hk hk' ht3 hnode hkd0 hkd1
    simp only [stepOk, bnd, Bool.and_eq_true, decide_eq_true_eq] at hchk
    obtain ⟨⟨⟨⟨⟨⟨⟨⟨⟨⟨ba0, ba1, bb0, bb1, bc0, bc1⟩, ⟨ba0', ba1', bb0', bb1', bc0', bc1'⟩⟩, hled⟩, hledV⟩, hpyt⟩, hcc⟩, hodd⟩, hgc⟩, hled3⟩, hledV3⟩ := hchk
    (try dsimp only)
    (try k_fold)
    k_steps
    apply StopD.mk
    rename Fr _ _ _ _ => lF'
    rename News _ _ _ _ => lN'
    refine' use_Tlist (law_led_spec W0 hk hk' ⟨hkd0, by omega⟩ ⟨by omega, by omega⟩ ⟨by omega, by omega⟩ ⟨by omega, by omega⟩ hled) trivial (by with_unfolding_all rfl) (by with_unfolding_all rfl) (by with_unfolding_all rfl) (by assumption) (by assumption) (by assumption) lF' lN' ?own (Nat.le_of_ble_eq_true (by with_unfolding_all rfl)) (Nat.le_of_ble_eq_true (by with_unfolding_all rfl)) ?_
    case own => exact List.forall_mem_cons.mpr ⟨by k_memK, List.forall_mem_nil _⟩
    (try clear lF'); (try clear lN'); (try clear F6); (try clear N6)
    intro R us nR2 h7 tk7 F7 N7 i7 nR7
    rw [hledV] at i7
    obtain ⟨y1, y2, y3, rfl⟩ := three i7
    clear i7
    (try dsimp only)
    (try k_fold)
    k_with "ite" => k_dflt (refine stopD ?_)
    k_with "binaryOp Pow int int" => k_dflt (k_here; refine pow_sq (by assumption) (by assumption) ?_)
    k_steps
    apply StopD.mk
    rw [if_neg (by simp only [bne_iff_ne, ne_eq, Bool.not_eq_true]; first | exact hpyt | simp [hpyt])]
    clear hpyt
    k_steps
    apply StopD.mk
    rw [if_neg (by rw [decide_eq_true_eq]; omega)]
    k_steps
    apply StopD.mk
    rw [if_neg (by simp only [bne_iff_ne, ne_eq, decide_eq_true_eq, Int.fmod_eq_emod_of_nonneg _ (show (0 : Int) ≤ 2 by decide)]; omega)]
    k_steps
    apply StopD.mk
    refine ite_neg (by decide) ?_
    (try dsimp only)
    k_steps
    apply StopD.mk
    rename Fr _ _ _ _ => lF'
    rename News _ _ _ _ => lN'
    refine' use_listN trivial (law_limbs_spec W0 hk hk' (by omega) (by omega)) (by with_unfolding_all rfl) (by assumption) (by assumption) lF' lN' (Nat.le_of_ble_eq_true (by with_unfolding_all rfl)) (Nat.le_of_ble_eq_true (by with_unfolding_all rfl)) ?_
    (try clear lF'); (try clear lN'); (try clear F7); (try clear N7)
    intro rg1 ug1 ng1 hg1 tg1 Fg1 Ng1 ig1 neg1
    (try dsimp only)
    (try k_fold)
    k_steps
    apply StopD.mk
    rename Fr _ _ _ _ => lF'
    rename News _ _ _ _ => lN'
    refine' use_listN trivial (law_limbs_spec W0 hk hk' (by omega) (by omega)) (by with_unfolding_all rfl) (by assumption) (by assumption) lF' lN' (Nat.le_of_ble_eq_true (by with_unfolding_all rfl)) (Nat.le_of_ble_eq_true (by with_unfolding_all rfl)) ?_
    (try clear lF'); (try clear lN'); (try clear F7); (try clear N7)
    intro rg2 ug2 ng2 hg2 tg2 Fg2 Ng2 ig2 neg2
    (try dsimp only)
    (try k_fold)
    k_steps
    apply StopD.mk
    rename Fr _ _ _ _ => lF'
    rename News _ _ _ _ => lN'
    refine' use_gcd (gcd_spec W0 hk hk' hgc) (by k_memK) ig1 (by k_memK) ig2 (by with_unfolding_all rfl) (by assumption) (by assumption) lF' lN' (Nat.le_of_ble_eq_true (by with_unfolding_all rfl)) (Nat.le_of_ble_eq_true (by with_unfolding_all rfl)) ?_
    (try clear lF'); (try clear lN'); (try clear Fg1); (try clear Ng1); (try clear Fg2); (try clear Ng2)
    intro rq uq nq hq tq Fq Nq iq
    (try dsimp only)
    (try k_fold)
    k_steps
    apply StopD.mk
    refine ite_neg (by simp) ?_
    (try dsimp only)
    k_steps
    apply StopD.mk
    rename Fr _ _ _ _ => lF'
    rename News _ _ _ _ => lN'
    refine' use_Tlist (law_led_spec W0 hk hk' ⟨by decide, by decide⟩ ⟨by omega, by omega⟩ ⟨by omega, by omega⟩ ⟨by omega, by omega⟩ hled3) trivial (by with_unfolding_all rfl) (by with_unfolding_all rfl) (by with_unfolding_all rfl) (by assumption) (by assumption) (by assumption) lF' lN' ?own2 (Nat.le_of_ble_eq_true (by with_unfolding_all rfl)) (Nat.le_of_ble_eq_true (by with_unfolding_all rfl)) ?_
    case own2 => exact List.forall_mem_cons.mpr ⟨by k_memK, List.forall_mem_nil _⟩
    (try clear lF'); (try clear lN'); (try clear Fq); (try clear Nq)
    intro R3 us3 n8 h8 tk8 F8 N8 i8 nR8
    rw [hledV3] at i8
    obtain ⟨z1, z2, z3, rfl⟩ := three i8
    clear i8
    (try dsimp only)
    (try k_fold)
    k_steps
    apply StopD.mk
    refine ite_neg (by simp only [beq_iff_eq]; simp) ?_
    (try dsimp only)
    k_with "storeName" => k_dflt (k_here; refine stopD ?_)
    k_steps
    apply StopD.mk
    rename Fr _ _ _ _ => lF'
    rename News _ _ _ _ => lN'
    have N9 := kst_newsOf (l' := (R, listOf #[.int a' y1, .int b' y2, .int c' y3] nR2) :: (rr, listOf #[.int (i + 1) t6, .ref Dd] n6) :: (S1.heap.objs.size + 1 + 1 + 1, oh2) :: (Dd, listOf ys.toArray ys.length) :: (S1.heap.objs.size + 1 + 1, om) :: (S1.heap.objs.size + 1, ow) :: own) lN' (List.forall_mem_cons.mpr ⟨by k_memK, List.forall_mem_cons.mpr ⟨by k_memK, List.forall_mem_cons.mpr ⟨by k_memK, List.forall_mem_cons.mpr ⟨by k_memK, List.forall_mem_cons.mpr ⟨by k_memK, List.forall_mem_cons.mpr ⟨by k_memK, fun p hp => by repeat (first | exact hp | refine List.Mem.tail _ ?_)⟩⟩⟩⟩⟩⟩)
    clear lN'
    refine' storeX_C lF' N9 rfl (.tail (Ne.symm nR7.2.1) (.tail nC.1 (.head (List.forall_mem_cons.mpr ⟨nC.2.1, List.forall_mem_cons.mpr ⟨nC.2.2.1, List.forall_mem_cons.mpr ⟨nC.2.2.2.1, fun p hp => sc.get' hp |>.symm⟩⟩⟩)))) hoh ?_
    (try clear lF'); (try clear N9)
    intro h10 oh3 F10 N10 hoh3
    k_steps
    refine hQt _ _ ?_
    dsimp only [FfPost]
    refine' ff_end (σ := HS) ⟨i + 1, t6, n6, oh3, R, a', b', c', y1, y2, y3, nR2⟩ F10 N10 ?e1 ?e2 ?e3 ⟨hoh3, ⟨nR7.1, nR7.2.1, nR7.2.2.2.1, nR7.2.2.2.2.1, nR7.2.2.2.2.2.1, trivial⟩⟩ (List.forall_mem_nil _) ?e8 ⟨by show (0 : Int) ≤ i + 1; omega, by show i + 1 ≤ 10 + ((t + 1 : Nat) : Int); omega, hn'⟩
    case e8 => first | kst_same | ksw_same
    case e1 => exact List.forall_mem_cons.mpr ⟨by k_memK, List.forall_mem_cons.mpr ⟨by k_memK, List.forall_mem_cons.mpr ⟨by k_memK, List.forall_mem_cons.mpr ⟨by k_memK, List.forall_mem_cons.mpr ⟨by k_memK, List.forall_mem_cons.mpr ⟨by k_memK, List.forall_mem_nil _⟩⟩⟩⟩⟩⟩
    case e2 => exact fun p hp => by repeat (first | exact hp | refine List.Mem.tail _ ?_)
    case e3 => exact List.forall_mem_cons.mpr ⟨sr, List.forall_mem_cons.mpr ⟨sc, List.forall_mem_cons.mpr ⟨nR7.2.2.2.2.2.2, List.forall_mem_cons.mpr ⟨sd, List.forall_mem_cons.mpr ⟨sm, List.forall_mem_cons.mpr ⟨sw, List.forall_mem_nil _⟩⟩⟩⟩⟩⟩

end
end Mine
theorem PySem.Challenge.cw_xm0402_01_holds : PySem.Challenge.rw_xm0402_01.Holds :=
  Mine.law_holds
