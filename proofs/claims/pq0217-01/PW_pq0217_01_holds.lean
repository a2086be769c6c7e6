import PyProof.Rows.All
import Wide.All
import OpenK.AllK
import Wide.FinOn
import Lean
import PySem.Challenge.RW_pq0217_01
set_option bootstrap.genMatcherCode false
set_option Elab.async false
set_option linter.all false
set_option tactic.hygienic false
set_option autoImplicit false
set_option maxRecDepth 100000
set_option maxHeartbeats 8000000
section
open PySem PySem.W PyProof.Rows
set_option Elab.async false
namespace Mine
noncomputable def q5w : List Nat -> Nat -> List Stmt -> List Stmt
 | _, _, [] => []
 | [], _, l => l
 | k :: ks, n, s :: r => if Nat.beq k n then q5w ks (n + 1) r else s :: q5w (k :: ks) (n + 1) r
noncomputable def vw : Program := { PySem.Challenge.pw_pq0217_01 with main := { PySem.Challenge.pw_pq0217_01.main with body := q5w [0, 11, 17, 19, 21, 33, 39, 46, 50] 0 PySem.Challenge.pw_pq0217_01.main.body } }
noncomputable def prO : Obj := { cls := .type "tuple", data := .seq [Value.int 2 603, Value.int 3 604, Value.int 5 605, Value.int 7 606, Value.int 11 607, Value.int 13 608].toArray 0 }
noncomputable def prN : Str := Str.ofString "_law_primes"
noncomputable def hk : Hook where
 α := Option Value × Option Obj
 obs := fun s => (s.heap.nsMap mainGlobals prN, s.heap.get? 306)
 val := fun _ => (some (.ref 306), some prO)
 says := fun _ h => h.nsMap mainGlobals prN = some (.ref 306) /\ h.get? 306 = some prO
 of := fun w s e => ⟨congrArg Prod.fst e, congrArg Prod.snd e⟩
 keeps := fun w h h' ⟨e1, e2⟩ k => ⟨by
  unfold Heap.nsMap at e1 ⊢
  cases ho : h.get? mainGlobals with
  | none => rw [ho] at e1; cases e1
  | some o => rw [ho] at e1; rw [k _ _ ho]; exact e1, k _ _ e2⟩
theorem lf0 (w : World) : Option.map
  (fun (s : PySem.Shared) =>
   (PySem.W.Fast.tw4187177175401517315 vw []
     (PySem.W.Fast.tw5923862056798008813 PySem.Challenge.pw_pq0217_01.main.body)
     (fun (s : PySem.Shared) => PySem.W.xlAt vw [] s && recOk [] s) Bool.true s,
    hk.obs s))
  (PySem.W.openEnds PySem.W.Fast.tw14364793385576792824 PySem.Challenge.pw_pq0217_01 w 4000) =
 Option.some (PySem.W.openGood vw [], hk.val w) := by kernel_rfl
theorem lfH : LeftO PySem.Challenge.pw_pq0217_01 vw [] (fun s => PySem.W.xlAt vw [] s && recOk [] s) hk.obs hk.val 4000 := fun w => by
 rw [PySem.W.Fast.te4187177175401517315, PySem.W.Fast.te5923862056798008813, PySem.W.Fast.te14364793385576792824]
 exact lf0 w
theorem wls : PySem.Challenge.rw_pq0217_01.wellSaid = true := by decide +kernel
theorem dsome : (defOf vw (Str.ofString "law")).isSome = true := by decide +kernel
noncomputable def dk : DefRec × List (Str × Expr) := (defOf vw (Str.ofString "law")).get dsome
theorem dk_eq : defOf vw (Str.ofString "law") = some (dk.1, dk.2) := (Option.some_get dsome).symm
theorem dk_the : PySem.Challenge.pw_pq0217_01.theDef (Str.ofString "law") = some (dk.1.params, dk.1.body, dk.1.scope) := by kernel_rfl
theorem dk_kw : kwWritten? dk.1.params.kwonlyargs dk.1.params.kw_defaults = some dk.2 := by kernel_rfl
theorem oks : (chainsOk vw && opensWell PySem.Challenge.rw_pq0217_01.row.prog && (frees PySem.Challenge.rw_pq0217_01.row.toRowW && PySem.Challenge.rw_pq0217_01.row.within.isEmpty)) = true := by decide +kernel
theorem proms : RowW.promised PySem.Challenge.rw_pq0217_01.row.toRowW := by w_witness2
theorem hd2 (walk : WalkO vw [] (XL vw []) hk.says PySem.Challenge.rw_pq0217_01.row.toRowW dk.1 dk.2 fun f vs => PySem.call f vs) : PySem.Challenge.rw_pq0217_01.Holds := by
 refine holds_law wls fun said => ?_
 exact holds_open (q := vw) (loose := []) (Xt := fun s => PySem.W.xlAt vw [] s && recOk [] s) (XP := XL vw []) (Yf := hk.obs) (Ya := hk.val) (YP := hk.says) (N := 4000) lfH hk.of hk.keeps (fun s e => xl_of s (Bool.and_eq_true_iff.mp e).1) XL.keeps dk_eq dk_the dk_kw (fun s e => recFacts_of (Bool.and_eq_true_iff.mp e).2) rfl said oks ⟨rfl, rfl, rfl, rfl, rfl, by decide +kernel⟩ proms walk
end Mine
end
section
namespace Mine
set_option genCtorIdx false
set_option genSizeOf false
inductive L where
 | v (i : Nat) | z (i : Nat) | k (n : Nat) | add (a b : L) | sub (a b : L) | mul (c : Int) (a : L) | lum (a : L) (c : Int) | neg (a : L) | c (a : L) | tn (a : L) | na (a : L) | mx (a b : L) | mn (a b : L)
@[reducible] noncomputable def L.ctorIdx (x : L) : Nat := @L.casesOn (fun _ => Nat) x (fun _ => 0) (fun _ => 1) (fun _ => 2) (fun _ _ => 3) (fun _ _ => 4) (fun _ _ => 5) (fun _ _ => 6) (fun _ => 7) (fun _ => 8) (fun _ => 9) (fun _ => 10) (fun _ _ => 11) (fun _ _ => 12)
section
variable (ν : List Nat) (ζ : List Int)
noncomputable def L.d : L -> Nat × Int
 | .v i => (ν.getD i 0, 0)
 | .z i => (0, ζ.getD i 0)
 | .k n => (n, (n : Int))
 | .add a b => (a.d.1 + b.d.1, a.d.2 + b.d.2)
 | .sub a b => (a.d.1 - b.d.1, a.d.2 - b.d.2)
 | .mul m a => (m.toNat * a.d.1, m * a.d.2)
 | .lum a m => (a.d.1 * m.toNat, a.d.2 * m)
 | .neg a => (0, - a.d.2)
 | .c a => (0, (a.d.1 : Int))
 | .tn a => (a.d.2.toNat, 0)
 | .na a => (a.d.2.natAbs, 0)
 | .mx a b => (max a.d.1 b.d.1, max a.d.2 b.d.2)
 | .mn a b => (min a.d.1 b.d.1, min a.d.2 b.d.2)
inductive LC where
 | ff | rel (r : Nat) (s : Bool) (a b : L) | and (a b : LC) | or (a b : LC) | not (a : LC) | imp (a b : LC)
@[reducible] noncomputable def LC.ctorIdx (x : LC) : Nat := @LC.casesOn (fun _ => Nat) x (0) (fun _ _ _ _ => 1) (fun _ _ => 2) (fun _ _ => 3) (fun _ => 4) (fun _ _ => 5)
noncomputable def lrel (r : Nat) (P Q R : Prop) : Prop := match r with | 0 => P | 1 => Q | _ => R
noncomputable def LC.d : LC -> Prop
 | .ff => False
 | .rel r s a b => bif s then lrel r ((a.d ν ζ).2 <= (b.d ν ζ).2) ((a.d ν ζ).2 < (b.d ν ζ).2) ((a.d ν ζ).2 = (b.d ν ζ).2)
  else lrel r ((a.d ν ζ).1 <= (b.d ν ζ).1) ((a.d ν ζ).1 < (b.d ν ζ).1) ((a.d ν ζ).1 = (b.d ν ζ).1)
 | .and a b => a.d /\ b.d
 | .or a b => a.d \/ b.d
 | .not a => ¬ a.d
 | .imp a b => a.d -> b.d
noncomputable def LI : List LC -> LC -> Prop
 | [], g => g.d ν ζ
 | h :: r, g => h.d ν ζ -> LI r g
end
noncomputable def y5c : List Int -> List Int -> List Int
 | [], b => b
 | a, [] => a
 | x :: a, y :: b => (x + y) :: y5c a b
noncomputable def lsc (c : Int) (l : List Int) : List Int := l.map (c * ·)
noncomputable def y1g (a b : List Int) : List Int := y5c a (lsc (-1) b)
noncomputable def lun : Nat -> List Int
 | 0 => [1]
 | n + 1 => 0 :: lun n
noncomputable def L.l (n : Nat) (s : Bool) : L -> List (List (List Int) × List Int)
 | .v i => [([], bif s || !Nat.blt i n then [] else lun (i + 1))]
 | .z i => [([], bif s then lun (n + i + 1) else [])]
 | .k m => [([], [(m : Int)])]
 | .add a b => (a.l n s).flatMap fun x => (b.l n s).map fun y => (x.1 ++ y.1, y5c x.2 y.2)
 | .sub a b => (a.l n s).flatMap fun x => (b.l n s).flatMap fun y => bif s then [(x.1 ++ y.1, y1g x.2 y.2)] else [(x.1 ++ (y.1 ++ [y1g x.2 y.2]), y1g x.2 y.2), (x.1 ++ (y.1 ++ [y1g y.2 x.2]), [])]
 | .mul m a => (a.l n s).map fun x => (x.1, lsc (bif s then m else m.toNat) x.2)
 | .lum a m => (a.l n s).map fun x => (x.1, lsc (bif s then m else m.toNat) x.2)
 | .neg a => bif s then (a.l n true).map fun x => (x.1, lsc (-1) x.2) else [([], [])]
 | .c a => bif s then a.l n false else [([], [])]
 | .tn a => bif s then [([], [])] else (a.l n true).flatMap fun x => [(x.1 ++ [x.2], x.2), (x.1 ++ [lsc (-1) x.2], [])]
 | .na a => bif s then [([], [])] else (a.l n true).flatMap fun x => [(x.1 ++ [x.2], x.2), (x.1 ++ [lsc (-1) x.2], lsc (-1) x.2)]
 | .mx a b => (a.l n s).flatMap fun x => (b.l n s).flatMap fun y => [(x.1 ++ (y.1 ++ [y1g x.2 y.2]), x.2), (x.1 ++ (y.1 ++ [y1g y.2 x.2]), y.2)]
 | .mn a b => (a.l n s).flatMap fun x => (b.l n s).flatMap fun y => [(x.1 ++ (y.1 ++ [y1g y.2 x.2]), x.2), (x.1 ++ (y.1 ++ [y1g x.2 y.2]), y.2)]
noncomputable def q0g (a b : List (List (List Int))) : List (List (List Int)) := a.flatMap fun x => b.map fun y => x ++ y
noncomputable def LC.l (n : Nat) : Bool -> LC -> List (List (List Int))
 | p, .ff => bif p then [] else [[]]
 | p, .rel r s a b => (a.l n s).flatMap fun x => (b.l n s).flatMap fun y =>
   let D := y1g y.2 x.2
   let E := y1g x.2 y.2
   (match r, p with
    | 0, true => [[D]]
    | 0, false => [[y5c E [-1]]]
    | 1, true => [[y5c D [-1]]]
    | 1, false => [[E]]
    | _, true => [[D, E]]
    | _, false => [[y5c D [-1]], [y5c E [-1]]]).map fun f => x.1 ++ (y.1 ++ f)
 | p, .and a b => bif p then q0g (a.l n p) (b.l n p) else a.l n p ++ b.l n p
 | p, .or a b => bif p then a.l n p ++ b.l n p else q0g (a.l n p) (b.l n p)
 | p, .not a => a.l n (!p)
 | p, .imp a b => bif p then a.l n (!p) ++ b.l n p else q0g (a.l n (!p)) (b.l n p)
noncomputable def lcs (n : Nat) (g : LC) : List LC -> List (List (List Int))
 | [] => g.l n false
 | h :: r => q0g (h.l n true) (lcs n g r)
noncomputable def lnn : Nat -> List (List Int)
 | 0 => []
 | n + 1 => lun (n + 1) :: lnn n
noncomputable def q6d (b : Nat) : List (List Int) -> Nat -> List Int × Nat
 | [], w => ([], w)
 | p :: r, w => let x := q6d b r (w / b); (y5c (lsc (w % b : Nat) p) x.1, x.2)
noncomputable def lneg : List Int -> Bool
 | [] => false
 | c :: r => decide (c < 0) && r.all (· == 0)
noncomputable def lchk (b n : Nat) : List (List (List Int)) -> Nat -> Bool
 | [], _ => true
 | f :: r, w => let x := q6d b (f ++ lnn n) w; lneg x.1 && lchk b n r x.2
noncomputable def lf : List Int -> List Int -> Int
 | c :: l, x :: xs => c * x + lf l xs
 | _, _ => 0
theorem z4f (xs : List Int) : lf [] xs = 0 := by cases xs <;> rfl
theorem y3w (xs : List Int) : ∀ a b, lf (y5c a b) xs = lf a xs + lf b xs := by
 induction xs with
 | nil => intro a b; cases a <;> cases b <;> rfl
 | cons x xs ih =>
  intro a b
  cases a with
  | nil => rw [z4f, Int.zero_add]; rfl
  | cons c a =>
   cases b with
   | nil => rw [z4f, Int.add_zero]; rfl
   | cons d b =>
    show (c + d) * x + lf (y5c a b) xs = (c * x + lf a xs) + (d * x + lf b xs)
    rw [ih, Int.add_mul]
    omega
theorem y3v (c : Int) (xs : List Int) : ∀ a, lf (lsc c a) xs = c * lf a xs := by
 induction xs with
 | nil => intro a; cases a <;> simp [lsc, lf]
 | cons x xs ih =>
  intro a
  cases a with
  | nil => simp [lsc, lf]
  | cons d a =>
   show (c * d) * x + lf (lsc c a) xs = c * (d * x + lf a xs)
   rw [ih, Int.mul_add, Int.mul_assoc]
theorem z7g (xs : List Int) (a b : List Int) : lf (y1g a b) xs = lf a xs - lf b xs := by
 unfold y1g
 rw [y3w, y3v, Int.neg_mul, Int.one_mul]; rfl
theorem q6i (xs : List Int) : ∀ i, lf (lun i) xs = xs.getD i 0 := by
 induction xs with
 | nil => intro i; cases i <;> rfl
 | cons x xs ih =>
  intro i
  cases i with
  | zero => show 1 * x + lf [] xs = x; rw [z4f, Int.add_zero, Int.one_mul]
  | succ i => show 0 * x + lf (lun i) xs = _; rw [ih, Int.zero_mul, Int.zero_add]; rfl
noncomputable def lvs (ν : List Nat) (ζ : List Int) : List Int := 1 :: (ν.map Int.ofNat ++ ζ)
theorem lvs_v (ν : List Nat) (ζ : List Int) (i : Nat) (h : i < ν.length) : (lvs ν ζ).getD (i + 1) 0 = (ν.getD i 0 : Int) := by
 simp [lvs, List.getD, List.getElem?_append, h]
theorem lvs_z (ν : List Nat) (ζ : List Int) (i : Nat) : (lvs ν ζ).getD (ν.length + i + 1) 0 = ζ.getD i 0 := by
 simp [lvs, List.getD, List.getElem?_append, show ¬ ν.length + i < ν.length from Nat.not_lt.mpr (Nat.le_add_right _ _)]
noncomputable def Lh (xs : List Int) (f : List (List Int)) : Prop := ∀ p ∈ f, 0 <= lf p xs
theorem Lh.app {xs : List Int} {a b : List (List Int)} (h : Lh xs a) (k : Lh xs b) : Lh xs (a ++ b) := fun p hp => (List.mem_append.mp hp).elim (h p) (k p)
theorem Lh.one {xs : List Int} {p : List Int} (h : 0 <= lf p xs) : Lh xs [p] := fun q hq => by rw [List.mem_singleton.mp hq]; exact h
theorem Lh.nil {xs : List Int} : Lh xs [] := fun q hq => by cases hq
noncomputable def y8b (s : Bool) (x : Nat × Int) : Int := bif s then x.2 else x.1
theorem L.ok (ν : List Nat) (ζ : List Int) (e : L) : ∀ s, ∃ x ∈ e.l ν.length s, Lh (lvs ν ζ) x.1 /\ y8b s (e.d ν ζ) = lf x.2 (lvs ν ζ) := by
 induction e with
 | v i =>
  intro s
  refine ⟨_, List.mem_singleton_self _, Lh.nil, ?_⟩
  cases s
  ·show ((ν.getD i 0 : Nat) : Int) = lf (bif !Nat.blt i ν.length then [] else lun (i + 1)) _
   by_cases h : i < ν.length
   ·rw [show Nat.blt i ν.length = true by simp [Nat.blt_eq, h]]
    show _ = lf (lun (i + 1)) _
    rw [q6i, lvs_v ν ζ i h]
   ·rw [show Nat.blt i ν.length = false by simp only [<- Bool.not_eq_true, Nat.blt_eq, h, not_false_eq_true]]
    show _ = lf [] _
    rw [z4f]; simp [List.getD, List.getElem?_eq_none (Nat.not_lt.mp h)]
  ·exact (z4f _).symm
 | z i =>
  intro s
  refine ⟨_, List.mem_singleton_self _, Lh.nil, ?_⟩
  cases s
  ·exact (z4f _).symm
  ·show ζ.getD i 0 = lf (lun (ν.length + i + 1)) _
   rw [q6i, lvs_z]
 | k m =>
  intro s
  refine ⟨_, List.mem_singleton_self _, Lh.nil, ?_⟩
  have : lf [(m : Int)] (lvs ν ζ) = m := by show (m : Int) * 1 + lf [] _ = m; rw [z4f, Int.mul_one, Int.add_zero]
  rw [this]; cases s <;> rfl
 | add a b iha ihb =>
  intro s
  obtain ⟨x, hx, fx, ex⟩ := iha s
  obtain ⟨y, hy, fy, ey⟩ := ihb s
  refine ⟨_, List.mem_flatMap.mpr ⟨x, hx, List.mem_map.mpr ⟨y, hy, rfl⟩⟩, fx.app fy, ?_⟩
  rw [y3w, <- ex, <- ey]; cases s <;> rfl
 | sub a b iha ihb =>
  intro s
  obtain ⟨x, hx, fx, ex⟩ := iha s
  obtain ⟨y, hy, fy, ey⟩ := ihb s
  cases s with
  | true =>
   refine ⟨_, List.mem_flatMap.mpr ⟨x, hx, List.mem_flatMap.mpr ⟨y, hy, List.mem_singleton_self _⟩⟩, fx.app fy, ?_⟩
   rw [z7g, <- ex, <- ey]; rfl
  | false =>
   have ex' : ((a.d ν ζ).1 : Int) = _ := ex
   have ey' : ((b.d ν ζ).1 : Int) = _ := ey
   by_cases h : (b.d ν ζ).1 <= (a.d ν ζ).1
   ·refine ⟨_, List.mem_flatMap.mpr ⟨x, hx, List.mem_flatMap.mpr ⟨y, hy, List.mem_cons_self⟩⟩, fx.app (fy.app (Lh.one ?_)), ?_⟩
    ·rw [z7g, <- ex', <- ey']; omega
    ·rw [z7g, <- ex', <- ey']; show (((a.d ν ζ).1 - (b.d ν ζ).1 : Nat) : Int) = _; omega
   ·refine ⟨_, List.mem_flatMap.mpr ⟨x, hx, List.mem_flatMap.mpr ⟨y, hy, List.mem_cons_of_mem _ List.mem_cons_self⟩⟩, fx.app (fy.app (Lh.one ?_)), ?_⟩
    ·rw [z7g, <- ex', <- ey']; omega
    ·rw [z4f]; show (((a.d ν ζ).1 - (b.d ν ζ).1 : Nat) : Int) = _; omega
 | mul m a iha =>
  intro s
  obtain ⟨x, hx, fx, ex⟩ := iha s
  refine ⟨_, List.mem_map.mpr ⟨x, hx, rfl⟩, fx, ?_⟩
  rw [y3v, <- ex]; cases s
  ·exact Int.natCast_mul _ _
  ·rfl
 | lum a m iha =>
  intro s
  obtain ⟨x, hx, fx, ex⟩ := iha s
  refine ⟨_, List.mem_map.mpr ⟨x, hx, rfl⟩, fx, ?_⟩
  rw [y3v, <- ex, Int.mul_comm]; cases s
  ·exact Int.natCast_mul _ _
  ·rfl
 | neg a iha =>
  intro s
  cases s with
  | false => exact ⟨_, List.mem_singleton_self _, Lh.nil, (z4f _).symm⟩
  | true =>
   obtain ⟨x, hx, fx, ex⟩ := iha true
   refine ⟨_, List.mem_map.mpr ⟨x, hx, rfl⟩, fx, ?_⟩
   rw [y3v, <- ex, Int.neg_mul, Int.one_mul]; rfl
 | c a iha =>
  intro s
  cases s with
  | false => exact ⟨_, List.mem_singleton_self _, Lh.nil, (z4f _).symm⟩
  | true => exact iha false
 | tn a iha =>
  intro s
  cases s with
  | true => exact ⟨_, List.mem_singleton_self _, Lh.nil, (z4f _).symm⟩
  | false =>
   obtain ⟨x, hx, fx, ex⟩ := iha true
   have ex' : (a.d ν ζ).2 = _ := ex
   by_cases h : 0 <= (a.d ν ζ).2
   ·refine ⟨_, List.mem_flatMap.mpr ⟨x, hx, List.mem_cons_self⟩, fx.app (Lh.one (by rw [<- ex']; exact h)), ?_⟩
    rw [<- ex']; exact Int.toNat_of_nonneg h
   ·refine ⟨_, List.mem_flatMap.mpr ⟨x, hx, List.mem_cons_of_mem _ List.mem_cons_self⟩, fx.app (Lh.one (by rw [y3v, <- ex']; omega)), ?_⟩
    rw [z4f]; show (((a.d ν ζ).2.toNat : Nat) : Int) = 0; omega
 | na a iha =>
  intro s
  cases s with
  | true => exact ⟨_, List.mem_singleton_self _, Lh.nil, (z4f _).symm⟩
  | false =>
   obtain ⟨x, hx, fx, ex⟩ := iha true
   have ex' : (a.d ν ζ).2 = _ := ex
   by_cases h : 0 <= (a.d ν ζ).2
   ·refine ⟨_, List.mem_flatMap.mpr ⟨x, hx, List.mem_cons_self⟩, fx.app (Lh.one (by rw [<- ex']; exact h)), ?_⟩
    rw [<- ex']; show (((a.d ν ζ).2.natAbs : Nat) : Int) = _; omega
   ·refine ⟨_, List.mem_flatMap.mpr ⟨x, hx, List.mem_cons_of_mem _ List.mem_cons_self⟩, fx.app (Lh.one (by rw [y3v, <- ex']; omega)), ?_⟩
    rw [y3v, <- ex']; show (((a.d ν ζ).2.natAbs : Nat) : Int) = _; omega
 | mx a b iha ihb =>
  intro s
  obtain ⟨x, hx, fx, ex⟩ := iha s
  obtain ⟨y, hy, fy, ey⟩ := ihb s
  have e : y8b s ((L.mx a b).d ν ζ) = max (y8b s (a.d ν ζ)) (y8b s (b.d ν ζ)) := by
   have q : ∀ u v : Nat, ((max u v : Nat) : Int) = max (u : Int) v := fun u v => by omega
   cases s
   ·exact q _ _
   ·rfl
  rw [e, ex, ey]
  by_cases h : lf y.2 (lvs ν ζ) <= lf x.2 (lvs ν ζ)
  ·exact ⟨_, List.mem_flatMap.mpr ⟨x, hx, List.mem_flatMap.mpr ⟨y, hy, List.mem_cons_self⟩⟩, fx.app (fy.app (Lh.one (by rw [z7g]; omega))), by show _ = lf x.2 _; omega⟩
  ·exact ⟨_, List.mem_flatMap.mpr ⟨x, hx, List.mem_flatMap.mpr ⟨y, hy, List.mem_cons_of_mem _ List.mem_cons_self⟩⟩, fx.app (fy.app (Lh.one (by rw [z7g]; omega))), by show _ = lf y.2 _; omega⟩
 | mn a b iha ihb =>
  intro s
  obtain ⟨x, hx, fx, ex⟩ := iha s
  obtain ⟨y, hy, fy, ey⟩ := ihb s
  have e : y8b s ((L.mn a b).d ν ζ) = min (y8b s (a.d ν ζ)) (y8b s (b.d ν ζ)) := by
   have q : ∀ u v : Nat, ((min u v : Nat) : Int) = min (u : Int) v := fun u v => by omega
   cases s
   ·exact q _ _
   ·rfl
  rw [e, ex, ey]
  by_cases h : lf x.2 (lvs ν ζ) <= lf y.2 (lvs ν ζ)
  ·exact ⟨_, List.mem_flatMap.mpr ⟨x, hx, List.mem_flatMap.mpr ⟨y, hy, List.mem_cons_self⟩⟩, fx.app (fy.app (Lh.one (by rw [z7g]; omega))), by show _ = lf x.2 _; omega⟩
  ·exact ⟨_, List.mem_flatMap.mpr ⟨x, hx, List.mem_flatMap.mpr ⟨y, hy, List.mem_cons_of_mem _ List.mem_cons_self⟩⟩, fx.app (fy.app (Lh.one (by rw [z7g]; omega))), by show _ = lf y.2 _; omega⟩
theorem y0a {xs : List Int} {A B : List (List (List Int))} (h : ∃ x ∈ A, Lh xs x) (k : ∃ x ∈ B, Lh xs x) : ∃ x ∈ q0g A B, Lh xs x :=
 let ⟨x, hx, fx⟩ := h; let ⟨y, hy, fy⟩ := k; ⟨_, List.mem_flatMap.mpr ⟨x, hx, List.mem_map.mpr ⟨y, hy, rfl⟩⟩, fx.app fy⟩
theorem q6g {xs : List Int} {A B : List (List (List Int))} (h : ∃ x ∈ A, Lh xs x) : ∃ x ∈ A ++ B, Lh xs x := let ⟨x, hx, fx⟩ := h; ⟨x, List.mem_append_left _ hx, fx⟩
theorem q0f {xs : List Int} {A B : List (List (List Int))} (h : ∃ x ∈ B, Lh xs x) : ∃ x ∈ A ++ B, Lh xs x := let ⟨x, hx, fx⟩ := h; ⟨x, List.mem_append_right _ hx, fx⟩
noncomputable def q0d (p : Bool) (P : Prop) : Prop := bif p then P else ¬ P
theorem LC.ok (ν : List Nat) (ζ : List Int) (g : LC) : ∀ p, q0d p (g.d ν ζ) -> ∃ x ∈ g.l ν.length p, Lh (lvs ν ζ) x := by
 induction g with
 | ff =>
  intro p h
  cases p
  ·exact ⟨_, List.mem_singleton_self _, Lh.nil⟩
  ·exact False.elim h
 | rel r s a b =>
  intro p h
  obtain ⟨x, hx, fx, ex⟩ := a.ok ν ζ s
  obtain ⟨y, hy, fy, ey⟩ := b.ok ν ζ s
  have key : q0d p (lrel r (y8b s (a.d ν ζ) <= y8b s (b.d ν ζ)) (y8b s (a.d ν ζ) < y8b s (b.d ν ζ)) (y8b s (a.d ν ζ) = y8b s (b.d ν ζ))) := by
   refine Eq.mp (congrArg (q0d p) ?_) h
   cases s
   ·match r with
    | 0 => exact propext Int.ofNat_le.symm
    | 1 => exact propext Int.ofNat_lt.symm
    | _ + 2 => exact propext Int.ofNat_inj.symm
   ·rfl
  rw [ex, ey] at key
  have one : ∀ c : Int, lf [c] (lvs ν ζ) = c := fun c => by show c * 1 + lf [] _ = c; rw [z4f, Int.mul_one, Int.add_zero]
  have fin : ∀ f : List (List Int), Lh (lvs ν ζ) f -> f ∈ (match r, p with
    | 0, true => [[y1g y.2 x.2]]
    | 0, false => [[y5c (y1g x.2 y.2) [-1]]]
    | 1, true => [[y5c (y1g y.2 x.2) [-1]]]
    | 1, false => [[y1g x.2 y.2]]
    | _, true => [[y1g y.2 x.2, y1g x.2 y.2]]
    | _, false => [[y5c (y1g y.2 x.2) [-1]], [y5c (y1g x.2 y.2) [-1]]]) -> ∃ z ∈ (LC.rel r s a b).l ν.length p, Lh (lvs ν ζ) z := fun f hf hm =>
   ⟨_, List.mem_flatMap.mpr ⟨x, hx, List.mem_flatMap.mpr ⟨y, hy, List.mem_map.mpr ⟨f, hm, rfl⟩⟩⟩, fx.app (fy.app hf)⟩
  have hD := z7g (lvs ν ζ) y.2 x.2
  have hE := z7g (lvs ν ζ) x.2 y.2
  have hD1 := y3w (lvs ν ζ) (y1g y.2 x.2) [-1]
  have hE1 := y3w (lvs ν ζ) (y1g x.2 y.2) [-1]
  rw [one] at hD1 hE1
  generalize lf x.2 (lvs ν ζ) = X at *
  generalize lf y.2 (lvs ν ζ) = Y at *
  cases p with
  | true =>
   match r, key, fin with
   | 0, key, fin => exact fin _ (Lh.one (by have : X <= Y := key; omega)) List.mem_cons_self
   | 1, key, fin => exact fin _ (Lh.one (by have : X < Y := key; omega)) List.mem_cons_self
   | _ + 2, key, fin =>
    have k' : X = Y := key
    exact fin [_, _] (Lh.app (Lh.one (by omega)) (Lh.one (by omega))) List.mem_cons_self
  | false =>
   match r, key, fin with
   | 0, key, fin => exact fin _ (Lh.one (by have : ¬ X <= Y := key; omega)) List.mem_cons_self
   | 1, key, fin => exact fin _ (Lh.one (by have : ¬ X < Y := key; omega)) List.mem_cons_self
   | _ + 2, key, fin =>
    have k' : ¬ X = Y := key
    rcases Int.lt_or_gt_of_ne k' with h | h
    ·exact fin _ (Lh.one (by omega)) List.mem_cons_self
    ·exact fin _ (Lh.one (by omega)) (List.mem_cons_of_mem _ List.mem_cons_self)
 | and a b iha ihb =>
  intro p h
  cases p
  ·rcases Classical.not_and_iff_not_or_not.mp h with h | h
   ·exact q6g (iha false h)
   ·exact q0f (ihb false h)
  ·exact y0a (iha true h.1) (ihb true h.2)
 | or a b iha ihb =>
  intro p h
  cases p
  ·exact y0a (iha false fun q => h (.inl q)) (ihb false fun q => h (.inr q))
  ·rcases h with h | h
   ·exact q6g (iha true h)
   ·exact q0f (ihb true h)
 | not a iha =>
  intro p h
  cases p
  ·exact iha true (Classical.not_not.mp h)
  ·exact iha false h
 | imp a b iha ihb =>
  intro p h
  cases p
  ·exact y0a (iha true (Classical.not_not.mp fun q => h fun z => absurd z q)) (ihb false fun q => h fun _ => q)
  ·by_cases q : a.d ν ζ
   ·exact q0f (ihb true (h q))
   ·exact q6g (iha false q)
theorem q3w (ν : List Nat) (ζ : List Int) : ∀ n, n <= ν.length -> Lh (lvs ν ζ) (lnn n)
 | 0, _ => Lh.nil
 | n + 1, h => fun p hp => by
  rcases List.mem_cons.mp hp with rfl | hp
  ·rw [q6i, lvs_v ν ζ n h]; exact Int.natCast_nonneg _
  ·exact q3w ν ζ n (Nat.le_of_lt h) p hp
theorem q0e {xs : List Int} (b : Nat) : ∀ (f : List (List Int)) (w : Nat), Lh xs f -> 0 <= lf (q6d b f w).1 xs
 | [], _, _ => by rw [show (q6d b [] _).1 = [] from rfl, z4f]; exact Int.le_refl _
 | p :: r, w, h => by
  show 0 <= lf (y5c (lsc (w % b : Nat) p) (q6d b r (w / b)).1) xs
  rw [y3w, y3v]
  exact Int.add_nonneg (Int.mul_nonneg (Int.natCast_nonneg _) (h p List.mem_cons_self)) (q0e b r _ fun q hq => h q (List.mem_cons_of_mem _ hq))
theorem q6h (xs : List Int) : ∀ r : List Int, r.all (· == 0) = true -> lf r xs = 0 := by
 induction xs with
 | nil => intro r _; cases r <;> rfl
 | cons x xs ih =>
  intro r h
  cases r with
  | nil => rfl
  | cons c r =>
   obtain ⟨h1, h2⟩ := Bool.and_eq_true_iff.mp (show ((c == 0) && r.all (· == 0)) = true from h)
   show c * x + lf r xs = 0
   rw [eq_of_beq h1, Int.zero_mul, ih r h2]; rfl
theorem q6f {ν : List Nat} {ζ : List Int} : ∀ {l : List Int}, lneg l = true -> lf l (lvs ν ζ) < 0
 | [], h => by cases h
 | c :: r, h => by
  obtain ⟨h1, h2⟩ := Bool.and_eq_true_iff.mp h
  show c * 1 + lf r _ < 0
  rw [q6h _ r h2, Int.mul_one, Int.add_zero]; exact of_decide_eq_true h1
theorem q0j {ν : List Nat} {ζ : List Int} (b : Nat) : ∀ (A : List (List (List Int))) (w : Nat), lchk b ν.length A w = true -> ¬ ∃ x ∈ A, Lh (lvs ν ζ) x
 | [], _, _, ⟨_, hx, _⟩ => by cases hx
 | f :: r, w, h, ⟨x, hx, fx⟩ => by
  obtain ⟨h1, h2⟩ := Bool.and_eq_true_iff.mp (show (lneg (q6d b (f ++ lnn ν.length) w).1 && lchk b ν.length r (q6d b (f ++ lnn ν.length) w).2) = true from h)
  rcases List.mem_cons.mp hx with rfl | hx
  ·exact absurd (q6f h1) (Int.not_lt.mpr (q0e b _ w (fx.app (q3w ν ζ _ (Nat.le_refl _)))))
  ·exact q0j b r _ h2 ⟨x, hx, fx⟩
noncomputable def lck (ν : List Nat) (hs : List LC) (g : LC) (b w : Nat) : Bool := lchk b ν.length (lcs ν.length g hs) w
theorem lin {ν : List Nat} {ζ : List Int} {hs : List LC} {g : LC} (b w : Nat) (h : true = lck ν hs g b w := by kernel_rfl) : LI ν ζ hs g := by
 have go : ∀ hs : List LC, ((∃ x ∈ lcs ν.length g hs, Lh (lvs ν ζ) x) -> False) -> LI ν ζ hs g := by
  intro hs
  induction hs with
  | nil => intro k; exact Classical.not_not.mp fun q => k (g.ok ν ζ false q)
  | cons a r ih => intro k q; exact ih fun z => k (y0a (a.ok ν ζ true q) z)
 exact go hs (q0j b _ w h.symm)
theorem li' (ν : List Nat) (ζ : List Int) (hs : List LC) (g : LC) (b w : Nat) (h : true = lck ν hs g b w := by kernel_rfl) : LI ν ζ hs g := lin b w h
@[reducible] noncomputable def L.A := L.v 0
@[reducible] noncomputable def L.B := L.v 1
@[reducible] noncomputable def L.C := L.v 2
@[reducible] noncomputable def L.D := L.v 3
@[reducible] noncomputable def L.F := L.v 4
@[reducible] noncomputable def L.G := L.v 5
@[reducible] noncomputable def L.H := L.v 6
@[reducible] noncomputable def L.I := L.v 7
@[reducible] noncomputable def L.P := L.z 0
@[reducible] noncomputable def L.Q := L.z 1
@[reducible] noncomputable def L.R := L.z 2
@[reducible] noncomputable def L.S := L.z 3
@[reducible] noncomputable def L.T := L.z 4
@[reducible] noncomputable def L.U := L.z 5
@[reducible] noncomputable def L.o := L.k 0
@[reducible] noncomputable def L.i := L.k 1
@[reducible] noncomputable def L.j := L.k 2
@[reducible] noncomputable def L.p := L.add
@[reducible] noncomputable def L.s := L.sub
@[reducible] noncomputable def LC.n := LC.not
@[reducible] noncomputable def LC.x := LC.rel 0 false
@[reducible] noncomputable def LC.X := LC.rel 0 true
@[reducible] noncomputable def LC.y := LC.rel 1 false
@[reducible] noncomputable def LC.Y := LC.rel 1 true
@[reducible] noncomputable def LC.w := LC.rel 2 false
@[reducible] noncomputable def LC.W := LC.rel 2 true
end Mine
end
section
namespace Mine
variable {x0 x1 x2 x3 x4 x5 x6 x7 x8 x9 x10 x11 : Nat} {y0 y1 y2 y3 y4 y5 y6 y7 y8 y9 y10 y11 : Int}
theorem o0 : LI [x0, x1] [] [.y (.p .A .i) .B] (.y .A .B) := lin 2 3
theorem o1 : LI [x0, x1] [] [.y (.p .A .i) .B] (.y (.p (.p .A .i) .o) .B) := lin 2 3
theorem o2 : LI [x0, x1] [] [.y (.p (.p .A (.mul 4 .i)) (.k 100)) .B] (.y (.p (.p (.p .A (.k 3)) (.mul 4 .o)) (.k 100)) .B) := lin 2 3
theorem o3 (h0 : (x0 > (2000 : Nat))) : ((Int.natAbs (31 : Int)) < x0) := (li' [x0] [] [.y (.k 2000) .A] (.y (.na (.k 31)) .A) 2 37) h0
theorem o4 : LI [] [y0] [.Y .o .P] (.n (.W .P .o)) := lin 2 3
theorem o5 : LI [x0, x1] [] [.x (.p .A .i) .B] (.x .A .B) := lin 2 3
theorem o6 : ((0 : Nat) <= (16777216 : Nat)) := li' [] [] [] (.x .o (.k 16777216)) 2 1
theorem o7 (h0 : (x1 = (x0 + (1 : Nat)))) : (x0 ≠ x1) := (li' [x0, x1] [] [.w .B (.p .A .i)] (.n (.w .A .B)) 2 10) h0
theorem o8 (h0 : (x0 < x1)) (h1 : (x0 = (x2 + (1 : Nat)))) (h2 : (x1 = x2)) : False := (li' [x0, x1, x2] [] [.y .A .B, .w .A (.p .C .i), .w .B .C] (.ff) 2 13) h0 h1 h2
theorem o9 (h0 : (x0 < x1)) (h1 : (x1 = x0)) : False := (li' [x0, x1] [] [.y .A .B, .w .B .A] (.ff) 2 3) h0 h1
theorem o10 (h0 : (x0 < (x1 + (1 : Nat)))) (h1 : (¬ (x0 = x1))) : (x0 < x1) := (li' [x0, x1] [] [.y .A (.p .B .i), .n (.w .A .B)] (.y .A .B) 2 102) h0 h1
theorem o11 (h0 : (x2 = x3)) (h1 : (x3 = x4)) (h2 : (x2 = x0)) (h3 : (x5 <= x1)) (h4 : (x4 <= x6)) (h5 : (x6 <= x5)) : (x0 <= x1) := (li' [x0, x1, x2, x3, x4, x5, x6] [] [.w .C .D, .w .D .F, .w .C .A, .x .G .B, .x .F .H, .x .H .G] (.x .A .B) 2 997) h0 h1 h2 h3 h4 h5
theorem o12 (h0 : (x1 <= x0)) : (((x0 + (1 : Nat)) - (x1 + (1 : Nat))) < ((x0 + (1 : Nat)) - x1)) := (li' [x0, x1] [] [.x .B .A] (.y (.s (.p .A .i) (.p .B .i)) (.s (.p .A .i) .B)) 2 1347912) h0
theorem o13 (h0 : (x0 <= x1)) (h1 : (¬ (x0 < x1))) : (x0 = x1) := (li' [x0, x1] [] [.x .A .B, .n (.y .A .B)] (.w .A .B) 2 166) h0 h1
theorem o14 (h0 : (x1 = (x0 + (1 : Nat)))) : (x0 <= x1) := (li' [x0, x1] [] [.w .B (.p .A .i)] (.x .A .B) 2 6) h0
theorem o16 : LI [x0, x1] [] [.y (.p .A .j) .B] (.y .A .B) := lin 2 3
theorem o17 : LI [x0, x1] [] [.y (.p .A .j) .B] (.y (.p (.p .A .i) .i) .B) := lin 2 3
theorem o18 : LI [x0, x1] [] [.y (.p (.p .A (.mul 4 .j)) (.k 100)) .B] (.y (.p (.p (.p .A (.k 3)) (.mul 4 .i)) (.k 100)) .B) := lin 2 3
theorem o19 : LI [x0, x1] [] [.y (.p .A .i) .B] (.y (.p .A .o) .B) := lin 2 3
theorem o20 : LI [x0, x1] [] [.y (.p (.p .A (.mul 4 .i)) (.k 100)) .B] (.y (.p (.p .A (.mul 4 .o)) (.k 100)) .B) := lin 2 3
theorem o21 (h0 : ((0 : Int) <= y0)) (h1 : (y0 < (2 : Int))) : (((-(1000000 : Int)) <= ((1 : Int) + y0)) /\ (((1 : Int) + y0) <= (1000000 : Int))) := (li' [] [y0] [.X .o .P, .Y .P .j] (.and (.X (.neg (.k 1000000)) (.p .i .P)) (.X (.p .i .P) (.k 1000000))) 2 53) h0 h1
theorem o22 : LI [] [y0] [.X .o .P] (.X (.neg (.k 3)) (.s .P (.k 3))) := lin 2 3
theorem o23 : LI [] [y0] [.Y .P (.k 7)] (.X (.s .P (.k 3)) (.k 3)) := lin 2 3
theorem o24 : LI [] [y0] [.X .o .P, .Y .P (.k 4)] (.or (.W .P .o) (.or (.W .P .i) (.or (.W .P .j) (.W .P (.k 3))))) := lin 2 43025784156378587613736751429
theorem o25 (h0 : (y2 < (2 : Int))) (h1 : (x1 = (1048576 : Nat))) (h2 : (x0 = (Int.toNat ((1 : Int) + y2)))) : ((x0 + (1 : Nat)) <= x1) := (li' [x0, x1] [y2] [.Y .P .j, .w .B (.k 1048576), .w .A (.tn (.p .i .P))] (.x (.p .A .i) .B) 2 43093) h0 h1 h2
theorem o26 : LI [] [y0] [.X .o .P, .Y .P .j] (.or (.w (.p (.tn (.p .i .P)) .i) .j) (.w (.p (.tn (.p .i .P)) .i) (.k 3))) := lin 2 6287949405894079947387212361
theorem o27 : LI [x0, x1] [] [.y (.p .A (.k 40)) .B] (.y .A .B) := lin 2 3
theorem o28 : LI [x0, x1, x2] [] [.y (.p .A (.k 40)) .C, .x .B (.k 39)] (.y (.p (.p .A .i) .B) .C) := lin 2 7
theorem o29 : LI [x0, x1, x2] [] [.y (.p (.p .A (.mul 4 (.k 40))) (.k 100)) .C, .x .B (.k 39)] (.y (.p (.p (.p .A (.k 3)) (.mul 4 .B)) (.k 100)) .C) := lin 5 46
theorem o30 (h0 : (x1 = (1048576 : Nat))) : ((min (24 : Nat) x0) <= x1) := (li' [x0, x1] [] [.w .B (.k 1048576)] (.x (.mn (.k 24) .A) .B) 2 906) h0
theorem o31 : LI [] [y0] [.X .o .P, .Y .P (.k 6)] (.or (.W .P .o) (.or (.W .P .i) (.or (.W .P .j) (.or (.W .P (.k 3)) (.or (.W .P (.k 4)) (.W .P (.k 5))))))) := lin 2 6848010172086585444689586267915375595814410147430619794366824143505236160621100942885506760073926272447187084413247071201912328956739258026660993087898885
theorem o32 : LI [] [y0, y1] [] (.X .P (.mx .P (.mx .i (.p (.c (.na .Q)) .i)))) := lin 2 3368601800
theorem o33 : LI [] [y0, y1] [] (.X .i (.mx .P (.mx .i (.p (.c (.na .Q)) .i)))) := lin 2 2643238284
theorem o34 : LI [] [y0, y1] [] (.Y (.c (.na .P)) (.mx .Q (.mx .i (.p (.c (.na .P)) .i)))) := lin 3 49540882668977412954837984541105940328
theorem o35 : LI [] [y0, y1] [.W (.p .P .Q) .o] (.W .P (.neg .Q)) := lin 2 46
theorem o36 : LI [] [y0, y1] [.Y (.c (.na .P)) .Q] (.y (.na .P) (.na .Q)) := lin 3 1568299319425194600
theorem o37 : LI [] [y0, y1] [.X (.mx .P .i) .Q] (.X .P .Q) := lin 2 62
theorem o38 : LI [] [y0, y1, y2] [.X (.mx .Q .i) .R, .W .R .o] (.W .P .o) := lin 2 202983
theorem o39 : LI [] [y0] [] (.W (.p .P (.mul (-1) .P)) .o) := lin 2 3
theorem o40 : LI [] [y0, y1] [.W (.p .P (.mul (-1) .Q)) .o] (.W .P .Q) := lin 2 46
theorem o41 : LI [] [y0] [] (.W (.p .P .o) .P) := lin 2 3
theorem o42 : LI [] [y0, y1] [.W .Q .o] (.W (.p .P .Q) .P) := lin 2 46
theorem o43 : LI [x0, x1] [] [.w (.p .B .i) .A] (.w .A (.p .B .i)) := lin 2 197
theorem o44 : LI [x0, x1] [] [] (.w (.p (.p .A .i) .B) (.p (.p .A .B) .i)) := lin 2 9
theorem o45 : LI [x0, x1, x2] [] [.w .A (.p .C .i)] (.x .A (.p (.p .B .C) .i)) := lin 2 21
theorem o46 : LI [] [y0, y1] [] (.W (.p (.lum .P 0) .Q) .Q) := lin 2 3
theorem o47 : LI [x0, x1] [] [] (.w (.mx .A (.p (.p .B .A) .i)) (.p (.p .B .i) .A)) := lin 2 8803
theorem o48 : LI [] [y0, y1, y2] [.W .Q (.p .P .R)] (.W .P (.s .Q .R)) := lin 2 53
theorem o49 : LI [] [y0] [] (.W (.neg .P) (.mul (-1) .P)) := lin 2 3
theorem o50 : LI [] [y0, y1] [] (.W (.s .P .Q) (.p .P (.mul (-1) .Q))) := lin 2 3
theorem o51 : LI [] [y0, y1] [] (.W (.p .P (.mul 0 .Q)) .P) := lin 2 3
theorem o52 : LI [] [y0] [] (.W .P (.p .P (.mul 0 .o))) := lin 2 3
theorem o53 : LI [x0] [] [.n (.w .A .o)] (.w .A (.p (.s .A .i) .i)) := lin 2 1698978099
theorem o54 : LI [x0, x1] [] [.n (.w .B .o), .n (.w .A .o)] (.w (.p (.s .A .i) (.s .B .i)) (.s (.p .A .B) .j)) := lin 2 1682550881293858758211342851951144945917388682904599365767835832572763408669259601364049456932034643810073715149023579914593245581422514453644789267432966
theorem o55 : LI [x0, x1, x2] [] [.w .A (.p (.s (.p .B .C) .j) .i), .n (.w .B .o), .n (.w .C .o)] (.w .A (.s (.p .B .C) .i)) := lin 2 116926044212282076493992166558073515088872235262374651249673292379239896019844689091107191022617
theorem o56 : LI [] [y0] [.X .o .P] (.and (.X (.neg .P) .o) (.X .o .P)) := lin 2 15
theorem o59 : LI [] [y0, y1, y2] [.X (.neg .R) .Q, .X .Q .R, .X .R .P] (.and (.X (.neg .P) .Q) (.X .Q .P)) := lin 2 237
theorem o60 : LI [] [y0, y1] [.X (.neg .P) .Q, .X .Q .P] (.X .o .P) := lin 3 22
theorem o61 : LI [] [y0, y1] [.X (.neg .Q) .P, .X .P .Q] (.x (.na .P) (.na .Q)) := lin 3 1956326988
theorem o62 : LI [x0] [] [.n (.w .A .o)] (.n (.W (.c .A) .o)) := lin 2 53
theorem o63 (h0 : (x0 = ((x1 + (1 : Nat)) - x2))) (h1 : (x1 <= (10 : Nat))) : (((-(1000000 : Int)) <= ((x0 : Nat) : Int)) /\ (((x0 : Nat) : Int) <= (1000000 : Int))) := (li' [x0, x1, x2] [] [.w .A (.s (.p .B .i) .C), .x .B (.k 10)] (.and (.X (.neg (.k 1000000)) (.c .A)) (.X (.c .A) (.k 1000000))) 2 303315477) h0 h1
theorem o64 : LI [x0] [] [.x .A (.k 10)] (.y .A (.k 11)) := lin 2 3
theorem o65 (h0 : (x0 <= (10 : Nat))) : (x0 < (1000000 : Nat)) := (li' [x0] [] [.x .A (.k 10)] (.y .A (.k 1000000)) 2 3) h0
theorem o66 : LI [x0, x1] [] [.y .B .A] (.n (.X (.c .A) (.c .B))) := lin 2 3
theorem o67 : LI [x0, x1] [] [.n (.y .B .A)] (.X (.c .A) (.c .B)) := lin 2 3
theorem o68 : LI [x0, x1] [] [.x .A (.k 10)] (.x (.s .A .B) (.k 10)) := lin 2 141
theorem o69 : LI [] [y0] [.n (.W .P .o)] (.x .i (.na .P)) := lin 2 1899
theorem o70 : LI [x2] [y0, y1, y3] [.x (.mul 1 (.na .Q)) .A, .X (.neg .P) .R, .w (.na .R) .A, .X .R .P] (.and (.X (.neg .P) .Q) (.X .Q .P)) := lin 3 2545646283115864033838333735121950
theorem o75 : LI [x0, x1] [] [.n (.y .A .B)] (.W (.s (.c .A) (.c .B)) (.c (.s .A .B))) := lin 2 201860
theorem o76 : LI [x0, x1, x2, x3, x4] [] [.w .D (.s (.p .F .i) .B), .w .C .D, .x .A .F, .n (.y .A .B)] (.Y (.c (.s .A .B)) (.c .C)) := lin 2 426636555911476
theorem o78 (h0 : (x0 <= (10 : Nat))) : (x0 <= (1000 : Nat)) := (li' [x0] [] [.x .A (.k 10)] (.x .A (.k 1000)) 2 3) h0
theorem o79 (h0 : (x2 <= (10 : Nat))) (h1 : (x0 <= x2)) : ((x0 - x1) <= (1000 : Nat)) := (li' [x0, x1, x2] [] [.x .C (.k 10), .x .A .C] (.x (.s .A .B) (.k 1000)) 2 1067) h0 h1
theorem o80 (h0 : (x1 <= (10 : Nat))) (h1 : (x0 <= x1)) : (x0 <= (1000 : Nat)) := (li' [x0, x1] [] [.x .B (.k 10), .x .A .B] (.x .A (.k 1000)) 2 7) h0 h1
theorem o81 (h0 : (x1 <= (10 : Nat))) (h1 : (x2 <= (10 : Nat))) (h2 : (x0 <= x2)) : (((x0 - x1) + x1) <= (1000 : Nat)) := (li' [x0, x1, x2] [] [.x .B (.k 10), .x .C (.k 10), .x .A .C] (.x (.p (.s .A .B) .B) (.k 1000)) 2 4374) h0 h1 h2
theorem o82 : LI [] [y0, y1] [] (.W (.p .P (.mul (-1) .Q)) (.s .P .Q)) := lin 2 3
theorem o83 : LI [x0, x1] [] [.n (.w .B .o), .x .B .A] (.n (.w .A .o)) := lin 2 465
theorem o84 : LI [x0, x1, x2] [] [.x .A (.mx .B (.p (.s .B .C) .C)), .x .B .A, .n (.y .B .C)] (.w .A .B) := lin 2 480337191247844231208
theorem o85 : LI [x0, x1] [] [.n (.w .B .o)] (.n (.y (.s .A .i) (.s .A .B))) := lin 2 35951176913361
theorem o86 : LI [x0, x1] [] [.n (.y .A .B)] (.w (.s (.s .A .i) (.s .A .B)) (.s .B .i)) := lin 2 14530882491543446747192033838753385312117286304867005469165467501669334392864
theorem o87 : LI [] [y0] [] (.W (.s .P .P) .o) := lin 2 3
theorem o88 : LI [x0, x1, x2] [] [.y .A .C, .x .C .B] (.x .A .B) := lin 2 7
theorem o89 : LI [x0, x1, x2] [] [.y .B .C, .x .C .A] (.w (.s .A .B) (.p (.p (.s .A .C) .i) (.s (.s .C .i) .B))) := lin 2 14615747068862532333103765340358616619959854991849113841749044201038603567173946011793990156352
theorem o90 : LI [] [y0] [.Y .o .P] (.X .i .P) := lin 2 3
theorem o91 (h0 : ((0 : Int) <= y0)) : (y0 <= (y0 * ((2 : Int) ^ (40 : Nat)))) := (li' [] [y0] [.X .o .P] (.X .P (.lum .P 1099511627776)) 1099511627776 2199023255551) h0
theorem o92 (h0 : ((((2 : Int) ^ (60 : Nat)) * y0) >= (y2 * ((2 : Int) ^ (41 : Nat))))) (h1 : ((-y2) <= y1)) (h2 : (y1 <= y2)) : (((-(((2 : Int) ^ (60 : Nat)) * y0)) <= (y1 - (0 : Int))) /\ ((y1 - (0 : Int)) <= (((2 : Int) ^ (60 : Nat)) * y0))) := (li' [] [y0, y1, y2] [.X (.lum .R 2199023255552) (.mul 1152921504606846976 .P), .X (.neg .R) .Q, .X .Q .R] (.and (.X (.neg (.mul 1152921504606846976 .P)) (.s .Q .o)) (.X (.s .Q .o) (.mul 1152921504606846976 .P))) 2199023255554 745984854619429248143210473380487838455025981740399148604151827663126832735081845490000) h0 h1 h2
theorem o93 (h0 : ((((2 : Int) ^ (60 : Nat)) * y0) >= (y3 * ((2 : Int) ^ (41 : Nat))))) (h1 : ((-(y3 * ((2 : Int) ^ (40 : Nat)))) <= y2)) (h2 : ((-y3) <= y1)) (h3 : (y2 <= (y3 * ((2 : Int) ^ (40 : Nat))))) (h4 : (y1 <= y3)) : (((-(((2 : Int) ^ (60 : Nat)) * y0)) <= (y1 - y2)) /\ ((y1 - y2) <= (((2 : Int) ^ (60 : Nat)) * y0))) := (li' [] [y0, y1, y2, y3] [.X (.lum .S 2199023255552) (.mul 1152921504606846976 .P), .X (.neg (.lum .S 1099511627776)) .R, .X (.neg .S) .Q, .X .R (.lum .S 1099511627776), .X .Q .S] (.and (.X (.neg (.mul 1152921504606846976 .P)) (.s .Q .R)) (.X (.s .Q .R) (.mul 1152921504606846976 .P))) 3298534883328 1106016780885989457092540810471889780823007821114866445062196106155706976583548957215570108572841431650118191038284434964050046308729800623630617411584) h0 h1 h2 h3 h4
theorem o94 : LI [x0, x1, x2] [] [.w .C (.s (.p .A .B) .i)] (.w (.s (.p .A .B) .j) (.s .C .i)) := lin 2 1396521830453571526930926882758706673502242
theorem o95 (h0 : (x1 = ((x2 + (1 : Nat)) - x3))) (h1 : (x0 = x1)) (h2 : (x2 <= (10 : Nat))) : (x0 <= (1000 : Nat)) := (li' [x0, x1, x2, x3] [] [.w .B (.s (.p .C .i) .D), .w .A .B, .x .C (.k 10)] (.x .A (.k 1000)) 2 151786) h0 h1 h2
theorem o96 : LI [x0, x1] [] [.y .B .A] (.w .A (.p (.s .A .i) .i)) := lin 2 210052
theorem o97 : LI [x0, x1, x2] [] [.x (.s .C .i) .B, .y .A .C] (.x .A .B) := lin 2 1934
theorem o98 : LI [x0, x1] [] [] (.w (.p (.p .A .i) .B) (.p .A (.p .B .i))) := lin 2 9
theorem o99 : LI [x0, x1] [] [] (.w (.p .A (.p .B .i)) (.p (.p .A .i) .B)) := lin 2 9
theorem o100 : LI [x0, x1, x2] [] [.y .A .C, .w .C .B] (.y .A .B) := lin 2 11
theorem o101 : LI [x0, x1, x2] [] [.y .A .C, .w .C .B] (.Y (.c .A) (.c .B)) := lin 2 11
theorem o102 : LI [x0, x1] [] [.n (.y .B .A)] (.x .A .B) := lin 2 3
theorem o103 : LI [x0, x1, x2] [] [.w .C .A, .n (.y .B .C)] (.x .A .B) := lin 2 14
theorem o104 : LI [x0, x1, x2, x3] [] [.w .C .D, .w .D .A, .n (.y .B .C)] (.x .A .B) := lin 2 58
theorem o105 : LI [x0] [] [.n (.w .A .o)] (.n (.W (.neg (.c .A)) .o)) := lin 2 83
theorem o106 : LI [x0] [] [.n (.w .A .o)] (.Y .o (.c .A)) := lin 2 29
theorem o107 : LI [] [y0] [.n (.W .P .o), .n (.Y .o .P)] (.Y .P .o) := lin 2 29
theorem o108 : LI [] [y0] [.Y (.neg .P) .o] (.Y .o .P) := lin 2 3
theorem q3r : LI [x0] [] [.w .o .A, .n (.w .A .o)] (.ff) := lin 2 101
theorem o110 : LI [] [y0, y1] [.W .Q (.neg .P), .n (.W .Q .o)] (.n (.W .P .o)) := lin 2 686
theorem o111 : LI [] [y0, y1] [.W (.neg .P) .Q, .Y .o .P, .Y .o .Q] (.ff) := lin 2 14
theorem o112 : LI [] [y0] [.X .j .P, .X .P .i] (.ff) := lin 2 3
theorem o113 : LI [] [y0] [] (.W (.p (.lum .P 1) (.mul (-1) .P)) .o) := lin 2 3
theorem o114 : LI [x0, x1, x2] [] [.x (.s .C .i) .B, .w .A .C, .n (.w .B (.s .C .i))] (.x .A .B) := lin 2 119279065652213356531746
theorem o115 : LI [x0, x1] [] [.x (.s .A .i) .B, .n (.w .B (.s .A .i))] (.x .A .B) := lin 2 14118556946058250
theorem o116 : LI [x0, x1, x2] [] [.w .B (.s (.p .C .A) .i), .n (.w .A .o), .x .B .C] (.w .A .i) := lin 2 489561176814334791944
theorem o117 : LI [x0, x1, x2] [] [.w .A (.s (.p .B .C) .i), .n (.w .C .o), .x .A .B] (.w .A .B) := lin 2 443534199506072523848
theorem o118 : LI [] [y0, y1] [.X .i .Q, .Y .P .Q] (.X (.mul 2 (.s .P .Q)) .Q) := lin 3 16
theorem o119 : LI [] [y0, y1, y2] [] (.W (.s (.s .P .Q) .R) (.s (.neg (.s .R .P)) .Q)) := lin 2 3
theorem o120 : LI [] [y0, y1] [.X .o .Q, .X .i .P] (.X (.neg .P) (.mul 2 .Q)) := lin 3 14
theorem o121 : LI [] [y0, y1] [] (.W (.s .P .Q) (.neg (.s .Q .P))) := lin 2 3
theorem o122 : LI [] [y0] [.X .i .P] (.n (.Y .P (.mul 2 .o))) := lin 2 3
theorem o123 : LI [] [y0, y1, y2] [] (.W (.s .P .Q) (.p (.s .P .R) (.s .R .Q))) := lin 2 3
theorem o124 : LI [] [y0, y1, y2] [.Y (.mul 2 .Q) .R, .X (.mul 2 .P) .R, .Y (.neg .R) (.mul 2 .Q), .X (.neg .R) (.mul 2 .P)] (.y (.na (.s .P .Q)) (.na .R)) := lin 3 5195443766844
theorem o125 : LI [] [y0, y1] [.W (.s .P .Q) .o] (.W .P .Q) := lin 2 46
theorem o126 : LI [] [y0] [] (.W .P (.neg (.s .o .P))) := lin 2 3
theorem o127 : LI [] [y0] [.Y .o .P] (.Y .o .P) := lin 2 3
theorem o128 : LI [] [y0] [.n (.W .P .o)] (.y .o (.na .P)) := lin 2 1899
theorem o129 : LI [] [y0, y1] [.x (.na .Q) (.k 652), .x (.na .P) (.na .Q)] (.X .P (.k 652)) := lin 2 160858094324850
theorem o130 : LI [] [y0] [.X .i .P] (.X (.neg (.k 326)) .P) := lin 2 3
theorem o131 : LI [] [y0] [.X .i .P] (.X (.neg (.k 652)) .P) := lin 2 3
theorem o132 : LI [x0, x1] [] [.w .o .A, .w .A .B, .n (.w .B .o)] (.ff) := lin 2 3349
theorem o133 : LI [] [y0, y1] [.X (.neg (.k 326)) .Q, .Y (.k 652) .P] (.Y (.neg .P) (.mul 2 .Q)) := lin 3 14
theorem o134 : LI [] [y0, y1] [.Y (.k 652) .Q, .X .P (.k 326)] (.Y (.mul 2 .P) .Q) := lin 3 16
theorem o135 : LI [] [y0] [.Y .o .P] (.n (.W .P .o)) := lin 2 3
theorem o136 : LI [] [y0] [.Y .o .P] (.x .i (.na .P)) := lin 2 29
theorem o137 (h0 : (((1 : Nat) * (Int.natAbs y0)) <= x1)) (h1 : ((-(326 : Int)) <= y2)) (h2 : ((Int.natAbs y2) = x1)) (h3 : (y2 <= (326 : Int))) : (((-((2 : Int) ^ (40 : Nat))) <= y0) /\ (y0 <= ((2 : Int) ^ (40 : Nat)))) := (li' [x1] [y0, y2] [.x (.mul 1 (.na .P)) .A, .X (.neg (.k 326)) .Q, .w (.na .Q) .A, .X .Q (.k 326)] (.and (.X (.neg (.k 1099511627776)) .P) (.X .P (.k 1099511627776))) 2 1192809937243755365505) h0 h1 h2 h3
theorem o138 : LI [x0, x1] [] [.w .A .B, .x .B (.k 10)] (.x .A (.k 10)) := lin 2 13
theorem z7f : LI [] [y0] [.X .j .P] (.Y .o .P) := lin 2 3
theorem o140 : LI [] [y0, y1] [] (.W .P (.p (.s .P .Q) .Q)) := lin 2 3
theorem y8a : LI [] [y0] [.X .i .P] (.Y .o .P) := lin 2 3
theorem o142 : LI [x1, x2, x3] [y0] [.y .A .B, .w .B .C, .x .C .A] (.W .P .i) := lin 2 2827
theorem o143 : LI [] [y0] [.X .j .P] (.X .i .P) := lin 2 3
theorem q2o : LI [x0, x1, x2] [] [.y .A .C, .w .B .C] (.y .A .B) := lin 2 13
theorem o145 : LI [x0, x1, x2] [] [.w .A .C, .x .B .C, .n (.y .B .C)] (.w .A .B) := lin 2 6422
theorem o146 : LI [x0, x1] [] [.x .B .A, .n (.y .B .A)] (.w .A .B) := lin 2 197
theorem o147 : LI [x0, x1, x2] [] [.y .C .B, .w .C .A] (.y .A .B) := lin 2 13
theorem o148 : LI [x0, x1, x2] [] [.y .A .C, .y .C .B] (.y .A .B) := lin 2 7
theorem o149 : LI [] [y0] [.X .i .P] (.X (.neg (.mul 212552 (.k 652))) .P) := lin 2 3
theorem o150 : LI [] [y0, y1] [.X .Q (.mul 212552 (.k 652)), .X .P .Q] (.X .P (.mul 212552 (.k 652))) := lin 2 7
theorem o151 : LI [] [y0] [.X .j .P] (.X (.neg (.k 53)) .P) := lin 2 3
theorem o152 (h0 : (y0 <= ((((326 : Int) * (652 : Int)) * (652 : Int)) * (53 : Int)))) : (y0 <= ((2 : Int) ^ (40 : Nat))) := (li' [] [y0] [.X .P (.mul 138583904 (.k 53))] (.X .P (.k 1099511627776)) 2 3) h0
theorem o153 : LI [] [y0, y1] [] (.W .P (.s .Q (.s .Q .P))) := lin 2 3
theorem o154 : LI [x0, x1, x2] [] [.w .C .B, .w .A .C] (.w .A .B) := lin 2 5402
theorem o155 : LI [x0, x1] [] [.w .B .A] (.x .A .B) := lin 2 6
theorem o156 : LI [x0, x1] [] [.y .A .B] (.x .A .B) := lin 2 3
theorem o157 : LI [] [y0, y1] [.Y (.k 652) .Q, .W .P .Q] (.Y (.k 652) .P) := lin 2 13
theorem o158 (h0 : (((2 : Int) ^ (40 : Nat)) <= y1)) (h1 : (y0 <= ((2 : Int) ^ (40 : Nat)))) : (y0 <= y1) := (li' [] [y0, y1] [.X (.k 1099511627776) .Q, .X .P (.k 1099511627776)] (.X .P .Q) 2 7) h0 h1
theorem o159 (h0 : ((-((2 : Int) ^ (30 : Nat))) <= y0)) (h1 : (y0 <= ((2 : Int) ^ (30 : Nat)))) : (((-((2 : Int) ^ (60 : Nat))) <= y0) /\ (y0 <= ((2 : Int) ^ (60 : Nat)))) := (li' [] [y0] [.X (.neg (.k 1073741824)) .P, .X .P (.k 1073741824)] (.and (.X (.neg (.k 1152921504606846976)) .P) (.X .P (.k 1152921504606846976))) 2 53) h0 h1
theorem o160 (h0 : (y0 <= (53 : Int))) : (y0 <= (1000 : Int)) := (li' [] [y0] [.X .P (.k 53)] (.X .P (.k 1000)) 2 3) h0
theorem o161 : LI [x0] [] [.x .A (.k 10)] (.x .A (.k 100)) := lin 2 3
theorem o162 : LI [x0, x1, x2] [] [.x .j .B, .w .A .C, .x .B .C] (.n (.W (.c .A) .i)) := lin 2 29
theorem o163 : LI [x0, x1] [] [.y .A .B] (.Y (.c .A) (.c .B)) := lin 2 3
theorem q2n : LI [] [y0] [.X .j .P] (.X .o .P) := lin 2 3
theorem o165 (h0 : (((2 : Int) ^ (40 : Nat)) <= y1)) (h1 : (y0 <= (53 : Int))) : (y0 <= y1) := (li' [] [y0, y1] [.X (.k 1099511627776) .Q, .X .P (.k 53)] (.X .P .Q) 2 7) h0 h1
theorem o166 : LI [x0, x1] [] [.w .A .B] (.n (.Y (.c .A) (.c .B))) := lin 2 6
theorem o167 (h0 : ((1 : Int) <= y0)) : ((-(1000000000 : Int)) <= y0) := (li' [] [y0] [.X .i .P] (.X (.neg (.k 1000000000)) .P) 2 3) h0
theorem o168 (h0 : (y1 <= (((326 : Int) * (652 : Int)) * (652 : Int)))) (h1 : (y0 <= y1)) : (y0 <= (1000000000 : Int)) := (li' [] [y0, y1] [.X .Q (.mul 212552 (.k 652)), .X .P .Q] (.X .P (.k 1000000000)) 2 7) h0 h1
theorem o169 (h0 : ((2 : Int) <= y0)) : ((-(1000000000 : Int)) <= y0) := (li' [] [y0] [.X .j .P] (.X (.neg (.k 1000000000)) .P) 2 3) h0
theorem o170 (h0 : (y0 <= (53 : Int))) : (y0 <= (1000000000 : Int)) := (li' [] [y0] [.X .P (.k 53)] (.X .P (.k 1000000000)) 2 3) h0
theorem o171 : LI [x0, x1] [] [.y .B .A] (.n (.Y (.c .A) (.c .B))) := lin 2 3
theorem o172 : LI [x0, x1] [] [.y .B .A] (.n (.W (.c .A) (.c .B))) := lin 2 3
theorem o173 (h0 : (((2 : Int) ^ (30 : Nat)) <= y0)) (h1 : ((-((2 : Int) ^ (30 : Nat))) <= y1)) : ((-y0) <= y1) := (li' [] [y0, y1] [.X (.k 1073741824) .P, .X (.neg (.k 1073741824)) .Q] (.X (.neg .P) .Q) 2 7) h0 h1
theorem o174 (h0 : (((2 : Int) ^ (30 : Nat)) <= y1)) (h1 : (y0 <= ((2 : Int) ^ (30 : Nat)))) : (y0 <= y1) := (li' [] [y0, y1] [.X (.k 1073741824) .Q, .X .P (.k 1073741824)] (.X .P .Q) 2 7) h0 h1
theorem o175 : LI [x0] [] [.y .A (.k 6)] (.w (.p (.s (.k 100) .A) .A) (.k 100)) := lin 2 13124
theorem o176 : (((100 : Nat) - x0) < (1000000 : Nat)) := li' [x0] [] [] (.y (.s (.k 100) .A) (.k 1000000)) 2 22
theorem o177 : LI [x0, x1] [] [.y .B (.k 6), .x .A (.p .B (.k 8))] (.y (.p .A .i) (.k 16)) := lin 2 7
theorem o178 : LI [x0] [] [.x .A (.k 53)] (.X (.c .A) (.k 53)) := lin 2 3
theorem o179 : LI [x0] [] [.X .j (.c .A)] (.n (.W (.c .A) .o)) := lin 2 3
theorem o180 : LI [x0] [] [.n (.W (.c .A) .o)] (.n (.w .A .o)) := lin 2 53
theorem o181 : LI [x0, x1] [] [.w (.p .A .B) (.k 100), .y .B (.k 16)] (.y (.s .A .i) .A) := lin 2 1808
theorem o182 : LI [x0, x1] [] [.w (.p .A .B) (.k 100), .y .B (.k 16)] (.w (.p (.s .A .i) (.p .B .i)) (.k 100)) := lin 2 29591698
theorem o183 (h0 : (x0 <= x1)) : (x0 <= (x1 + (1 : Nat))) := (li' [x0, x1] [] [.x .A .B] (.x .A (.p .B .i)) 2 3) h0
theorem o184 (h0 : (((2 : Int) ^ (40 : Nat)) <= y0)) : ((-y0) <= ((x1 : Nat) : Int)) := (li' [x1] [y0] [.X (.k 1099511627776) .P] (.X (.neg .P) (.c .A)) 2 7) h0
theorem o185 (h0 : (((2 : Int) ^ (40 : Nat)) <= y1)) (h1 : (x0 <= (Int.natAbs y1))) : (((x0 : Nat) : Int) <= y1) := (li' [x0] [y1] [.X (.k 1099511627776) .P, .x .A (.na .P)] (.X (.c .A) .P) 2 108) h0 h1
theorem o186 (h0 : (((2 : Int) ^ (40 : Nat)) <= y1)) (h1 : (x2 <= (Int.natAbs y1))) (h2 : (x0 <= x2)) : (((x0 : Nat) : Int) <= y1) := (li' [x0, x2] [y1] [.X (.k 1099511627776) .P, .x .B (.na .P), .x .A .B] (.X (.c .A) .P) 2 412) h0 h1 h2
theorem o187 : LI [x0] [] [.n (.w .A .o)] (.n (.W (.c .A) .o)) := lin 2 53
theorem o190 : LI [x0, x1, x2] [] [.w .C (.s (.p .A .i) .B)] (.x (.s (.p .A .i) .B) .C) := lin 2 336925972
theorem o191 : LI [x0, x1, x2, x3] [] [.w .A (.s (.p .C .i) .D), .n (.w .D .o), .x .C (.k 10)] (.x (.s .A .B) (.k 10)) := lin 2 9714057737451548677636232
theorem o195 : LI [x0, x1, x2] [] [.w .C (.s .A .B), .n (.y .A .B)] (.W (.s (.c .A) (.c .B)) (.c .C)) := lin 2 354030610
theorem o197 (h0 : ((((x1 : Nat) : Int) - ((x2 : Nat) : Int)) = ((x0 : Nat) : Int))) (h1 : (x3 <= (10 : Nat))) (h2 : (x1 <= x3)) : (x0 <= (1000 : Nat)) := (li' [x0, x1, x2, x3] [] [.W (.s (.c .B) (.c .C)) (.c .A), .x .D (.k 10), .x .B .D] (.x .A (.k 1000)) 2 94) h0 h1 h2
theorem o198 : LI [x0, x1, x2, x3] [] [.W (.s (.c .B) (.c .C)) (.c .A), .x .D (.k 10), .x .B .D] (.x .A (.k 999)) := lin 2 94
theorem o200 (h0 : (((x1 + (1 : Nat)) - x2) <= x3)) (h1 : (x4 = ((x5 + (1 : Nat)) - x2))) (h2 : (x0 = (x1 - x2))) (h3 : (x5 <= (10 : Nat))) (h4 : (x3 <= x4)) : (x0 <= (1000 : Nat)) := (li' [x0, x1, x2, x3, x4, x5] [] [.x (.s (.p .B .i) .C) .D, .w .F (.s (.p .G .i) .C), .w .A (.s .B .C), .x .G (.k 10), .x .D .F] (.x .A (.k 1000)) 2 723100197078963436063985806337623738186) h0 h1 h2 h3 h4
theorem o201 (h0 : (((x0 + (1 : Nat)) - x1) <= x2)) (h1 : (x3 = ((x4 + (1 : Nat)) - x1))) (h2 : (x4 <= (10 : Nat))) (h3 : (x1 <= (10 : Nat))) (h4 : (x2 <= x3)) : (x0 <= (1000 : Nat)) := (li' [x0, x1, x2, x3, x4] [] [.x (.s (.p .A .i) .B) .C, .w .D (.s (.p .F .i) .B), .x .F (.k 10), .x .B (.k 10), .x .C .D] (.x .A (.k 1000)) 2 1411851589157290) h0 h1 h2 h3 h4
theorem o202 (h0 : ((((x2 : Nat) : Int) - ((x1 : Nat) : Int)) = ((x0 : Nat) : Int))) (h1 : (x3 <= (10 : Nat))) (h2 : (x2 <= x3)) : ((x0 + x1) <= (1000 : Nat)) := (li' [x0, x1, x2, x3] [] [.W (.s (.c .C) (.c .B)) (.c .A), .x .D (.k 10), .x .C .D] (.x (.p .A .B) (.k 1000)) 2 30) h0 h1 h2
theorem o203 : LI [x0, x1, x2] [] [.x (.s (.p .B .i) .C) .A, .n (.y .B .C)] (.W (.s (.c .A) .i) (.c (.s .A .i))) := lin 2 361700864510267408
theorem o204 : LI [] [y0] [] (.W (.p .P (.mul (-1) .o)) (.s .P .o)) := lin 2 3
theorem o205 : LI [x0, x1, x2] [] [.w .B (.s .A .C), .n (.w .C .o)] (.n (.y (.s .A .i) .B)) := lin 2 314496567172970090568
theorem o206 : LI [x0, x1, x2] [] [.W (.s (.c .A) (.c .C)) (.c .B)] (.w (.s (.s .A .i) .B) (.s .C .i)) := lin 2 1396526824240821623178020167854437926191650
theorem o207 : LI [x0, x1] [] [.W (.s (.c .B) .i) (.c (.s .B .i)), .x .B .A] (.w (.s .A (.s .B .i)) (.p (.s .A .B) .i)) := lin 2 91870410147418769033877001759061342964656974530423316902364249469776955479933325040356060954752
theorem o208 : ((y0 * ((2 : Int) ^ (61 : Nat))) = ((y0 * ((2 : Int) ^ (60 : Nat))) + (y0 * ((2 : Int) ^ (60 : Nat))))) := li' [] [y0] [] (.W (.lum .P 2305843009213693952) (.p (.lum .P 1152921504606846976) (.lum .P 1152921504606846976))) 2 3
theorem o209 (h0 : ((0 : Int) <= y0)) : (y0 <= (y0 * ((2 : Int) ^ (60 : Nat)))) := (li' [] [y0] [.X .o .P] (.X .P (.lum .P 1152921504606846976)) 1152921504606846976 2305843009213693951) h0
theorem o210 : LI [x0, x1, x2, x3] [] [.x (.s (.p .D .i) .B) .C, .y .A .D] (.x (.s (.p .A .i) .B) (.s .C .i)) := lin 2 37834286746205140604966
theorem o211 : LI [x0, x1] [] [.x .A .B] (.x (.s .A .i) .B) := lin 2 389
theorem o212 : LI [x0, x1, x2, x3, x4, x5, x6, x7] [] [.x (.s (.p .B .i) .C) .D, .w .F (.s (.p .G .i) .C), .w .H (.s .B .C), .n (.w .C .o), .x .G (.k 10), .x .I (.k 10), .x .A (.mx .I (.p .H (.p .o .i))), .x .D .F] (.x .A (.k 10)) := lin 2 885262298690735474295716068977776021208427220668147469824501549830972589786573852442171920812042730095128666117439699656091958971806392812166085930649715103939168036567034140857106792808159775490389163776699598205113344
theorem o213 (h0 : ((-(y0 * ((2 : Int) ^ (60 : Nat)))) <= y1)) (h1 : (y1 <= (y0 * ((2 : Int) ^ (60 : Nat))))) : (((-((y0 * ((2 : Int) ^ (60 : Nat))) + (y0 * ((2 : Int) ^ (60 : Nat))))) <= (y1 - (0 : Int))) /\ ((y1 - (0 : Int)) <= ((y0 * ((2 : Int) ^ (60 : Nat))) + (y0 * ((2 : Int) ^ (60 : Nat)))))) := (li' [] [y0, y1] [.X (.neg (.lum .P 1152921504606846976)) .Q, .X .Q (.lum .P 1152921504606846976)] (.and (.X (.neg (.p (.lum .P 1152921504606846976) (.lum .P 1152921504606846976))) (.s .Q .o)) (.X (.s .Q .o) (.p (.lum .P 1152921504606846976) (.lum .P 1152921504606846976)))) 4 2919) h0 h1
theorem o214 (h0 : ((-(y0 * ((2 : Int) ^ (60 : Nat)))) <= y2)) (h1 : ((-(y0 * ((2 : Int) ^ (60 : Nat)))) <= y1)) (h2 : (y2 <= (y0 * ((2 : Int) ^ (60 : Nat))))) (h3 : (y1 <= (y0 * ((2 : Int) ^ (60 : Nat))))) : (((-((y0 * ((2 : Int) ^ (60 : Nat))) + (y0 * ((2 : Int) ^ (60 : Nat))))) <= (y1 - y2)) /\ ((y1 - y2) <= ((y0 * ((2 : Int) ^ (60 : Nat))) + (y0 * ((2 : Int) ^ (60 : Nat)))))) := (li' [] [y0, y1, y2] [.X (.neg (.lum .P 1152921504606846976)) .R, .X (.neg (.lum .P 1152921504606846976)) .Q, .X .R (.lum .P 1152921504606846976), .X .Q (.lum .P 1152921504606846976)] (.and (.X (.neg (.p (.lum .P 1152921504606846976) (.lum .P 1152921504606846976))) (.s .Q .R)) (.X (.s .Q .R) (.p (.lum .P 1152921504606846976) (.lum .P 1152921504606846976)))) 2 822) h0 h1 h2 h3
theorem o215 : LI [] [y0, y1] [.X (.neg .P) .Q, .X .Q .P] (.and (.X (.neg .P) (.neg .Q)) (.X (.neg .Q) .P)) := lin 2 46
theorem o216 : LI [] [y0] [.X .o .P] (.X .o .P) := lin 2 3
theorem o217 (h0 : ((-(y0 * ((2 : Int) ^ (60 : Nat)))) <= y1)) (h1 : ((-y0) <= y2)) (h2 : (y1 <= (y0 * ((2 : Int) ^ (60 : Nat))))) (h3 : (y2 <= y0)) : (((-((y0 * ((2 : Int) ^ (60 : Nat))) + (y0 * ((2 : Int) ^ (60 : Nat))))) <= (y1 - y2)) /\ ((y1 - y2) <= ((y0 * ((2 : Int) ^ (60 : Nat))) + (y0 * ((2 : Int) ^ (60 : Nat)))))) := (li' [] [y0, y1, y2] [.X (.neg (.lum .P 1152921504606846976)) .Q, .X (.neg .P) .R, .X .Q (.lum .P 1152921504606846976), .X .R .P] (.and (.X (.neg (.p (.lum .P 1152921504606846976) (.lum .P 1152921504606846976))) (.s .Q .R)) (.X (.s .Q .R) (.p (.lum .P 1152921504606846976) (.lum .P 1152921504606846976)))) 3458764513820540928 163349829884569168804799447962066249891237750617078996033349803319363021034174954473668859082929781691965374469475489004599202031074250365562712313330981575010004133080137076525670334466) h0 h1 h2 h3
theorem o218 (h0 : ((-((2 : Int) ^ (60 : Nat))) <= y0)) (h1 : (y0 <= ((2 : Int) ^ (60 : Nat)))) : ((Int.natAbs y0) < ((2 : Nat) ^ (64 : Nat))) := (li' [] [y0] [.X (.neg (.k 1152921504606846976)) .P, .X .P (.k 1152921504606846976)] (.y (.na .P) (.k 18446744073709551616)) 2 154) h0 h1
theorem o219 : LI [x0, x1, x2, x3, x4] [] [.y .B .C, .w .D (.s (.p .F .i) .C), .x .F (.k 10), .x .A .D] (.y .A (.k 11)) := lin 2 410741
theorem o220 (h0 : (x1 = ((x2 + (1 : Nat)) - x3))) (h1 : (x2 <= (10 : Nat))) (h2 : (x0 <= x1)) : (((x0 : Nat) : Int) <= (1000 : Int)) := (li' [x0, x1, x2, x3] [] [.w .B (.s (.p .C .i) .D), .x .C (.k 10), .x .A .B] (.X (.c .A) (.k 1000)) 2 51322) h0 h1 h2
theorem o221 : LI [x0, x1] [] [.x .A .B] (.w (.p .A (.s .B .A)) .B) := lin 2 170116
theorem o222 : LI [] [y0, y1] [] (.W (.p .P .Q) (.p .Q .P)) := lin 2 3
theorem o223 : LI [] [y0, y1, y2] [.X (.neg .Q) .R, .X .o .P, .X .R .Q] (.and (.X (.neg (.p .P .Q)) .R) (.X .R (.p .P .Q))) := lin 2 235
theorem o224 : LI [] [y0, y1, y2, y3] [.X (.neg .P) .S, .X (.neg .Q) .R, .X .S .P, .X .R .Q] (.and (.X (.neg (.p .P .Q)) (.p .R .S)) (.X (.p .R .S) (.p .P .Q))) := lin 2 915
theorem o225 : LI [] [y0, y1] [.X (.neg (.mul 3 (.k 3))) .P, .X .Q (.mul 3 (.k 3))] (.X (.neg (.k 18)) (.s .P .Q)) := lin 2 7
theorem o226 : LI [] [y0, y1] [.X (.neg (.mul 3 (.k 3))) .Q, .X .P (.mul 3 (.k 3))] (.X (.s .P .Q) (.k 18)) := lin 2 7
theorem o227 : LI [] [y0] [.X (.neg (.mul 3 (.k 3))) .P] (.X (.neg (.k 9)) .P) := lin 2 3
theorem o228 : LI [] [y0] [.X .P (.mul 3 (.k 3))] (.X .P (.k 9)) := lin 2 3
theorem o229 : LI [] [y0, y1] [.X (.neg (.mul 3 (.k 18))) .P, .X (.neg (.mul 3 (.k 9))) .Q, .X .P (.mul 3 (.k 18)), .X .Q (.mul 3 (.k 9))] (.and (.X (.neg (.k 648)) (.p .P .Q)) (.X (.p .P .Q) (.k 648))) := lin 2 915
theorem o230 : LI [] [y0, y1, y2] [.X (.neg (.mul 3 (.k 9))) .Q, .X (.neg (.mul 3 (.k 9))) .R, .X (.neg (.mul 3 (.k 9))) .P, .X .P (.mul 3 (.k 9)), .X .Q (.mul 3 (.k 9)), .X .R (.mul 3 (.k 9))] (.and (.X (.neg (.k 648)) (.p (.s .P .Q) .R)) (.X (.p (.s .P .Q) .R) (.k 648))) := lin 2 13526
theorem o231 : LI [] [y0, y1] [.X (.neg (.mul 18 (.k 18))) .Q, .X (.neg (.mul 18 (.k 18))) .P, .X .Q (.mul 18 (.k 18)), .X .P (.mul 18 (.k 18))] (.and (.X (.neg (.k 648)) (.p .P .Q)) (.X (.p .P .Q) (.k 648))) := lin 2 915
theorem o232 : LI [x0] [] [.x .j .A] (.Y .i (.c .A)) := lin 2 3
theorem o233 (h0 : (x0 <= (1 : Nat))) : (((x0 : Nat) : Int) <= (1000 : Int)) := (li' [x0] [] [.x .A .i] (.X (.c .A) (.k 1000)) 2 3) h0
theorem o234 (h0 : ((-((2 : Int) ^ (60 : Nat))) <= y0)) (h1 : (y0 <= ((2 : Int) ^ (60 : Nat)))) : ((Int.natAbs y0) < (18446744073709551616 : Nat)) := (li' [] [y0] [.X (.neg (.k 1152921504606846976)) .P, .X .P (.k 1152921504606846976)] (.y (.na .P) (.k 18446744073709551616)) 2 154) h0 h1
theorem o235 : LI [x0] [] [.x .A .i] (.or (.w .A .o) (.w .A .i)) := lin 2 22106
theorem o236 (h0 : ((-((2 : Int) ^ (60 : Nat))) <= y0)) (h1 : (y0 <= ((2 : Int) ^ (60 : Nat)))) : (((-((2 : Int) ^ (60 : Nat))) <= y0) /\ (y0 <= ((2 : Int) ^ (60 : Nat)))) := (li' [] [y0] [.X (.neg (.k 1152921504606846976)) .P, .X .P (.k 1152921504606846976)] (.and (.X (.neg (.k 1152921504606846976)) .P) (.X .P (.k 1152921504606846976))) 2 53) h0 h1
theorem o239 : LI [x0, x1, x2] [] [.w .A (.p .B .C)] (.W (.s (.c .A) (.c .B)) (.c .C)) := lin 2 326
theorem o240 : LI [x0, x1] [] [.x (.k 200) .B, .x .A (.k 100)] (.y .A .B) := lin 2 7
theorem o241 : LI [x0] [] [.x .j .A] (.x .j .A) := lin 2 3
theorem o242 : LI [x0, x1] [] [.x .B .A] (.w (.s (.p .A .i) .B) (.p (.s .A .B) .i)) := lin 2 13403572703752
theorem o243 : LI [x0, x1] [] [.x .B (.k 10), .x .A .B] (.x .A (.k 10)) := lin 2 7
theorem o244 : LI [x0] [] [.x .j .A] (.y .o .A) := lin 2 3
theorem o245 : LI [x0, x1, x2] [] [.w .B (.p .A .C), .x .B (.k 10)] (.x .A (.k 10)) := lin 2 30
theorem o246 : LI [x0, x1] [] [.w .o (.s (.p .A .B) .i), .x .j .A] (.ff) := lin 2 1628
theorem o247 : LI [x0, x1, x2, x3, x4] [] [.x .j .F, .w .A (.s (.p .F .C) .i), .w .B (.s (.p .F .D) .i)] (.w (.s (.p .A .i) .B) (.s (.p .C .i) .D)) := lin 2 16005546936035850093339708608640005715712255962212685428485400605580926149235639009463362366058358287906184673762925028388995387852016299672104
theorem o248 : LI [x0, x1, x2] [] [.x .j .B, .x .j .C, .w .A (.s (.p .C .B) .i)] (.x .j .A) := lin 2 3635
theorem q3q : LI [x0, x1, x2] [] [.w .A (.s (.p .B .C) .i), .x .C (.k 3), .x .B (.k 3)] (.x .A (.k 10)) := lin 2 17466
theorem o250 : LI [x0, x1, x2] [] [.x .j .B, .w .A (.s (.p .B .C) .i)] (.y .o .A) := lin 2 9017
theorem o251 : LI [x0, x1] [] [.or (.w .A .B) (.w .A (.p .B .i))] (.x (.s .A .B) .i) := lin 2 1610249
theorem o252 : LI [x0, x1, x2, x3, x4] [] [.x .j .F, .or (.w .C .D) (.w .C (.p .D .i)), .w .A (.s (.p .F .C) .i), .w .B (.s (.p .F .D) .i)] (.w .A (.p .B (.s .C .D))) := lin 2 105568457988829858367145756857040454186185721698806051759052014615431291581250709606440228925955395276078272409239302358440103974017235787450435222111392
theorem o253 : LI [x0, x1, x2] [] [.x .j .C, .w .B (.s (.p .A .C) .i)] (.y .A .B) := lin 2 6937
theorem o254 : LI [x0, x1, x2] [] [.x .j .C, .w .B (.s (.p .A .C) .i)] (.x .A .B) := lin 2 6937
theorem o255 (h0 : ((-((3 : Int) * (648 : Int))) <= y0)) (h1 : (y0 <= ((3 : Int) * (648 : Int)))) : (((-((2 : Int) ^ (20 : Nat))) <= (-y0)) /\ ((-y0) <= ((2 : Int) ^ (20 : Nat)))) := (li' [] [y0] [.X (.neg (.mul 3 (.k 648))) .P, .X .P (.mul 3 (.k 648))] (.and (.X (.neg (.k 1048576)) (.neg .P)) (.X (.neg .P) (.k 1048576))) 2 46) h0 h1
theorem o256 : LI [] [y0] [.W (.neg .P) .o] (.W .P .o) := lin 2 53
theorem o257 (h0 : ((-(((3 : Int) * (3 : Int)) * (648 : Int))) <= y0)) (h1 : (y0 <= (((3 : Int) * (3 : Int)) * (648 : Int)))) : (((-((2 : Int) ^ (20 : Nat))) <= y0) /\ (y0 <= ((2 : Int) ^ (20 : Nat)))) := (li' [] [y0] [.X (.neg (.mul 9 (.k 648))) .P, .X .P (.mul 9 (.k 648))] (.and (.X (.neg (.k 1048576)) .P) (.X .P (.k 1048576))) 2 53) h0 h1
theorem o258 : LI [] [y0, y1, y2] [.X (.neg (.mul 3 (.k 3))) .Q, .X (.neg (.mul 3 (.k 3))) .R, .W .P (.s .R .Q), .X .Q (.mul 3 (.k 3)), .X .R (.mul 3 (.k 3))] (.and (.X (.neg (.k 18)) .P) (.X .P (.k 18))) := lin 2 13018
theorem o259 (h0 : ((-((3 : Int) * (18 : Int))) <= y0)) (h1 : (y0 <= ((3 : Int) * (18 : Int)))) : (((-((2 : Int) ^ (20 : Nat))) <= y0) /\ (y0 <= ((2 : Int) ^ (20 : Nat)))) := (li' [] [y0] [.X (.neg (.mul 3 (.k 18))) .P, .X .P (.mul 3 (.k 18))] (.and (.X (.neg (.k 1048576)) .P) (.X .P (.k 1048576))) 2 53) h0 h1
theorem o260 : LI [x0, x1] [] [.w .A (.s (.p .B (.p (.p .o .i) .i)) .i)] (.w .A (.p .B .i)) := lin 2 6869644
theorem o261 : LI [x0, x1, x2] [] [.w .B (.s (.p .C (.p (.p (.p .o .i) .i) .i)) .i), .w .A (.s (.p .C (.p (.p (.p .o .i) .i) .i)) .i)] (.w .A (.p .B .o)) := lin 2 99282778265845713948770
theorem o262 : LI [x0, x1] [] [.w .A (.s (.p .B (.p (.p (.p .o .i) .i) .i)) .i), .x .B (.k 3)] (.x .A (.k 10)) := lin 2 2330
theorem o263 : LI [x0, x1, x2] [] [.w .B (.s (.p .C (.p (.p (.p .o .i) .i) .i)) .i), .w .A (.p .C .i)] (.y .A .B) := lin 2 23084
theorem o264 : LI [x0, x1, x2] [] [.w .B (.s (.p .C (.p (.p (.p .o .i) .i) .i)) .i), .w .A (.s (.p .C (.p (.p (.p .o .i) .i) .i)) .i)] (.w (.s (.p .A .i) .B) .i) := lin 2 4585508710189313016930905750271333899348226099945634
theorem o265 : LI [x0, x1] [] [.w .A (.s (.p .B (.p (.p (.p .o .i) .i) .i)) .i)] (.x .j .A) := lin 2 1116
theorem o266 : LI [x0, x1, x2] [] [.w .A (.s (.p .C (.p (.p (.p .o .i) .i) .i)) .i), .w .B (.p .C .i)] (.w (.s (.p .A .i) .B) .j) := lin 2 53178740923680939919436
theorem o267 : LI [x0, x1] [] [.x .j .B, .w .A (.p .B .i)] (.x .j .A) := lin 2 13
theorem o268 : LI [x0, x1] [] [.w .A (.p .B .i), .x .B (.k 3)] (.x .A (.k 10)) := lin 2 13
theorem o269 : LI [x0, x1] [] [.w .A (.p .B .i)] (.y .o .A) := lin 2 14
theorem o270 (h0 : ((-((((3 : Int) * (3 : Int)) * (3 : Int)) * (648 : Int))) <= y1)) (h1 : (y0 = y1)) (h2 : (y1 <= ((((3 : Int) * (3 : Int)) * (3 : Int)) * (648 : Int)))) : (((-((2 : Int) ^ (20 : Nat))) <= y0) /\ (y0 <= ((2 : Int) ^ (20 : Nat)))) := (li' [] [y0, y1] [.X (.neg (.mul 27 (.k 648))) .Q, .W .P .Q, .X .Q (.mul 27 (.k 648))] (.and (.X (.neg (.k 1048576)) .P) (.X .P (.k 1048576))) 2 853) h0 h1 h2
theorem o271 : LI [x0, x1] [] [.w .B (.p .A .i)] (.y .A .B) := lin 2 6
theorem o272 : LI [x0, x1, x2] [] [.w .A (.s (.p .C (.p (.p (.p .o .i) .i) .i)) .i), .w .B (.p .C .i)] (.w .A (.p .B .i)) := lin 2 15312643116
theorem o273 (h0 : ((-((3 : Int) * (3 : Int))) <= y0)) : ((-((2 : Int) ^ (60 : Nat))) <= y0) := (li' [] [y0] [.X (.neg (.mul 3 (.k 3))) .P] (.X (.neg (.k 1152921504606846976)) .P) 2 3) h0
theorem o274 (h0 : (y0 <= ((3 : Int) * (3 : Int)))) : (y0 <= ((2 : Int) ^ (60 : Nat))) := (li' [] [y0] [.X .P (.mul 3 (.k 3))] (.X .P (.k 1152921504606846976)) 2 3) h0
theorem o275 : LI [x0, x1, x2, x3, x4] [] [.w .B (.s (.p .C .D) .i), .w .A (.s (.p .C .F) .i), .x .D .F] (.n (.Y (.c .A) (.c .B))) := lin 2 89071852273890
theorem o276 : LI [x0, x1, x2, x3, x4] [] [.x .j .C, .w .A (.s (.p .C .D) .i), .w .B (.s (.p .C .F) .i), .n (.x .F .D)] (.Y (.c .A) (.c .B)) := lin 2 2326791287243204
theorem o277 : LI [x0, x1] [] [.n (.x .B .A)] (.x .A .B) := lin 2 3
theorem o278 : LI [x0, x1, x2] [] [.y .C (.p .B .i), .y .A .C] (.y .A .B) := lin 2 7
theorem o279 : LI [x0, x1] [] [] (.w (.p (.p .A (.p .B .i)) .i) (.p (.p (.p .A .i) .B) .i)) := lin 2 9
theorem o281 : LI [x0] [] [] (.y .o (.p .A .j)) := lin 2 3
theorem o282 : LI [x0] [] [] (.y .o (.p .A .i)) := lin 2 3
theorem o283 : LI [x0, x1] [] [.y .B .A] (.n (.y .A .B)) := lin 2 3
theorem o284 : LI [x0] [] [.n (.w .A .o)] (.y .o .A) := lin 2 29
theorem o285 : LI [x0, x1, x2, x3] [] [.x (.lum .C 1) .D, .w (.p .D .A) .B, .y .A .C] (.x (.mul 2 .A) .B) := lin 2 27
theorem o286 : LI [x0] [] [.n (.w .A .o)] (.n (.w (.mul 2 .A) .o)) := lin 3 416
theorem o287 : LI [x0] [] [] (.x .j (.p (.mul 2 .A) .j)) := lin 3 7
theorem o288 : LI [x0] [] [] (.x .i (.p (.mul 2 .A) .j)) := lin 3 7
theorem o289 : LI [x0, x1] [] [.y .A (.mul 2 .B)] (.x (.p .A .j) (.p (.mul 2 .B) .j)) := lin 2 3
theorem o290 : LI [x0, x1] [] [.y .A (.mul 2 .B)] (.x (.p .A .i) (.p (.mul 2 .B) .j)) := lin 2 3
theorem o291 : LI [] [y0] [.X .P .o] (.X .o (.neg .P)) := lin 2 3
theorem o292 : LI [] [y0, y1] [.X .o (.neg .Q), .X .o .P] (.X .o (.s .P .Q)) := lin 2 7
theorem o293 : LI [] [y0, y1] [.X .o .Q, .X .P .o] (.X (.s .P .Q) .o) := lin 2 7
theorem o294 : LI [] [y0] [.X .i .P] (.X .o (.s .P .i)) := lin 2 3
theorem o295 : LI [] [y0, y1, y2, y3, y4] [.X .o .R, .X .o .S, .W (.s .S .T) .P, .W .R (.p (.neg .T) .Q)] (.X (.neg .P) .Q) := lin 2 87
theorem o296 : LI [] [y0, y1, y2, y3, y4] [.X .o .R, .X .o .S, .W (.s .S .T) .Q, .W .R (.p (.neg .T) .P), .X .P .o] (.X .P .Q) := lin 3 3739
theorem o297 : LI [] [y0, y1, y2, y3, y4, y5] [.X .o .R, .X .o .Q, .X .o .S, .W (.s .T .U) .P, .W .R (.neg .U), .W .S (.s .T .Q)] (.X (.neg .P) .Q) := lin 3 22156
theorem o298 : LI [] [y0, y1, y2, y3, y4, y5] [.X .o .R, .X .o .S, .W (.s .T .U) .Q, .W .R (.neg .U), .W .S (.s .T .P)] (.X .P .Q) := lin 2 343
theorem o300 : LI [] [y0, y1] [.X .o .Q, .X .Q .P] (.X (.neg .P) .Q) := lin 3 14
theorem o301 : LI [] [y0, y1, y2] [.X .o .Q, .X .o .R, .X .R .P] (.X (.neg .P) .Q) := lin 2 15
theorem o302 : LI [] [y0, y1] [] (.W (.p (.mul 1 .P) (.mul 0 .Q)) .P) := lin 2 3
theorem o303 : LI [] [y0, y1] [] (.W (.p (.mul 0 .P) (.mul 1 .Q)) .Q) := lin 2 3
theorem o304 : LI [] [y0] [.X .o .P] (.X (.neg (.p .P .i)) .i) := lin 2 3
theorem o305 : LI [] [y0] [.X .o .P] (.X .i (.p .P .i)) := lin 2 3
theorem o306 : LI [] [y0] [.X .o .P] (.X (.neg (.p .P .i)) .o) := lin 2 3
theorem o307 : LI [] [y0] [.X .o .P] (.X .o (.p .P .i)) := lin 2 3
theorem o308 : LI [] [y0, y1] [] (.W (.s (.mul 1 .P) (.mul 0 .Q)) .P) := lin 2 3
theorem o309 (h0 : (x0 <= (((2 : Nat) * (2000 : Nat)) + (2 : Nat)))) : (x0 < (1000000 : Nat)) := (li' [x0] [] [.x .A (.p (.mul 2 (.k 2000)) .j)] (.y .A (.k 1000000)) 2 3) h0
theorem o310 : LI [] [y0] [.X .o .P] (.W .P (.c (.na .P))) := lin 3 303516
theorem o311 : LI [] [y0, y1, y2] [.X .P .R, .X .R .Q] (.X .P .Q) := lin 2 7
theorem o312 : LI [] [y0, y1] [.X .P .Q] (.X .P .Q) := lin 2 3
theorem o316 : LI [] [y0, y1, y2] [.W (.p .Q .R) .P] (.W (.s .P .Q) .R) := lin 2 53
theorem o317 : LI [] [y0] [.X .o .P, .n (.W .P .o)] (.Y .o .P) := lin 2 51
theorem o318 : LI [] [y0] [.X .o .P, .n (.W .P .o)] (.X .i .P) := lin 2 51
theorem o319 : LI [] [y0, y1, y2] [.Y .P .R, .X .R .Q] (.X .P .Q) := lin 2 7
theorem o320 : LI [] [y0, y1, y2] [.X (.neg .P) (.s .Q .R)] (.X (.neg (.p .P .i)) (.s .Q .R)) := lin 2 3
theorem o321 : LI [] [y0, y1, y2] [.X (.s .P .Q) .R] (.X (.s .P .Q) (.p .R .i)) := lin 2 3
theorem o322 : LI [] [y0] [.n (.W .P .o)] (.n (.w (.na .P) .o)) := lin 2 13651
theorem o323 : LI [x0] [] [.n (.w .A .o), .n (.w .A .i)] (.x .j .A) := lin 2 25401
theorem o324 : LI [x0, x1] [] [.w .o (.s (.p .A .B) .i), .n (.w .B .o), .n (.w .A .o)] (.ff) := lin 2 14426977743410201
theorem o325 : LI [x0] [] [.x .j .A, .x .A (.k 3)] (.or (.w .A .j) (.w .A (.k 3))) := lin 2 340133
theorem o326 : LI [] [y0] [.Y .o .P] (.W (.c (.na .P)) .P) := lin 2 1764
theorem o327 : LI [x0] [y1] [.X (.c .A) .P, .X .P (.k 3)] (.and (.X (.c .A) (.k 3)) (.X .o (.c .A))) := lin 2 199
theorem o328 : LI [] [y0] [.X (.neg (.k 648)) .P, .X .P (.k 648)] (.x (.na .P) (.k 652)) := lin 2 154
theorem o329 : LI [] [y0] [.X (.neg (.mul 3 (.k 3))) .P, .X .P (.mul 3 (.k 3))] (.and (.X (.neg (.k 326)) .P) (.X .P (.k 326))) := lin 2 53
theorem o330 : LI [x1] [y0] [.X (.c .A) .P] (.X .o .P) := lin 2 7
theorem o331 : LI [] [y0, y1] [.X (.mul 1 .P) .Q] (.X .P .Q) := lin 2 3
theorem o332 : LI [x0] [y1, y2, y3] [.X (.c .A) .P, .W .Q .R, .X .Q (.k 3), .X .P .R] (.X (.c .A) (.k 3)) := lin 2 61
theorem o333 : LI [] [y0] [.w (.na .P) .o] (.W .P .o) := lin 2 39593
theorem o334 : LI [] [y0] [.n (.w (.na .P) .o)] (.x .i (.na .P)) := lin 2 2788387379
theorem o335 : LI [x1] [y0, y2] [.x (.lum (.na .P) 1) .A, .X (.neg (.k 18)) .Q, .w (.na .Q) .A, .X .Q (.k 18)] (.x (.na .P) (.k 18)) := lin 2 347390636169020653700450
theorem o336 : LI [x0, x1, x2, x3] [] [.w .B (.s (.p .C .A) .i), .w .D (.k 3), .w .C .D, .n (.w .A .o), .x .B (.k 3)] (.w .A .i) := lin 2 66238787210552744856371077324928
theorem o337 : LI [x1] [y0, y2] [.x (.mul 1 (.na .P)) .A, .X (.neg (.k 3)) .Q, .w (.na .Q) .A, .X .Q (.k 3)] (.and (.X (.neg (.k 3)) .P) (.X .P (.k 3))) := lin 2 1192809937243755365505
theorem o338 : LI [x0, x1] [] [.w .A .B, .x .B (.k 3), .n (.w .B (.k 3))] (.x .A .j) := lin 2 1561
theorem o339 : LI [x0, x1, x2, x3] [] [.x .j .C, .w .B (.s (.p .A .D) .i), .w .D .C] (.y .A .B) := lin 2 219241
theorem o340 : LI [x0, x1, x2, x3] [] [.x .j .B, .x .j .C, .w .A (.s (.p .C .D) .i), .w .D .B] (.x .j .A) := lin 2 291027
theorem o341 : LI [] [y0] [.x (.na .P) (.k 18)] (.x (.na .P) (.k 652)) := lin 2 43418
theorem o342 : LI [] [y0] [.X (.neg (.mul 3 (.k 108))) .P, .X .P (.mul 3 (.k 108))] (.and (.X (.neg (.k 326)) .P) (.X .P (.k 326))) := lin 2 53
theorem o343 : LI [x1] [y0] [.X .i .P] (.X (.neg .P) (.c .A)) := lin 2 7
theorem o344 : LI [x0] [y1] [.X .i .P, .x .A (.na .P)] (.X (.c .A) .P) := lin 2 108
theorem o345 : LI [x1] [y0] [.X .i .P, .x .A (.na .P)] (.X (.neg .P) (.neg (.c .A))) := lin 2 108
theorem o346 : LI [x0] [y1] [.X .i .P] (.X (.neg (.c .A)) .P) := lin 2 7
theorem o347 : LI [x0, x1] [] [.x .B (.k 4)] (.x (.p (.mn .A .B) (.s .B (.p .A .i))) (.k 4)) := lin 2 2384585
theorem o349 : LI [] [y0] [.X (.neg (.mul 1 (.k 3))) .P] (.X (.neg (.k 3)) .P) := lin 2 3
theorem o350 : LI [] [y0] [.X .P (.mul 1 (.k 3))] (.X .P (.k 3)) := lin 2 3
theorem o351 : LI [] [y0, y1, y2, y3] [.X (.neg (.mul 3 .Q)) .S, .X (.neg .P) .R, .X .S (.mul 3 .Q), .X .R .P] (.and (.X (.neg (.p .P (.mul 3 .Q))) (.p .R .S)) (.X (.p .R .S) (.p .P (.mul 3 .Q)))) := lin 2 915
theorem o352 : LI [] [y0] [.Y .o .P] (.and (.X (.neg .P) .i) (.X .i .P)) := lin 2 15
theorem o353 : LI [] [y0, y1, y2] [.X (.neg .R) .Q, .X .R (.mul 4 (.mul 3 .P)), .X .Q .R] (.and (.X (.neg (.lum .P 12)) .Q) (.X .Q (.lum .P 12))) := lin 2 235
theorem o354 : LI [x0] [] [.x .A .o] (.w .A .o) := lin 2 30
theorem o355 : LI [x0] [] [.x (.p .A .i) (.k 4)] (.x .A (.k 4)) := lin 2 3
theorem o356 : LI [x0] [] [.x (.p .A .i) (.k 4)] (.y .A (.k 5)) := lin 2 3
theorem o360 (h0 : ((-(3 : Int)) <= y0)) : ((-(1000000000 : Int)) <= y0) := (li' [] [y0] [.X (.neg (.k 3)) .P] (.X (.neg (.k 1000000000)) .P) 2 3) h0
theorem o361 (h0 : (y0 <= (3 : Int))) : (y0 <= (1000000000 : Int)) := (li' [] [y0] [.X .P (.k 3)] (.X .P (.k 1000000000)) 2 3) h0
theorem o362 (h0 : ((-((1 : Int) * (3 : Int))) <= y0)) : ((-(1000000000 : Int)) <= y0) := (li' [] [y0] [.X (.neg (.mul 1 (.k 3))) .P] (.X (.neg (.k 1000000000)) .P) 2 3) h0
theorem o363 (h0 : (y0 <= ((1 : Int) * (3 : Int)))) : (y0 <= (1000000000 : Int)) := (li' [] [y0] [.X .P (.mul 1 (.k 3))] (.X .P (.k 1000000000)) 2 3) h0
theorem o364 (h0 : ((-y1) <= y0)) (h1 : (y1 <= (1000000 : Int))) : ((-(1000000000 : Int)) <= y0) := (li' [] [y0, y1] [.X (.neg .Q) .P, .X .Q (.k 1000000)] (.X (.neg (.k 1000000000)) .P) 2 7) h0 h1
theorem o365 (h0 : (y1 <= (1000000 : Int))) (h1 : (y0 <= y1)) : (y0 <= (1000000000 : Int)) := (li' [] [y0, y1] [.X .Q (.k 1000000), .X .P .Q] (.X .P (.k 1000000000)) 2 7) h0 h1
theorem o366 : LI [] [y0, y1, y2] [] (.W (.p .P .Q) (.p (.p .R .Q) (.s .P .R))) := lin 2 3
theorem o367 (h0 : (x1 <= (3 : Nat))) (h1 : (x0 <= (3 : Nat))) : (((-(1000000 : Int)) <= ((((x0 : Nat) : Int) + ((x1 : Nat) : Int)) - (1 : Int))) /\ (((((x0 : Nat) : Int) + ((x1 : Nat) : Int)) - (1 : Int)) <= (1000000 : Int))) := (li' [x0, x1] [] [.x .B (.k 3), .x .A (.k 3)] (.and (.X (.neg (.k 1000000)) (.s (.p (.c .A) (.c .B)) .i)) (.X (.s (.p (.c .A) (.c .B)) .i) (.k 1000000))) 2 252) h0 h1
theorem o368 : LI [x0, x1] [] [] (.w (.tn (.s (.p (.c .A) (.c .B)) .i)) (.s (.p .A .B) .i)) := lin 2 141940692100
theorem q6c : LI [x0] [] [.x .j .A] (.w .A (.p (.s .A .i) .i)) := lin 2 13124
theorem o370 : LI [x0, x1, x2, x3] [] [.x .j .C, .x .j .D, .w .B (.p (.p (.s .D .i) (.s .C .i)) .i), .w .A (.s (.p .D .C) .i)] (.w .A .B) := lin 2 9873629982475971358603557988287725057603213217343007985028825872
theorem o371 (h0 : ((x1 + (1 : Nat)) = (x2 + (x0 - (1 : Nat))))) (h1 : (x1 <= (4 : Nat))) : (((-(1000000 : Int)) <= (((x0 : Nat) : Int) - (1 : Int))) /\ ((((x0 : Nat) : Int) - (1 : Int)) <= (1000000 : Int))) := (li' [x0, x1, x2] [] [.w (.p .B .i) (.p .C (.s .A .i)), .x .B (.k 4)] (.and (.X (.neg (.k 1000000)) (.s (.c .A) .i)) (.X (.s (.c .A) .i) (.k 1000000))) 2 294665233) h0 h1
theorem o372 : LI [x0, x1] [] [.w .B (.s .A .i)] (.w (.tn (.s (.c .A) .i)) .B) := lin 2 11338892483922450
theorem o373 (h0 : ((x1 + (1 : Nat)) = (x2 + (x3 - (1 : Nat))))) (h1 : (x0 < x4)) (h2 : (x4 = (x3 - (1 : Nat)))) (h3 : (x1 <= (4 : Nat))) : (((-(1000000 : Int)) <= ((x0 : Nat) : Int)) /\ (((x0 : Nat) : Int) <= (1000000 : Int))) := (li' [x0, x1, x2, x3, x4] [] [.w (.p .B .i) (.p .C (.s .D .i)), .y .A .F, .w .F (.s .D .i), .x .B (.k 4)] (.and (.X (.neg (.k 1000000)) (.c .A)) (.X (.c .A) (.k 1000000))) 2 93969552853319101118635844509952) h0 h1 h2 h3
theorem o374 (h0 : ((x0 + (1 : Nat)) = (x2 + (x3 - (1 : Nat))))) (h1 : (x1 < x4)) (h2 : (x4 = (x3 - (1 : Nat)))) (h3 : (x0 <= (4 : Nat))) : (((-(1000000 : Int)) <= ((((x0 : Nat) : Int) - ((x1 : Nat) : Int)) - ((x2 : Nat) : Int))) /\ (((((x0 : Nat) : Int) - ((x1 : Nat) : Int)) - ((x2 : Nat) : Int)) <= (1000000 : Int))) := (li' [x0, x1, x2, x3, x4] [] [.w (.p .A .i) (.p .C (.s .D .i)), .y .B .F, .w .F (.s .D .i), .x .A (.k 4)] (.and (.X (.neg (.k 1000000)) (.s (.s (.c .A) (.c .B)) (.c .C))) (.X (.s (.s (.c .A) (.c .B)) (.c .C)) (.k 1000000))) 2 1379843486332679478908158419665196) h0 h1 h2 h3
theorem o375 : LI [x0, x1, x2] [] [] (.w (.tn (.s (.s (.c .A) (.c .B)) (.c .C))) (.s (.s .A .B) .C)) := lin 2 327084030865822656214739257017352
theorem o376 : LI [x0, x1, x2, x3, x4, x5] [] [.x (.k 200) .C, .w (.p .D .i) (.p .B (.s .F .i)), .y .A .G, .w .G (.s .F .i), .x .D (.k 4)] (.x (.p .A .B) .C) := lin 2 241227744474235737
theorem o377 : LI [x0, x1, x2, x3, x4, x5] [] [.x (.k 200) .D, .w (.p .C .i) (.p .B (.s .F .i)), .y .A .G, .w .G (.s .F .i), .x .C (.k 4)] (.x (.p .A (.p .B (.s (.s .C .A) .B))) .D) := lin 3 122699674824327438186821590284230433015116569330347563012319385838473734946712211931484697930916632062396524709758457923155759085291693
theorem o378 : LI [x0, x1, x2, x3] [] [.x (.p .A (.p .B (.s (.s .C .A) .B))) .D] (.x (.p (.p .A .B) (.s (.s .C .A) .B)) .D) := lin 2 51433930259811166901474083373473854341388474404
theorem o379 : LI [x0, x1, x2, x3, x4, x5, x6] [] [.x (.k 200) .C, .w (.p .D .i) (.p .F (.s .G .i)), .y .B .H, .w .H (.s .G .i), .x .A (.k 10), .x .D (.k 4)] (.y (.p .A .B) .C) := lin 2 24517690036408559449
theorem o380 : LI [x0, x1, x2, x3] [] [.w (.p .C .i) (.p .B .D), .y .A .D, .x .C (.k 4)] (.x (.p .A (.p .B (.s (.s .C .A) .B))) (.k 4)) := lin 2 672489697352
theorem o381 : LI [x0, x1, x2] [] [.x .j .A, .w .C (.s (.p .A .B) .j)] (.W (.s (.p (.c .A) (.c .B)) .j) (.c .C)) := lin 2 441784340
theorem o382 : LI [x0, x1, x2] [] [.W (.s (.p (.c .B) (.c .C)) .j) (.c .A), .x .j .C] (.w (.p .A .i) (.p .B (.s .C .i))) := lin 2 202117649
theorem o383 : LI [x0, x1, x2] [] [.W (.s (.p (.c .B) (.c .C)) .j) (.c .A), .x .B (.k 3), .x .C (.k 3)] (.x .A (.k 4)) := lin 2 30
theorem o384 : LI [x0] [] [.x .j .A] (.x .i .A) := lin 2 3
theorem o385 : LI [x0, x1, x2] [] [.W (.s (.p (.c .C) (.c .B)) .j) (.c .A), .x .j .C] (.w (.p .A .i) (.p .B (.s .C .i))) := lin 2 202117649
theorem o386 : LI [x0, x1, x2] [] [.w .A (.s (.p .B .C) .j), .x .B (.k 3), .x .C (.k 3)] (.x .A (.k 4)) := lin 2 17466
theorem o387 : LI [x0] [] [.x .A (.k 3)] (.x .A (.k 11)) := lin 2 3
theorem o388 : LI [x0, x1, x2] [] [.x .j .C, .w .A (.s (.p .B .C) .j)] (.w (.p .A .i) (.p .B (.s .C .i))) := lin 2 157109377711091238952
theorem o389 : LI [x0] [] [.x .j .A] (.x .i (.s .A .i)) := lin 2 53
theorem o390 : LI [x0, x1, x2] [] [.x .j .C, .w .A (.s (.p .C .B) .j)] (.w (.p .A .i) (.p .B (.s .C .i))) := lin 2 157109377711091238952
theorem o391 : LI [x0, x1, x2] [] [.W (.s (.p (.c .B) (.c .A)) .j) (.c .C), .x .j .B, .x .j .A] (.x (.p (.s .A .i) (.s .B .i)) .C) := lin 2 25795006529
theorem o392 : LI [x0, x1, x2, x3] [] [.W (.s (.p (.c .C) (.c .D)) .j) (.c .B), .x .C (.k 3), .x .D (.k 3)] (.w (.p (.p (.s (.s (.p .A (.k 5)) .B) .i) .B) .i) (.p .A (.k 5))) := lin 2 159281880845824901895028800
theorem q6b : LI [] [y0] [.Y .o .P] (.X .o .P) := lin 2 3
theorem o394 : LI [x0] [] [.n (.w .A .o)] (.y (.s .A .i) .A) := lin 2 21651
theorem o395 (h0 : ((1000 : Int) <= y1)) (h1 : (y0 <= (1000 : Int))) : (y0 <= y1) := (li' [] [y0, y1] [.X (.k 1000) .Q, .X .P (.k 1000)] (.X .P .Q) 2 7) h0 h1
theorem q3p : LI [] [y0] [.X .j .P] (.n (.W .P .o)) := lin 2 3
theorem o397 : LI [] [y0] [.X .j .P] (.W .P (.c (.tn .P))) := lin 2 1764
theorem o398 (h0 : (y0 <= (1000 : Int))) : ((Int.toNat y0) <= (1000000 : Nat)) := (li' [] [y0] [.X .P (.k 1000)] (.x (.tn .P) (.k 1000000)) 2 37) h0
theorem o399 (h0 : (x0 < (Int.toNat y1))) (h1 : (y1 <= (1000 : Int))) : (((x0 : Nat) : Int) <= (1000000000 : Int)) := (li' [x0] [y1] [.y .A (.tn .P), .X .P (.k 1000)] (.X (.c .A) (.k 1000000000)) 2 334) h0 h1
theorem y4y (h0 : ((0 : Int) <= y0)) : ((-(1000000000 : Int)) <= y0) := (li' [] [y0] [.X .o .P] (.X (.neg (.k 1000000000)) .P) 2 3) h0
theorem y6i (h0 : (y0 < y1)) (h1 : (y1 <= (1000 : Int))) : (y0 <= (1000000000 : Int)) := (li' [] [y0, y1] [.Y .P .Q, .X .Q (.k 1000)] (.X .P (.k 1000000000)) 2 7) h0 h1
theorem o402 : LI [] [y0, y1] [.X .j .Q, .Y .P .Q] (.y (.tn .P) (.tn .Q)) := lin 2 312626
theorem o403 : LI [] [y0] [.X .o .P] (.W (.c (.tn .P)) .P) := lin 2 2980
theorem o404 : LI [] [y0] [] (.W .P (.p .i (.s .P .i))) := lin 2 3
theorem o405 : LI [] [y0] [.X .j .P] (.Y .i .P) := lin 2 3
theorem o406 : LI [x0] [y1] [.y .A (.tn .P)] (.Y (.c .A) .P) := lin 2 166
theorem o407 : LI [] [y0, y1] [.X .o .Q, .Y .Q .P] (.Y .o .P) := lin 2 7
theorem o408 (h0 : ((0 : Int) <= y0)) : ((-(1000 : Int)) <= y0) := (li' [] [y0] [.X .o .P] (.X (.neg (.k 1000)) .P) 2 3) h0
theorem o409 (h0 : (y0 < y1)) (h1 : (y1 <= (1000 : Int))) : (y0 <= (1000 : Int)) := (li' [] [y0, y1] [.Y .P .Q, .X .Q (.k 1000)] (.X .P (.k 1000)) 2 7) h0 h1
theorem o410 (h0 : ((-((1000 : Int) * (1000 : Int))) <= y0)) : ((-(1000000000 : Int)) <= y0) := (li' [] [y0] [.X (.neg (.mul 1000 (.k 1000))) .P] (.X (.neg (.k 1000000000)) .P) 2 3) h0
theorem o411 (h0 : (y0 <= ((1000 : Int) * (1000 : Int)))) : (y0 <= (1000000000 : Int)) := (li' [] [y0] [.X .P (.mul 1000 (.k 1000))] (.X .P (.k 1000000000)) 2 3) h0
theorem o412 : LI [x0, x1, x2] [] [.w .C (.s .A .B), .x .B .A] (.W (.s (.c .A) (.c .B)) (.c .C)) := lin 2 354030610
theorem o413 : LI [x0, x1] [] [.n (.y .A .B)] (.X .o (.s (.c .A) (.c .B))) := lin 2 3
theorem o414 : LI [x0, x1, x2, x3] [] [.W (.s (.c .D) (.c .C)) (.c .B), .y .A .D] (.Y (.s (.c .A) (.c .B)) (.c .C)) := lin 2 13
theorem o415 : LI [x0, x1] [] [] (.w (.tn (.s (.c .A) (.c .B))) (.s .A .B)) := lin 2 141940692100
theorem o416 : LI [x0, x1, x2, x3, x4] [] [.W (.s (.c .D) (.c .A)) (.c .C), .w .F .D, .n (.y .B .F)] (.x .A (.s .B .C)) := lin 2 499802
theorem o417 (h0 : (x0 = x1)) (h1 : (x1 <= (100 : Nat))) : (x0 <= (1000 : Nat)) := (li' [x0, x1] [] [.w .A .B, .x .B (.k 100)] (.x .A (.k 1000)) 2 13) h0 h1
theorem o418 : LI [x0, x1, x2] [] [.w .C .B, .x .B .A, .x .A .C] (.w (.s .A .i) (.s .B .i)) := lin 2 75631758881072022103108
theorem o419 : LI [] [y0, y1] [] (.W (.s .P .o) (.p .P (.lum (.neg .Q) 0))) := lin 2 3
theorem o420 (h0 : (x0 <= (100 : Nat))) : (x0 <= (1000 : Nat)) := (li' [x0] [] [.x .A (.k 100)] (.x .A (.k 1000)) 2 3) h0
theorem o421 : LI [x0, x1] [] [.x .B (.k 100), .x .A .B] (.x .A (.k 100)) := lin 2 7
theorem o422 (h0 : (x0 <= (100 : Nat))) : (x0 < (1000000 : Nat)) := (li' [x0] [] [.x .A (.k 100)] (.y .A (.k 1000000)) 2 3) h0
theorem o423 : LI [x0, x1] [] [.y .A .B, .x .B (.k 100)] (.x .A (.k 100)) := lin 2 7
theorem o424 : LI [] [y0, y1] [.W (.s .P .i) .Q] (.W .P (.p .i .Q)) := lin 2 46
theorem o425 (h0 : (y0 <= (1000 : Int))) : (y0 <= (1000000000 : Int)) := (li' [] [y0] [.X .P (.k 1000)] (.X .P (.k 1000000000)) 2 3) h0
theorem o426 : LI [] [y0, y1] [.X (.k 13) .Q, .X .P (.k 13)] (.X .P .Q) := lin 2 7
theorem o427 : LI [x0, x1, x2, x3] [] [.x .j .C, .w .D (.p (.p (.s .A .i) (.s .C .i)) .i), .x .D .B] (.y .A .B) := lin 2 43432028273
theorem o428 : (((0 : Int) <= (2 : Int)) /\ ((2 : Int) <= (1000 : Int))) := li' [] [] [] (.and (.X .o .j) (.X .j (.k 1000))) 2 3
theorem o429 : (((0 : Int) <= (1 : Int)) /\ ((1 : Int) <= (1000 : Int))) := li' [] [] [] (.and (.X .o .i) (.X .i (.k 1000))) 2 3
theorem o430 : LI [] [] [] (.Y .o .j) := lin 2 1
theorem o431 : LI [] [] [] (.Y .o .i) := lin 2 1
theorem o432 (h0 : (y0 <= (13 : Int))) : (y0 <= (1000 : Int)) := (li' [] [y0] [.X .P (.k 13)] (.X .P (.k 1000)) 2 3) h0
theorem o433 : LI [x0, x1, x2] [] [.w .A (.s (.p .B .C) .i), .x .B (.k 3), .x .C (.k 3)] (.x .A (.k 100)) := lin 2 17466
theorem o434 : LI [x0, x1, x2] [] [.w .A .C, .x .B .C] (.n (.Y (.c .A) (.c .B))) := lin 2 14
theorem o436 (h0 : (x0 <= x1)) : (x0 <= x1) := (li' [x0, x1] [] [.x .A .B] (.x .A .B) 2 3) h0
theorem o437 : LI [x0, x1, x2] [] [.x (.k 200) .B, .y .C (.k 6), .x .A .C] (.y .A .B) := lin 2 15
theorem o439 : LI [] [y0] [.X (.neg (.k 27)) .P, .X .P (.k 27)] (.x (.na .P) (.k 27)) := lin 2 154
theorem o440 : LI [x1] [y0] [.X (.k 27) .P, .x .A (.k 27)] (.and (.X (.neg .P) (.c .A)) (.X (.c .A) .P)) := lin 2 125
theorem o441 (h0 : (x0 <= (27 : Nat))) : (((x0 : Nat) : Int) <= (1000000000 : Int)) := (li' [x0] [] [.x .A (.k 27)] (.X (.c .A) (.k 1000000000)) 2 3) h0
theorem o442 : LI [x0, x1, x2] [] [.y .C .B, .w .C .A] (.Y (.c .A) (.c .B)) := lin 2 13
theorem o443 : LI [] [y0] [.X (.k 27) .P] (.X (.k 3) .P) := lin 2 3
theorem o444 : LI [x0, x1] [] [.x (.k 200) .B] (.x (.p (.mn .j .A) .i) .B) := lin 2 229
theorem o445 : LI [] [y0, y1, y2] [.W (.p .R .P) .Q] (.W .P (.s .Q .R)) := lin 2 46
theorem o446 : LI [] [y0] [.X .i .P] (.X .o .P) := lin 2 3
theorem o447 : LI [] [y0, y1, y2] [.X .R .Q, .X .P .R] (.X .P .Q) := lin 2 7
theorem o454 (h0 : ((-(y2 + (1 : Int))) <= y0)) (h1 : (y0 <= (y2 + (1 : Int)))) (h2 : (y2 <= y1)) : ((Int.natAbs y0) <= (Int.natAbs (y1 + (1 : Int)))) := (li' [] [y0, y1, y2] [.X (.neg (.p .R .i)) .P, .X .P (.p .R .i), .X .R .Q] (.x (.na .P) (.na (.p .Q .i))) 3 160914261756) h0 h1 h2
theorem o455 (h0 : ((0 : Int) <= y0)) (h1 : ((0 : Int) <= y1)) (h2 : (y0 < y3)) (h3 : (y1 < y4)) (h4 : (y4 <= y2)) (h5 : (y3 <= y2)) : ((Int.natAbs (y0 - y1)) <= (Int.natAbs y2)) := (li' [] [y0, y1, y2, y3, y4] [.X .o .P, .X .o .Q, .Y .P .S, .Y .Q .T, .X .T .R, .X .S .R] (.x (.na (.s .P .Q)) (.na .R)) 2 20743271718) h0 h1 h2 h3 h4 h5
theorem o456 : LI [] [y0, y1] [.X .i .Q, .X .Q .P] (.X .o (.p .P .i)) := lin 2 7
theorem o457 : LI [] [y0, y1] [.X .i .Q, .X .Q .P] (.X .o .P) := lin 2 7
theorem o460 : LI [] [y0, y1] [.X .i .Q, .X .i .P] (.n (.or (.W .P .o) (.W .Q .o))) := lin 2 86
theorem o461 : LI [] [y0, y1, y2] [.X .o .P, .X .o .Q, .Y .P .R, .Y .Q .R] (.y (.na (.s .P .Q)) (.na .R)) := lin 2 78795462
theorem o462 : LI [] [y0, y1, y2] [.X .o .Q, .X .i .R, .X .R .P] (.X (.neg .P) .Q) := lin 2 15
theorem o464 : LI [x0, x1] [] [.or (.y .A .j) (.n (.w .B .o)), .w .B .o, .n (.w .A .o)] (.w .A .i) := lin 2 456916846343444029114568
theorem o465 : LI [x1] [y0] [.X .j .P, .w (.na .P) .i] (.W .P (.c .A)) := lin 2 799045
theorem o466 : LI [x1] [y0] [.X .j .P, .w (.na .P) .A] (.W .P (.c .A)) := lin 2 800024
theorem o467 : LI [x0] [] [] (.n (.x (.p .A .i) .A)) := lin 2 1
theorem o468 : LI [x1, x2] [y0] [.y .A .B, .x .B .A] (.and (.X .i .P) (.imp (.X .P (.mul 212552 (.k 652))) (.x .A (.p .B (.k 8))))) := lin 2 99
theorem o469 : LI [x0, x1] [y2] [.Y (.mul 212552 (.k 652)) .P, .X .P (.mul 212552 (.k 652))] (.x .A (.p .B (.k 8))) := lin 2 3
theorem o470 : LI [x0, x1, x2] [] [.x (.p .A .i) .C, .y .C .B] (.y .A .B) := lin 2 7
theorem o471 : LI [x0, x1] [] [.x (.p .A .i) .B] (.y .A .B) := lin 2 3
theorem o472 : LI [x0] [] [.X .j (.c .A)] (.Y .o (.c .A)) := lin 2 3
theorem o473 : LI [x0, x1] [] [.X (.c .A) (.c .B), .y .B .A] (.ff) := lin 2 3
theorem o474 : LI [x0, x1] [] [.x .A (.p .B .i), .n (.x .A .B)] (.w .A (.p .B .i)) := lin 2 166
theorem o475 : LI [x0, x1] [] [.w .A .o] (.x .A .B) := lin 2 13
theorem o476 : LI [] [y0] [.x .i .o] (.W .P .o) := lin 2 5
theorem o477 : LI [x1] [y0] [.x (.p .A .i) .o] (.W .P .o) := lin 2 45
theorem o478 : LI [x0] [] [.n (.w .A .o)] (.w (.s (.p .A .i) .i) (.p (.s .A .i) .i)) := lin 2 116993152449207560408163
theorem o479 : LI [x0, x1] [] [.y .A .B, .w .B .o] (.w .A .B) := lin 2 611
theorem o480 : LI [x0, x1] [] [.y .A .B] (.x .A (.s .B .i)) := lin 2 229
theorem o481 : LI [x0, x1] [] [.y .B .A] (.n (.w .A .o)) := lin 2 11
theorem o483 : LI [x0, x1] [] [.x .A .B] (.w (.mn .A .B) .A) := lin 2 201860
theorem o484 : LI [x1] [y0] [.X .o .P, .Y .P (.c .A)] (.y (.tn .P) .A) := lin 2 362
theorem o485 : LI [] [] [] (.n (.X .o (.neg .i))) := lin 2 1
theorem o486 : LI [x0] [] [.n (.w .A .o)] (.X .o (.p (.neg .i) (.c .A))) := lin 2 29
theorem o487 : LI [x0] [] [] (.w (.tn (.p (.neg .i) (.c .A))) (.s .A .i)) := lin 2 1147495748
theorem o488 : LI [x0] [] [.n (.w .A .o)] (.X .o (.s (.c .A) .i)) := lin 2 29
theorem o489 : LI [x0, x1] [] [.x .A .B] (.Y (.s (.c .A) .i) (.c .B)) := lin 2 3
theorem o490 : LI [x0] [] [] (.w (.tn (.s (.c .A) .i)) (.s .A .i)) := lin 2 1147495748
theorem o491 : LI [x0] [] [.n (.w .A .o)] (.y (.s .A .i) .A) := lin 2 21651
theorem o492 : LI [x0] [] [.y .o .A] (.W (.s (.c .A) .i) (.c (.s .A .i))) := lin 2 25924
theorem o493 (h0 : (x0 <= (1000 : Nat))) : (x0 < (1000000 : Nat)) := (li' [x0] [] [.x .A (.k 1000)] (.y .A (.k 1000000)) 2 3) h0
theorem o494 : LI [x0] [] [.n (.w .A .o)] (.W (.s (.c .A) .i) (.c (.s .A .i))) := lin 2 1698978099
theorem o495 (h0 : (x0 <= (1000000 : Nat))) : (((-(1000000 : Int)) <= ((x0 : Nat) : Int)) /\ (((x0 : Nat) : Int) <= (1000000 : Int))) := (li' [x0] [] [.x .A (.k 1000000)] (.and (.X (.neg (.k 1000000)) (.c .A)) (.X (.c .A) (.k 1000000))) 2 30) h0
theorem o496 : LI [x0, x1, x2] [] [.n (.y .B (.mx .A .C))] (.x .A .B) := lin 2 454
theorem o497 : LI [x0, x1, x2] [] [.n (.y .B (.mx .C .A))] (.x .A .B) := lin 2 391
theorem o498 (h0 : (x1 <= (1000 : Nat))) (h1 : (x0 <= (1000 : Nat))) : ((max x0 x1) <= (1000000 : Nat)) := (li' [x0, x1] [] [.x .B (.k 1000), .x .A (.k 1000)] (.x (.mx .A .B) (.k 1000000)) 2 586) h0 h1
theorem o499 : LI [x0, x1] [] [.n (.y .A .B)] (.n (.Y (.c .A) (.c .B))) := lin 2 3
theorem o500 (h0 : (x1 <= (1000 : Nat))) (h1 : (x0 <= (1000 : Nat))) : ((max x0 x1) <= (1000 : Nat)) := (li' [x0, x1] [] [.x .B (.k 1000), .x .A (.k 1000)] (.x (.mx .A .B) (.k 1000)) 2 586) h0 h1
theorem o501 (h0 : (x0 <= (1000 : Nat))) : (((-(1000000 : Int)) <= ((x0 : Nat) : Int)) /\ (((x0 : Nat) : Int) <= (1000000 : Int))) := (li' [x0] [] [.x .A (.k 1000)] (.and (.X (.neg (.k 1000000)) (.c .A)) (.X (.c .A) (.k 1000000))) 2 30) h0
theorem o502 (h0 : ((2000 : Nat) <= x2)) (h1 : (x1 <= (1000 : Nat))) (h2 : (x0 <= (1000 : Nat))) : ((x0 + x1) <= x2) := (li' [x0, x1, x2] [] [.x (.k 2000) .C, .x .B (.k 1000), .x .A (.k 1000)] (.x (.p .A .B) .C) 2 15) h0 h1 h2
theorem o505 : LI [x0, x1, x2] [] [.n (.y .C (.mx .A .B))] (.x (.mx .A .B) .C) := lin 2 21153162
theorem o506 : LI [] [y0, y1, y2] [.W .R (.s .P .Q)] (.W .P (.p .Q .R)) := lin 2 53
theorem o507 : LI [] [y0, y1] [.X .o .Q, .Y .Q .P] (.X .o .P) := lin 2 7
theorem o508 : LI [] [y0, y1] [.X (.lum .P 1) .Q, .Y .Q .P] (.ff) := lin 2 3
theorem o509 : LI [] [y0, y1, y2] [.W (.p .R .Q) .P] (.W (.s .P .Q) .R) := lin 2 53
theorem o510 : LI [x0, x1] [] [] (.W (.c (.p (.p .A .i) .B)) (.c (.p .A (.p .B .i)))) := lin 2 9
theorem o511 (h0 : (x0 = ((x1 + (1 : Nat)) - x2))) (h1 : (x1 <= (100 : Nat))) : (((-(1000000 : Int)) <= ((x0 : Nat) : Int)) /\ (((x0 : Nat) : Int) <= (1000000 : Int))) := (li' [x0, x1, x2] [] [.w .A (.s (.p .B .i) .C), .x .B (.k 100)] (.and (.X (.neg (.k 1000000)) (.c .A)) (.X (.c .A) (.k 1000000))) 2 303315477) h0 h1
theorem o512 : LI [x0, x1] [] [.y .B .A] (.W (.s (.s (.c .A) .i) (.c .B)) (.c (.s (.s .A .i) .B))) := lin 2 62202286477832
theorem o513 (h0 : (x1 <= (100 : Nat))) (h1 : (x0 <= (100 : Nat))) : (((-(1000000 : Int)) <= (((x0 : Nat) : Int) - ((x1 : Nat) : Int))) /\ ((((x0 : Nat) : Int) - ((x1 : Nat) : Int)) <= (1000000 : Int))) := (li' [x0, x1] [] [.x .B (.k 100), .x .A (.k 100)] (.and (.X (.neg (.k 1000000)) (.s (.c .A) (.c .B))) (.X (.s (.c .A) (.c .B)) (.k 1000000))) 2 469) h0 h1
theorem o514 : LI [x0, x1, x2] [] [.w .C (.s (.p .A .i) .B)] (.w (.tn (.p (.s (.c .A) (.c .B)) .i)) .C) := lin 2 1446241632106714130
theorem o515 : LI [x0, x1, x2, x3] [] [.x (.p (.s .C .o) (.s .D .i)) .B, .w .C (.s (.p .A .i) .D)] (.x .A .B) := lin 2 11794629539767066053208164
theorem o516 : LI [x0, x1, x2, x3, x4] [] [.y .D .F, .w .F (.s (.p .C .i) .B), .w .A (.s (.s .F .i) .D), .n (.w .B .o)] (.y (.s (.p .A .B) .i) .C) := lin 3 113569802938971785113473904326034235765116482933794299588118178120724570215285663596209009479234521251208909373755988214429877293683620611575271662579389224300172713785526246265179163994952996044934853510363376427603702772196558159114749949
theorem o517 : LI [x0, x1] [] [.n (.w .B .o)] (.X .o (.s (.p (.c .A) (.c .B)) .i)) := lin 2 181
theorem o518 : LI [x0, x1, x2, x3] [] [.y (.s (.p .A .B) .i) .D, .w .C .D] (.Y (.s (.p (.c .A) (.c .B)) .i) (.c .C)) := lin 2 13850
theorem o519 : LI [x0, x1, x2, x3] [] [.y .C .D, .w .A (.s (.s .D .i) .C), .w .B .D] (.and (.X .o (.c .A)) (.Y (.c .A) (.c .B))) := lin 3 35354888430309382445645655773131107138251992
theorem o520 : LI [x0, x1, x2] [] [.y .B .A] (.n (.and (.x .A .B) (.y .B (.p .A .C)))) := lin 2 3
theorem o521 : LI [] [y0, y1, y2] [] (.W (.s .P (.p .Q (.neg .R))) (.neg (.s (.s .Q .R) .P))) := lin 2 3
theorem o522 : LI [x0, x1, x2] [] [.n (.y .B (.p .A .C))] (.n (.and (.x .A .B) (.y .B (.p .A .C)))) := lin 2 5
theorem o523 : LI [x0, x1, x2] [] [.n (.y .B (.p .C .A))] (.x .A (.s .B .C)) := lin 2 453
theorem o524 : LI [x0, x1] [] [.n (.w .B .o)] (.and (.x .A (.s (.p .A .B) .i)) (.y (.s (.p .A .B) .i) (.p .A .B))) := lin 2 726089896233
theorem o525 : LI [x0, x1] [] [] (.w (.s (.s (.p .A .B) .i) .A) (.s .B .i)) := lin 2 10061944506487339583164949000
theorem o526 : LI [x0, x1, x2, x3, x4] [] [.x (.p (.s .D (.p .F .i)) (.s .C .i)) .B, .w .A (.s (.s .D .i) .F), .n (.w .B (.s (.p .A .C) .i))] (.n (.and (.x .A .B) (.y .B (.p .A .C)))) := lin 2 3604394396524244256543741656626080522245685825721848671935572092287113333259192510727706827927649710101904528361697130761082640127482630660148082074649156062448878653208115205289188861070054319800066866553703525535295033133836046047973712526802469547821135784774661537212533367007990628312584286707451429156
theorem o528 : LI [x0, x1] [] [] (.n (.and (.x .A .B) (.y .B (.p .A .o)))) := lin 2 3
theorem o529 : LI [x0, x1, x2, x3, x4] [] [.y (.s (.p .A .D) .i) .F, .y .B .D, .w .C .F] (.Y (.p (.c .A) (.c .B)) (.c .C)) := lin 2 112694
theorem o530 : LI [x0, x1, x2, x3, x4] [] [.y (.s (.p .A .D) .i) .F, .y .B .D, .w .C .F] (.and (.X .o (.p (.c .A) (.c .B))) (.Y (.p (.c .A) (.c .B)) (.c .C))) := lin 2 479023183392
theorem o531 : LI [x0, x1, x2, x3, x4] [] [.y (.s (.p .A .D) .i) .F, .y .B .D, .w .C .F] (.y (.p .A .B) .C) := lin 2 112694
theorem o532 : LI [x0, x1] [] [] (.and (.x .A (.p .A .B)) (.y (.p .A .B) (.p .A (.p .B .i)))) := lin 2 11
theorem o533 : LI [x0, x1] [] [] (.n (.and (.x .A (.p .A .B)) (.y (.p .A .B) (.p .A .B)))) := lin 2 2
theorem o534 : LI [x0, x1] [] [] (.w (.s (.p .A .B) .A) .B) := lin 2 25378
theorem o535 : LI [x0, x1, x2] [] [.y .B (.p .A .C), .x .A .B] (.and (.x .A .B) (.y .B (.p .A (.p .C .i)))) := lin 2 326
theorem o536 : LI [x0, x1, x2] [] [.n (.and (.x .A .B) (.y .B (.p .A .C))), .n (.w .B (.p .A .C))] (.n (.and (.x .A .B) (.y .B (.p .A (.p .C .i))))) := lin 2 21021317
theorem o537 (h0 : (x1 = ((x2 + (1 : Nat)) - x3))) (h1 : (x0 = x1)) (h2 : (x2 <= (100 : Nat))) : (x0 <= (1000 : Nat)) := (li' [x0, x1, x2, x3] [] [.w .B (.s (.p .C .i) .D), .w .A .B, .x .C (.k 100)] (.x .A (.k 1000)) 2 151786) h0 h1 h2
theorem o538 (h0 : (x1 = x2)) (h1 : (x2 <= (100 : Nat))) : ((min (x0 - (1 : Nat)) x1) <= (1000 : Nat)) := (li' [x0, x1, x2] [] [.w .B .C, .x .C (.k 100)] (.x (.mn (.s .A .i) .B) (.k 1000)) 2 4974463541) h0 h1
theorem o539 : LI [x0] [] [.n (.w .A .o)] (.X .o (.s (.c .A) .i)) := lin 2 29
theorem o541 : LI [x0, x1, x2] [] [.n (.w .B .o), .x .A (.mn (.s .B .i) .C)] (.y .A .B) := lin 2 2096737992017249027
theorem o542 : LI [x0, x1, x2, x3] [] [.y .A .C, .w .C (.p .D .i), .x .D .B] (.x .A .B) := lin 2 27
theorem o543 : LI [x0, x1] [] [.x .A .B, .x .B .A] (.w .A .B) := lin 2 166
theorem o544 : LI [x0, x1, x2] [] [.x (.s .C .i) .B, .x .A .C, .n (.w .B (.s .C .i))] (.x .A .B) := lin 2 489164808027550541842
theorem o545 : LI [] [y0, y1] [.Y .Q .P] (.X .o (.s .P .Q)) := lin 2 3
theorem o546 : LI [] [y0, y1, y2] [.X .o .Q, .Y .P .R] (.Y (.s .P .Q) .R) := lin 2 7
theorem o547 : LI [] [y0, y1] [] (.W (.s .P .Q) (.neg (.p .Q (.mul (-1) .P)))) := lin 2 3
theorem o548 : LI [x0, x1] [] [.w .A .B, .x .B (.k 100)] (.x .A (.k 100)) := lin 2 13
theorem o549 : LI [x0, x1, x2] [] [.y (.p (.p .A (.mul 4 .C)) (.k 100)) .B] (.y (.p .A (.k 64)) .B) := lin 5 106
theorem o550 (h0 : (x1 = (1048576 : Nat))) (h1 : (x0 = x2)) (h2 : (x2 = x3)) (h3 : (x3 <= (1000 : Nat))) : (x0 <= x1) := (li' [x0, x1, x2, x3] [] [.w .B (.k 1048576), .w .A .C, .w .C .D, .x .D (.k 1000)] (.x .A .B) 2 214) h0 h1 h2 h3
theorem o551 : LI [x0] [] [] (.W (.c .A) (.p .o (.lum (.c .A) 1))) := lin 2 5
theorem o552 : LI [x0, x1] [] [] (.W (.s (.s (.c .A) .i) (.c .B)) (.p (.s (.c .A) .i) (.lum (.c .B) (-1)))) := lin 2 9
theorem o553 (h0 : ((-(1000000 : Int)) <= y0)) (h1 : (x1 = (Int.toNat (y0 + (1 : Int))))) (h2 : (y0 <= (1000000 : Int))) : (((((((-((2 : Int) ^ (63 : Nat))) <= y0) /\ (y0 < ((2 : Int) ^ (63 : Nat)))) /\ (((-((2 : Int) ^ (63 : Nat))) <= (-(1 : Int))) /\ ((-(1 : Int)) < ((2 : Int) ^ (63 : Nat))))) /\ (((-((2 : Int) ^ (63 : Nat))) <= (-(1 : Int))) /\ ((-(1 : Int)) < ((2 : Int) ^ (63 : Nat))))) /\ (((-((2 : Int) ^ (63 : Nat))) <= ((x1 : Nat) : Int)) /\ (((x1 : Nat) : Int) < ((2 : Int) ^ (63 : Nat))))) /\ ((((x1 : Nat) : Int) = (0 : Int)) \/ (((-((2 : Int) ^ (63 : Nat))) <= ((-(1 : Int)) + ((-(1 : Int)) + (1 : Int)))) /\ (((-(1 : Int)) + ((-(1 : Int)) + (1 : Int))) < ((2 : Int) ^ (63 : Nat)))))) := (li' [x1] [y0] [.X (.neg (.k 1000000)) .P, .w .A (.tn (.p .P .i)), .X .P (.k 1000000)] (.and (.and (.and (.and (.and (.X (.neg (.k 9223372036854775808)) .P) (.Y .P (.k 9223372036854775808))) (.and (.X (.neg (.k 9223372036854775808)) (.neg .i)) (.Y (.neg .i) (.k 9223372036854775808)))) (.and (.X (.neg (.k 9223372036854775808)) (.neg .i)) (.Y (.neg .i) (.k 9223372036854775808)))) (.and (.X (.neg (.k 9223372036854775808)) (.c .A)) (.Y (.c .A) (.k 9223372036854775808)))) (.or (.W (.c .A) .o) (.and (.X (.neg (.k 9223372036854775808)) (.p (.neg .i) (.p (.neg .i) .i))) (.Y (.p (.neg .i) (.p (.neg .i) .i)) (.k 9223372036854775808))))) 2 13522042406573027421576191360892015411610673297758241) h0 h1 h2
theorem o554 (h0 : ((-(1000000 : Int)) <= y0)) : ((-((2 : Int) ^ (62 : Nat))) <= y0) := (li' [] [y0] [.X (.neg (.k 1000000)) .P] (.X (.neg (.k 4611686018427387904)) .P) 2 3) h0
theorem o555 (h0 : (y0 <= (1000000 : Int))) : (y0 < ((2 : Int) ^ (62 : Nat))) := (li' [] [y0] [.X .P (.k 1000000)] (.Y .P (.k 4611686018427387904)) 2 3) h0
theorem o556 (h0 : (y0 <= (1000000 : Int))) : ((Int.toNat y0) <= (1048576 : Nat)) := (li' [] [y0] [.X .P (.k 1000000)] (.x (.tn .P) (.k 1048576)) 2 37) h0
theorem o557 (h0 : (y0 <= (1000000 : Int))) : ((Int.toNat (y0 + (1 : Int))) <= (1048576 : Nat)) := (li' [] [y0] [.X .P (.k 1000000)] (.x (.tn (.p .P .i)) (.k 1048576)) 2 37) h0
theorem o558 : LI [x1] [y0] [.y .A (.tn (.p .P .i))] (.W (.p (.s (.c (.tn (.p .P .i))) .i) (.lum (.c .A) (-1))) (.p .P (.lum (.c .A) (-1)))) := lin 2 628416098568
theorem o559 : LI [x0, x1, x2] [] [.y (.p (.p .i (.p .i .C)) .A) (.p .B .j)] (.y .A (.p .B .j)) := lin 2 7
theorem o560 : LI [x0, x1] [] [.y (.p (.k 3) .A) (.p .B .j)] (.y .A (.p .B .j)) := lin 2 3
theorem o561 : LI [x0, x1] [] [.y (.p .j .A) (.p .B .j)] (.y .A (.p .B .j)) := lin 2 3
theorem o562 : LI [x0, x1, x2] [] [.y (.p (.p .i (.p .i .A)) .C) (.p .B .j)] (.y .A (.p .B .j)) := lin 2 7
theorem o563 : LI [x0, x1] [] [] (.x .i (.p (.p .i .A) .B)) := lin 2 7
theorem o564 : LI [x0, x1, x2] [] [.y (.p (.p .i (.p .i .A)) .B) (.p .C .j), .x .i .B, .w .C (.p .i .A)] (.ff) := lin 2 7
theorem o565 : LI [x0, x1] [] [.w .B (.p .i .A)] (.y .A (.p .B .j)) := lin 2 6
theorem o566 : LI [x0, x1] [] [.x (.p .B .i) .A] (.n (.w .A .B)) := lin 2 3
theorem o567 : LI [x0, x1] [] [] (.w (.p (.p (.p .A .i) .B) .i) (.p (.p .A (.p .B .i)) .i)) := lin 2 9
theorem o568 : LI [x0, x1] [] [.y .A .B, .w .A .B] (.ff) := lin 2 5
theorem o569 : LI [x0, x1, x2, x3] [] [.w .C .D, .w .A .D, .w .B .C] (.w .A .B) := lin 2 208985
theorem o570 : LI [x0, x1, x2] [] [.y .C .A, .y .B .A, .n (.w .B .C)] (.n (.w (.s (.s .A .i) .B) (.s (.s .A .i) .C))) := lin 2 750965319355499633144222934207487421104491488534111478926186419939148546843943252659864729649032082663143945818244
theorem o571 (h0 : (y0 <= (1000 : Int))) : (y0 <= (1000000 : Int)) := (li' [] [y0] [.X .P (.k 1000)] (.X .P (.k 1000000)) 2 3) h0
theorem o572 (h0 : ((x0 + x1) <= x3)) (h1 : (x3 <= x2)) : ((x0 + x1) <= x2) := (li' [x0, x1, x2, x3] [] [.x (.p .A .B) .D, .x .D .C] (.x (.p .A .B) .C) 2 7) h0 h1
theorem o573 (h0 : (y0 <= (1000000 : Int))) : ((Int.toNat y0) <= (1000000 : Nat)) := (li' [] [y0] [.X .P (.k 1000000)] (.x (.tn .P) (.k 1000000)) 2 37) h0
theorem o574 (h0 : ((-(1000000 : Int)) <= y0)) (h1 : (y0 <= (1000000 : Int))) : (((-(9223372036854775808 : Int)) <= y0) /\ (y0 < (9223372036854775808 : Int))) := (li' [] [y0] [.X (.neg (.k 1000000)) .P, .X .P (.k 1000000)] (.and (.X (.neg (.k 9223372036854775808)) .P) (.Y .P (.k 9223372036854775808))) 2 53) h0 h1
theorem o575 (h0 : (y0 <= (1000000 : Int))) : (y0 <= (1152921504606846975 : Int)) := (li' [] [y0] [.X .P (.k 1000000)] (.X .P (.k 1152921504606846975)) 2 3) h0
theorem o576 (h0 : (y0 <= (1000000 : Int))) : (y0 <= (16777216 : Int)) := (li' [] [y0] [.X .P (.k 1000000)] (.X .P (.k 16777216)) 2 3) h0
theorem o577 (h0 : (x1 = (1048576 : Nat))) (h1 : (x0 <= x1)) : (((x0 : Nat) : Int) < ((2 : Int) ^ (63 : Nat))) := (li' [x0, x1] [] [.w .B (.k 1048576), .x .A .B] (.Y (.c .A) (.k 9223372036854775808)) 2 13) h0 h1
theorem o578 (h0 : ((Int.toNat y0) < x1)) (h1 : (x2 = (1048576 : Nat))) (h2 : (x1 <= x2)) : (y0 < ((2 : Int) ^ (63 : Nat))) := (li' [x1, x2] [y0] [.y (.tn .P) .A, .w .B (.k 1048576), .x .A .B] (.Y .P (.k 9223372036854775808)) 2 8502) h0 h1 h2
theorem o579 (h0 : ((0 : Int) <= y0)) : ((-((2 : Int) ^ (63 : Nat))) <= y0) := (li' [] [y0] [.X .o .P] (.X (.neg (.k 9223372036854775808)) .P) 2 3) h0
theorem o580 : LI [] [y0] [.X .o .P] (.n (.Y .P .o)) := lin 2 3
theorem o581 : LI [x1] [y0] [.X .o .P, .y (.tn .P) .A] (.and (.X .o .P) (.Y .P (.c .A))) := lin 2 468361
theorem o582 : LI [] [y0] [.n (.X .o .P)] (.Y .P .o) := lin 2 3
theorem o583 : LI [x0] [y1] [.X .o (.p .P (.c .A))] (.X (.neg (.c .A)) .P) := lin 2 3
theorem o584 (h0 : ((0 : Int) <= (y0 + ((x1 : Nat) : Int)))) (h1 : (x2 = (1048576 : Nat))) (h2 : (x3 = x1)) (h3 : (x3 <= x2)) : ((-((2 : Int) ^ (63 : Nat))) <= y0) := (li' [x1, x2, x3] [y0] [.X .o (.p .P (.c .A)), .w .B (.k 1048576), .w .C .A, .x .C .B] (.X (.neg (.k 9223372036854775808)) .P) 2 115) h0 h1 h2 h3
theorem o585 (h0 : (¬ ((0 : Int) <= y0))) : (y0 < ((2 : Int) ^ (63 : Nat))) := (li' [] [y0] [.n (.X .o .P)] (.Y .P (.k 9223372036854775808)) 2 3) h0
theorem o586 : LI [x0, x1, x2] [] [.x .A .C, .x .C .B] (.x .A .B) := lin 2 7
theorem o587 (h0 : (y0 < ((x1 : Nat) : Int))) (h1 : (x2 = (1048576 : Nat))) (h2 : (x3 = x1)) (h3 : (x3 <= x2)) : (y0 < ((2 : Int) ^ (63 : Nat))) := (li' [x1, x2, x3] [y0] [.Y .P (.c .A), .w .B (.k 1048576), .w .C .A, .x .C .B] (.Y .P (.k 9223372036854775808)) 2 115) h0 h1 h2 h3
theorem o588 : LI [x1, x2] [y0] [.Y .P (.c .B), .w .A .B] (.Y .P (.c .A)) := lin 2 13
theorem o589 : LI [x0, x1, x2] [] [.x (.p .A .C) .B] (.x .A .B) := lin 2 7
theorem o590 : LI [x0, x1] [] [.y .B .A] (.y (.s .A (.p .B .i)) (.s .A .B)) := lin 2 1347912
theorem o591 : LI [x0, x1] [] [.w .A .B] (.n (.y .B .A)) := lin 2 5
theorem o592 : LI [x0, x1, x2] [] [.y (.p .A (.p .C .i)) .B] (.y .A .B) := lin 2 7
theorem o593 : LI [x0, x1, x2] [] [.y (.p .A (.p .B .i)) .C] (.y (.p (.p .A .i) .B) .C) := lin 2 3
theorem o594 : LI [x0, x1, x2] [] [.y (.p (.p .A (.mul 4 (.p .B .i))) (.k 100)) .C] (.y (.p (.p (.p .A (.k 3)) (.mul 4 .B)) (.k 100)) .C) := lin 2 3
theorem o595 : LI [x0, x1, x2] [] [.y .A .C, .x .C .A] (.w .A .B) := lin 2 195
theorem o598 : LI [x0] [y1, y2] [.X (.neg .Q) .P, .X .P .Q, .W (.c .A) .Q, .Y .o .Q] (.y (.na .P) (.mul 2 .A)) := lin 3 5676132
theorem o599 : LI [] [y0, y1] [.X .o .P, .X .P .Q] (.X (.neg .Q) .P) := lin 3 14
theorem o600 : LI [x0] [y1, y2] [.X (.neg .Q) .P, .X .P .Q, .Y .Q (.c .A)] (.y (.na .P) .A) := lin 2 1366
theorem o601 : LI [] [y0, y1] [.and (.X (.neg .Q) .P) (.X .P .Q)] (.x (.na .P) (.na .Q)) := lin 3 1956326988
theorem o602 : LI [] [y0, y1] [.x (.na .P) (.na .Q), .X .o .Q] (.and (.X (.neg .Q) .P) (.X .P .Q)) := lin 3 5483165005247963269
theorem o603 : LI [x0, x1, x2] [] [.w .C (.s (.p .A .i) .B), .Y .o (.p (.s (.c .A) (.c .B)) .i)] (.W (.p (.s (.c .A) (.c .B)) .i) (.c .C)) := lin 2 151589906
theorem o604 : LI [x0, x1, x2] [] [.w .C (.s (.p .A .i) .B), .n (.Y .o (.p (.s (.c .A) (.c .B)) .i))] (.W .o (.c .C)) := lin 2 336729370
theorem o605 : LI [x0, x1] [] [.Y (.c .A) (.c .B)] (.W (.c .B) (.c (.mx .A .B))) := lin 2 135267
theorem o606 : LI [x0, x1] [] [.n (.Y (.c .A) (.c .B))] (.W (.c .A) (.c (.mx .A .B))) := lin 2 201860
theorem o607 : LI [] [y0, y1, y2, y3, y4] [.X .o .P, .Y .P .R, .X .o .Q, .Y .Q .S, .X .R .T, .X .S .T] (.and (.X (.neg .T) (.s .Q .P)) (.X (.s .Q .P) .T)) := lin 2 13526
theorem o608 : LI [] [y0] [.Y .P .o] (.W (.neg .P) (.c (.na .P))) := lin 2 2331
theorem o609 : LI [] [y0] [.n (.Y .P .o)] (.W .P (.c (.na .P))) := lin 3 303516
theorem o612 : LI [] [y0, y1] [.and (.X .o .P) (.Y .P .Q), .Y .Q (.mul 2 .P)] (.X (.neg .Q) (.mul 2 (.s .P .Q))) := lin 2 12
theorem o613 : LI [] [y0, y1] [.n (.Y .Q (.mul 2 .P))] (.X (.mul 2 .P) .Q) := lin 2 3
theorem o615 : LI [x0, x1, x2] [] [.w .C (.s (.s .A .i) .B)] (.x (.s .A .B) (.p .C .i)) := lin 2 369710981176604763176
theorem o616 : LI [x0, x1, x2, x3] [] [.x (.p .A (.s .B .i)) .C, .n (.w .C (.s (.p .A .B) .i)), .n (.w .B .o), .x .D (.p .A .i)] (.x (.p .D (.s .B .i)) .C) := lin 2 1808895064424918485666439612327435811937416132584071391398368849640610405004692852681768402652235087269574968647690
theorem o617 : LI [x0, x1, x2] [] [.w .C (.s (.s .A .i) .B)] (.w (.s .A (.p .B .i)) .C) := lin 2 1745315421439759298018203392198387145134116
theorem o618 : LI [x0] [y1] [.w .A (.tn (.p .P .i)), .Y (.neg .i) .P] (.W (.p (.s (.s .P (.neg .i)) .i) .i) (.c .A)) := lin 2 2397458
theorem o619 : LI [x0] [y1] [.w .A (.tn (.p .P .i)), .n (.Y (.neg .i) .P)] (.W .o (.c .A)) := lin 2 5317978
theorem o620 : LI [] [y0] [.Y .o .P] (.W (.s .P .o) (.c (.tn .P))) := lin 2 1764
theorem o621 : LI [] [y0] [.n (.Y .o .P)] (.W .o (.c (.tn .P))) := lin 2 2357
theorem o622 : LI [x0] [y1] [.X .o .P, .Y .P (.k 1009), .y (.k 2000) .A] (.y (.na .P) .A) := lin 2 1366
theorem o623 : LI [x0, x1, x2, x3, x4] [] [.y .A .C, .y .B .D, .w .F (.s (.p .C .D) .i)] (.y (.p .A .B) .F) := lin 2 112691
theorem o624 : LI [x0, x1] [] [.n (.y .A (.s .B .i)), .n (.w .A (.s .B .i))] (.x .B .A) := lin 2 14118556946058250
theorem o625 : LI [x0] [] [.y .A .j] (.and (.X (.neg .i) (.s .i (.mul 2 (.c .A)))) (.X (.s .i (.mul 2 (.c .A))) .i)) := lin 3 572
theorem o626 : LI [x0] [] [.y .A .j] (.X (.c .A) (.k 1000000000)) := lin 2 3
theorem o627 : LI [] [y0] [.and (.X (.neg .i) .P) (.X .P .i)] (.and (.X (.neg (.k 1000000000)) .P) (.X .P (.k 1000000000))) := lin 2 53
theorem o628 : LI [x0, x1, x2] [] [.x .B (.k 4), .x (.k 200) .C] (.x (.p (.mn .A .B) (.s .B (.p .A .i))) .C) := lin 2 319559443
theorem o629 : LI [] [y0, y1, y2] [.and (.X (.neg .Q) (.mul 2 .P)) (.X (.mul 2 .P) .Q), .X .i .Q, .X .Q .R] (.and (.X (.neg .R) .P) (.X .P .R)) := lin 3 55630
theorem o630 : LI [x0, x1, x2, x3] [] [.x .A (.mx .B (.p .C .D)), .x .B .A, .w .C (.s .B .D), .n (.y .B .D)] (.w .A .B) := lin 2 4062614274644596125453525124
theorem o631 : LI [] [y0, y1] [.and (.X (.neg (.k 9)) .P) (.X .P (.k 9)), .and (.X (.neg (.k 9)) .Q) (.X .Q (.k 9))] (.and (.X (.neg (.k 648)) (.s .P .Q)) (.X (.s .P .Q) (.k 648))) := lin 2 729
theorem o632 : LI [x1] [y0] [.X .i .P, .x .A (.na .P)] (.and (.X (.neg .P) (.c .A)) (.X (.c .A) .P)) := lin 2 101785
theorem o633 : LI [x1] [y0] [.X .i .P, .x .A (.na .P)] (.and (.X (.neg .P) (.neg (.c .A))) (.X (.neg (.c .A)) .P)) := lin 2 102188
end Mine
end
section
namespace Mine
set_option genCtorIdx false
set_option genSizeOf false
@[reducible] noncomputable def R := Lean.Grind.CommRing.Expr
section
variable (ζ : List Int)
noncomputable def rd : R -> Int
 | .var i => ζ.getD i 0
 | .num n => n
 | .natCast _ => 0
 | .intCast _ => 0
 | .add a b => rd a + rd b
 | .sub a b => rd a - rd b
 | .mul a b => rd a * rd b
 | .neg a => - rd a
 | .pow a n => rd a ^ n
noncomputable def RI : List (R × R) -> R -> R -> Prop
 | [], e, f => rd ζ e = rd ζ f
 | h :: r, e, f => rd ζ h.1 = rd ζ h.2 -> RI r e f
noncomputable def mv : List Nat -> Int
 | [] => 1
 | i :: m => ζ.getD i 0 * mv m
noncomputable def pv : List (Int × List Nat) -> Int
 | [] => 0
 | t :: r => t.1 * mv ζ t.2 + pv r
end
noncomputable def mins (i : Nat) : List Nat -> List Nat
 | [] => [i]
 | j :: m => bif Nat.ble i j then i :: j :: m else j :: mins i m
noncomputable def mmul (a b : List Nat) : List Nat := a.foldr mins b
noncomputable def tins (c : Int) (m : List Nat) : List (Int × List Nat) -> List (Int × List Nat)
 | [] => [(c, m)]
 | t :: r => if m = t.2 then (c + t.1, m) :: r else t :: tins c m r
noncomputable def q2e (a b : List (Int × List Nat)) : List (Int × List Nat) := a.foldr (fun t r => tins t.1 t.2 r) b
noncomputable def ptm (c : Int) (m : List Nat) (b : List (Int × List Nat)) : List (Int × List Nat) := b.map fun t => (c * t.1, mmul m t.2)
noncomputable def pmu (a b : List (Int × List Nat)) : List (Int × List Nat) := a.foldr (fun t r => q2e (ptm t.1 t.2 b) r) []
noncomputable def ppw (a : List (Int × List Nat)) : Nat -> List (Int × List Nat)
 | 0 => [(1, [])]
 | n + 1 => pmu (ppw a n) a
noncomputable def rn : R -> List (Int × List Nat)
 | .var i => [(1, [i])]
 | .num n => [(n, [])]
 | .natCast _ => []
 | .intCast _ => []
 | .add a b => q2e (rn a) (rn b)
 | .sub a b => q2e (rn a) (ptm (-1) [] (rn b))
 | .mul a b => pmu (rn a) (rn b)
 | .neg a => ptm (-1) [] (rn a)
 | .pow a n => ppw (rn a) n
variable {ζ : List Int}
theorem q3v (i : Nat) : ∀ m : List Nat, mv ζ (mins i m) = ζ.getD i 0 * mv ζ m
 | [] => rfl
 | j :: m => by
  show mv ζ (bif Nat.ble i j then i :: j :: m else j :: mins i m) = _
  cases Nat.ble i j with
  | true => rfl
  | false => exact (congrArg _ (q3v i m)).trans (Int.mul_left_comm ..)
theorem q3u (b : List Nat) : ∀ a : List Nat, mv ζ (mmul a b) = mv ζ a * mv ζ b
 | [] => (Int.one_mul _).symm
 | i :: a => (q3v i _).trans ((congrArg _ (q3u b a)).trans (Int.mul_assoc ..).symm)
set_option tactic.hygienic true in
theorem q3m (c : Int) (m : List Nat) : ∀ r, pv ζ (tins c m r) = c * mv ζ m + pv ζ r
 | [] => rfl
 | t :: r => by
  show pv ζ (if m = t.2 then (c + t.1, m) :: r else t :: tins c m r) = _
  split
  ·rename_i h
   show (c + t.1) * mv ζ m + pv ζ r = c * mv ζ m + (t.1 * mv ζ t.2 + pv ζ r)
   rw [Int.add_mul, Int.add_assoc, h]
  ·exact (congrArg _ (q3m c m r)).trans (Int.add_left_comm ..)
theorem y6e (b : List (Int × List Nat)) : ∀ a, pv ζ (q2e a b) = pv ζ a + pv ζ b
 | [] => (Int.zero_add _).symm
 | t :: a => (q3m t.1 t.2 _).trans ((congrArg _ (y6e b a)).trans (Int.add_assoc ..).symm)
theorem q5s (c : Int) (m : List Nat) : ∀ b, pv ζ (ptm c m b) = c * mv ζ m * pv ζ b
 | [] => (Int.mul_zero _).symm
 | t :: b => by
  show c * t.1 * mv ζ (mmul m t.2) + pv ζ (ptm c m b) = c * mv ζ m * (t.1 * mv ζ t.2 + pv ζ b)
  rw [q3u, q5s c m b, Int.mul_add, Int.mul_assoc c t.1, Int.mul_left_comm t.1, <- Int.mul_assoc c]
theorem q5t (b : List (Int × List Nat)) : ∀ a, pv ζ (pmu a b) = pv ζ a * pv ζ b
 | [] => (Int.zero_mul _).symm
 | t :: a => (y6e _ _).trans (((congr (congrArg _ (q5s t.1 t.2 b)) (q5t b a))).trans (Int.add_mul ..).symm)
theorem pv_pw (a : List (Int × List Nat)) : ∀ n, pv ζ (ppw a n) = pv ζ a ^ n
 | 0 => (Int.pow_zero _).symm
 | n + 1 => (q5t _ _).trans ((congrArg (· * _) (pv_pw a n)).trans (Int.pow_succ ..).symm)
theorem q3l (p : List (Int × List Nat)) : pv ζ (ptm (-1) [] p) = - pv ζ p := (q5s _ _ _).trans (Int.neg_one_mul _)
theorem rok : ∀ e : R, pv ζ (rn e) = rd ζ e
 | .var i => (Int.add_zero _).trans ((Int.one_mul _).trans (Int.mul_one _))
 | .num n => (Int.add_zero _).trans (Int.mul_one _)
 | .natCast _ => rfl
 | .intCast _ => rfl
 | .add a b => (y6e _ _).trans (congr (congrArg _ (rok a)) (rok b))
 | .sub a b => (y6e _ _).trans ((congr (congrArg _ (rok a)) ((q3l _).trans (congrArg (- ·) (rok b)))).trans Int.sub_eq_add_neg.symm)
 | .mul a b => (q5t _ _).trans (congr (congrArg _ (rok a)) (rok b))
 | .neg a => (q3l _).trans (congrArg (- ·) (rok a))
 | .pow a n => (pv_pw _ _).trans (congrArg (· ^ n) (rok a))
theorem y9m : ∀ p : List (Int × List Nat), p.all (fun t => t.1 == 0) = true -> pv ζ p = 0
 | [], _ => rfl
 | t :: r, h => by
  obtain ⟨h1, h2⟩ := Bool.and_eq_true_iff.mp (show ((t.1 == 0) && r.all (fun t => t.1 == 0)) = true from h)
  show t.1 * _ + pv ζ r = 0
  rw [eq_of_beq h1, Int.zero_mul, y9m r h2]; rfl
noncomputable def q5r : List (R × R) -> List R -> R -> R
 | h :: r, c :: cs, e => q5r r cs (.sub e (.mul c (.sub h.1 h.2)))
 | _, _, e => e
noncomputable def rck (hs : List (R × R)) (cs : List R) (e f : R) : Bool := (rn (q5r hs cs (.sub e f))).all fun t => t.1 == 0
theorem q5o : ∀ (hs : List (R × R)) (cs : List R) (g e f : R), rd ζ (q5r hs cs g) = 0 -> (rd ζ g = 0 -> rd ζ e = rd ζ f) -> RI ζ hs e f
 | [], _, g, e, f, h, k => k h
 | a :: r, [], g, e, f, h, k => fun _ => q5o r [] g e f (by cases r <;> exact h) k
 | a :: r, c :: cs, g, e, f, h, k => fun q => q5o r cs _ e f h fun z => k (by
  have z' : rd ζ g - rd ζ c * (rd ζ a.1 - rd ζ a.2) = 0 := z
  rwa [Int.sub_eq_zero.mpr q, Int.mul_zero, Int.sub_zero] at z')
theorem rin {hs : List (R × R)} {e f : R} (cs : List R) (h : true = rck hs cs e f := by kernel_rfl) : RI ζ hs e f :=
 q5o hs cs (.sub e f) e f ((rok _).symm.trans (y9m _ h.symm)) fun q => Int.sub_eq_zero.mp q
@[reducible] noncomputable def Ra : R := .var 0
@[reducible] noncomputable def Rb : R := .var 1
@[reducible] noncomputable def Rc : R := .var 2
@[reducible] noncomputable def Rd : R := .var 3
@[reducible] noncomputable def Re : R := .var 4
@[reducible] noncomputable def Rf : R := .var 5
@[reducible] noncomputable def Rg : R := .var 6
@[reducible] noncomputable def Rh : R := .var 7
@[reducible] noncomputable def Ri : R := .var 8
@[reducible] noncomputable def Rj : R := .var 9
@[reducible] noncomputable def Rk : R := .var 10
@[reducible] noncomputable def R0 : R := .num 0
@[reducible] noncomputable def R1 : R := .num 1
@[reducible] noncomputable def R2 : R := .num 2
@[reducible] noncomputable def Rp (a b : R) : R := .add a b
@[reducible] noncomputable def Rs (a b : R) : R := .sub a b
@[reducible] noncomputable def Rm (a b : R) : R := .mul a b
@[reducible] noncomputable def Rn (a : R) : R := .neg a
end Mine
end
section
namespace Mine
variable {x0 x1 x2 x3 x4 x5 x6 x7 x8 x9 x10 x11 : Int}
theorem r0 : RI [x0, x1, x2, x3, x4] [] (Rp (Rp Ra Rb) (Rm Rc (Rp Rd Re))) (Rp (Rp Ra (Rm Rc Rd)) (Rp Rb (Rm Rc Re))) := rin []
theorem r1 : RI [x0, x1, x2, x3] [] (Rp (Rm Ra Rb) (Rm Rc (Rm Ra Rd))) (Rm Ra (Rp Rb (Rm Rc Rd))) := rin []
theorem r2 : RI [x0, x1, x2] [] (Rp R0 (Rm Ra (Rm Rb Rc))) (Rm (Rm Rb Ra) Rc) := rin []
theorem r3 : RI [x0, x1, x2, x3] [] (Rp (Rm Ra Rb) (Rp R0 (Rm Rc (Rm Rd Rb)))) (Rm (Rp Ra (Rm Rc Rd)) Rb) := rin []
theorem r4 : RI [x0, x1, x2, x3, x4] [] (Rp Ra (Rm Rb (Rp Rc (Rm Rd Re)))) (Rp (Rp Ra (Rm Rb Rc)) (Rm (Rm Rd Rb) Re)) := rin []
theorem r5 : RI [x0, x1, x2, x3, x4, x5, x6] [] (Rp (Rm Ra (Rp Rb (Rm Rc (Rp (Rm Rd Re) (Rm Rf R0))))) (Rm Rd Rg)) (Rp (Rm Ra Rb) (Rm Rd (Rp Rg (Rm Ra (Rm Rc (Rp Re (Rm Rf R0))))))) := rin []
theorem r6 : RI [x0, x1, x2, x3] [] (Rp Ra (Rm (Rn R1) (Rm Rb (Rm Rc Rd)))) (Rs Ra (Rm Rd (Rm Rc Rb))) := rin []
theorem r7 : RI [x0, x1, x2, x3] [] (Rs Ra (Rm Rb (Rm Rc Rd))) (Rp Ra (Rm Rb (Rm (Rn Rc) Rd))) := rin []
theorem r8 : RI [x0, x1, x2, x3] [] Ra (Rp (Rs Ra (Rm Rb (Rm Rc Rd))) (Rm Rb (Rm Rc Rd))) := rin []
theorem r9 : RI [x0, x1, x2, x3] [] (Rp (Rm Ra Rb) (Rm R0 Rc)) (Rp (Rm Ra Rb) (Rm Rd R0)) := rin []
theorem r10 : RI [x0, x1, x2, x3, x4, x5] [] (Rp (Rp (Rm Ra Rb) (Rm Rc Rd)) (Rm R0 Re)) (Rp (Rp (Rm Ra Rb) (Rm Rc Rd)) (Rm Rf R0)) := rin []
theorem r11 : RI [x0, x1, x2] [] (Rp (Rm Ra Rb) (Rm (Rn R1) Rc)) (Rp (Rm Rb Ra) (Rm Rc (Rn R1))) := rin []
theorem r12 : RI [x0, x1, x2, x3, x4, x5, x6] [(Rf, Rm Rd Rb)] (Rs Ra (Rm Rb Rc)) (Rs (Rs (Rm Rb (Rp (Rm Rd Re) (Rm (Rn R1) Rc))) (Rm Re (Rs Rf Rg))) (Rs (Rm Re Rg) Ra)) := rin [Re]
theorem r13 : RI [x0, x1, x2] [] (Rm Ra (Rp Rb (Rm Rc R0))) (Rm Rb Ra) := rin []
theorem r14 : RI [x0, x1, x2, x3] [] (Rm (Rm Ra (Rm Rb Rc)) Rd) (Rm (Rm (Rm Ra Rb) Rd) Rc) := rin []
theorem r15 : RI [x0, x1, x2, x3] [] (Rm (Rm Ra Rb) (Rm Rc Rd)) (Rm (Rm (Rm Ra Rb) Rc) Rd) := rin []
theorem r16 : RI [x0, x1, x2] [] (Rm (Rm Ra (Rm Rb Rc)) R1) (Rm (Rm (Rm Ra Rb) R1) Rc) := rin []
theorem r17 : RI [x0, x1, x2, x3] [] (Rm (Rm (Rm Ra Rb) Rc) Rd) (Rm (Rm (Rm Ra Rc) Rd) Rb) := rin []
theorem r18 : RI [x0, x1, x2, x3, x4] [] (Rp (Rm Ra Rb) (Rm (Rn R1) (Rm Rc (Rm Rd Re)))) (Rs (Rm Ra Rb) (Rm Rc (Rm Rd Re))) := rin []
theorem r19 : RI [x0, x1, x2, x3, x4, x5, x6, x7, x8] [(Rm Ra Rc, Rp (Rm Rd Re) Ri)] (Rm (Rm Ra Rb) Rc) (Rp (Rm Rd (Rp (Rm Rb Re) (Rm Rf (Rp Rg (Rm Rh R0))))) (Rs (Rm Rb Ri) (Rm Rf (Rm Rg Rd)))) := rin [Rb]
theorem r20 : RI [x0, x1, x2, x3] [] (Rm Ra (Rp (Rm Rb Rc) Rd)) (Rp (Rm Rb (Rm Ra Rc)) (Rm Ra Rd)) := rin []
theorem r21 : RI [x0, x1, x2, x3, x4, x5, x6, x7] [(Rm Rg Rh, Rp (Rm Rc Rd) Rb), (Rm Rg Rh, Rp (Rm Rc Re) Ra)] (Rp Ra (Rm (Rn R1) Rb)) (Rp (Rm Rc (Rp Rd (Rm (Rn R1) Re))) (Rm R0 Rf)) := rin [R1, Rn R1]
theorem r22 : RI [x0, x1, x2, x3, x4] [] (Rs (Rm Ra Rb) (Rm Rc Rd)) (Rp (Rm (Rp Rc (Rm Re (Rp Ra (Rm Re R0)))) (Rp (Rn Rd) (Rm Re R0))) (Rm (Rp Rb (Rm Re (Rp Rd (Rm Re R0)))) (Rp Ra (Rm Re R0)))) := rin []
theorem r23 : RI [x0, x1, x2, x3, x4, x5] [] (Rp (Rm Ra (Rs (Rm Ra Rb) (Rm Rc Rd))) (Rm Rc (Rm Rc Re))) (Rp (Rm (Rp Rc (Rm Rf (Rp Ra (Rm Rf R0)))) (Rp (Rs (Rm Rc Re) (Rm Ra Rd)) (Rm Rf (Rp (Rn (Rm Ra Re)) (Rm Rf R0))))) (Rm (Rp Rb (Rm Rf (Rp Rd (Rm Rf (Rp Re (Rm Rf R0)))))) (Rp (Rm Ra Ra) (Rm Rf R0)))) := rin []
theorem r24 : RI [x0, x1, x2, x3, x4, x5] [] (Rp (Rs (Rm Ra (Rm Rb Rb)) (Rm Rc (Rm Rd Rb))) (Rm Re (Rm Rd Rd))) (Rp (Rm (Rp Re (Rm Rf (Rp Rc (Rm Rf (Rp Ra (Rm Rf R0)))))) (Rp (Rm Rd Rd) (Rm Rf R0))) (Rm (Rp Rb (Rm Rf (Rp Rd (Rm Rf R0)))) (Rp (Rs (Rm Ra Rb) (Rm Rc Rd)) (Rm Rf (Rp (Rn (Rm Ra Rd)) (Rm Rf R0)))))) := rin []
theorem r25 : RI [x0, x1, x2, x3, x4, x5, x6] [] (Rp (Rm (Rs (Rm Ra Rb) (Rm Rc Rd)) (Rs (Rm Ra Rb) (Rm Rc Rd))) (Rm (Rs (Rm Ra Re) (Rm Rc Rf)) (Rs (Rm Re Rd) (Rm Rb Rf)))) (Rp (Rm (Rp Rb (Rm Rg (Rp Re (Rm Rg (Rp Rc (Rm Rg R0)))))) (Rp (Rs (Rm (Rs (Rm Ra Rb) (Rm Rc Rd)) Ra) (Rm (Rs (Rm Ra Re) (Rm Rc Rf)) Rf)) (Rm Rg (Rp (Rn (Rm (Rs (Rm Ra Re) (Rm Rc Rf)) Ra)) (Rm Rg R0))))) (Rm (Rp Rd (Rm Rg (Rp Rf (Rm Rg (Rp Ra (Rm Rg R0)))))) (Rp (Rp (Rn (Rm (Rs (Rm Ra Rb) (Rm Rc Rd)) Rc)) (Rm (Rs (Rm Ra Re) (Rm Rc Rf)) Re)) (Rm Rg (Rp (Rm (Rs (Rm Ra Re) (Rm Rc Rf)) Rc) (Rm Rg R0)))))) := rin []
theorem r26 : RI [x0, x1, x2, x3, x4] [] (Rp Ra (Rm Rb (Rp Rc (Rm Rb R0)))) (Rp (Rm (Rp Rd (Rm Rb (Rp Re (Rm Rb R0)))) R0) (Rm (Rp Ra (Rm Rb (Rp Rc (Rm Rb R0)))) (Rp R1 (Rm Rb R0)))) := rin []
theorem r27 : RI [x0, x1, x2, x3] [] (Rm R1 (Rp Ra (Rm Rb (Rp Rc (Rm Rb R0))))) (Rp (Rm (Rp Ra (Rm Rb (Rp Rc (Rm Rb R0)))) (Rp R1 (Rm Rb R0))) (Rm Rd R0)) := rin []
theorem r28 : RI [x0, x1, x2, x3, x4, x5, x6] [(Rs (Rm Rd Re) (Rm Rb Ra), Rm Rf Rg)] (Rm Ra (Rp Rb (Rm Rc (Rp Rd (Rm Rc R0))))) (Rp (Rm (Rp Re (Rm Rc (Rp Ra (Rm Rc R0)))) (Rp Rd (Rm Rc R0))) (Rm Rf (Rp (Rn Rg) (Rm Rc R0)))) := rin [Rn R1]
theorem r29 : RI [x0, x1, x2, x3, x4, x5] [] (Rp Ra (Rm Rb (Rp Rc (Rm Rb R0)))) (Rp (Rm (Rp Rd (Rm Rb (Rp Re (Rm Rb (Rp Rf (Rm Rb R0)))))) R0) (Rm (Rp Ra (Rm Rb (Rp Rc (Rm Rb R0)))) (Rp R1 (Rm Rb R0)))) := rin []
theorem r30 : RI [x0, x1, x2, x3, x4, x5, x6, x7] [(Rp (Rs (Rm Re (Rm Rf Rf)) (Rm Rd (Rm Ra Rf))) (Rm Rb (Rm Ra Ra)), Rm Rg Rh)] (Rm (Rm Ra Ra) (Rp Rb (Rm Rc (Rp Rd (Rm Rc (Rp Re (Rm Rc R0))))))) (Rp (Rm (Rp Rf (Rm Rc (Rp Ra (Rm Rc R0)))) (Rp (Rs (Rm Ra Rd) (Rm Re Rf)) (Rm Rc (Rp (Rm Ra Re) (Rm Rc R0))))) (Rm Rg (Rp Rh (Rm Rc R0)))) := rin [R1]
theorem r31 : RI [x0, x1, x2, x3, x4, x5, x6, x7, x8] [(Rp (Rm (Rs (Rm Ra Rb) (Rm Rc Rd)) (Rs (Rm Ra Rb) (Rm Rc Rd))) (Rm (Rm Re Rg) (Rs (Rm Rh Rd) (Rm Rb Ri))), Rm Re Rf)] (Rm (Rs (Rm Ra Rb) (Rm Rc Rd)) (Rs (Rm Ra Rb) (Rm Rc Rd))) (Rm Re (Rs Rf (Rm Rg (Rs (Rm Rh Rd) (Rm Rb Ri))))) := rin [R1]
theorem r32 : RI [x0, x1, x2, x3, x4, x5, x6] [] (Rp Ra (Rm Rb (Rp Rc (Rm Rb (Rp Rd (Rm Rb R0)))))) (Rp (Rm (Rp Re (Rm Rb (Rp Rf (Rm Rb (Rp Rg (Rm Rb R0)))))) R0) (Rm (Rp Ra (Rm Rb (Rp Rc (Rm Rb (Rp Rd (Rm Rb R0)))))) (Rp R1 (Rm Rb R0)))) := rin []
theorem r33 : RI [x0, x1, x2, x3, x4] [] (Rm R1 (Rp Ra (Rm Rb (Rp Rc (Rm Rb (Rp Rd (Rm Rb R0))))))) (Rp (Rm (Rp Ra (Rm Rb (Rp Rc (Rm Rb (Rp Rd (Rm Rb R0)))))) (Rp R1 (Rm Rb R0))) (Rm Re R0)) := rin []
theorem r34 : RI [x0, x1, x2, x3, x4, x5, x6, x7, x8, x9] [(Rs (Rm Ra Rd) (Rm Re Rg), Rm Rh Rj), (Rs (Rm Ra Rb) (Rm Re Rf), Rm Rh Ri)] (Rm Ra (Rp Rb (Rm Rc (Rp Rd (Rm Rc (Rp Re (Rm Rc R0))))))) (Rp (Rm (Rp Rf (Rm Rc (Rp Rg (Rm Rc (Rp Ra (Rm Rc R0)))))) (Rp Re (Rm Rc R0))) (Rm Rh (Rp Ri (Rm Rc (Rp Rj (Rm Rc R0)))))) := rin [Rc, R1]
theorem r35 : RI [x0, x1, x2] [] (Rm Ra (Rm Rb Rc)) (Rm Rb (Rm Ra Rc)) := rin []
theorem r36 : RI [x0, x1, x2, x3, x4, x5, x6] [] (Rm (Rm (Rs (Rm Ra Rb) (Rm Rc Rd)) (Rs (Rm Ra Rb) (Rm Rc Rd))) (Rp Re (Rm Rf (Rp Rd (Rm Rf Ra))))) (Rp (Rm (Rp (Rs (Rm Ra Rg) (Rm Rc Re)) (Rm Rf (Rs (Rm Ra Rb) (Rm Rc Rd)))) (Rp (Rs (Rm (Rs (Rm Ra Rb) (Rm Rc Rd)) Rd) (Rm Ra (Rs (Rm Ra Rg) (Rm Rc Re)))) (Rm Rf (Rm (Rs (Rm Ra Rb) (Rm Rc Rd)) Ra)))) (Rm Ra (Rp (Rm (Rs (Rm Ra Rg) (Rm Rc Re)) (Rs (Rm Ra Rg) (Rm Rc Re))) (Rm (Rs (Rm Ra Rb) (Rm Rc Rd)) (Rs (Rm Rb Re) (Rm Rg Rd)))))) := rin []
theorem r37 : RI [x0, x1, x2, x3, x4, x5, x6] [] (Rp (Rs (Rm Ra Rb) (Rm Rc Rd)) (Rm Re (Rp (Rs (Rm Ra Rf) (Rm Rc Rg)) (Rm Re R0)))) (Rp (Rm (Rp Rb (Rm Re (Rp Rf (Rm Re (Rp Rc (Rm Re R0)))))) (Rp Ra (Rm Re R0))) (Rm (Rp Rd (Rm Re (Rp Rg (Rm Re (Rp Ra (Rm Re R0)))))) (Rp (Rn Rc) (Rm Re R0)))) := rin []
theorem r38 : RI [x0, x1, x2, x3, x4, x5, x6, x7] [] (Rm (Rm Ra Rb) (Rp Rc (Rm Rd (Rp Re (Rm Rd Rf))))) (Rp (Rm Rf (Rm Ra (Rp Rg (Rm Rd (Rp Rh (Rm Rd Rb)))))) (Rm Ra (Rp (Rs (Rm Rb Rc) (Rm Rf Rg)) (Rm Rd (Rs (Rm Rb Re) (Rm Rf Rh)))))) := rin []
theorem r39 : RI [x0, x1, x2, x3, x4, x5] [] (Rm (Rm Ra Rb) (Rp Rc (Rm Rd (Rp Re (Rm Rd (Rp Rf (Rm Rd R0))))))) (Rm (Rm Ra Rb) (Rp Rc (Rm Rd (Rp Re (Rm Rd Rf))))) := rin []
theorem r40 : RI [x0, x1, x2, x3, x4, x5, x6, x7, x8, x9] [] (Rp (Rm Ra (Rp (Rm (Rp (Rs (Rm Rb Rc) (Rm Ra Rd)) (Rm Re (Rs (Rm Rb Rf) (Rm Ra Rg)))) (Rp (Rs (Rm (Rs (Rm Rb Rf) (Rm Ra Rg)) Rg) (Rm Rb (Rs (Rm Rb Rc) (Rm Ra Rd)))) (Rm Re (Rm (Rs (Rm Rb Rf) (Rm Ra Rg)) Rb)))) (Rm Rh (Rm Rb Ri)))) (Rm Rj (Rp (Rs (Rm Rb Rc) (Rm Ra Rd)) (Rm Re (Rs (Rm Rb Rf) (Rm Ra Rg)))))) (Rp (Rm (Rp (Rs (Rm Rb Rc) (Rm Ra Rd)) (Rm Re (Rp (Rs (Rm Rb Rf) (Rm Ra Rg)) (Rm Re R0)))) (Rp (Rp (Rm Ra (Rs (Rm (Rs (Rm Rb Rf) (Rm Ra Rg)) Rg) (Rm Rb (Rs (Rm Rb Rc) (Rm Ra Rd))))) Rj) (Rm Re (Rp (Rm Ra (Rm (Rs (Rm Rb Rf) (Rm Ra Rg)) Rb)) (Rm Re R0))))) (Rm Rh (Rp (Rm Ra (Rm Rb Ri)) (Rm Re R0)))) := rin []
theorem r41 : RI [x0, x1, x2, x3] [] (Rp Ra (Rm Rb (Rp Rc (Rm Rb (Rp Rd (Rm Rb R0)))))) (Rp Ra (Rm Rb (Rp Rc (Rm Rb Rd)))) := rin []
theorem r42 : RI [x0, x1, x2, x3, x4, x5, x6, x7, x8] [] (Rp (Rm (Rp (Rs (Rm Ra Rb) (Rm Rc Rd)) (Rm Re (Rs (Rm Ra Rf) (Rm Rc Rg)))) (Rp (Rs (Rm (Rs (Rm Ra Rf) (Rm Rc Rg)) Rg) (Rm Ra (Rs (Rm Ra Rb) (Rm Rc Rd)))) (Rm Re (Rm (Rs (Rm Ra Rf) (Rm Rc Rg)) Ra)))) (Rm Rh (Rm Ra Ri))) (Rp (Rm (Rp (Rs (Rm Ra Rb) (Rm Rc Rd)) (Rm Re (Rp (Rs (Rm Ra Rf) (Rm Rc Rg)) (Rm Re R0)))) (Rp (Rs (Rm (Rs (Rm Ra Rf) (Rm Rc Rg)) Rg) (Rm Ra (Rs (Rm Ra Rb) (Rm Rc Rd)))) (Rm Re (Rp (Rm (Rs (Rm Ra Rf) (Rm Rc Rg)) Ra) (Rm Re R0))))) (Rm Rh (Rp (Rm Ra Ri) (Rm Re R0)))) := rin []
theorem r43 : RI [x0, x1, x2, x3] [] (Rs (Rm Ra Rb) (Rm Rc Rd)) (Rn (Rs (Rm Rd Rc) (Rm Rb Ra))) := rin []
theorem r44 : RI [x0, x1, x2, x3, x4] [] (Rp (Rm Ra (Rs (Rm Ra Rb) (Rm Rc Rd))) (Rm Rc (Rm Rc Re))) (Rp (Rs (Rm Re (Rm Rc Rc)) (Rm Rd (Rm Ra Rc))) (Rm Rb (Rm Ra Ra))) := rin []
theorem r45 : RI [x0, x1, x2, x3, x4] [] (Rp (Rs (Rm Ra (Rm Rb Rb)) (Rm Rc (Rm Rd Rb))) (Rm Re (Rm Rd Rd))) (Rp (Rm Rd (Rs (Rm Rd Re) (Rm Rb Rc))) (Rm Rb (Rm Rb Ra))) := rin []
theorem r46 : RI [x0, x1, x2, x3, x4, x5] [] (Rp (Rm (Rs (Rm Ra Rb) (Rm Rc Rd)) (Rs (Rm Ra Rb) (Rm Rc Rd))) (Rm (Rs (Rm Ra Re) (Rm Rc Rf)) (Rs (Rm Re Rd) (Rm Rb Rf)))) (Rp (Rm (Rs (Rm Rc Rd) (Rm Ra Rb)) (Rs (Rm Rc Rd) (Rm Ra Rb))) (Rm (Rs (Rm Rc Rf) (Rm Ra Re)) (Rs (Rm Rf Rb) (Rm Rd Re)))) := rin []
theorem r47 : RI [x0, x1, x2, x3, x4, x5] [(Rm Rb Rd, Rm (Rm Rb Re) Rf)] (Rm (Rm Ra (Rm Rb Rc)) Rd) (Rp (Rm (Rm Rb Re) (Rm (Rm Ra Rc) Rf)) R0) := rin [Rm Ra Rc]
theorem r48 : RI [x0, x1, x2] [] (Rm Ra (Rm Rb Rc)) (Rm (Rm Ra Rb) Rc) := rin []
theorem r49 : RI [x0, x1, x2, x3, x4, x5, x6, x7, x8] [] (Rm (Rm Ra Rb) (Rm Rc (Rp Rd (Rm Re (Rp Rf (Rm Re (Rp Rg (Rm Re R0)))))))) (Rp (Rm (Rm Rc (Rp Rh (Rm Re (Rp Ri (Rm Re (Rp Rb (Rm Re R0))))))) (Rp (Rm Ra Rg) (Rm Re R0))) (Rm Ra (Rm Rc (Rp (Rs (Rm Rb Rd) (Rm Rg Rh)) (Rm Re (Rp (Rs (Rm Rb Rf) (Rm Rg Ri)) (Rm Re R0))))))) := rin []
theorem r50 : RI [x0, x1, x2] [] (Rp Ra (Rm Rb (Rp Rc (Rm Rb R0)))) (Rp Ra (Rm Rb Rc)) := rin []
theorem r51 : RI [x0, x1, x2, x3, x4, x5] [] (Rp (Rm (Rm (Rm Ra Ra) Ra) (Rs (Rm Rb Rc) (Rm Rd Re))) (Rm Rf (Rp (Rm (Rm (Rm Ra Ra) Ra) (Rm Rb Rd)) (Rm Rf R0)))) (Rm (Rm (Rm Ra Ra) Ra) (Rp (Rs (Rm Rb Rc) (Rm Rd Re)) (Rm Rf (Rm Rb Rd)))) := rin []
theorem r52 : RI [x0, x1, x2, x3] [] (Rm (.pow (Rm Ra (Rm Ra Rb)) 2) (Rm Rc Rd)) (Rm (Rm (Rm (Rm (Rm Ra Ra) Ra) Ra) Rc) (Rm (Rm Rb Rb) Rd)) := rin []
theorem r53 : RI [x0, x1, x2, x3, x4, x5] [] (Rm (Rm (Rm (Rm (Rm Ra Ra) Ra) Ra) Rb) (Rp (Rm Rc Rd) (Rm Re Rf))) (Rp (Rm (Rm Ra (Rm Rb Rc)) (Rm (Rm (Rm Ra Ra) Ra) Rd)) (Rm (Rm Ra Re) (Rm (Rm (Rm (Rm Ra Ra) Ra) Rf) Rb))) := rin []
theorem r54 : RI [x0, x1, x2, x3] [] (Rm Ra (Rm Rb (Rm Rc Rd))) (Rm (Rm Ra Rc) (Rm Rb Rd)) := rin []
theorem r55 : RI [x0, x1, x2, x3, x4, x5] [(Rs (Rm Ra Rd) (Rm Rc Re), Rf)] (Rs (Rm (Rs Ra (Rm Rb Rc)) Rd) (Rm Rc (Rs Re (Rm Rb Rd)))) Rf := rin [R1]
theorem r56 : RI [x0, x1, x2, x3, x4, x5] [(Rs (Rm Ra Rb) (Rm Re Rd), Rf)] (Rs (Rm Ra (Rs Rb (Rm Rc Rd))) (Rm (Rs Re (Rm Rc Ra)) Rd)) Rf := rin [R1]
theorem r57 : RI [x0, x1] [] (Rm (Rn Ra) (Rs Rb R1)) (Rp (Rn (Rm Ra Rb)) Ra) := rin []
theorem r58 : RI [x0, x1] [] (Rm Ra (Rs Rb R1)) (Rs (Rm Ra Rb) Ra) := rin []
theorem r59 : RI [x0, x1] [] (Rm (Rn Ra) Rb) (Rn (Rm Ra Rb)) := rin []
theorem r60 : RI [x0, x1, x2, x3, x4, x5, x6, x7, x8, x9] [(Rp (Rm Ra Rd) (Rm Re Rg), Ri), (Rp (Rm Rc Rd) (Rm Rf Rg), Rj), (Rs Ri (Rm Rb Rj), Rh)] (Rp (Rm (Rs Ra (Rm Rb Rc)) Rd) (Rm (Rs Re (Rm Rb Rf)) Rg)) Rh := rin [R1, Rn Rb, R1]
theorem r61 : RI [x0, x1, x2, x3, x4] [] (Rm (Rp Ra (Rm Rb Rc)) (Rp Rd (Rm Rb Re))) (Rp (Rm Ra Rd) (Rm Rb (Rp (Rp (Rm Ra Re) (Rm Rc Rd)) (Rm Rb (Rm Rc Re))))) := rin []
theorem r62 : RI [x0, x1, x2, x3] [] (Rm (Rm Ra Rb) (Rm Rc Rd)) (Rm (Rm Ra Rc) (Rm Rb Rd)) := rin []
theorem r63 : RI [x0, x1, x2, x3, x4, x5] [] (Rs (Rm (Rm Ra Rb) (Rm Rc Rd)) (Rm (Rm Ra Re) (Rm Rc Rf))) (Rm (Rm Ra Rc) (Rs (Rm Rb Rd) (Rm Re Rf))) := rin []
theorem r64 : RI [x0, x1, x2, x3, x4, x5, x6] [] (Rp (Rm (Rm Ra Rb) (Rs (Rm (Rm Ra Rb) (Rm Rc Rd)) (Rm (Rm Ra Re) (Rm Rc Rf)))) (Rm (Rm Ra Re) (Rm (Rm Ra Re) (Rm Rc Rg)))) (Rm (Rm (Rm Ra Ra) Rc) (Rp (Rm Rb (Rs (Rm Rb Rd) (Rm Re Rf))) (Rm Re (Rm Re Rg)))) := rin []
theorem r65 : RI [x0, x1, x2, x3, x4, x5, x6] [] (Rp (Rs (Rm (Rm Ra Rb) (Rm (Rm Rc Rd) (Rm Rc Rd))) (Rm (Rm Ra Re) (Rm (Rm Rc Rf) (Rm Rc Rd)))) (Rm (Rm Ra Rg) (Rm (Rm Rc Rf) (Rm Rc Rf)))) (Rm (Rm (Rm Ra Rc) Rc) (Rp (Rs (Rm Rb (Rm Rd Rd)) (Rm Re (Rm Rf Rd))) (Rm Rg (Rm Rf Rf)))) := rin []
theorem r66 : RI [x0, x1, x2, x3, x4, x5, x6, x7] [] (Rp (Rm (Rs (Rm (Rm Ra Rb) (Rm Rc Rd)) (Rm (Rm Rc Re) (Rm Ra Rf))) (Rs (Rm (Rm Ra Rb) (Rm Rc Rd)) (Rm (Rm Rc Re) (Rm Ra Rf)))) (Rm (Rs (Rm (Rm Ra Rb) (Rm Rc Rg)) (Rm (Rm Rc Re) (Rm Ra Rh))) (Rs (Rm (Rm Rc Rg) (Rm Ra Rf)) (Rm (Rm Rc Rd) (Rm Ra Rh))))) (Rm (Rm (Rm (Rm Rc Rc) Ra) Ra) (Rp (Rm (Rs (Rm Rb Rd) (Rm Re Rf)) (Rs (Rm Rb Rd) (Rm Re Rf))) (Rm (Rs (Rm Rb Rg) (Rm Re Rh)) (Rs (Rm Rg Rf) (Rm Rd Rh))))) := rin []
theorem r67 : RI [x0, x1, x2, x3] [] (Rp (Rm (Rm Ra Rb) Rc) (Rm R0 Rd)) (Rm Rb (Rm Ra Rc)) := rin []
theorem r68 : RI [x0, x1, x2, x3, x4, x5, x6] [(Rm Ra Rc, Rp (Rm Rd Re) (Rm Rf Rg))] (Rm Ra (Rm Rb Rc)) (Rp (Rp (Rm (Rm Rb Rd) Re) (Rm (Rm Rb Rf) Rg)) (Rm R0 R0)) := rin [Rb]
theorem r69 : RI [x0, x1, x2, x3, x4, x5] [] (Rp Ra (Rm Rb (Rp Rc (Rm (Rs Rd Re) Rf)))) (Rp (Rp Ra (Rm Rb Rc)) (Rm (Rs Rd Re) (Rm Rf Rb))) := rin []
theorem r70 : RI [x0, x1, x2, x3] [] (Rp Ra (Rm Rb (Rp Rc (Rm Rd R0)))) (Rp Ra (Rm Rc Rb)) := rin []
theorem r71 : RI [x0, x1, x2, x3, x4, x5, x6, x7] [] (Rp (Rp (Rm Ra Rb) (Rm (Rm Rc Rd) Re)) (Rm (Rs (Rp Rf (Rm Rc Rg)) Rf) (Rm Rd Rh))) (Rp (Rm Ra Rb) (Rm (Rm Rc Rd) (Rp Re (Rm Rg Rh)))) := rin []
theorem r72 : RI [x0, x1, x2, x3] [] (Rp (Rm Ra Rb) (Rm (Rm Rc Rd) Rb)) (Rm (Rp Ra (Rm Rc Rd)) Rb) := rin []
theorem r77 : RI [x0, x1, x2] [] (Rs Ra (Rm (Rm Ra Rb) Rc)) (Rn (Rm Ra (Rs (Rm Rc Rb) R1))) := rin []
theorem r78 : RI [x0, x1, x2, x3] [] (Rp Ra (Rm (Rn Rb) (Rm Rc Rd))) (Rs Ra (Rm Rd (Rm Rb Rc))) := rin []
theorem r79 : RI [x0, x1, x2, x3, x4, x5, x6, x7] [(Rs Ra (Rm Rb (Rm Rd Rc)), Rp Rf (Rm Rg Rh))] Ra (Rp (Rp (Rm Rb (Rm Rc (Rp Rd (Rm Re R0)))) Rf) (Rm Rg Rh)) := rin [R1]
theorem r80 : RI [x0, x1, x2, x3, x4] [] (Rp (Rp (Rm Ra Rb) Rc) (Rm Rd Re)) (Rp (Rp (Rm Rc R1) (Rm Ra Rb)) (Rm Rd Re)) := rin []
theorem r81 : RI [x0, x1, x2, x3, x4] [] Ra (Rp (Rp (Rm (Rp (Rp (Rm Rb Rc) Ra) (Rm Rd Re)) R1) (Rm Rb (Rn Rc))) (Rm Rd (Rn Re))) := rin []
theorem r82 : RI [x0, x1, x2, x3, x4, x5] [(Rs (Rm Re Rb) R1, Rm Rc Rf)] Ra (Rp (Rm (Rp (Rm Rb Ra) (Rm Rc Rd)) Re) (Rm Rc (Rp (Rm (Rn Re) Rd) (Rm (Rn Rf) Ra)))) := rin [Rn Ra]
theorem r83 : RI [x0, x1, x2, x3] [] (Rp (Rm Ra Rb) (Rm Rc Rd)) (Rp (Rm Rb Ra) (Rm Rc Rd)) := rin []
theorem r84 : RI [x0, x1, x2, x3, x4, x5] [(Rs (Rm Rd Rc) R1, Rm Re Rf)] (Rm Ra Rb) (Rs (Rm Ra (Rm Rc (Rm Rd Rb))) (Rm (Rm Re Rf) (Rm Ra Rb))) := rin [Rn (Rm Ra Rb)]
theorem r85 : RI [x0, x1, x2, x3, x4, x5, x6, x7, x8] [(Rs (Rm Ri Rd) R1, Rm Rf Rh), (Rm Ri Rb, Rp (Rm Rc Re) (Rm Rf Rg))] (Rm Ra Rb) (Rp (Rm (Rm Ra Rc) (Rm Rd Re)) (Rm Rf (Rp (Rm Rd (Rm Ra Rg)) (Rm (Rn Rh) (Rm Ra Rb))))) := rin [Rn (Rm Ra Rb), Rm Ra Rd]
theorem r86 : RI [x0, x1, x2, x3, x4, x5] [(Rp (Rm Rb (Rs Ra (Rm Rc Re))) (Rm Rf Rc), R1)] (Rs (Rm Ra (Rs Rb (Rm Rc Rd))) R1) (Rm Rc (Rs (Rp (Rm Ra (Rn Rd)) (Rm Re Rb)) Rf)) := rin [R1]
theorem r87 : RI [x0, x1, x2, x3, x4, x5, x6] [(Rp (Rm (Rm Rc Rf) Rg) Ra, Rp Rb (Rm Rc (Rm Rd (Rs Re Rb))))] (Rs Ra Rb) (Rm Rc (Rs (Rm Rd (Rs Re Rb)) (Rm Rf Rg))) := rin [R1]
theorem r88 : RI [x0, x1, x2, x3, x4, x5, x6, x7] [(Rp (Rm Rh Rf) (Rm Rd Rc), R1), (Rp (Rm (Rm Rf Rc) Rg) Ra, Rp Re (Rm Rf (Rm Rh (Rs Rb Re))))] (Rs Ra Rb) (Rm Rc (Rs (Rm (Rn Rd) (Rs Rb Re)) (Rm Rf Rg))) := rin [Rp (Rn Re) Rb, R1]
theorem r89 : RI [x0, x1, x2, x3, x4, x5, x6, x7, x8] [] (Rp (Rp (Rm Ra Rb) Rc) (Rm Rd Re)) (Rp (Rp (Rm Ra (Rp Rb (Rm Rf (Rm Rg (Rp R1 (Rm Rh R0)))))) (Rp (Rp Rc (Rm (Rn Rf) (Rm Rg Ra))) (Rm Rd Ri))) (Rm Rd (Rp Re (Rm (Rn R1) Ri)))) := rin []
theorem r90 : RI [x0, x1, x2, x3] [] (Rs Ra (Rm Rb Rc)) (Rs (Rm (Rs (Rm Ra Rd) Rb) Rc) (Rm Ra (Rs (Rm Rc Rd) R1))) := rin []
theorem r91 : RI [x0, x1, x2] [] Ra (Rp (Rp (Rm Ra R1) (Rm Rb R0)) (Rm Rc R0)) := rin []
theorem r92 : RI [x0, x1, x2] [] Ra (Rp (Rp (Rm Rb R0) (Rm Ra R1)) (Rm Rc R0)) := rin []
theorem r93 : RI [x0, x1, x2, x3, x4, x5, x6, x7, x8] [] (Rp (Rp (Rp (Rm Ra Rb) (Rm Rc Rd)) (Rm Re Rf)) (Rp (Rp (Rm Ra Rg) (Rm Rc Rh)) (Rm Re Ri))) (Rp (Rp (Rm Ra (Rp Rb Rg)) (Rm Rc (Rp Rd Rh))) (Rm Re (Rp Rf Ri))) := rin []
theorem r94 : RI [x0, x1, x2, x3, x4, x5, x6] [] (Rm (Rp (Rp (Rm Ra Rb) (Rm Rc Rd)) (Rm Re Rf)) Rg) (Rp (Rp (Rm Ra (Rm Rb Rg)) (Rm Rc (Rm Rd Rg))) (Rm Re (Rm Rf Rg))) := rin []
theorem r95 : RI [x0, x1, x2, x3, x4, x5] [] (Rp (Rm (Rp (Rm Ra Rb) (Rm Rc Rd)) Re) (Rm Rc Rf)) (Rp (Rm Ra (Rm Rb Re)) (Rm Rc (Rp (Rm Rd Re) Rf))) := rin []
theorem r96 : RI [x0, x1, x2, x3, x4, x5, x6, x7, x8] [] (Rp (Rp (Rm (Rp (Rm Ra Rb) (Rm Rc Rd)) Re) (Rm (Rp (Rm Ra Rf) (Rm Rc Rg)) Rh)) (Rm Rc Ri)) (Rp (Rm Ra (Rp (Rm Rb Re) (Rm Rf Rh))) (Rm Rc (Rp (Rp (Rm Rd Re) (Rm Rg Rh)) Ri))) := rin []
theorem r97 : RI [x0, x1, x2, x3, x4, x5] [] (Rp (Rp (Rm Ra Rb) (Rm Rc Rd)) (Rp (Rm Ra Re) (Rm Rc Rf))) (Rp (Rm Ra (Rp Rb Re)) (Rm Rc (Rp Rd Rf))) := rin []
theorem r98 : RI [x0, x1, x2, x3, x4] [] (Rm (Rp (Rm Ra Rb) (Rm Rc Rd)) Re) (Rp (Rm Ra (Rm Rb Re)) (Rm Rc (Rm Rd Re))) := rin []
theorem r99 : RI [x0, x1] [] Ra (Rp (Rm Ra R1) (Rm Rb R0)) := rin []
theorem r100 : RI [x0, x1] [] (Rp Ra (Rm (Rn R1) Rb)) (Rp Ra (Rm Rb (Rn R1))) := rin []
theorem r101 : RI [x0, x1, x2, x3, x4] [] (Rp (Rp (Rm Ra Rb) Rc) (Rm Rd Re)) (Rp (Rp (Rm Ra Rb) (Rm Rc R1)) (Rm Rd Re)) := rin []
theorem r102 : RI [x0, x1, x2] [] Ra (Rp (Rp Ra (Rm Rb Rc)) (Rm Rb (Rn Rc))) := rin []
theorem r103 : RI [x0, x1, x2, x3, x4] [] (Rm (Rp (Rm Ra Rb) (Rm Rc Rd)) Re) (Rp (Rp (Rm (Rm Re Ra) Rb) (Rm (Rm Re Rc) Rd)) (Rm R0 R0)) := rin []
theorem r104 : RI [x0, x1, x2, x3] [] (Rm Ra Rb) (Rp (Rp (Rm Rc R0) (Rm Rd R0)) (Rm Ra Rb)) := rin []
theorem r105 : RI [x0, x1, x2] [] (Rm Ra Rb) (Rp (Rm Rc R0) (Rm Ra Rb)) := rin []
theorem r106 : RI [x0, x1, x2, x3, x4, x5, x6] [] (Rm (.pow (Rm Ra Rb) 1) (Rm Rc (Rp Rd (Rm Re (Rp Rf (Rm Re R0)))))) (Rp (Rm (Rm Rc (Rp Rg (Rm Re (Rp Rb (Rm Re R0))))) (Rp (Rm Ra Rf) (Rm Re R0))) (Rm (Rn (Rm Ra (Rs (Rm Rf Rg) (Rm Rd Rb)))) Rc)) := rin []
theorem r107 : RI [x0, x1, x2, x3, x4, x5, x6, x7] [] (Rm (.pow (Rm Ra Rb) 2) (Rm Rc (Rp Rd (Rm Re (Rp Rf (Rm Re (Rp Rg (Rm Re R0)))))))) (Rp (Rm (Rm Rc (Rp Rh (Rm Re (Rp Rb (Rm Re R0))))) (Rp (Rm (Rm Ra Ra) (Rs (Rm Rb Rf) (Rm Rg Rh))) (Rm Re (Rp (Rm (Rm Ra Ra) (Rm Rb Rg)) (Rm Re R0))))) (Rm (Rm (Rm Ra Ra) (Rp (Rs (Rm Rg (Rm Rh Rh)) (Rm Rf (Rm Rb Rh))) (Rm Rd (Rm Rb Rb)))) Rc)) := rin []
theorem r108 : RI [x0, x1, x2, x3, x4, x5, x6, x7, x8, x9, x10] [(Rj, Rs (Rm Rb Rd) (Rm Rg Rh)), (Rk, Rs (Rm Rb Rf) (Rm Rg Ri)), (Rk, R0)] (Rm (.pow (Rm Ra Rb) 1) (Rm Rc (Rp Rd (Rm Re (Rp Rf (Rm Re (Rp Rg (Rm Re R0)))))))) (Rp (Rm (Rm Rc (Rp Rh (Rm Re (Rp Ri (Rm Re (Rp Rb (Rm Re R0))))))) (Rp (Rm Ra Rg) (Rm Re R0))) (Rm (Rm Ra Rj) Rc)) := rin [Rn (Rm Ra Rc), Rn (Rm (Rm Ra Rc) Re), Rm (Rm Ra Rc) Re]
end Mine
end
section
namespace Mine
set_option genCtorIdx false
set_option genSizeOf false
inductive A3 (a0 a1 a2 : Prop) : Prop
 | mk (h0 : a0) (h1 : a1) (h2 : a2)
inductive A4 (a0 a1 a2 a3 : Prop) : Prop
 | mk (h0 : a0) (h1 : a1) (h2 : a2) (h3 : a3)
inductive A5 (a0 a1 a2 a3 a4 : Prop) : Prop
 | mk (h0 : a0) (h1 : a1) (h2 : a2) (h3 : a3) (h4 : a4)
inductive A6 (a0 a1 a2 a3 a4 a5 : Prop) : Prop
 | mk (h0 : a0) (h1 : a1) (h2 : a2) (h3 : a3) (h4 : a4) (h5 : a5)
inductive A7 (a0 a1 a2 a3 a4 a5 a6 : Prop) : Prop
 | mk (h0 : a0) (h1 : a1) (h2 : a2) (h3 : a3) (h4 : a4) (h5 : a5) (h6 : a6)
inductive A8 (a0 a1 a2 a3 a4 a5 a6 a7 : Prop) : Prop
 | mk (h0 : a0) (h1 : a1) (h2 : a2) (h3 : a3) (h4 : a4) (h5 : a5) (h6 : a6) (h7 : a7)
inductive A10 (a0 a1 a2 a3 a4 a5 a6 a7 a8 a9 : Prop) : Prop
 | mk (h0 : a0) (h1 : a1) (h2 : a2) (h3 : a3) (h4 : a4) (h5 : a5) (h6 : a6) (h7 : a7) (h8 : a8) (h9 : a9)
inductive A11 (a0 a1 a2 a3 a4 a5 a6 a7 a8 a9 a10 : Prop) : Prop
 | mk (h0 : a0) (h1 : a1) (h2 : a2) (h3 : a3) (h4 : a4) (h5 : a5) (h6 : a6) (h7 : a7) (h8 : a8) (h9 : a9) (h10 : a10)
inductive A19 (a0 a1 a2 a3 a4 a5 a6 a7 a8 a9 a10 a11 a12 a13 a14 a15 a16 a17 a18 : Prop) : Prop
 | mk (h0 : a0) (h1 : a1) (h2 : a2) (h3 : a3) (h4 : a4) (h5 : a5) (h6 : a6) (h7 : a7) (h8 : a8) (h9 : a9) (h10 : a10) (h11 : a11) (h12 : a12) (h13 : a13) (h14 : a14) (h15 : a15) (h16 : a16) (h17 : a17) (h18 : a18)
inductive E2 {t0 t1 : Type} (p : t0 -> t1 -> Prop) : Prop
 | mk (x0 : t0) (x1 : t1) (h : p x0 x1)
inductive E3 {t0 t1 t2 : Type} (p : t0 -> t1 -> t2 -> Prop) : Prop
 | mk (x0 : t0) (x1 : t1) (x2 : t2) (h : p x0 x1 x2)
inductive E4 {t0 t1 t2 t3 : Type} (p : t0 -> t1 -> t2 -> t3 -> Prop) : Prop
 | mk (x0 : t0) (x1 : t1) (x2 : t2) (x3 : t3) (h : p x0 x1 x2 x3)
inductive E5 {t0 t1 t2 t3 t4 : Type} (p : t0 -> t1 -> t2 -> t3 -> t4 -> Prop) : Prop
 | mk (x0 : t0) (x1 : t1) (x2 : t2) (x3 : t3) (x4 : t4) (h : p x0 x1 x2 x3 x4)
inductive E6 {t0 t1 t2 t3 t4 t5 : Type} (p : t0 -> t1 -> t2 -> t3 -> t4 -> t5 -> Prop) : Prop
 | mk (x0 : t0) (x1 : t1) (x2 : t2) (x3 : t3) (x4 : t4) (x5 : t5) (h : p x0 x1 x2 x3 x4 x5)
inductive E7 {t0 t1 t2 t3 t4 t5 t6 : Type} (p : t0 -> t1 -> t2 -> t3 -> t4 -> t5 -> t6 -> Prop) : Prop
 | mk (x0 : t0) (x1 : t1) (x2 : t2) (x3 : t3) (x4 : t4) (x5 : t5) (x6 : t6) (h : p x0 x1 x2 x3 x4 x5 x6)
inductive E8 {t0 t1 t2 t3 t4 t5 t6 t7 : Type} (p : t0 -> t1 -> t2 -> t3 -> t4 -> t5 -> t6 -> t7 -> Prop) : Prop
 | mk (x0 : t0) (x1 : t1) (x2 : t2) (x3 : t3) (x4 : t4) (x5 : t5) (x6 : t6) (x7 : t7) (h : p x0 x1 x2 x3 x4 x5 x6 x7)
inductive E9 {t0 t1 t2 t3 t4 t5 t6 t7 t8 : Type} (p : t0 -> t1 -> t2 -> t3 -> t4 -> t5 -> t6 -> t7 -> t8 -> Prop) : Prop
 | mk (x0 : t0) (x1 : t1) (x2 : t2) (x3 : t3) (x4 : t4) (x5 : t5) (x6 : t6) (x7 : t7) (x8 : t8) (h : p x0 x1 x2 x3 x4 x5 x6 x7 x8)
end Mine
end
section
namespace Mine
set_option genCtorIdx false
inductive D where
 | int (i : Int) | bool (b : Bool) | none | list (l : List D) | tup (l : List D)
 deriving Inhabited
@[reducible] noncomputable def D.ctorIdx (x : D) : Nat := @D.casesOn (fun _ => Nat) x (fun _ => 0) (fun _ => 1) (2) (fun _ => 3) (fun _ => 4)
noncomputable def li (l : List Int) : D := .list (l.map .int)
set_option genCtorIdx true in
set_option genSizeOf false in
inductive Op where | add | sub | mul | fdiv | mod | pow
 deriving DecidableEq
set_option genCtorIdx true in
set_option genSizeOf false in
inductive Cm where | eq | ne | lt | le | gt | ge
 deriving DecidableEq
set_option genSizeOf false
inductive ME where
 | int (i : Int) | none | bool (b : Bool) | var (i : Nat) | cvar (j : Nat) | primes
 | bin (op : Op) (a b : ME) | neg (a : ME) | cmp (c : Cm) (a b : ME) | isN (a : ME) | notN (a : ME)
 | not (a : ME) | and (a b : ME) | or (a b : ME) | ite (c a b : ME)
 | call (k : Nat) (as : ME) | abs (a : ME) | max (a b : ME) | len (a : ME) | copy (a : ME)
 | idx (a i : ME) | upTo (a i : ME) | fromA (a i : ME) | rev (a : ME)
 | list (as : ME) | tup (as : ME) | nil | cons (a as : ME)
 | comp (elt : ME) (nv : Nat) (it : ME) (cond : ME)
 | range (a : ME) | down (a : ME) | enum (a : ME)
@[reducible] noncomputable def ME.ctorIdx (x : ME) : Nat := @ME.casesOn (fun _ => Nat) x (fun _ => 0) (1) (fun _ => 2) (fun _ => 3) (fun _ => 4) (5) (fun _ _ _ => 6) (fun _ => 7) (fun _ _ _ => 8) (fun _ => 9) (fun _ => 10) (fun _ => 11) (fun _ _ => 12) (fun _ _ => 13) (fun _ _ _ => 14) (fun _ _ => 15) (fun _ => 16) (fun _ _ => 17) (fun _ => 18) (fun _ => 19) (fun _ _ => 20) (fun _ _ => 21) (fun _ _ => 22) (fun _ => 23) (fun _ => 24) (fun _ => 25) (26) (fun _ _ => 27) (fun _ _ _ _ => 28) (fun _ => 29) (fun _ => 30) (fun _ => 31)
inductive MS where
 | skip | seq (s r : MS)
 | asg (x : Nat) (e : ME)
 | asgT (xs : List Nat) (e : ME)
 | put (x : Nat) (i e : ME)
 | aug (op : Op) (x : Nat) (e : ME)
 | app (x : Nat) (e : ME) | pop (x : Nat)
 | ifs (c : ME) (t e : MS)
 | whl (c : ME) (b : MS)
 | fors (xs : List Nat) (tt : Bool) (it : ME) (b : MS)
 | ret (e : ME)
 | ex (e : ME)
 | bad
@[reducible] noncomputable def MS.ctorIdx (x : MS) : Nat := @MS.casesOn (fun _ => Nat) x (0) (fun _ _ => 1) (fun _ _ => 2) (fun _ _ => 3) (fun _ _ _ => 4) (fun _ _ _ => 5) (fun _ _ => 6) (fun _ => 7) (fun _ _ _ => 8) (fun _ _ => 9) (fun _ _ _ _ => 10) (fun _ => 11) (fun _ => 12) (13)
noncomputable def BIG : Nat := 2 ^ 2000
noncomputable def small (i : Int) : Bool := decide (i.natAbs < BIG)
noncomputable def LEN : Nat := 2 ^ 20
noncomputable def z1i : List D -> Option (List Int)
 | [] => some []
 | .int i :: r => match z1i r with | some l => some (i :: l) | none => none
 | _ :: _ => none
noncomputable def z6m : D -> Bool
 | .list l => (z1i l).isSome
 | _ => false
noncomputable def eqL (a b : List D) : Option Bool :=
 match z1i a, z1i b with
 | some x, some y => some (x == y)
 | none, some [] => if a.all z6m then some false else none
 | _, _ => none
noncomputable def eqD : D -> D -> Option Bool
 | .int a, .int b => some (a == b)
 | .bool a, .bool b => some (a == b)
 | .list a, .list b => eqL a b
 | _, _ => none
noncomputable def y5o : Cm -> D -> D -> Option Bool
 | .eq, a, b => eqD a b
 | .ne, a, b => (eqD a b).map (!·)
 | .lt, .int a, .int b => some (decide (a < b))
 | .le, .int a, .int b => some (decide (a <= b))
 | .gt, .int a, .int b => some (decide (b < a))
 | .ge, .int a, .int b => some (decide (b <= a))
 | _, _, _ => none
noncomputable def z9b : Op -> Int -> Int -> Option Int
 | .add, a, b => some (a + b)
 | .sub, a, b => some (a - b)
 | .mul, a, b => if small a && small b then some (a * b) else none
 | .fdiv, a, b => if b != 0 && small b then some (a.fdiv b) else none
 | .mod, a, b => if b != 0 then some (a.fmod b) else none
 | .pow, a, b => if decide (a.natAbs < 2 ^ 64) && decide (0 <= b) && decide (b <= 1000) then some (a ^ b.toNat) else none
noncomputable def y3f (op : Op) : D -> D -> Option D
 | .int a, .int b => (z9b op a b).map .int
 | .list a, .list b => if op == .add && decide (a.length + b.length <= LEN) then some (.list (a ++ b)) else none
 | .list [a], .int n => if op == .mul && decide (-1000000 <= n) && decide (n <= 1000000) then some (.list (List.replicate n.toNat a)) else none
 | _, _ => none
noncomputable def z9x (l : List D) (i : Int) : Option D :=
 if 0 <= i then l[i.toNat]? else if 0 <= i + l.length then l[(i + l.length).toNat]? else none
noncomputable def z7d : D -> Option (List D)
 | .list l => some l
 | .tup l => some l
 | _ => none
noncomputable def z2r : Nat -> List D -> List D
 | _, [] => []
 | n, d :: r => .tup [.int n, d] :: z2r (n + 1) r
noncomputable def z2n (n : Nat) : List D := (List.range n).map fun (i : Nat) => .int i
noncomputable def z7c (n : Nat) : List D := (List.range n).map fun (i : Nat) => .int ((n : Int) - 1 - i)
noncomputable def z0u (nv : Nat) (tt : Bool) (d : D) : Option (List D) :=
 match tt, d with
 | false, d => some [d]
 | true, .tup l => if l.length = nv then some l else none
 | _, _ => none
noncomputable def z3n (open_ : D -> Option (List D)) (c : List D -> Option D) (f : List D -> Option D) : List D -> Option (List D)
 | [] => some []
 | d :: r => match open_ d with
  | none => none
  | some ks => match c ks with
   | some (.bool true) => match f ks with
    | none => none
    | some y => match z3n open_ c f r with | none => none | some ys => some (y :: ys)
   | some (.bool false) => z3n open_ c f r
   | _ => none
noncomputable def z7r : Option D -> Option Bool
 | some (.bool b) => some b
 | _ => none
section
variable (Φ : Nat -> List D -> Option D) (ρ : List (Option D))
noncomputable def ev : ME -> List D -> Option D
 | .int i, _ => some (.int i)
 | .none, _ => some .none
 | .bool b, _ => some (.bool b)
 | .var i, _ => match ρ[i]? with | some (some d) => some d | _ => none
 | .cvar j, κ => κ[j]?
 | .primes, _ => some (.tup [.int 2, .int 3, .int 5, .int 7, .int 11, .int 13])
 | .bin op a b, κ => match ev a κ with
  | none => none
  | some x => match ev b κ with | none => none | some y => y3f op x y
 | .neg a, κ => match ev a κ with | some (.int i) => some (.int (-i)) | _ => none
 | .cmp c a b, κ => match ev a κ with
  | none => none
  | some x => match ev b κ with | none => none | some y => (y5o c x y).map .bool
 | .isN a, κ => match ev a κ with | none => none | some .none => some (.bool true) | some _ => some (.bool false)
 | .notN a, κ => match ev a κ with | none => none | some .none => some (.bool false) | some _ => some (.bool true)
 | .not a, κ => match ev a κ with | some (.bool b) => some (.bool (!b)) | _ => none
 | .and a b, κ => match ev a κ with
  | some (.bool true) => (match ev b κ with | some (.bool b) => some (.bool b) | _ => none)
  | some (.bool false) => some (.bool false) | _ => none
 | .or a b, κ => match ev a κ with
  | some (.bool false) => (match ev b κ with | some (.bool b) => some (.bool b) | _ => none)
  | some (.bool true) => some (.bool true) | _ => none
 | .ite c a b, κ => match ev c κ with
  | some (.bool true) => ev a κ
  | some (.bool false) => ev b κ
  | _ => none
 | .call k as, κ => match ev as κ with | some (.tup ds) => Φ k ds | _ => none
 | .abs a, κ => match ev a κ with | some (.int i) => some (.int i.natAbs) | _ => none
 | .max a b, κ => match ev a κ with
  | some (.int x) => (match ev b κ with | some (.int y) => some (.int (if y > x then y else x)) | _ => none)
  | _ => none
 | .len a, κ => match ev a κ with | some (.list l) => some (.int l.length) | _ => none
 | .copy a, κ => match ev a κ with | some (.list l) => some (.list l) | _ => none
 | .idx a i, κ => match ev a κ with
  | none => none
  | some x => match z7d x with
   | none => none
   | some l => match ev i κ with | some (.int i) => z9x l i | _ => none
 | .upTo a i, κ => match ev a κ with
  | some (.list l) => (match ev i κ with | some (.int n) => if 0 <= n then some (.list (l.take n.toNat)) else none | _ => none)
  | _ => none
 | .fromA a i, κ => match ev a κ with
  | some (.list l) => (match ev i κ with | some (.int n) => if 0 <= n then some (.list (l.drop n.toNat)) else none | _ => none)
  | _ => none
 | .rev a, κ => match ev a κ with | some (.list l) => some (.list l.reverse) | _ => none
 | .list as, κ => match ev as κ with | some (.tup ds) => some (.list ds) | _ => none
 | .tup as, κ => match ev as κ with | some (.tup ds) => some (.tup ds) | _ => none
 | .nil, _ => some (.tup [])
 | .cons a as, κ => match ev a κ with
  | none => none
  | some d => match ev as κ with | some (.tup ds) => some (.tup (d :: ds)) | _ => none
 | .comp elt nv it cond, κ => match ev it κ with
  | none => none
  | some x => match z7d x with
   | none => none
   | some items => match z3n (z0u nv (nv != 1)) (fun ks => ev cond ks) (fun ks => ev elt ks) items with
    | none => none
    | some l => some (.list l)
 | .range a, κ => match ev a κ with | some (.int n) => if -1000000 <= n /\ n <= 1000000 then some (.list (z2n n.toNat)) else none | _ => none
 | .down a, κ => match ev a κ with | some (.int n) => if -1000000 <= n /\ n <= 1000000 then some (.list (z7c (n + 1).toNat)) else none | _ => none
 | .enum a, κ => match ev a κ with | some (.list l) => some (.list (z2r 0 l)) | _ => none
end
inductive Fl where | next | ret (d : D)
@[reducible] noncomputable def Fl.ctorIdx (x : Fl) : Nat := @Fl.casesOn (fun _ => Nat) x (0) (fun _ => 1)
noncomputable def z2t : List Nat -> List D -> List (Option D) -> Option (List (Option D))
 | [], [], ρ => some ρ
 | x :: xs, d :: ds, ρ => z2t xs ds (ρ.set x (some d))
 | _, _, _ => none
noncomputable def z7p (test : List (Option D) -> Option Bool) (body : List (Option D) -> Option (Fl × List (Option D))) : Nat -> List (Option D) -> Option (Fl × List (Option D))
 | 0, _ => none
 | n + 1, ρ => match test ρ with
  | none => none
  | some false => some (.next, ρ)
  | some true => match body ρ with
   | none => none
   | some (.ret d, ρ') => some (.ret d, ρ')
   | some (.next, ρ') => z7p test body n ρ'
noncomputable def y2p (bind : D -> List (Option D) -> Option (List (Option D))) (body : List (Option D) -> Option (Fl × List (Option D))) : List D -> List (Option D) -> Option (Fl × List (Option D))
 | [], ρ => some (.next, ρ)
 | d :: r, ρ => match bind d ρ with
  | none => none
  | some ρ₁ => match body ρ₁ with
   | none => none
   | some (.ret d, ρ') => some (.ret d, ρ')
   | some (.next, ρ') => y2p bind body r ρ'
noncomputable def z2k (xs : List Nat) (tt : Bool) (d : D) (ρ : List (Option D)) : Option (List (Option D)) :=
 match z0u xs.length tt d with
 | none => none
 | some ds => z2t xs ds ρ
section
variable (Φ : Nat -> List D -> Option D) (N : Nat)
noncomputable def xs : MS -> List (Option D) -> Option (Fl × List (Option D))
 | .skip, ρ => some (.next, ρ)
 | .seq s r, ρ => match xs s ρ with
  | none => none
  | some (.ret d, ρ') => some (.ret d, ρ')
  | some (.next, ρ') => xs r ρ'
 | .asg x e, ρ => match ev Φ ρ e [] with | none => none | some d => some (.next, ρ.set x (some d))
 | .asgT ts e, ρ => match ev Φ ρ e [] with
  | some (.tup ds) => (match z2t ts ds ρ with | none => none | some ρ' => some (.next, ρ'))
  | _ => none
 | .put x i e, ρ => match ev Φ ρ e [] with
  | none => none
  | some d => match ρ[x]? with
   | some (some (.list l)) => (match ev Φ ρ i [] with
    | some (.int k) => if 0 <= k /\ k < l.length then some (.next, ρ.set x (some (.list (l.set k.toNat d)))) else none
    | _ => none)
   | _ => none
 | .aug op x e, ρ => match ρ[x]? with
  | some (some (.int a)) => (match ev Φ ρ e [] with
   | some (.int b) => (match op with
    | .add => some (.next, ρ.set x (some (.int (a + b))))
    | .sub => some (.next, ρ.set x (some (.int (a - b))))
    | _ => none)
   | _ => none)
  | _ => none
 | .app x e, ρ => match ev Φ ρ e [] with
  | none => none
  | some d => match ρ[x]? with
   | some (some (.list l)) => if l.length < LEN then some (.next, ρ.set x (some (.list (l ++ [d])))) else none
   | _ => none
 | .pop x, ρ => match ρ[x]? with
  | some (some (.list l)) => if l.length = 0 then none else some (.next, ρ.set x (some (.list l.dropLast)))
  | _ => none
 | .ifs c t e, ρ => match z7r (ev Φ ρ c []) with
  | none => none
  | some true => xs t ρ
  | some false => xs e ρ
 | .whl c b, ρ => z7p (fun ρ => z7r (ev Φ ρ c [])) (fun ρ => xs b ρ) N ρ
 | .fors ts tt it b, ρ => match ev Φ ρ it [] with
  | none => none
  | some x => match z7d x with
   | none => none
   | some items => y2p (z2k ts tt) (fun ρ => xs b ρ) items ρ
 | .ret e, ρ => match ev Φ ρ e [] with | none => none | some d => some (.ret d, ρ)
 | .ex e, ρ => match ev Φ ρ e [] with | some .none => some (.next, ρ) | _ => none
 | .bad, _ => none
end
set_option genSizeOf false
structure MD where
 name : String
 npar : Nat
 slots : List String
 own : List Nat
 body : MS
noncomputable def y2f (Φ : Nat -> List D -> Option D) (N : Nat) (d : MD) (ds : List D) : Option D :=
 if ds.length = d.npar then
  match xs Φ N d.body (ds.map some ++ List.replicate (d.slots.length - d.npar) none) with
  | none => none
  | some (.ret v, _) => some v
  | some (.next, _) => some .none
 else none
noncomputable def z5y : Nat := 1000000
noncomputable def phi (prog : List MD) : Nat -> Nat -> List D -> Option D
 | 0, _, _ => none
 | n + 1, k, ds => match prog[k]? with
  | none => none
  | some d => y2f (phi prog n) z5y d ds
end Mine
end
section
open PySem
namespace Mine
set_option genCtorIdx false
set_option genSizeOf false
structure TC where
 sc : Scope
 names : List Str
 cn : List Str
 fns : List Str
noncomputable def TC.look (c : TC) (x : Str) : Option ME :=
 match c.sc.names.lookup x with
 | some .local => if c.cn.isEmpty then (c.names.idxOf? x).map .var else (c.cn.idxOf? x).map .cvar
 | some .cell => if c.cn.isEmpty then (c.names.idxOf? x).map .var else none
 | some .free => if c.cn.isEmpty || c.cn.contains x then none else (c.names.idxOf? x).map .var
 | _ => none
noncomputable def y3j : Operator -> Option Op
 | .Add => some .add | .Sub => some .sub | .Mult => some .mul | .FloorDiv => some .fdiv | .Mod => some .mod | .Pow => some .pow
 | _ => none
noncomputable def trCm : CmpOp -> Option Cm
 | .Eq => some .eq | .NotEq => some .ne | .Lt => some .lt | .LtE => some .le | .Gt => some .gt | .GtE => some .ge
 | _ => none
noncomputable def z1z (c : TC) (x : Str) : Bool := c.sc.names.lookup x == some .globalImplicit
noncomputable def z1y : Expr -> Option Str
 | .Name x _ => some x
 | _ => none
noncomputable def q3z : Expr -> Bool
 | .Constant k _ _ => (match k with | .int i => i == 1 | _ => false)
 | _ => false
noncomputable def y0o : Expr -> Bool
 | .UnaryOp op x _ => (match op with | .USub => q3z x | _ => false)
 | _ => false
inductive Tg where | name (x : Str) | tup (es : List Expr) | sub (x : Str) (i : Expr) | no
@[reducible] noncomputable def Tg.ctorIdx (x : Tg) : Nat := @Tg.casesOn (fun _ => Nat) x (fun _ => 0) (fun _ => 1) (fun _ _ => 2) (3)
noncomputable def tgOf : Expr -> Tg
 | .Name x _ => .name x
 | .Tuple es _ _ => .tup es
 | .Subscript v i _ => (match z1y v with | some x => .sub x i | none => .no)
 | _ => .no
inductive Ca where | meth (x m : Str) (ap : Pos) (args : List Expr) (cp : Pos) | fn | no
@[reducible] noncomputable def Ca.ctorIdx (x : Ca) : Nat := @Ca.casesOn (fun _ => Nat) x (fun _ _ _ _ _ => 0) (1) (2)
noncomputable def caFn : Expr -> List Expr -> List Keyword -> Pos -> Ca
 | .Attribute u m ap, args, kws, p => (match z1y u, kws with | some x, [] => .meth x m ap args p | _, _ => .no)
 | .Name _ _, _, _, _ => .fn
 | _, _, _, _ => .no
noncomputable def caOf : Expr -> Ca
 | .Call f args kws p => caFn f args kws p
 | _ => .no
noncomputable def q1j : Expr -> Option (Str × List Expr)
 | .Call f args kws _ => (match z1y f, kws with | some x, [] => some (x, args) | _, _ => none)
 | _ => none
noncomputable def isSetE : Expr -> Bool
 | .Set .. => true
 | _ => false
noncomputable def y4q : Expr -> Option (Option Expr × Option Expr × Option Expr)
 | .Slice lo hi st _ => some (lo, hi, st)
 | _ => none
noncomputable def z1l : List Expr -> Option (List Str)
 | [] => some []
 | .Name x _ :: r => match z1l r with | some l => some (x :: l) | none => none
 | _ :: _ => none
noncomputable def z1b : Expr -> Option (List Str × Bool)
 | .Name x _ => some ([x], false)
 | .Tuple es _ _ => match z1l es with | some l => some (l, true) | none => none
 | _ => none
noncomputable def z7q : Expr -> Bool
 | .Constant .none _ _ => true
 | _ => false
noncomputable def z2f (c : TC) (sc : Scope) (cn : List Str) : Bool :=
 decide (sc.kind = .function) && sc.names.all (fun x => x.2 != .cell) && sc.names.all (fun x => x.2 != .local || sc.names.lookup x.1 == some .local) &&
 cn.all (fun x => sc.names.lookup x == some .local) && decide (cn.Nodup) && c.cn.isEmpty && !cn.isEmpty &&
 sc.names.all (fun x => x.2 != .free || c.sc.names.lookup x.1 == some .cell) && sc.names.all (fun x => sc.names.lookup x.1 == some x.2)
section
variable (trE : TC -> Expr -> Option ME)
noncomputable def z1c (c : TC) : List Expr -> Option ME
 | [] => some .nil
 | .Starred .. :: _ => none
 | e :: r => match trE c e with
  | none => none
  | some m => match z1c c r with | none => none | some ms => some (.cons m ms)
noncomputable def z4c (c : TC) (e : Expr) : Option ME :=
 match q1j e with
 | some (f, args) =>
  if z1z c f && f == ("range" : Str) then
   match args with
   | [a] => (trE c a).map .range
   | [a, b, d] => if y0o b && y0o d then (trE c a).map .down else none
   | _ => none
  else if z1z c f && f == ("enumerate" : Str) then
   match args with
   | [a] => (trE c a).map .enum
   | _ => none
  else trE c e
 | none => if isSetE e then none else match z1y e with
  | some x => if z1z c x && x == ("_law_primes" : Str) && !(x == ("__debug__" : Str)) then some .primes else trE c e
  | none => trE c e
end
noncomputable def z7w (c : TC) (f : Str) (args : Option ME) : Option ME :=
 if z1z c f then
  if f == ("abs" : Str) then match args with | some (.cons a .nil) => some (.abs a) | _ => none
  else if f == ("len" : Str) then match args with | some (.cons a .nil) => some (.len a) | _ => none
  else if f == ("list" : Str) then match args with | some (.cons a .nil) => some (.copy a) | _ => none
  else if f == ("max" : Str) then match args with | some (.cons a (.cons b .nil)) => some (.max a b) | _ => none
  else match args with
   | some (.cons a r) => (c.fns.idxOf? f).map fun k => .call k (.cons a r)
   | _ => none
 else none
noncomputable def trE : Nat -> TC -> Expr -> Option ME
 | 0, _, _ => none
 | n + 1, c, e => match e with
  | .Constant k _ _ => (match k with | .int i => some (.int i) | .none => some .none | .bool b => some (.bool b) | _ => none)
  | .Name x _ => if x == ("__debug__" : Str) then none else c.look x
  | .BinOp l op r _ => match y3j op with
   | none => none
   | some o => match trE n c l with
    | none => none
    | some a => (trE n c r).map (.bin o a)
  | .UnaryOp .USub x _ => (trE n c x).map .neg
  | .UnaryOp .Not x _ => (trE n c x).map .not
  | .Compare l [op] [r] _ =>
   if behindInMarks op r then none
   else if z7q r then match op with
    | .Is => (trE n c l).map .isN
    | .IsNot => (trE n c l).map .notN
    | _ => none
   else match trCm op with
    | none => none
    | some o => match trE n c l with
     | none => none
     | some a => (trE n c r).map (.cmp o a)
  | .BoolOp .And [a, b] _ => match trE n c a with | none => none | some x => (trE n c b).map (.and x)
  | .BoolOp .Or [a, b] _ => match trE n c a with | none => none | some x => (trE n c b).map (.or x)
  | .IfExp t a b _ => match trE n c t with
   | none => none
   | some x => match trE n c a with | none => none | some y => (trE n c b).map (.ite x y)
  | .Call f args kws _ => (match z1y f, kws with
   | some x, [] => if x == ("__debug__" : Str) then none else z7w c x (z1c (trE n) c args)
   | _, _ => none)
  | .Subscript v i _ => match trE n c v with
   | none => none
   | some a => (match y4q i with
    | some (none, some u, none) => (trE n c u).map (.upTo a)
    | some (some l, none, none) => (trE n c l).map (.fromA a)
    | some (none, none, some x) => if y0o x then some (.rev a) else none
    | some _ => none
    | none => (trE n c i).map (.idx a))
  | .List es _ => if es.length <= 1000 then (z1c (trE n) c es).map .list else none
  | .Tuple es _ _ => if es.length <= 1000 then (z1c (trE n) c es).map .tup else none
  | .ListComp elt gens sc _ => (match gens with
   | [g] => if g.is_async == 0 then (match z1b g.target with
    | none => none
    | some (cn, tt) =>
     if z2f c sc cn && (tt == (cn.length != 1)) then
      match z4c (trE n) c g.iter with
      | none => none
      | some mi => match trE n { c with sc := sc, cn := cn } elt with
       | none => none
       | some me => match g.ifs with
        | [] => some (.comp me cn.length mi (.bool true))
        | [t] => (trE n { c with sc := sc, cn := cn } t).map (.comp me cn.length mi)
        | _ => none
     else none) else none
   | _ => none)
  | _ => none
noncomputable def z3u (c : TC) (x : Str) : Option Nat :=
 match c.sc.names.lookup x with
 | some .local => c.names.idxOf? x
 | some .cell => c.names.idxOf? x
 | _ => none
noncomputable def z1x (c : TC) : List Str -> Option (List Nat)
 | [] => some []
 | x :: r => match z3u c x, z1x c r with | some i, some l => some (i :: l) | _, _ => none
noncomputable def z5r : Expr -> Bool
 | .Tuple vs _ _ => vs.all (constantsAlone 8)
 | _ => false
noncomputable def y2q : Expr -> Bool
 | .Slice _ _ _ _ => true
 | _ => false
noncomputable def y2t : Expr -> Bool
 | .ListComp _ _ _ _ => true
 | _ => false
noncomputable def trB (t : Stmt -> Option MS) : List Stmt -> Option MS
 | [] => some .skip
 | s :: r => match t s with
  | none => none
  | some m => match trB t r with | none => none | some ms => some (.seq m ms)
noncomputable def trS (n : Nat) (c : TC) : Nat -> Stmt -> Option MS
 | 0, _ => none
 | k + 1, s => match s with
  | .Return r _ => (match r with | some e => (trE n c e).map .ret | none => none)
  | .Assign ts v _ => (match ts with
   | [t] => (match tgOf t with
    | .name x => (match z3u c x with
     | none => none
     | some i => (trE n c v).map (.asg i))
    | .tup es => (match z1l es with
     | none => none
     | some xs => match z1x c xs with
      | none => none
      | some is => if decide (xs.Nodup) && !z5r v then (trE n c v).map (.asgT is) else none)
    | .sub x i => (match z3u c x, trE n c i, trE n c v with
     | some s, some mi, some mv => if y2q i || y2t v || x == ("__debug__" : Str) then none else some (.put s mi mv)
     | _, _, _ => none)
    | .no => none)
   | _ => none)
  | .AugAssign t op v _ => (match z1y t with
   | some x => (match z3u c x, y3j op, trE n c v with
    | some s, some o, some mv => if o == .add || o == .sub then some (.aug o s mv) else none
    | _, _, _ => none)
   | none => none)
  | .Expr e _ => (match caOf e with
   | .meth x m ap args cp => if !(ap.endLine == cp.line) then none else (match z3u c x with
    | none => none
    | some s => if x == ("__debug__" : Str) then none else if m == ("append" : Str) then (match args with | [a] => (trE n c a).map (.app s) | _ => none)
     else if m == ("pop" : Str) then (match args with | [] => some (.pop s) | _ => none)
     else none)
   | .fn => (trE n c e).map .ex
   | .no => none)
  | .If t a b _ => match trE n c t, trB (trS n c k) a, trB (trS n c k) b with
   | some mt, some ma, some mb => some (.ifs mt ma mb)
   | _, _, _ => none
  | .While t a b _ => (match b with
   | [] => (match trE n c t, trB (trS n c k) a with
    | some mt, some ma => some (.whl mt ma)
    | _, _ => none)
   | _ => none)
  | .For tgt it a b _ => (match b with
   | [] => (match z1b tgt with
    | none => none
    | some (xs, tt) => match z1x c xs, z4c (trE n) c it, trB (trS n c k) a with
     | some is, some mi, some ma => if decide (xs.Nodup) then some (.fors is tt mi ma) else none
     | _, _, _ => none)
   | _ => none)
  | .Raise _ _ _ => some .bad
  | _ => none
noncomputable def y2w (p : Program) : List Str := p.main.body.filterMap fun s => match s with
 | .FunctionDef name .. => some name
 | _ => none
noncomputable def z2m (sc : Scope) : List Str := (sc.names.filter fun x => x.2 == .local || x.2 == .cell).map (·.1)
noncomputable def z5e (fns : List Str) (sc : Scope) : TC := ⟨sc, z2m sc, [], fns⟩
noncomputable def y8v (fns : List Str) (params : Arguments) (body : List Stmt) (sc : Scope) : Option MS :=
 if decide ((params.args.map (·.arg)) = (z2m sc).take params.args.length) then trB (trS 30 (z5e fns sc) 30) body else none
end Mine
end
section
open PySem
namespace Mine
set_option genCtorIdx false
set_option genSizeOf false
theorem z0a {α : Type} {P : Prop} {a : α} (h : (none : Option α) = some a) : P := nomatch h
theorem map_some {α β : Type} {f : α -> β} {o : Option α} {b : β} (h : o.map f = some b) : ∃ a, o = some a /\ b = f a := by
 cases o with
 | none => exact z0a h
 | some a => exact ⟨a, rfl, (Option.some.inj h).symm⟩
theorem z6k {α β : Type} {f : α -> β} {o : Option α} {b : β} (h : o.map f = some b) : ∃ a, o = some a /\ b = f a := map_some h
theorem z3c {e : Expr} {x : Str} (h : z1y e = some x) : ∃ p, e = .Name x p := by
 cases e <;> first | exact z0a h | exact ⟨_, congrArg (fun y => Expr.Name y _) (Option.some.inj h)⟩
set_option tactic.hygienic true in
theorem q2r {e : Expr} (h : q3z e = true) : ∃ k p, e = .Constant (.int 1) k p := by
 cases e <;> first | exact Bool.noConfusion (show false = true from h) | skip
 rename_i k kk p
 cases k <;> first | exact Bool.noConfusion (show false = true from h) | skip
 rename_i i
 have : i = 1 := beq_iff_eq.mp (show (i == 1) = true from h)
 subst this
 exact ⟨kk, p, rfl⟩
set_option tactic.hygienic true in
theorem y2r {e : Expr} (h : y0o e = true) : ∃ k p q, e = .UnaryOp .USub (.Constant (.int 1) k p) q := by
 cases e <;> first | exact Bool.noConfusion (show false = true from h) | skip
 rename_i op x q
 cases op <;> first | exact Bool.noConfusion (show false = true from h) | skip
 obtain ⟨k, p, rfl⟩ := q2r (e := x) h
 exact ⟨k, p, q, rfl⟩
set_option tactic.hygienic true in
theorem q5a {e : Expr} {x : Str} (h : tgOf e = .name x) : ∃ p, e = .Name x p := by
 cases e <;> first | exact Tg.noConfusion (show Tg.no = .name x from h) | skip
 ·rename_i v i p
  have h2 : (match z1y v with | some x => Tg.sub x i | none => .no) = .name x := h
  cases hv : z1y v <;> rw [hv] at h2 <;> exact Tg.noConfusion h2
 ·exact ⟨_, congrArg (fun y => Expr.Name y _) (Tg.name.inj h)⟩
 ·exact Tg.noConfusion h
set_option tactic.hygienic true in
theorem tg_tup {e : Expr} {es : List Expr} (h : tgOf e = .tup es) : ∃ k p, e = .Tuple es k p := by
 cases e <;> first | exact Tg.noConfusion (show Tg.no = .tup es from h) | skip
 ·rename_i v i p
  have h2 : (match z1y v with | some x => Tg.sub x i | none => .no) = .tup es := h
  cases hv : z1y v <;> rw [hv] at h2 <;> exact Tg.noConfusion h2
 ·exact Tg.noConfusion h
 ·exact ⟨_, _, congrArg (fun y => Expr.Tuple y _ _) (Tg.tup.inj h)⟩
set_option tactic.hygienic true in
theorem tg_sub {e : Expr} {x : Str} {i : Expr} (h : tgOf e = .sub x i) : ∃ p sp, e = .Subscript (.Name x p) i sp := by
 cases e <;> first | exact Tg.noConfusion (show Tg.no = .sub x i from h) | skip
 ·rename_i v i' p
  have h2 : (match z1y v with | some x => Tg.sub x i' | none => .no) = .sub x i := h
  cases hv : z1y v with
  | none => rw [hv] at h2; exact Tg.noConfusion h2
  | some y =>
   rw [hv] at h2
   obtain ⟨e1, e2⟩ := Tg.sub.inj h2
   obtain ⟨q, rfl⟩ := z3c hv
   subst e1 e2
   exact ⟨_, _, rfl⟩
 ·exact Tg.noConfusion h
 ·exact Tg.noConfusion h
set_option tactic.hygienic true in
theorem q1k {f : Expr} {args0 args : List Expr} {kws : List Keyword} {p cp ap : Pos} {x m : Str} (h : caFn f args0 kws p = .meth x m ap args cp) : ∃ q, f = .Attribute (.Name x q) m ap /\ kws = [] /\ args0 = args /\ p = cp := by
 cases f <;> first | exact Ca.noConfusion (show Ca.no = .meth x m ap args cp from h) | exact Ca.noConfusion (show Ca.fn = .meth x m ap args cp from h) | skip
 rename_i u m' ap'
 have h2 : (match (generalizing := false) z1y u, kws with | some x, [] => Ca.meth x m' ap' args0 p | _, _ => .no) = .meth x m ap args cp := h
 cases hu : z1y u with
 | none => rw [hu] at h2; exact Ca.noConfusion h2
 | some y =>
  rw [hu] at h2
  rcases kws with _ | ⟨_, _⟩
  ·obtain ⟨e1, e2, e3, e4, e5⟩ := Ca.meth.inj h2
   obtain ⟨q, rfl⟩ := z3c hu
   subst e1 e2 e3 e4 e5
   exact ⟨q, rfl, rfl, rfl, rfl⟩
  ·exact Ca.noConfusion h2
theorem q7e {e : Expr} {args : List Expr} {cp ap : Pos} {x m : Str} (h : caOf e = .meth x m ap args cp) : ∃ q, e = .Call (.Attribute (.Name x q) m ap) args [] cp := by
 cases e <;> first | exact Ca.noConfusion (show Ca.no = .meth x m ap args cp from h) | skip
 obtain ⟨q, rfl, rfl, rfl, rfl⟩ := q1k h
 exact ⟨q, rfl⟩
set_option tactic.hygienic true in
theorem q7f {f : Expr} {args0 : List Expr} {kws : List Keyword} {p : Pos} (h : caFn f args0 kws p = .fn) : ∃ x q, f = .Name x q := by
 cases f <;> first | exact Ca.noConfusion (show Ca.no = .fn from h) | exact ⟨_, _, rfl⟩ | skip
 rename_i u m' ap'
 have h2 : (match (generalizing := false) z1y u, kws with | some x, [] => Ca.meth x m' ap' args0 p | _, _ => .no) = .fn := h
 cases hu : z1y u <;> rw [hu] at h2
 ·exact Ca.noConfusion h2
 ·rcases kws with _ | ⟨_, _⟩ <;> exact Ca.noConfusion h2
theorem ca_fn {e : Expr} (h : caOf e = .fn) : ∃ f fp args kw p, e = .Call (.Name f fp) args kw p := by
 cases e <;> first | exact Ca.noConfusion (show Ca.no = .fn from h) | skip
 obtain ⟨x, q, rfl⟩ := q7f h
 exact ⟨x, q, _, _, _, rfl⟩
set_option tactic.hygienic true in
theorem y5q {e : Expr} {f : Str} {args : List Expr} (h : q1j e = some (f, args)) : ∃ p1 p2, e = .Call (.Name f p1) args [] p2 := by
 cases e <;> first | exact z0a h | skip
 rename_i g args' kws p
 have h2 : (match (generalizing := false) z1y g, kws with | some x, [] => some (x, args') | _, _ => none) = some (f, args) := h
 cases hu : z1y g with
 | none => rw [hu] at h2; exact z0a h2
 | some y =>
  rw [hu] at h2
  rcases kws with _ | ⟨_, _⟩
  ·obtain ⟨q, rfl⟩ := z3c hu
   cases Option.some.inj h2
   exact ⟨q, p, rfl⟩
  ·exact z0a h2
theorem y3m {e : Expr} {lo hi st : Option Expr} (h : y4q e = some (lo, hi, st)) : ∃ p, e = .Slice lo hi st p := by
 cases e <;> first | exact z0a h | skip
 cases Option.some.inj h
 exact ⟨_, rfl⟩
inductive TrV (n : Nat) (c : TC) : Expr -> ME -> Prop
 | const {k : Const} {kk : Nat} {p : Pos} {me : ME} (h : (match k with | .int i => some (ME.int i) | .none => some .none | .bool b => some (.bool b) | _ => none) = some me) : TrV n c (.Constant k kk p) me
 | name {x : Str} {p : Pos} {me : ME} (hd : ¬ (x == ("__debug__" : Str)) = true) (h : c.look x = some me) : TrV n c (.Name x p) me
 | bin {l r : Expr} {op : Operator} {p : Pos} {o : Op} {a b : ME} (ho : y3j op = some o) (ha : trE n c l = some a) (hb : trE n c r = some b) : TrV n c (.BinOp l op r p) (.bin o a b)
 | neg {x : Expr} {p : Pos} {a : ME} (ha : trE n c x = some a) : TrV n c (.UnaryOp .USub x p) (.neg a)
 | not {x : Expr} {p : Pos} {a : ME} (ha : trE n c x = some a) : TrV n c (.UnaryOp .Not x p) (.not a)
 | isn {l r : Expr} {p : Pos} {a : ME} (hn : z7q r = true) (ha : trE n c l = some a) : TrV n c (.Compare l [.Is] [r] p) (.isN a)
 | notn {l r : Expr} {p : Pos} {a : ME} (hn : z7q r = true) (ha : trE n c l = some a) : TrV n c (.Compare l [.IsNot] [r] p) (.notN a)
 | cmp {l r : Expr} {op : CmpOp} {p : Pos} {o : Cm} {a b : ME} (hm : ¬ behindInMarks op r = true) (ho : trCm op = some o) (ha : trE n c l = some a) (hb : trE n c r = some b) : TrV n c (.Compare l [op] [r] p) (.cmp o a b)
 | and {x y : Expr} {p : Pos} {a b : ME} (ha : trE n c x = some a) (hb : trE n c y = some b) : TrV n c (.BoolOp .And [x, y] p) (.and a b)
 | or {x y : Expr} {p : Pos} {a b : ME} (ha : trE n c x = some a) (hb : trE n c y = some b) : TrV n c (.BoolOp .Or [x, y] p) (.or a b)
 | ite {t x y : Expr} {p : Pos} {m a b : ME} (ht : trE n c t = some m) (ha : trE n c x = some a) (hb : trE n c y = some b) : TrV n c (.IfExp t x y p) (.ite m a b)
 | call {f : Str} {p1 p2 : Pos} {args : List Expr} {me : ME} (hd : ¬ (f == ("__debug__" : Str)) = true) (h : z7w c f (z1c (trE n) c args) = some me) : TrV n c (.Call (.Name f p1) args [] p2) me
 | upTo {v u : Expr} {p1 p2 : Pos} {a b : ME} (ha : trE n c v = some a) (hb : trE n c u = some b) : TrV n c (.Subscript v (.Slice none (some u) none p1) p2) (.upTo a b)
 | fromA {v u : Expr} {p1 p2 : Pos} {a b : ME} (ha : trE n c v = some a) (hb : trE n c u = some b) : TrV n c (.Subscript v (.Slice (some u) none none p1) p2) (.fromA a b)
 | rev {v : Expr} {k : Nat} {p1 p2 p3 p4 : Pos} {a : ME} (ha : trE n c v = some a) : TrV n c (.Subscript v (.Slice none none (some (.UnaryOp .USub (.Constant (.int 1) k p1) p2)) p3) p4) (.rev a)
 | idx {v i : Expr} {p : Pos} {a b : ME} (hns : ∀ lo hi st q, i ≠ .Slice lo hi st q) (ha : trE n c v = some a) (hb : trE n c i = some b) : TrV n c (.Subscript v i p) (.idx a b)
 | list {es : List Expr} {p : Pos} {ms : ME} (hl : es.length <= 1000) (h : z1c (trE n) c es = some ms) : TrV n c (.List es p) (.list ms)
 | tup {es : List Expr} {k : Nat} {p : Pos} {ms : ME} (hl : es.length <= 1000) (h : z1c (trE n) c es = some ms) : TrV n c (.Tuple es k p) (.tup ms)
 | comp {elt tgt it : Expr} {ifs : List Expr} {sc : Scope} {p : Pos} {cn : List Str} {tt : Bool} {mi mt mc : ME} (htg : z1b tgt = some (cn, tt)) (h1 : z2f c sc cn = true) (h2 : (tt == (cn.length != 1)) = true) (hmi : z4c (trE n) c it = some mi)
   (hmt : trE n { c with sc := sc, cn := cn } elt = some mt) (hc : (ifs = [] /\ mc = .bool true) \/ (∃ t, ifs = [t] /\ trE n { c with sc := sc, cn := cn } t = some mc)) : TrV n c (.ListComp elt [⟨tgt, it, ifs, 0⟩] sc p) (.comp mt cn.length mi mc)
theorem z7t {o1 o2 : Option ME} {f : ME -> ME -> ME} {me : ME} (h : (match o1 with | none => none | some a => o2.map (f a)) = some me) : ∃ a b, o1 = some a /\ o2 = some b /\ me = f a b := by
 cases o1 with
 | none => exact z0a h
 | some a =>
  obtain ⟨b, hb, e⟩ := map_some h
  exact ⟨a, b, rfl, hb, e⟩
theorem y6j {o : Option ME} {f : ME -> ME} {me : ME} {n : Nat} (h : (if n <= 1000 then o.map f else none) = some me) : n <= 1000 /\ ∃ a, o = some a /\ me = f a := by
 by_cases hn : n <= 1000
 ·rw [if_pos hn] at h; exact ⟨hn, map_some h⟩
 ·rw [if_neg hn] at h; exact z0a h
theorem y2u {b : Bool} {o : Option ME} {me : ME} (h : (if b = true then none else o) = some me) : ¬ b = true /\ o = some me := by
 cases b with
 | true => exact z0a h
 | false => exact ⟨Bool.false_ne_true, h⟩
theorem y0y {o : Option ME} {f : ME -> Option ME} {me : ME} (h : (match o with | none => none | some a => f a) = some me) : ∃ a, o = some a /\ f a = some me := by
 cases o with
 | none => exact z0a h
 | some a => exact ⟨a, rfl, h⟩
theorem y2v {b : Bool} {o : Option ME} {me : ME} (h : (if b = true then o else none) = some me) : b = true /\ o = some me := by
 cases b with
 | true => exact ⟨rfl, h⟩
 | false => exact z0a h
theorem q0p {b : Bool} {o o' : Option ME} {me : ME} (h : (if b = true then o else o') = some me) : (b = true /\ o = some me) \/ o' = some me := by
 cases b with
 | true => exact .inl ⟨rfl, h⟩
 | false => exact .inr h
theorem q1i {n : Nat} {c : TC} {elt : Expr} {g : Comprehension} {sc : Scope} {p : Pos} {me : ME} (h : trE (n + 1) c (.ListComp elt [g] sc p) = some me) : TrV n c (.ListComp elt [g] sc p) me := by
 obtain ⟨tgt, it, ifs, a⟩ := g
 obtain ⟨ha, h⟩ := y2v (b := a == 0) h
 have ha := beq_iff_eq.mp ha
 subst ha
 rcases ht : z1b tgt with _ | ⟨cn, tt⟩
 ·dsimp only at h
  rw [ht] at h; exact z0a h
 dsimp only at h
 rw [ht] at h
 dsimp only at h
 obtain ⟨hq, h⟩ := y2v h
 rw [Bool.and_eq_true] at hq
 obtain ⟨mi, hmi, h⟩ := y0y h
 obtain ⟨mt, hmt, h⟩ := y0y h
 rcases ifs with _ | ⟨t, _ | ⟨_, _⟩⟩
 ·cases Option.some.inj h
  exact .comp ht hq.1 hq.2 hmi hmt (.inl ⟨rfl, rfl⟩)
 ·obtain ⟨b, hb, rfl⟩ := map_some h
  exact .comp ht hq.1 hq.2 hmi hmt (.inr ⟨t, rfl, hb⟩)
 ·exact z0a h
theorem q3b {n : Nat} {c : TC} {l r : Expr} {op : CmpOp} {p : Pos} {me : ME}
  (h : (if behindInMarks op r then none
   else if z7q r then match op with
    | .Is => (trE n c l).map ME.isN
    | .IsNot => (trE n c l).map .notN
    | _ => none
   else match trCm op with
    | none => none
    | some o => match trE n c l with
     | none => none
     | some a => (trE n c r).map (.cmp o a)) = some me) : TrV n c (.Compare l [op] [r] p) me := by
 obtain ⟨hm, h⟩ := y2u h
 by_cases hn : z7q r = true
 ·rw [if_pos hn] at h
  cases op <;> first | exact z0a h | skip
  ·obtain ⟨a, ha, rfl⟩ := map_some h
   exact .isn hn ha
  ·obtain ⟨a, ha, rfl⟩ := map_some h
   exact .notn hn ha
 ·rw [if_neg hn] at h
  cases ho : trCm op with
  | none => rw [ho] at h; exact z0a h
  | some o =>
   rw [ho] at h
   obtain ⟨a, b, ha, hb, rfl⟩ := z7t h
   exact .cmp hm ho ha hb
theorem q1x {n : Nat} {c : TC} {v i : Expr} {p : Pos} {me : ME} (h : trE (n + 1) c (.Subscript v i p) = some me) : TrV n c (.Subscript v i p) me := by
 obtain ⟨a, ha, h⟩ := y0y (o := trE n c v) h
 rcases hs : y4q i with _ | ⟨lo, hi, st⟩
 ·rw [hs] at h
  obtain ⟨b, hb, rfl⟩ := map_some h
  exact .idx (fun lo hi st q e => by rw [e] at hs; exact z0a hs.symm) ha hb
 ·rw [hs] at h
  obtain ⟨q, rfl⟩ := y3m hs
  rcases lo with _ | lo <;> rcases hi with _ | hi <;> rcases st with _ | st <;> first | exact z0a h | skip
  ·obtain ⟨hn, h⟩ := y2v (b := y0o st) h
   obtain ⟨k, p1, p2, rfl⟩ := y2r hn
   cases Option.some.inj h
   exact .rev ha
  ·obtain ⟨b, hb, rfl⟩ := map_some (o := trE n c hi) h
   exact .upTo ha hb
  ·obtain ⟨b, hb, rfl⟩ := map_some (o := trE n c lo) h
   exact .fromA ha hb
theorem z7v {n : Nat} {c : TC} {e : Expr} {me : ME} (h : trE (n + 1) c e = some me) : TrV n c e me := by
 cases e with
 | Constant k kk p => exact .const h
 | Name x p => obtain ⟨hd, h⟩ := y2u (b := x == ("__debug__" : Str)) h; exact .name hd h
 | BinOp l op r p =>
  cases ho : y3j op with
  | none =>
   have h2 : (match y3j op with | none => none | some o => match trE n c l with | none => none | some a => (trE n c r).map (ME.bin o a)) = some me := h
   rw [ho] at h2; exact z0a h2
  | some o =>
   have h2 : (match y3j op with | none => none | some o => match trE n c l with | none => none | some a => (trE n c r).map (ME.bin o a)) = some me := h
   rw [ho] at h2
   obtain ⟨a, b, ha, hb, rfl⟩ := z7t h2
   exact .bin ho ha hb
 | UnaryOp op x p =>
  cases op <;> first | exact z0a h | skip
  ·obtain ⟨a, ha, rfl⟩ := map_some (o := trE n c x) h; exact .not ha
  ·obtain ⟨a, ha, rfl⟩ := map_some (o := trE n c x) h; exact .neg ha
 | Compare l ops rs p =>
  rcases ops with _ | ⟨op, _ | ⟨_, _⟩⟩ <;> rcases rs with _ | ⟨r, _ | ⟨_, _⟩⟩ <;> first | exact z0a h | exact q3b h
 | BoolOp op es p =>
  cases op <;> rcases es with _ | ⟨x, _ | ⟨y, _ | ⟨_, _⟩⟩⟩ <;> first | exact z0a h | skip
  ·obtain ⟨a, b, ha, hb, rfl⟩ := z7t (o1 := trE n c x) (o2 := trE n c y) h; exact .and ha hb
  ·obtain ⟨a, b, ha, hb, rfl⟩ := z7t (o1 := trE n c x) (o2 := trE n c y) h; exact .or ha hb
 | IfExp t x y p =>
  have h2 : (match trE n c t with | none => none | some m => match trE n c x with | none => none | some a => (trE n c y).map (ME.ite m a)) = some me := h
  cases ht : trE n c t with
  | none => rw [ht] at h2; exact z0a h2
  | some m =>
   rw [ht] at h2
   obtain ⟨a, b, ha, hb, rfl⟩ := z7t h2
   exact .ite ht ha hb
 | Call f args kws p =>
  have h2 : (match (generalizing := false) z1y f, kws with
   | some x, [] => if x == ("__debug__" : Str) then none else z7w c x (z1c (trE n) c args)
   | _, _ => none) = some me := h
  cases hf : z1y f with
  | none => rw [hf] at h2; exact z0a h2
  | some x =>
   rw [hf] at h2
   rcases kws with _ | ⟨_, _⟩
   ·obtain ⟨q, rfl⟩ := z3c hf
    obtain ⟨hd, h2⟩ := y2u h2
    exact .call hd h2
   ·exact z0a h2
 | Subscript v i p => exact q1x h
 | List es p => obtain ⟨hl, a, ha, rfl⟩ := y6j (o := z1c (trE n) c es) h; exact .list hl ha
 | Tuple es k p => obtain ⟨hl, a, ha, rfl⟩ := y6j (o := z1c (trE n) c es) h; exact .tup hl ha
 | ListComp elt gens sc p =>
  rcases gens with _ | ⟨g, _ | ⟨_, _⟩⟩
  ·exact z0a h
  ·exact q1i h
  ·exact z0a h
 | _ => exact z0a h
inductive TrIV (n : Nat) (c : TC) : Expr -> ME -> Prop
 | range {f : Str} {p1 p2 : Pos} {a : Expr} {m : ME} (hg : (z1z c f && f == ("range" : Str)) = true) (h : trE n c a = some m) : TrIV n c (.Call (.Name f p1) [a] [] p2) (.range m)
 | down {f : Str} {p1 p2 q1 q2 q3 q4 : Pos} {k1 k2 : Nat} {a : Expr} {m : ME} (hg : (z1z c f && f == ("range" : Str)) = true) (h : trE n c a = some m) : TrIV n c (.Call (.Name f p1) [a, .UnaryOp .USub (.Constant (.int 1) k1 q1) q2, .UnaryOp .USub (.Constant (.int 1) k2 q3) q4] [] p2) (.down m)
 | enum {f : Str} {p1 p2 : Pos} {a : Expr} {m : ME} (hg : (z1z c f && f == ("enumerate" : Str)) = true) (h : trE n c a = some m) : TrIV n c (.Call (.Name f p1) [a] [] p2) (.enum m)
 | primes {x : Str} {p : Pos} (hg : (z1z c x && x == ("_law_primes" : Str) && !(x == ("__debug__" : Str))) = true) : TrIV n c (.Name x p) .primes
 | plain {e : Expr} {me : ME} (hns : ∀ es k p, e ≠ .Set es k p) (h : trE n c e = some me) : TrIV n c e me
theorem y4n {n : Nat} {c : TC} {e : Expr} {me : ME} (h : z4c (trE n) c e = some me) : TrIV n c e me := by
 unfold z4c at h
 rcases hc : q1j e with _ | ⟨f, args⟩
 ·rw [hc] at h
  obtain ⟨hs, h⟩ := y2u h
  have hns : ∀ es k p, e ≠ .Set es k p := fun es k p q => hs (by rw [q]; rfl)
  cases hn : z1y e with
  | none => rw [hn] at h; exact .plain hns h
  | some x =>
   rw [hn] at h
   rcases q0p h with ⟨hg, h'⟩ | h
   ·obtain ⟨p, rfl⟩ := z3c hn
    cases Option.some.inj h'
    exact .primes hg
   ·exact .plain hns h
 ·rw [hc] at h
  obtain ⟨p1, p2, rfl⟩ := y5q hc
  rcases q0p h with ⟨hg, h⟩ | h
  ·rcases args with _ | ⟨a, _ | ⟨b, _ | ⟨d, _ | ⟨_, _⟩⟩⟩⟩ <;> first | exact z0a h | skip
   ·obtain ⟨m, hm, rfl⟩ := map_some (o := trE n c a) h; exact .range hg hm
   ·obtain ⟨hq, h⟩ := y2v (b := y0o b && y0o d) h
    rw [Bool.and_eq_true] at hq
    obtain ⟨k1, q1, q2, rfl⟩ := y2r hq.1
    obtain ⟨k2, q3, q4, rfl⟩ := y2r hq.2
    obtain ⟨m, hm, rfl⟩ := map_some h
    exact .down hg hm
  ·rcases q0p h with ⟨hg, h⟩ | h
   ·rcases args with _ | ⟨a, _ | ⟨_, _⟩⟩ <;> first | exact z0a h | skip
    obtain ⟨m, hm, rfl⟩ := map_some (o := trE n c a) h; exact .enum hg hm
   ·exact .plain (fun _ _ _ q => nomatch q) h
inductive y8o (n : Nat) (c : TC) (k : Nat) : Stmt -> MS -> Prop
 | ret {e : Expr} {p : Pos} {me : ME} (h : trE n c e = some me) : y8o n c k (.Return (some e) p) (.ret me)
 | asg {x : Str} {p pos : Pos} {v : Expr} {i : Nat} {mv : ME} (hi : z3u c x = some i) (hv : trE n c v = some mv) : y8o n c k (.Assign [.Name x p] v pos) (.asg i mv)
 | asgT {es : List Expr} {k2 : Nat} {p pos : Pos} {v : Expr} {xs' : List Str} {ts : List Nat} {mv : ME} (hn : z1l es = some xs') (hts : z1x c xs' = some ts) (hq : (decide (xs'.Nodup) && !z5r v) = true) (hv : trE n c v = some mv) : y8o n c k (.Assign [.Tuple es k2 p] v pos) (.asgT ts mv)
 | put {x : Str} {p sp pos : Pos} {i v : Expr} {sl : Nat} {mi mv : ME} (hsl : z3u c x = some sl) (hmi : trE n c i = some mi) (hv : trE n c v = some mv) (hq : ¬ (y2q i || y2t v || x == ("__debug__" : Str)) = true) : y8o n c k (.Assign [.Subscript (.Name x p) i sp] v pos) (.put sl mi mv)
 | aug {x : Str} {p pos : Pos} {op : Operator} {v : Expr} {sl : Nat} {o : Op} {mv : ME} (hsl : z3u c x = some sl) (hop : y3j op = some o) (hv : trE n c v = some mv) (hq : (o == .add || o == .sub) = true) : y8o n c k (.AugAssign (.Name x p) op v pos) (.aug o sl mv)
 | app {x m : Str} {p ap cp pos : Pos} {a : Expr} {sl : Nat} {ma : ME} (hl : ¬ (!(ap.endLine == cp.line)) = true) (hs : z3u c x = some sl) (hd : ¬ (x == ("__debug__" : Str)) = true) (hm : (m == ("append" : Str)) = true) (ha : trE n c a = some ma) : y8o n c k (.Expr (.Call (.Attribute (.Name x p) m ap) [a] [] cp) pos) (.app sl ma)
 | pop {x m : Str} {p ap cp pos : Pos} {sl : Nat} (hl : ¬ (!(ap.endLine == cp.line)) = true) (hs : z3u c x = some sl) (hd : ¬ (x == ("__debug__" : Str)) = true) (hm : (m == ("pop" : Str)) = true) : y8o n c k (.Expr (.Call (.Attribute (.Name x p) m ap) [] [] cp) pos) (.pop sl)
 | ex {f : Str} {fp p pos : Pos} {args : List Expr} {kw : List Keyword} {me : ME} (h : trE n c (.Call (.Name f fp) args kw p) = some me) : y8o n c k (.Expr (.Call (.Name f fp) args kw p) pos) (.ex me)
 | ifs {t : Expr} {a b : List Stmt} {pos : Pos} {mt : ME} {ma mb : MS} (ht : trE n c t = some mt) (ha : trB (trS n c k) a = some ma) (hb : trB (trS n c k) b = some mb) : y8o n c k (.If t a b pos) (.ifs mt ma mb)
 | whl {t : Expr} {a : List Stmt} {pos : Pos} {mt : ME} {ma : MS} (ht : trE n c t = some mt) (ha : trB (trS n c k) a = some ma) : y8o n c k (.While t a [] pos) (.whl mt ma)
 | fors {tgt it : Expr} {a : List Stmt} {pos : Pos} {xs' : List Str} {tt : Bool} {ts : List Nat} {mi : ME} {ma : MS} (htg : z1b tgt = some (xs', tt)) (hts : z1x c xs' = some ts) (hmi : z4c (trE n) c it = some mi) (hma : trB (trS n c k) a = some ma) (hnd : decide (xs'.Nodup) = true) : y8o n c k (.For tgt it a [] pos) (.fors ts tt mi ma)
 | bad {a b : Option Expr} {p : Pos} : y8o n c k (.Raise a b p) .bad
theorem y7d {o : Option Nat} {f : Nat -> Option MS} {b : MS} (h : (match o with | none => none | some a => f a) = some b) : ∃ a, o = some a /\ f a = some b := by
 cases o with
 | none => exact z0a h
 | some a => exact ⟨a, rfl, h⟩
theorem q1l {o : Option (List Str)} {f : List Str -> Option MS} {b : MS} (h : (match o with | none => none | some a => f a) = some b) : ∃ a, o = some a /\ f a = some b := by
 cases o with
 | none => exact z0a h
 | some a => exact ⟨a, rfl, h⟩
theorem q1m {o : Option (List Nat)} {f : List Nat -> Option MS} {b : MS} (h : (match o with | none => none | some a => f a) = some b) : ∃ a, o = some a /\ f a = some b := by
 cases o with
 | none => exact z0a h
 | some a => exact ⟨a, rfl, h⟩
theorem q6n {α : Type} {b : Bool} {o : Option α} {a : α} (h : (if b = true then none else o) = some a) : ¬ b = true /\ o = some a := by
 cases b with
 | true => exact z0a h
 | false => exact ⟨Bool.false_ne_true, h⟩
theorem y6n {α : Type} {b : Bool} {o : Option α} {a : α} (h : (if b = true then o else none) = some a) : b = true /\ o = some a := by
 cases b with
 | true => exact ⟨rfl, h⟩
 | false => exact z0a h
theorem q4z {o1 : Option (Nat)} {o2 : Option (ME)} {o3 : Option (ME)} {f : Nat -> ME -> ME -> Option MS} {d : MS} (h : (match o1, o2, o3 with | some a, some b, some c => f a b c | _, _, _ => none) = some d) : ∃ a b c, o1 = some a /\ o2 = some b /\ o3 = some c /\ f a b c = some d := by
 cases o1 <;> cases o2 <;> cases o3 <;> first | exact z0a h | exact ⟨_, _, _, rfl, rfl, rfl, h⟩
theorem q4y {o1 : Option (Nat)} {o2 : Option (Op)} {o3 : Option (ME)} {f : Nat -> Op -> ME -> Option MS} {d : MS} (h : (match o1, o2, o3 with | some a, some b, some c => f a b c | _, _, _ => none) = some d) : ∃ a b c, o1 = some a /\ o2 = some b /\ o3 = some c /\ f a b c = some d := by
 cases o1 <;> cases o2 <;> cases o3 <;> first | exact z0a h | exact ⟨_, _, _, rfl, rfl, rfl, h⟩
theorem q4x {o1 : Option (ME)} {o2 : Option (MS)} {o3 : Option (MS)} {f : ME -> MS -> MS -> Option MS} {d : MS} (h : (match o1, o2, o3 with | some a, some b, some c => f a b c | _, _, _ => none) = some d) : ∃ a b c, o1 = some a /\ o2 = some b /\ o3 = some c /\ f a b c = some d := by
 cases o1 <;> cases o2 <;> cases o3 <;> first | exact z0a h | exact ⟨_, _, _, rfl, rfl, rfl, h⟩
theorem q4w {o1 : Option (List Nat)} {o2 : Option (ME)} {o3 : Option (MS)} {f : List Nat -> ME -> MS -> Option MS} {d : MS} (h : (match o1, o2, o3 with | some a, some b, some c => f a b c | _, _, _ => none) = some d) : ∃ a b c, o1 = some a /\ o2 = some b /\ o3 = some c /\ f a b c = some d := by
 cases o1 <;> cases o2 <;> cases o3 <;> first | exact z0a h | exact ⟨_, _, _, rfl, rfl, rfl, h⟩
theorem two_e {o1 : Option ME} {o2 : Option MS} {f : ME -> MS -> Option MS} {d : MS} (h : (match o1, o2 with | some a, some b => f a b | _, _ => none) = some d) : ∃ a b, o1 = some a /\ o2 = some b /\ f a b = some d := by
 cases o1 <;> cases o2 <;> first | exact z0a h | exact ⟨_, _, rfl, rfl, h⟩
theorem q1t {n : Nat} {c : TC} {k : Nat} {s : Stmt} {ms : MS} (h : trS n c (k + 1) s = some ms) : y8o n c k s ms := by
 cases s with
 | Return e p =>
  cases e with
  | none => exact z0a h
  | some e => obtain ⟨a, ha, rfl⟩ := z6k (o := trE n c e) (f := MS.ret) h; exact .ret ha
 | Assign ts v pos =>
  rcases ts with _ | ⟨t, _ | ⟨_, _⟩⟩ <;> first | exact z0a h | skip
  have h2 : (match tgOf t with
    | .name x => (match z3u c x with
     | none => none
     | some i => (trE n c v).map (MS.asg i))
    | .tup es => (match z1l es with
     | none => none
     | some xs => match z1x c xs with
      | none => none
      | some is => if decide (xs.Nodup) && !z5r v then (trE n c v).map (.asgT is) else none)
    | .sub x i => (match z3u c x, trE n c i, trE n c v with
     | some s, some mi, some mv => if y2q i || y2t v || x == ("__debug__" : Str) then none else some (.put s mi mv)
     | _, _, _ => none)
    | .no => none) = some ms := h
  cases ht : tgOf t with
  | name x =>
   rw [ht] at h2
   obtain ⟨p, rfl⟩ := q5a ht
   obtain ⟨i, hi, h2⟩ := y7d h2
   obtain ⟨mv, hv, rfl⟩ := z6k h2
   exact .asg hi hv
  | tup es =>
   rw [ht] at h2
   obtain ⟨k2, p, rfl⟩ := tg_tup ht
   obtain ⟨xs', hn, h2⟩ := q1l h2
   obtain ⟨ts, hts, h3⟩ := q1m h2
   obtain ⟨hq, h4⟩ := y6n h3
   obtain ⟨mv, hv, rfl⟩ := z6k h4
   exact .asgT hn hts hq hv
  | sub x i =>
   rw [ht] at h2
   obtain ⟨p, sp, rfl⟩ := tg_sub ht
   obtain ⟨sl, mi, mv, e1, e2, e3, h4⟩ := q4z h2
   obtain ⟨hq, h5⟩ := q6n h4
   cases Option.some.inj h5
   exact .put e1 e2 e3 hq
  | no => rw [ht] at h2; exact z0a h2
 | AugAssign t op v pos =>
  have h2 : (match z1y t with
   | some x => (match z3u c x, y3j op, trE n c v with
    | some s, some o, some mv => if o == .add || o == .sub then some (MS.aug o s mv) else none
    | _, _, _ => none)
   | none => none) = some ms := h
  cases hn : z1y t with
  | none => rw [hn] at h2; exact z0a h2
  | some x =>
   rw [hn] at h2
   obtain ⟨p, rfl⟩ := z3c hn
   obtain ⟨sl, o, mv, e1, e2, e3, h4⟩ := q4y h2
   obtain ⟨hq, h5⟩ := y6n h4
   cases Option.some.inj h5
   exact .aug e1 e2 e3 hq
 | Expr e pos =>
  have h2 : (match caOf e with
   | .meth x m ap args cp => if !(ap.endLine == cp.line) then none else (match z3u c x with
    | none => none
    | some s => if x == ("__debug__" : Str) then none else if m == ("append" : Str) then (match args with | [a] => (trE n c a).map (MS.app s) | _ => none)
     else if m == ("pop" : Str) then (match args with | [] => some (.pop s) | _ => none)
     else none)
   | .fn => (trE n c e).map .ex
   | .no => none) = some ms := h
  cases hc : caOf e with
  | meth x m ap args cp =>
   rw [hc] at h2
   obtain ⟨q, rfl⟩ := q7e hc
   obtain ⟨hl, h2⟩ := q6n h2
   obtain ⟨sl, hs, h3⟩ := y7d h2
   obtain ⟨hd, h4⟩ := q6n h3
   by_cases hm : (m == ("append" : Str)) = true
   ·rw [if_pos hm] at h4
    rcases args with _ | ⟨a, _ | ⟨_, _⟩⟩ <;> first | exact z0a h4 | skip
    obtain ⟨ma, ha, rfl⟩ := z6k h4
    exact .app hl hs hd hm ha
   ·rw [if_neg hm] at h4
    obtain ⟨hp, h5⟩ := y6n h4
    rcases args with _ | ⟨_, _⟩ <;> first | exact z0a h5 | skip
    cases Option.some.inj h5
    exact .pop hl hs hd hp
  | fn =>
   rw [hc] at h2
   obtain ⟨f, fp, args, kw, p, rfl⟩ := ca_fn hc
   obtain ⟨a, ha, rfl⟩ := z6k h2
   exact .ex ha
  | no => rw [hc] at h2; exact z0a h2
 | If t a b pos =>
  obtain ⟨mt, ma, mb, h1, h2, h3, h4⟩ := q4x (o1 := trE n c t) (o2 := trB (trS n c k) a) (o3 := trB (trS n c k) b) (f := fun mt ma mb => some (MS.ifs mt ma mb)) h
  cases Option.some.inj h4
  exact .ifs h1 h2 h3
 | While t a b pos =>
  rcases b with _ | ⟨_, _⟩ <;> first | exact z0a h | skip
  obtain ⟨mt, ma, h1, h2, h4⟩ := two_e (o1 := trE n c t) (o2 := trB (trS n c k) a) (f := fun mt ma => some (MS.whl mt ma)) h
  cases Option.some.inj h4
  exact .whl h1 h2
 | For tgt it a b pos =>
  rcases b with _ | ⟨_, _⟩ <;> first | exact z0a h | skip
  rcases htg : z1b tgt with _ | ⟨xs', tt⟩
  ·have h2 : (match z1b tgt with
    | none => none
    | some (xs, tt) => match z1x c xs, z4c (trE n) c it, trB (trS n c k) a with
     | some is, some mi, some ma => if decide (xs.Nodup) then some (MS.fors is tt mi ma) else none
     | _, _, _ => none) = some ms := h
   rw [htg] at h2; exact z0a h2
  have h2 : (match z1b tgt with
    | none => none
    | some (xs, tt) => match z1x c xs, z4c (trE n) c it, trB (trS n c k) a with
     | some is, some mi, some ma => if decide (xs.Nodup) then some (MS.fors is tt mi ma) else none
     | _, _, _ => none) = some ms := h
  rw [htg] at h2
  obtain ⟨ts, mi, ma, h3, h4, h5, h6⟩ := q4w (f := fun is mi ma => if (decide (xs'.Nodup)) = true then some (MS.fors is tt mi ma) else none) h2
  obtain ⟨hq, h7⟩ := y6n h6
  cases Option.some.inj h7
  exact .fors htg h3 h4 h5 hq
 | Raise a b p => cases Option.some.inj (show some MS.bad = some ms from h); exact .bad
 | _ => exact z0a h
end Mine
end
section
namespace Mine
open MS ME
noncomputable def d_gcd : MD := MD.mk "gcd" 2 ["a", "b"] []
 (.seq (.asgT [0, 1] (.tup (.cons (.abs (.var 0)) (.cons (.abs (.var 1)) .nil)))) (.seq (.whl (.cmp .ne (.var 1) (.int 0)) (.seq (.asgT [0, 1] (.tup (.cons (.var 1) (.cons (.bin .mod (.var 0) (.var 1)) .nil)))) .skip)) (.seq (.ret (.var 0)) .skip)))
noncomputable def y4e : MD := MD.mk "gcd_all" 1 ["numbers", "found", "number"] []
 (.seq (.asg 1 (.int 0)) (.seq (.fors [2] false (.var 0) (.seq (.asg 1 (.call 0 (.cons (.var 1) (.cons (.var 2) .nil)))) .skip)) (.seq (.ret (.var 1)) .skip)))
noncomputable def y1y : MD := MD.mk "extended" 2 ["a", "b", "one", "other", "times", "rest"] []
 (.seq (.asgT [2, 3] (.tup (.cons (.tup (.cons (.var 0) (.cons (.int 1) (.cons (.int 0) .nil)))) (.cons (.tup (.cons (.var 1) (.cons (.int 0) (.cons (.int 1) .nil)))) .nil)))) (.seq (.whl (.cmp .ne (.idx (.var 3) (.int 0)) (.int 0)) (.seq (.asg 4 (.bin .fdiv (.idx (.var 2) (.int 0)) (.idx (.var 3) (.int 0)))) (.seq (.asg 5 (.tup (.cons (.bin .sub (.idx (.var 2) (.int 0)) (.bin .mul (.var 4) (.idx (.var 3) (.int 0)))) (.cons (.bin .sub (.idx (.var 2) (.int 1)) (.bin .mul (.var 4) (.idx (.var 3) (.int 1)))) (.cons (.bin .sub (.idx (.var 2) (.int 2)) (.bin .mul (.var 4) (.idx (.var 3) (.int 2)))) .nil))))) (.seq (.asgT [2, 3] (.tup (.cons (.var 3) (.cons (.var 5) .nil)))) .skip)))) (.seq (.ret (.ite (.cmp .ge (.idx (.var 2) (.int 0)) (.int 0)) (.var 2) (.tup (.cons (.bin .sub (.int 0) (.idx (.var 2) (.int 0))) (.cons (.bin .sub (.int 0) (.idx (.var 2) (.int 1))) (.cons (.bin .sub (.int 0) (.idx (.var 2) (.int 2))) .nil)))))) .skip)))
noncomputable def z8d : MD := MD.mk "inverse_mod" 2 ["a", "m", "g", "s", "t"] []
 (.seq (.asgT [2, 3, 4] (.call 2 (.cons (.bin .mod (.var 0) (.var 1)) (.cons (.var 1) .nil)))) (.seq (.ret (.ite (.cmp .eq (.var 2) (.int 1)) (.bin .mod (.var 3) (.var 1)) .none)) .skip))
noncomputable def y0s : MD := MD.mk "least_divisor" 2 ["n", "begin", "found"] []
 (.seq (.asg 2 (.var 1)) (.seq (.whl (.cmp .le (.bin .mul (.var 2) (.var 2)) (.var 0)) (.seq (.ifs (.cmp .eq (.bin .mod (.var 0) (.var 2)) (.int 0)) (.seq (.ret (.var 2)) .skip) .skip) (.seq (.aug .add 2 (.ite (.cmp .eq (.var 2) (.int 2)) (.int 1) (.int 2))) .skip))) (.seq (.ret (.var 0)) .skip)))
noncomputable def y8l : MD := MD.mk "is_prime" 1 ["n"] []
 (.seq (.ret (.and (.cmp .ge (.var 0) (.int 2)) (.cmp .eq (.call 4 (.cons (.var 0) (.cons (.int 2) .nil))) (.var 0)))) .skip)
noncomputable def y4b : MD := MD.mk "next_prime" 1 ["n", "found"] []
 (.seq (.asg 1 (.max (.bin .add (.var 0) (.int 1)) (.int 2))) (.seq (.whl (.not (.call 5 (.cons (.var 1) .nil))) (.seq (.aug .add 1 (.int 1)) .skip)) (.seq (.ret (.var 1)) .skip)))
noncomputable def z8e : MD := MD.mk "chinese_two" 2 ["one", "other", "g", "s", "t", "joined"] []
 (.seq (.asgT [2, 3, 4] (.call 2 (.cons (.idx (.var 0) (.int 1)) (.cons (.idx (.var 1) (.int 1)) .nil)))) (.seq (.ifs (.cmp .ne (.bin .mod (.bin .sub (.idx (.var 1) (.int 0)) (.idx (.var 0) (.int 0))) (.var 2)) (.int 0)) (.seq (.ret .none) .skip) .skip) (.seq (.asg 5 (.bin .mul (.bin .fdiv (.idx (.var 0) (.int 1)) (.var 2)) (.idx (.var 1) (.int 1)))) (.seq (.ret (.tup (.cons (.bin .mod (.bin .add (.idx (.var 0) (.int 0)) (.bin .mul (.idx (.var 0) (.int 1)) (.bin .mul (.var 3) (.bin .fdiv (.bin .sub (.idx (.var 1) (.int 0)) (.idx (.var 0) (.int 0))) (.var 2))))) (.var 5)) (.cons (.var 5) .nil)))) .skip))))
noncomputable def y4f : MD := MD.mk "chinese" 1 ["pairs", "found", "pair"] []
 (.seq (.asg 1 (.tup (.cons (.int 0) (.cons (.int 1) .nil)))) (.seq (.fors [2] false (.var 0) (.seq (.ifs (.notN (.var 1)) (.seq (.asg 1 (.call 7 (.cons (.var 1) (.cons (.var 2) .nil)))) .skip) .skip) .skip)) (.seq (.ret (.var 1)) .skip)))
noncomputable def y0r : MD := MD.mk "symmetric" 2 ["a", "m", "rest"] []
 (.seq (.asg 2 (.bin .mod (.var 0) (.var 1))) (.seq (.ret (.ite (.cmp .gt (.bin .mul (.int 2) (.var 2)) (.var 1)) (.bin .sub (.var 2) (.var 1)) (.var 2))) .skip))
noncomputable def q1d : MD := MD.mk "mtrim" 1 ["a", "many"] []
 (.seq (.asg 1 (.len (.var 0))) (.seq (.whl (.and (.cmp .gt (.var 1) (.int 0)) (.cmp .eq (.idx (.var 0) (.bin .sub (.var 1) (.int 1))) (.int 0))) (.seq (.asg 1 (.bin .sub (.var 1) (.int 1))) .skip)) (.seq (.ret (.copy (.upTo (.var 0) (.var 1)))) .skip)))
noncomputable def y6x : MD := MD.mk "mscale" 3 ["a", "number", "p"] []
 (.seq (.ret (.call 10 (.cons (.comp (.bin .mod (.bin .mul (.cvar 0) (.var 1)) (.var 2)) 1 (.var 0) (.bool true)) .nil))) .skip)
noncomputable def y4c : MD := MD.mk "mdivmod" 3 ["a", "b", "p", "rest", "quotient", "turn", "at", "number", "spot", "other"] [3, 4]
 (.seq (.asgT [3, 4] (.tup (.cons (.copy (.var 0)) (.cons (.bin .mul (.list (.cons (.int 0) .nil)) (.max (.int 0) (.bin .add (.bin .sub (.len (.var 0)) (.len (.var 1))) (.int 1)))) .nil)))) (.seq (.asg 5 (.call 3 (.cons (.idx (.var 1) (.neg (.int 1))) (.cons (.var 2) .nil)))) (.seq (.fors [6] false (.down (.bin .sub (.len (.var 0)) (.len (.var 1)))) (.seq (.asg 7 (.bin .mod (.bin .mul (.idx (.var 3) (.bin .sub (.bin .add (.var 6) (.len (.var 1))) (.int 1))) (.var 5)) (.var 2))) (.seq (.put 4 (.var 6) (.var 7)) (.seq (.ifs (.cmp .ne (.var 7) (.int 0)) (.seq (.fors [8, 9] true (.enum (.var 1)) (.seq (.put 3 (.bin .add (.var 6) (.var 8)) (.bin .mod (.bin .sub (.idx (.var 3) (.bin .add (.var 6) (.var 8))) (.bin .mul (.var 7) (.var 9))) (.var 2))) .skip)) .skip) .skip) .skip)))) (.seq (.ret (.tup (.cons (.call 10 (.cons (.var 4) .nil)) (.cons (.call 10 (.cons (.upTo (.var 3) (.bin .sub (.len (.var 1)) (.int 1))) .nil)) .nil)))) .skip))))
noncomputable def q1e : MD := MD.mk "mrest" 3 ["a", "b", "p"] []
 (.seq (.ret (.idx (.call 12 (.cons (.var 0) (.cons (.var 1) (.cons (.var 2) .nil)))) (.int 1))) .skip)
noncomputable def y6y : MD := MD.mk "mmonic" 2 ["a", "p"] []
 (.seq (.ret (.ite (.cmp .gt (.len (.var 0)) (.int 0)) (.call 11 (.cons (.var 0) (.cons (.call 3 (.cons (.idx (.var 0) (.neg (.int 1))) (.cons (.var 1) .nil))) (.cons (.var 1) .nil)))) (.list .nil))) .skip)
noncomputable def q4i : MD := MD.mk "mgcd" 3 ["a", "b", "p"] []
 (.seq (.whl (.cmp .gt (.len (.var 1)) (.int 0)) (.seq (.asgT [0, 1] (.tup (.cons (.var 1) (.cons (.call 13 (.cons (.var 0) (.cons (.var 1) (.cons (.var 2) .nil)))) .nil)))) .skip)) (.seq (.ret (.call 14 (.cons (.var 0) (.cons (.var 2) .nil)))) .skip))
noncomputable def q1b : MD := MD.mk "ztrim" 1 ["row", "size"] []
 (.seq (.asg 1 (.len (.var 0))) (.seq (.whl (.and (.cmp .gt (.var 1) (.int 0)) (.cmp .eq (.idx (.var 0) (.bin .sub (.var 1) (.int 1))) (.int 0))) (.seq (.aug .sub 1 (.int 1)) .skip)) (.seq (.ret (.copy (.upTo (.var 0) (.var 1)))) .skip)))
noncomputable def q1c : MD := MD.mk "zlead" 1 ["p"] []
 (.seq (.ret (.ite (.cmp .gt (.len (.var 0)) (.int 0)) (.idx (.var 0) (.neg (.int 1))) (.int 0))) .skip)
noncomputable def q4h : MD := MD.mk "zadd" 2 ["a", "b", "size"] []
 (.seq (.asg 2 (.max (.len (.var 0)) (.len (.var 1)))) (.seq (.ret (.call 16 (.cons (.comp (.bin .add (.ite (.cmp .lt (.cvar 0) (.len (.var 0))) (.idx (.var 0) (.cvar 0)) (.int 0)) (.ite (.cmp .lt (.cvar 0) (.len (.var 1))) (.idx (.var 1) (.cvar 0)) (.int 0))) 1 (.range (.var 2)) (.bool true)) .nil))) .skip))
noncomputable def q4e : MD := MD.mk "zneg" 1 ["p"] []
 (.seq (.ret (.comp (.neg (.cvar 0)) 1 (.var 0) (.bool true))) .skip)
noncomputable def q4d : MD := MD.mk "zsub" 2 ["a", "b"] []
 (.seq (.ret (.call 18 (.cons (.var 0) (.cons (.call 19 (.cons (.var 1) .nil)) .nil)))) .skip)
noncomputable def y6t : MD := MD.mk "zscale" 2 ["p", "k"] []
 (.seq (.ret (.ite (.cmp .ne (.var 1) (.int 0)) (.comp (.bin .mul (.cvar 0) (.var 1)) 1 (.var 0) (.bool true)) (.list .nil))) .skip)
noncomputable def y6u : MD := MD.mk "zraise" 2 ["p", "many"] []
 (.seq (.ret (.ite (.cmp .gt (.len (.var 0)) (.int 0)) (.bin .add (.bin .mul (.list (.cons (.int 0) .nil)) (.var 1)) (.copy (.var 0))) (.list .nil))) .skip)
noncomputable def y1x : MD := MD.mk "zcontent" 1 ["p"] []
 (.seq (.ret (.call 1 (.cons (.var 0) .nil))) .skip)
noncomputable def y1w : MD := MD.mk "zdivided" 2 ["p", "k"] []
 (.seq (.ret (.comp (.bin .fdiv (.cvar 0) (.var 1)) 1 (.var 0) (.bool true))) .skip)
noncomputable def z9n : MD := MD.mk "zprimitive" 1 ["p", "content"] []
 (.seq (.ifs (.cmp .eq (.len (.var 0)) (.int 0)) (.seq (.ret (.list .nil)) .skip) .skip) (.seq (.asg 1 (.call 23 (.cons (.var 0) .nil))) (.seq (.ret (.call 24 (.cons (.var 0) (.cons (.ite (.cmp .gt (.idx (.var 0) (.neg (.int 1))) (.int 0)) (.var 1) (.neg (.var 1))) .nil)))) .skip)))
noncomputable def q4f : MD := MD.mk "zmod" 2 ["p", "m"] []
 (.seq (.ret (.call 16 (.cons (.comp (.bin .mod (.cvar 0) (.var 1)) 1 (.var 0) (.bool true)) .nil))) .skip)
noncomputable def z7l : MD := MD.mk "check_bottom" 1 ["p"] []
 (.seq (.ifs (.cmp .eq (.len (.var 0)) (.int 0)) (.seq .bad .skip) .skip) .skip)
noncomputable def y6v : MD := MD.mk "zexact" 2 ["a", "b", "rest", "found", "number", "power"] [3]
 (.seq (.ex (.call 27 (.cons (.var 1) .nil))) (.seq (.asgT [2, 3] (.tup (.cons (.copy (.var 0)) (.cons (.bin .mul (.list (.cons (.int 0) .nil)) (.max (.int 0) (.bin .add (.bin .sub (.len (.var 0)) (.len (.var 1))) (.int 1)))) .nil)))) (.seq (.whl (.cmp .ge (.len (.var 2)) (.len (.var 1))) (.seq (.ifs (.cmp .ne (.bin .mod (.idx (.var 2) (.neg (.int 1))) (.idx (.var 1) (.neg (.int 1)))) (.int 0)) (.seq (.ret .none) .skip) .skip) (.seq (.asgT [4, 5] (.tup (.cons (.bin .fdiv (.idx (.var 2) (.neg (.int 1))) (.idx (.var 1) (.neg (.int 1)))) (.cons (.bin .sub (.len (.var 2)) (.len (.var 1))) .nil)))) (.seq (.put 3 (.var 5) (.var 4)) (.seq (.asg 2 (.call 20 (.cons (.var 2) (.cons (.call 22 (.cons (.call 21 (.cons (.var 1) (.cons (.var 4) .nil))) (.cons (.var 5) .nil))) .nil)))) .skip))))) (.seq (.ret (.ite (.cmp .eq (.len (.var 2)) (.int 0)) (.call 16 (.cons (.var 3) .nil)) .none)) .skip))))
noncomputable def z8y : MD := MD.mk "zdivides" 2 ["b", "a"] []
 (.seq (.ret (.notN (.call 28 (.cons (.var 1) (.cons (.var 0) .nil))))) .skip)
noncomputable def y6w : MD := MD.mk "pseudo" 2 ["a", "b", "many", "rest", "found", "left", "first", "number", "power", "more"] []
 (.seq (.ex (.call 27 (.cons (.var 1) .nil))) (.seq (.asg 2 (.max (.int 0) (.bin .add (.bin .sub (.len (.var 0)) (.len (.var 1))) (.int 1)))) (.seq (.asgT [3, 4, 5, 6] (.tup (.cons (.copy (.var 0)) (.cons (.list .nil) (.cons (.var 2) (.cons (.call 17 (.cons (.var 1) .nil)) .nil)))))) (.seq (.whl (.cmp .ge (.len (.var 3)) (.len (.var 1))) (.seq (.asgT [7, 8] (.tup (.cons (.idx (.var 3) (.neg (.int 1))) (.cons (.bin .sub (.len (.var 3)) (.len (.var 1))) .nil)))) (.seq (.asg 4 (.call 20 (.cons (.call 21 (.cons (.var 4) (.cons (.var 6) .nil))) (.cons (.call 22 (.cons (.list (.cons (.neg (.var 7)) .nil)) (.cons (.var 8) .nil))) .nil)))) (.seq (.asg 3 (.call 20 (.cons (.call 21 (.cons (.var 3) (.cons (.var 6) .nil))) (.cons (.call 22 (.cons (.call 21 (.cons (.var 1) (.cons (.var 7) .nil))) (.cons (.var 8) .nil))) .nil)))) (.seq (.aug .sub 5 (.int 1)) .skip))))) (.seq (.asg 9 (.bin .pow (.var 6) (.var 5))) (.seq (.ret (.tup (.cons (.call 21 (.cons (.var 4) (.cons (.var 9) .nil))) (.cons (.call 21 (.cons (.var 3) (.cons (.var 9) .nil))) (.cons (.var 2) .nil))))) .skip))))))
noncomputable def z7i : MD := MD.mk "zpseudo_rest" 2 ["a", "b"] []
 (.seq (.ret (.idx (.call 30 (.cons (.var 0) (.cons (.var 1) .nil))) (.int 1))) .skip)
noncomputable def q1f : MD := MD.mk "image" 4 ["a", "b", "front", "p"] []
 (.seq (.ret (.call 11 (.cons (.call 15 (.cons (.call 26 (.cons (.var 0) (.cons (.var 3) .nil))) (.cons (.call 26 (.cons (.var 1) (.cons (.var 3) .nil))) (.cons (.var 3) .nil)))) (.cons (.bin .mod (.var 2) (.var 3)) (.cons (.var 3) .nil))))) .skip)
noncomputable def y6z : MD := MD.mk "joined" 4 ["one", "m", "other", "p"] []
 (.seq (.ret (.comp (.idx (.call 8 (.cons (.list (.cons (.tup (.cons (.cvar 1) (.cons (.var 1) .nil))) (.cons (.tup (.cons (.idx (.var 2) (.cvar 0)) (.cons (.var 3) .nil))) .nil))) .nil)) (.int 0)) 2 (.enum (.var 0)) (.bool true))) .skip)
noncomputable def z7k : MD := MD.mk "symmetric_of" 2 ["p", "m"] []
 (.seq (.ret (.call 16 (.cons (.comp (.call 9 (.cons (.cvar 0) (.cons (.var 1) .nil))) 1 (.var 0) (.bool true)) .nil))) .skip)
noncomputable def y0u : MD := MD.mk "is_common" 3 ["candidate", "a", "b"] []
 (.seq (.ret (.and (.call 29 (.cons (.var 0) (.cons (.var 1) .nil))) (.call 29 (.cons (.var 0) (.cons (.var 2) .nil))))) .skip)
noncomputable def z4h : MD := MD.mk "primitive_gcd" 3 ["a", "b", "first_prime", "front", "known", "m", "p", "found", "candidate"] []
 (.seq (.asg 3 (.call 0 (.cons (.call 17 (.cons (.var 0) .nil)) (.cons (.call 17 (.cons (.var 1) .nil)) .nil)))) (.seq (.asgT [4, 5, 6] (.tup (.cons (.list .nil) (.cons (.int 1) (.cons (.var 2) .nil))))) (.seq (.whl (.bool true) (.seq (.ifs (.cmp .ne (.bin .mod (.var 3) (.var 6)) (.int 0)) (.seq (.asg 7 (.call 32 (.cons (.var 0) (.cons (.var 1) (.cons (.var 3) (.cons (.var 6) .nil)))))) (.seq (.ifs (.cmp .eq (.len (.var 7)) (.int 1)) (.seq (.ret (.list (.cons (.int 1) .nil))) .skip) .skip) (.seq (.ifs (.or (.cmp .eq (.len (.var 4)) (.int 0)) (.cmp .lt (.len (.var 7)) (.len (.var 4)))) (.seq (.asgT [4, 5] (.tup (.cons (.var 7) (.cons (.var 6) .nil)))) .skip) (.seq (.ifs (.cmp .eq (.len (.var 7)) (.len (.var 4))) (.seq (.asgT [4, 5] (.tup (.cons (.call 33 (.cons (.var 4) (.cons (.var 5) (.cons (.var 7) (.cons (.var 6) .nil))))) (.cons (.bin .mul (.var 5) (.var 6)) .nil)))) .skip) .skip) .skip)) (.seq (.asg 8 (.call 25 (.cons (.call 34 (.cons (.var 4) (.cons (.var 5) .nil))) .nil))) (.seq (.ifs (.call 35 (.cons (.var 8) (.cons (.var 0) (.cons (.var 1) .nil)))) (.seq (.ret (.var 8)) .skip) .skip) .skip))))) .skip) (.seq (.asg 6 (.call 6 (.cons (.var 6) .nil))) .skip))) .skip)))
noncomputable def z7j : MD := MD.mk "zgcd_modular" 3 ["a", "b", "first_prime", "only", "number"] []
 (.seq (.ifs (.or (.cmp .eq (.len (.var 0)) (.int 0)) (.cmp .eq (.len (.var 1)) (.int 0))) (.seq (.asg 3 (.ite (.cmp .eq (.len (.var 0)) (.int 0)) (.var 1) (.var 0))) (.seq (.ret (.call 21 (.cons (.call 25 (.cons (.var 3) .nil)) (.cons (.call 23 (.cons (.var 3) .nil)) .nil)))) .skip)) .skip) (.seq (.asg 4 (.call 0 (.cons (.call 23 (.cons (.var 0) .nil)) (.cons (.call 23 (.cons (.var 1) .nil)) .nil)))) (.seq (.ret (.call 21 (.cons (.call 36 (.cons (.call 25 (.cons (.var 0) .nil)) (.cons (.call 25 (.cons (.var 1) .nil)) (.cons (.var 2) .nil)))) (.cons (.var 4) .nil)))) .skip)))
noncomputable def z5n : MD := MD.mk "next_height" 3 ["front", "step", "height"] []
 (.seq (.ifs (.cmp .eq (.var 1) (.int 0)) (.seq (.ret (.var 2)) .skip) .skip) (.seq (.ret (.bin .fdiv (.bin .pow (.var 0) (.var 1)) (.bin .pow (.var 2) (.bin .sub (.var 1) (.int 1))))) .skip))
noncomputable def z4g : MD := MD.mk "subresultants" 2 ["a", "b", "row", "front", "height", "step", "rest"] [2]
 (.seq (.ifs (.cmp .lt (.len (.var 0)) (.len (.var 1))) (.seq (.asgT [0, 1] (.tup (.cons (.var 1) (.cons (.var 0) .nil)))) .skip) .skip) (.seq (.asgT [2, 3, 4] (.tup (.cons (.list (.cons (.copy (.var 0)) (.cons (.copy (.var 1)) .nil))) (.cons (.int 1) (.cons (.int 1) .nil))))) (.seq (.whl (.cmp .gt (.len (.var 1)) (.int 1)) (.seq (.asg 5 (.bin .sub (.len (.var 0)) (.len (.var 1)))) (.seq (.asg 6 (.call 31 (.cons (.var 0) (.cons (.var 1) .nil)))) (.seq (.ifs (.cmp .eq (.len (.var 6)) (.int 0)) (.seq (.ret (.var 2)) .skip) .skip) (.seq (.asgT [0, 1] (.tup (.cons (.var 1) (.cons (.call 24 (.cons (.var 6) (.cons (.bin .mul (.var 3) (.bin .pow (.var 4) (.var 5))) .nil))) .nil)))) (.seq (.app 2 (.var 1)) (.seq (.asg 3 (.call 17 (.cons (.var 0) .nil))) (.seq (.asg 4 (.call 38 (.cons (.var 3) (.cons (.var 5) (.cons (.var 4) .nil))))) .skip)))))))) (.seq (.ret (.var 2)) .skip))))
noncomputable def q4g : MD := MD.mk "zgcd" 2 ["a", "b", "only", "number", "last"] []
 (.seq (.ifs (.or (.cmp .eq (.len (.var 0)) (.int 0)) (.cmp .eq (.len (.var 1)) (.int 0))) (.seq (.asg 2 (.ite (.cmp .eq (.len (.var 0)) (.int 0)) (.var 1) (.var 0))) (.seq (.ret (.call 21 (.cons (.call 25 (.cons (.var 2) .nil)) (.cons (.call 23 (.cons (.var 2) .nil)) .nil)))) .skip)) .skip) (.seq (.asg 3 (.call 0 (.cons (.call 23 (.cons (.var 0) .nil)) (.cons (.call 23 (.cons (.var 1) .nil)) .nil)))) (.seq (.asg 4 (.idx (.call 39 (.cons (.call 25 (.cons (.var 0) .nil)) (.cons (.call 25 (.cons (.var 1) .nil)) .nil))) (.neg (.int 1)))) (.seq (.ret (.ite (.cmp .gt (.len (.var 4)) (.int 1)) (.call 21 (.cons (.call 25 (.cons (.var 4) .nil)) (.cons (.var 3) .nil))) (.list (.cons (.var 3) .nil)))) .skip))))
noncomputable def y8j : MD := MD.mk "_law_take" 2 ["box", "many", "drawn"] []
 (.bad)
noncomputable def y8k : MD := MD.mk "_law_poly" 1 ["box", "many", "found"] []
 (.seq (.asg 1 (.bin .add (.int 1) (.call 41 (.cons (.var 0) (.cons (.int 2) .nil))))) (.seq (.asg 2 (.comp (.bin .sub (.call 41 (.cons (.var 0) (.cons (.int 7) .nil))) (.int 3)) 1 (.range (.var 1)) (.bool true))) (.seq (.ret (.bin .add (.var 2) (.list (.cons (.idx (.list (.cons (.int 1) (.cons (.int 2) (.cons (.neg (.int 1)) (.cons (.int 3) .nil))))) (.call 41 (.cons (.var 0) (.cons (.int 4) .nil)))) .nil)))) .skip)))
noncomputable def z8b : MD := MD.mk "_law_product" 2 ["a", "b", "found", "at", "one", "spot", "other"] [2]
 (.seq (.asg 2 (.bin .mul (.list (.cons (.int 0) .nil)) (.bin .sub (.bin .add (.len (.var 0)) (.len (.var 1))) (.int 1)))) (.seq (.fors [3, 4] true (.enum (.var 0)) (.seq (.fors [5, 6] true (.enum (.var 1)) (.seq (.put 2 (.bin .add (.var 3) (.var 5)) (.bin .add (.idx (.var 2) (.bin .add (.var 3) (.var 5))) (.bin .mul (.var 4) (.var 6)))) .skip)) .skip)) (.seq (.ret (.var 2)) .skip)))
noncomputable def z8c : MD := MD.mk "_law_content" 1 ["a", "worth", "one", "other"] []
 (.seq (.asg 1 (.int 0)) (.seq (.fors [2] false (.var 0) (.seq (.asg 3 (.abs (.var 2))) (.seq (.whl (.cmp .ne (.var 3) (.int 0)) (.seq (.asgT [1, 3] (.tup (.cons (.var 3) (.cons (.bin .mod (.var 1) (.var 3)) .nil)))) .skip)) .skip))) (.seq (.ret (.var 1)) .skip)))
noncomputable def y0t : MD := MD.mk "_law_plain" 1 ["a", "worth"] []
 (.seq (.asg 1 (.ite (.cmp .gt (.idx (.var 0) (.neg (.int 1))) (.int 0)) (.call 44 (.cons (.var 0) .nil)) (.neg (.call 44 (.cons (.var 0) .nil))))) (.seq (.ret (.comp (.bin .fdiv (.cvar 0) (.var 1)) 1 (.var 0) (.bool true))) .skip))
noncomputable def z3g : MD := MD.mk "_law_determinant" 1 ["rows", "worth", "at", "one", "less"] []
 (.seq (.ifs (.cmp .eq (.var 0) (.list .nil)) (.seq (.ret (.int 1)) .skip) .skip) (.seq (.asg 1 (.int 0)) (.seq (.fors [2, 3] true (.enum (.idx (.var 0) (.int 0))) (.seq (.asg 4 (.comp (.bin .add (.upTo (.cvar 0) (.var 2)) (.fromA (.cvar 0) (.bin .add (.var 2) (.int 1)))) 1 (.fromA (.var 0) (.int 1)) (.bool true))) (.seq (.asg 1 (.bin .add (.var 1) (.bin .mul (.bin .mul (.bin .sub (.int 1) (.bin .mul (.int 2) (.bin .mod (.var 2) (.int 2)))) (.var 3)) (.call 46 (.cons (.var 4) .nil))))) .skip))) (.seq (.ret (.var 1)) .skip))))
noncomputable def z4i : MD := MD.mk "_law_resultant" 2 ["a", "b", "wide", "rows", "one", "other", "at"] [3]
 (.seq (.asgT [2, 3] (.tup (.cons (.bin .sub (.bin .add (.len (.var 0)) (.len (.var 1))) (.int 2)) (.cons (.list .nil) .nil)))) (.seq (.fors [4, 5] true (.tup (.cons (.tup (.cons (.var 0) (.cons (.var 1) .nil))) (.cons (.tup (.cons (.var 1) (.cons (.var 0) .nil))) .nil))) (.seq (.fors [6] false (.range (.bin .sub (.len (.var 5)) (.int 1))) (.seq (.app 3 (.bin .add (.bin .add (.bin .mul (.list (.cons (.int 0) .nil)) (.var 6)) (.rev (.var 4))) (.bin .mul (.list (.cons (.int 0) .nil)) (.bin .sub (.bin .sub (.var 2) (.var 6)) (.len (.var 4)))))) .skip)) .skip)) (.seq (.ret (.call 46 (.cons (.var 3) .nil))) .skip)))
noncomputable def y4d : MD := MD.mk "_law_cut" 2 ["a", "p", "found"] [2]
 (.seq (.asg 2 (.comp (.bin .mod (.cvar 0) (.var 1)) 1 (.var 0) (.bool true))) (.seq (.whl (.and (.cmp .ne (.var 2) (.list .nil)) (.cmp .eq (.idx (.var 2) (.neg (.int 1))) (.int 0))) (.seq (.pop 2) .skip)) (.seq (.ret (.var 2)) .skip)))
noncomputable def z6q : MD := MD.mk "_law_common" 4 ["a", "b", "p", "lead", "back", "shift", "times"] []
 (.seq (.asgT [0, 1] (.tup (.cons (.call 48 (.cons (.var 0) (.cons (.var 2) .nil))) (.cons (.call 48 (.cons (.var 1) (.cons (.var 2) .nil))) .nil)))) (.seq (.whl (.cmp .ne (.var 1) (.list .nil)) (.seq (.asg 4 (.idx (.comp (.cvar 0) 1 (.range (.var 2)) (.cmp .eq (.bin .mod (.bin .mul (.cvar 0) (.idx (.var 1) (.neg (.int 1)))) (.var 2)) (.int 1))) (.int 0))) (.seq (.whl (.cmp .ge (.len (.var 0)) (.len (.var 1))) (.seq (.asgT [5, 6] (.tup (.cons (.bin .sub (.len (.var 0)) (.len (.var 1))) (.cons (.bin .mul (.idx (.var 0) (.neg (.int 1))) (.var 4)) .nil)))) (.seq (.asg 0 (.call 48 (.cons (.comp (.bin .sub (.cvar 1) (.ite (.cmp .ge (.cvar 0) (.var 5)) (.bin .mul (.var 6) (.idx (.var 1) (.bin .sub (.cvar 0) (.var 5)))) (.int 0))) 2 (.enum (.var 0)) (.bool true)) (.cons (.var 2) .nil)))) .skip))) (.seq (.asgT [0, 1] (.tup (.cons (.var 1) (.cons (.var 0) .nil)))) .skip)))) (.seq (.asg 4 (.idx (.comp (.cvar 0) 1 (.range (.var 2)) (.cmp .eq (.bin .mod (.bin .mul (.cvar 0) (.idx (.var 0) (.neg (.int 1)))) (.var 2)) (.int 1))) (.int 0))) (.seq (.ret (.comp (.bin .mod (.bin .mul (.bin .mul (.cvar 0) (.var 4)) (.var 3)) (.var 2)) 1 (.var 0) (.bool true))) .skip))))
noncomputable def z3r : MD := MD.mk "_law_bad_primes" 5 ["f", "g", "size", "worth", "last", "found", "p", "due"] [5]
 (.seq (.asg 5 (.list .nil)) (.seq (.fors [6] false .primes (.seq (.ifs (.and (.cmp .ne (.bin .mod (.idx (.var 0) (.neg (.int 1))) (.var 6)) (.int 0)) (.cmp .ne (.bin .mod (.idx (.var 1) (.neg (.int 1))) (.var 6)) (.int 0))) (.seq (.asg 7 (.call 49 (.cons (.var 0) (.cons (.var 1) (.cons (.var 6) (.cons (.ite (.cmp .gt (.var 6) (.int 2)) (.int 2) (.int 1)) .nil)))))) (.seq (.ifs (.or (.cmp .ne (.call 32 (.cons (.var 0) (.cons (.var 1) (.cons (.ite (.cmp .gt (.var 6) (.int 2)) (.int 2) (.int 1)) (.cons (.var 6) .nil))))) (.var 7)) (.cmp .lt (.len (.var 7)) (.var 2))) (.seq (.ret .none) .skip) .skip) (.seq (.ifs (.or (.cmp .ne (.cmp .gt (.len (.var 7)) (.var 2)) (.cmp .eq (.bin .mod (.var 3) (.var 6)) (.int 0))) (.and (.cmp .gt (.len (.var 7)) (.var 2)) (.cmp .ne (.bin .mod (.idx (.var 4) (.neg (.int 1))) (.var 6)) (.int 0)))) (.seq (.ret .none) .skip) .skip) (.seq (.ifs (.cmp .gt (.len (.var 7)) (.var 2)) (.seq (.app 5 (.var 6)) .skip) .skip) .skip)))) .skip) .skip)) (.seq (.ret (.var 5)) .skip)))
noncomputable def d_law : MD := MD.mk "law" 1 ["script", "box", "shared", "one", "other", "f", "g", "worth", "start", "bad", "number", "due"] []
 (.bad)
noncomputable def prog : List MD := [d_gcd, y4e, y1y, z8d, y0s, y8l, y4b, z8e, y4f, y0r, q1d, y6x, y4c, q1e, y6y, q4i, q1b, q1c, q4h, q4e, q4d, y6t, y6u, y1x, y1w, z9n, q4f, z7l, y6v, z8y, y6w, z7i, q1f, y6z, z7k, y0u, z4h, z7j, z5n, z4g, q4g, y8j, y8k, z8b, z8c, y0t, z3g, z4i, y4d, z6q, z3r, d_law]
end Mine
end
section
namespace Mine
open MS ME
noncomputable def lawA : MS := .asgT [5, 6, 7] (.tup (.cons (.call 43 (.cons (.var 2) (.cons (.var 3) .nil))) (.cons (.call 43 (.cons (.var 2) (.cons (.var 4) .nil))) (.cons (.call 47 (.cons (.var 3) (.cons (.var 4) .nil))) .nil))))
noncomputable def lawB : MS := .seq (.ifs (.cmp .eq (.var 7) (.int 0)) (.seq (.ret (.and (.cmp .eq (.call 37 (.cons (.var 5) (.cons (.var 6) (.cons (.var 8) .nil)))) (.call 40 (.cons (.var 5) (.cons (.var 6) .nil)))) (.cmp .gt (.len (.call 40 (.cons (.var 5) (.cons (.var 6) .nil)))) (.len (.var 2))))) .skip) .skip) (.seq (.asg 9 (.call 50 (.cons (.var 5) (.cons (.var 6) (.cons (.len (.var 2)) (.cons (.var 7) (.cons (.idx (.call 39 (.cons (.var 5) (.cons (.var 6) .nil))) (.neg (.int 1))) .nil))))))) (.seq (.ifs (.isN (.var 9)) (.seq (.ret (.bool false)) .skip) .skip) (.seq (.asg 10 (.call 44 (.cons (.list (.cons (.call 44 (.cons (.var 5) .nil)) (.cons (.call 44 (.cons (.var 6) .nil)) .nil))) .nil))) (.seq (.asg 11 (.comp (.bin .mul (.var 10) (.cvar 0)) 1 (.call 45 (.cons (.var 2) .nil)) (.bool true))) (.seq (.ifs (.cmp .ne (.call 40 (.cons (.var 5) (.cons (.var 6) .nil))) (.var 11)) (.seq (.ret (.bool false)) .skip) .skip) (.seq (.ret (.cmp .eq (.comp (.cvar 0) 1 (.bin .add (.upTo (.var 9) (.int 2)) (.list (.cons (.var 8) .nil))) (.cmp .ne (.call 37 (.cons (.var 5) (.cons (.var 6) (.cons (.cvar 0) .nil)))) (.var 11))) (.list .nil))) .skip))))))
end Mine
end
section
open PySem
namespace Mine
set_option genCtorIdx false
set_option genSizeOf false
open PyProof.Rows PySem.W
noncomputable def Ext (h h' : Heap) : Prop := ∀ b o, h.get? b = some o -> h'.get? b = some o
theorem Ext.refl (h : Heap) : Ext h h := fun _ _ e => e
theorem Ext.trans {h h₁ h₂ : Heap} (x : Ext h h₁) (y : Ext h₁ h₂) : Ext h h₂ := fun b o e => y b o (x b o e)
theorem Ext.push (h : Heap) (o : Obj) : Ext h (h.push o) := fun _ _ e => Heap.get?_push_of_some o e
theorem Ext.push' {h h' : Heap} (x : Ext h h') (o : Obj) : Ext h (h'.push o) := x.trans (Ext.push _ _)
theorem get?_none_of_size {h : Heap} {a : Addr} (ha : h.objs.size <= a) : h.get? a = none := by
 cases e : h.get? a with
 | none => rfl
 | some o => exact absurd (Heap.lt_size e) (Nat.not_lt.mpr ha)
theorem ltN {h : Heap} {a : Nat} {o : Obj} (e : h.get? a = some o) : a < h.objs.size := Heap.lt_size e
inductive z0k (h : Heap) (Y : Addr -> Prop) : List Value -> List D -> Prop
 | nil : z0k h Y [] []
 | int {i : Int} {t : Tok} {vs : List Value} {ds : List D} : z0k h Y vs ds -> z0k h Y (.int i t :: vs) (.int i :: ds)
 | bool {b : Bool} {vs : List Value} {ds : List D} : z0k h Y vs ds -> z0k h Y (.bool b :: vs) (.bool b :: ds)
 | none {vs : List Value} {ds : List D} : z0k h Y vs ds -> z0k h Y (.none :: vs) (.none :: ds)
 | list {a : Addr} {ws : List Value} {es : List D} {n : Nat} {vs : List Value} {ds : List D} : ¬ Y a -> h.get? a = some { cls := .type "list", data := .seq ws.toArray n } -> ws.length <= LEN ->
   z0k h Y ws es -> z0k h Y vs ds -> z0k h Y (.ref a :: vs) (.list es :: ds)
 | tup {a : Addr} {ws : List Value} {es : List D} {n : Nat} {vs : List Value} {ds : List D} : ¬ Y a -> h.get? a = some { cls := .type "tuple", data := .seq ws.toArray n } -> ws.length <= LEN ->
   z0k h Y ws es -> z0k h Y vs ds -> z0k h Y (.ref a :: vs) (.tup es :: ds)
noncomputable def Rep (h : Heap) (Y : Addr -> Prop) (v : Value) (d : D) : Prop := z0k h Y [v] [d]
section
variable {h h' : Heap} {Y Y' : Addr -> Prop}
theorem z0k.length {vs : List Value} {ds : List D} (r : z0k h Y vs ds) : vs.length = ds.length := by
 induction r <;> simp_all
theorem z0k.move {vs : List Value} {ds : List D} (r : z0k h Y vs ds) (hx : ∀ a o, ¬ Y a -> h.get? a = some o -> h'.get? a = some o)
  (hy : ∀ a o, h.get? a = some o -> Y' a -> Y a) : z0k h' Y' vs ds := by
 induction r with
 | nil => exact .nil
 | int _ ih => exact .int ih
 | bool _ ih => exact .bool ih
 | none _ ih => exact .none ih
 | list ha hg hl _ _ i1 i2 => exact .list (fun y => ha (hy _ _ hg y)) (hx _ _ ha hg) hl i1 i2
 | tup ha hg hl _ _ i1 i2 => exact .tup (fun y => ha (hy _ _ hg y)) (hx _ _ ha hg) hl i1 i2
theorem z0k.ext {vs : List Value} {ds : List D} (r : z0k h Y vs ds) (hx : Ext h h') : z0k h' Y vs ds := r.move (fun a o _ e => hx a o e) fun _ _ _ y => y
theorem z0k.weak {vs : List Value} {ds : List D} (r : z0k h Y vs ds) (hy : ∀ a, Y' a -> Y a) : z0k h Y' vs ds := r.move (fun _ _ _ e => e) fun a _ _ y => hy a y
theorem z0k.fresh {vs : List Value} {ds : List D} (r : z0k h Y vs ds) (hy : ∀ a, Y' a -> Y a \/ h.objs.size <= a) : z0k h Y' vs ds :=
 r.move (fun _ _ _ e => e) fun a o e y => (hy a y).resolve_right fun q => absurd (Heap.lt_size e) (Nat.not_lt.mpr q)
theorem z0k.fresh' {vs : List Value} {ds : List D} (r : z0k h Y vs ds) (hy : ∀ a, Y' a -> Y a \/ h.get? a = Option.none) : z0k h Y' vs ds :=
 r.move (fun _ _ _ e => e) fun a o e y => (hy a y).resolve_right fun q => by rw [e] at q; cases q
theorem z0k.cons {v : Value} {d : D} {vs : List Value} {ds : List D} (r : Rep h Y v d) (q : z0k h Y vs ds) : z0k h Y (v :: vs) (d :: ds) := by
 cases r with
 | int _ => exact .int q
 | bool _ => exact .bool q
 | none _ => exact .none q
 | list a b c d _ => exact .list a b c d q
 | tup a b c d _ => exact .tup a b c d q
theorem z0k.head {v : Value} {d : D} {vs : List Value} {ds : List D} (r : z0k h Y (v :: vs) (d :: ds)) : Rep h Y v d := by
 cases r with
 | int _ => exact .int .nil
 | bool _ => exact .bool .nil
 | none _ => exact .none .nil
 | list a b c d _ => exact .list a b c d .nil
 | tup a b c d _ => exact .tup a b c d .nil
theorem z0k.tail {v : Value} {d : D} {vs : List Value} {ds : List D} (r : z0k h Y (v :: vs) (d :: ds)) : z0k h Y vs ds := by
 cases r <;> assumption
theorem z0k.append {vs ws : List Value} {ds es : List D} (r : z0k h Y vs ds) (q : z0k h Y ws es) : z0k h Y (vs ++ ws) (ds ++ es) := by
 induction r with
 | nil => exact q
 | int _ ih => exact .int ih
 | bool _ ih => exact .bool ih
 | none _ ih => exact .none ih
 | list a b c d _ _ ih => exact .list a b c d ih
 | tup a b c d _ _ ih => exact .tup a b c d ih
theorem z0k.at {vs : List Value} {ds : List D} (r : z0k h Y vs ds) : ∀ {i : Nat} {d : D}, ds[i]? = some d -> ∃ v, vs[i]? = some v /\ Rep h Y v d := by
 induction vs generalizing ds with
 | nil => cases r; intro i d e; simp at e
 | cons v vs ih =>
  cases ds with
  | nil => cases r
  | cons d' ds =>
   intro i d e
   cases i with
   | zero => simp at e; subst e; exact ⟨v, rfl, r.head⟩
   | succ i => simp at e; simpa using ih r.tail e
theorem z0k.at' {vs : List Value} {ds : List D} (r : z0k h Y vs ds) {i : Nat} {v : Value} (e : vs[i]? = some v) : ∃ d, ds[i]? = some d /\ Rep h Y v d := by
 have hl := r.length
 have hi : i < vs.length := (List.getElem?_eq_some_iff.mp e).1
 have hd : ds[i]? = some (ds[i]'(hl ▸ hi)) := List.getElem?_eq_getElem (hl ▸ hi)
 obtain ⟨v', e', q⟩ := r.at hd
 rw [e] at e'; cases e'
 exact ⟨_, hd, q⟩
theorem z0k.of_at : ∀ {vs : List Value} {ds : List D}, vs.length = ds.length -> (∀ (i : Nat) (v : Value) (d : D), vs[i]? = some v -> ds[i]? = some d -> Rep h Y v d) -> z0k h Y vs ds
 | [], [], _, _ => .nil
 | [], _ :: _, e, _ => by simp at e
 | _ :: _, [], e, _ => by simp at e
 | v :: vs, d :: ds, e, q => .cons (q 0 v d rfl rfl) (z0k.of_at (by simpa using e) fun i v' d' a b => q (i + 1) v' d' (by simpa using a) (by simpa using b))
set_option tactic.hygienic true in
theorem z0k.take {vs : List Value} {ds : List D} (r : z0k h Y vs ds) (n : Nat) : z0k h Y (vs.take n) (ds.take n) := by
 refine z0k.of_at (by simp [r.length]) fun i v d a b => ?_
 rw [List.getElem?_take] at a b
 split at a
 ·rename_i hi
  rw [if_pos hi] at b
  obtain ⟨d', e, q⟩ := r.at' a
  rw [b] at e; cases e; exact q
 ·cases a
theorem z0k.drop {vs : List Value} {ds : List D} (r : z0k h Y vs ds) (n : Nat) : z0k h Y (vs.drop n) (ds.drop n) := by
 refine z0k.of_at (by simp [r.length]) fun i v d a b => ?_
 rw [List.getElem?_drop] at a b
 obtain ⟨d', e, q⟩ := r.at' a
 rw [b] at e; cases e; exact q
theorem z0k.reverse {vs : List Value} {ds : List D} (r : z0k h Y vs ds) : z0k h Y vs.reverse ds.reverse := by
 induction vs generalizing ds with
 | nil => cases r; exact .nil
 | cons v vs ih =>
  cases ds with
  | nil => cases r
  | cons d ds => rw [List.reverse_cons, List.reverse_cons]; exact (ih r.tail).append (.cons r.head .nil)
theorem z0k.replicate {v : Value} {d : D} (r : Rep h Y v d) : ∀ n : Nat, z0k h Y (List.replicate n v) (List.replicate n d)
 | 0 => .nil
 | n + 1 => .cons r (z0k.replicate r n)
theorem z0k.set {vs : List Value} {ds : List D} (r : z0k h Y vs ds) {v : Value} {d : D} (q : Rep h Y v d) (k : Nat) : z0k h Y (vs.set k v) (ds.set k d) := by
 refine z0k.of_at (by simp [r.length]) fun i v' d' a b => ?_
 rw [List.getElem?_set] at a b
 by_cases hk : k = i
 ·subst hk
  simp only [if_true] at a b
  split at a
  ·split at b
   ·cases a; cases b; exact q
   ·cases b
  ·cases a
 ·simp only [hk, if_false] at a b
  obtain ⟨d'', e, z⟩ := r.at' a
  rw [b] at e; cases e; exact z
theorem z0k.dropLast {vs : List Value} {ds : List D} (r : z0k h Y vs ds) : z0k h Y vs.dropLast ds.dropLast := by
 rw [List.dropLast_eq_take, List.dropLast_eq_take, <- r.length]; exact r.take _
theorem z0k.snoc {vs : List Value} {ds : List D} {v : Value} {d : D} (r : z0k h Y vs ds) (q : Rep h Y v d) : z0k h Y (vs ++ [v]) (ds ++ [d]) := r.append q
theorem Rep.ext {v : Value} {d : D} (r : Rep h Y v d) (hx : Ext h h') : Rep h' Y v d := z0k.ext r hx
theorem Rep.weak {v : Value} {d : D} (r : Rep h Y v d) (hy : ∀ a, Y' a -> Y a) : Rep h Y' v d := z0k.weak r hy
inductive LV (h : Heap) (Y N : Addr -> Prop) (t : String) (v : Value) (es : List D) : Prop
 | mk (a : Addr) (ws : List Value) (n : Nat) (e : v = .ref a) (y : N a) (g : h.get? a = some { cls := .type t, data := .seq ws.toArray n }) (l : ws.length <= LEN) (r : z0k h Y ws es)
inductive LT (h : Heap) (Y : Addr -> Prop) (t : String) (v : Value) (es : List D) : Prop
 | mk (a : Addr) (ws : List Value) (n : Nat) (e : v = .ref a) (g : h.get? a = some { cls := .type t, data := .seq ws.toArray n }) (l : ws.length <= LEN) (r : z0k h Y ws es)
theorem Rep.int_inv {v : Value} {i : Int} (r : Rep h Y v (.int i)) : ∃ t, v = .int i t := by cases r; exact ⟨_, rfl⟩
theorem Rep.bool_inv {v : Value} {b : Bool} (r : Rep h Y v (.bool b)) : v = .bool b := by cases r; rfl
theorem Rep.none_inv {v : Value} (r : Rep h Y v .none) : v = .none := by cases r; rfl
theorem Rep.list_inv {v : Value} {es : List D} (r : Rep h Y v (.list es)) : LV h Y (fun a => ¬ Y a) "list" v es := by
 cases r with
 | list a b c d _ => exact ⟨_, _, _, rfl, a, b, c, d⟩
theorem Rep.tup_inv {v : Value} {es : List D} (r : Rep h Y v (.tup es)) : LV h Y (fun a => ¬ Y a) "tuple" v es := by
 cases r with
 | tup a b c d _ => exact ⟨_, _, _, rfl, a, b, c, d⟩
theorem Rep.int (i : Int) (t : Tok) : Rep h Y (.int i t) (.int i) := z0k.int z0k.nil
theorem Rep.bool (b : Bool) : Rep h Y (.bool b) (.bool b) := z0k.bool z0k.nil
theorem Rep.none : Rep h Y .none .none := z0k.none z0k.nil
inductive z5w (h : Heap) (Y : Addr -> Prop) : Value -> D -> Prop
 | rep {v : Value} {d : D} : Rep h Y v d -> z5w h Y v d
 | list {a : Addr} {ws : List Value} {es : List D} {n : Nat} : h.get? a = some { cls := .type "list", data := .seq ws.toArray n } -> ws.length <= LEN -> z0k h Y ws es -> z5w h Y (.ref a) (.list es)
 | tup {a : Addr} {ws : List Value} {es : List D} {n : Nat} : h.get? a = some { cls := .type "tuple", data := .seq ws.toArray n } -> ws.length <= LEN -> z0k h Y ws es -> z5w h Y (.ref a) (.tup es)
theorem z5w.int_inv {v : Value} {i : Int} (r : z5w h Y v (.int i)) : ∃ t, v = .int i t := by cases r with | rep r => exact r.int_inv
theorem z5w.bool_inv {v : Value} {b : Bool} (r : z5w h Y v (.bool b)) : v = .bool b := by cases r with | rep r => exact r.bool_inv
theorem z5w.none_inv {v : Value} (r : z5w h Y v .none) : v = .none := by cases r with | rep r => exact r.none_inv
theorem z5w.list_inv {v : Value} {es : List D} (r : z5w h Y v (.list es)) : LT h Y "list" v es := by
 cases r with
 | rep r => obtain ⟨a, ws, n, e, _, q, l, r⟩ := r.list_inv; exact ⟨a, ws, n, e, q, l, r⟩
 | list b c d => exact ⟨_, _, _, rfl, b, c, d⟩
theorem z5w.tup_inv {v : Value} {es : List D} (r : z5w h Y v (.tup es)) : LT h Y "tuple" v es := by
 cases r with
 | rep r => obtain ⟨a, ws, n, e, _, q, l, r⟩ := r.tup_inv; exact ⟨a, ws, n, e, q, l, r⟩
 | tup b c d => exact ⟨_, _, _, rfl, b, c, d⟩
theorem z5w.ext {v : Value} {d : D} (r : z5w h Y v d) (hx : Ext h h') : z5w h' Y v d := by
 cases r with
 | rep r => exact .rep (r.ext hx)
 | list b c d => exact .list (hx _ _ b) c (d.ext hx)
 | tup b c d => exact .tup (hx _ _ b) c (d.ext hx)
theorem z5w.not_none {v : Value} {d : D} (r : z5w h Y v d) (hd : d ≠ .none) : v ≠ .none := by
 cases r with
 | rep r => cases r <;> first | (intro e; cases e; done) | exact absurd rfl hd
 | list => intro e; cases e
 | tup => intro e; cases e
end
noncomputable def EV {α : Type} (M : Model) (A : Around) (t : Sem α) (s : Shared) (P : α -> Heap -> Prop) : Prop :=
 ∀ (E : Value -> Shared -> Prop) (Q : α -> Shared -> Prop), (∀ a h tk, Ext s.heap h -> P a h -> Q a { s with heap := h, toks := tk }) -> wpAny M A t Q E s
theorem EV.mono {α : Type} {M : Model} {A : Around} {t : Sem α} {s : Shared} {P P' : α -> Heap -> Prop} (e : EV M A t s P) (hp : ∀ a h, Ext s.heap h -> P a h -> P' a h) : EV M A t s P' :=
 fun E Q k => e E Q fun a h tk x p => k a h tk x (hp a h x p)
end Mine
end
section
open PySem
namespace Mine
open PyProof.Rows PySem.W
theorem z5d : LEN <= sizeLine := by decide +kernel
theorem z2v : LEN = 1048576 := by decide +kernel
theorem z1r {h : Heap} {a : Addr} {ws : List Value} {n : Nat} (e : h.get? a = some { cls := .type "list", data := .seq ws.toArray n }) : h.IsList a ws.toArray := ⟨_, e, rfl, n, rfl⟩
theorem y6l {h : Heap} {a : Addr} {ws : List Value} {n : Nat} (e : h.get? a = some { cls := .type "tuple", data := .seq ws.toArray n }) : IsTup h a ws.toArray := ⟨_, e, rfl, n, rfl⟩
set_option tactic.hygienic true in
theorem y1o {i : Int} (h : small i = true) : Builtin.Int.intBits i <= 2 ^ 20 := by
 unfold small at h
 have h' := of_decide_eq_true h
 unfold Builtin.Int.intBits
 split
 ·exact Nat.zero_le _
 ·rename_i h0
  have : i.natAbs.log2 < 2000 := (Nat.log2_lt (by simpa using h0)).mpr h'
  have e : (2 : Nat) ^ 20 = 1048576 := by decide
  exact Nat.le_trans this (by decide)
theorem y9e {i : Int} (h : small i = true) : i.natAbs.log2 < 9000 := by
 unfold small at h
 have h' := of_decide_eq_true h
 by_cases h0 : i.natAbs = 0
 ·rw [h0]; decide +kernel
 ·have : i.natAbs.log2 < 2000 := (Nat.log2_lt h0).mpr h'
  exact Nat.le_trans this (by decide)
section
variable {prog : Program} {w : World} {A : Around} {s : Shared} {Y : Addr -> Prop}
theorem ev_pure {α : Type} {M : Model} {a : α} {P : α -> Heap -> Prop} (h : P a s.heap) : EV M A (pure a) s P :=
 fun E Q k => wpAny_pure (k a s.heap s.toks (Ext.refl _) h)
set_option tactic.hygienic true in
theorem y5k {op : Operator} {o : Op} {a b c : Int} {t u : Tok} (ho : y3j op = some o) (hc : z9b o a b = some c) :
  EV (model prog w) A (binaryOp op (.int a t) (.int b u)) s fun v _ => ∃ t, v = .int c t := fun E Q k => by
 have fin : ∀ d, c = d -> Q (.int d s.toks) { s with toks := s.toks + 1 } := fun d e => k _ s.heap _ (Ext.refl _) ⟨_, by rw [e]⟩
 cases op <;> simp [y3j] at ho <;> subst ho <;> simp only [z9b] at hc
 ·exact add_int (fin _ (Option.some.inj hc).symm)
 ·exact sub_int (fin _ (Option.some.inj hc).symm)
 ·split at hc
  ·rename_i h
   rw [Bool.and_eq_true] at h
   exact mul_int (fin _ (Option.some.inj hc).symm) (IntMulOk.of_bits (y1o h.1) (y1o h.2))
  ·cases hc
 ·split at hc
  ·rename_i h
   exact mod_int' (by simpa using h) (fin _ (Option.some.inj hc).symm)
  ·cases hc
 ·split at hc
  ·rename_i h
   simp only [Bool.and_eq_true, decide_eq_true_eq] at h
   exact pow_int_small h.1.2 (by exact o571 h.2) h.1.1 (fin _ (Option.some.inj hc).symm)
  ·cases hc
 ·split at hc
  ·rename_i h
   rw [Bool.and_eq_true] at h
   exact floordiv_int (by simpa using h.1) (fin _ (Option.some.inj hc).symm) (.inl (PyProof.noPylong_of_log2 (y9e h.2)))
  ·cases hc
theorem y1v {vs : List Value} {ds : List D} (r : z0k s.heap Y vs ds) (hY : ∀ a, Y a -> a < s.heap.objs.size) (hl : vs.length <= LEN) :
  EV (model prog w) A (newList vs) s fun v h => Rep h Y v (.list ds) /\ v = .ref s.heap.objs.size := fun E Q k =>
 wpAny_newObj_type (k _ _ s.toks (Ext.push _ _) ⟨.list (n := 0) (fun y => Nat.lt_irrefl _ (hY _ y)) (Heap.get?_push_size _ rfl) hl (r.ext (Ext.push _ _)) .nil, rfl⟩)
  (by show vs.toArray.size <= sizeLine; rw [List.size_toArray]; exact Nat.le_trans hl z5d)
theorem y5j {vs : List Value} {ds : List D} (r : z0k s.heap Y vs ds) (hY : ∀ a, Y a -> a < s.heap.objs.size) (hl : vs.length <= LEN) :
  EV (model prog w) A (newTuple vs) s fun v h => Rep h Y v (.tup ds) := fun E Q k =>
 wpAny_newObj_type (k _ _ s.toks (Ext.push _ _) (.tup (n := 0) (fun y => Nat.lt_irrefl _ (hY _ y)) (Heap.get?_push_size _ rfl) hl (r.ext (Ext.push _ _)) .nil))
  (by show vs.toArray.size <= sizeLine; rw [List.size_toArray]; exact Nat.le_trans hl z5d)
noncomputable def z4m (s : Shared) (v : Value) : Prop := ∃ a, v = .ref a /\ s.heap.get? a = none
theorem z4m.back {s : Shared} {v : Value} {h : Heap} {tk : Nat} (f : z4m { s with heap := h, toks := tk } v) (hx : Ext s.heap h) : z4m s v := by
 obtain ⟨a, e, q⟩ := f
 refine ⟨a, e, ?_⟩
 cases z : s.heap.get? a with
 | none => rfl
 | some o => have q' : h.get? a = none := q; rw [hx a o z] at q'; cases q'
theorem q0w {v u : Value} {a b : List D} (ra : Rep s.heap Y v (.list a)) (rb : Rep s.heap Y u (.list b)) (hY : ∀ a, Y a -> a < s.heap.objs.size) (hl : a.length + b.length <= LEN) :
  EV (model prog w) A (binaryOp .Add v u) s fun v h => Rep h Y v (.list (a ++ b)) /\ z4m s v := fun E Q k => by
 obtain ⟨l, ws, n, rfl, _, hg, _, r1⟩ := ra.list_inv
 obtain ⟨m, xs, n2, rfl, _, hg2, _, r2⟩ := rb.list_inv
 have hsz : ws.length + xs.length <= LEN := by rw [r1.length, r2.length]; exact hl
 refine concat_meets ⟨_, hg, rfl⟩ ⟨_, hg2, rfl⟩ noFill_list_add seq_list_add PySem.F.slot_list_add PySem.F.entry_list_add (PySem.F.args_list_add_2 _ _)
  (list_addW l m ws.toArray xs.toArray n n2 none none #[] #[] (by have := z5d; simp; exact o572 hsz this)) ⟨hg, hg2, ?_⟩
 refine k _ _ s.toks (Ext.push _ _) ⟨.list (ws := ws ++ xs) (n := 0) (fun y => Nat.lt_irrefl _ (hY _ y)) ?_ (by simpa using hsz) ((r1.append r2).ext (Ext.push _ _)) .nil, _, rfl, get?_none_of_size (Nat.le_refl _)⟩
 have e : ws.toArray ++ xs.toArray = (ws ++ xs).toArray := by simp
 rw [e]; exact Heap.get?_push_size _ rfl
theorem q6t {v : Value} {d : D} {x : Int} {t : Tok} (ra : Rep s.heap Y v (.list [d])) (hY : ∀ a, Y a -> a < s.heap.objs.size) (h0 : -1000000 <= x) (h1 : x <= 1000000) :
  EV (model prog w) A (binaryOp .Mult v (.int x t)) s fun v h => Rep h Y v (.list (List.replicate x.toNat d)) /\ z4m s v := fun E Q k => by
 obtain ⟨l, ws, n, rfl, _, hg, _, r1⟩ := ra.list_inv
 have hw : ws.length = 1 := by rw [r1.length]; rfl
 obtain ⟨y, rfl⟩ : ∃ y, ws = [y] := by
  cases ws with
  | nil => simp at hw
  | cons y r => cases r with | nil => exact ⟨y, rfl⟩ | cons => simp at hw
 have hz : x.toNat <= 1000000 := by exact o573 h1
 refine wpAny_binaryOp_repeat_ref (T := "list") (U := "int") (by decide) ⟨_, hg, rfl⟩ (fun s' => typeIs_int s' x t) noFill_list_mul PySem.F.fills_int_mul PySem.F.slot_int_rmul repeat_list PySem.F.slot_int_index.lookup
  (call_meets PySem.F.slot_int_rmul (typeIs_int s x t) PySem.F.entry_int_rmul (PySem.F.args_int_rmul_2 _ _) (int___rmul___int_list x t l [y].toArray n)
   ⟨hg, rfl, ⟨_, hg, rfl⟩, call_meets PySem.F.slot_list_mul ⟨_, hg, rfl⟩ PySem.F.entry_list_mul (PySem.F.args_list_mul_2 _ _)
    (AutoListH.list___mul___list_int_3 l [y].toArray n x t (by simp [Builtin.List.listFitsIndex]; exact o574 h0 h1) (by simp; exact o575 h1) (by simp [Builtin.List.listTooLong, sizeLine]; exact o576 h1)) ⟨hg, ?_⟩⟩)
 have e : ∀ (m : Nat) (acc : Array Value), List.foldl (fun x1 x2 => x1 ++ x2) acc (List.replicate m [y].toArray) = acc ++ (List.replicate m y).toArray := by
  intro m
  induction m with
  | zero => intro acc; simp
  | succ m ih => intro acc; rw [List.replicate_succ, List.foldl_cons, ih, List.replicate_succ]; apply Array.toList_inj.mp; simp
 have e' : List.foldl (fun x1 x2 => x1 ++ x2) #[] (List.replicate (if [y].toArray.isEmpty = true then 0 else x.toNat) [y].toArray) = (List.replicate x.toNat y).toArray := by
  rw [e]; simp
 rw [e']
 exact k _ _ s.toks (Ext.push _ _) ⟨.list (n := 0) (fun y => Nat.lt_irrefl _ (hY _ y)) (Heap.get?_push_size _ rfl) (by rw [List.length_replicate, z2v]; exact o556 h1) ((z0k.replicate r1.head _).ext (Ext.push _ _)) .nil, _, rfl, get?_none_of_size (Nat.le_refl _)⟩
theorem y6s {i : Int} {t : Tok} : EV (model prog w) A (unaryOp .USub (.int i t)) s fun v _ => ∃ t, v = .int (-i) t :=
 fun E Q k => neg_int (k _ s.heap _ (Ext.refl _) ⟨_, rfl⟩)
set_option tactic.hygienic true in
theorem ev_abs {i : Int} {t : Tok} : EV (model prog w) A (call (.builtin "abs") [.int i t]) s fun v _ => ∃ t, v = .int i.natAbs t :=
 fun E Q k => call_abs_int fun u tk => k _ s.heap tk (Ext.refl _) ⟨u, by
  have e : (if i < 0 then -i else i) = (i.natAbs : Int) := by split <;> rename_i q <;> (first | exact o608 q | exact o609 q)
  rw [e]⟩
theorem ev_max {a b : Int} {t u : Tok} (hh : A.handled = none) : EV (model prog w) A (call (.builtin "max") [.int a t, .int b u]) s fun v _ => ∃ t, v = .int (if b > a then b else a) t :=
 fun E Q k => max_two_ints hh fun h' tk hk => k _ h' tk hk (by split <;> exact ⟨_, rfl⟩)
theorem ev_len {v : Value} {l : List D} (r : z5w s.heap Y v (.list l)) : EV (model prog w) A (call (.builtin "len") [v]) s fun v _ => ∃ t, v = .int l.length t := fun E Q k => by
 obtain ⟨a, ws, n, rfl, hg, hl, r1⟩ := r.list_inv
 have e : ws.toArray.size = l.length := by rw [List.size_toArray, r1.length]
 refine Calls.call_len_list (z1r hg) (by rw [e, <- r1.length]; have := z2v; exact o577 this hl) ?_
 rw [e]; exact k _ s.heap _ (Ext.refl _) ⟨_, rfl⟩
theorem q0u {v : Value} {l : List D} (r : z5w s.heap Y v (.list l)) (hY : ∀ a, Y a -> a < s.heap.objs.size) : EV (model prog w) A (call (.type "list") [v]) s fun v h => Rep h Y v (.list l) /\ z4m s v := fun E Q k => by
 obtain ⟨a, ws, n, rfl, hg, hl, r1⟩ := r.list_inv
 refine call_list_seq (hsz := by rw [List.size_toArray]; exact Nat.le_trans hl z5d) a (.inl rfl) hg rfl rfl fun h' c' hk hD => ?_
 exact k _ h' s.toks hk ⟨.list (fun y => Nat.lt_irrefl _ (hY _ y)) hD hl (r1.ext hk) .nil, _, rfl, get?_none_of_size (Nat.le_refl _)⟩
theorem y9k {h : Heap} {v : Value} {x : D} {l : List D} (r : z5w h Y v x) (hs : z7d x = some l) :
  ∃ a ws n T, v = .ref a /\ h.get? a = some { cls := .type T, data := .seq ws.toArray n } /\ ws.length <= LEN /\ z0k h Y ws l /\ (T = "list" /\ x = .list l \/ T = "tuple" /\ x = .tup l) := by
 cases x <;> simp [z7d] at hs
 ·subst hs
  obtain ⟨a, ws, n, e, b, c, d⟩ := r.list_inv
  exact ⟨a, ws, n, "list", e, b, c, d, .inl ⟨rfl, rfl⟩⟩
 ·subst hs
  obtain ⟨a, ws, n, e, b, c, d⟩ := r.tup_inv
  exact ⟨a, ws, n, "tuple", e, b, c, d, .inr ⟨rfl, rfl⟩⟩
set_option tactic.hygienic true in
theorem z8x {v : Value} {x y : D} {l : List D} {k : Int} {t : Tok} (r : z5w s.heap Y v x) (hs : z7d x = some l) (hi : z9x l k = some y) :
  EV (model prog w) A (getItem v (.int k t)) s fun v h => Rep h Y v y := fun E Q kk => by
 obtain ⟨a, ws, n, T, rfl, hg, hl, r1, hT⟩ := y9k r hs
 have hlen := r1.length
 have hL := z2v
 unfold z9x at hi
 have fin : ∀ z, Rep s.heap Y z y -> Q z s := fun z hz => kk z s.heap s.toks (Ext.refl _) hz
 split at hi
 ·rename_i h0
  obtain ⟨z, e, q⟩ := r1.at hi
  have hlt : k.toNat < ws.length := (List.getElem?_eq_some_iff.mp e).1
  rcases hT with ⟨rfl, rfl⟩ | ⟨rfl, rfl⟩
  ·exact wpAny_getItem_list (z1r hg) h0 (by exact o578 hlt hL hl) (by simpa using e) (fin z q)
  ·refine getItem_tuple (j := k.toNat) (y6l hg) (by exact o579 h0) (by exact o578 hlt hL hl) ?_ (by simpa using e) (fin z q)
   unfold seqIndex?
   have : ¬ k < 0 := by exact o580 h0
   simp only [this, if_false, List.size_toArray]
   rw [if_pos (by simp; exact o581 h0 hlt)]
 ·rename_i h0
  split at hi
  ·rename_i h1
   obtain ⟨z, e, q⟩ := r1.at hi
   rcases hT with ⟨rfl, rfl⟩ | ⟨rfl, rfl⟩
   ·exact wpAny_getItem_list_neg (z1r hg) (by exact o582 h0) (by rw [List.size_toArray, hlen]; exact o583 h1) (by exact o584 h1 hL hlen hl) (by rw [List.size_toArray, hlen]; simpa using e) (fin z q)
   ·refine getItem_tuple (j := (k + l.length).toNat) (y6l hg) (by exact o584 h1 hL hlen hl) (by exact o585 h0) ?_ (by simpa using e) (fin z q)
    rw [List.size_toArray, hlen]
    exact seqIndex_neg (by exact o582 h0) (by exact o583 h1)
  ·cases hi
theorem q2x {v : Value} {l : List D} {sl : Addr} {vl vu vk : Value} {lo hi st : Option Int} {es : List D} (r : z5w s.heap Y v (.list l)) (hY : ∀ a, Y a -> a < s.heap.objs.size)
  (hs : s.heap.IsSliceOf sl vl vu vk) (pl : IsPart vl lo) (pu : IsPart vu hi) (pk : IsPart vk st) (h0 : st ≠ some 0)
  (hp : ∀ ws : List Value, z0k s.heap Y ws l -> ∃ us, slicePick ws.toArray lo hi st = us.toArray /\ z0k s.heap Y us es) :
  EV (model prog w) A (getItem v (.ref sl)) s fun v h => Rep h Y v (.list es) /\ z4m s v := fun E Q k => by
 obtain ⟨a, ws, n, rfl, hg, hl, r1⟩ := r.list_inv
 obtain ⟨us, e, q⟩ := hp ws r1
 refine wpAny_getItem_list_slice (z1r hg) hs pl pu pk h0 ?_ (by rw [List.size_toArray]; exact Nat.le_trans hl z5d)
 have hz := slicePick_size_le ws.toArray lo hi st
 rw [e] at hz ⊢
 simp only [List.size_toArray] at hz
 exact k _ _ s.toks (Ext.push _ _) ⟨.list (n := 0) (fun y => Nat.lt_irrefl _ (hY _ y)) (Heap.get?_push_size _ rfl) (by exact o586 hz hl) (q.ext (Ext.push _ _)) .nil, _, rfl, get?_none_of_size (Nat.le_refl _)⟩
set_option tactic.hygienic true in
theorem z3x {h : Heap} : ∀ {l : List D} {ns : List Int} {ws : List Value}, z0k h Y ws l -> z1i l = some ns -> IntsAre ws ns
 | [], ns, ws, r, e => by
  simp [z1i] at e; subst e
  cases r; exact .nil
 | .int i :: l, ns, ws, r, e => by
  simp only [z1i] at e
  split at e
  ·rename_i m hm
   cases e
   cases r with
   | int r => exact .cons _ _ (z3x r hm)
  ·cases e
 | .bool _ :: _, _, _, _, e => by simp [z1i] at e
 | .none :: _, _, _, _, e => by simp [z1i] at e
 | .list _ :: _, _, _, _, e => by simp [z1i] at e
 | .tup _ :: _, _, _, _, e => by simp [z1i] at e
end
end Mine
end
section
open PySem
namespace Mine
open PyProof.Rows PySem.W PySem.Spec
noncomputable def z4x (l : List Int) : PyData := .list (l.map .int)
theorem y3e (l : List Int) : PyData.canLay0 (z4x l) = true := by
 unfold z4x; simp only [PyData.canLay0]; exact ke_canLayAll0 l
theorem y4a (l : List Int) : PyData.depth (z4x l) = 1 := by
 unfold z4x; simp only [PyData.depth, ke_depthAll]
theorem z3h (ls : List (List Int)) : SeqAt.shaped (.list (ls.map z4x)) = true := by
 have h1 : PyData.canLayAll0 (ls.map z4x) = true := by
  induction ls with
  | nil => simp [PyData.canLayAll0]
  | cons l r ih => simp [PyData.canLayAll0, y3e, ih]
 have h2 : PyData.depthAll (ls.map z4x) <= 1 := by
  clear h1
  induction ls with
  | nil => simp [PyData.depthAll]
  | cons l r ih => rw [List.map_cons, PyData.depthAll, y4a]; exact Nat.max_le.mpr ⟨Nat.le_refl _, ih⟩
 show (PyData.canLay0 (.list (ls.map z4x)) && decide (PyData.depth (.list (ls.map z4x)) <= 64)) = true
 rw [Bool.and_eq_true]
 refine ⟨by simp only [PyData.canLay0]; exact h1, decide_eq_true ?_⟩
 simp only [PyData.depth]; exact Nat.lt_of_le_of_lt h2 (by decide)
theorem y0h {h : Heap} {Y : Addr -> Prop} : ∀ {l : List D} {ws : List Value}, z0k h Y ws l -> l.all z6m = true -> ∃ (ls : List (List Int)) (as : List Addr), ReadsAll h ws (ls.map z4x) as /\ ls.length = l.length
 | [], ws, r, _ => by cases r; exact ⟨[], [], .nil, rfl⟩
 | d :: l, ws, r, e => by
  rw [List.all_cons, Bool.and_eq_true] at e
  obtain ⟨e1, e2⟩ := e
  cases d <;> simp only [z6m, Bool.false_eq_true] at e1
  obtain ⟨ns, hns⟩ := Option.isSome_iff_exists.mp e1
  cases r with
  | list ha hg hl r1 r2 =>
   obtain ⟨ls, as, q, hlen⟩ := y0h r2 e2
   have q1 := reads_newData (z1r hg) (ke_carried (z3x r1 hns))
   exact ⟨ns :: ls, _, .cons q1 q, by simp [hlen]⟩
theorem y8g {l : List D} (e : z1i l = none) : l ≠ [] := by rintro rfl; cases e
theorem y5g : ∀ {l : List D}, z1i l = some [] -> l = []
 | [], _ => rfl
 | .int _ :: l, e => by simp only [z1i] at e; split at e <;> cases e
 | .bool _ :: _, e => by simp [z1i] at e
 | .none :: _, e => by simp [z1i] at e
 | .list _ :: _, e => by simp [z1i] at e
 | .tup _ :: _, e => by simp [z1i] at e
section
variable {prog : Program} {w : World} {A : Around} {s : Shared} {Y : Addr -> Prop}
theorem y3d {c : Cm} {x y : D} {b : Bool} (h : y5o c x y = some b) (h1 : c ≠ .eq) (h2 : c ≠ .ne) : ∃ i j, x = .int i /\ y = .int j := by
 cases x with
 | int i => cases y with
  | int j => exact ⟨i, j, rfl, rfl⟩
  | _ => cases c <;> first | exact z0a h | exact absurd rfl h1 | exact absurd rfl h2
 | _ => cases c <;> first | exact z0a h | exact absurd rfl h1 | exact absurd rfl h2
theorem q6w {x y : D} {b : Bool} (h : eqD x y = some b) : (∃ i j, x = .int i /\ y = .int j /\ (i == j) = b) \/ (∃ p q, x = .bool p /\ y = .bool q /\ (p == q) = b) \/ (∃ k l, x = .list k /\ y = .list l /\ eqL k l = some b) := by
 cases x with
 | int i => cases y with
  | int j => exact .inl ⟨i, j, rfl, rfl, Option.some.inj h⟩
  | _ => exact z0a h
 | bool i => cases y with
  | bool j => exact .inr (.inl ⟨i, j, rfl, rfl, Option.some.inj h⟩)
  | _ => exact z0a h
 | list i => cases y with
  | list j => exact .inr (.inr ⟨i, j, rfl, rfl, h⟩)
  | _ => exact z0a h
 | _ => exact z0a h
theorem q6v {a b : List D} {t : Bool} (h : eqL a b = some t) : (∃ x y, z1i a = some x /\ z1i b = some y /\ (x == y) = t) \/ (z1i a = none /\ z1i b = some [] /\ a.all z6m = true /\ false = t) := by
 have h' : (match z1i a, z1i b with | some x, some y => some (x == y) | none, some [] => (if a.all z6m then some false else none) | _, _ => none) = some t := h
 generalize z1i a = p at h' ⊢
 generalize z1i b = q at h' ⊢
 cases p with
 | some x => cases q with
  | some y => exact .inl ⟨x, y, rfl, rfl, Option.some.inj h'⟩
  | none => exact z0a h'
 | none => cases q with
  | none => exact z0a h'
  | some y => cases y with
   | cons => exact z0a h'
   | nil =>
    by_cases c : a.all z6m = true
    ·exact .inr ⟨rfl, rfl, c, Option.some.inj ((if_pos c).symm.trans h')⟩
    ·exact z0a ((if_neg c).symm.trans h')
theorem q4c {v u : Value} {x y : D} {b : Bool} (r : z5w s.heap Y v x) (q : z5w s.heap Y u y) (e0 : eqD x y = some b) (hu : A.units + 64 < cLine) :
  EV (model prog w) A (compareOp .Eq v u) s (fun v _ => v = .bool b) /\ EV (model prog w) A (compareOp .NotEq v u) s (fun v _ => v = .bool !b) := by
 have fin : ∀ {b' : Bool} {Q : Value -> Shared -> Prop} (d : Bool), (∀ a h tk, Ext s.heap h -> a = .bool b' -> Q a { s with heap := h, toks := tk }) -> d = b' -> Q (.bool d) s := fun d k e => k _ s.heap s.toks (Ext.refl _) (by rw [e])
 rcases q6w e0 with ⟨i, j, rfl, rfl, e⟩ | ⟨i, j, rfl, rfl, e⟩ | ⟨la, lb, rfl, rfl, e3⟩ <;> clear e0
 ·obtain ⟨t, rfl⟩ := r.int_inv
  obtain ⟨t', rfl⟩ := q.int_inv
  exact ⟨fun E Q k => eq_int (fin _ k e), fun E Q k => ne_int (fin _ k (congrArg (!·) e))⟩
 ·obtain rfl := r.bool_inv
  obtain rfl := q.bool_inv
  exact ⟨fun E Q k => eq_bool (fin _ k e), fun E Q k => ne_bool (fin _ k (congrArg (!·) e))⟩
 ·obtain ⟨a, ws, n, rfl, hg, hl, r1⟩ := r.list_inv
  obtain ⟨a', ws', n', rfl, hg', hl', r1'⟩ := q.list_inv
  rcases q6v e3 with ⟨ns, ms, e1, e2, e⟩ | ⟨e1, e2, hall, e⟩
  ·have e' : decide (ns = ms) = b := (Bool.eq_iff_iff.mpr (by simp)).trans e
   exact ⟨fun E Q k => ke_eq_ints (z1r hg) (z1r hg') (z3x r1 e1) (z3x r1' e2) hu (fin _ k e'), fun E Q k => ke_ne_ints (z1r hg) (z1r hg') (z3x r1 e1) (z3x r1' e2) hu (fin _ k (congrArg (!·) e'))⟩
  ·obtain ⟨ls, as, q1, hlen⟩ := y0h r1 hall
   have hlb := y5g e2
   subst hlb
   cases r1'
   have hls : ls ≠ [] := by
    rintro rfl
    exact y8g e1 (List.eq_nil_of_length_eq_zero hlen.symm)
   obtain ⟨l0, lr, rfl⟩ := List.exists_cons_of_ne_nil hls
   have e' : PySem.Spec.same (.list ((l0 :: lr).map z4x)) (.list []) = b := by rw [<- e]; simp [PySem.Spec.same, PySem.Spec.sameAll]
   exact ⟨fun E Q k => eq_dataH_same (da := .list ((l0 :: lr).map z4x)) (db := .list []) (.list hg rfl rfl q1) (.list hg' rfl rfl .nil) (z3h _) (z3h []) hu (by simp [SeqAt.noMix, SeqAt.noMixAll]) (fin _ k e'),
    fun E Q k => ne_dataH_same (da := .list ((l0 :: lr).map z4x)) (db := .list []) (.list hg rfl rfl q1) (.list hg' rfl rfl .nil) (z3h _) (z3h []) hu (by simp [SeqAt.noMix, SeqAt.noMixAll]) (fin _ k (congrArg (!·) e'))⟩
theorem ev_cmp {op : CmpOp} {c : Cm} {v u : Value} {x y : D} {b : Bool} (ho : trCm op = some c) (r : z5w s.heap Y v x) (q : z5w s.heap Y u y) (hc : y5o c x y = some b) (hu : A.units + 64 < cLine) :
  EV (model prog w) A (compareOp op v u) s fun v _ => v = .bool b := fun E Q k => by
 have fin : ∀ d, d = b -> Q (.bool d) s := fun d e => k _ s.heap s.toks (Ext.refl _) (by rw [e])
 cases op <;> first | exact z0a ho | obtain rfl := Option.some.inj ho
 ·exact (q4c r q hc hu).1 E Q k
 ·obtain ⟨b', e, rfl⟩ := Option.map_eq_some_iff.mp hc
  exact (q4c r q e hu).2 E Q k
 ·obtain ⟨i, j, rfl, rfl⟩ := y3d hc (by decide) (by decide)
  obtain ⟨t, rfl⟩ := r.int_inv
  obtain ⟨t', rfl⟩ := q.int_inv
  exact lt_int (fin _ (Option.some.inj hc))
 ·obtain ⟨i, j, rfl, rfl⟩ := y3d hc (by decide) (by decide)
  obtain ⟨t, rfl⟩ := r.int_inv
  obtain ⟨t', rfl⟩ := q.int_inv
  exact le_int (fin _ (Option.some.inj hc))
 ·obtain ⟨i, j, rfl, rfl⟩ := y3d hc (by decide) (by decide)
  obtain ⟨t, rfl⟩ := r.int_inv
  obtain ⟨t', rfl⟩ := q.int_inv
  exact gt_int (fin _ (Option.some.inj hc))
 ·obtain ⟨i, j, rfl, rfl⟩ := y3d hc (by decide) (by decide)
  obtain ⟨t, rfl⟩ := r.int_inv
  obtain ⟨t', rfl⟩ := q.int_inv
  exact ge_int (fin _ (Option.some.inj hc))
end
end Mine
end
section
open PySem
namespace Mine
set_option genCtorIdx false
set_option genSizeOf false
open PyProof.Rows PySem.W
structure ItS (prog : Program) (w : World) (A : Around) (it : Value) (fp wr : Addr -> Prop) (St : Nat -> Heap -> Prop) (src : (Addr -> Prop) -> Heap -> Prop) (items : List D) (nm : Bool) : Prop where
 wrfp : ∀ b, wr b -> fp b
 frame : ∀ i h h', St i h -> (∀ b o, fp b -> h.get? b = some o -> h'.get? b = some o) -> St i h'
 move : ∀ (Y Y' : Addr -> Prop) (h h' : Heap), src Y h -> (∀ a o, ¬ Y a -> h.get? a = some o -> h'.get? a = some o) -> (∀ a o, h.get? a = some o -> Y' a -> Y a) -> src Y' h'
 item : ∀ (i : Nat) (s : Shared) (d : D) (Y : Addr -> Prop) (tgt : Expr) (E : Value -> Shared -> Prop), items[i]? = some d -> St i s.heap -> src Y s.heap -> (∀ a, Y a -> a < s.heap.objs.size) -> (∀ b, wr b -> Y b) ->
  ((nm = true /\ ∃ x p, tgt = .Name x p) \/ (∃ es k p, tgt = .Tuple es k p)) ->
  wpAny (model prog w) A (pyNext it) (fun r s₁ => ∃ v, r = some v /\ wpAny (model prog w) A (letOwnedTupleGo tgt it v) (fun _ s₂ => E2 fun h tk => A4 (s₂ = { s with heap := h, toks := tk }) ((∀ b o, ¬ wr b -> s.heap.get? b = some o -> h.get? b = some o)) (St (i + 1) h) (Rep h Y v d)) E s₁) E s
 live : ∀ i h, St i h -> ∀ b, wr b -> ∃ o, h.get? b = some o
 self : ∀ (i : Nat) (s : Shared) (Q : Value -> Shared -> Prop) (E : Value -> Shared -> Prop), St i s.heap -> Q it s -> wpAny (model prog w) A (pyIter it) Q E s
 done : ∀ (s : Shared) (E : Value -> Shared -> Prop), St items.length s.heap -> wpAny (model prog w) A (pyNext it) (fun r s₁ => r = none /\ ∃ h tk, s₁ = { s with heap := h, toks := tk } /\
   (∀ b o, ¬ wr b -> s.heap.get? b = some o -> h.get? b = some o)) E s
inductive z6u (prog : Program) (w : World) (A : Around) (Y : Addr -> Prop) (ap : Addr) (h₀ : Heap) (items : List D) (nm : Bool) (itv : Value) (h : Heap) : Prop
 | mk (fp wr : Addr -> Prop) (St : Nat -> Heap -> Prop) (src : (Addr -> Prop) -> Heap -> Prop) (I : ItS prog w A itv fp wr St src items nm) (st : St 0 h) (s : src (fun a => Y a \/ wr a) h) (w : ∀ b, wr b -> h₀.get? b = none /\ ∃ o, h.get? b = some o) (f : ∀ b, fp b -> (∃ o, h.get? b = some o) /\ (wr b \/ ¬ Y b \/ b = ap))
theorem z0o {h h' : Heap} {a : Addr} (hx : Ext h h') (e : h'.get? a = none) : h.get? a = none := by
 cases z : h.get? a with
 | none => rfl
 | some o => rw [hx a o z] at e; cases e
section
variable {prog : Program} {w : World} {A : Around}
theorem go_Name {x : Str} {p : Pos} {it v : Value} : letOwnedTupleGo (.Name x p) it v = pure () := rfl
theorem q2v {tgt : Expr} {I : Addr} {v : Value} {s : Shared} {o : Obj} {n : String} {E : Value -> Shared -> Prop} {Q : Unit -> Shared -> Prop} (ht : (∃ x p, tgt = .Name x p) \/ (∃ es k p, tgt = .Tuple es k p))
  (ho : s.heap.get? I = some o) (hc : o.cls = .type n)
  (hn : ["enumerate", "zip", "dict_itemiterator", "dict_reverseitemiterator", "odict_iterator", "itertools.zip_longest", "itertools.pairwise"].contains n = false) (h : Q () s) :
  wpAny (model prog w) A (letOwnedTupleGo tgt (.ref I) v) Q E s := by
 rcases ht with ⟨x, p, rfl⟩ | ⟨es, k, p, rfl⟩
 ·exact wpAny_pure h
 ·unfold letOwnedTupleGo
  cases v <;> first
   | exact wpAny_pure h
   | skip
  refine wpAny_bind (wpAny_load ho ?_)
  rw [hc]
  cases hd : o.data <;> first
   | exact wpAny_pure h
   | skip
  dsimp only
  rw [hn]
  exact wpAny_pure h
theorem y0n {I : Addr} {fp wr : List Addr} {n : Nat} {P : Nat -> Value -> Prop} {St : Nat -> Heap -> Prop} {items : List D} {src : (Addr -> Prop) -> Heap -> Prop} {cl : String}
  (W : Walks prog w A I fp wr n P St) (hn : n = items.length) (hwr : wr = [I])
  (hcl : ∀ i h, St i h -> ∃ o, h.get? I = some o /\ o.cls = .type cl)
  (hno : ["enumerate", "zip", "dict_itemiterator", "dict_reverseitemiterator", "odict_iterator", "itertools.zip_longest", "itertools.pairwise"].contains cl = false)
  (hmove : ∀ (Y Y' : Addr -> Prop) (h h' : Heap), src Y h -> (∀ a o, ¬ Y a -> h.get? a = some o -> h'.get? a = some o) -> (∀ a o, h.get? a = some o -> Y' a -> Y a) -> src Y' h')
  (hitem : ∀ i v d Y h, P i v -> items[i]? = some d -> src Y h -> Rep h Y v d) :
  ItS prog w A (.ref I) (fun b => b ∈ fp) (fun b => b = I) St src items true where
 wrfp := fun b hb => W.sub b (by rw [hwr, hb]; exact List.mem_singleton.mpr rfl)
 frame := fun i h h' st hk => W.frame i h h' st fun b hb o e => hk b o hb e
 move := hmove
 item := fun i s d Y tgt E hd st hs hY hwY ht => by
  refine W.item i s _ E (by rw [hn]; exact (List.getElem?_eq_some_iff.mp hd).1) st fun v h' tk hP st' hk => ⟨v, rfl, ?_⟩
  obtain ⟨o, ho, hc⟩ := hcl _ _ st'
  have hk' : ∀ b o, ¬ b = I -> s.heap.get? b = some o -> h'.get? b = some o := fun b o hb e => hk b o (by rw [hwr]; simpa using hb) e
  refine q2v (ht.imp_left And.right) ho hc hno ⟨h', tk, rfl, hk', st', ?_⟩
  exact hitem i v d Y h' hP hd (hmove Y Y _ _ hs (fun a o ha e => hk' a o (fun q => ha (hwY a q)) e) fun _ _ _ y => y)
 live := fun i h st b hb => by subst hb; obtain ⟨o, ho, _⟩ := hcl i h st; exact ⟨o, ho⟩
 self := fun i s Q E st hq => W.self i s Q E st hq
 done := fun s E st => W.done s _ E (by rw [hn]; exact st) fun h' tk hk => ⟨rfl, h', tk, rfl, fun b o hb e => hk b o (by rw [hwr]; simpa using hb) e⟩
theorem q0l {s : Shared} {Y : Addr -> Prop} {ap : Addr} {v : Value} {l : List D} {h₀ : Heap} (hh : A.handled = none) (r : Rep s.heap Y v (.list l)) (h0 : Ext h₀ s.heap) :
  EV (model prog w) A (pyIter v) s fun it h => z6u prog w A Y ap h₀ l true it h := fun E Q k => by
 obtain ⟨a, ws, n, rfl, hY, hg, hl, r1⟩ := r.list_inv
 have hlt := Heap.lt_size hg
 have hne : a ≠ s.heap.objs.size := Nat.ne_of_lt hlt
 refine wpAny_pyIter_list (z1r hg) (k _ _ s.toks (Ext.push _ _) ?_)
 refine ⟨_, _, _, fun Y h => z0k h Y ws l, y0n (cl := "list_iterator") (Walks.list hh s.heap.objs.size a hne ws.toArray) (by rw [List.size_toArray, r1.length]) rfl
  (fun i h st => let ⟨o, ho, hc, _⟩ := st.1; ⟨o, ho, hc⟩) (by decide) (fun Y Y' h h' r hx hy => r.move hx hy) (fun i v d Y h hP hd q => ?_), ⟨⟨_, Heap.get?_push_size _ rfl, rfl, rfl⟩, (z1r hg).push _⟩, (r1.fresh fun a q => q.imp_right fun q => by rw [q]; exact Nat.le_refl _).ext (Ext.push _ _), ?_, ?_⟩
 ·obtain ⟨v', e, z⟩ := q.at hd
  have : ws[i]? = some v := by simpa using hP
  rw [e] at this; cases this; exact z
 ·rintro b rfl
  exact ⟨z0o h0 (get?_none_of_size (Nat.le_refl _)), _, Heap.get?_push_size _ rfl⟩
 ·intro b hb
  rcases List.mem_cons.mp hb with rfl | hb
  ·exact ⟨⟨_, Heap.get?_push_size _ rfl⟩, .inl rfl⟩
  ·rw [List.mem_singleton.mp hb]
   exact ⟨⟨_, Heap.get?_push_of_some _ hg⟩, .inr (.inl hY)⟩
theorem y6k {s : Shared} {Y : Addr -> Prop} {ap : Addr} {a : Addr} {ws : List Value} {n : Nat} {l : List D} {h₀ : Heap} (hh : A.handled = none) (hY : ¬ Y a \/ a = ap)
  (hg : s.heap.get? a = some { cls := .type "tuple", data := .seq ws.toArray n }) (r1 : z0k s.heap Y ws l) (h0 : Ext h₀ s.heap) :
  EV (model prog w) A (pyIter (.ref a)) s fun it h => z6u prog w A Y ap h₀ l true it h := fun E Q k => by
 have hlt := Heap.lt_size hg
 have hne : a ≠ s.heap.objs.size := Nat.ne_of_lt hlt
 have hT : s.heap.IsTuple a ws.toArray := ⟨_, hg, rfl, n, rfl⟩
 refine wpAny_pyIter_tuple hT (k _ _ s.toks (Ext.push _ _) ?_)
 refine ⟨_, _, _, fun Y h => z0k h Y ws l, y0n (cl := "tuple_iterator") (Walks.tuple hh s.heap.objs.size a hne ws.toArray) (by rw [List.size_toArray, r1.length]) rfl
  (fun i h st => let ⟨o, ho, hc, _⟩ := st.1; ⟨o, ho, hc⟩) (by decide) (fun Y Y' h h' r hx hy => r.move hx hy) (fun i v d Y h hP hd q => ?_), ⟨⟨_, Heap.get?_push_size _ rfl, rfl, rfl⟩, hT.push _⟩, (r1.fresh fun a q => q.imp_right fun q => by rw [q]; exact Nat.le_refl _).ext (Ext.push _ _), ?_, ?_⟩
 ·obtain ⟨v', e, z⟩ := q.at hd
  have : ws[i]? = some v := by simpa using hP
  rw [e] at this; cases this; exact z
 ·rintro b rfl
  exact ⟨z0o h0 (get?_none_of_size (Nat.le_refl _)), _, Heap.get?_push_size _ rfl⟩
 ·intro b hb
  rcases List.mem_cons.mp hb with rfl | hb
  ·exact ⟨⟨_, Heap.get?_push_size _ rfl⟩, .inl rfl⟩
  ·rw [List.mem_singleton.mp hb]
   exact ⟨⟨_, Heap.get?_push_of_some _ hg⟩, .inr hY⟩
theorem y1u {s : Shared} {Y : Addr -> Prop} {ap : Addr} {r : Addr} {a b c : Int} {t u v : Tok} {l : List D} {h₀ : Heap} (hh : A.handled = none)
  (hr : IsRange s.heap r a b c t u v) (hsm : Builtin.Range.small a b c = true) (hn : Builtin.Range.rangeSize a b c = (l.length : Int)) (hl : ∀ (i : Nat) (d : D), l[i]? = some d -> d = D.int (a + i * c)) (h0 : Ext h₀ s.heap) :
  EV (model prog w) A (pyIter (.ref r)) s fun it h => z6u prog w A Y ap h₀ l true it h := fun E Q k => by
 refine wpAny_pyIter_range hr hsm (k _ _ s.toks (Ext.push _ _) ?_)
 refine ⟨_, _, _, fun Y h => True, y0n (cl := "range_iterator") (Walks.range hh s.heap.objs.size a c l.length) rfl rfl
  (fun i h st => ⟨_, st, rfl⟩) (by decide) (fun _ _ _ _ _ _ _ => trivial) (fun i v d Y h hP hd _ => ?_), ?_, trivial, ?_, ?_⟩
 ·obtain ⟨t, rfl⟩ := hP
  rw [hl i d hd]; exact Rep.int _ _
 ·show IsRangeIter _ _ _ _ _
  rw [hn]; simpa using Heap.get?_push_size _ rfl
 ·rintro b rfl
  exact ⟨z0o h0 (get?_none_of_size (Nat.le_refl _)), _, Heap.get?_push_size _ rfl⟩
 ·intro b hb
  rw [List.mem_singleton.mp hb]
  exact ⟨⟨_, Heap.get?_push_size _ rfl⟩, .inl rfl⟩
theorem z6p : ∀ (l : List D) (n : Nat), (z2r n l).length = l.length
 | [], _ => rfl
 | _ :: r, n => by simp [z2r, z6p r]
theorem y3z : ∀ (l : List D) (n i : Nat) (d : D), (z2r n l)[i]? = some d -> ∃ x, l[i]? = some x /\ d = .tup [.int ((n + i : Nat) : Int), x]
 | [], _, _, _, e => by simp [z2r] at e
 | y :: r, n, 0, d, e => by simp [z2r] at e; exact ⟨y, rfl, e.symm⟩
 | y :: r, n, i + 1, d, e => by
  simp only [z2r, List.getElem?_cons_succ] at e
  obtain ⟨x, hx, e⟩ := y3z r (n + 1) i d e
  exact ⟨x, by simpa using hx, by rw [e]; congr 4; exact o98⟩
theorem q0m {s : Shared} {Y : Addr -> Prop} {ap : Addr} {e it a : Addr} {ws : List Value} {n : Nat} {l : List D} {h₀ : Heap} (hh : A.handled = none) (hY : ¬ Y a)
  (hg : s.heap.get? a = some { cls := .type "list", data := .seq ws.toArray n }) (hl : ws.length <= LEN) (r1 : z0k s.heap (fun a => Y a \/ (a = e \/ a = it)) ws l) (he : IsEnum s.heap e it 0 .none) (hit : s.heap.IsListIter it a 0)
  (h1 : h₀.get? it = none) (h2 : h₀.get? e = none) (hei : e ≠ it) (hai : a ≠ it) (hae : a ≠ e) :
  EV (model prog w) A (pyIter (.ref e)) s fun itv h => z6u prog w A Y ap h₀ (z2r 0 l) false itv h := fun E Q k => by
 refine wpAny_pyIter_enum he (k _ _ s.toks (Ext.refl _) ?_)
 refine ⟨(fun b => b = e \/ b = it \/ b = a), (fun b => b = e \/ b = it), (fun i h => ∃ old, IsEnum h e it ((i : Nat) : Int) old /\ h.IsListIter it a i /\ h.get? a = some { cls := .type "list", data := .seq ws.toArray n }),
  (fun Y h => z0k h Y ws l), ⟨fun b hb => by rcases hb with h | h <;> simp [h], ?_, fun Y Y' h h' r hx hy => r.move hx hy, ?_, fun i h ⟨old, x1, x2, _⟩ b hb => by (rcases hb with rfl | rfl; exact ⟨_, x1⟩; obtain ⟨o, ho, _⟩ := x2; exact ⟨o, ho⟩), fun i s Q E ⟨old, x1, _⟩ hq => wpAny_pyIter_enum x1 hq, ?_⟩, ⟨.none, he, hit, hg⟩, r1, ?_, ?_⟩
 ·rintro i h h' ⟨old, x1, x2, x3⟩ hk
  exact ⟨old, hk e _ (.inl rfl) x1, x2.at fun o z => hk it o (.inr (.inl rfl)) z, hk a _ (.inr (.inr rfl)) x3⟩
 ·rintro i s d Y tgt E hd ⟨old, x1, x2, x3⟩ hs hYb hwY ht
  obtain ⟨x, hx, rfl⟩ := y3z _ _ _ _ hd
  obtain ⟨v, hv, q⟩ := hs.at hx
  have hv' : ws.toArray[i]? = some v := by simpa using hv
  refine wpAny_pyNext_enum_item x1 x2 (z1r x3) hv' hei fun h₁ heo hit₁ ht₁ hz₁ hk₁ => ⟨_, rfl, ?_⟩
  have hTn : ¬ Y s.heap.objs.size := fun y => Nat.lt_irrefl _ (hYb _ y)
  have heH := Heap.lt_size x1
  have fin : ∀ h₂ tk, (∀ b o, ¬ (b = e) -> h₁.get? b = some o -> h₂.get? b = some o) -> IsEnum h₂ e it ((i : Nat) + 1 : Int) v -> E2 fun h tk' => A4 (({ s with heap := h₂, toks := tk } : Shared) = { s with heap := h, toks := tk' }) ((∀ b o, ¬ (b = e \/ b = it) -> s.heap.get? b = some o -> h.get? b = some o)) ((∃ old, IsEnum h e it ((i + 1 : Nat) : Int) old /\ h.IsListIter it a (i + 1) /\ h.get? a = some { cls := .type "list", data := .seq ws.toArray n })) (Rep h Y (.ref s.heap.objs.size) (.tup [.int ((0 + i : Nat) : Int), x])) := fun h₂ tk hk₂ he₂ => by
   have up : ∀ b o, ¬ (b = e \/ b = it) -> s.heap.get? b = some o -> h₂.get? b = some o := fun b o hb z => hk₂ b o (fun q => hb (.inl q)) (hk₁ b o (fun q => hb (.inl q)) (fun q => hb (.inr q)) z)
   refine ⟨h₂, tk, rfl, up, ⟨v, by simpa using he₂, hit₁.at fun o z => hk₂ it o (Ne.symm hei) z, up a _ (by simp [hae, hai]) x3⟩, ?_⟩
   refine .tup (ws := [.int i s.toks, v]) (n := 0) hTn (hk₂ _ _ (Nat.ne_of_gt heH) ht₁) (by rw [z2v]; simp) ?_ .nil
   refine z0k.cons ?_ (z0k.move q (fun b o hb z => up b o (fun y => hb (hwY b y)) z) fun _ _ _ y => y)
   have : ((0 + i : Nat) : Int) = (i : Int) := by simp
   rw [this]; exact Rep.int _ _
  rcases ht with ⟨y, _⟩ | ⟨es, kk, p, rfl⟩
  ·cases y
  ·refine wpAny_letOwnedTupleGo_enum heo fun h₂ he₂ hs₂ => fin h₂ _ (fun b o hb z => (hs₂.2 b hb).trans z) he₂
 ·rintro s E ⟨old, x1, x2, x3⟩
  rw [z6p, <- r1.length] at x1 x2
  refine wpAny_pyNext_enum_end hh x1 x2 (z1r x3) (by simp) fun h' he' => ⟨rfl, h', s.toks, rfl, fun b o hb z => he' b o (fun q => hb (.inr q)) z⟩
 ·intro b hb
  rcases hb with rfl | rfl
  ·exact ⟨h2, _, he⟩
  ·obtain ⟨o, ho, _⟩ := hit; exact ⟨h1, o, ho⟩
 ·intro b hb
  rcases hb with rfl | rfl | rfl
  ·exact ⟨⟨_, he⟩, .inl (.inl rfl)⟩
  ·obtain ⟨o, ho, _⟩ := hit; exact ⟨⟨o, ho⟩, .inl (.inr rfl)⟩
  ·exact ⟨⟨_, hg⟩, .inr (.inl hY)⟩
end
end Mine
end
section
open PySem
namespace Mine
set_option genCtorIdx false
set_option genSizeOf false
open PyProof.Rows PySem.W
noncomputable def z9j : ME -> Bool
 | .enum _ => true
 | _ => false
set_option genCtorIdx true in
inductive Mo where | E | U | B | I
noncomputable def Mo.isU : Mo -> Bool
 | .U => true
 | _ => false
noncomputable def Mo.isB : Mo -> Bool
 | .B => true
 | _ => false
noncomputable def Mo.isI : Mo -> Bool
 | .I => true
 | _ => false
noncomputable def ok (W : List Nat) : ME -> Mo -> Bool
 | .int _, _ => true
 | .none, _ => true
 | .bool _, _ => true
 | .cvar _, _ => true
 | .nil, _ => true
 | .primes, m => m.isU || m.isI
 | .var i, m => m.isU || !W.contains i
 | .bin _ a b, _ => ok W a .E && ok W b .E
 | .max a b, _ => ok W a .E && ok W b .E
 | .cons a b, _ => ok W a .E && ok W b .E
 | .cmp _ a b, _ => ok W a .U && ok W b .U
 | .and a b, m => ok W a (if m.isB then .B else .E) && ok W b (if m.isB then .B else .E)
 | .or a b, m => ok W a (if m.isB then .B else .E) && ok W b (if m.isB then .B else .E)
 | .neg a, _ => ok W a .E
 | .isN a, _ => ok W a .E
 | .notN a, _ => ok W a .E
 | .abs a, _ => ok W a .E
 | .call _ a, _ => ok W a .E
 | .list a, _ => ok W a .E
 | .tup a, _ => ok W a .E
 | .not a, m => m.isB && ok W a .B
 | .ite c a b, m => !m.isB && (ok W c .B && ok W a .E && ok W b .E)
 | .len a, _ => ok W a .U
 | .copy a, _ => ok W a .U
 | .rev a, _ => ok W a .U
 | .idx a i, _ => ok W a .U && ok W i .E
 | .upTo a i, _ => ok W a .U && ok W i .E
 | .fromA a i, _ => ok W a .U && ok W i .E
 | .comp elt nv it cond, _ => ok W elt .E && ok W it .I && ok W cond .B && (nv != 1 || !z9j it)
 | .range a, m => m.isI && ok W a .E
 | .down a, m => m.isI && ok W a .E
 | .enum a, m => m.isI && ok W a .E
noncomputable def okE (W : List Nat) (e : ME) : Bool := ok W e .E
noncomputable def okU (W : List Nat) (e : ME) : Bool := ok W e .U
noncomputable def okB (W : List Nat) (e : ME) : Bool := ok W e .B
noncomputable def okI (W : List Nat) (e : ME) : Bool := ok W e .I
theorem z9y {a b : Bool} (h : (a && b) = true) : a = true /\ b = true := Bool.and_eq_true_iff.mp h
theorem and3 {a b c : Bool} (h : (a && b && c) = true) : (a = true /\ b = true) /\ c = true := ⟨z9y (z9y h).1, (z9y h).2⟩
theorem and4 {a b c d e : Bool} (h : (a && b && c && (d || e)) = true) : ((a = true /\ b = true) /\ c = true) /\ (d = true \/ e = true) := ⟨and3 (z9y h).1, Bool.or_eq_true_iff.mp (z9y h).2⟩
theorem y9v {W : List Nat} {e : ME} (h : okU W e = true) : (∃ i, e = .var i) \/ e = .primes \/ okE W e = true := by
 cases e <;> first | exact .inr (.inr h) | exact .inl ⟨_, rfl⟩ | exact .inr (.inl rfl)
theorem y9y {W : List Nat} {e : ME} (h : okB W e = true) : (∃ a, e = .not a) \/ (∃ a b, e = .and a b) \/ (∃ a b, e = .or a b) \/ okE W e = true := by
 cases e <;> first | exact .inr (.inr (.inr h)) | exact .inl ⟨_, rfl⟩ | exact .inr (.inl ⟨_, _, rfl⟩) | exact .inr (.inr (.inl ⟨_, _, rfl⟩)) | exact Bool.noConfusion (show false = true from h)
theorem y9x {W : List Nat} {e : ME} (h : okI W e = true) : (∃ a, e = .range a) \/ (∃ a, e = .down a) \/ (∃ a, e = .enum a) \/ e = .primes \/ okE W e = true := by
 cases e <;> first | exact .inr (.inr (.inr (.inr h))) | exact .inl ⟨_, rfl⟩ | exact .inr (.inl ⟨_, rfl⟩) | exact .inr (.inr (.inl ⟨_, rfl⟩)) | exact .inr (.inr (.inr (.inl rfl)))
noncomputable def y3i : ME -> Bool
 | .list _ | .copy _ | .upTo _ _ | .fromA _ _ | .rev _ | .comp _ _ _ _ => true
 | .bin op a _ => (match a with | .list _ => (match op with | .add => true | .mul => true | _ => false) | _ => false)
 | _ => false
theorem ff {P : Prop} (h : false = true) : P := Bool.noConfusion h
theorem y6m {o : Op} {a b : ME} (h : y3i (.bin o a b) = true) : ∃ as, a = .list as := by
 cases a <;> first | exact ⟨_, rfl⟩ | exact ff h
noncomputable def IsL (o : Option D) : Prop := ∀ d, o = some d -> ∃ l, d = .list l
theorem IsL.n : IsL none := fun _ h => nomatch h
theorem IsL.s (l : List D) : IsL (some (.list l)) := fun _ h => ⟨l, (Option.some.inj h).symm⟩
theorem IsL.i {c : Prop} [Decidable c] {l : List D} : IsL (if c then some (.list l) else none) := fun _ h => by
 by_cases q : c
 ·rw [if_pos q] at h; exact IsL.s _ _ h
 ·rw [if_neg q] at h; exact IsL.n _ h
theorem IsL.bin (op : Op) (l : List D) (y : D) : IsL (y3f op (.list l) y) := by
 cases y with
 | list b => exact IsL.i
 | int n =>
  rcases l with _ | ⟨a, _ | _⟩
  ·exact IsL.n
  ·exact IsL.i
  ·exact IsL.n
 | _ => exact IsL.n
theorem y2s {Φ : Nat -> List D -> Option D} {ρ : List (Option D)} {κ : List D} (as : ME) : IsL (ev Φ ρ (.list as) κ) := by
 dsimp only [ev]; rcases ev Φ ρ as κ with _ | _ | _ | _ | _ | _ <;> first | exact IsL.n | exact IsL.s _
structure z0r where
 name : Str
 params : Arguments
 body : List Stmt
 scope : Scope
noncomputable def DefAt (mg : Str -> Option Value) (h : Heap) (d : z0r) : Prop :=
 E5 fun a o pm cd doc => A4 (mg d.name = some (.ref a)) (h.get? a = some o) (o.data = .func (Calls.docDef d.name d.params d.body d.scope pm cd doc)) (h.CodeRec cd d.name)
noncomputable def q1n (x : Str) : Option Value :=
 if x == "abs" then some (.builtin "abs") else if x == "len" then some (.builtin "len") else if x == "max" then some (.builtin "max")
 else if x == "list" then some (.type "list") else if x == "range" then some (.type "range") else if x == "enumerate" then some (.type "enumerate") else none
structure GI (mg mb : Str -> Option Value) (tab : List z0r) (ap : Addr) (h : Heap) : Prop where
 g : h.Ns mainGlobals mg
 b : h.Ns builtinsNs mb
 nolimit : h.NoLimit
 bi : ∀ x v, q1n x = some v -> mg x = none /\ mb x = some v
 defs : ∀ d ∈ tab, DefAt mg h d
 primes : mg "_law_primes" = some (.ref ap) /\ E2 fun ws n => A3 (h.get? ap = some { cls := .type "tuple", data := .seq ws.toArray n }) (ws.length <= LEN) (∀ Y, z0k h Y ws [.int 2, .int 3, .int 5, .int 7, .int 11, .int 13])
theorem GI.ext {mg mb : Str -> Option Value} {tab : List z0r} {ap : Addr} {h h' : Heap} (G : GI mg mb tab ap h) (x : Ext h h') : GI mg mb tab ap h' :=
 ⟨G.g.keeps x, G.b.keeps x, G.nolimit.keeps x, G.bi, fun d hd => let ⟨a, o, pm, cd, doc, h1, h2, h3, h4⟩ := G.defs d hd; ⟨a, o, pm, cd, doc, h1, x _ _ h2, h3, h4.keeps x⟩,
  let ⟨h1, ws, n, h2, h3, h4⟩ := G.primes; ⟨h1, ws, n, x _ _ h2, h3, fun Y => (h4 Y).ext x⟩⟩
noncomputable def NV (env : Env) (h : Heap) (x : Str) (v : Value) : Prop :=
 (env.kindOf x = some .local /\ ∃ m, h.Ns env.locals m /\ m x = some v) \/ ((env.kindOf x = some .cell \/ (env.kindOf x = some .free /\ (x == ("__classdict__" : Str)) = false)) /\ ∃ a, env.cells.lookup x = some a /\ h.IsCell a (some v))
theorem NV.ext {env : Env} {h h' : Heap} {x : Str} {v : Value} (n : NV env h x v) (hx : Ext h h') : NV env h' x v := by
 rcases n with ⟨k, m, hn, e⟩ | ⟨k, a, e, hc⟩
 ·exact .inl ⟨k, m, hn.keeps hx, e⟩
 ·exact .inr ⟨k, a, e, hc.keeps hx⟩
structure CX (c : TC) (mg mb : Str -> Option Value) (tab : List z0r) (ap : Addr) (env : Env) (W : List Nat) (ρ : List (Option D)) (κ : List D) (Y : Addr -> Prop) (h : Heap) : Prop where
 gi : GI mg mb tab ap h
 fns : c.fns = tab.map (·.name)
 kind : env.scope.kind = .function
 globals : env.globals = mainGlobals
 builtins : env.builtins = builtinsNs
 yb : ∀ a, Y a -> ∃ o, h.get? a = some o
 glob : ∀ x, z1z c x = true -> env.kindOf x = some .globalImplicit
 vars : ∀ x i d, c.look x = some (.var i) -> ρ[i]? = some (some d) -> ∃ v, NV env h x v /\ z5w h Y v d /\ (W.contains i = false -> Rep h Y v d)
 cvars : ∀ x j d, c.look x = some (.cvar j) -> κ[j]? = some d -> ∃ v, NV env h x v /\ Rep h Y v d
 cells : c.cn.isEmpty = true -> ∀ x, c.sc.names.lookup x = some .cell -> env.kindOf x = some .cell /\ (∃ a, env.cells.lookup x = some a) /\ (x == ("__classdict__" : Str)) = false
section
variable {c : TC} {mg mb : Str -> Option Value} {tab : List z0r} {ap : Addr} {env : Env} {W : List Nat} {ρ : List (Option D)} {κ : List D} {Y : Addr -> Prop} {h h' : Heap}
theorem CX.ext (X : CX c mg mb tab ap env W ρ κ Y h) (x : Ext h h') : CX c mg mb tab ap env W ρ κ Y h' where
 gi := X.gi.ext x
 fns := X.fns
 kind := X.kind
 globals := X.globals
 builtins := X.builtins
 yb := fun a y => let ⟨o, e⟩ := X.yb a y; ⟨o, x _ _ e⟩
 glob := X.glob
 vars := fun n i d hl hr => let ⟨v, h1, h2, h3⟩ := X.vars n i d hl hr; ⟨v, h1.ext x, h2.ext x, fun w => (h3 w).ext x⟩
 cvars := fun n j d hl hr => let ⟨v, h1, h2⟩ := X.cvars n j d hl hr; ⟨v, h1.ext x, h2.ext x⟩
 cells := X.cells
theorem CX.ylt (X : CX c mg mb tab ap env W ρ κ Y h) : ∀ a, Y a -> a < h.objs.size := fun a y => let ⟨_, e⟩ := X.yb a y; Heap.lt_size e
end
structure z3o (lev : Nat) (A : Around) : Prop where
 hh : A.handled = none
 depth : A.depth + lev < recursionLimit
 units : A.units + 4 * lev + 100 < cLine
section
variable {M : Model} {A : Around} {s : Shared}
theorem z3e {env : Env} {x : Str} {pos : Pos} {v : Value} {P : Value -> Heap -> Prop} (hk : env.scope.kind = .function) (n : NV env s.heap x v) (hd : (x == ("__debug__" : Str)) = false) (hp : P v s.heap) :
  EV M A (eval (.Name x pos) env) s P := fun E Q k => by
 refine wpAny_Name ?_ hd
 have fin : Q v s := k v s.heap s.toks (Ext.refl _) hp
 rcases n with ⟨hl, m, hn, e⟩ | ⟨hl | ⟨hl, hx⟩, a, e, hc⟩
 ·exact wpAny_loadName_local hk hl hn e fin
 ·exact wpAny_loadName_cell hk hl e hc fin
 ·exact wpAny_loadName_free hk hl e hc fin hx
theorem q0t {env : Env} {x : Str} {pos : Pos} {v : Value} {mg : Str -> Option Value} {P : Value -> Heap -> Prop} (hk : env.scope.kind = .function) (hx : env.kindOf x = some .globalImplicit) (hg : env.globals = mainGlobals)
  (hn : s.heap.Ns mainGlobals mg) (hv : mg x = some v) (hd : (x == ("__debug__" : Str)) = false) (hp : P v s.heap) : EV M A (eval (.Name x pos) env) s P := fun E Q k =>
 Calls.Name_function_global hk hx (Calls.loadGlobal_global (hg ▸ hn) hv (k v s.heap s.toks (Ext.refl _) hp)) hd
theorem ev_builtin {env : Env} {x : Str} {pos : Pos} {v : Value} {mg mb : Str -> Option Value} {P : Value -> Heap -> Prop} (hk : env.scope.kind = .function) (hx : env.kindOf x = some .globalImplicit) (hg : env.globals = mainGlobals) (hb : env.builtins = builtinsNs)
  (hn : s.heap.Ns mainGlobals mg) (hm : mg x = none) (hnb : s.heap.Ns builtinsNs mb) (hv : mb x = some v) (hd : (x == ("__debug__" : Str)) = false) (hp : P v s.heap) : EV M A (eval (.Name x pos) env) s P := fun E Q k =>
 Calls.Name_function_global hk hx (Calls.loadGlobal_builtin (hg ▸ hn) hm (hb ▸ hnb) hv (k v s.heap s.toks (Ext.refl _) hp)) hd
end
end Mine
end
section
open PySem
namespace Mine
open PyProof.Rows PySem.W
section
variable {M : Model} {A : Around} {E : Value -> Shared -> Prop}
theorem z6t {x : Str} {p : Pos} {r : List Expr} {env : Env} : assignEach (.Name x p :: r) env = (false, assign (.Name x p) env) :: assignEach r env := rfl
set_option tactic.hygienic true in
theorem z4p {e : Expr} {r : List Expr} {names : List Str} (h : z1l (e :: r) = some names) : E3 fun x p l => A3 (e = .Name x p) (z1l r = some l) (names = x :: l) := by
 unfold z1l at h
 split at h
 ·rename_i q; cases q
 ·rename_i x p r' q
  obtain ⟨rfl, rfl⟩ := List.cons.inj q
  split at h
  ·rename_i l hl; cases h; exact ⟨_, _, l, rfl, hl, rfl⟩
  ·cases h
 ·cases h
theorem z5j {names : List Str} (h : z1l [] = some names) : names = [] := (Option.some.inj h).symm
theorem z5u (es : List Expr) (env : Env) : ∀ {names : List Str}, z1l es = some names -> (assignEach es env).length = names.length /\ (assignEach es env).findIdx? (·.1) = none := by
 induction es with
 | nil => intro names e; rw [z5j e]; exact ⟨rfl, rfl⟩
 | cons e r ih =>
  intro names h
  obtain ⟨x, p, l, rfl, hl, rfl⟩ := z4p h
  obtain ⟨h1, h2⟩ := ih hl
  rw [z6t]
  exact ⟨by simp [h1], by simp [List.findIdx?_cons, h2]⟩
theorem z9r {env : Env} (J : Nat -> Shared -> Prop) (es : List Expr) : ∀ (names : List Str) (vs : List Value) (k : Nat) (s : Shared) (Q : Unit -> Shared -> Prop), z1l es = some names -> vs.length = names.length ->
  (∀ (i : Nat) (x : Str) (v : Value) (s : Shared), names[i]? = some x -> vs[i]? = some v -> J (k + i) s -> ∀ Q : Unit -> Shared -> Prop, (∀ s', J (k + i + 1) s' -> Q () s') -> wpAny M A (storeName env x v) Q E s) ->
  J k s -> (∀ s', J (k + names.length) s' -> Q () s') -> wpAny M A (assignInOrder ((assignEach es env).map (·.2)) vs) Q E s := by
 induction es with
 | nil =>
  intro names vs k s Q e hl step h fin
  have := z5j e
  subst this
  cases vs with
  | nil => exact wpAny_pure (fin s (by simpa using h))
  | cons => simp at hl
 | cons e r ih =>
  intro names vs k s Q he hl step h fin
  obtain ⟨x, p, l, rfl, hl', rfl⟩ := z4p he
  cases vs with
  | nil => simp at hl
  | cons v vs =>
   rw [z6t]
   show wpAny M A (do holding vs (assign (.Name x p) env v); assignInOrder ((assignEach r env).map (·.2)) vs) Q E s
   refine wpAny_bind (wpAny_holding (wpAny_assign_Name (step 0 x v s rfl rfl (by simpa using h) _ fun s' h' => ?_)))
   refine ih l vs (k + 1) s' Q hl' (by simpa using hl) (fun i y u s a b j Q hq => ?_) (by simpa using h') (fun s' h' => fin s' ?_)
   ·refine step (i + 1) y u s (by simpa using a) (by simpa using b) ?_ Q fun s' h' => hq s' ?_
    ·rw [show k + (i + 1) = k + 1 + i by exact o99]; exact j
    ·rw [show k + 1 + i + 1 = k + (i + 1) + 1 by exact o567]; exact h'
   ·rw [show k + (x :: l).length = k + 1 + l.length by simp; exact o99]; exact h'
end
theorem y4z (es : List Expr) : ∀ {names : List Str}, z1l es = some names -> es.length = names.length := by
 induction es with
 | nil => intro names e; rw [z5j e]; rfl
 | cons e r ih =>
  intro names h
  obtain ⟨x, p, l, rfl, hl, rfl⟩ := z4p h
  simp [ih hl]
set_option tactic.hygienic true in
theorem z8h {prog : Program} {w : World} {A : Around} {E : Value -> Shared -> Prop} {env : Env} {tgt : Expr} {names : List Str} {tt : Bool} {v : Value} {d : D} {ks : List D} {Y : Addr -> Prop} {s : Shared}
  {Q : Unit -> Shared -> Prop} (J : List Value -> Nat -> Shared -> Prop) (hh : A.handled = none) (ht : z1b tgt = some (names, tt)) (ho : z0u names.length tt d = some ks) (r : Rep s.heap Y v d)
  (start : ∀ vs h, Ext s.heap h -> z0k h Y vs ks -> vs.length = names.length -> J vs 0 { s with heap := h })
  (step : ∀ vs i x v s, names[i]? = some x -> vs[i]? = some v -> J vs i s -> ∀ Q : Unit -> Shared -> Prop, (∀ s', J vs (i + 1) s' -> Q () s') -> wpAny (model prog w) A (storeName env x v) Q E s)
  (fin : ∀ vs s', J vs names.length s' -> Q () s') : wpAny (model prog w) A (assign tgt env v) Q E s := by
 unfold z1b at ht
 split at ht
 ·rename_i x p
  simp at ht
  obtain ⟨rfl, rfl⟩ := ht
  simp [z0u] at ho
  subst ho
  refine wpAny_assign_Name (step [v] 0 x v s rfl rfl ?_ Q fun s' h' => fin [v] s' h')
  exact start [v] s.heap (Ext.refl _) r rfl
 ·rename_i es k p
  split at ht
  ·rename_i l hl
   simp at ht
   obtain ⟨rfl, rfl⟩ := ht
   cases d <;> simp [z0u] at ho
   obtain ⟨hlen, rfl⟩ := ho
   obtain ⟨a, ws, n, rfl, _, hg, _, r1⟩ := r.tup_inv
   have hw : ws.length = l.length := by rw [r1.length, hlen]
   obtain ⟨e1, e2⟩ := z5u _ env hl
   refine wpAny_assign_Tuple (items := ws.toArray) hh ⟨_, hg, rfl, n, rfl⟩ (by rw [e1]; simp [hw]) e2 fun h' hx => ?_
   have hx' : Ext s.heap h' := fun b o e => hx b o (Nat.ne_of_lt (Heap.lt_size e)) e
   refine z9r (J ws) es l ws 0 _ Q hl hw (fun i x u s a b j Q hq => step ws i x u s a b (by simpa using j) Q fun s' h' => hq s' (by simpa using h')) (start ws h' hx' (r1.ext hx') hw) fun s' h' => fin ws s' (by simpa using h')
  ·cases ht
 ·cases ht
theorem z9d {tgt : Expr} {names : List Str} {tt : Bool} (ht : z1b tgt = some (names, tt)) : (tt = false /\ ∃ x p, tgt = .Name x p) \/ (∃ es k p, tgt = .Tuple es k p) := by
 unfold z1b at ht
 split at ht
 ·simp at ht; exact .inl ⟨ht.2.symm ▸ rfl, _, _, rfl⟩
 ·exact .inr ⟨_, _, _, rfl⟩
 ·cases ht
noncomputable def z0i (env : Env) : List (Str × NameKind) -> List (Str × Addr) -> List (Str × Addr)
 | [], acc => acc
 | (n, k) :: r, acc => if k == .free then z0i env r ((n, (env.cells.lookup n).getD 0) :: acc) else z0i env r acc
theorem z5p {sc : Scope} {env : Env} (hc : ∀ x ∈ sc.names, x.2 = .free -> ∃ a, env.cells.lookup x.1 = some a) : closureFor sc env = pure (z0i env sc.names []) := by
 have key : ∀ (l : List (Str × NameKind)) (acc : List (Str × Addr)), (∀ x ∈ l, x.2 = .free -> ∃ a, env.cells.lookup x.1 = some a) ->
   (forIn l acc fun (x : Str × NameKind) (cs : List (Str × Addr)) => (if x.2 == .free then do let a <- cellOf env x.1; pure (ForInStep.yield ((x.1, a) :: cs)) else pure (ForInStep.yield cs) : Sem (ForInStep (List (Str × Addr))))) = pure (z0i env l acc) := by
  intro l
  induction l with
  | nil => intro acc _; rw [List.forIn_nil]; rfl
  | cons x l ih =>
   intro acc h
   obtain ⟨n, k⟩ := x
   rw [List.forIn_cons]
   unfold z0i
   by_cases hk : (k == NameKind.free) = true
   ·obtain ⟨a, ha⟩ := h (n, k) List.mem_cons_self (by simpa using hk)
    have ha' : env.cells.lookup n = some a := ha
    simp only [hk, if_true, cellOf, ha', pure_bind, Option.getD_some]
    exact ih _ fun x hx => h x (List.mem_cons_of_mem _ hx)
   ·simp only [hk, Bool.false_eq_true, if_false, pure_bind]
    exact ih _ fun x hx => h x (List.mem_cons_of_mem _ hx)
 unfold closureFor
 have := key sc.names [] hc
 simpa using congrArg (fun m => m >>= fun cs => (pure cs : Sem (List (Str × Addr)))) this
set_option tactic.hygienic true in
theorem z3b {env : Env} {x : Str} {a : Addr} (ha : env.cells.lookup x = some a) : ∀ (l : List (Str × NameKind)) (acc : List (Str × Addr)), ((∃ k, (x, k) ∈ l /\ k = .free) \/ acc.lookup x = some a) -> (z0i env l acc).lookup x = some a
 | [], acc, h => by
  rcases h with ⟨k, hm, _⟩ | h
  ·cases hm
  ·exact h
 | (n, k) :: r, acc, h => by
  unfold z0i
  split
  ·rename_i hk
   refine z3b ha r _ ?_
   by_cases hx : x = n
   ·subst hx; right; simp [List.lookup_cons, ha]
   ·rcases h with ⟨k', hm, hk'⟩ | h
    ·rcases List.mem_cons.mp hm with e | hm
     ·exact absurd (Prod.mk.inj e).1 hx
     ·exact .inl ⟨k', hm, hk'⟩
    ·right
     have : (x == n) = false := beq_eq_false_iff_ne.mpr hx
     simp [List.lookup_cons, this, h]
  ·rename_i hk
   refine z3b ha r _ ?_
   rcases h with ⟨k', hm, hk'⟩ | h
   ·rcases List.mem_cons.mp hm with e | hm
    ·have := (Prod.mk.inj e).2
     subst this
     subst hk'
     exact (hk rfl).elim
    ·exact .inl ⟨k', hm, hk'⟩
   ·exact .inr h
set_option tactic.hygienic true in
theorem z1d {α : Type} : ∀ {l : List (Str × α)} {x : Str} {a : α}, l.lookup x = some a -> (x, a) ∈ l
 | [], _, _, h => by simp at h
 | (k, v) :: r, x, a, h => by
  rw [List.lookup_cons] at h
  split at h
  ·rename_i hb; cases h; rw [beq_iff_eq.mp hb]; exact List.mem_cons_self
  ·exact List.mem_cons_of_mem _ (z1d h)
theorem z1v {env : Env} : ∀ {names : List (Str × NameKind)} {x : Str} {k : NameKind}, names.lookup x = some k ->
  (names.map fun (n, k) => if (k == NameKind.free && env.scope.kind == .function && env.kindOf n == some .cell) then (n, NameKind.cell) else (n, k)).lookup x =
   some (if (k == NameKind.free && env.scope.kind == .function && env.kindOf x == some .cell) then .cell else k)
 | [], _, _, h => by simp at h
 | (n, k') :: r, x, k, h => by
  have ih := @z1v env r x k
  show List.lookup x ((if (k' == NameKind.free && env.scope.kind == .function && env.kindOf n == some .cell) = true then (n, NameKind.cell) else (n, k')) :: _) = _
  cases hx : x == n with
  | true =>
   simp only [List.lookup_cons, hx] at h
   cases h
   have e := beq_iff_eq.mp hx
   subst e
   cases hc : (k' == NameKind.free && env.scope.kind == .function && env.kindOf x == some .cell)
   ·rw [if_neg (by simp), if_neg (by simp)]; simp [List.lookup_cons]
   ·rw [if_pos rfl, if_pos rfl]; simp [List.lookup_cons]
  | false =>
   simp only [List.lookup_cons, hx] at h
   have := ih h
   cases hc : (k' == NameKind.free && env.scope.kind == .function && env.kindOf n == some .cell)
   ·rw [if_neg (by simp)]; simp only [List.lookup_cons, hx]; exact this
   ·rw [if_pos rfl]; simp only [List.lookup_cons, hx]; exact this
end Mine
end
section
open PySem
namespace Mine
set_option genCtorIdx false
set_option genSizeOf false
open PyProof.Rows PySem.W
theorem q4j {p : (Str × NameKind) -> Bool} {l : List (Str × NameKind)} (h : l.all p = true) : ∀ x ∈ l, p x = true := List.all_eq_true.mp h
structure y1d (c : TC) (sc : Scope) (cn : List Str) : Prop where
 kind : sc.kind = .function
 nocell : ∀ y ∈ sc.names, y.2 ≠ .cell
 locs : ∀ y ∈ sc.names, y.2 = .local -> sc.names.lookup y.1 = some .local
 cnl : ∀ x ∈ cn, sc.names.lookup x = some .local
 nodup : cn.Nodup
 outer : c.cn.isEmpty = true
 ne : cn.isEmpty = false
 free : ∀ y ∈ sc.names, y.2 = .free -> c.sc.names.lookup y.1 = some .cell
 uniq : ∀ y ∈ sc.names, sc.names.lookup y.1 = some y.2
theorem y0v {c : TC} {sc : Scope} {cn : List Str} (h : z2f c sc cn = true) : y1d c sc cn := by
 unfold z2f at h
 simp only [Bool.and_eq_true, decide_eq_true_eq] at h
 obtain ⟨⟨⟨⟨⟨⟨⟨⟨h1, h2⟩, h3⟩, h4⟩, h5⟩, h6⟩, h7⟩, h8⟩, h9⟩ := h
 refine ⟨h1, fun y hy e => ?_, fun y hy e => ?_, fun x hx => ?_, h5, h6, by simpa using h7, fun y hy e => ?_, fun y hy => ?_⟩
 ·have := List.all_eq_true.mp h2 y hy
  rw [e] at this; exact absurd this (by decide)
 ·have := List.all_eq_true.mp h3 y hy
  rw [e] at this
  simpa using this
 ·have := List.all_eq_true.mp h4 x hx
  simpa using this
 ·have := List.all_eq_true.mp h8 y hy
  rw [e] at this
  simpa using this
 ·have := List.all_eq_true.mp h9 y hy
  simpa using this
section
variable {prog : Program} {w : World} {A : Around} {mg mb : Str -> Option Value} {tab : List z0r} {ap : Addr} {c : TC} {env : Env} {W : List Nat} {ρ : List (Option D)} {κ : List D} {Y : Addr -> Prop}
theorem q1g {sc : Scope} {cn : List Str} {h h' : Heap} {C : Addr} {m : Str -> Option Value} {ks : List D} {vs : List Value} {Y' : Addr -> Prop} (X : CX c mg mb tab ap env W ρ κ Y h) (K : y1d c sc cn) (hx : Ext h h')
  (hn : h'.Ns C m) (hm : ∀ (i : Nat) (x : Str) (v : Value), cn[i]? = some x -> vs[i]? = some v -> m x = some v) (hl : vs.length = cn.length) (r : z0k h' Y' vs ks) (hy : ∀ a o, h.get? a = some o -> Y' a -> Y a) (hya : ∀ a, Y' a -> ∃ o, h'.get? a = some o) :
  CX { c with sc := sc, cn := cn } mg mb tab ap (compEnvC sc (z0i env sc.names []) C env) W ρ ks Y' h' where
 gi := X.gi.ext hx
 fns := X.fns
 kind := by show sc.kind = _; exact K.kind
 globals := X.globals
 builtins := X.builtins
 yb := hya
 glob := fun x hg => by
  unfold z1z at hg
  have hg' : sc.names.lookup x = some .globalImplicit := by simpa using hg
  show (relabel sc env).names.lookup x = _
  have := z1v (env := env) hg'
  simpa [relabel] using this
 vars := fun x i d hk hr => by
  unfold TC.look at hk
  dsimp only at hk
  cases hq : sc.names.lookup x with
  | none => rw [hq] at hk; cases hk
  | some k =>
   rw [hq] at hk
   cases k with
   | «local» =>
    simp only [K.ne, Bool.false_eq_true, if_false] at hk
    cases hi : List.idxOf? x cn with
    | none => rw [hi] at hk; cases hk
    | some j => rw [hi] at hk; cases hk
   | cell => simp [K.ne] at hk
   | free =>
    simp only [K.ne, Bool.false_or] at hk
    split at hk
    ·cases hk
    ·have hmem : (x, NameKind.free) ∈ sc.names := z1d hq
     have hc := K.free _ hmem rfl
     obtain ⟨hck, ⟨a, ha⟩, hcd⟩ := X.cells K.outer x hc
     have hlook : c.look x = some (.var i) := by
      unfold TC.look
      rw [hc]
      simp only [K.outer, if_true]
      exact hk
     obtain ⟨v, hv, hT, hR⟩ := X.vars x i d hlook hr
     have hv' : NV (compEnvC sc (z0i env sc.names []) C env) h' x v := by
      rcases hv with ⟨k1, _⟩ | ⟨_, a', ha', hcell⟩
      ·rw [hck] at k1; cases k1
      ·refine .inr ⟨?_, a', z3b ha' _ _ (.inl ⟨_, hmem, rfl⟩), hcell.keeps hx⟩
       have := z1v (env := env) hq
       by_cases hb : (NameKind.free == NameKind.free && env.scope.kind == .function && env.kindOf x == some .cell) = true
       ·rw [if_pos hb] at this; exact .inl this
       ·rw [if_neg hb] at this; exact .inr ⟨this, hcd⟩
     have mv : ∀ {vs : List Value} {ds : List D}, z0k h Y vs ds -> z0k h' Y' vs ds := fun r => r.move (fun _ _ _ e => hx _ _ e) hy
     refine ⟨v, hv', ?_, fun hw => mv (hR hw)⟩
     cases hT with
     | rep r => exact .rep (mv r)
     | list g b r => exact .list (hx _ _ g) b (mv r)
     | tup g b r => exact .tup (hx _ _ g) b (mv r)
   | globalExplicit => cases hk
   | globalImplicit => cases hk
 cvars := fun x j d hk hr => by
  unfold TC.look at hk
  dsimp only at hk
  cases hq : sc.names.lookup x with
  | none => rw [hq] at hk; cases hk
  | some k =>
   rw [hq] at hk
   cases k with
   | «local» =>
    simp only [K.ne, Bool.false_eq_true, if_false] at hk
    cases hi : List.idxOf? x cn with
    | none => rw [hi] at hk; cases hk
    | some j' =>
     rw [hi] at hk
     cases hk
     have hcj : cn[j]? = some x := by
      have := List.idxOf?_eq_some_iff.mp hi
      obtain ⟨h1, h2, h3⟩ := this
      rw [List.getElem?_eq_getElem h1, h2]
     obtain ⟨v, hv, q⟩ := r.at hr
     refine ⟨v, .inl ⟨?_, m, hn, hm j x v hcj hv⟩, q⟩
     have := z1v (env := env) hq
     show (relabel sc env).names.lookup x = _
     simpa [relabel] using this
   | cell => simp [K.ne] at hk
   | free =>
    simp only [K.ne, Bool.false_or] at hk
    split at hk
    ·cases hk
    ·cases hi : List.idxOf? x c.names with
     | none => rw [hi] at hk; cases hk
     | some j' => rw [hi] at hk; cases hk
   | globalExplicit => cases hk
   | globalImplicit => cases hk
 cells := fun he x _ => by
  have := K.ne
  dsimp only at he
  rw [this] at he; cases he
inductive CI (T : Heap -> Nat -> (Addr -> Prop) -> List Value -> Prop) (St : Nat -> Heap -> Prop) (src : (Addr -> Prop) -> Heap -> Prop) (Y' : Addr -> Prop) (D C : Addr) (L : Nat) (s₂ : Shared) (k : Nat) (s' : Shared) : Prop
 | mk (h : Heap) (tk : Nat) (m : Str -> Option Value) (ys : Array Value) (i : Nat) (e : s' = { s₂ with heap := h, toks := tk }) (hst : St i h) (hsrc : src Y' h) (hpl : h.PlainList D ys) (hT : T h i Y' ys.toList) (hns : h.Ns C m) (hi : i <= L)
  (hk : k = L + 1 - i) (hal : ∀ a, Y' a -> ∃ o, h.get? a = some o)
inductive CJ (cn : List Str) (ks : List D) (Y' : Addr -> Prop) (h₂ : Heap) (C : Addr) (s₂ : Shared) (vs : List Value) (j : Nat) (s' : Shared) : Prop
 | mk (h₃ : Heap) (tk₃ : Nat) (m₃ : Str -> Option Value) (e : s' = { s₂ with heap := h₃, toks := tk₃ }) (hk₃ : ∀ b o, b ≠ C -> h₂.get? b = some o -> h₃.get? b = some o) (hn₃ : h₃.Ns C m₃)
  (hm₃ : ∀ i' x v, i' < j -> cn[i']? = some x -> vs[i']? = some v -> m₃ x = some v) (hr₃ : z0k h₃ Y' vs ks) (hl₃ : vs.length = cn.length)
noncomputable def q3g (Z : Addr -> Prop) (s s' : Shared) : Prop := ∃ h tk, s' = { s with heap := h, toks := tk } /\ ∀ b o, ¬ Z b -> s.heap.get? b = some o -> h.get? b = some o
noncomputable def y5t (h : Heap) (a : Addr) : Prop := ∃ o, h.get? a = some o
theorem q7d {cn : List Str} {ks : List D} {Y' : Addr -> Prop} {h₂ : Heap} {C : Addr} {s₂ : Shared} {sc : Scope} {M : Model} {E : Value -> Shared -> Prop} (K : y1d c sc cn) (yc : Y' C) (vs : List Value) (j : Nat) (x : Str) (v : Value) (s' : Shared) (hxj : cn[j]? = some x) (hvj : vs[j]? = some v)
  (J : CJ cn ks Y' h₂ C s₂ vs j s') (Q : Unit -> Shared -> Prop) (hQ : ∀ s', CJ cn ks Y' h₂ C s₂ vs (j + 1) s' -> Q () s') : wpAny M A (storeName (compEnvC sc (z0i env sc.names []) C env) x v) Q E s' := by
 obtain ⟨h₃, tk₃, m₃, rfl, hk₃, hn₃, hm₃, hr₃, hl₃⟩ := J
 have hkl : (compEnvC sc (z0i env sc.names []) C env).kindOf x = some .local := by
  have := z1v (env := env) (K.cnl x (List.mem_of_getElem? hxj))
  show (relabel sc env).names.lookup x = _
  simpa [relabel] using this
 refine wpAny_storeName_local hkl (m := m₃) hn₃ (fun h₄ hn₄ hs₄ => hQ _ ?_) (by show ((relabel sc env).kind == .class || _) = false; show (sc.kind == .class || (sc.kind == .module && _)) = false; rw [K.kind]; rfl)
 refine ⟨h₄, _, _, rfl, fun b o hb e => (hs₄.2 b hb).trans (hk₃ b o hb e), hn₄, fun i' y u hi' hy' hu' => ?_, hr₃.move (fun a o ha e => (hs₄.2 a fun q => ha (q ▸ yc)).trans e) (fun _ _ _ q => q), hl₃⟩
 by_cases hij : i' = j
 ·subst hij
  cases hxj.symm.trans hy'
  cases hvj.symm.trans hu'
  exact if_pos rfl
 ·have hne : y ≠ x := fun q => by
   subst q
   exact hij ((List.getElem?_inj (List.getElem?_eq_some_iff.mp hy').1 K.nodup).mp (hy'.trans hxj.symm))
  exact (if_neg hne).trans (hm₃ i' y u (by exact o10 hi' hij) hy' hu')
section
variable {elt it tgt : Expr} {ifs : List Expr} {sc : Scope} {pos : Pos} {cn : List Str} {tt nm : Bool} {items : List D} {s₀ s₂ : Shared} {itv : Value} {E : Value -> Shared -> Prop} {Z : Addr -> Prop} {CX' : Addr -> List D -> (Addr -> Prop) -> Heap -> Prop}
 {T : Heap -> Nat -> (Addr -> Prop) -> List Value -> Prop}
theorem q1h {Y' fp wr : Addr -> Prop} {St : Nat -> Heap -> Prop} {src : (Addr -> Prop) -> Heap -> Prop} {B C : Addr} {Q : Fin -> Shared -> Prop} {k : Nat} {s' : Shared} (hh : A.handled = none) (K : y1d c sc cn) (ht : z1b tgt = some (cn, tt)) (hnm : nm = true \/ tt = true)
  (keep : ∀ h h' i Y' ys, T h i Y' ys -> (∀ a o, ¬ Y' a \/ y5t s₀.heap a -> h.get? a = some o -> h'.get? a = some o) -> T h' i Y' ys) (hlen : ∀ h i Y' ys, T h i Y' ys -> ys.length <= i) (hL : items.length <= LEN)
  (hop : ∀ h i Y' ys d, T h i Y' ys -> items[i]? = some d -> ∃ ks, z0u cn.length tt d = some ks)
  (cx : ∀ h i ys m vs ks, T h i Y' ys -> h.Ns C m -> (∀ (i : Nat) (x : Str) (v : Value), cn[i]? = some x -> vs[i]? = some v -> m x = some v) -> vs.length = cn.length -> z0k h Y' vs ks -> (∀ a, Y' a -> y5t h a) -> CX' C ks Y' h)
  (step : ∀ (ks : List D) (s' : Shared) (i : Nat) (d : D) (ys : List Value) (E : Value -> Shared -> Prop), items[i]? = some d -> z0u cn.length tt d = some ks -> T s'.heap i Y' ys -> CX' C ks Y' s'.heap ->
   wpAny (model prog w) A (forIn ifs true fun c r => if r = true then do let ok <- isTrue c (compEnvC sc (z0i env sc.names []) C env) (eval c (compEnvC sc (z0i env sc.names []) C env)); pure (ForInStep.yield ok) else pure (ForInStep.yield r))
    (fun ok s₁ => if ok = true then wpAny (model prog w) A (eval elt (compEnvC sc (z0i env sc.names []) C env)) (fun v s₃ => q3g Z s' s₃ /\ T s₃.heap (i + 1) Y' (ys ++ [v])) E s₁ else q3g Z s' s₁ /\ T s₁.heap (i + 1) Y' ys) E s')
  (I : ItS prog w A itv fp wr St src items nm) (yw : ∀ b, wr b -> Y' b) (yd : Y' B) (yc : Y' C) (dc : B ≠ C) (fd : ¬ fp B) (fc : ¬ fp C) (old : ∀ b, y5t s₀.heap b -> ¬ wr b /\ b ≠ B /\ b ≠ C) (fz : ∀ b, fp b -> ¬ Z b) (zd : ¬ Z B) (zc : ¬ Z C) (zy : ∀ b, Z b -> Y' b) (tl : ∀ h i ys, T h i Y' ys -> ∀ b, Z b -> y5t h b)
  (again : ∀ m s', m < k -> CI T St src Y' B C items.length s₂ m s' -> Q (.again (.compLoop (.ListComp elt [⟨tgt, it, ifs, 0⟩] sc pos) 0 itv (.ref B) (compEnvC sc (z0i env sc.names []) C env))) s')
  (done : ∀ h tk m n ys, h.Ns C m -> h.get? B = some { cls := .type "list", data := .seq ys.toArray n } -> T h items.length Y' ys -> Q (.done .next) { s₂ with heap := h, toks := tk })
  (J : CI T St src Y' B C items.length s₂ k s') :
  wpAny (model prog w) A (compTurn (.ListComp elt [⟨tgt, it, ifs, 0⟩] sc pos) 0 itv (.ref B) (compEnvC sc (z0i env sc.names []) C env)) Q E s' := by
 obtain ⟨h, tk, m, ys, i, rfl, hst, hsrc, hpl, hT, hns, hi, rfl, hal⟩ := J
 rw [compTurn_list]
 have wC : ¬ wr C := fun q => fc (I.wrfp C q)
 have wD : ¬ wr B := fun q => fd (I.wrfp B q)
 by_cases hlt : i < items.length
 ·have hd : items[i]? = some items[i] := List.getElem?_eq_getElem hlt
  obtain ⟨ks, hks⟩ := hop _ _ _ _ _ hT hd
  refine wpAny_bind (wpAny_standAt (wpAny_bind (wpAny_mono (I.item i _ items[i] _ tgt _ hd hst hsrc (fun a q => let ⟨_, e⟩ := hal a q; Heap.lt_size e) yw ?_) (fun r s₁ h₁' => ?_) fun _ _ e => e)))
  ·rcases z9d ht with ⟨h1, h2⟩ | h2
   ·exact .inl ⟨hnm.resolve_right fun q => by (rw [h1] at q; cases q), h2⟩
   ·exact .inr h2
  obtain ⟨v, rfl, hgoT⟩ := h₁'
  refine wpAny_bind (wpAny_mono hgoT (fun _ s₂' h₂' => ?_) fun _ _ e => e)
  obtain ⟨h₂, tk₂, rfl, hk₂, hst₂, hrv⟩ := h₂'
  refine wpAny_bind (z8h (Y := Y') (CJ cn ks Y' h₂ C s₂) hh ht hks hrv (fun vs h₃ hx₃ hr₃ hl₃ => ⟨h₃, tk₂, m, rfl, fun b o _ e => hx₃ b o e, (hns.at' fun o e => hk₂ C o wC e).keeps hx₃, fun i' x v hi' => absurd hi' (Nat.not_lt_zero _), hr₃, hl₃⟩) (fun vs j x v s' a b J Q hQ => q7d K yc vs j x v s' a b J Q hQ) ?_)
  rintro vs s' ⟨h₃, tk₃, m₃, rfl, hk₃, hn₃, hm₃, hr₃, hl₃⟩
  have up3 : ∀ b o, ¬ wr b -> b ≠ C -> h.get? b = some o -> h₃.get? b = some o := fun b o h1 h2 e => hk₃ b o h2 (hk₂ b o h1 e)
  have hst3 : St (i + 1) h₃ := I.frame _ _ _ hst₂ fun b o hb e => hk₃ b o (fun q => fc (q ▸ hb)) e
  have hal3 : ∀ a, Y' a -> y5t h₃ a := fun a q => by
   by_cases h1 : a = C
   ·subst h1; obtain ⟨o, _, _, e, _⟩ := hn₃; exact ⟨o, e⟩
   ·by_cases h2 : wr a
    ·exact I.live _ _ hst3 a h2
    ·obtain ⟨o, e⟩ := hal a q
     exact ⟨o, up3 a o h2 h1 e⟩
  have hsrc3 : src Y' h₃ := I.move _ _ _ _ hsrc (fun a o ha e => up3 a o (fun q => ha (yw a q)) (fun q => ha (q ▸ yc)) e) fun _ _ _ q => q
  have T3 := keep _ h₃ _ _ _ hT fun a o q e => up3 a o (fun z => q.elim (fun q => q (yw a z)) fun q => (old a q).1 z) (fun z => q.elim (fun q => q (z ▸ yc)) fun q => (old a q).2.2 z) e
  have hpl3 : h₃.PlainList B ys := hpl.at fun o e => up3 B o wD dc e
  refine wpAny_bind (wpAny_mono (step ks { s₂ with heap := h₃, toks := tk₃ } i _ ys.toList _ hd hks T3 (cx _ _ _ m₃ vs ks T3 hn₃ (fun i' x v hy' hu' => hm₃ i' x v (List.getElem?_eq_some_iff.mp hy').1 hy' hu') hl₃ hr₃ hal3)) (fun ok s₁ hok => ?_) fun _ _ e => e)
  cases ok with
  | false =>
   obtain ⟨⟨h₄, tk₄, rfl, hm4⟩, T4⟩ := hok
   refine wpAny_pure (again (items.length + 1 - (i + 1)) _ (by exact o12 hi) ⟨h₄, tk₄, m₃, ys, i + 1, rfl, I.frame _ _ _ hst3 fun b o hb e => hm4 b o (fz b hb) e, ?_, hpl3.at fun o e => hm4 B o zd e, T4, hn₃.at' fun o e => hm4 C o zc e, hlt, rfl, fun a q => ?_⟩)
   ·exact I.move _ _ _ _ hsrc3 (fun a o ha e => hm4 a o (fun z => ha (zy a z)) e) fun _ _ _ q => q
   ·by_cases z : Z a
    ·exact tl _ _ _ T4 a z
    ·obtain ⟨o, e⟩ := hal3 a q
     exact ⟨o, hm4 a o z e⟩
  | true =>
   refine wpAny_bind (wpAny_bind (wpAny_mono hok (fun x s₃ h₅' => ?_) fun _ _ e => e))
   obtain ⟨⟨h₅, tk₅, rfl, hm5⟩, T5⟩ := h₅'
   have hysz : ys.size <= sizeLine := Nat.le_trans (hlen _ _ _ _ T3) (Nat.le_trans hi (Nat.le_trans hL z5d))
   refine wpAny_bind (wpAny_list_append_plain (hsz := hysz) (hpl3.at fun o e => hm5 B o zd e) fun h₆ hl₆ hs₆ => wpAny_pure (wpAny_pure (again (items.length + 1 - (i + 1)) _ (by exact o12 hi) ?_)))
   have up6 : ∀ b o, b ≠ B -> ¬ Z b -> h₃.get? b = some o -> h₆.get? b = some o := fun b o h1 h2 e => (hs₆.2 b h1).trans (hm5 b o h2 e)
   refine ⟨h₆, tk₅, m₃, ys.push x, i + 1, rfl, I.frame _ _ _ hst3 fun b o hb e => up6 b o (fun q => fd (q ▸ hb)) (fz b hb) e, I.move _ _ _ _ hsrc3 (fun a o ha e => up6 a o (fun q => ha (q ▸ yd)) (fun z => ha (zy a z)) e) (fun _ _ _ q => q), hl₆, ?_, (hn₃.at' fun o e => hm5 C o zc e).sameBut hs₆ (Ne.symm dc), hlt, rfl, fun a q => ?_⟩
   ·rw [Array.toList_push]
    exact keep _ _ _ _ _ T5 fun a o q e => (hs₆.2 a (fun z => q.elim (fun q => q (z ▸ yd)) fun q => (old a q).2.1 z)).trans e
   ·by_cases h1 : a = B
    ·subst h1; obtain ⟨n, e⟩ := hl₆; exact ⟨_, e⟩
    ·by_cases z : Z a
     ·obtain ⟨o, e⟩ := tl _ _ _ T5 a z
      exact ⟨o, (hs₆.2 a h1).trans e⟩
     ·obtain ⟨o, e⟩ := hal3 a q
      exact ⟨o, up6 a o h1 z e⟩
 ·have hin : i = items.length := by exact o13 hi hlt
  subst hin
  refine wpAny_bind (wpAny_standAt (wpAny_bind (wpAny_mono (I.done _ _ hst) (fun r s₁ h₁' => ?_) fun _ _ e => e)))
  obtain ⟨rfl, h₂, tk₂, rfl, hk₂⟩ := h₁'
  obtain ⟨n, hpn⟩ := hpl
  exact wpAny_pure (done h₂ tk₂ m n ys.toList (hns.at' fun o e => hk₂ C o wC e) (by rw [Array.toArray_toList]; exact hk₂ B _ wD hpn) (keep _ _ _ _ _ hT fun a o q e => hk₂ a o (fun z => q.elim (fun q => q (yw a z)) fun q => (old a q).1 z) e))
theorem y7b {RR : Value -> Addr -> Result -> Shared -> Prop} (hh : A.handled = none) (K : y1d c sc cn) (ht : z1b tgt = some (cn, tt)) (hnm : nm = true \/ tt = true) (hY : ∀ a, Y a -> y5t s₀.heap a) (hZ : ∀ a, Z a -> Y a /\ a ≠ ap)
  (keep : ∀ h h' i Y' ys, T h i Y' ys -> (∀ a o, ¬ Y' a \/ y5t s₀.heap a -> h.get? a = some o -> h'.get? a = some o) -> T h' i Y' ys) (hlen : ∀ h i Y' ys, T h i Y' ys -> ys.length <= i) (hL : items.length <= LEN)
  (hop : ∀ h i Y' ys d, T h i Y' ys -> items[i]? = some d -> ∃ ks, z0u cn.length tt d = some ks)
  (cx : ∀ C h i Y' ys m vs ks, (∀ a, y5t s₀.heap a -> Y' a -> Y a) -> (∀ a, Y a -> Y' a) -> T h i Y' ys -> h.Ns C m -> (∀ (i : Nat) (x : Str) (v : Value), cn[i]? = some x -> vs[i]? = some v -> m x = some v) -> vs.length = cn.length -> z0k h Y' vs ks -> (∀ a, Y' a -> y5t h a) -> CX' C ks Y' h)
  (step : ∀ (C : Addr) (Y' : Addr -> Prop) (ks : List D) (s' : Shared) (i : Nat) (d : D) (ys : List Value) (E : Value -> Shared -> Prop), items[i]? = some d -> z0u cn.length tt d = some ks -> T s'.heap i Y' ys -> CX' C ks Y' s'.heap ->
   wpAny (model prog w) A (forIn ifs true fun c r => if r = true then do let ok <- isTrue c (compEnvC sc (z0i env sc.names []) C env) (eval c (compEnvC sc (z0i env sc.names []) C env)); pure (ForInStep.yield ok) else pure (ForInStep.yield r))
    (fun ok s₁ => if ok = true then wpAny (model prog w) A (eval elt (compEnvC sc (z0i env sc.names []) C env)) (fun v s₃ => q3g Z s' s₃ /\ T s₃.heap (i + 1) Y' (ys ++ [v])) E s₁ else q3g Z s' s₁ /\ T s₁.heap (i + 1) Y' ys) E s')
  (tl : ∀ h i Y' ys, T h i Y' ys -> ∀ b, Z b -> y5t h b) (init : ∀ h Y', Ext s₀.heap h -> T h 0 Y' []) (hx : Ext s₀.heap s₂.heap) (hit : z6u prog w A Y ap s₀.heap items nm itv s₂.heap)
  (hRR : ∀ (B C : Addr) (h' : Heap) (tk : Nat) (m' : Str -> Option Value) (ys : List Value) (n : Nat) (Y' : Addr -> Prop), s₂.heap.objs.size <= B -> s₂.heap.objs.size <= C -> B ≠ C -> h'.Ns C m' -> (∀ a, Y a \/ a = C -> Y' a) -> h'.get? B = some { cls := .type "list", data := .seq ys.toArray n } ->
   T h' items.length Y' ys -> RR (.ref B) C (.ok .next) { s₂ with heap := h', toks := tk }) :
  wpAny (model prog w) A (newList []) (fun acc s₃ => wpAny (model prog w) A (newFunctionEnv sc env.globals (z0i env sc.names []) [] env.qual none .none (some env)) (fun cenv s₄ =>
   codeAny (model prog w) A (.compStart (.ListComp elt [⟨tgt, it, ifs, 0⟩] sc pos) 0 itv acc { cenv with scope := relabel sc env }) (RR acc cenv.locals) s₄) E s₃) E s₂ := by
 obtain ⟨fp, wr, St, src, I, st0, src0, hwr, hfp⟩ := hit
 refine wpAny_newObj_type (wpAny_newFunctionEnv K.nocell (fun _ q => nomatch q) (fun h₁ hns₁ hsb₁ => ?_) K.kind)
 dsimp only at hns₁ hsb₁ ⊢
 have hsz2 : (s₂.heap.push { cls := .type "list", dict := none, data := .seq ([] : List Value).toArray }).objs.size = s₂.heap.objs.size + 1 := Heap.size_push ..
 have hD2 : (s₂.heap.push { cls := .type "list", dict := none, data := .seq ([] : List Value).toArray }).get? s₂.heap.objs.size = some { cls := .type "list", dict := none, data := .seq ([] : List Value).toArray } := Heap.get?_push_size _ rfl
 have hold2 : Ext s₂.heap (s₂.heap.push { cls := .type "list", dict := none, data := .seq ([] : List Value).toArray }) := Ext.push _ _
 generalize s₂.heap.push { cls := .type "list", dict := none, data := .seq ([] : List Value).toArray } = H2 at hns₁ hsb₁ hsz2 hD2 hold2 ⊢
 obtain ⟨B, hBb⟩ : ∃ B, s₂.heap.objs.size = B := ⟨_, rfl⟩
 obtain ⟨C, hCc⟩ : ∃ C, H2.objs.size = C := ⟨_, rfl⟩
 rw [hBb] at hD2 hsz2 hRR ⊢
 rw [hCc] at hns₁ hsb₁ hsz2 ⊢
 have dc : B ≠ C := by exact o7 hsz2
 have lt2 : ∀ b, y5t s₂.heap b -> b ≠ B /\ b ≠ C := fun b ⟨o, e⟩ => ⟨fun q => by subst q; have := ltN e; exact o9 this hBb, fun q => by subst q; have := ltN e; exact o8 this hsz2 hBb⟩
 have old2 : Ext s₂.heap h₁ := fun b o e => hsb₁.extBut b o (lt2 b ⟨o, e⟩).2 (Heap.get?_push_of_some _ (hold2 b o e))
 have old : ∀ b, y5t s₀.heap b -> ¬ wr b /\ b ≠ B /\ b ≠ C := fun b ⟨o, e⟩ => ⟨fun q => by have := (hwr b q).1; (rw [e] at this; cases this), lt2 b ⟨o, hx b o e⟩⟩
 have fl : ∀ b, fp b -> b ≠ B /\ b ≠ C := fun b q => lt2 b (hfp b q).1
 obtain ⟨Y', y0⟩ : ∃ Y' : Addr -> Prop, ∀ a, Y' a <-> (Y a \/ wr a \/ a = B \/ a = C) := ⟨_, fun _ => Iff.rfl⟩
 have yy : ∀ a, Y a -> Y' a := fun a q => (y0 a).mpr (.inl q)
 have yo : ∀ a, y5t s₂.heap a -> Y' a -> Y a \/ wr a := fun a l q => ((y0 a).mp q).imp_right fun q => q.resolve_right fun q => q.elim (lt2 a l).1 (lt2 a l).2
 have zs : ∀ a, Z a -> y5t s₀.heap a := fun a z => hY a (hZ a z).1
 have hacc : h₁.PlainList B #[] := ⟨0, hsb₁.extBut B _ dc (Heap.get?_push_of_some _ hD2)⟩
 have hst₁ : St 0 h₁ := I.frame 0 _ _ st0 fun b o _ e => old2 b o e
 have loop : ∀ s₃ : Shared, s₃ = { s₂ with heap := h₁, toks := s₂.toks + ([] : List (Str × Value)).length } ->
   codeAny (model prog w) A (.compLoop (.ListComp elt [⟨tgt, it, ifs, 0⟩] sc pos) 0 itv (.ref B) (compEnvC sc (z0i env sc.names []) C env)) (RR (.ref B) C) s₃ := by
  rintro s₃ rfl
  refine codeAny_loop rfl (CI T St src Y' B C items.length s₂) (fun k s' J => ?_) (items.length + 1) ⟨h₁, _, _, #[], 0, rfl, hst₁, ?_, hacc, init _ _ (fun b o e => old2 b o (hx b o e)), hns₁, Nat.zero_le _, rfl, fun a q => ?_⟩
  ·show wpAny _ A ((compTurn (.ListComp elt [⟨tgt, it, ifs, 0⟩] sc pos) 0 itv (.ref B) (compEnvC sc (z0i env sc.names []) C env)).onRaise (fun x => do noteFrame x (compEnvC sc (z0i env sc.names []) C env); theTreesLotGoes x)) _ _ _
   refine wpAny_noted (q1h hh K ht hnm keep hlen hL hop (fun h i ys m vs ks => cx C h i Y' ys m vs ks (fun a l q => (yo a (let ⟨o, e⟩ := l; ⟨o, hx a o e⟩) q).resolve_right (old a l).1) yy) (step C Y') I (fun b q => (y0 b).mpr (.inr (.inl q))) ((y0 B).mpr (.inr (.inr (.inl rfl)))) ((y0 C).mpr (.inr (.inr (.inr rfl)))) dc
    (fun q => (fl B q).1 rfl) (fun q => (fl C q).2 rfl) old (fun b q z => ?_) (fun z => (old B (zs B z)).2.1 rfl) (fun z => (old C (zs C z)).2.2 rfl) (fun b z => yy b (hZ b z).1) (fun h i ys => tl h i Y' ys) (fun m s' h1 h2 => ⟨rfl, m, h1, h2⟩)
    (fun h tk m n ys a b t => hRR B C h tk m ys n Y' (Nat.le_refl _) (by exact o14 hsz2) dc a (fun a q => q.elim (yy a) fun q => (y0 a).mpr (.inr (.inr (.inr q)))) b t) J)
   rcases (hfp b q).2 with q | q | q
   ·exact (old b (zs b z)).1 q
   ·exact q (hZ b z).1
   ·exact (hZ b z).2 q
  ·exact I.move _ _ _ _ src0 (fun a o _ e => old2 a o e) fun a o e q => yo a ⟨o, e⟩ q
  ·rcases (y0 a).mp q with q | q | q | q
   ·obtain ⟨o, e⟩ := hY a q
    exact ⟨o, old2 a o (hx a o e)⟩
   ·obtain ⟨_, o, e⟩ := hwr a q
    exact ⟨o, old2 a o e⟩
   ·subst q; obtain ⟨n, e⟩ := hacc; exact ⟨_, e⟩
   ·subst q; obtain ⟨o, _, _, e, _⟩ := hns₁; exact ⟨o, e⟩
 exact codeAny_compStart_list (loop _ rfl) (I.self 0 _ _ _ hst₁ (loop _ rfl))
end
inductive CT (Φ : Nat -> List D -> Option D) (ρ : List (Option D)) (nv : Nat) (tt : Bool) (mc me : ME) (items l : List D) (h₀ h : Heap) (i : Nat) (Y' : Addr -> Prop) (ys : List Value) : Prop
 | mk (x : Ext h₀ h) (done rest : List D) (g : z3n (z0u nv tt) (fun ks => ev Φ ρ mc ks) (fun ks => ev Φ ρ me ks) (items.drop i) = some rest) (e : done ++ rest = l) (r : z0k h Y' ys done) (n : done.length <= i)
theorem q0x {α : Type} {l : List α} {i : Nat} {d : α} (h : l[i]? = some d) : l.drop i = d :: l.drop (i + 1) := by
 obtain ⟨h1, rfl⟩ := List.getElem?_eq_some_iff.mp h
 exact List.drop_eq_getElem_cons h1
set_option tactic.hygienic true in
theorem y2a {o : D -> Option (List D)} {c f : List D -> Option D} {d : D} {r l : List D} (h : z3n o c f (d :: r) = some l) :
  ∃ ks, o d = some ks /\ ((c ks = some (.bool true) /\ E2 fun y l' => A3 (f ks = some y) (z3n o c f r = some l') (l = y :: l')) \/ (c ks = some (.bool false) /\ z3n o c f r = some l)) := by
 unfold z3n at h
 split at h
 ·cases h
 ·rename_i ks hk
  refine ⟨ks, hk, ?_⟩
  split at h
  ·rename_i hc
   split at h
   ·cases h
   ·rename_i y hy
    split at h
    ·cases h
    ·rename_i l' hl
     exact .inl ⟨hc, y, l', hy, hl, (Option.some.inj h).symm⟩
  ·rename_i hc; exact .inr ⟨hc, h⟩
  ·cases h
theorem y1z {Φ : Nat -> List D -> Option D} {elt it tgt : Expr} {ifs : List Expr} {sc : Scope} {pos : Pos} {cn : List Str} {tt nm : Bool} {me mc : ME} {items l : List D} {s₀ s₂ : Shared} {itv : Value}
  {RR : Value -> Addr -> Result -> Shared -> Prop} {E : Value -> Shared -> Prop} (hh : A.handled = none)
  (X : CX c mg mb tab ap env W ρ κ Y s₀.heap) (K : y1d c sc cn) (ht : z1b tgt = some (cn, tt)) (hnm : nm = true \/ tt = true)
  (hx : Ext s₀.heap s₂.heap) (hit : z6u prog w A Y ap s₀.heap items nm itv s₂.heap)
  (hgo : z3n (z0u cn.length tt) (fun ks => ev Φ ρ mc ks) (fun ks => ev Φ ρ me ks) items = some l) (hlen : items.length <= LEN)
  (helt : ∀ (env' : Env) (κ' : List D) (Y' : Addr -> Prop) (s' : Shared) (d : D), CX { c with sc := sc, cn := cn } mg mb tab ap env' W ρ κ' Y' s'.heap -> ev Φ ρ me κ' = some d -> EV (model prog w) A (eval elt env') s' (fun v h => Rep h Y' v d))
  (hcond : ∀ (env' : Env) (κ' : List D) (Y' : Addr -> Prop) (s' : Shared) (b : Bool), CX { c with sc := sc, cn := cn } mg mb tab ap env' W ρ κ' Y' s'.heap -> ev Φ ρ mc κ' = some (.bool b) ->
   EV (model prog w) A (forIn ifs true fun c r => if r = true then do let ok <- isTrue c env' (eval c env'); pure (ForInStep.yield ok) else pure (ForInStep.yield r)) s' (fun ok _ => ok = b))
  (hRR : ∀ (D C : Addr) (h' : Heap) (tk : Nat) (m' : Str -> Option Value), s₂.heap.objs.size <= D -> s₂.heap.objs.size <= C -> D ≠ C -> h'.Ns C m' -> Ext s₀.heap h' -> Rep h' (fun a => Y a \/ a = C) (.ref D) (.list l) ->
   RR (.ref D) C (.ok .next) { s₂ with heap := h', toks := tk }) :
  wpAny (model prog w) A (newList []) (fun acc s₃ => wpAny (model prog w) A (newFunctionEnv sc env.globals (z0i env sc.names []) [] env.qual none .none (some env)) (fun cenv s₄ =>
   codeAny (model prog w) A (.compStart (.ListComp elt [⟨tgt, it, ifs, 0⟩] sc pos) 0 itv acc { cenv with scope := relabel sc env }) (RR acc cenv.locals) s₄) E s₃) E s₂ := by
 refine y7b (Y := Y) (s₀ := s₀) (Z := fun _ => False) (T := CT Φ ρ cn.length tt mc me items l s₀.heap) (CX' := fun C ks Y' h => CX { c with sc := sc, cn := cn } mg mb tab ap (compEnvC sc (z0i env sc.names []) C env) W ρ ks Y' h) hh K ht hnm X.yb (fun a q => q.elim)
  ?_ (fun _ _ _ _ ⟨_, _, _, _, _, r, n⟩ => r.length ▸ n) hlen ?_ (fun C h i Y' ys m vs ks ho _ ⟨x, _, _, _, _, _, _⟩ hn hm hl hr hv => q1g X K x hn hm hl hr (fun a o e q => ho a ⟨o, e⟩ q) hv) ?_ (fun _ _ _ _ _ _ z => z.elim)
  (fun h Y' x => ⟨x, [], l, hgo, rfl, .nil, Nat.le_refl _⟩) hx hit ?_
 ·rintro h h' i Y' ys ⟨x, done, rest, g, e, r, n⟩ k
  exact ⟨fun b o e => k b o (.inr ⟨o, e⟩) (x b o e), done, rest, g, e, r.move (fun a o q e => k a o (.inl q) e) fun _ _ _ q => q, n⟩
 ·rintro h i Y' ys d ⟨x, done, rest, g, e, r, n⟩ hd
  rw [q0x hd] at g
  obtain ⟨ks, hk, _⟩ := y2a g
  exact ⟨ks, hk⟩
 ·rintro C Y' ks s' i d ys E' hd hks ⟨x, done, rest, g, e, r, n⟩ X'
  rw [q0x hd] at g
  obtain ⟨ks', hk, g⟩ := y2a g
  cases hks.symm.trans hk
  rcases g with ⟨hc, y, l', hy, hl, rfl⟩ | ⟨hc, hl⟩
  ·refine hcond _ _ _ _ true X' hc _ _ fun ok h₄ tk₄ hx4 hok => ?_
   subst hok
   refine helt _ _ _ _ y (X'.ext hx4) hy _ _ fun v h₅ tk₅ hx5 hr => ?_
   have hx5' : Ext s'.heap h₅ := hx4.trans hx5
   exact ⟨⟨h₅, tk₅, rfl, fun b o _ e => hx5' b o e⟩, x.trans hx5', done ++ [y], l', hl, by rw [List.append_assoc]; exact e, (r.ext hx5').append hr, by rw [List.length_append]; exact Nat.succ_le_succ n⟩
  ·refine hcond _ _ _ _ false X' hc _ _ fun ok h₄ tk₄ hx4 hok => ?_
   subst hok
   exact ⟨⟨h₄, tk₄, rfl, fun b o _ e => hx4 b o e⟩, x.trans hx4, done, rest, hl, e, r.ext hx4, Nat.le_succ_of_le n⟩
 ·rintro B C h' tk m' ys n Y' hB hC dc hn hy hg ⟨x, done, rest, g, e, r, hl⟩
  rw [List.drop_length] at g
  cases g
  rw [List.append_nil] at e
  subst e
  refine hRR B C h' tk m' hB hC dc hn x (.list (n := n) (fun q => q.elim (fun q => ?_) dc) hg (by rw [r.length]; exact Nat.le_trans hl hlen) (r.weak hy) .nil)
  obtain ⟨o, e⟩ := X.yb B q
  exact Nat.lt_irrefl _ (Nat.lt_of_lt_of_le (ltN (hx B o e)) hB)
end
end Mine
end
section
open PySem
namespace Mine
set_option genCtorIdx false
set_option genSizeOf false
open PyProof.Rows PySem.W
section
variable (prog : Program) (w : World) (mg mb : Str -> Option Value) (tab : List z0r) (ap : Addr) (Φ : Nat -> List D -> Option D) (lev : Nat)
noncomputable def z4k : Prop := ∀ (k : Nat) (ds : List D) (d : D) (x : Str), Φ k ds = some d -> (tab.map (·.name))[k]? = some x -> ∀ (A : Around) (s : Shared) (Y : Addr -> Prop) (vs : List Value) (a : Addr), z3o lev A ->
 GI mg mb tab ap s.heap -> (∀ a, Y a -> ∃ o, s.heap.get? a = some o) -> z0k s.heap Y vs ds -> mg x = some (.ref a) -> EV (model prog w) A (call (.ref a) vs) s (fun v h => Rep h Y v d)
structure Snd (c : TC) (e : Expr) (me : ME) (env : Env) (ρ : List (Option D)) (κ : List D) (W : List Nat) (Y : Addr -> Prop) (A : Around) (s : Shared) : Prop where
 E : ∀ d, okE W me = true -> ev Φ ρ me κ = some d -> EV (model prog w) A (eval e env) s (fun v h => Rep h Y v d /\ (y3i me = true -> z4m s v))
 U : ∀ d, okU W me = true -> ev Φ ρ me κ = some d -> EV (model prog w) A (eval e env) s (fun v h => z5w h Y v d)
 B : ∀ b, okB W me = true -> ev Φ ρ me κ = some (.bool b) -> EV (model prog w) A (isTrue e env (eval e env)) s (fun b' _ => b' = b)
noncomputable def y1c (n : Nat) : Prop := ∀ (c : TC) (e : Expr) (me : ME), trE n c e = some me -> ∀ (env : Env) (ρ : List (Option D)) (κ : List D) (W : List Nat) (Y : Addr -> Prop) (A : Around) (s : Shared), z3o lev A ->
 CX c mg mb tab ap env W ρ κ Y s.heap -> Snd prog w Φ c e me env ρ κ W Y A s
end
section
variable {prog : Program} {w : World} {mg mb : Str -> Option Value} {tab : List z0r} {ap : Addr} {Φ : Nat -> List D -> Option D} {lev : Nat}
variable {c : TC} {e : Expr} {me : ME} {env : Env} {ρ : List (Option D)} {κ : List D} {W : List Nat} {Y : Addr -> Prop} {A : Around} {s : Shared}
theorem q4n {b : Bool} (h : EV (model prog w) A (eval e env) s (fun v h => Rep h Y v (.bool b) /\ (y3i me = true -> z4m s v)))
  (hi : isTrue e env (eval e env) = (do let v <- eval e env; standAt e.pos; holding [v] (truthy v))) : EV (model prog w) A (isTrue e env (eval e env)) s (fun b' _ => b' = b) := fun E Q k => by
 rw [hi]
 refine wpAny_bind (h E _ fun v h tk hx hr => ?_)
 have := hr.1.bool_inv
 subst this
 exact wpAny_bind (wpAny_standAt (wpAny_holding (wpAny_truthy_bool (k b h tk hx rfl))))
theorem z1h (hi : isTrue e env (eval e env) = (do let v <- eval e env; standAt e.pos; holding [v] (truthy v))) (hv : ∀ i, me ≠ .var i) (hp : me ≠ .primes) (hn : ∀ a, me ≠ .not a) (ha : ∀ a b, me ≠ .and a b) (ho : ∀ a b, me ≠ .or a b)
  (h : ∀ d, okE W me = true -> ev Φ ρ me κ = some d -> EV (model prog w) A (eval e env) s (fun v h => Rep h Y v d /\ (y3i me = true -> z4m s v))) : Snd prog w Φ c e me env ρ κ W Y A s where
 E := h
 U := fun d hu hd => by
  rcases y9v hu with ⟨i, q⟩ | q | q
  ·exact absurd q (hv i)
  ·exact absurd q hp
  ·exact (h d q hd).mono fun v h _ p => .rep p.1
 B := fun b hb hd => by
  rcases y9y hb with ⟨a, q⟩ | ⟨a, b', q⟩ | ⟨a, b', q⟩ | q
  ·exact absurd q (hn a)
  ·exact absurd q (ha a b')
  ·exact absurd q (ho a b')
  ·exact q4n (h _ q hd) hi
set_option tactic.hygienic true in
theorem y2e {n : Nat} (ih : y1c prog w mg mb tab ap Φ lev n) (R : z3o lev A) {pos : Pos} : ∀ (es : List Expr) (ms : ME) (s : Shared) (ds : List D), z1c (trE n) c es = some ms -> CX c mg mb tab ap env W ρ κ Y s.heap -> okE W ms = true -> ev Φ ρ ms κ = some (.tup ds) ->
  EV (model prog w) A (spliced (backTo pos (starEach es env))) s (fun vs h => z0k h Y vs ds) := by
 intro es
 induction es with
 | nil =>
  intro ms s ds ht X hok he E Q k
  simp only [z1c] at ht
  cases ht
  simp only [ev] at he
  cases he
  exact Calls.spliced_nil (k [] s.heap s.toks (Ext.refl _) .nil)
 | cons e r ihr =>
  intro ms s ds ht X hok he E Q k
  unfold z1c at ht
  split at ht
  ·rename_i q; cases q
  ·cases ht
  ·rename_i e' r' hns heq
   obtain ⟨rfl, rfl⟩ := List.cons.inj heq
   split at ht
   ·cases ht
   ·rename_i m hm
    split at ht
    ·cases ht
    ·rename_i ms' hms
     cases ht
     have hok := z9y hok
     simp only [ev] at he
     split at he
     ·cases he
     ·rename_i d hd
      split at he
      ·rename_i ds' hds
       cases he
       have hst : starEach (e :: r) env = (false, eval e env) :: starEach r env := by
        cases e <;> first | rfl | exact (hns _ _ rfl).elim
       refine args_cons ?_ hst
       refine (ih c e m hm env ρ κ W Y A s R X).E d hok.1 hd E _ fun v h tk hx hr => ?_
       exact ihr ms' _ ds' hms (X.ext hx) hok.2 hds E _ fun vs h' tk' hx' hr' => k _ h' tk' (hx.trans hx') (.cons (hr.1.ext hx') hr')
      ·cases he
end
end Mine
end
section
open PySem
namespace Mine
open PyProof.Rows PySem.W
section
variable {prog : Program} {w : World} {mg mb : Str -> Option Value} {tab : List z0r} {ap : Addr} {Φ : Nat -> List D -> Option D} {lev : Nat}
variable {c : TC} {e : Expr} {me : ME} {env : Env} {ρ : List (Option D)} {κ : List D} {W : List Nat} {Y : Addr -> Prop} {A : Around} {s : Shared}
theorem ev_int {i : Int} : EV (model prog w) A (mkInt i) s fun v _ => ∃ t, v = .int i t := fun E Q k => wpAny_mkInt (k _ s.heap _ (Ext.refl _) ⟨_, rfl⟩)
theorem q4b {x y : Expr} {d1 d2 : D} {P1 P2 : Value -> Heap -> Prop} {t : Value -> Value -> Sem Value} {P : Value -> Heap -> Prop}
  (h1 : EV (model prog w) A (eval x env) s P1)
  (h2 : ∀ s', Ext s.heap s'.heap -> (∃ h tk, s' = { s with heap := h, toks := tk }) -> EV (model prog w) A (eval y env) s' P2)
  (m1 : ∀ v h h', Ext h h' -> P1 v h -> P1 v h')
  (h3 : ∀ s' u v, (∃ h tk, s' = { s with heap := h, toks := tk }) -> Ext s.heap s'.heap -> P1 u s'.heap -> P2 v s'.heap -> EV (model prog w) A (t u v) s' P) :
  ∀ (E : Value -> Shared -> Prop) (Q : Value -> Shared -> Prop), (∀ a h tk, Ext s.heap h -> P a h -> Q a { s with heap := h, toks := tk }) ->
   wpAny (model prog w) A (eval x env) (fun a s₁ => wpAny (model prog w) A (eval y env) (fun b s₂ => wpAny (model prog w) A (t a b) Q E s₂) E s₁) E s := fun E Q k =>
 h1 E _ fun u h tk hx p1 => h2 _ hx ⟨h, tk, rfl⟩ E _ fun v h' tk' hx' p2 => h3 _ u v ⟨h', tk', rfl⟩ (hx.trans hx') (m1 _ _ _ hx' p1) p2 E Q fun a h'' tk'' hx'' p => k a h'' tk'' ((hx.trans hx').trans hx'') p
set_option tactic.hygienic true in
theorem q1z {x : Str} {pos : Pos} (X : CX c mg mb tab ap env W ρ κ Y s.heap) (hd : (x == ("__debug__" : Str)) = false) (hl : c.look x = some me) : Snd prog w Φ c (.Name x pos) me env ρ κ W Y A s := by
 have look_kind : (∃ i, me = .var i) \/ (∃ j, me = .cvar j) := by
  unfold TC.look at hl
  split at hl
  ·split at hl
   ·obtain ⟨i, _, q⟩ := Option.map_eq_some_iff.mp hl; exact .inl ⟨i, q.symm⟩
   ·obtain ⟨i, _, q⟩ := Option.map_eq_some_iff.mp hl; exact .inr ⟨i, q.symm⟩
  ·split at hl
   ·obtain ⟨i, _, q⟩ := Option.map_eq_some_iff.mp hl; exact .inl ⟨i, q.symm⟩
   ·cases hl
  ·split at hl
   ·cases hl
   ·obtain ⟨i, _, q⟩ := Option.map_eq_some_iff.mp hl; exact .inl ⟨i, q.symm⟩
  ·cases hl
 have getv : ∀ i d, me = .var i -> ev Φ ρ me κ = some d -> ρ[i]? = some (some d) := fun i d q hv => by
  subst q
  simp only [ev] at hv
  split at hv
  ·rename_i d' hd'; cases hv; exact hd'
  ·cases hv
 have E' : ∀ d, okE W me = true -> ev Φ ρ me κ = some d -> EV (model prog w) A (eval (.Name x pos) env) s (fun v h => Rep h Y v d /\ (y3i me = true -> z4m s v)) := fun d ho hv => by
  rcases look_kind with ⟨i, q⟩ | ⟨j, q⟩
  ·obtain ⟨v, nv, _, hr⟩ := X.vars x i d (q ▸ hl) (getv i d q hv)
   subst q
   refine z3e X.kind nv hd ⟨hr ?_, fun z => ff z⟩
   have ho' : (!W.contains i) = true := ho
   simpa using ho'
  ·subst q
   obtain ⟨v, nv, hr⟩ := X.cvars x j d hl (by simpa [ev] using hv)
   exact z3e X.kind nv hd ⟨hr, fun z => ff z⟩
 refine ⟨E', fun d ho hv => ?_, fun b hb hv => ?_⟩
 ·rcases look_kind with ⟨i, q⟩ | ⟨j, q⟩
  ·obtain ⟨v, nv, hr, _⟩ := X.vars x i d (q ▸ hl) (getv i d q hv)
   exact z3e X.kind nv hd hr
  ·subst q
   obtain ⟨v, nv, hr⟩ := X.cvars x j d hl (by simpa [ev] using hv)
   exact z3e X.kind nv hd (.rep hr)
 ·refine q4n (E' _ ?_ hv) rfl
  rcases look_kind with ⟨i, q⟩ | ⟨j, q⟩ <;> subst q <;> exact hb
set_option tactic.hygienic true in
theorem q5l {n : Nat} (ih : y1c prog w mg mb tab ap Φ lev n) (R : z3o lev A) (X : CX c mg mb tab ap env W ρ κ Y s.heap) {l r : Expr} {op : Operator} {o : Op} {pos : Pos} {a b : ME}
  (ho : y3j op = some o) (ha : trE n c l = some a) (hb : trE n c r = some b) : Snd prog w Φ c (.BinOp l op r pos) (.bin o a b) env ρ κ W Y A s := by
 refine z1h rfl (by simp) (by simp) (by simp) (by simp) (by simp) fun d hok hv E Q k => ?_
 have hok := z9y hok
 simp only [ev] at hv
 split at hv
 ·cases hv
 ·rename_i x hx
  split at hv
  ·cases hv
  ·rename_i y hy
   refine wpAny_BinOp (q4b (d1 := x) (d2 := y) (P1 := fun v h => Rep h Y v x) (P2 := fun v h => Rep h Y v y) (((ih c l a ha env ρ κ W Y A s R X).E x hok.1 hx).mono fun _ _ _ p => p.1)
    (fun s' hxs _ => ((ih c r b hb env ρ κ W Y A s' R (X.ext hxs)).E y hok.2 hy).mono fun _ _ _ p => p.1) (fun _ _ _ hx r => r.ext hx)
    (P := fun v h => Rep h Y v d /\ (y3i (ME.bin o a b) = true -> z4m s v)) (fun s' u v hs' hxs ru rv => ?_) E Q k)
   obtain ⟨h', tk', rfl⟩ := hs'
   have hY : ∀ a, Y a -> a < h'.objs.size := (X.ext hxs).ylt
   have lift : ∀ v, z4m ({ s with heap := h', toks := tk' } : Shared) v -> z4m s v := fun v f => f.back hxs
   unfold y3f at hv
   split at hv
   ·rename_i i j
    obtain ⟨z, hz, rfl⟩ := Option.map_eq_some_iff.mp hv
    obtain ⟨t1, rfl⟩ := ru.int_inv
    obtain ⟨t2, rfl⟩ := rv.int_inv
    refine (y5k ho hz).mono fun v h _ ⟨t, e⟩ => ⟨e ▸ Rep.int _ _, fun z => ?_⟩
    obtain ⟨as, rfl⟩ := y6m z
    obtain ⟨_, q⟩ := y2s as _ hx
    cases q
   ·split at hv
    ·rename_i q
     cases hv
     rw [Bool.and_eq_true] at q
     have ho' : o = .add := by simpa using q.1
     subst ho'
     have hop : op = .Add := by cases op <;> simp [y3j] at ho ⊢
     subst hop
     exact (q0w ru rv hY (of_decide_eq_true q.2)).mono fun v h _ p => ⟨p.1, fun _ => lift v p.2⟩
    ·cases hv
   ·split at hv
    ·rename_i q
     cases hv
     simp only [Bool.and_eq_true, decide_eq_true_eq] at q
     have ho' : o = .mul := by simpa using q.1.1
     subst ho'
     have hop : op = .Mult := by cases op <;> simp [y3j] at ho ⊢
     subst hop
     obtain ⟨t2, rfl⟩ := rv.int_inv
     exact (q6t ru hY q.1.2 q.2).mono fun v h _ p => ⟨p.1, fun _ => lift v p.2⟩
    ·cases hv
   ·cases hv
end
end Mine
end
section
open PySem
namespace Mine
open PyProof.Rows PySem.W
section
variable {prog : Program} {w : World} {mg mb : Str -> Option Value} {tab : List z0r} {ap : Addr} {Φ : Nat -> List D -> Option D} {lev : Nat}
variable {c : TC} {e : Expr} {me : ME} {env : Env} {ρ : List (Option D)} {κ : List D} {W : List Nat} {Y : Addr -> Prop} {A : Around} {s : Shared} {n : Nat}
theorem z3o.cmp (R : z3o lev A) : A.units + 64 < cLine := by have := R.units; exact o549 this
theorem y9c {k : Const} {kk : Nat} {pos : Pos} (he : (match k with | .int i => some (ME.int i) | .none => some .none | .bool b => some (.bool b) | _ => none) = some me) : Snd prog w Φ c (.Constant k kk pos) me env ρ κ W Y A s := by
 refine z1h rfl ?_ ?_ ?_ ?_ ?_ fun d _ hv E Q k' => ?_
 all_goals first
  | (split at he <;> cases he <;> simp; done)
  | skip
 split at he
 ·cases he
  simp only [ev] at hv
  cases hv
  exact wpAny_Constant_int (k' _ s.heap _ (Ext.refl _) ⟨Rep.int _ _, fun q => ff q⟩)
 ·cases he
  simp only [ev] at hv
  cases hv
  exact wpAny_Constant_none (k' _ s.heap s.toks (Ext.refl _) ⟨Rep.none, fun q => ff q⟩)
 ·cases he
  simp only [ev] at hv
  cases hv
  exact wpAny_Constant_bool (k' _ s.heap s.toks (Ext.refl _) ⟨Rep.bool _, fun q => ff q⟩)
 ·cases he
set_option tactic.hygienic true in
theorem q5k (ih : y1c prog w mg mb tab ap Φ lev n) (R : z3o lev A) (X : CX c mg mb tab ap env W ρ κ Y s.heap) {l r : Expr} {op : CmpOp} {o : Cm} {pos : Pos} {a b : ME} (hm : behindInMarks op r = false)
  (ho : trCm op = some o) (ha : trE n c l = some a) (hb : trE n c r = some b) : Snd prog w Φ c (.Compare l [op] [r] pos) (.cmp o a b) env ρ κ W Y A s := by
 have core : ∀ (z : Bool), okU W a = true -> okU W b = true -> ev Φ ρ (.cmp o a b) κ = some (.bool z) -> ∀ (E : Value -> Shared -> Prop) (Q : Value -> Shared -> Prop), (∀ v h tk, Ext s.heap h -> v = .bool z -> Q v { s with heap := h, toks := tk }) ->
   wpAny (model prog w) A (eval l env) (fun a s₁ => wpAny (model prog w) A (eval r env) (fun b s₂ => wpAny (model prog w) A (compareOp op a b) Q E s₂) E s₁) E s := fun z h1 h2 hv E Q k => by
  simp only [ev] at hv
  split at hv
  ·cases hv
  ·rename_i x hx
   split at hv
   ·cases hv
   ·rename_i y hy
    obtain ⟨z', hz, q⟩ := Option.map_eq_some_iff.mp hv
    cases q
    exact q4b (d1 := x) (d2 := y) (P1 := fun v h => z5w h Y v x) (P2 := fun v h => z5w h Y v y) (P := fun v _ => v = .bool z) ((ih c l a ha env ρ κ W Y A s R X).U x h1 hx)
     (fun s' hxs _ => (ih c r b hb env ρ κ W Y A s' R (X.ext hxs)).U y h2 hy) (fun _ _ _ hx r => r.ext hx) (fun s' u v _ _ ru rv => ev_cmp ho ru rv hz R.cmp) E Q k
 have vb : ∀ d, ev Φ ρ (.cmp o a b) κ = some d -> ∃ z, d = .bool z := fun d hv => by
  simp only [ev] at hv
  split at hv
  ·cases hv
  ·split at hv
   ·cases hv
   ·obtain ⟨z, _, q⟩ := Option.map_eq_some_iff.mp hv; exact ⟨z, q.symm⟩
 have E' : ∀ d, okE W (.cmp o a b) = true -> ev Φ ρ (.cmp o a b) κ = some d -> EV (model prog w) A (eval (.Compare l [op] [r] pos) env) s (fun v h => Rep h Y v d /\ (y3i (.cmp o a b) = true -> z4m s v)) := fun d ho' hv E Q k => by
  obtain ⟨z, rfl⟩ := vb d hv
  have ho' := z9y ho'
  exact wpAny_Compare1 (core z ho'.1 ho'.2 hv E _ fun v h tk hx q => k v h tk hx ⟨q ▸ Rep.bool z, fun q => ff q⟩) hm
 refine ⟨E', fun d ho' hv => ?_, fun z ho' hv E Q k => ?_⟩
 ·exact (E' d ho' hv).mono fun _ _ _ p => .rep p.1
 ·have ho' := z9y ho'
  exact wpAny_isTrue_Compare1 (core z ho'.1 ho'.2 hv E _ fun v h tk hx q => by subst q; exact wpAny_truthy_bool (k z h tk hx rfl)) hm
set_option tactic.hygienic true in
theorem y1m (ih : y1c prog w mg mb tab ap Φ lev n) (R : z3o lev A) (X : CX c mg mb tab ap env W ρ κ Y s.heap) {l r : Expr} {neg : Bool} {pos : Pos} {a : ME} (hr : z7q r = true)
  (ha : trE n c l = some a) : Snd prog w Φ c (.Compare l [if neg then .IsNot else .Is] [r] pos) (if neg then .notN a else .isN a) env ρ κ W Y A s := by
 have hr' : ∃ k p, r = .Constant .none k p := by
  unfold z7q at hr
  split at hr
  ·exact ⟨_, _, rfl⟩
  ·cases hr
 obtain ⟨k0, p0, rfl⟩ := hr'
 have hev : ∀ d, ev Φ ρ (if neg then .notN a else .isN a) κ = some d -> ∃ x, ev Φ ρ a κ = some x /\ ((x = .none /\ d = .bool (!neg)) \/ (x ≠ .none /\ d = .bool neg)) := fun d hv => by
  cases neg <;> simp only [Bool.false_eq_true, if_false, if_true, ev] at hv <;> split at hv
  all_goals first
   | (cases hv; done)
   | skip
  all_goals rename_i h
  all_goals cases hv
  ·exact ⟨.none, h, .inl ⟨rfl, rfl⟩⟩
  ·rename_i x hne; exact ⟨x, by assumption, .inr ⟨fun q => by subst q; exact hne rfl, rfl⟩⟩
  ·exact ⟨.none, h, .inl ⟨rfl, rfl⟩⟩
  ·rename_i x hne; exact ⟨x, by assumption, .inr ⟨fun q => by subst q; exact hne rfl, rfl⟩⟩
 have core : ∀ (z : Bool), okE W a = true -> ev Φ ρ (if neg then .notN a else .isN a) κ = some (.bool z) -> ∀ (E : Value -> Shared -> Prop) (Q : Value -> Shared -> Prop), (∀ v h tk, Ext s.heap h -> v = .bool z -> Q v { s with heap := h, toks := tk }) ->
   wpAny (model prog w) A (eval l env) (fun a s₁ => wpAny (model prog w) A (eval (.Constant .none k0 p0) env) (fun b s₂ => wpAny (model prog w) A (compareOp (if neg then .IsNot else .Is) a b) Q E s₂) E s₁) E s := fun z ho hv E Q k => by
  obtain ⟨x, hx, hz⟩ := hev _ hv
  refine (ih c l a ha env ρ κ W Y A s R X).E x ho hx E _ fun v h tk hxt hrv => wpAny_Constant_none ?_
  rcases hz with ⟨rfl, q⟩ | ⟨hne, q⟩
  ·have : v = .none := hrv.1.none_inv
   subst this
   cases neg <;> cases q
   ·exact is_none (k _ h tk hxt rfl)
   ·exact isNot_none (k _ h tk hxt rfl)
  ·have : (v == Value.none) = false := by
    have := z5w.not_none (.rep hrv.1) hne
    simpa using this
   cases neg <;> cases q
   ·exact is_none (by rw [this]; exact k _ h tk hxt rfl)
   ·exact isNot_none (by rw [this]; exact k _ h tk hxt rfl)
 have okc : okE W (if neg then .notN a else .isN a) = okE W a := by cases neg <;> rfl
 have okc2 : okU W (if neg then .notN a else .isN a) = okE W a := by cases neg <;> rfl
 have okc3 : okB W (if neg then .notN a else .isN a) = okE W a := by cases neg <;> rfl
 have hf : y3i (if neg then .notN a else .isN a) = false := by cases neg <;> rfl
 have hm : behindInMarks (if neg then .IsNot else .Is) (.Constant .none k0 p0) = false := rfl
 have vb : ∀ d, ev Φ ρ (if neg then .notN a else .isN a) κ = some d -> ∃ z, d = .bool z := fun d hv => by
  obtain ⟨x, _, ⟨_, q⟩ | ⟨_, q⟩⟩ := hev _ hv <;> exact ⟨_, q⟩
 refine ⟨fun d ho hv E Q k => ?_, fun d ho hv E Q k => ?_, fun z ho hv E Q k => ?_⟩
 ·obtain ⟨z, rfl⟩ := vb d hv
  exact wpAny_Compare1 (core z (okc ▸ ho) hv E _ fun v h tk hx q => k v h tk hx ⟨q ▸ Rep.bool z, by simp [hf]⟩) hm
 ·obtain ⟨z, rfl⟩ := vb d hv
  exact wpAny_Compare1 (core z (okc2 ▸ ho) hv E _ fun v h tk hx q => k v h tk hx (.rep (q ▸ Rep.bool z))) hm
 ·exact wpAny_isTrue_Compare1 (core z (okc3 ▸ ho) hv E _ fun v h tk hx q => by subst q; exact wpAny_truthy_bool (k z h tk hx rfl)) hm
set_option tactic.hygienic true in
theorem q5g (ih : y1c prog w mg mb tab ap Φ lev n) (R : z3o lev A) (X : CX c mg mb tab ap env W ρ κ Y s.heap) {x : Expr} {pos : Pos} {a : ME} (ha : trE n c x = some a) :
  Snd prog w Φ c (.UnaryOp .USub x pos) (.neg a) env ρ κ W Y A s := by
 refine z1h rfl (by simp) (by simp) (by simp) (by simp) (by simp) fun d hok hv E Q k => ?_
 simp only [ev] at hv
 split at hv
 ·rename_i i hi
  cases hv
  refine wpAny_UnaryOp ((ih c x a ha env ρ κ W Y A s R X).E _ hok hi E _ fun v h tk hx hr => ?_)
  obtain ⟨t, rfl⟩ := hr.1.int_inv
  exact y6s E _ fun v' h' tk' hx' ⟨t', q⟩ => k v' h' tk' (hx.trans hx') ⟨q ▸ Rep.int _ _, fun q => ff q⟩
 ·cases hv
set_option tactic.hygienic true in
theorem q5f (ih : y1c prog w mg mb tab ap Φ lev n) (R : z3o lev A) (X : CX c mg mb tab ap env W ρ κ Y s.heap) {x : Expr} {pos : Pos} {a : ME} (ha : trE n c x = some a) :
  Snd prog w Φ c (.UnaryOp .Not x pos) (.not a) env ρ κ W Y A s where
 E := fun d ho _ => Bool.noConfusion (show false = true from ho)
 U := fun d ho _ => Bool.noConfusion (show false = true from ho)
 B := fun b ho hv E Q k => by
  simp only [ev] at hv
  split at hv
  ·rename_i b' hb
   cases hv
   exact wpAny_isTrue_Not ((ih c x a ha env ρ κ W Y A s R X).B b' ho hb E _ fun v h tk hx q => k _ h tk hx (by rw [q]))
  ·cases hv
set_option tactic.hygienic true in
theorem q5h (ih : y1c prog w mg mb tab ap Φ lev n) (R : z3o lev A) (X : CX c mg mb tab ap env W ρ κ Y s.heap) {t x y : Expr} {pos : Pos} {mt mx my : ME} (ht : trE n c t = some mt) (hx : trE n c x = some mx) (hy : trE n c y = some my) :
  Snd prog w Φ c (.IfExp t x y pos) (.ite mt mx my) env ρ κ W Y A s := by
 have E' : ∀ d, okE W (.ite mt mx my) = true -> ev Φ ρ (.ite mt mx my) κ = some d -> EV (model prog w) A (eval (.IfExp t x y pos) env) s (fun v h => Rep h Y v d /\ (y3i (.ite mt mx my) = true -> z4m s v)) := fun d ho hv E Q k => by
  have ho := and3 ho
  simp only [ev] at hv
  refine wpAny_IfExp ?_
  split at hv
  ·rename_i hb
   refine (ih c t mt ht env ρ κ W Y A s R X).B true ho.1.1 hb E _ fun b h tk hxt q => ?_
   subst q
   exact (ih c x mx hx env ρ κ W Y A _ R (X.ext hxt)).E d ho.1.2 hv E _ fun v h' tk' hx' p => k v h' tk' (hxt.trans hx') ⟨p.1, fun q => ff q⟩
  ·rename_i hb
   refine (ih c t mt ht env ρ κ W Y A s R X).B false ho.1.1 hb E _ fun b h tk hxt q => ?_
   subst q
   exact (ih c y my hy env ρ κ W Y A _ R (X.ext hxt)).E d ho.2 hv E _ fun v h' tk' hx' p => k v h' tk' (hxt.trans hx') ⟨p.1, fun q => ff q⟩
  ·cases hv
 exact ⟨E', fun d ho hv => (E' d ho hv).mono fun _ _ _ p => .rep p.1, fun b ho hv => Bool.noConfusion (show false = true from ho)⟩
set_option tactic.hygienic true in
theorem q5m (ih : y1c prog w mg mb tab ap Φ lev n) (R : z3o lev A) (X : CX c mg mb tab ap env W ρ κ Y s.heap) {x y : Expr} {pos : Pos} {mx my : ME} (hx : trE n c x = some mx) (hy : trE n c y = some my) :
  Snd prog w Φ c (.BoolOp .And [x, y] pos) (.and mx my) env ρ κ W Y A s := by
 have hev : ∀ d, ev Φ ρ (.and mx my) κ = some d -> (ev Φ ρ mx κ = some (.bool false) /\ d = .bool false) \/ (ev Φ ρ mx κ = some (.bool true) /\ ∃ b, ev Φ ρ my κ = some (.bool b) /\ d = .bool b) := fun d hv => by
  simp only [ev] at hv
  split at hv
  ·rename_i h1
   split at hv
   ·rename_i b h2; cases hv; exact .inr ⟨h1, b, h2, rfl⟩
   ·cases hv
  ·rename_i h1; cases hv; exact .inl ⟨h1, rfl⟩
  ·cases hv
 have E' : ∀ d, okE W (.and mx my) = true -> ev Φ ρ (.and mx my) κ = some d -> EV (model prog w) A (eval (.BoolOp .And [x, y] pos) env) s (fun v h => Rep h Y v d /\ (y3i (.and mx my) = true -> z4m s v)) := fun d ho hv E Q k => by
  have ho := z9y ho
  show wpAny _ A (boolOp pos .And [eval x env, eval y env]) Q E s
  unfold boolOp
  rcases hev d hv with ⟨h1, rfl⟩ | ⟨h1, b, h2, rfl⟩
  ·refine wpAny_bind ((ih c x mx hx env ρ κ W Y A s R X).E _ ho.1 h1 E _ fun v h tk hxt hr => ?_)
   have := hr.1.bool_inv
   subst this
   exact wpAny_bind (wpAny_standAt (wpAny_bind (wpAny_holding (wpAny_truthy_bool (wpAny_pure (k _ h tk hxt ⟨hr.1, fun q => ff q⟩))))))
  ·refine wpAny_bind ((ih c x mx hx env ρ κ W Y A s R X).E _ ho.1 h1 E _ fun v h tk hxt hr => ?_)
   have := hr.1.bool_inv
   subst this
   refine wpAny_bind (wpAny_standAt (wpAny_bind (wpAny_holding (wpAny_truthy_bool ?_))))
   show wpAny _ A (eval y env) Q E _
   exact (ih c y my hy env ρ κ W Y A _ R (X.ext hxt)).E _ ho.2 h2 E _ fun v' h' tk' hx' p => k v' h' tk' (hxt.trans hx') ⟨p.1, fun q => ff q⟩
 refine ⟨E', fun d ho hv => (E' d ho hv).mono fun _ _ _ p => .rep p.1, fun b ho hv E Q k => ?_⟩
 have ho := z9y ho
 refine wpAny_isTrue_BoolOp (wpAny_allTrue_And_cons ?_)
 rcases hev _ hv with ⟨h1, q⟩ | ⟨h1, b', h2, q⟩
 ·cases q
  refine (ih c x mx hx env ρ κ W Y A s R X).B _ ho.1 h1 E _ fun v h tk hxt q => ?_
  subst q
  exact k _ h tk hxt rfl
 ·cases q
  refine (ih c x mx hx env ρ κ W Y A s R X).B _ ho.1 h1 E _ fun v h tk hxt q => ?_
  subst q
  refine wpAny_allTrue_And_cons ((ih c y my hy env ρ κ W Y A _ R (X.ext hxt)).B _ ho.2 h2 E _ fun v' h' tk' hx' q => ?_)
  subst q
  cases v'
  ·exact k _ h' tk' (hxt.trans hx') rfl
  ·exact wpAny_allTrue_And_nil (k _ h' tk' (hxt.trans hx') rfl)
set_option tactic.hygienic true in
theorem snd_or (ih : y1c prog w mg mb tab ap Φ lev n) (R : z3o lev A) (X : CX c mg mb tab ap env W ρ κ Y s.heap) {x y : Expr} {pos : Pos} {mx my : ME} (hx : trE n c x = some mx) (hy : trE n c y = some my) :
  Snd prog w Φ c (.BoolOp .Or [x, y] pos) (.or mx my) env ρ κ W Y A s := by
 have hev : ∀ d, ev Φ ρ (.or mx my) κ = some d -> (ev Φ ρ mx κ = some (.bool true) /\ d = .bool true) \/ (ev Φ ρ mx κ = some (.bool false) /\ ∃ b, ev Φ ρ my κ = some (.bool b) /\ d = .bool b) := fun d hv => by
  simp only [ev] at hv
  split at hv
  ·rename_i h1
   split at hv
   ·rename_i b h2; cases hv; exact .inr ⟨h1, b, h2, rfl⟩
   ·cases hv
  ·rename_i h1; cases hv; exact .inl ⟨h1, rfl⟩
  ·cases hv
 have E' : ∀ d, okE W (.or mx my) = true -> ev Φ ρ (.or mx my) κ = some d -> EV (model prog w) A (eval (.BoolOp .Or [x, y] pos) env) s (fun v h => Rep h Y v d /\ (y3i (.or mx my) = true -> z4m s v)) := fun d ho hv E Q k => by
  have ho := z9y ho
  show wpAny _ A (boolOp pos .Or [eval x env, eval y env]) Q E s
  unfold boolOp
  rcases hev d hv with ⟨h1, rfl⟩ | ⟨h1, b, h2, rfl⟩
  ·refine wpAny_bind ((ih c x mx hx env ρ κ W Y A s R X).E _ ho.1 h1 E _ fun v h tk hxt hr => ?_)
   have := hr.1.bool_inv
   subst this
   exact wpAny_bind (wpAny_standAt (wpAny_bind (wpAny_holding (wpAny_truthy_bool (wpAny_pure (k _ h tk hxt ⟨hr.1, fun q => ff q⟩))))))
  ·refine wpAny_bind ((ih c x mx hx env ρ κ W Y A s R X).E _ ho.1 h1 E _ fun v h tk hxt hr => ?_)
   have := hr.1.bool_inv
   subst this
   refine wpAny_bind (wpAny_standAt (wpAny_bind (wpAny_holding (wpAny_truthy_bool ?_))))
   show wpAny _ A (eval y env) Q E _
   exact (ih c y my hy env ρ κ W Y A _ R (X.ext hxt)).E _ ho.2 h2 E _ fun v' h' tk' hx' p => k v' h' tk' (hxt.trans hx') ⟨p.1, fun q => ff q⟩
 refine ⟨E', fun d ho hv => (E' d ho hv).mono fun _ _ _ p => .rep p.1, fun b ho hv E Q k => ?_⟩
 have ho := z9y ho
 refine wpAny_isTrue_BoolOp (wpAny_allTrue_Or_cons ?_)
 rcases hev _ hv with ⟨h1, q⟩ | ⟨h1, b', h2, q⟩
 ·cases q
  refine (ih c x mx hx env ρ κ W Y A s R X).B _ ho.1 h1 E _ fun v h tk hxt q => ?_
  subst q
  exact k _ h tk hxt rfl
 ·cases q
  refine (ih c x mx hx env ρ κ W Y A s R X).B _ ho.1 h1 E _ fun v h tk hxt q => ?_
  subst q
  refine wpAny_allTrue_Or_cons ((ih c y my hy env ρ κ W Y A _ R (X.ext hxt)).B _ ho.2 h2 E _ fun v' h' tk' hx' q => ?_)
  subst q
  cases v'
  ·exact wpAny_allTrue_Or_nil (k _ h' tk' (hxt.trans hx') rfl)
  ·exact k _ h' tk' (hxt.trans hx') rfl
end
end Mine
end
section
open PySem
namespace Mine
open PyProof.Rows PySem.W
section
variable {prog : Program} {w : World} {mg mb : Str -> Option Value} {tab : List z0r} {ap : Addr} {Φ : Nat -> List D -> Option D} {lev : Nat}
variable {c : TC} {e : Expr} {me : ME} {env : Env} {ρ : List (Option D)} {κ : List D} {W : List Nat} {Y : Addr -> Prop} {A : Around} {s : Shared} {n : Nat}
theorem y6q {h : Heap} {tk : Nat} {v : Value} (f : z4m ({ s with heap := h, toks := tk } : Shared) v) (hx : Ext s.heap h) : z4m s v := f.back hx
set_option tactic.hygienic true in
theorem z8k (es : List Expr) : ∀ {ms : ME} {ds : List D}, z1c (trE n) c es = some ms -> ev Φ ρ ms κ = some (.tup ds) -> ds.length = es.length := by
 induction es with
 | nil => intro ms ds ht hv; simp only [z1c] at ht; cases ht; simp only [ev] at hv; cases hv; rfl
 | cons e r ihr =>
  intro ms ds ht hv
  unfold z1c at ht
  split at ht
  ·rename_i q; cases q
  ·cases ht
  ·rename_i e' r' hns heq
   obtain ⟨rfl, rfl⟩ := List.cons.inj heq
   split at ht
   ·cases ht
   ·rename_i m hm
    split at ht
    ·cases ht
    ·rename_i ms' hms
     cases ht
     simp only [ev] at hv
     split at hv
     ·cases hv
     ·split at hv
      ·rename_i d hd ds' hds'; cases hv; simp [ihr hms hds']
      ·cases hv
set_option tactic.hygienic true in
theorem q2a (ih : y1c prog w mg mb tab ap Φ lev n) (R : z3o lev A) (X : CX c mg mb tab ap env W ρ κ Y s.heap) {es : List Expr} {pos : Pos} {ms : ME} (ht : z1c (trE n) c es = some ms)
  (hlen : es.length <= 1000) : Snd prog w Φ c (.List es pos) (.list ms) env ρ κ W Y A s := by
 refine z1h rfl (by simp) (by simp) (by simp) (by simp) (by simp) fun d hok hv E Q k => ?_
 simp only [ev] at hv
 split at hv
 ·rename_i ds hds
  cases hv
  refine List_ (y2e ih R es ms s ds ht X hok hds E _ fun vs h tk hx r => ?_)
  have hl : vs.length <= LEN := by
   have h1 := r.length
   have h2 := z8k es ht hds
   have := z2v
   exact o550 this h1 h2 hlen
  exact y1v r (X.ext hx).ylt hl E _ fun v h' tk' hx' p => k v h' tk' (hx.trans hx') ⟨p.1, fun _ => ⟨_, p.2, z0o hx (get?_none_of_size (Nat.le_refl _))⟩⟩
 ·cases hv
set_option tactic.hygienic true in
theorem q5d (ih : y1c prog w mg mb tab ap Φ lev n) (R : z3o lev A) (X : CX c mg mb tab ap env W ρ κ Y s.heap) {es : List Expr} {kk : Nat} {pos : Pos} {ms : ME} (ht : z1c (trE n) c es = some ms)
  (hlen : es.length <= 1000) : Snd prog w Φ c (.Tuple es kk pos) (.tup ms) env ρ κ W Y A s := by
 refine z1h rfl (by simp) (by simp) (by simp) (by simp) (by simp) fun d hok hv E Q k => ?_
 simp only [ev] at hv
 split at hv
 ·rename_i ds hds
  cases hv
  refine Tuple_ (y2e ih R es ms s ds ht X hok hds E _ fun vs h tk hx r => ?_)
  have hl : vs.length <= LEN := by
   have h1 := r.length
   have h2 := z8k es ht hds
   have := z2v
   exact o550 this h1 h2 hlen
  exact y5j r (X.ext hx).ylt hl E _ fun v h' tk' hx' p => k v h' tk' (hx.trans hx') ⟨p, fun q => ff q⟩
 ·cases hv
theorem z5g {e : Expr} {env : Env} (hne : ∀ v p, e ≠ .Starred v p) {r : List Expr} : starEach (e :: r) env = (false, eval e env) :: starEach r env := by
 cases e <;> first | rfl | exact absurd rfl (hne _ _)
set_option tactic.hygienic true in
theorem z4v {f : TC -> Expr -> Option ME} {es : List Expr} {a r : ME} (ht : z1c f c es = some (.cons a r)) : E2 fun e es' => A4 (es = e :: es') ((∀ v p, e ≠ .Starred v p)) (f c e = some a) (z1c f c es' = some r) := by
 cases es with
 | nil => simp [z1c] at ht
 | cons e es' =>
  unfold z1c at ht
  split at ht
  ·cases ht
  ·cases ht
  ·rename_i e' r' hns heq
   obtain ⟨rfl, rfl⟩ := List.cons.inj heq
   split at ht
   ·cases ht
   ·split at ht
    ·cases ht
    ·rename_i hm _ _ hms
     cases ht
     exact ⟨e, es', rfl, fun v p q => by subst q; exact hns _ _ rfl, hm, hms⟩
set_option tactic.hygienic true in
theorem z8j {f : TC -> Expr -> Option ME} {es : List Expr} (ht : z1c f c es = some .nil) : es = [] := by
 cases es with
 | nil => rfl
 | cons e es' =>
  unfold z1c at ht
  split at ht
  ·rename_i q; cases q
  ·cases ht
  ·split at ht
   ·cases ht
   ·split at ht
    ·cases ht
    ·cases ht
set_option tactic.hygienic true in
theorem args_ok {pos : Pos} : ∀ (es : List Expr) {ms : ME}, z1c (trE n) c es = some ms -> (backTo pos (starEach es env)).any (·.1) = false := by
 intro es
 induction es with
 | nil => intro ms _; rfl
 | cons e r ihr =>
  intro ms ht
  unfold z1c at ht
  split at ht
  ·rename_i q; cases q
  ·cases ht
  ·rename_i e' r' hns heq
   obtain ⟨rfl, rfl⟩ := List.cons.inj heq
   split at ht
   ·cases ht
   ·split at ht
    ·cases ht
    ·rename_i hm _ _ hms
     rw [z5g fun v p q => by subst q; exact hns _ _ rfl]
     show (false || (backTo pos (starEach r env)).any (·.1)) = false
     rw [ihr hms]; rfl
theorem z5q {x : Str} {id : String} {pos p : Pos} {e : Expr} {r : List Expr} {Q : Value -> Shared -> Prop} {E : Value -> Shared -> Prop} (X : CX c mg mb tab ap env W ρ κ Y s.heap) (hg : z1z c x = true) (hd : (x == ("__debug__" : Str)) = false)
  (hb : q1n x = some (.builtin id)) (hst : starEach (e :: r) env = (false, eval e env) :: starEach r env) (hpl : (backTo pos (starEach r env)).any (·.1) = false)
  (h : wpAny (model prog w) A (spliced (backTo pos (starEach (e :: r) env))) (fun vs s₁ => wpAny (model prog w) A (call (.builtin id) vs) Q E s₁) E s) :
  wpAny (model prog w) A (eval (.Call (.Name x p) (e :: r) [] pos) env) Q E s := by
 obtain ⟨h1, h2⟩ := X.gi.bi x _ hb
 refine Call_ (Calls.Name_function_global X.kind (X.glob x hg) (Calls.loadGlobal_builtin (X.globals ▸ X.gi.g) h1 (X.builtins ▸ X.gi.b) h2 ?_) hd)
 exact callWith_builtin1 h hst hpl
theorem z5c {x : Str} {T : String} {pos p : Pos} {e : Expr} {r : List Expr} {Q : Value -> Shared -> Prop} {E : Value -> Shared -> Prop} (X : CX c mg mb tab ap env W ρ κ Y s.heap) (hg : z1z c x = true) (hd : (x == ("__debug__" : Str)) = false)
  (hb : q1n x = some (.type T)) (hst : starEach (e :: r) env = (false, eval e env) :: starEach r env) (hpl : (backTo pos (starEach r env)).any (·.1) = false)
  (h : wpAny (model prog w) A (spliced (backTo pos (starEach (e :: r) env))) (fun vs s₁ => wpAny (model prog w) A (call (.type T) vs) Q E s₁) E s) :
  wpAny (model prog w) A (eval (.Call (.Name x p) (e :: r) [] pos) env) Q E s := by
 obtain ⟨h1, h2⟩ := X.gi.bi x _ hb
 refine Call_ (Calls.Name_function_global X.kind (X.glob x hg) (Calls.loadGlobal_builtin (X.globals ▸ X.gi.g) h1 (X.builtins ▸ X.gi.b) h2 ?_) hd)
 rw [hst] at h ⊢
 exact PySem.callWith_type (by show (false || (backTo pos (starEach r env)).any (·.1)) = false; rw [hpl]; rfl) (Calls.evalArgs_plain h)
theorem y0x {x : Str} {a : Addr} {o : Obj} {fd : FuncData} {pos p : Pos} {e : Expr} {r : List Expr} {Q : Value -> Shared -> Prop} {E : Value -> Shared -> Prop} (X : CX c mg mb tab ap env W ρ κ Y s.heap) (hg : z1z c x = true) (hd : (x == ("__debug__" : Str)) = false)
  (hm : mg x = some (.ref a)) (hdat : o.data = .func fd) (hst : starEach (e :: r) env = (false, eval e env) :: starEach r env)
  (h : wpAny (model prog w) A (spliced (backTo pos (starEach (e :: r) env))) (fun vs s₁ => s₁.heap.get? a = some o /\ wpAny (model prog w) A (call (.ref a) vs) Q E s₁) E s) :
  wpAny (model prog w) A (eval (.Call (.Name x p) (e :: r) [] pos) env) Q E s := by
 refine Call_ (Calls.Name_function_global X.kind (X.glob x hg) (Calls.loadGlobal_global (X.globals ▸ X.gi.g) hm ?_) hd)
 exact callWith_def hdat h hst
set_option tactic.hygienic true in
theorem q2c (CO : z4k prog w mg mb tab ap Φ lev) (ih : y1c prog w mg mb tab ap Φ lev n) (R : z3o lev A) (X : CX c mg mb tab ap env W ρ κ Y s.heap) {x : Str} {p pos : Pos} {args : List Expr} (hd : (x == ("__debug__" : Str)) = false)
  (ht : z7w c x (z1c (trE n) c args) = some me) : Snd prog w Φ c (.Call (.Name x p) args [] pos) me env ρ κ W Y A s := by
 unfold z7w at ht
 split at ht
 ·rename_i hg
  have oneU : ∀ {a : ME} {d : D} {id : Value} {P : Value -> Heap -> Prop} {P' : Value -> Heap -> Prop}, z1c (trE n) c args = some (.cons a .nil) -> okU W a = true -> ev Φ ρ a κ = some d -> q1n x = some id ->
    (∀ h tk v, Ext s.heap h -> z5w h Y v d -> EV (model prog w) A (call id [v]) { s with heap := h, toks := tk } P) -> (∀ v h, P v h -> P' v h) -> ((∃ i, id = .builtin i) \/ (∃ i, id = .type i)) -> EV (model prog w) A (eval (.Call (.Name x p) args [] pos) env) s P' := by
   intro a d id P P' hl hu hv hb hc hp hk E Q k
   obtain ⟨e, es', rfl, hns, he, hl'⟩ := z4v hl
   have := z8j hl'
   subst this
   have key : wpAny (model prog w) A (spliced (backTo pos (starEach [e] env))) (fun vs s₁ => wpAny (model prog w) A (call id vs) Q E s₁) E s := by
    refine args_cons ((ih c e a he env ρ κ W Y A s R X).U d hu hv E _ fun v h tk hx r => args_nil ?_) (z5g hns)
    exact hc h tk v hx r E Q fun v' h' tk' hx' p => k v' h' tk' (hx.trans hx') (hp _ _ p)
   rcases hk with ⟨i, rfl⟩ | ⟨i, rfl⟩
   ·exact z5q X hg hd hb (z5g hns) rfl key
   ·exact z5c X hg hd hb (z5g hns) rfl key
  split at ht
  ·rename_i hx
   split at ht
   ·rename_i a hl
    cases ht
    refine z1h rfl (by simp) (by simp) (by simp) (by simp) (by simp) fun d hok hv => ?_
    simp only [ev] at hv
    split at hv
    ·rename_i i hi
     cases hv
     have hx' := beq_iff_eq.mp hx
     have hua : okE W a = true := hok
     intro E Q k
     obtain ⟨e, es', rfl, hns, he, hl'⟩ := z4v hl
     have := z8j hl'
     subst this
     refine z5q X hg hd (id := "abs") (by rw [hx']; rfl) (z5g hns) rfl ?_
     refine args_cons ((ih c e a he env ρ κ W Y A s R X).E _ hua hi E _ fun v h tk hxt r => args_nil ?_) (z5g hns)
     obtain ⟨t, rfl⟩ := r.1.int_inv
     exact ev_abs E Q fun v' h' tk' hx' ⟨t', q⟩ => k v' h' tk' (hxt.trans hx') ⟨q ▸ Rep.int _ _, fun q => ff q⟩
    ·cases hv
   ·cases ht
  split at ht
  ·rename_i _ hx
   split at ht
   ·rename_i a hl
    cases ht
    refine z1h rfl (by simp) (by simp) (by simp) (by simp) (by simp) fun d hok hv => ?_
    simp only [ev] at hv
    split at hv
    ·rename_i l hl2
     cases hv
     have hx' := beq_iff_eq.mp hx
     exact oneU hl hok hl2 (id := .builtin "len") (by rw [hx']; rfl) (fun h tk v _ r => ev_len r) (fun v h ⟨t, q⟩ => ⟨q ▸ Rep.int _ _, fun q => ff q⟩) (.inl ⟨_, rfl⟩)
    ·cases hv
   ·cases ht
  split at ht
  ·rename_i _ _ hx
   split at ht
   ·rename_i a hl
    cases ht
    refine z1h rfl (by simp) (by simp) (by simp) (by simp) (by simp) fun d hok hv => ?_
    simp only [ev] at hv
    split at hv
    ·rename_i l hl2
     cases hv
     have hx' := beq_iff_eq.mp hx
     refine oneU hl hok hl2 (id := .type "list") (by rw [hx']; rfl) (P := fun v h => Rep h Y v (.list l) /\ z4m s v) (fun h tk v hxt r => ?_) (fun v h q => ⟨q.1, fun _ => q.2⟩) (.inr ⟨_, rfl⟩)
     exact (q0u r (X.ext hxt).ylt).mono fun v' h' _ q => ⟨q.1, y6q q.2 hxt⟩
    ·cases hv
   ·cases ht
  split at ht
  ·rename_i _ _ _ hx
   split at ht
   ·rename_i a b hl
    cases ht
    refine z1h rfl (by simp) (by simp) (by simp) (by simp) (by simp) fun d hok hv => ?_
    have hok := z9y hok
    simp only [ev] at hv
    split at hv
    ·rename_i i hi
     split at hv
     ·rename_i j hj
      cases hv
      have hx' := beq_iff_eq.mp hx
      intro E Q k
      obtain ⟨e, es', rfl, hns, he, hl'⟩ := z4v hl
      obtain ⟨e2, es2, rfl, hns2, he2, hl2⟩ := z4v hl'
      have := z8j hl2
      subst this
      refine z5q X hg hd (id := "max") (by rw [hx']; rfl) (z5g hns) (by rw [z5g hns2]; rfl) ?_
      refine args_cons ((ih c e a he env ρ κ W Y A s R X).E _ hok.1 hi E _ fun v h tk hxt r => ?_) (z5g hns)
      refine args_cons ((ih c e2 b he2 env ρ κ W Y A _ R (X.ext hxt)).E _ hok.2 hj E _ fun v2 h2 tk2 hxt2 r2 => args_nil ?_) (z5g hns2)
      obtain ⟨t, rfl⟩ := r.1.int_inv
      obtain ⟨t2, rfl⟩ := r2.1.int_inv
      exact ev_max R.hh E Q fun v' h' tk' hx' ⟨t', q⟩ => k v' h' tk' ((hxt.trans hxt2).trans hx') ⟨q ▸ Rep.int _ _, fun q => ff q⟩
     ·cases hv
    ·cases hv
   ·cases ht
  ·split at ht
   ·rename_i a r hl
    obtain ⟨k, hk, rfl⟩ := Option.map_eq_some_iff.mp ht
    refine z1h rfl (by simp) (by simp) (by simp) (by simp) (by simp) fun d hok hv => ?_
    simp only [ev] at hv
    split at hv
    ·rename_i ds hds
     intro E Q kk
     obtain ⟨e, es', rfl, hns, he, hl'⟩ := z4v hl
     have hkx : (tab.map (·.name))[k]? = some x := by
      rw [<- X.fns]
      obtain ⟨h1, h2, h3⟩ := List.idxOf?_eq_some_iff.mp hk
      rw [List.getElem?_eq_getElem h1, h2]
     obtain ⟨di, hdi, hdn⟩ : ∃ di ∈ tab, di.name = x := by
      have := List.mem_of_getElem? hkx
      obtain ⟨di, h1, h2⟩ := List.mem_map.mp this
      exact ⟨di, h1, h2⟩
     obtain ⟨a', o, pm, cd, doc, h1, h2, h3, h4⟩ := X.gi.defs di hdi
     rw [hdn] at h1
     refine y0x X hg hd h1 h3 (z5g hns) ?_
     have hok' : okE W (.cons a r) = true := hok
     refine y2e ih R (e :: es') (.cons a r) s ds hl X hok' hds E _ fun vs h tk hx rr => ⟨hx _ _ h2, ?_⟩
     exact CO k ds d x hv hkx A _ Y vs a' R (X.gi.ext hx) (X.ext hx).yb rr h1 E Q fun v' h' tk' hx' p => kk v' h' tk' (hx.trans hx') ⟨p, fun q => ff q⟩
    ·cases hv
   ·cases ht
 ·cases ht
end
end Mine
end
section
open PySem
namespace Mine
open PyProof.Rows PySem.W
section
variable {prog : Program} {w : World} {mg mb : Str -> Option Value} {tab : List z0r} {ap : Addr} {Φ : Nat -> List D -> Option D} {lev : Nat}
variable {c : TC} {e : Expr} {me : ME} {env : Env} {ρ : List (Option D)} {κ : List D} {W : List Nat} {Y : Addr -> Prop} {A : Around} {s : Shared} {n : Nat}
theorem z1t {i : Expr} {o iv : Value} (hi : ∀ lo hi st p, i ≠ .Slice lo hi st p) : subscripted i false o iv = operate [o, iv] (getItem o iv) := by
 cases i <;> first | rfl | exact absurd rfl (hi _ _ _ _)
set_option tactic.hygienic true in
theorem q5i (ih : y1c prog w mg mb tab ap Φ lev n) (R : z3o lev A) (X : CX c mg mb tab ap env W ρ κ Y s.heap) {v i : Expr} {pos : Pos} {a b : ME} (hi : ∀ lo hi st p, i ≠ .Slice lo hi st p)
  (ha : trE n c v = some a) (hb : trE n c i = some b) : Snd prog w Φ c (.Subscript v i pos) (.idx a b) env ρ κ W Y A s := by
 refine z1h rfl (by simp) (by simp) (by simp) (by simp) (by simp) fun d hok hv E Q k => ?_
 have hok := z9y hok
 simp only [ev] at hv
 split at hv
 ·cases hv
 ·rename_i x hx
  split at hv
  ·cases hv
  ·rename_i l hl
   split at hv
   ·rename_i j hj
    refine Subscript_ ((ih c v a ha env ρ κ W Y A s R X).U x hok.1 hx E _ fun o h tk hxt r => ?_)
    refine (ih c i b hb env ρ κ W Y A _ R (X.ext hxt)).E _ hok.2 hj E _ fun iv h' tk' hxt' r' => ?_
    obtain ⟨t, rfl⟩ := r'.1.int_inv
    have r2 : z5w h' Y o x := r.ext hxt'
    have fin := z8x (prog := prog) (w := w) (A := A) (s := { s with heap := h', toks := tk' }) (t := t) r2 hl hv E Q fun v'' h'' tk'' hx'' p => k v'' h'' tk'' ((hxt.trans hxt').trans hx'') ⟨p, fun q => ff q⟩
    obtain ⟨a', ws, m, T, rfl, hg, _, _, hT⟩ := y9k r2 hl
    rcases hT with ⟨rfl, _⟩ | ⟨rfl, _⟩
    ·exact tail_any (T := "list") ⟨_, hg, rfl⟩ list_getitem_lookup fin (z1t hi)
    ·exact tail_any (T := "tuple") ⟨_, hg, rfl⟩ slot_tuple_getitem.lookup fin (z1t hi)
   ·cases hv
theorem z4t {v : Expr} {lo hi st : Option Expr} {p : Pos} {Y : Addr -> Prop} {l es : List D} {E : Value -> Shared -> Prop} {Q : Value -> Shared -> Prop} {vlo vhi vst : Option Int} {s₁ : Shared} {o : Value} (X : ∀ a, Y a -> ∃ q, s₁.heap.get? a = some q) (hx₁ : Ext s.heap s₁.heap) (hs₁ : ∃ h tk, s₁ = { s with heap := h, toks := tk })
  (r : z5w s₁.heap Y o (.list l)) (h0 : vst ≠ some 0)
  (hp : ∀ (h : Heap) (ws : List Value), z0k h Y ws l -> ∃ us, slicePick ws.toArray vlo vhi vst = us.toArray /\ z0k h Y us es)
  (hlo : ∀ s', Ext s₁.heap s'.heap -> (∃ h tk, s' = { s with heap := h, toks := tk }) -> ∀ Q : Value -> Shared -> Prop, (∀ v h tk, Ext s'.heap h -> IsPart v vlo -> Q v { s with heap := h, toks := tk }) -> wpAny (model prog w) A (evalPart lo env) Q E s')
  (hhi : ∀ s', Ext s₁.heap s'.heap -> (∃ h tk, s' = { s with heap := h, toks := tk }) -> ∀ Q : Value -> Shared -> Prop, (∀ v h tk, Ext s'.heap h -> IsPart v vhi -> Q v { s with heap := h, toks := tk }) -> wpAny (model prog w) A (evalPart hi env) Q E s')
  (hst : ∀ s', Ext s₁.heap s'.heap -> (∃ h tk, s' = { s with heap := h, toks := tk }) -> ∀ Q : Value -> Shared -> Prop, (∀ v h tk, Ext s'.heap h -> IsPart v vst -> Q v { s with heap := h, toks := tk }) -> wpAny (model prog w) A (evalPart st env) Q E s')
  (k : ∀ v h tk, Ext s.heap h -> Rep h Y v (.list es) /\ z4m s v -> Q v { s with heap := h, toks := tk }) :
  wpAny (model prog w) A (eval (.Slice lo hi st p) env) (fun i s₂ => wpAny (model prog w) A (subscriptTail v (.Slice lo hi st p) o i) Q E s₂) E s₁ := by
 refine wpAny_Slice (hlo s₁ (Ext.refl _) hs₁ _ fun v1 h1 tk1 x1 p1 => hhi _ x1 ⟨h1, tk1, rfl⟩ _ fun v2 h2 tk2 x2 p2 => hst _ (x1.trans x2) ⟨h2, tk2, rfl⟩ _ fun v3 h3 tk3 x3 p3 => ?_)
 have x13 : Ext s₁.heap h3 := (x1.trans x2).trans x3
 have hxp : Ext s₁.heap (h3.push { cls := .type "slice", data := .fields #[v1, v2, v3] }) := x13.push' _
 have r' : z5w (h3.push { cls := .type "slice", data := .fields #[v1, v2, v3] }) Y o (.list l) := r.ext hxp
 have hY : ∀ a, Y a -> a < (h3.push { cls := .type "slice", data := .fields #[v1, v2, v3] }).objs.size := fun a y => let ⟨q, e⟩ := X a y; Heap.lt_size (hxp a q e)
 have fin := q2x (prog := prog) (w := w) (A := A) (s := { s with heap := h3.push { cls := .type "slice", data := .fields #[v1, v2, v3] }, toks := tk3 }) r' hY (Heap.IsSliceOf.new ..) p1 p2 p3 h0 (fun ws q => hp _ ws q) E Q
  fun v'' h'' tk'' hx'' q => k v'' h'' tk'' ((hx₁.trans hxp).trans hx'') ⟨q.1, y6q q.2 (hx₁.trans hxp)⟩
 obtain ⟨a', ws, m, rfl, hg, _, _⟩ := r'.list_inv
 refine tail_any (T := "list") (ops := match st with | none => [.ref h3.objs.size, .ref a'] | some _ => [.ref a', .ref h3.objs.size]) ⟨_, hg, rfl⟩ list_getitem_lookup fin ?_
 cases st <;> rfl
theorem z5a {s₀ : Shared} {E : Value -> Shared -> Prop} : ∀ s', (∃ h tk, s' = { s₀ with heap := h, toks := tk }) -> ∀ Q : Value -> Shared -> Prop, (∀ v h tk, Ext s'.heap h -> IsPart v none -> Q v { s₀ with heap := h, toks := tk }) -> wpAny (model prog w) A (evalPart none env) Q E s' := by
 rintro s' ⟨h, tk, rfl⟩ Q k
 exact wpAny_pure (k _ h tk (Ext.refl _) .none)
theorem y3r {s₀ : Shared} {E : Value -> Shared -> Prop} (ih : y1c prog w mg mb tab ap Φ lev n) (R : z3o lev A) {i : Expr} {b : ME} {j : Int} (hb : trE n c i = some b) (hok : okE W b = true) (hj : ev Φ ρ b κ = some (.int j)) :
  ∀ s', CX c mg mb tab ap env W ρ κ Y s'.heap -> (∃ h tk, s' = { s₀ with heap := h, toks := tk }) -> ∀ Q : Value -> Shared -> Prop, (∀ v h tk, Ext s'.heap h -> IsPart v (some j) -> Q v { s₀ with heap := h, toks := tk }) -> wpAny (model prog w) A (evalPart (some i) env) Q E s' := by
 rintro s' X ⟨h, tk, rfl⟩ Q k
 refine (ih c i b hb env ρ κ W Y A _ R X).E _ hok hj E _ fun v h' tk' hx r => ?_
 obtain ⟨t, rfl⟩ := r.1.int_inv
 exact k _ h' tk' hx (.int _ _)
set_option tactic.hygienic true in
theorem q1y (ih : y1c prog w mg mb tab ap Φ lev n) (R : z3o lev A) (X : CX c mg mb tab ap env W ρ κ Y s.heap) {v u : Expr} {p pos : Pos} {a b : ME}
  (ha : trE n c v = some a) (hb : trE n c u = some b) : Snd prog w Φ c (.Subscript v (.Slice none (some u) none p) pos) (.upTo a b) env ρ κ W Y A s := by
 refine z1h rfl (by simp) (by simp) (by simp) (by simp) (by simp) fun d hok hv E Q k => ?_
 have hok := z9y hok
 simp only [ev] at hv
 split at hv
 ·rename_i l hl
  split at hv
  ·rename_i j hj
   split at hv
   ·rename_i h0
    cases hv
    refine Subscript_ ((ih c v a ha env ρ κ W Y A s R X).U _ hok.1 hl E _ fun o h tk hxt r => ?_)
    refine z4t (vlo := none) (vhi := some j) (vst := none) (es := l.take j.toNat) (Y := Y) (X.ext hxt).yb hxt ⟨h, tk, rfl⟩ r (by simp) (fun h ws q => ?_)
     (fun s' _ hs' => z5a s' hs') (fun s' hx' hs' => y3r ih R hb hok.2 hj s' (X.ext (hxt.trans hx')) hs') (fun s' _ hs' => z5a s' hs')
     fun v'' h'' tk'' hx'' q => k v'' h'' tk'' hx'' ⟨q.1, fun _ => q.2⟩
    refine ⟨ws.take j.toNat, ?_, q.take _⟩
    have e := slicePick_upto' ws.toArray j.toNat
    rw [Int.toNat_of_nonneg h0] at e
    rw [e]
   ·cases hv
  ·cases hv
 ·cases hv
set_option tactic.hygienic true in
theorem y9b (ih : y1c prog w mg mb tab ap Φ lev n) (R : z3o lev A) (X : CX c mg mb tab ap env W ρ κ Y s.heap) {v u : Expr} {p pos : Pos} {a b : ME}
  (ha : trE n c v = some a) (hb : trE n c u = some b) : Snd prog w Φ c (.Subscript v (.Slice (some u) none none p) pos) (.fromA a b) env ρ κ W Y A s := by
 refine z1h rfl (by simp) (by simp) (by simp) (by simp) (by simp) fun d hok hv E Q k => ?_
 have hok := z9y hok
 simp only [ev] at hv
 split at hv
 ·rename_i l hl
  split at hv
  ·rename_i j hj
   split at hv
   ·rename_i h0
    cases hv
    refine Subscript_ ((ih c v a ha env ρ κ W Y A s R X).U _ hok.1 hl E _ fun o h tk hxt r => ?_)
    refine z4t (vlo := some j) (vhi := none) (vst := none) (es := l.drop j.toNat) (Y := Y) (X.ext hxt).yb hxt ⟨h, tk, rfl⟩ r (by simp) (fun h ws q => ?_)
     (fun s' hx' hs' => y3r ih R hb hok.2 hj s' (X.ext (hxt.trans hx')) hs') (fun s' _ hs' => z5a s' hs') (fun s' _ hs' => z5a s' hs')
     fun v'' h'' tk'' hx'' q => k v'' h'' tk'' hx'' ⟨q.1, fun _ => q.2⟩
    refine ⟨ws.drop j.toNat, ?_, q.drop _⟩
    have e := slicePick_from' ws.toArray j.toNat
    rw [Int.toNat_of_nonneg h0] at e
    rw [e]
   ·cases hv
  ·cases hv
 ·cases hv
set_option tactic.hygienic true in
theorem q5e (ih : y1c prog w mg mb tab ap Φ lev n) (R : z3o lev A) (X : CX c mg mb tab ap env W ρ κ Y s.heap) {v : Expr} {p p1 p2 pos : Pos} {k1 : Nat} {a : ME}
  (ha : trE n c v = some a) : Snd prog w Φ c (.Subscript v (.Slice none none (some (.UnaryOp .USub (.Constant (.int 1) k1 p1) p2)) p) pos) (.rev a) env ρ κ W Y A s := by
 refine z1h rfl (by simp) (by simp) (by simp) (by simp) (by simp) fun d hok hv E Q k => ?_
 simp only [ev] at hv
 split at hv
 ·rename_i l hl
  cases hv
  refine Subscript_ ((ih c v a ha env ρ κ W Y A s R X).U _ hok hl E _ fun o h tk hxt r => ?_)
  refine z4t (vlo := none) (vhi := none) (vst := some (-1)) (es := l.reverse) (Y := Y) (X.ext hxt).yb hxt ⟨h, tk, rfl⟩ r (by simp) (fun h ws q => ⟨ws.reverse, ?_, q.reverse⟩)
   (fun s' _ hs' => z5a s' hs') (fun s' _ hs' => z5a s' hs') (fun s' _ hs' Q kq => ?_)
   fun v'' h'' tk'' hx'' q => k v'' h'' tk'' hx'' ⟨q.1, fun _ => q.2⟩
  ·rw [krv_pick]
  ·obtain ⟨h', tk', rfl⟩ := hs'
   show wpAny _ A (eval (.UnaryOp .USub (.Constant (.int 1) k1 p1) p2) env) Q E _
   exact wpAny_UnaryOp (wpAny_Constant_int (y6s E Q fun v' h' tk' hx' ⟨t', q⟩ => kq v' h' tk' hx' (by rw [q]; exact .int _ _)))
 ·cases hv
end
end Mine
end
section
open PySem
namespace Mine
open PyProof.Rows PySem.W
section
variable {prog : Program} {w : World} {mg mb : Str -> Option Value} {tab : List z0r} {ap : Addr} {Φ : Nat -> List D -> Option D} {lev : Nat}
variable {c : TC} {e : Expr} {me : ME} {env : Env} {ρ : List (Option D)} {κ : List D} {W : List Nat} {Y : Addr -> Prop} {A : Around} {s : Shared} {n : Nat}
theorem y7s (m i : Nat) (d : D) (h : (z2n m)[i]? = some d) : d = .int (0 + (i : Int) * 1) := by
 unfold z2n at h
 rw [List.getElem?_map] at h
 obtain ⟨x, hx, rfl⟩ := Option.map_eq_some_iff.mp h
 rw [List.getElem?_range (by have := (List.getElem?_eq_some_iff.mp hx).1; simpa using this)] at hx
 cases hx
 congr 1; exact o551
theorem q0y (m i : Nat) (d : D) (h : (z7c m)[i]? = some d) : d = .int ((m : Int) - 1 + (i : Int) * (-1)) := by
 unfold z7c at h
 rw [List.getElem?_map] at h
 obtain ⟨x, hx, rfl⟩ := Option.map_eq_some_iff.mp h
 rw [List.getElem?_range (by have := (List.getElem?_eq_some_iff.mp hx).1; simpa using this)] at hx
 cases hx
 congr 1; exact o552
theorem z5l {it : Expr} {mi : ME} (h : z4c (trE n) c it = some mi) (x : Value) : foldedSetIterable it env x = pure x := by
 cases it <;> first
  | rfl
  | exact z0a h
noncomputable def q3h (prog : Program) (w : World) (A : Around) (Y : Addr -> Prop) (ap : Addr) (env : Env) (s : Shared) (it : Expr) (items : List D) (nm : Bool) : Prop :=
 ∀ (E : Value -> Shared -> Prop) (Q : Value -> Shared -> Prop), (∀ v h tk, Ext s.heap h -> items.length <= LEN -> z6u prog w A Y ap s.heap items nm v h -> Q v { s with heap := h, toks := tk }) ->
   wpAny (model prog w) A (eval it env) (fun xv s₁ => wpAny (model prog w) A (pyIter xv) Q E s₁) E s
theorem y8d (ih : y1c prog w mg mb tab ap Φ lev n) (R : z3o lev A) (X : CX c mg mb tab ap env W ρ κ Y s.heap) {it : Expr} {mi : ME} {x : D} {items : List D}
  (ht : trE n c it = some mi) (hok : okE W mi = true) (hv : ev Φ ρ mi κ = some x) (hs : z7d x = some items) : q3h prog w A Y ap env s it items true := fun E Q k => by
 refine (ih c it mi ht env ρ κ W Y A s R X).E x hok hv E _ fun v h tk hx r => ?_
 cases x <;> simp [z7d] at hs
 ·subst hs
  obtain ⟨a, ws, m, rfl, hY, hg, hl, r1⟩ := r.1.list_inv
  exact q0l (h₀ := s.heap) (s := { s with heap := h, toks := tk }) R.hh r.1 hx E Q fun v' h' tk' hx' io => k v' h' tk' (hx.trans hx') (by rw [<- r1.length]; exact hl) io
 ·subst hs
  obtain ⟨a, ws, m, rfl, hY, hg, hl, r1⟩ := r.1.tup_inv
  exact y6k (h₀ := s.heap) (s := { s with heap := h, toks := tk }) R.hh (.inl hY) hg r1 hx E Q fun v' h' tk' hx' io => k v' h' tk' (hx.trans hx') (by rw [<- r1.length]; exact hl) io
noncomputable def y0m : ME -> Bool
 | .range _ | .down _ | .enum _ | .primes => false
 | _ => true
theorem y5b {x : Str} {mi : ME} (h : c.look x = some mi) : y0m mi = true := by
 unfold TC.look at h
 repeat' (first | (cases h; done) | (obtain ⟨_, _, rfl⟩ := Option.map_eq_some_iff.mp h; rfl) | split at h)
theorem y2d {x : Str} {as : Option ME} {mi : ME} (h : z7w c x as = some mi) : y0m mi = true := by
 unfold z7w at h
 repeat' (first | (cases h; done) | (cases h; rfl) | (obtain ⟨_, _, rfl⟩ := Option.map_eq_some_iff.mp h; rfl) | split at h)
theorem y7p {mi : ME} (h : trE n c e = some mi) : y0m mi = true := by
 cases n with
 | zero => exact z0a h
 | succ n =>
  have vw := z7v h
  clear h
  induction vw with
  | @const k kk p _ h => cases k <;> first | exact z0a h | (cases Option.some.inj h; rfl)
  | name hd h => exact y5b h
  | call hd h => exact y2d h
  | _ => rfl
theorem y7z {mi : ME} (h : y0m mi = true) (ho : okI W mi = true) : okE W mi = true := by
 rcases y9x ho with ⟨a, rfl⟩ | ⟨a, rfl⟩ | ⟨a, rfl⟩ | rfl | h'
 ·cases h
 ·cases h
 ·cases h
 ·cases h
 ·exact h'
theorem q0n {mi : ME} (h : y0m mi = true) : z9j mi = false := by
 cases mi <;> first | rfl | cases h
theorem y5d (R : z3o lev A) (X : CX c mg mb tab ap env W ρ κ Y s.heap) {x : D} {items : List D} {y : Str} {p : Pos} (hd : (y == ("__debug__" : Str)) = false) (hg : z1z c y = true) (hy : (y == ("_law_primes" : Str)) = true)
  (hv : ev Φ ρ .primes κ = some x) (hs : z7d x = some items) : q3h prog w A Y ap env s (.Name y p) items true := fun E Q k => by
 obtain ⟨h1, ws, m, h2, h3, h4⟩ := X.gi.primes
 have hy' := beq_iff_eq.mp hy
 subst hy'
 simp only [ev] at hv
 cases hv
 simp only [z7d] at hs
 cases hs
 refine Calls.Name_function_global X.kind (X.glob _ hg) (Calls.loadGlobal_global (X.globals ▸ X.gi.g) h1 ?_) hd
 exact y6k (h₀ := s.heap) R.hh (.inr rfl) h2 (h4 Y) (Ext.refl _) E Q fun v' h' tk' hx' io => k v' h' tk' hx' (by rw [z2v]; decide) io
set_option tactic.hygienic true in
theorem y7q {m : Nat} {n : Int} (hm : m = (n + 1).toNat) (h1 : -1000000 <= n) (h2 : n <= 1000000) : Builtin.Range.small n (-1) (-1) = true /\ Builtin.Range.rangeSize n (-1) (-1) = (m : Int) := by
 have e : Builtin.Range.rangeSize n (-1) (-1) = (m : Int) := by
  unfold Builtin.Range.rangeSize
  simp only [show ¬ ((-1 : Int) > 0) by decide, if_false, show (- -1 : Int) = 1 by decide, Int.ediv_one]
  split <;> rename_i q <;> (first | exact o618 hm q | exact o619 hm q)
 refine ⟨?_, e⟩
 unfold Builtin.Range.small
 rw [e]
 simp only [Builtin.Range.rangeFitsLong, Bool.and_eq_true, Bool.or_eq_true, decide_eq_true_eq, beq_iff_eq, show ¬ ((-1 : Int) > 0) by decide, if_false]
 exact o553 h1 hm h2
set_option tactic.hygienic true in
theorem z9z (ih : y1c prog w mg mb tab ap Φ lev n) (R : z3o lev A) (X : CX c mg mb tab ap env W ρ κ Y s.heap) {it : Expr} {mi : ME} {x : D} {items : List D}
  (ht : z4c (trE n) c it = some mi) (hok : okI W mi = true) (hv : ev Φ ρ mi κ = some x) (hs : z7d x = some items) : q3h prog w A Y ap env s it items (!z9j mi) := by
 have plain : trE n c it = some mi -> q3h prog w A Y ap env s it items (!z9j mi) := fun h => by
  have hn := y7p h
  rw [q0n hn]
  exact y8d ih R X h (y7z hn hok) hv hs
 have vw := y4n ht
 clear ht
 induction vw with
 | range hg hm =>
  rename_i f p1 p2 a m
  rw [Bool.and_eq_true] at hg
  have hf := beq_iff_eq.mp hg.2
  have hd : (f == ("__debug__" : Str)) = false := by rw [hf]; decide
  simp only [ev] at hv
  split at hv
  ·rename_i k hk
   split at hv
   ·rename_i hb
    cases hv
    simp only [z7d] at hs
    cases hs
    intro E Q kk
    have hns : ∀ v p, a ≠ .Starred v p := fun v p q => by
     subst q
     cases n <;> exact z0a hm
    refine z5c X hg.1 hd (T := "range") (by rw [hf]; rfl) (z5g hns) rfl ?_
    refine args_cons ((ih c a m hm env ρ κ W Y A s R X).E _ hok hk E _ fun v h tk hx r => args_nil ?_) (z5g hns)
    obtain ⟨t, rfl⟩ := r.1.int_inv
    refine call_range_1 ?_
    have hsz : (z2n k.toNat).length = k.toNat := by simp [z2n]
    refine y1u (h₀ := s.heap) (s := { s with heap := h.push { cls := .type "range", data := .fields #[.int 0 tk, .int k t, .int 1 (tk + 1)] }, toks := tk + 1 + 1 }) (a := 0) (b := k) (c := 1) (l := z2n k.toNat) R.hh (IsRange.new ..) (small_one (by exact Int.natCast_nonneg _) (by exact Int.natCast_nonneg _) (by exact o554 hb.1) (by exact o555 hb.2)) ?_ (fun i d q => y7s _ i d q) (hx.push' _) E Q
     fun v' h' tk' hx' io => kk v' h' tk' ((hx.push' _).trans hx') (by rw [hsz, z2v]; exact o556 hb.2) io
    rw [rangeSize_one, hsz]
    split <;> rename_i q <;> (first | exact o620 q | exact o621 q)
   ·cases hv
  ·cases hv
 | down hg hm =>
  rename_i f p1 p2 q1 q2 q3 q4 k1 k2 a m
  rw [Bool.and_eq_true] at hg
  have hf := beq_iff_eq.mp hg.2
  have hd : (f == ("__debug__" : Str)) = false := by rw [hf]; decide
  simp only [ev] at hv
  split at hv
  ·rename_i k hk
   split at hv
   ·rename_i hb
    cases hv
    simp only [z7d] at hs
    cases hs
    intro E Q kk
    have hns : ∀ v p, a ≠ .Starred v p := fun v p q => by
     subst q
     cases n <;> exact z0a hm
    refine z5c X hg.1 hd (T := "range") (by rw [hf]; rfl) (z5g hns) rfl ?_
    refine args_cons ((ih c a m hm env ρ κ W Y A s R X).E _ hok hk E _ fun v h tk hx r => ?_) (z5g hns)
    obtain ⟨t, rfl⟩ := r.1.int_inv
    refine args_cons (wpAny_UnaryOp (wpAny_Constant_int (y6s E _ fun v1 h1 tk1 hx1 ⟨t1, q1⟩ => ?_))) rfl
    refine args_cons (wpAny_UnaryOp (wpAny_Constant_int (y6s E _ fun v2 h2 tk2 hx2 ⟨t2, q2⟩ => args_nil ?_))) rfl
    subst q1 q2
    refine call_range_3 (by decide) ?_ (.inl (PyProof.noPylong_small (by decide)))
    have hxx : Ext s.heap h2 := (hx.trans hx1).trans hx2
    have hsz : (z7c (k + 1).toNat).length = (k + 1).toNat := by simp [z7c]
    obtain ⟨e1, e2⟩ := y7q (m := (k + 1).toNat) rfl hb.1 hb.2
    refine y1u (h₀ := s.heap) (s := { s with heap := h2.push { cls := .type "range", data := .fields #[.int k t, .int (-1) t1, .int (-1) t2] }, toks := tk2 }) (a := k) (b := -1) (c := -1) (l := z7c (k + 1).toNat) R.hh (IsRange.new ..) e1 ?_ (fun i d q => ?_) (hxx.push' _) E Q
     fun v' h' tk' hx' io => kk v' h' tk' ((hxx.push' _).trans hx') (by rw [hsz, z2v]; exact o557 hb.2) io
    ·rw [e2, hsz]
    ·rw [q0y _ i d q]
     have : i < (k + 1).toNat := by have := (List.getElem?_eq_some_iff.mp q).1; rw [hsz] at this; exact this
     congr 1; exact o558 this
   ·cases hv
  ·cases hv
 | enum hg hm =>
  rename_i f p1 p2 a m
  rw [Bool.and_eq_true] at hg
  have hf := beq_iff_eq.mp hg.2
  have hd : (f == ("__debug__" : Str)) = false := by rw [hf]; decide
  simp only [ev] at hv
  split at hv
  ·rename_i l hl
   cases hv
   simp only [z7d] at hs
   cases hs
   intro E Q kk
   have hns : ∀ v p, a ≠ .Starred v p := fun v p q => by
    subst q
    cases n <;> exact z0a hm
   refine z5c X hg.1 hd (T := "enumerate") (by rw [hf]; rfl) (z5g hns) rfl ?_
   refine args_cons ((ih c a m hm env ρ κ W Y A s R X).E _ hok hl E _ fun v h tk hx r => args_nil ?_) (z5g hns)
   obtain ⟨a', ws, mm, rfl, hY, hg', hlen, r1⟩ := r.1.list_inv
   refine call_enumerate_list (z1r hg') fun h' he hit hsz hx' => ?_
   have ha' := ltN hg'
   have n1 : h.get? (h.objs.size + 1) = none := get?_none_of_size (Nat.le_succ _)
   have n0 : h.get? h.objs.size = none := get?_none_of_size (Nat.le_refl _)
   refine q0m (h₀ := s.heap) (s := { s with heap := h', toks := tk }) (l := l) R.hh hY (hx' _ _ hg') hlen ((r1.fresh fun a q => ?_).ext hx') he hit (z0o hx n0) (z0o hx n1) ?_ ?_ ?_ E Q
    fun v' h'' tk' hx'' io => kk v' h'' tk' ((hx.trans hx').trans hx'') (by rw [z6p, <- r1.length]; exact hlen) io
   ·rcases q with q | q | q
    ·exact .inl q
    ·exact .inr (by rw [q]; exact Nat.le_succ _)
    ·exact .inr (by rw [q]; exact Nat.le_refl _)
   ·exact Nat.succ_ne_self _
   ·exact Nat.ne_of_lt ha'
   ·exact Nat.ne_of_lt (Nat.lt_succ_of_lt ha')
  ·cases hv
 | primes hq =>
  simp only [Bool.and_eq_true] at hq
  exact y5d R X (by simpa using hq.2) hq.1.1 hq.1.2 hv hs
 | plain _ h => exact plain h
theorem y6b (ih : y1c prog w mg mb tab ap Φ lev n) (R : z3o lev A) {c' : TC} {ifs : List Expr} {mc : ME} (hi : (ifs = [] /\ mc = .bool true) \/ (∃ t, ifs = [t] /\ trE n c' t = some mc)) (hok : okB W mc = true) :
  ∀ (env' : Env) (κ' : List D) (Y' : Addr -> Prop) (s' : Shared) (b : Bool), CX c' mg mb tab ap env' W ρ κ' Y' s'.heap -> ev Φ ρ mc κ' = some (.bool b) ->
   EV (model prog w) A (forIn ifs true fun c r => if r = true then do let ok <- isTrue c env' (eval c env'); pure (ForInStep.yield ok) else pure (ForInStep.yield r)) s' (fun ok _ => ok = b) := by
 intro env' κ' Y' s' b X hv E Q k
 rcases hi with ⟨rfl, rfl⟩ | ⟨t, rfl, ht⟩
 ·simp only [ev] at hv
  cases hv
  exact wpAny_tests_nil (k _ s'.heap s'.toks (Ext.refl _) rfl)
 ·exact wpAny_tests_one ((ih c' t mc ht env' ρ κ' W Y' A s' R X).B b hok hv E Q k)
theorem y1k {elt : Expr} {g : Comprehension} {sc : Scope} {pos : Pos} (h0 : g.is_async = 0) : eval (.ListComp elt [g] sc pos) env = comprehension (.ListComp elt [g] sc pos) sc env (firstIterPos [g] pos) (newList []) false (eval g.iter env) := by
 obtain ⟨t, i, f, a⟩ := g
 simp only at h0
 subst h0
 rfl
set_option tactic.hygienic true in
theorem q2b (ih : y1c prog w mg mb tab ap Φ lev n) (R : z3o lev A) (X : CX c mg mb tab ap env W ρ κ Y s.heap) {elt it tgt : Expr} {ifs : List Expr} {sc : Scope} {pos : Pos} {cn : List Str} {tt : Bool} {mi mt mc : ME}
  (htg : z1b tgt = some (cn, tt)) (hok' : z2f c sc cn = true) (htt : (tt == (cn.length != 1)) = true) (hmi : z4c (trE n) c it = some mi) (hme : trE n { c with sc := sc, cn := cn } elt = some mt)
  (hi : (ifs = [] /\ mc = .bool true) \/ (∃ t, ifs = [t] /\ trE n { c with sc := sc, cn := cn } t = some mc)) :
  Snd prog w Φ c (.ListComp elt [⟨tgt, it, ifs, 0⟩] sc pos) (.comp mt cn.length mi mc) env ρ κ W Y A s := by
 refine z1h rfl (by simp) (by simp) (by simp) (by simp) (by simp) fun d hok hv E Q k => ?_
 have hok := and4 hok
 obtain ⟨⟨⟨o1, o2⟩, o3⟩, o4⟩ := hok
 simp only [ev] at hv
 split at hv
 ·cases hv
 ·rename_i x hx
  split at hv
  ·cases hv
  ·rename_i items hs
   split at hv
   ·cases hv
   ·rename_i l hl
    cases hv
    have K := y0v hok'
    have htt' : tt = (cn.length != 1) := by simpa using htt
    rw [y1k rfl]
    have hnm : (!z9j mi) = true \/ tt = true := by
     rcases o4 with q | q
     ·right; rw [htt']; exact q
     ·left; exact q
    refine wpAny_comprehension_free (use := none) (cl := z0i env sc.names []) rfl (z5l hmi) (z5p fun y hy e => (X.cells K.outer y.1 (K.free y hy e)).2.1) K.kind K.locs ?_
    refine z9z ih R X hmi o2 hx hs E _ fun itv h₂ tk₂ hx₂ hlen hit => ?_
    refine y1z (s₀ := s) (s₂ := { s with heap := h₂, toks := tk₂ }) (RR := fun acc C => compPost (model prog w) A E none Q acc C) R.hh X K htg hnm hx₂ hit (htt' ▸ hl) hlen
     (fun env' κ' Y' s' d X' hd => ((ih _ elt mt hme env' ρ κ' W Y' A s' R X').E d o1 hd).mono fun _ _ _ p => p.1) (y6b ih R hi o3) ?_
    intro D C h' tk m' hD hC hDC hn hx' hr
    refine ⟨m', hn, fun h'' hs'' => k _ h'' tk (fun b o e => (hs''.2 b ?_).trans (hx' b o e)) ⟨?_, fun _ => ⟨D, rfl, ?_⟩⟩⟩
    ·intro q
     subst q
     have h1 := ltN (hx₂ b o e)
     exact absurd h1 (Nat.not_lt.mpr hC)
    ·exact z0k.move hr (fun a o ha e => (hs''.2 a fun q => ha (.inr q)).trans e) fun a o _ q => .inl q
    ·exact z0o hx₂ (get?_none_of_size hD)
theorem y1f (CO : z4k prog w mg mb tab ap Φ lev) : ∀ n, y1c prog w mg mb tab ap Φ lev n
 | 0 => fun c e me h => z0a h
 | n + 1 => fun c e me h env ρ κ W Y A s R X => by
  have ih := y1f CO n
  have vw := z7v h
  clear h
  induction vw with
  | const hq => exact y9c hq
  | name hd hq => exact q1z X (by simpa using hd) hq
  | bin ho ha hb => exact q5l ih R X ho ha hb
  | neg ha => exact q5g ih R X ha
  | not ha => exact q5f ih R X ha
  | isn hn ha => exact y1m (neg := false) ih R X hn ha
  | notn hn ha => exact y1m (neg := true) ih R X hn ha
  | cmp hm ho ha hb => exact q5k ih R X (by simpa using hm) ho ha hb
  | and ha hb => exact q5m ih R X ha hb
  | or ha hb => exact snd_or ih R X ha hb
  | ite ht ha hb => exact q5h ih R X ht ha hb
  | call hd hq => exact q2c CO ih R X (by simpa using hd) hq
  | upTo ha hb => exact q1y ih R X ha hb
  | fromA ha hb => exact y9b ih R X ha hb
  | rev ha => exact q5e ih R X ha
  | idx hns ha hb => exact q5i ih R X hns ha hb
  | list hl hq => exact q2a ih R X hq hl
  | tup hl hq => exact q5d ih R X hq hl
  | comp htg h1 h2 hmi hmt hc => exact q2b ih R X htg h1 h2 hmi hmt hc
end
end Mine
end
section
open PySem
namespace Mine
set_option genCtorIdx false
set_option genSizeOf false
open PyProof.Rows PySem.W
section
variable {h : Heap} {Y : Addr -> Prop}
theorem z0k.det {vs : List Value} {ds : List D} (r : z0k h Y vs ds) : ∀ {es : List D}, z0k h Y vs es -> ds = es := by
 induction r with
 | nil => intro es q; cases q; rfl
 | int _ ih => intro es q; cases q with | int q => rw [ih q]
 | bool _ ih => intro es q; cases q with | bool q => rw [ih q]
 | none _ ih => intro es q; cases q with | none q => rw [ih q]
 | list _ hg _ _ _ i1 i2 =>
  intro es q
  cases q with
  | list _ hg' _ q1 q2 =>
   rw [hg] at hg'
   have e := congrArg (fun o : Option Obj => o.map (·.data)) hg'
   simp at e
   obtain ⟨rfl, _⟩ := e
   rw [i1 q1, i2 q2]
  | tup _ hg' _ q1 q2 =>
   rw [hg] at hg'
   have e := congrArg (fun o : Option Obj => o.map (·.cls)) hg'
   simp at e
 | tup _ hg _ _ _ i1 i2 =>
  intro es q
  cases q with
  | tup _ hg' _ q1 q2 =>
   rw [hg] at hg'
   have e := congrArg (fun o : Option Obj => o.map (·.data)) hg'
   simp at e
   obtain ⟨rfl, _⟩ := e
   rw [i1 q1, i2 q2]
  | list _ hg' _ q1 q2 =>
   rw [hg] at hg'
   have e := congrArg (fun o : Option Obj => o.map (·.cls)) hg'
   simp at e
theorem z0k.off {a : Addr} {d : D} (ra : Rep h Y (.ref a) d) {vs : List Value} {ds : List D} (r : z0k h Y vs ds) (hs : sizeOf ds < sizeOf d + 2) : z0k h (fun b => Y b \/ b = a) vs ds := by
 induction r with
 | nil => exact .nil
 | int _ ih => exact .int (ih (by simp at hs; exact o559 hs))
 | bool _ ih => exact .bool (ih (by simp at hs; exact o560 hs))
 | none _ ih => exact .none (ih (by simp at hs; exact o561 hs))
 | @list b ws es n vs ds hb hg hl r1 r2 i1 i2 =>
  simp at hs
  refine .list ?_ hg hl (i1 (by exact o562 hs)) (i2 (by exact o559 hs))
  rintro (q | rfl)
  ·exact hb q
  ·have := z0k.det ra (.list hb hg hl r1 .nil)
   have := (List.cons.inj this).1
   subst this
   have e := D.list.sizeOf_spec es
   have e1 : 1 <= sizeOf ds := by cases ds <;> simp <;> exact o563
   exact o564 hs e1 e
 | @tup b ws es n vs ds hb hg hl r1 r2 i1 i2 =>
  simp at hs
  refine .tup ?_ hg hl (i1 (by exact o562 hs)) (i2 (by exact o559 hs))
  rintro (q | rfl)
  ·exact hb q
  ·have := z0k.det ra (.tup hb hg hl r1 .nil)
   have := (List.cons.inj this).1
   subst this
   have e := D.tup.sizeOf_spec es
   have e1 : 1 <= sizeOf ds := by cases ds <;> simp <;> exact o563
   exact o564 hs e1 e
end
structure FS (c : TC) (mg mb : Str -> Option Value) (tab : List z0r) (ap : Addr) (env : Env) (h₀ : Heap) (Yc : Addr -> Prop) : Prop where
 gi : GI mg mb tab ap h₀
 fns : c.fns = tab.map (·.name)
 cn : c.cn = []
 sc : env.scope = c.sc
 kind : c.sc.kind = .function
 globals : env.globals = mainGlobals
 builtins : env.builtins = builtinsNs
 nodup : c.names.Nodup
 names : ∀ x ∈ c.names, c.sc.names.lookup x = some .local \/ (c.sc.names.lookup x = some .cell /\ ∃ a, env.cells.lookup x = some a)
 cells : ∀ x, c.sc.names.lookup x = some .cell -> (∃ a, env.cells.lookup x = some a) /\ (x == ("__classdict__" : Str)) = false
 yc : ∀ a, Yc a -> ∃ o, h₀.get? a = some o
 ap : ∃ o, h₀.get? ap = some o
noncomputable def z6w (c : TC) (m cm : Str -> Option Value) (x : Str) : Option Value := if c.sc.names.lookup x = some .cell then cm x else m x
structure INV (c : TC) (env : Env) (W : List Nat) (h₀ : Heap) (Yc X Y : Addr -> Prop) (ρ : List (Option D)) (h : Heap) (m cm : Str -> Option Value) : Prop where
 keep : Ext h₀ h
 xy : ∀ a, X a -> Y a
 ya : ∀ a, Y a -> ∃ o, h.get? a = some o
 yc : ∀ a, Yc a -> Y a
 xn : ∀ a, X a -> h₀.get? a = none
 ns : h.Ns env.locals m
 lx : X env.locals
 cell : ∀ x a, env.cells.lookup x = some a -> h.IsCell a (cm x) /\ X a /\ a ≠ env.locals
 apart : ∀ x y a, env.cells.lookup x = some a -> env.cells.lookup y = some a -> x = y
 slot : ∀ (i : Nat) (x : Str) (d : D), c.names[i]? = some x -> ρ[i]? = some (some d) -> ∃ v, z6w c m cm x = some v /\ (W.contains i = false -> Rep h Y v d) /\
  (W.contains i = true -> E4 fun a ws n es => A7 (v = .ref a) (d = .list es) (h.get? a = some { cls := .type "list", data := .seq ws.toArray n }) (ws.length <= LEN) (z0k h Y ws es) (X a) (a ≠ env.locals /\ (∀ y b, env.cells.lookup y = some b -> a ≠ b)))
 apartW : ∀ (i j : Nat) (x y : Str) (d e : D) (a : Addr), c.names[i]? = some x -> c.names[j]? = some y -> W.contains i = true -> W.contains j = true -> ρ[i]? = some (some d) -> ρ[j]? = some (some e) -> z6w c m cm x = some (.ref a) -> z6w c m cm y = some (.ref a) -> i = j
section
variable {c : TC} {mg mb : Str -> Option Value} {tab : List z0r} {ap : Addr} {env : Env} {W : List Nat} {h₀ : Heap} {Yc X Y : Addr -> Prop} {ρ : List (Option D)} {h h' : Heap} {m cm : Str -> Option Value}
set_option tactic.hygienic true in
theorem FS.look (F : FS c mg mb tab ap env h₀ Yc) {x : Str} {i : Nat} (hl : c.look x = some (.var i)) : c.names[i]? = some x /\ (c.sc.names.lookup x = some .local \/ c.sc.names.lookup x = some .cell) := by
 have idx : ∀ {i : Nat}, (c.names.idxOf? x).map ME.var = some (.var i) -> c.names[i]? = some x := fun {i} q => by
  obtain ⟨j, hj, e⟩ := Option.map_eq_some_iff.mp q
  cases e
  obtain ⟨h1, h2, h3⟩ := List.idxOf?_eq_some_iff.mp hj
  rw [List.getElem?_eq_getElem h1, h2]
 unfold TC.look at hl
 rw [F.cn] at hl
 simp only [List.isEmpty_nil, if_true, Bool.true_or] at hl
 split at hl
 ·rename_i q; exact ⟨idx hl, .inl q⟩
 ·rename_i q; exact ⟨idx hl, .inr q⟩
 ·cases hl
 ·cases hl
theorem FS.lookc (F : FS c mg mb tab ap env h₀ Yc) {x : Str} {j : Nat} (hl : c.look x = some (.cvar j)) : False := by
 unfold TC.look at hl
 rw [F.cn] at hl
 simp only [List.isEmpty_nil, if_true, Bool.true_or] at hl
 split at hl
 ·obtain ⟨_, _, q⟩ := Option.map_eq_some_iff.mp hl; cases q
 ·obtain ⟨_, _, q⟩ := Option.map_eq_some_iff.mp hl; cases q
 ·cases hl
 ·cases hl
theorem FS.kindOf (F : FS c mg mb tab ap env h₀ Yc) (x : Str) : env.kindOf x = c.sc.names.lookup x := by unfold Env.kindOf; rw [F.sc]
theorem INV.nv (F : FS c mg mb tab ap env h₀ Yc) (I : INV c env W h₀ Yc X Y ρ h m cm) {x : Str} {v : Value} (hk : c.sc.names.lookup x = some .local \/ c.sc.names.lookup x = some .cell) (hv : z6w c m cm x = some v) : NV env h x v := by
 unfold z6w at hv
 rcases hk with hk | hk
 ·rw [hk] at hv
  exact .inl ⟨by rw [F.kindOf]; exact hk, m, I.ns, by simpa using hv⟩
 ·rw [hk] at hv
  obtain ⟨⟨a, ha⟩, _⟩ := F.cells x hk
  exact .inr ⟨.inl (by rw [F.kindOf]; exact hk), a, ha, by have := (I.cell x a ha).1; simp at hv; rw [hv] at this; exact this⟩
theorem INV.cx (F : FS c mg mb tab ap env h₀ Yc) (I : INV c env W h₀ Yc X Y ρ h m cm) : CX c mg mb tab ap env W ρ [] Y h where
 gi := F.gi.ext I.keep
 fns := F.fns
 kind := by rw [F.sc]; exact F.kind
 globals := F.globals
 builtins := F.builtins
 yb := I.ya
 glob := fun x hg => by
  rw [F.kindOf]
  unfold z1z at hg
  simpa using hg
 vars := fun x i d hl hr => by
  obtain ⟨h1, h2⟩ := F.look hl
  obtain ⟨v, hv, hf, ho⟩ := I.slot i x d h1 hr
  refine ⟨v, I.nv F h2 hv, ?_, hf⟩
  cases hw : W.contains i with
  | false => exact .rep (hf hw)
  | true =>
   obtain ⟨a, ws, n, es, rfl, rfl, h3, h4, h5, _⟩ := ho hw
   exact .list h3 h4 h5
 cvars := fun x j d hl _ => (F.lookc hl).elim
 cells := fun _ x hk => by
  obtain ⟨h1, h2⟩ := F.cells x hk
  exact ⟨by rw [F.kindOf]; exact hk, h1, h2⟩
theorem INV.cxRet (F : FS c mg mb tab ap env h₀ Yc) (I : INV c env W h₀ Yc X Y ρ h m cm) : CX c mg mb tab ap env [] ρ [] Yc h where
 gi := F.gi.ext I.keep
 fns := F.fns
 kind := by rw [F.sc]; exact F.kind
 globals := F.globals
 builtins := F.builtins
 yb := fun a y => let ⟨o, e⟩ := F.yc a y; ⟨o, I.keep a o e⟩
 glob := (I.cx F).glob
 vars := fun x i d hl hr => by
  obtain ⟨h1, h2⟩ := F.look hl
  obtain ⟨v, hv, hf, ho⟩ := I.slot i x d h1 hr
  have hr : Rep h Yc v d := by
   cases hw : W.contains i with
   | false => exact (hf hw).weak I.yc
   | true =>
    obtain ⟨a, ws, n, es, rfl, rfl, h3, h4, h5, h6, _⟩ := ho hw
    refine .list (fun y => ?_) h3 h4 (h5.weak I.yc) .nil
    obtain ⟨o, e⟩ := F.yc a y
    have := I.xn a h6
    rw [e] at this; cases this
  exact ⟨v, I.nv F h2 hv, .rep hr, fun _ => hr⟩
 cvars := fun x j d hl _ => (F.lookc hl).elim
 cells := (I.cx F).cells
structure z7b (X Y X' Y' : Addr -> Prop) (h h' : Heap) : Prop where
 x : ∀ a, X a -> X' a
 y : ∀ a, Y a -> Y' a
 xn : ∀ a, X' a -> X a \/ h.get? a = none
 yn : ∀ a, Y' a -> Y a \/ h.get? a = none
 ext : ∀ a o, ¬ X a -> h.get? a = some o -> h'.get? a = some o
theorem z7b.refl (X Y : Addr -> Prop) (h : Heap) : z7b X Y X Y h h := ⟨fun _ x => x, fun _ x => x, fun _ x => .inl x, fun _ x => .inl x, fun _ _ _ e => e⟩
theorem z7b.trans {X Y X₁ Y₁ X₂ Y₂ : Addr -> Prop} {h h₁ h₂ : Heap} (xy : ∀ a, X a -> Y a) (g : z7b X Y X₁ Y₁ h h₁) (k : z7b X₁ Y₁ X₂ Y₂ h₁ h₂) : z7b X Y X₂ Y₂ h h₂ where
 x := fun a q => k.x a (g.x a q)
 y := fun a q => k.y a (g.y a q)
 xn := fun a q => by
  rcases k.xn a q with q | q
  ·exact g.xn a q
  ·by_cases hx : X a
   ·exact .inl hx
   ·right
    cases e : h.get? a with
    | none => rfl
    | some o => rw [g.ext a o hx e] at q; cases q
 yn := fun a q => by
  rcases k.yn a q with q | q
  ·exact g.yn a q
  ·by_cases hx : X a
   ·exact .inl (xy a hx)
   ·right
    cases e : h.get? a with
    | none => rfl
    | some o => rw [g.ext a o hx e] at q; cases q
 ext := fun a o hx e => by
  have e1 := g.ext a o hx e
  refine k.ext a o (fun q => ?_) e1
  rcases g.xn a q with q | q
  ·exact hx q
  ·rw [e] at q; cases q
theorem z7b.ofExt {X Y Y' : Addr -> Prop} {h h' : Heap} (hx : Ext h h') (hy : ∀ a, Y a -> Y' a) (hn : ∀ a, Y' a -> Y a \/ h.get? a = none) : z7b X Y X Y' h h' := ⟨fun _ x => x, hy, fun _ x => .inl x, hn, fun a o _ e => hx a o e⟩
theorem INV.move (I : INV c env W h₀ Yc X Y ρ h m cm) {Y' : Addr -> Prop} (hx : ∀ a o, (X a \/ ¬ Y' a \/ (∃ o', h₀.get? a = some o')) -> h.get? a = some o -> h'.get? a = some o) (hy : ∀ a, Y a -> Y' a) (hn : ∀ a, Y' a -> Y a \/ h.get? a = none) (ha : ∀ a, Y' a -> ∃ o, h'.get? a = some o) :
  INV c env W h₀ Yc X Y' ρ h' m cm where
 keep := fun b o e => hx b o (.inr (.inr ⟨o, e⟩)) (I.keep b o e)
 xy := fun a q => hy a (I.xy a q)
 ya := ha
 yc := fun a q => hy a (I.yc a q)
 xn := I.xn
 ns := I.ns.at' fun o e => hx _ o (.inl I.lx) e
 lx := I.lx
 cell := fun x a e => by
  obtain ⟨⟨o, h1, h2⟩, h3, h4⟩ := I.cell x a e
  exact ⟨⟨o, hx a o (.inl h3) h1, h2⟩, h3, h4⟩
 apart := I.apart
 slot := fun i x d hi hr => by
  have mv : ∀ {vs : List Value} {ds : List D}, z0k h Y vs ds -> z0k h' Y' vs ds := fun r => by
   refine z0k.move (Y := fun a => Y a \/ (Y' a /\ h.get? a = none)) (r.fresh' fun a q => ?_) (fun a o ha e => hx a o (.inr (.inl fun q => ?_)) e) fun a o e q => ?_
   ·rcases q with q | q
    ·exact .inl q
    ·exact .inr q.2
   ·rcases hn a q with q' | q'
    ·exact ha (.inl q')
    ·exact ha (.inr ⟨q, q'⟩)
   ·rcases hn a q with q' | q'
    ·exact .inl q'
    ·exact .inr ⟨q, q'⟩
  obtain ⟨v, hv, hf, ho⟩ := I.slot i x d hi hr
  refine ⟨v, hv, fun w => mv (hf w), fun w => ?_⟩
  obtain ⟨a, ws, n, es, h1, h2, h3, h4, h5, h6, h7⟩ := ho w
  exact ⟨a, ws, n, es, h1, h2, hx a _ (.inl h6) h3, h4, mv h5, h6, h7⟩
 apartW := I.apartW
end
end Mine
end
section
open PySem
namespace Mine
open PyProof.Rows PySem.W
section
variable {c : TC} {mg mb : Str -> Option Value} {tab : List z0r} {ap : Addr} {env : Env} {W : List Nat} {h₀ : Heap} {Yc X Y : Addr -> Prop} {ρ : List (Option D)} {h h' : Heap} {m cm : Str -> Option Value}
inductive q4p (c : TC) (env : Env) (W : List Nat) (X Y : Addr -> Prop) (ρ : List (Option D)) (h : Heap) (m cm : Str -> Option Value) (i : Nat) (v : Value) (d : D) : Prop
 | mk (a : Addr) (ws : List Value) (n : Nat) (es : List D) (e1 : v = .ref a) (e2 : d = .list es) (g : h.get? a = some { cls := .type "list", data := .seq ws.toArray n }) (l : ws.length <= LEN) (r : z0k h Y ws es) (x : X a) (q : a ≠ env.locals /\ (∀ y b, env.cells.lookup y = some b -> a ≠ b) /\
  ∀ (j : Nat) (y : Str) (d' : D), j ≠ i -> c.names[j]? = some y -> W.contains j = true -> ρ[j]? = some (some d') -> z6w c m cm y ≠ some (.ref a))
theorem INV.stored (F : FS c mg mb tab ap env h₀ Yc) (I : INV c env W h₀ Yc X Y ρ h m cm) {x : Str} {i : Nat} {v : Value} {d : D} {m' cm' : Str -> Option Value} {z : Addr} (hz : z = env.locals \/ ∃ y, env.cells.lookup y = some z) (hsb : Heap.SameBut z h h') (hz' : ∃ o, h'.get? z = some o)
  (ns' : h'.Ns env.locals m') (cell' : ∀ y a, env.cells.lookup y = some a -> h'.IsCell a (cm' y)) (hnv : ∀ y, z6w c m' cm' y = if y = x then some v else z6w c m cm y) (hi : c.names[i]? = some x)
  (hf : W.contains i = false -> Rep h Y v d) (ho : W.contains i = true -> q4p c env W X Y ρ h m cm i v d) : INV c env W h₀ Yc X Y (ρ.set i (some d)) h' m' cm' := by
 have hzX : X z := by
  rcases hz with rfl | ⟨y, hy⟩
  ·exact I.lx
  ·exact (I.cell y z hy).2.1
 have ext : ∀ a o, a ≠ z -> h.get? a = some o -> h'.get? a = some o := fun a o ha e => (hsb.2 a ha).trans e
 have mv : ∀ {vs : List Value} {ds : List D}, z0k h Y vs ds -> z0k h' Y vs ds := fun r => r.move (fun a o ha e => ext a o (fun q => ha (q ▸ I.xy z hzX)) e) fun _ _ _ q => q
 have hne : ∀ (j : Nat) (y : Str), j ≠ i -> c.names[j]? = some y -> y ≠ x := fun j y hj hy q => by
  subst q
  exact hj ((List.getElem?_inj (List.getElem?_eq_some_iff.mp hy).1 F.nodup).mp (hy.trans hi.symm))
 have lz : ∀ a, a ≠ env.locals -> (∀ y b, env.cells.lookup y = some b -> a ≠ b) -> a ≠ z := fun a h1 h2 => by
  rcases hz with rfl | ⟨y, hy⟩
  ·exact h1
  ·exact h2 y z hy
 refine ⟨fun b o e => ext b o (fun q => ?_) (I.keep b o e), I.xy, fun a q => ?_, I.yc, I.xn, ns', I.lx, fun y a e => ⟨cell' y a e, (I.cell y a e).2⟩, I.apart, fun j y d' hj hr => ?_, fun j k y z' dj dk a hj hk wj wk rj rk e1 e2 => ?_⟩
 ·have := I.xn z hzX
  rw [<- q, e] at this; cases this
 ·by_cases h1 : a = z
  ·subst h1; exact hz'
  ·obtain ⟨o, e⟩ := I.ya a q; exact ⟨o, ext a o h1 e⟩
 ·by_cases hji : j = i
  ·subst hji
   rw [hi] at hj
   cases hj
   have hd : d' = d := by
    rw [List.getElem?_set_self'] at hr
    cases hq : ρ[j]? with
    | none => rw [hq] at hr; cases hr
    | some _ => rw [hq] at hr; exact (Option.some.inj (Option.some.inj hr)).symm
   subst hd
   refine ⟨v, by rw [hnv]; simp, fun w => mv (hf w), fun w => ?_⟩
   obtain ⟨a, ws, n, es, h1, h2, h3, h4, h5, h6, h7, h8, _⟩ := ho w
   exact ⟨a, ws, n, es, h1, h2, ext a _ (lz a h7 h8) h3, h4, mv h5, h6, h7, h8⟩
  ·rw [List.getElem?_set_ne (Ne.symm hji)] at hr
   obtain ⟨v', hv', hf', ho'⟩ := I.slot j y d' hj hr
   refine ⟨v', by rw [hnv, if_neg (hne j y hji hj)]; exact hv', fun w => mv (hf' w), fun w => ?_⟩
   obtain ⟨a, ws, n, es, h1, h2, h3, h4, h5, h6, h7, h8⟩ := ho' w
   exact ⟨a, ws, n, es, h1, h2, ext a _ (lz a h7 h8) h3, h4, mv h5, h6, h7, h8⟩
 ·by_cases hji : j = i
  ·by_cases hki : k = i
   ·rw [hji, hki]
   ·exfalso
    subst hji
    rw [hi] at hj
    cases hj
    rw [List.getElem?_set_ne (Ne.symm hki)] at rk
    rw [hnv, if_pos rfl] at e1
    rw [hnv, if_neg (hne k z' hki hk)] at e2
    obtain ⟨a', ws, n, es, h1, h2, h3, h4, h5, h6, h7, h8, h9⟩ := ho wj
    subst h1
    cases e1
    exact h9 k z' dk hki hk wk rk e2
  ·by_cases hki : k = i
   ·exfalso
    subst hki
    rw [hi] at hk
    cases hk
    rw [List.getElem?_set_ne (Ne.symm hji)] at rj
    rw [hnv, if_pos rfl] at e2
    rw [hnv, if_neg (hne j y hji hj)] at e1
    obtain ⟨a', ws, n, es, h1, h2, h3, h4, h5, h6, h7, h8, h9⟩ := ho wk
    subst h1
    cases e2
    exact h9 j y dj hji hj wj rj e1
   ·rw [List.getElem?_set_ne (Ne.symm hji)] at rj
    rw [List.getElem?_set_ne (Ne.symm hki)] at rk
    rw [hnv, if_neg (hne j y hji hj)] at e1
    rw [hnv, if_neg (hne k z' hki hk)] at e2
    exact I.apartW j k y z' dj dk a hj hk wj wk rj rk e1 e2
theorem z6v {M : Model} {A : Around} {E : Value -> Shared -> Prop} {s : Shared} (F : FS c mg mb tab ap env h₀ Yc) (I : INV c env W h₀ Yc X Y ρ s.heap m cm) {x : Str} {i : Nat} {v : Value} {d : D} {Q : Unit -> Shared -> Prop} (hi : c.names[i]? = some x)
  (hf : W.contains i = false -> Rep s.heap Y v d) (ho : W.contains i = true -> q4p c env W X Y ρ s.heap m cm i v d)
  (k : ∀ h' tk m' cm', INV c env W h₀ Yc X Y (ρ.set i (some d)) h' m' cm' -> (∀ b o, b ≠ env.locals -> (∀ y a, env.cells.lookup y = some a -> b ≠ a) -> s.heap.get? b = some o -> h'.get? b = some o) ->
   (∀ y, z6w c m' cm' y = if y = x then some v else z6w c m cm y) -> Q () { s with heap := h', toks := tk }) : wpAny M A (storeName env x v) Q E s := by
 have hx := F.names x (List.mem_of_getElem? hi)
 rcases hx with hx | ⟨hx, a, ha⟩
 ·refine wpAny_storeName_local (m := m) (by rw [F.kindOf]; exact hx) I.ns (fun h' hn' hs' => ?_) (by rw [F.sc, F.kind]; rfl)
  have hnv : ∀ y, z6w c (fun y => if y = x then some v else m y) cm y = if y = x then some v else z6w c m cm y := fun y => by
   unfold z6w
   by_cases hy : y = x
   ·subst hy; simp [hx]
   ·simp [hy]
  refine k h' _ _ cm (INV.stored F I (z := env.locals) (.inl rfl) hs' (let ⟨o, _, _, e, _⟩ := hn'; ⟨o, e⟩) hn' (fun y a e => ?_) hnv hi hf ho) (fun b o hb _ e => (hs'.2 b hb).trans e) hnv
  obtain ⟨hc, _, hne⟩ := I.cell y a e
  exact hc.sameBut hs' hne
 ·have hc := I.cell x a ha
  refine wpAny_storeName_cell (by rw [F.sc]; exact F.kind) (by rw [F.kindOf]; exact hx) ha hc.1 (fun h' hc' hs' => ?_)
  have hnv : ∀ y, z6w c m (fun y => if y = x then some v else cm y) y = if y = x then some v else z6w c m cm y := fun y => by
   unfold z6w
   by_cases hy : y = x
   ·subst hy; simp [hx]
   ·simp [hy]
  refine k h' _ m _ (INV.stored F I (z := a) (.inr ⟨x, ha⟩) hs' (let ⟨o, e, _⟩ := hc'; ⟨o, e⟩) (I.ns.sameBut hs' (Ne.symm hc.2.2)) (fun y b e => ?_) hnv hi hf ho) (fun b o _ hb e => (hs'.2 b (hb x a ha)).trans e) hnv
  by_cases hy : y = x
  ·subst hy
   rw [ha] at e; cases e
   simpa using hc'
  ·simp only [hy, if_false]
   have hab : b ≠ a := fun q => by subst q; exact hy (I.apart y x b e ha)
   exact (I.cell y b e).1.sameBut hs' hab
theorem INV.owned (F : FS c mg mb tab ap env h₀ Yc) (I : INV c env W h₀ Yc X Y ρ h m cm) {i : Nat} {x : Str} {es es' : List D} {a : Addr} {ws' : List Value} {n' : Nat} (hi : c.names[i]? = some x) (hw : W.contains i = true) (hr : ρ[i]? = some (some (.list es)))
  (hv : z6w c m cm x = some (.ref a)) (hsb : ∀ b o, b ≠ a -> h.get? b = some o -> h'.get? b = some o) (hg : h'.get? a = some { cls := .type "list", data := .seq ws'.toArray n' }) (hl : ws'.length <= LEN) (r : z0k h Y ws' es') :
  INV c env W h₀ Yc X Y (ρ.set i (some (.list es'))) h' m cm := by
 obtain ⟨v0, hv0, _, ho⟩ := I.slot i x _ hi hr
 rw [hv] at hv0
 cases hv0
 obtain ⟨a0, ws, n, es0, h1, h2, h3, h4, h5, h6, h7, h8⟩ := ho hw
 cases h1
 have mv : ∀ {vs : List Value} {ds : List D}, z0k h Y vs ds -> z0k h' Y vs ds := fun r => r.move (fun b o hb e => hsb b o (fun q => hb (q ▸ I.xy a h6)) e) fun _ _ _ q => q
 refine ⟨fun b o e => hsb b o (fun q => ?_) (I.keep b o e), I.xy, fun b q => ?_, I.yc, I.xn, I.ns.at' fun o e => hsb _ o (Ne.symm h7) e, I.lx, fun y b e => ?_, I.apart, fun j y d' hj hr' => ?_, fun j k y z dj dk b hj hk wj wk rj rk e1 e2 => ?_⟩
 ·have := I.xn a h6
  rw [<- q, e] at this; cases this
 ·by_cases q1 : b = a
  ·subst q1; exact ⟨_, hg⟩
  ·obtain ⟨o, e⟩ := I.ya b q; exact ⟨o, hsb b o q1 e⟩
 ·obtain ⟨⟨o, z1, z2⟩, z3⟩ := I.cell y b e
  exact ⟨⟨o, hsb b o (Ne.symm (h8 y b e)) z1, z2⟩, z3⟩
 ·by_cases hji : j = i
  ·subst hji
   rw [hi] at hj
   cases hj
   have hd : d' = .list es' := by
    rw [List.getElem?_set_self', hr] at hr'
    exact (Option.some.inj (Option.some.inj hr')).symm
   subst hd
   refine ⟨.ref a, hv, fun w => ?_, fun _ => ⟨a, ws', n', es', rfl, rfl, hg, hl, mv r, h6, h7, h8⟩⟩
   rw [hw] at w
   cases w
  ·rw [List.getElem?_set_ne (Ne.symm hji)] at hr'
   obtain ⟨v', hv', hf', ho'⟩ := I.slot j y d' hj hr'
   refine ⟨v', hv', fun w => mv (hf' w), fun w => ?_⟩
   obtain ⟨b, ws2, n2, es2, k1, k2, k3, k4, k5, k6, k7, k8⟩ := ho' w
   refine ⟨b, ws2, n2, es2, k1, k2, hsb b _ (fun q => ?_) k3, k4, mv k5, k6, k7, k8⟩
   subst q
   exact hji (I.apartW j i y x d' _ b hj hi w hw hr' hr (hv'.trans (by rw [k1])) hv)
 ·have un : ∀ (j : Nat) (d : D), (ρ.set i (some (.list es')))[j]? = some (some d) -> ∃ d', ρ[j]? = some (some d') := fun j d q => by
   by_cases hji : j = i
   ·subst hji; exact ⟨_, hr⟩
   ·rw [List.getElem?_set_ne (Ne.symm hji)] at q; exact ⟨d, q⟩
  obtain ⟨dj', rj'⟩ := un j dj rj
  obtain ⟨dk', rk'⟩ := un k dk rk
  exact I.apartW j k y z dj' dk' b hj hk wj wk rj' rk' e1 e2
end
end Mine
end
section
open PySem
set_option genSizeOf false
namespace Mine
open PyProof.Rows PySem.W
section
variable {c : TC} {mg mb : Str -> Option Value} {tab : List z0r} {ap : Addr} {env : Env} {W : List Nat} {h₀ : Heap} {Yc X Y : Addr -> Prop} {ρ : List (Option D)} {h h' : Heap} {m cm : Str -> Option Value}
theorem INV.after (I : INV c env W h₀ Yc X Y ρ h m cm) (hx : Ext h h') : INV c env W h₀ Yc X Y ρ h' m cm :=
 I.move (fun a o _ e => hx a o e) (fun _ q => q) (fun _ q => .inl q) fun a q => let ⟨o, e⟩ := I.ya a q; ⟨o, hx a o e⟩
theorem INV.addX (I : INV c env W h₀ Yc X Y ρ h m cm) {a : Addr} (hy : Y a) (hn : h₀.get? a = none) : INV c env W h₀ Yc (fun b => X b \/ b = a) Y ρ h m cm where
 keep := I.keep
 xy := fun b q => q.elim (I.xy b) fun q => q ▸ hy
 ya := I.ya
 yc := I.yc
 xn := fun b q => q.elim (I.xn b) fun q => q ▸ hn
 ns := I.ns
 lx := .inl I.lx
 cell := fun x b e => let ⟨h1, h2, h3⟩ := I.cell x b e; ⟨h1, .inl h2, h3⟩
 apart := I.apart
 slot := fun i x d hi hr => by
  obtain ⟨v, hv, hf, ho⟩ := I.slot i x d hi hr
  refine ⟨v, hv, hf, fun w => ?_⟩
  obtain ⟨b, ws, n, es, h1, h2, h3, h4, h5, h6, h7⟩ := ho w
  exact ⟨b, ws, n, es, h1, h2, h3, h4, h5, .inl h6, h7⟩
 apartW := I.apartW
theorem INV.takeOwn2 (I : INV c env W h₀ Yc X Y ρ h m cm) {Y₂ : Addr -> Prop} (hx : Ext h h') (hy2 : ∀ b, Y b -> Y₂ b) (hn2 : ∀ b, Y₂ b -> Y b \/ h.get? b = none) (ha2 : ∀ b, Y₂ b -> ∃ o, h'.get? b = some o) {a : Addr} {es : List D} (hn : h.get? a = none) (r : Rep h' Y₂ (.ref a) (.list es)) (i : Nat) :
  INV c env W h₀ Yc (fun b => X b \/ b = a) (fun b => Y₂ b \/ b = a) ρ h' m cm /\ q4p c env W (fun b => X b \/ b = a) (fun b => Y₂ b \/ b = a) ρ h' m cm i (.ref a) (.list es) := by
 obtain ⟨a0, ws, n, e0, hya, hg, hl, r1⟩ := r.list_inv
 cases e0
 have hn0 : h₀.get? a = none := z0o I.keep hn
 have I' : INV c env W h₀ Yc X (fun b => Y₂ b \/ b = a) ρ h' m cm := I.move (fun b o _ e => hx b o e) (fun b q => .inl (hy2 b q)) (fun b q => by
   rcases q with q | q
   ·exact hn2 b q
   ·exact .inr (by rw [q]; exact hn)) fun b q => by
  rcases q with q | q
  ·exact ha2 b q
  ·subst q; exact ⟨_, hg⟩
 refine ⟨I'.addX (.inr rfl) hn0, a, ws, n, es, rfl, rfl, hg, hl, z0k.off r r1 ?_, .inr rfl, fun q => ?_, fun y b e q => ?_, fun j y d' _ hj wj rj q => ?_⟩
 ·have e := D.list.sizeOf_spec es
  exact o565 e
 ·obtain ⟨o, _, _, e, _⟩ := I.ns
  rw [<- q, hn] at e; cases e
 ·obtain ⟨⟨o, e1, _⟩, _⟩ := I.cell y b e
  rw [<- q, hn] at e1; cases e1
 ·obtain ⟨v, hv, _, ho⟩ := I.slot j y d' hj rj
  obtain ⟨b, ws2, n2, es2, h1, _, h3, _⟩ := ho wj
  rw [hv, h1] at q
  cases q
  rw [hn] at h3; cases h3
theorem INV.takeOwn (I : INV c env W h₀ Yc X Y ρ h m cm) (hx : Ext h h') {a : Addr} {es : List D} (hn : h.get? a = none) (r : Rep h' Y (.ref a) (.list es)) (i : Nat) :
  INV c env W h₀ Yc (fun b => X b \/ b = a) (fun b => Y b \/ b = a) ρ h' m cm /\ q4p c env W (fun b => X b \/ b = a) (fun b => Y b \/ b = a) ρ h' m cm i (.ref a) (.list es) :=
 I.takeOwn2 hx (fun _ q => q) (fun _ q => .inl q) (fun b q => let ⟨o, e⟩ := I.ya b q; ⟨o, hx b o e⟩) hn r i
theorem INV.dropC (I : INV c env W h₀ Yc X Y ρ h m cm) {C : Addr} (hyc : ∀ a, Yc a -> ∃ o, h₀.get? a = some o) (hy : Y C) (hx : ¬ X C) (h0 : h₀.get? C = none) (hs : Heap.SameBut C h h') : INV c env W h₀ Yc X (fun a => Y a /\ a ≠ C) ρ h' m cm where
 keep := fun b o e => (hs.2 b fun q => by rw [q, h0] at e; cases e).trans (I.keep b o e)
 xy := fun a q => ⟨I.xy a q, fun e => hx (e ▸ q)⟩
 ya := fun a q => let ⟨o, e⟩ := I.ya a q.1; ⟨o, (hs.2 a q.2).trans e⟩
 yc := fun a q => ⟨I.yc a q, fun e => by
  obtain ⟨o, e1⟩ := hyc a q
  rw [e, h0] at e1; cases e1⟩
 xn := I.xn
 ns := I.ns.sameBut hs fun e => hx (e ▸ I.lx)
 lx := I.lx
 cell := fun x a e => by
  obtain ⟨h1, h2, h3⟩ := I.cell x a e
  exact ⟨h1.sameBut hs fun q => hx (q ▸ h2), h2, h3⟩
 apart := I.apart
 slot := fun i x d hi hr => by
  have mv : ∀ {vs : List Value} {ds : List D}, z0k h Y vs ds -> z0k h' (fun a => Y a /\ a ≠ C) vs ds := fun r => r.move (fun a o ha e => (hs.2 a fun q => ha (q ▸ hy)).trans e) fun _ _ _ q => q.1
  obtain ⟨v, hv, hf, ho⟩ := I.slot i x d hi hr
  refine ⟨v, hv, fun w => mv (hf w), fun w => ?_⟩
  obtain ⟨b, ws, n, es, h1, h2, h3, h4, h5, h6, h7⟩ := ho w
  exact ⟨b, ws, n, es, h1, h2, (hs.2 b fun q => hx (q ▸ h6)).trans h3, h4, mv h5, h6, h7⟩
 apartW := I.apartW
theorem q4p.ext {i : Nat} {v : Value} {d : D} (o : q4p c env W X Y ρ h m cm i v d) (hx : Ext h h') : q4p c env W X Y ρ h' m cm i v d := by
 obtain ⟨a, ws, n, es, h1, h2, h3, h4, h5, h6, h7⟩ := o
 exact ⟨a, ws, n, es, h1, h2, hx _ _ h3, h4, h5.ext hx, h6, h7⟩
noncomputable def Fit (c : TC) (env : Env) (W : List Nat) (X Y : Addr -> Prop) (ρ : List (Option D)) (h : Heap) (m cm : Str -> Option Value) (t : Nat) (v : Value) (d : D) : Prop :=
 (W.contains t = false -> Rep h Y v d) /\ (W.contains t = true -> q4p c env W X Y ρ h m cm t v d)
noncomputable def y8e (W : List Nat) : List Nat -> ME -> Bool
 | [], .nil => true
 | t :: ts, .cons a r => (!W.contains t || y3i a) && y8e W ts r
 | _, _ => false
theorem Fit.grow {X' Y' : Addr -> Prop} {t : Nat} {v : Value} {d : D} (f : Fit c env W X Y ρ h m cm t v d) (hx : Ext h h') (xx : ∀ a, X a -> X' a) (yy : ∀ a, Y' a -> Y a \/ h.get? a = none) : Fit c env W X' Y' ρ h' m cm t v d := by
 refine ⟨fun w => ?_, fun w => ?_⟩
 ·exact z0k.ext (z0k.fresh' (f.1 w) yy) hx
 ·obtain ⟨a, ws, n, es, h1, h2, h3, h4, h5, h6, h7⟩ := f.2 w
  exact ⟨a, ws, n, es, h1, h2, hx _ _ h3, h4, (h5.fresh' yy).ext hx, xx _ h6, h7⟩
variable {prog : Program} {w : World} {Φ : Nat -> List D -> Option D} {lev n : Nat} {A : Around}
theorem q0s {Φ : Nat -> List D -> Option D} {ρ : List (Option D)} {me : ME} {κ : List D} {d : D} (hf : y3i me = true) (hd : ev Φ ρ me κ = some d) : ∃ l, d = .list l := by
 refine (?_ : IsL (ev Φ ρ me κ)) d hd
 cases me with
 | list as => exact y2s as
 | copy a => dsimp only [ev]; rcases ev Φ ρ a κ with _ | _ | _ | _ | _ | _ <;> first | exact IsL.n | exact IsL.s _
 | rev a => dsimp only [ev]; rcases ev Φ ρ a κ with _ | _ | _ | _ | _ | _ <;> first | exact IsL.n | exact IsL.s _
 | upTo a b => dsimp only [ev]; rcases ev Φ ρ a κ with _ | _ | _ | _ | _ | _ <;> first | exact IsL.n | (rcases ev Φ ρ b κ with _ | _ | _ | _ | _ | _ <;> first | exact IsL.n | exact IsL.i)
 | fromA a b => dsimp only [ev]; rcases ev Φ ρ a κ with _ | _ | _ | _ | _ | _ <;> first | exact IsL.n | (rcases ev Φ ρ b κ with _ | _ | _ | _ | _ | _ <;> first | exact IsL.n | exact IsL.i)
 | comp e n i c =>
  dsimp only [ev]
  rcases ev Φ ρ i κ with _ | x
  ·exact IsL.n
  ·dsimp only
   rcases z7d x with _ | l
   ·exact IsL.n
   ·dsimp only
    generalize z3n _ _ _ l = o
    cases o
    ·exact IsL.n
    ·exact IsL.s _
 | bin op a b =>
  obtain ⟨as, rfl⟩ := y6m hf
  have q := y2s (Φ := Φ) (ρ := ρ) (κ := κ) as
  show IsL (match ev Φ ρ (.list as) κ with | none => none | some x => match ev Φ ρ b κ with | none => none | some y => y3f op x y)
  generalize ev Φ ρ (.list as) κ = o at q
  cases o with
  | none => exact IsL.n
  | some x =>
   obtain ⟨l, rfl⟩ := q x rfl
   cases ev Φ ρ b κ with
   | none => exact IsL.n
   | some y => exact IsL.bin op l y
 | _ => exact ff hf
inductive ArgsO (c : TC) (env : Env) (W : List Nat) (h₀ : Heap) (Yc : Addr -> Prop) (ρ : List (Option D)) (m cm : Str -> Option Value) (X Y : Addr -> Prop) (ts : List Nat) (ds : List D) (hs h : Heap) (vs : List Value) : Prop
 | mk (l1 : vs.length = ds.length) (l2 : ds.length = ts.length) (X' Y' : Addr -> Prop) (I' : INV c env W h₀ Yc X' Y' ρ h m cm) (xx : ∀ a, X a -> X' a) (yy : ∀ a, Y a -> Y' a) (xn : ∀ a, X' a -> X a \/ hs.get? a = none) (yn : ∀ a, Y' a -> Y a \/ hs.get? a = none)
  (ft : ∀ (j t : Nat) (v : Value) (d : D), ts[j]? = some t -> vs[j]? = some v -> ds[j]? = some d -> Fit c env W X' Y' ρ h m cm t v d)
  (ne : ∀ (j k t u : Nat) (v : Value), j ≠ k -> ts[j]? = some t -> ts[k]? = some u -> W.contains t = true -> W.contains u = true -> vs[j]? = some v -> vs[k]? = some v -> False)
  (fr : ∀ (j t : Nat) (v : Value), ts[j]? = some t -> W.contains t = true -> vs[j]? = some v -> ∀ a, v = .ref a -> hs.get? a = none)
set_option tactic.hygienic true in
theorem y9d (ih : y1c prog w mg mb tab ap Φ lev n) (R : z3o lev A) (F : FS c mg mb tab ap env h₀ Yc) {pos : Pos} : ∀ (es : List Expr) (ms : ME) (ts : List Nat) (s : Shared) (ds : List D) (X Y : Addr -> Prop), z1c (trE n) c es = some ms ->
  INV c env W h₀ Yc X Y ρ s.heap m cm -> okE W ms = true -> y8e W ts ms = true -> ev Φ ρ ms [] = some (.tup ds) ->
  EV (model prog w) A (spliced (backTo pos (starEach es env))) s (fun vs h => ArgsO c env W h₀ Yc ρ m cm X Y ts ds s.heap h vs) := by
 intro es
 induction es with
 | nil =>
  intro ms ts s ds X Y ht I hok hfr hev E Q k
  simp only [z1c] at ht
  cases ht
  simp only [ev] at hev
  cases hev
  cases ts with
  | nil => exact Calls.spliced_nil (k [] s.heap s.toks (Ext.refl _) ⟨rfl, rfl, X, Y, I, fun _ q => q, fun _ q => q, fun _ q => .inl q, fun _ q => .inl q, by simp, by simp, by simp⟩)
  | cons t ts => simp [y8e] at hfr
 | cons e r ihr =>
  intro ms ts s ds X Y ht I hok hfr hev E Q k
  have ht0 := ht
  unfold z1c at ht
  split at ht
  ·rename_i q; cases q
  ·cases ht
  ·rename_i e' r' hns heq
   obtain ⟨rfl, rfl⟩ := List.cons.inj heq
   split at ht
   ·cases ht
   ·rename_i mm hm
    split at ht
    ·cases ht
    ·rename_i ms' hms
     cases ht
     cases ts with
     | nil => simp [y8e] at hfr
     | cons t ts =>
      simp only [y8e, Bool.and_eq_true] at hfr
      have hok := z9y hok
      simp only [ev] at hev
      split at hev
      ·cases hev
      ·rename_i d hd
       split at hev
       ·rename_i ds' hds
        cases hev
        have hst : starEach (e :: r) env = (false, eval e env) :: starEach r env := z5g fun v p q => by subst q; exact hns _ _ rfl
        refine args_cons ?_ hst
        refine (ih c e mm hm env ρ [] W Y A s R (I.cx F)).E d hok.1 hd E _ fun v h1 tk hx hr => ?_
        cases hw : W.contains t with
        | false =>
         refine ihr ms' ts _ ds' X Y hms (I.after hx) hok.2 hfr.2 hds E _ fun vs h' tk' hx' ⟨l1, l2, X', Y', I', xx, yy, xn, yn, ft, ne, fr⟩ => ?_
         have hxx : Ext s.heap h' := hx.trans hx'
         refine k _ h' tk' hxx ⟨by simp [l1], by simp [l2], X', Y', I', xx, yy, fun a q => (xn a q).imp_right (z0o hx), fun a q => (yn a q).imp_right (z0o hx), fun j u v' d' hj hv hd' => ?_, fun j k' u u' v' hjk hj hk wu wu' hv hv' => ?_, fun j u v' hj wu hv a q => ?_⟩
         ·cases j with
          | zero =>
           simp at hj hv hd'
           subst hj hv hd'
           refine ⟨fun _ => z0k.ext (z0k.fresh' hr.1 fun a q => (yn a q)) hx', fun q => by (rw [hw] at q; cases q)⟩
          | succ j => exact ft j u v' d' hj hv hd'
         ·cases j with
          | zero => simp at hj; subst hj; rw [hw] at wu; cases wu
          | succ j =>
           cases k' with
           | zero => simp at hk; subst hk; rw [hw] at wu'; cases wu'
           | succ k' => exact ne j k' u u' v' (fun q => hjk (by rw [q])) hj hk wu wu' hv hv'
         ·cases j with
          | zero => simp at hj; subst hj; rw [hw] at wu; cases wu
          | succ j => exact z0o hx (fr j u v' hj wu hv a q)
        | true =>
         have hfrm : y3i mm = true := by
          have := hfr.1
          rw [hw] at this
          simpa using this
         obtain ⟨a, rfl, hna⟩ := hr.2 hfrm
         have hdl : ∃ es0, d = .list es0 := by
          exact q0s hfrm hd
         obtain ⟨es0, rfl⟩ := hdl
         obtain ⟨I1, ow⟩ := I.takeOwn hx hna hr.1 t
         refine ihr ms' ts _ ds' _ _ hms I1 hok.2 hfr.2 hds E _ fun vs h' tk' hx' ⟨l1, l2, X', Y', I', xx, yy, xn, yn, ft, ne, fr⟩ => ?_
         have hxx : Ext s.heap h' := hx.trans hx'
         have ow' : Fit c env W X' Y' ρ h' m cm t (.ref a) (.list es0) := Fit.grow (X := fun b => X b \/ b = a) (Y := fun b => Y b \/ b = a) (h := h1) ⟨fun q => by (rw [hw] at q; cases q), fun _ => ow⟩ hx' xx yn
         have ha1 : ∃ o, h1.get? a = some o := by obtain ⟨a0, ws, n, es, q1, _, q3, _⟩ := ow; cases q1; exact ⟨_, q3⟩
         refine k _ h' tk' hxx ⟨by simp [l1], by simp [l2], X', Y', I', fun b q => xx b (.inl q), fun b q => yy b (.inl q), fun b q => ?_, fun b q => ?_, fun j u v' d' hj hv hd' => ?_, fun j k' u u' v' hjk hj hk wu wu' hv hv' => ?_, fun j u v' hj wu hv b q => ?_⟩
         ·rcases xn b q with (q | q) | q
          ·exact .inl q
          ·exact .inr (q ▸ hna)
          ·exact .inr (z0o hx q)
         ·rcases yn b q with (q | q) | q
          ·exact .inl q
          ·exact .inr (q ▸ hna)
          ·exact .inr (z0o hx q)
         ·cases j with
          | zero =>
           simp at hj hv hd'
           subst hj hv hd'
           exact ow'
          | succ j => exact ft j u v' d' hj hv hd'
         ·obtain ⟨o1, ho1⟩ := ha1
          cases j with
          | zero =>
           cases k' with
           | zero => exact hjk rfl
           | succ k' =>
            simp at hj hv
            subst hv
            have := fr k' u' (.ref a) hk wu' hv' a rfl
            have this' : h1.get? a = none := this
            rw [ho1] at this'; cases this'
          | succ j =>
           cases k' with
           | zero =>
            simp at hk hv'
            subst hv'
            have := fr j u (.ref a) hj wu hv a rfl
            have this' : h1.get? a = none := this
            rw [ho1] at this'; cases this'
           | succ k' => exact ne j k' u u' v' (fun q => hjk (by rw [q])) hj hk wu wu' hv hv'
         ·cases j with
          | zero =>
           simp at hj hv
           subst hv
           cases q
           exact hna
          | succ j => exact z0o hx (fr j u v' hj wu hv b q)
       ·cases hev
end
end Mine
end
section
open PySem
namespace Mine
open PyProof.Rows PySem.W
noncomputable def z1s (l : List (Nat × D)) (ρ : List (Option D)) : List (Option D) := l.foldl (fun ρ p => ρ.set p.1 (some p.2)) ρ
theorem z6e : ∀ {ts : List Nat} {ds : List D} {ρ ρ' : List (Option D)}, z2t ts ds ρ = some ρ' -> ts.length = ds.length /\ ρ' = z1s (ts.zip ds) ρ
 | [], [], ρ, ρ', h => by simp [z2t] at h; subst h; exact ⟨rfl, rfl⟩
 | [], _ :: _, ρ, ρ', h => by simp [z2t] at h
 | _ :: _, [], ρ, ρ', h => by simp [z2t] at h
 | t :: ts, d :: ds, ρ, ρ', h => by
  simp only [z2t] at h
  obtain ⟨h1, h2⟩ := z6e h
  exact ⟨by simp [h1], by rw [h2]; rfl⟩
theorem z9m (t : Nat) (d : D) : ∀ (l : List (Nat × D)) (ρ : List (Option D)), (∀ p ∈ l, p.1 ≠ t) -> z1s l (ρ.set t (some d)) = (z1s l ρ).set t (some d)
 | [], ρ, _ => rfl
 | p :: l, ρ, h => by
  show z1s l ((ρ.set t (some d)).set p.1 (some p.2)) = (z1s l (ρ.set p.1 (some p.2))).set t (some d)
  rw [List.set_comm _ _ (Ne.symm (h p List.mem_cons_self)), z9m t d l _ fun q hq => h q (List.mem_cons_of_mem _ hq)]
theorem z7h (l k : List (Nat × D)) (ρ : List (Option D)) : z1s (l ++ k) ρ = z1s k (z1s l ρ) := List.foldl_append ..
theorem z6n : ∀ (l : List (Nat × D)) (ρ : List (Option D)), (l.map (·.1)).Nodup -> z1s l.reverse ρ = z1s l ρ
 | [], _, _ => rfl
 | p :: l, ρ, h => by
  rw [List.map_cons, List.nodup_cons] at h
  rw [List.reverse_cons, z7h, z6n l ρ h.2]
  show (z1s l ρ).set p.1 (some p.2) = z1s l (ρ.set p.1 (some p.2))
  rw [z9m p.1 p.2 l ρ fun q hq e => h.1 (e ▸ List.mem_map_of_mem hq)]
section
variable {c : TC} {mg mb : Str -> Option Value} {tab : List z0r} {ap : Addr} {env : Env} {W : List Nat} {h₀ : Heap} {Yc X Y : Addr -> Prop} {ρ : List (Option D)} {h h' : Heap} {m cm : Str -> Option Value}
inductive y3g (nv0 : Str -> Option Value) (c : TC) (env : Env) (W : List Nat) (h₀ : Heap) (Yc X Y : Addr -> Prop) (ρ : List (Option D)) (s : Shared) (ts : List Nat) (vs : List Value) (ds : List D) (k : Nat) (s' : Shared) : Prop
 | mk (h : Heap) (tk : Nat) (m cm : Str -> Option Value) (e : s' = { s with heap := h, toks := tk }) (I : INV c env W h₀ Yc X Y (z1s ((ts.zip ds).take k) ρ) h m cm) (x : ∀ b o, ¬ X b -> s.heap.get? b = some o -> h.get? b = some o) (y : ∀ y, (∀ t ∈ ts, c.names[t]? ≠ some y) -> z6w c m cm y = nv0 y)
  (f : ∀ (j t : Nat) (v : Value) (d : D), k <= j -> ts[j]? = some t -> vs[j]? = some v -> ds[j]? = some d -> Fit c env W X Y (z1s ((ts.zip ds).take k) ρ) h m cm t v d)
theorem y3g.start {s : Shared} {ts : List Nat} {vs : List Value} {ds : List D} (I : INV c env W h₀ Yc X Y ρ s.heap m cm) (ft : ∀ (j t : Nat) (v : Value) (d : D), ts[j]? = some t -> vs[j]? = some v -> ds[j]? = some d -> Fit c env W X Y ρ s.heap m cm t v d) :
  y3g (z6w c m cm) c env W h₀ Yc X Y ρ s ts vs ds 0 s := ⟨s.heap, s.toks, m, cm, rfl, I, fun _ _ _ e => e, fun _ _ => rfl, fun j t v d _ a b e => ft j t v d a b e⟩
theorem y3g.step {M : Model} {A : Around} {E : Value -> Shared -> Prop} {s s' : Shared} {xs : List Str} {ts : List Nat} {vs : List Value} {ds : List D} {k : Nat} {x : Str} {v : Value} {Q : Unit -> Shared -> Prop} (F : FS c mg mb tab ap env h₀ Yc)
  (hl : ts.length = ds.length) (hn : ∀ (k : Nat) (x : Str) (t : Nat), xs[k]? = some x -> ts[k]? = some t -> c.names[t]? = some x) (hnd : ts.Nodup) (hxt : xs.length = ts.length)
  (hne : ∀ (j k t u : Nat) (v : Value), j ≠ k -> ts[j]? = some t -> ts[k]? = some u -> W.contains t = true -> W.contains u = true -> vs[j]? = some v -> vs[k]? = some v -> False)
  (hx : xs[k]? = some x) (hv : vs[k]? = some v) {nv0 : Str -> Option Value} (J : y3g nv0 c env W h₀ Yc X Y ρ s ts vs ds k s') (hQ : ∀ s'', y3g nv0 c env W h₀ Yc X Y ρ s ts vs ds (k + 1) s'' -> Q () s'') : wpAny M A (storeName env x v) Q E s' := by
 obtain ⟨h, tk, m, cm, rfl, I, hext, hoth, ft⟩ := J
 have hk : k < ts.length := by rw [<- hxt]; exact (List.getElem?_eq_some_iff.mp hx).1
 have ht : ts[k]? = some ts[k] := List.getElem?_eq_getElem hk
 have hd : ds[k]? = some (ds[k]'(hl ▸ hk)) := List.getElem?_eq_getElem (hl ▸ hk)
 have fk := ft k _ v _ (Nat.le_refl _) ht hv hd
 have hz : (ts.zip ds)[k]? = some (ts[k], ds[k]'(hl ▸ hk)) := by
  rw [List.getElem?_zip_eq_some]; exact ⟨ht, hd⟩
 have htake : z1s ((ts.zip ds).take (k + 1)) ρ = (z1s ((ts.zip ds).take k) ρ).set ts[k] (some (ds[k]'(hl ▸ hk))) := by
  rw [List.take_add_one, hz, z7h]; rfl
 refine z6v F I (hn k x _ hx ht) fk.1 fk.2 fun h' tk' m' cm' I' hp hnv => hQ _ ⟨h', tk', m', cm', rfl, by rw [htake]; exact I', fun b o hb e => ?_, fun y hy => ?_, fun j t u d hj a b e => ?_⟩
 ·have e1 := hext b o hb e
  exact hp b o (fun q => hb (q ▸ I.lx)) (fun y a ha q => hb (q ▸ (I.cell y a ha).2.1)) e1
 ·rw [hnv, if_neg fun q => hy _ (List.mem_of_getElem? ht) (by rw [q]; exact hn k x _ hx ht)]
  exact hoth y hy
 ·have fj := ft j t u d (by exact o5 hj) a b e
  have hjk : j ≠ k := by exact o566 hj
  have htne : t ≠ ts[k] := fun q => hjk ((List.getElem?_inj (List.getElem?_eq_some_iff.mp a).1 hnd).mp (by rw [a, ht, q]))
  have up : ∀ b o, ¬ Y b -> h.get? b = some o -> h'.get? b = some o := fun b o hb e => hp b o (fun q => hb (q ▸ I.xy _ I.lx)) (fun y a ha q => hb (q ▸ I.xy _ (I.cell y a ha).2.1)) e
  refine ⟨fun w => z0k.move (fj.1 w) up fun _ _ _ q => q, fun w => ?_⟩
  obtain ⟨a', ws, n, es, h1, h2, h3, h4, h5, h6, h7, h8, h9⟩ := fj.2 w
  refine ⟨a', ws, n, es, h1, h2, hp a' _ h7 h8 h3, h4, h5.move up fun _ _ _ q => q, h6, h7, h8, fun i y d' hi hy wi hr q => ?_⟩
  rw [htake] at hr
  by_cases hik : i = ts[k]
  ·subst hik
   have hyx : y = x := by
    have := hn k x _ hx ht
    rw [this] at hy
    exact (Option.some.inj hy).symm
   subst hyx
   rw [hnv, if_pos rfl] at q
   have q' := Option.some.inj q
   exact hne k j ts[k] t v (Ne.symm hjk) ht a wi w hv (by rw [b, h1, q'])
  ·rw [List.getElem?_set_ne (Ne.symm hik)] at hr
   have hyx : y ≠ x := fun q => by
    subst q
    have := hn k y _ hx ht
    exact hik ((List.getElem?_inj (List.getElem?_eq_some_iff.mp hy).1 F.nodup).mp (hy.trans this.symm))
   rw [hnv, if_neg hyx] at q
   exact h9 i y d' hi hy wi hr q
theorem y3g.fin {s s' : Shared} {ts : List Nat} {vs : List Value} {ds : List D} (hl : ts.length = ds.length) {nv0 : Str -> Option Value} (J : y3g nv0 c env W h₀ Yc X Y ρ s ts vs ds ts.length s') :
  E4 fun h tk m cm => A4 (s' = { s with heap := h, toks := tk }) (INV c env W h₀ Yc X Y (z1s (ts.zip ds) ρ) h m cm) ((∀ b o, ¬ X b -> s.heap.get? b = some o -> h.get? b = some o)) ((∀ y, (∀ t ∈ ts, c.names[t]? ≠ some y) -> z6w c m cm y = nv0 y)) := by
 obtain ⟨h, tk, m, cm, e, I, hext, hoth, _⟩ := J
 have : (ts.zip ds).take ts.length = ts.zip ds := List.take_of_length_le (by simp [hl])
 rw [this] at I
 exact ⟨h, tk, m, cm, e, I, hext, hoth⟩
theorem y4i {M : Model} {A : Around} {E : Value -> Shared -> Prop} {env : Env} (J : Nat -> Shared -> Prop) (names : List Str) : ∀ (vs : List Value) (k : Nat) (s : Shared) (Q : Unit -> Shared -> Prop), vs.length = names.length ->
  (∀ (i : Nat) (x : Str) (v : Value) (s : Shared), names[i]? = some x -> vs[i]? = some v -> J (k + i) s -> ∀ Q : Unit -> Shared -> Prop, (∀ s', J (k + i + 1) s' -> Q () s') -> wpAny M A (storeName env x v) Q E s) ->
  J k s -> (∀ s', J (k + names.length) s' -> Q () s') -> wpAny M A (assignInOrder (names.map fun n => bindName env n) vs) Q E s := by
 induction names with
 | nil =>
  intro vs k s Q hl step h fin
  cases vs with
  | nil => exact wpAny_pure (fin s (by simpa using h))
  | cons => simp at hl
 | cons x l ih =>
  intro vs k s Q hl step h fin
  cases vs with
  | nil => simp at hl
  | cons v vs =>
   rw [List.map_cons]
   show wpAny M A (do holding vs (bindName env x v); assignInOrder (l.map fun n => bindName env n) vs) Q E s
   refine wpAny_bind (wpAny_holding (wpAny_bindName (step 0 x v s rfl rfl (by simpa using h) _ fun s' h' => ?_)))
   refine ih vs (k + 1) s' Q (by simpa using hl) (fun i y u s a b j Q hq => ?_) (by simpa using h') (fun s' h' => fin s' ?_)
   ·refine step (i + 1) y u s (by simpa using a) (by simpa using b) ?_ Q fun s' h' => hq s' ?_
    ·rw [show k + (i + 1) = k + 1 + i by exact o99]; exact j
    ·rw [show k + 1 + i + 1 = k + (i + 1) + 1 by exact o567]; exact h'
   ·rw [show k + (x :: l).length = k + 1 + l.length by simp; exact o99]; exact h'
end
end Mine
end
section
open PySem
namespace Mine
open PyProof.Rows PySem.W
noncomputable def y9w (W : List Nat) (ts : List Nat) : ME -> Bool
 | .tup ms => okE W ms && y8e W ts ms
 | e => okE W e && ts.all fun t => !W.contains t
noncomputable def okS (W : List Nat) : MS -> Bool
 | .skip => true
 | .seq s r => okS W s && okS W r
 | .asg x e => okE W e && (!W.contains x || y3i e)
 | .asgT ts e => y9w W ts e
 | .put x i e => W.contains x && okE W i && okE W e
 | .aug _ x e => !W.contains x && okE W e
 | .app x e => W.contains x && okE W e
 | .pop x => W.contains x
 | .ifs c t e => okB W c && okS W t && okS W e
 | .whl c b => okB W c && okS W b
 | .fors ts tt it b => okI W it && (ts.all fun t => !W.contains t) && (tt || !z9j it) && okS W b
 | .ret e => okE [] e
 | .ex e => okE W e
 | .bad => true
noncomputable def OutS (c : TC) (env : Env) (W : List Nat) (h₀ : Heap) (Yc X Y : Addr -> Prop) (hs : Heap) : Fl -> List (Option D) -> Flow -> Heap -> Prop
 | .next, ρ', f, h => f = .next /\ E4 fun X' Y' m cm => INV c env W h₀ Yc X' Y' ρ' h m cm /\ z7b X Y X' Y' hs h
 | .ret d, _, f, h => ∃ v, f = .ret v /\ Rep h Yc v d /\ Ext h₀ h
noncomputable def XS (M : Model) (A : Around) (c : TC) (env : Env) (W : List Nat) (h₀ : Heap) (Yc X Y : Addr -> Prop) (t : Sem Flow) (s : Shared) (fl : Fl) (ρ' : List (Option D)) : Prop :=
 ∀ (E : Value -> Shared -> Prop) (Q : Flow -> Shared -> Prop), (∀ f h tk, OutS c env W h₀ Yc X Y s.heap fl ρ' f h -> Q f { s with heap := h, toks := tk }) -> wpAny M A t Q E s
section
variable {c : TC} {mg mb : Str -> Option Value} {tab : List z0r} {ap : Addr} {env : Env} {W : List Nat} {h₀ : Heap} {Yc X Y : Addr -> Prop} {ρ ρ' : List (Option D)} {h h' : Heap} {m cm : Str -> Option Value}
variable {prog : Program} {w : World} {Φ : Nat -> List D -> Option D} {lev n N : Nat} {A : Around} {s : Shared} {fl : Fl}
theorem z5f {v : Expr} {t : Option Expr} {l : Nat} {mv : ME} (ht : trE n c v = some mv) (hc : ∀ a b d e, v ≠ .ListComp a b d e) : swapsWith v t l env = pure false := by
 cases v <;> first
  | rfl
  | exact absurd rfl (hc _ _ _ _)
  | (cases n <;> exact z0a ht)
set_option tactic.hygienic true in
theorem z1j {x : Str} {i : Nat} (h : z3u c x = some i) : c.names[i]? = some x /\ (c.sc.names.lookup x = some .local \/ c.sc.names.lookup x = some .cell) := by
 have idx : c.names.idxOf? x = some i -> c.names[i]? = some x := fun hj => by
  obtain ⟨h1, h2, h3⟩ := List.idxOf?_eq_some_iff.mp hj
  rw [List.getElem?_eq_getElem h1, h2]
 unfold z3u at h
 split at h
 ·rename_i q; exact ⟨idx h, .inl q⟩
 ·rename_i q; exact ⟨idx h, .inr q⟩
 ·cases h
set_option tactic.hygienic true in
theorem z5h : ∀ {xs : List Str} {ts : List Nat}, z1x c xs = some ts -> xs.length = ts.length /\ ∀ (k : Nat) (x : Str) (t : Nat), xs[k]? = some x -> ts[k]? = some t -> c.names[t]? = some x
 | [], ts, h => by simp [z1x] at h; subst h; exact ⟨rfl, by simp⟩
 | x :: r, ts, h => by
  simp only [z1x] at h
  split at h
  ·rename_i i l h1 h2
   cases h
   obtain ⟨e1, e2⟩ := z5h h2
   refine ⟨by simp [e1], fun k y t a b => ?_⟩
   cases k with
   | zero => simp at a b; subst a b; exact (z1j h1).1
   | succ k => exact e2 k y t (by simpa using a) (by simpa using b)
  ·cases h
theorem y0f {xs : List Str} {ts : List Nat} (h : z1x c xs = some ts) (hn : xs.Nodup) : ts.Nodup := by
 obtain ⟨e1, e2⟩ := z5h h
 rw [List.nodup_iff_pairwise_ne, List.pairwise_iff_getElem]
 intro i j hi hj hij q
 have a := e2 i xs[i] ts[i] (List.getElem?_eq_getElem (by exact q2o hi e1)) (List.getElem?_eq_getElem hi)
 have b := e2 j xs[j] ts[j] (List.getElem?_eq_getElem (by exact q2o hj e1)) (List.getElem?_eq_getElem hj)
 rw [q] at a
 rw [a] at b
 have b' := Option.some.inj b
 have hi' : i < xs.length := by exact q2o hi e1
 have hj' : j < xs.length := by exact q2o hj e1
 have := (List.getElem?_inj (i := i) (j := j) hi' hn).mp (by rw [List.getElem?_eq_getElem hi', List.getElem?_eq_getElem hj', b'])
 exact o568 hij this
theorem y5v {x : Str} {i : Nat} {v : Value} {d : D} {hs : Heap} {X₀ Y₀ : Addr -> Prop} {E : Value -> Shared -> Prop} {Q : Unit -> Shared -> Prop} (F : FS c mg mb tab ap env h₀ Yc) (I : INV c env W h₀ Yc X Y ρ s.heap m cm) (hi : c.names[i]? = some x)
  (ft : Fit c env W X Y ρ s.heap m cm i v d) (xy : ∀ a, X₀ a -> Y₀ a) (g : z7b X₀ Y₀ X Y hs s.heap) (k : ∀ h tk, (E4 fun X' Y' m cm => INV c env W h₀ Yc X' Y' (ρ.set i (some d)) h m cm /\ z7b X₀ Y₀ X' Y' hs h) -> Q () { s with heap := h, toks := tk }) :
  wpAny (model prog w) A (storeName env x v) Q E s :=
 z6v F I hi ft.1 ft.2 fun h' tk' m' cm' I' hp hnv => k h' tk' ⟨X, Y, m', cm', I', g.trans xy ⟨fun _ q => q, fun _ q => q, fun _ q => .inl q, fun _ q => .inl q, fun b o hb e => hp b o (fun q => hb (q ▸ I.lx)) (fun y a ha q => hb (q ▸ (I.cell y a ha).2.1)) e⟩⟩
theorem fit_of (I : INV c env W h₀ Yc X Y ρ h m cm) (hx : Ext h h') {i : Nat} {v : Value} {d : D} {me : ME} {κ : List D} (r : Rep h' Y v d) (hv : ev Φ ρ me κ = some d) (hf : W.contains i = true -> y3i me = true) (fr : y3i me = true -> ∃ a, v = .ref a /\ h.get? a = none) :
  E2 fun X' Y' => A3 (INV c env W h₀ Yc X' Y' ρ h' m cm) (z7b X Y X' Y' h h') (Fit c env W X' Y' ρ h' m cm i v d) := by
 cases hw : W.contains i with
 | false => exact ⟨X, Y, I.after hx, z7b.ofExt hx (fun _ q => q) (fun _ q => .inl q), fun _ => r, fun q => by (rw [hw] at q; cases q)⟩
 | true =>
  obtain ⟨a, rfl, hn⟩ := fr (hf hw)
  obtain ⟨l, rfl⟩ := q0s (hf hw) hv
  obtain ⟨I', o⟩ := I.takeOwn hx hn r i
  refine ⟨_, _, I', ⟨fun _ q => .inl q, fun _ q => .inl q, fun b q => q.imp_right fun q => by rw [q]; exact hn, fun b q => q.imp_right fun q => by rw [q]; exact hn, fun b o _ e => hx b o e⟩, fun q => by (rw [hw] at q; cases q), fun _ => o⟩
theorem y6a {elt : Expr} {gens : List Comprehension} {sc : Scope} {pos : Pos} {me : ME} (h : trE (n + 1) c (.ListComp elt gens sc pos) = some me) : E8 fun tgt it ifs cn tt mi mt mc => A8 (gens = [⟨tgt, it, ifs, 0⟩]) (z1b tgt = some (cn, tt)) (z2f c sc cn = true) ((tt == (cn.length != 1)) = true) (z4c (trE n) c it = some mi) (trE n { c with sc := sc, cn := cn } elt = some mt) (((ifs = [] /\ mc = .bool true) \/ (∃ t, ifs = [t] /\ trE n { c with sc := sc, cn := cn } t = some mc))) (me = .comp mt cn.length mi mc) := by
 cases z7v h with
 | comp htg h1 h2 hmi hmt hc => exact ⟨_, _, _, _, _, _, _, _, rfl, htg, h1, h2, hmi, hmt, hc, rfl⟩
set_option tactic.hygienic true in
theorem xs_asg (CO : z4k prog w mg mb tab ap Φ lev) (R : z3o lev A) (F : FS c mg mb tab ap env h₀ Yc) (I : INV c env W h₀ Yc X Y ρ s.heap m cm) {x : Str} {p pos : Pos} {v : Expr} {i : Nat} {mv : ME} {d : D}
  (hi : c.names[i]? = some x) (ht : trE n c v = some mv) (hok : okE W mv = true) (hf : W.contains i = true -> y3i mv = true) (hv : ev Φ ρ mv [] = some d) :
  XS (model prog w) A c env W h₀ Yc X Y (exec (.Assign [.Name x p] v pos) env) s .next (ρ.set i (some d)) := fun E Q k => by
 have normal : swapsWith v (some (.Name x p)) pos.line env = pure false -> wpAny (model prog w) A (exec (.Assign [.Name x p] v pos) env) Q E s := fun hs => by
  refine wpAny_Assign_Name ((y1f CO n c v mv ht env ρ [] W Y A s R (I.cx F)).E d hok hv E _ fun u h tk hx hr => ?_) hs
  obtain ⟨X', Y', I', g, ft⟩ := fit_of I hx hr.1 hv hf hr.2
  exact y5v (s := { s with heap := h, toks := tk }) F I' hi ft I.xy g fun h' tk' o => k .next h' tk' ⟨rfl, o⟩
 by_cases hc : ∃ a b d e, v = .ListComp a b d e
 ·obtain ⟨elt, gens, sc, cpos, rfl⟩ := hc
  have hsw : ∃ b, swapsWith (.ListComp elt gens sc cpos) (some (.Name x p)) pos.line env = pure b := ⟨_, rfl⟩
  obtain ⟨b, hb⟩ := hsw
  cases b with
  | false => exact normal hb
  | true =>
   cases n with
   | zero => exact z0a ht
   | succ n =>
    obtain ⟨tgt, it, ifs, cn, tt, mi, mt, mc, rfl, htg, hok', htt, hmi, hme, hifs, rfl⟩ := y6a ht
    have ih := y1f CO n
    have hok := and4 hok
    obtain ⟨⟨⟨o1, o2⟩, o3⟩, o4⟩ := hok
    have hv0 := hv
    simp only [ev] at hv
    split at hv
    ·cases hv
    ·rename_i xx hxx
     split at hv
     ·cases hv
     ·rename_i items hs
      split at hv
      ·cases hv
      ·rename_i l hl
       cases hv
       have K := y0v hok'
       have htt' : tt = (cn.length != 1) := by simpa using htt
       have hnm : (!z9j mi) = true \/ tt = true := by
        rcases o4 with q | q
        ·right; rw [htt']; exact q
        ·left; exact q
       have X1 := I.cx F
       rw [exec_Assign_Name_used _ _ _ _ hb]
       refine wpAny_bind (wpAny_standAt (wpAny_bind ?_))
       show wpAny _ A (do let _ <- comprehension (.ListComp elt [⟨tgt, it, ifs, 0⟩] sc cpos) sc env _ (newList []) false (eval it env) (some (assign (.Name x p) env))) _ _ s
       refine wpAny_bind (wpAny_mono (wpAny_comprehension_free (use := some (assign (.Name x p) env)) (Q := fun _ s' => Q .next s') (cl := z0i env sc.names []) rfl (z5l hmi) (z5p fun y hy e => (X1.cells K.outer y.1 (K.free y hy e)).2.1) K.kind K.locs ?_)
        (fun _ s' hq => wpAny_pure (wpAny_pure hq)) fun _ _ e => e)
       refine z9z ih R X1 hmi o2 hxx hs E _ fun itv h₂ tk₂ hx₂ hlen hit => ?_
       refine y1z (s₀ := s) (s₂ := { s with heap := h₂, toks := tk₂ }) (RR := fun acc C => compPost (model prog w) A E (some (assign (.Name x p) env)) (fun _ s' => Q .next s') acc C) R.hh X1 K htg hnm hx₂ hit (htt' ▸ hl) hlen
        (fun env' κ' Y' s' d X' hd => ((ih _ elt mt hme env' ρ κ' W Y' A s' R X').E d o1 hd).mono fun _ _ _ p => p.1) (y6b ih R hifs o3) ?_
       intro D C h' tk m' hD hC hDC hn hx' hr
       show wpAny _ A (assign (.Name x p) env (.ref D)) _ _ _
       have hC0 : s.heap.get? C = none := z0o hx₂ (get?_none_of_size hC)
       have hD0 : s.heap.get? D = none := z0o hx₂ (get?_none_of_size hD)
       have hCe : ∃ o, h'.get? C = some o := by obtain ⟨o, _, _, e, _⟩ := hn; exact ⟨o, e⟩
       have hC0' : h₀.get? C = none := z0o I.keep hC0
       have hxC : ¬ X C := fun q => by
        obtain ⟨o, e⟩ := I.ya C (I.xy C q)
        rw [hC0] at e; cases e
       have hal : ∀ b, (Y b \/ b = C) -> ∃ o, h'.get? b = some o := fun b q => by
        rcases q with q | q
        ·obtain ⟨o, e⟩ := I.ya b q; exact ⟨o, hx' b o e⟩
        ·rw [q]; exact hCe
       have hn2 : ∀ b, (Y b \/ b = C) -> Y b \/ s.heap.get? b = none := fun b q => q.imp_right fun q => by rw [q]; exact hC0
       have fin : ∀ (X' Y' : Addr -> Prop) (m₁ cm₁ : Str -> Option Value) (h₁ : Heap) (tk₁ : Nat), Y' C -> ¬ X' C -> INV c env W h₀ Yc X' Y' (ρ.set i (some (.list l))) h₁ m₁ cm₁ -> z7b X Y X' Y' s.heap h₁ -> h₁.Ns C m' ->
         ∃ m, (({ s with heap := h₁, toks := tk₁ } : Shared)).heap.Ns C m /\ ∀ h₃, Heap.SameBut C ({ s with heap := h₁, toks := tk₁ } : Shared).heap h₃ -> Q .next { s with heap := h₃, toks := tk₁ } := fun X' Y' m₁ cm₁ h₁ tk₁ hyC hxC' I₁ g₁ hn₁ => by
        refine ⟨m', hn₁, fun h₃ hs₃ => k .next h₃ tk₁ ⟨rfl, X', _, m₁, cm₁, I₁.dropC F.yc hyC hxC' hC0' hs₃, g₁.x, fun a q => ⟨g₁.y a q, fun e => ?_⟩, g₁.xn, fun a q => g₁.yn a q.1, fun b o hb e => ?_⟩⟩
        ·obtain ⟨o, e1⟩ := I.ya a q
         rw [e, hC0] at e1; cases e1
        ·refine (hs₃.2 b fun q => ?_).trans (g₁.ext b o hb e)
         rw [q, hC0] at e; cases e
       refine wpAny_assign_Name ?_
       have store : ∀ (X₁ Y₁ : Addr -> Prop), Y₁ C -> ¬ X₁ C -> INV c env W h₀ Yc X₁ Y₁ ρ h' m cm -> z7b X Y X₁ Y₁ s.heap h' -> Fit c env W X₁ Y₁ ρ h' m cm i (.ref D) (.list l) ->
         wpAny (model prog w) A (storeName env x (.ref D)) (fun _ s'' => ∃ m, s''.heap.Ns C m /\ ∀ h', Heap.SameBut C s''.heap h' -> Q .next { s'' with heap := h' }) E { s with heap := h', toks := tk } := fun X₁ Y₁ hyC hxC₁ I₁ g₁ ft => by
        refine z6v (s := { s with heap := h', toks := tk }) F I₁ hi ft.1 ft.2 fun h₁ tk₁ m₁ cm₁ I₂ hp hnv => ?_
        refine fin X₁ Y₁ m₁ cm₁ h₁ tk₁ hyC hxC₁ I₂ (g₁.trans I.xy ⟨fun _ q => q, fun _ q => q, fun _ q => .inl q, fun _ q => .inl q, fun b o hb e => hp b o (fun q => hb (q ▸ I₁.lx)) (fun y a ha q => hb (q ▸ (I₁.cell y a ha).2.1)) e⟩) ?_
        exact hn.at' fun o e => hp C o (fun q => hxC₁ (q ▸ I₁.lx)) (fun y a ha q => hxC₁ (q ▸ (I₁.cell y a ha).2.1)) e
       cases hw : W.contains i with
       | false =>
        refine store X (fun a => Y a \/ a = C) (.inr rfl) hxC (I.move (fun b o _ e => hx' b o e) (fun _ q => .inl q) hn2 hal) ?_ ⟨fun _ => hr, fun q => by (rw [hw] at q; cases q)⟩
        exact ⟨fun _ q => q, fun _ q => .inl q, fun _ q => .inl q, hn2, fun b o _ e => hx' b o e⟩
       | true =>
        obtain ⟨I₁, o⟩ := I.takeOwn2 hx' (Y₂ := fun a => Y a \/ a = C) (fun _ q => .inl q) hn2 hal hD0 hr i
        refine store _ _ (.inl (.inr rfl)) (fun q => q.elim hxC (fun q => hDC q.symm)) I₁ ?_ ⟨fun q => by (rw [hw] at q; cases q), fun _ => o⟩
        exact ⟨fun _ q => .inl q, fun _ q => .inl (.inl q), fun b q => q.imp_right fun q => by rw [q]; exact hD0, fun b q => q.elim (fun q => hn2 b q) fun q => .inr (by rw [q]; exact hD0), fun b o _ e => hx' b o e⟩
 ·exact normal (z5f ht fun a b d e q => hc ⟨a, b, d, e, q⟩)
end
end Mine
end
section
open PySem
namespace Mine
open PyProof.Rows PySem.W
section
variable {c : TC} {mg mb : Str -> Option Value} {tab : List z0r} {ap : Addr} {env : Env} {W : List Nat} {h₀ : Heap} {Yc X Y : Addr -> Prop} {ρ ρ' : List (Option D)} {h h' : Heap} {m cm : Str -> Option Value}
variable {prog : Program} {w : World} {Φ : Nat -> List D -> Option D} {lev n N : Nat} {A : Around} {s : Shared} {fl : Fl}
noncomputable def z5i (env : Env) (line : Nat) : Expr -> Option Str
 | .Name id pos => if env.kindOf id == some .local && pos.line == line then some id else none
 | _ => none
theorem y7t (line : Nat) (es : List Expr) : ∀ {xs : List Str}, z1l es = some xs -> (es.filterMap (z5i env line)).length <= xs.length /\ ((es.filterMap (z5i env line)).length = xs.length -> es.filterMap (z5i env line) = xs) := by
 induction es with
 | nil => intro xs h; rw [z5j h]; exact ⟨Nat.le_refl _, fun _ => rfl⟩
 | cons e r ih =>
  intro xs h
  obtain ⟨x, p, l, rfl, hl, rfl⟩ := z4p h
  obtain ⟨h1, h2⟩ := ih hl
  rw [List.filterMap_cons]
  cases hp : z5i env line (.Name x p) with
  | none => simp only; exact ⟨Nat.le_succ_of_le h1, fun q => absurd (Nat.le_trans (Nat.le_of_eq q.symm) h1) (Nat.not_succ_le_self _)⟩
  | some y =>
   simp only
   have : y = x := by
    simp only [z5i] at hp
    split at hp
    ·exact (Option.some.inj hp).symm
    ·cases hp
   subst this
   refine ⟨Nat.succ_le_succ h1, fun q => ?_⟩
   rw [h2 (by simpa using q)]
set_option tactic.hygienic true in
theorem z7y {es vs : List Expr} {xs : List Str} {k k2 : Nat} {p p2 : Pos} (hn : z1l es = some xs) (hc : vs.all (constantsAlone 8) = false) :
  swappedStores [.Tuple es k p] (.Tuple vs k2 p2) env = pure none \/ swappedStores [.Tuple es k p] (.Tuple vs k2 p2) env = pure (some xs) := by
 unfold swappedStores
 dsimp only
 have hlen := y4z es hn
 split
 ·exact .inl rfl
 ·split
  ·exact .inl rfl
  ·split
   ·exact .inl rfl
   ·rename_i h3
    split
    ·exact .inl rfl
    ·rw [hc]
     right
     have h3' := h3
     simp only [Bool.or_eq_true, not_or, bne_iff_ne, ne_eq, Decidable.not_not] at h3'
     have e1 := h3'.1
     have e1' : (es.filterMap (z5i env ((es.head?.map (·.pos.line)).getD 0))).length = es.length := e1
     have key := (y7t (env := env) ((es.head?.map (·.pos.line)).getD 0) es hn).2 (by rw [e1']; exact hlen)
     show (pure (some (es.filterMap (z5i env ((es.head?.map (·.pos.line)).getD 0)))) : Sem (Option (List Str))) = pure (some xs)
     rw [key]
theorem y5h {ts : List Nat} {ds : List D} (hl : ts.length = ds.length) (hn : ts.Nodup) : z1s (ts.reverse.zip ds.reverse) ρ = z1s (ts.zip ds) ρ := by
 have zr : ts.reverse.zip ds.reverse = (ts.zip ds).reverse := by
  rw [List.zip_eq_zipWith, List.zip_eq_zipWith, List.reverse_zipWith hl]
 rw [zr, z6n]
 rw [List.map_fst_zip (by exact Nat.le_of_eq hl)]
 exact hn
theorem z7n (R : z3o lev A) (F : FS c mg mb tab ap env h₀ Yc) {X₀ Y₀ : Addr -> Prop} {hs : Heap} (I : INV c env W h₀ Yc X Y ρ s.heap m cm) (g : z7b X₀ Y₀ X Y hs s.heap) (xy : ∀ a, X₀ a -> Y₀ a) {es : List Expr} {k : Nat} {tp : Pos} {value : Expr} {xs : List Str} {ts : List Nat} {ds : List D} {t : Addr} {vs : List Value} {nn : Nat}
  (hn : z1l es = some xs) (hts : z1x c xs = some ts) (hnd : xs.Nodup) (hset : z2t ts ds ρ = some ρ') (ht : s.heap.get? t = some { cls := .type "tuple", data := .seq vs.toArray nn }) (hl : vs.length = ds.length)
  (ft : ∀ (j t : Nat) (v : Value) (d : D), ts[j]? = some t -> vs[j]? = some v -> ds[j]? = some d -> Fit c env W X Y ρ s.heap m cm t v d)
  (hne : ∀ (j k t u : Nat) (v : Value), j ≠ k -> ts[j]? = some t -> ts[k]? = some u -> W.contains t = true -> W.contains u = true -> vs[j]? = some v -> vs[k]? = some v -> False)
  (hsw : swappedStores [.Tuple es k tp] value env = pure none \/ swappedStores [.Tuple es k tp] value env = pure (some xs)) {E : Value -> Shared -> Prop} {Q : Flow -> Shared -> Prop}
  (kk : ∀ h tk, (E2 fun m' cm' => A4 (INV c env W h₀ Yc X Y ρ' h m' cm') (z7b X₀ Y₀ X Y hs h) ((∀ b o, ¬ X b -> s.heap.get? b = some o -> h.get? b = some o)) ((∀ y, (∀ t ∈ ts, c.names[t]? ≠ some y) -> z6w c m' cm' y = z6w c m cm y))) -> Q .next { s with heap := h, toks := tk }) :
  wpAny (model prog w) A (do assignStores env (.ref t) (<- swappedStores [.Tuple es k tp] value env) ((assignEach [.Tuple es k tp] env).map (·.2))) Q E s := by
 obtain ⟨hxl, hxt⟩ := z5h hts
 obtain ⟨hsl, rfl⟩ := z6e hset
 have htn := y0f hts hnd
 have hvx : vs.length = xs.length := by exact o569 hsl hl hxl
 have hT : s.heap.IsTuple t vs.toArray := ⟨_, ht, rfl, nn, rfl⟩
 rcases hsw with e | e
 ·rw [e]
  refine wpAny_bind (wpAny_pure ?_)
  show wpAny _ A (do assignAll (.ref t) [assign (.Tuple es k tp) env]; pure .next) Q E s
  refine wpAny_bind ?_
  obtain ⟨e1, e2⟩ := z5u es env hn
  show wpAny _ A (assign (.Tuple es k tp) env (.ref t)) _ E s
  refine wpAny_assign_Tuple (items := vs.toArray) R.hh hT (by rw [e1]; simp [hvx]) e2 fun h' hx => ?_
  have hx' : Ext s.heap h' := fun b o e => hx b o (Nat.ne_of_lt (Heap.lt_size e)) e
  have I' := I.after hx'
  refine z9r (y3g (z6w c m cm) c env W h₀ Yc X Y ρ { s with heap := h' } ts vs ds) es xs vs 0 _ _ hn hvx (fun i x v s' a b J Q' hQ' => ?_) (y3g.start I' fun j t v d a b e => (ft j t v d a b e).grow hx' (fun _ q => q) fun _ q => .inl q) fun s' J => ?_
  ·rw [Nat.zero_add] at J
   exact y3g.step F hsl hxt htn hxl hne a b J fun s'' J' => hQ' s'' (by rw [Nat.zero_add]; exact J')
  ·rw [Nat.zero_add, hxl] at J
   obtain ⟨h2, tk2, m2, cm2, rfl, I2, ext2, oth2⟩ := y3g.fin hsl J
   exact wpAny_pure (kk h2 tk2 ⟨m2, cm2, I2, g.trans xy ⟨fun _ q => q, fun _ q => q, fun _ q => .inl q, fun _ q => .inl q, fun b o hb e => ext2 b o hb (hx' b o e)⟩, fun b o hb e => ext2 b o hb (hx' b o e), oth2⟩)
 ·rw [e]
  refine wpAny_bind (wpAny_pure ?_)
  show wpAny _ A (do rule "assign.swapped-stores"; let items <- unpackItems (.ref t) xs.length none; assignInOrder (xs.reverse.map fun n => bindName env n) items.reverse; pure .next) Q E s
  refine wpAny_bind (wpAny_rule (wpAny_bind ?_))
  have hsz : xs.length = vs.toArray.size := by rw [List.size_toArray, hvx]
  rw [hsz]
  refine wpAny_unpackItems_tuple R.hh hT fun h' hx => wpAny_bind ?_
  have hx' : Ext s.heap h' := fun b o e => hx b o (Nat.ne_of_lt (Heap.lt_size e)) e
  have I' := I.after hx'
  have rv : ∀ {α : Type} {l : List α} {j : Nat} {x : α}, l.reverse[j]? = some x -> ∃ j', l[j']? = some x /\ j < l.length /\ j' = l.length - 1 - j := fun {α l j x} q => by
   have hj : j < l.length := by have := (List.getElem?_eq_some_iff.mp q).1; simpa using this
   rw [List.getElem?_reverse hj] at q
   exact ⟨_, q, hj, rfl⟩
  refine y4i (y3g (z6w c m cm) c env W h₀ Yc X Y ρ { s with heap := h' } ts.reverse vs.reverse ds.reverse) xs.reverse vs.reverse 0 _ _ (by simp [hvx]) (fun i x v s' a b J Q' hQ' => ?_) (y3g.start I' fun j t v d a b e => ?_) fun s' J => ?_
  ·rw [Nat.zero_add] at J
   refine y3g.step F (xs := xs.reverse) (by simpa using hsl) (fun k x t a b => ?_) (List.nodup_iff_pairwise_ne.mpr (List.pairwise_reverse.mpr ((List.nodup_iff_pairwise_ne.mp htn).imp fun q e => q e.symm))) (by simpa using hxl) (fun j k t u v hjk a b wt wu c d => ?_) a b J fun s'' J' => hQ' s'' (by rw [Nat.zero_add]; exact J')
   ·obtain ⟨k1, e1, hk1, rfl⟩ := rv a
    obtain ⟨k2, e2, hk2, rfl⟩ := rv b
    exact hxt _ x t e1 (by rw [hxl]; exact e2)
   ·obtain ⟨k1, e1, hk1, rfl⟩ := rv a
    obtain ⟨k2, e2, hk2, rfl⟩ := rv b
    obtain ⟨k3, e3, hk3, rfl⟩ := rv c
    obtain ⟨k4, e4, hk4, rfl⟩ := rv d
    rw [hvx, hxl] at e3 e4
    exact hne _ _ t u v (by exact o570 hk2 hk1 hjk) e1 e2 wt wu e3 e4
  ·obtain ⟨k1, e1, hk1, rfl⟩ := rv a
   obtain ⟨k2, e2, hk2, rfl⟩ := rv b
   obtain ⟨k3, e3, hk3, rfl⟩ := rv e
   rw [hvx, hxl] at e2
   rw [<- hsl] at e3
   exact (ft _ t v d e1 e2 e3).grow hx' (fun _ q => q) fun _ q => .inl q
  ·rw [Nat.zero_add, List.length_reverse, hxl, <- List.length_reverse (as := ts)] at J
   obtain ⟨h2, tk2, m2, cm2, rfl, I2, ext2, oth2⟩ := y3g.fin (by simpa using hsl) J
   rw [y5h hsl htn] at I2
   exact wpAny_pure (kk h2 tk2 ⟨m2, cm2, I2, g.trans xy ⟨fun _ q => q, fun _ q => q, fun _ q => .inl q, fun _ q => .inl q, fun b o hb e => ext2 b o hb (hx' b o e)⟩, fun b o hb e => ext2 b o hb (hx' b o e), fun y hy => oth2 y fun t ht => hy t (List.mem_reverse.mp ht)⟩)
theorem y8t {vs : List Expr} {k : Nat} {p : Pos} {me : ME} (h : trE n c (.Tuple vs k p) = some me) : E2 fun n' ms => A4 (n = n' + 1) (me = .tup ms) (z1c (trE n') c vs = some ms) (vs.length <= 1000) := by
 cases n with
 | zero => exact z0a h
 | succ n =>
  cases z7v h with
  | tup hl hq => exact ⟨n, _, rfl, rfl, hq, hl⟩
set_option tactic.hygienic true in
theorem y4j (CO : z4k prog w mg mb tab ap Φ lev) (R : z3o lev A) (F : FS c mg mb tab ap env h₀ Yc) (I : INV c env W h₀ Yc X Y ρ s.heap m cm) {es : List Expr} {k : Nat} {tp pos : Pos} {v : Expr} {xs : List Str} {ts : List Nat} {mv : ME} {ds : List D}
  (hn : z1l es = some xs) (hts : z1x c xs = some ts) (hnd : xs.Nodup) (hac : z5r v = false) (ht : trE n c v = some mv) (hok : y9w W ts mv = true) (hv : ev Φ ρ mv [] = some (.tup ds)) (hset : z2t ts ds ρ = some ρ') :
  ∀ (E : Value -> Shared -> Prop) (Q : Flow -> Shared -> Prop), (∀ h tk X' Y' m' cm', INV c env W h₀ Yc X' Y' ρ' h m' cm' -> z7b X Y X' Y' s.heap h -> (∀ y, (∀ t ∈ ts, c.names[t]? ≠ some y) -> z6w c m' cm' y = z6w c m cm y) -> Q .next { s with heap := h, toks := tk }) ->
   wpAny (model prog w) A (exec (.Assign [.Tuple es k tp] v pos) env) Q E s := fun E Q kq => by
 have hsole : swapsWithSole [.Tuple es k tp] v pos.line env = pure false := by
  show swapsWith v (some (.Tuple es k tp)) pos.line env = pure false
  by_cases hc : ∃ a b d e, v = .ListComp a b d e
  ·obtain ⟨a, b, d, e, rfl⟩ := hc; rfl
  ·exact z5f ht fun a b d e q => hc ⟨a, b, d, e, q⟩
 rw [exec_Assign]
 refine wpAny_bind (wpAny_standAt ?_)
 rw [hsole]
 refine wpAny_bind (wpAny_pure ?_)
 rw [if_neg (by decide)]
 refine wpAny_bind ?_
 by_cases htup : ∃ vs k2 p2, v = .Tuple vs k2 p2
 ·obtain ⟨vs, k2, p2, rfl⟩ := htup
  obtain ⟨n', ms, rfl, rfl, hms, hlen⟩ := y8t ht
  simp only [y9w, Bool.and_eq_true] at hok
  simp only [ev] at hv
  split at hv
  ·rename_i ds' hds
   cases hv
   refine Tuple_ (y9d (y1f CO n') R F vs ms ts s ds X Y hms I hok.1 hok.2 hds E _ fun us h1 tk1 hx1 ⟨l1, l2, X', Y', I', xx, yy, xn, yn, ft, ne, fr⟩ => ?_)
   have hul : us.length <= LEN := by
    have z := z8k vs hms hds
    rw [l1, z, z2v]
    exact Nat.le_trans hlen (by decide)
   refine wpAny_newObj_type ?_ (by show us.toArray.size <= sizeLine; rw [List.size_toArray]; exact Nat.le_trans hul z5d)
   have hx2 : Ext h1 (h1.push { cls := .type "tuple", data := .seq us.toArray }) := Ext.push _ _
   have I2 := I'.after hx2
   refine z7n (s := { s with heap := h1.push { cls := .type "tuple", data := .seq us.toArray }, toks := tk1 }) (hs := s.heap) R F I2 ⟨xx, yy, xn, yn, fun b o _ e => hx2 b o (hx1 b o e)⟩ I.xy hn hts hnd hset (Heap.get?_push_size _ rfl) l1
    (fun j t v d a b e => (ft j t v d a b e).grow hx2 (fun _ q => q) fun _ q => .inl q) ne (z7y hn hac) fun h tk ⟨m', cm', o1, o2, _, o4⟩ => kq h tk _ _ m' cm' o1 o2 o4
  ·cases hv
 ·have hmv : ∀ ms, mv ≠ .tup ms := fun ms q => by
   subst q
   apply htup
   cases n with
   | zero => exact z0a ht
   | succ n =>
    cases z7v ht with
    | tup hl h => exact ⟨_, _, _, rfl⟩
    | @const k kk p _ h => cases k <;> first | exact z0a h | exact ME.noConfusion (Option.some.inj h)
    | name hd h => exact (look_tup h).elim
    | call hd h => exact (trCall_tup h).elim
  have hok2 : okE W mv = true /\ (ts.all fun t => !W.contains t) = true := by
   unfold y9w at hok
   split at hok
   ·exact absurd rfl (hmv _)
   ·rwa [Bool.and_eq_true] at hok
  have hnone : swappedStores [.Tuple es k tp] v env = pure none := by
   cases v <;> first
    | rfl
    | exact absurd ⟨_, _, _, rfl⟩ htup
  refine (y1f CO n c v mv ht env ρ [] W Y A s R (I.cx F)).E _ hok2.1 hv E _ fun u h1 tk1 hx1 hr => ?_
  obtain ⟨a, ws, nn, rfl, hya, hg, hl, r1⟩ := hr.1.tup_inv
  have nw : ∀ (j t : Nat), ts[j]? = some t -> W.contains t = false := fun j t q => by
   have := List.all_eq_true.mp hok2.2 t (List.mem_of_getElem? q)
   simpa using this
  refine z7n (s := { s with heap := h1, toks := tk1 }) (hs := s.heap) R F (I.after hx1) (z7b.ofExt hx1 (fun _ q => q) fun _ q => .inl q) I.xy hn hts hnd hset hg r1.length (fun j t v d a b e => ⟨fun _ => ?_, fun q => by (rw [nw j t a] at q; cases q)⟩)
   (fun j k t u v _ a _ wt _ _ _ => by rw [nw j t a] at wt; cases wt) (.inl hnone) fun h tk ⟨m', cm', o1, o2, _, o4⟩ => kq h tk _ _ m' cm' o1 o2 o4
  obtain ⟨d', e1, q⟩ := r1.at' b
  rw [e] at e1; cases e1; exact q
where
 look_tup {x : Str} {ms : ME} (h : c.look x = some (.tup ms)) : False := by
  unfold TC.look at h
  repeat' (first | (cases h; done) | (obtain ⟨_, _, q⟩ := Option.map_eq_some_iff.mp h; cases q; done) | split at h)
 trCall_tup {x : Str} {as : Option ME} {ms : ME} (h : z7w c x as = some (.tup ms)) : False := by
  unfold z7w at h
  repeat' (first | (cases h; done) | (obtain ⟨_, _, q⟩ := Option.map_eq_some_iff.mp h; cases q; done) | split at h)
theorem q4q (CO : z4k prog w mg mb tab ap Φ lev) (R : z3o lev A) (F : FS c mg mb tab ap env h₀ Yc) (I : INV c env W h₀ Yc X Y ρ s.heap m cm) {es : List Expr} {k : Nat} {tp pos : Pos} {v : Expr} {xs : List Str} {ts : List Nat} {mv : ME} {ds : List D}
  (hn : z1l es = some xs) (hts : z1x c xs = some ts) (hnd : xs.Nodup) (hac : z5r v = false) (ht : trE n c v = some mv) (hok : y9w W ts mv = true) (hv : ev Φ ρ mv [] = some (.tup ds)) (hset : z2t ts ds ρ = some ρ') :
  XS (model prog w) A c env W h₀ Yc X Y (exec (.Assign [.Tuple es k tp] v pos) env) s .next ρ' := fun E Q kq =>
 y4j CO R F I hn hts hnd hac ht hok hv hset E Q fun h tk X' Y' m' cm' i g _ => kq .next h tk ⟨rfl, X', Y', m', cm', i, g⟩
end
end Mine
end
section
open PySem
namespace Mine
open PyProof.Rows PySem.W
section
variable {c : TC} {mg mb : Str -> Option Value} {tab : List z0r} {ap : Addr} {env : Env} {W : List Nat} {h₀ : Heap} {Yc X Y : Addr -> Prop} {ρ ρ' : List (Option D)} {h h' : Heap} {m cm : Str -> Option Value}
variable {prog : Program} {w : World} {Φ : Nat -> List D -> Option D} {lev n N : Nat} {A : Around} {s : Shared} {fl : Fl}
theorem y3u (f : Array Value -> Array Value) (ws : Array Value) (k : Nat) : ∃ k', Obj.mapSeq f { cls := .type "list", data := .seq ws k } = { cls := .type "list", data := .seq (f ws) k' } := by
 unfold Obj.mapSeq
 exact ⟨_, rfl⟩
theorem z4n {a : Addr} {ws : Array Value} {k : Nat} (hg : h.get? a = some { cls := .type "list", data := .seq ws k }) (f : Array Value -> Array Value) :
  ∃ k', (h.update a (Obj.mapSeq f)).get? a = some { cls := .type "list", data := .seq (f ws) k' } := by
 obtain ⟨k', e⟩ := y3u f ws k
 refine ⟨k', ?_⟩
 rw [Heap.get?_update_self _ hg (by rw [e]; rfl), e]
theorem y0p {a : Addr} (hx : Ext h h') {h2 : Heap} (hX : X a) (hs : Heap.SameBut a h' h2) : z7b X Y X Y h h2 :=
 ⟨fun _ q => q, fun _ q => q, fun _ q => .inl q, fun _ q => .inl q, fun b o hb e => (hs.2 b fun q => hb (q ▸ hX)).trans (hx b o e)⟩
theorem q3s {x : Str} (h : (x == ("__debug__" : Str)) = false) : (x == ("__debug__" : Str)) = false := h
theorem xs_put (CO : z4k prog w mg mb tab ap Φ lev) (R : z3o lev A) (F : FS c mg mb tab ap env h₀ Yc) (I : INV c env W h₀ Yc X Y ρ s.heap m cm) {x : Str} {p sp pos : Pos} {v i : Expr} {sl : Nat} {mv mi : ME} {d : D} {l : List D} {k : Int}
  (hi : c.names[sl]? = some x) (hk : c.sc.names.lookup x = some .local \/ c.sc.names.lookup x = some .cell) (hd : (x == ("__debug__" : Str)) = false) (hw : W.contains sl = true) (hc : y2t v = false) (hv : trE n c v = some mv) (hmi : trE n c i = some mi)
  (o1 : okE W mi = true) (o2 : okE W mv = true) (e1 : ev Φ ρ mv [] = some d) (e2 : ρ[sl]? = some (some (.list l))) (e3 : ev Φ ρ mi [] = some (.int k)) (h0 : 0 <= k) (h1 : k < l.length) :
  XS (model prog w) A c env W h₀ Yc X Y (exec (.Assign [.Subscript (.Name x p) i sp] v pos) env) s .next (ρ.set sl (some (.list (l.set k.toNat d)))) := fun E Q kq => by
 refine wpAny_Assign_Subscript ((y1f CO n c v mv hv env ρ [] W Y A s R (I.cx F)).E d o2 e1 E _ fun u h1' tk1 hx1 hr => ?_) (z5f hv fun a b d e q => by subst q; cases hc)
 have I1 := I.after hx1
 obtain ⟨v0, hv0, _, ho⟩ := I1.slot sl x _ hi e2
 obtain ⟨a, ws, nn, es, rfl, q, hg, hl, r, hX, hne, hnc⟩ := ho hw
 cases q
 refine z3e (s := { s with heap := h1', toks := tk1 }) (P := fun v' h => v' = .ref a) (by rw [F.sc]; exact F.kind) (I1.nv F hk hv0) hd rfl E _ fun u2 h2 tk2 hx2 hu2 => ?_
 subst hu2
 have I2 := I1.after hx2
 refine (y1f CO n c i mi hmi env ρ [] W Y A { s with heap := h2, toks := tk2 } R (I2.cx F)).E _ o1 e3 E _ fun u3 h3 tk3 hx3 hr3 => ?_
 obtain ⟨t, rfl⟩ := hr3.1.int_inv
 have hg3 := hx3 _ _ (hx2 _ _ hg)
 have hwl : ws.length = l.length := r.length
 have hL := z2v
 obtain ⟨n', hu⟩ := z4n hg3 (fun x => x.setIfInBounds k.toNat u)
 have hsb : Heap.SameBut a h3 (h3.update a (Obj.mapSeq fun x => x.setIfInBounds k.toNat u)) := Heap.SameBut.update ..
 refine ki_setAt (n := nn) hg3 h0 (by exact o587 h1 hL hwl hl) (by rw [List.size_toArray]; exact o588 h1 hwl) ?_
 refine kq .next _ tk3 ⟨rfl, X, Y, m, cm, INV.owned (ws' := ws.set k.toNat u) (n' := n') F (I2.after hx3) hi hw e2 hv0 (fun b o hb e => (hsb.2 b hb).trans e) (by rw [hu]; simp) (by rw [List.length_set]; exact hl) ?_, y0p (hx1.trans (hx2.trans hx3)) hX hsb⟩
 exact ((r.ext hx2).ext hx3).set ((hr.1.ext hx2).ext hx3) _
theorem z4e (F : FS c mg mb tab ap env h₀ Yc) : interactive env = false := by
 unfold interactive
 rw [F.sc, F.kind]
 rfl
theorem xs_app (CO : z4k prog w mg mb tab ap Φ lev) (R : z3o lev A) (F : FS c mg mb tab ap env h₀ Yc) (I : INV c env W h₀ Yc X Y ρ s.heap m cm) {x : Str} {p apos cp pos : Pos} {e : Expr} {sl : Nat} {me : ME} {d : D} {l : List D}
  (hi : c.names[sl]? = some x) (hk : c.sc.names.lookup x = some .local \/ c.sc.names.lookup x = some .cell) (hd : (x == ("__debug__" : Str)) = false) (hw : W.contains sl = true) (hline : (apos.endLine == cp.line) = true) (he : trE n c e = some me)
  (o1 : okE W me = true) (e1 : ev Φ ρ me [] = some d) (e2 : ρ[sl]? = some (some (.list l))) (hl0 : l.length < LEN) :
  XS (model prog w) A c env W h₀ Yc X Y (exec (.Expr (.Call (.Attribute (.Name x p) "append" apos) [e] [] cp) pos) env) s .next (ρ.set sl (some (.list (l ++ [d])))) := fun E Q kq => by
 have hns : ∀ v p, e ≠ .Starred v p := fun v p q => by
  subst q
  cases n <;> exact z0a he
 have hst : backTo cp (starEach [e] env) = [(false, eval e env)] := by rw [z5g hns]; rfl
 refine wpAny_Expr_any ?_ (z4e F) rfl
 refine wpAny_Call_append rfl (by rw [hst]; rfl) hline hst ?_
 obtain ⟨v0, hv0, _, ho⟩ := I.slot sl x _ hi e2
 obtain ⟨a, ws, nn, es, rfl, q, hg, hl, r, hX, hne, hnc⟩ := ho hw
 cases q
 refine z3e (P := fun v' h => v' = .ref a) (by rw [F.sc]; exact F.kind) (I.nv F hk hv0) hd rfl E _ fun u1 h1 tk1 hx1 hu1 => ?_
 subst hu1
 have I1 := I.after hx1
 refine ⟨a, ws.toArray, rfl, ⟨_, nn, hx1 _ _ hg, rfl, rfl, rfl⟩, ?_⟩
 refine (y1f CO n c e me he env ρ [] W Y A { s with heap := h1, toks := tk1 } R (I1.cx F)).E _ o1 e1 E _ fun u2 h2 tk2 hx2 hr2 => ?_
 have hg2 := hx2 _ _ (hx1 _ _ hg)
 refine wpAny_list_append_plain (s := { s with heap := h2, toks := tk2 }) ⟨nn, hg2⟩ (fun h' ⟨n', hp⟩ hsb => ?_) (by rw [List.size_toArray]; exact Nat.le_trans hl z5d)
 have hwl : ws.length = l.length := r.length
 refine kq .next h' tk2 ⟨rfl, X, Y, m, cm, INV.owned (ws' := ws ++ [u2]) (n' := n') F (I1.after hx2) hi hw e2 hv0 (fun b o hb e => (hsb.2 b hb).trans e) (by rw [hp]; simp) (by rw [List.length_append, hwl]; exact hl0) ?_, y0p (hx1.trans hx2) hX hsb⟩
 exact ((r.ext hx1).ext hx2).snoc hr2.1
theorem xs_pop (R : z3o lev A) (F : FS c mg mb tab ap env h₀ Yc) (I : INV c env W h₀ Yc X Y ρ s.heap m cm) {x : Str} {p apos cp pos : Pos} {sl : Nat} {l : List D}
  (hi : c.names[sl]? = some x) (hk : c.sc.names.lookup x = some .local \/ c.sc.names.lookup x = some .cell) (hd : (x == ("__debug__" : Str)) = false) (hw : W.contains sl = true) (hline : (apos.endLine == cp.line) = true)
  (e2 : ρ[sl]? = some (some (.list l))) (hl0 : l.length ≠ 0) :
  XS (model prog w) A c env W h₀ Yc X Y (exec (.Expr (.Call (.Attribute (.Name x p) "pop" apos) [] [] cp) pos) env) s .next (ρ.set sl (some (.list l.dropLast))) := fun E Q kq => by
 refine wpAny_Expr_any ?_ (z4e F) rfl
 refine wpAny_Call_method rfl rfl hline PySem.F.plainAttrs_list PySem.F.slot_list_pop PySem.F.type_list_pop ?_
 obtain ⟨v0, hv0, _, ho⟩ := I.slot sl x _ hi e2
 obtain ⟨a, ws, nn, es, rfl, q, hg, hl, r, hX, hne, hnc⟩ := ho hw
 cases q
 refine z3e (P := fun v' h => v' = .ref a) (by rw [F.sc]; exact F.kind) (I.nv F hk hv0) hd rfl E _ fun u1 h1 tk1 hx1 hu1 => ?_
 subst hu1
 have hg1 := hx1 _ _ hg
 have hwl : ws.length = l.length := r.length
 refine ⟨⟨_, hg1, rfl⟩, fun b q => by cases q; exact ⟨_, hg1, rfl⟩, PyProof.Rows.callWith_method0 ?_⟩
 have hwn : ws ≠ [] := fun q => by rw [q] at hwl; exact hl0 hwl.symm
 obtain ⟨p0, y, rfl⟩ : ∃ p0 y, ws = p0 ++ [y] := ⟨ws.dropLast, ws.getLast hwn, (List.dropLast_concat_getLast hwn).symm⟩
 have hk' : (p0 ++ [y]).toArray.size - 1 = p0.length := by rw [List.size_toArray, List.length_append]; rfl
 have hy : (p0 ++ [y]).toArray[(p0 ++ [y]).toArray.size - 1]? = some y := by rw [hk']; simp
 have hsz : (p0 ++ [y]).toArray.size <= sizeLine := by rw [List.size_toArray]; exact Nat.le_trans hl z5d
 obtain ⟨n', hu⟩ := z4n hg1 (fun xs => xs.eraseIdxIfInBounds ((p0 ++ [y]).toArray.size - 1))
 have hsb : Heap.SameBut a h1 (h1.update a (Obj.mapSeq fun xs => xs.eraseIdxIfInBounds ((p0 ++ [y]).toArray.size - 1))) := Heap.SameBut.update ..
 refine call_meets PySem.F.slot_list_pop ⟨_, hg1, rfl⟩ PySem.F.entry_list_pop (PySem.F.args_list_pop_1 _) (PySem.MeetsSeq.list_pop_last a _ nn y hy hsz) ⟨hg1, ?_⟩
 refine kq .next _ tk1 ⟨rfl, X, Y, m, cm, INV.owned (ws' := p0) (n' := n') F (I.after hx1) hi hw e2 hv0 (fun b o hb e => (hsb.2 b hb).trans e) ?_ ?_ ?_, y0p hx1 hX hsb⟩
 ·have e : (p0 ++ [y]).toArray.eraseIdxIfInBounds ((p0 ++ [y]).toArray.size - 1) = p0.toArray := by rw [hk', kl_erase, List.append_nil]
  rw [<- e]; exact hu
 ·rw [List.length_append] at hl; exact o589 hl
 ·have := (r.ext hx1).dropLast
  rwa [List.dropLast_concat] at this
theorem q6e {x : Str} {v : Value} {E : Value -> Shared -> Prop} {Q : Value -> Shared -> Prop} (hk : env.scope.kind = .function) (nv : NV env s.heap x v) (fin : Q v s) : wpAny (model prog w) A (loadName env x) Q E s := by
 rcases nv with ⟨hl, m, hn, e⟩ | ⟨hl | ⟨hl, hx⟩, a, e, hc⟩
 ·exact wpAny_loadName_local hk hl hn e fin
 ·exact wpAny_loadName_cell hk hl e hc fin
 ·exact wpAny_loadName_free hk hl e hc fin hx
theorem q3j (CO : z4k prog w mg mb tab ap Φ lev) (R : z3o lev A) (F : FS c mg mb tab ap env h₀ Yc) (I : INV c env W h₀ Yc X Y ρ s.heap m cm) {x : Str} {p pos : Pos} {e : Expr} {op : Operator} {sl : Nat} {me : ME} {a b r : Int}
  (hi : c.names[sl]? = some x) (hk : c.sc.names.lookup x = some .local \/ c.sc.names.lookup x = some .cell) (hw : W.contains sl = false) (he : trE n c e = some me)
  (o1 : okE W me = true) (e1 : ev Φ ρ me [] = some (.int b)) (e2 : ρ[sl]? = some (some (.int a))) (hop : (op = .Add /\ r = a + b) \/ (op = .Sub /\ r = a - b)) :
  XS (model prog w) A c env W h₀ Yc X Y (exec (.AugAssign (.Name x p) op e pos) env) s .next (ρ.set sl (some (.int r))) := fun E Q kq => by
 obtain ⟨v0, hv0, hf, _⟩ := I.slot sl x _ hi e2
 obtain ⟨t0, rfl⟩ := (hf hw).int_inv
 refine wpAny_AugAssign_Name (q6e (by rw [F.sc]; exact F.kind) (I.nv F hk hv0) ?_)
 refine (y1f CO n c e me he env ρ [] W Y A s R (I.cx F)).E _ o1 e1 E _ fun u h1 tk1 hx1 hr => ?_
 obtain ⟨t1, rfl⟩ := hr.1.int_inv
 have fin : wpAny (model prog w) A (storeName env x (.int r tk1)) (fun _ => Q .next) E { s with heap := h1, toks := tk1 + 1 } := by
  refine y5v (s := { s with heap := h1, toks := tk1 + 1 }) F (I.after hx1) hi ⟨fun _ => Rep.int r tk1, fun q => by (rw [hw] at q; cases q)⟩ I.xy (z7b.ofExt hx1 (fun _ q => q) fun _ q => .inl q) fun h tk o => kq .next h tk ⟨rfl, o⟩
 rcases hop with ⟨rfl, rfl⟩ | ⟨rfl, rfl⟩
 ·exact PyProof.Rows.iadd_int fin
 ·exact PyProof.Rows.isub_int fin
end
end Mine
end
section
open PySem
namespace Mine
open PyProof.Rows PySem.W
section
variable {c : TC} {mg mb : Str -> Option Value} {tab : List z0r} {ap : Addr} {env : Env} {W : List Nat} {h₀ : Heap} {Yc X Y : Addr -> Prop} {ρ ρ' : List (Option D)} {h h' : Heap} {m cm : Str -> Option Value}
variable {prog : Program} {w : World} {Φ : Nat -> List D -> Option D} {lev n N : Nat} {A : Around} {s : Shared} {fl : Fl}
theorem z6z {o : Option D} {b : Bool} (h : z7r o = some b) : o = some (.bool b) := by
 unfold z7r at h
 split at h
 ·cases h; rfl
 ·cases h
set_option tactic.hygienic true in
theorem q4v {tr : Stmt -> Option MS} {st : Stmt} {l : List Stmt} {ms : MS} (h : trB tr (st :: l) = some ms) : E2 fun m k => A3 (tr st = some m) (trB tr l = some k) (ms = .seq m k) := by
 simp only [trB] at h
 split at h
 ·exact z0a h
 ·rename_i m h1
  split at h
  ·exact z0a h
  ·rename_i k h2; exact ⟨m, k, h1, h2, (Option.some.inj h).symm⟩
theorem XS.of {M : Model} {t : Sem Flow} {fl' : Fl} {ρ1 : List (Option D)} (h : some (fl', ρ1) = some (fl, ρ')) (x : XS M A c env W h₀ Yc X Y t s fl' ρ1) : XS M A c env W h₀ Yc X Y t s fl ρ' := by
 cases h; exact x
theorem y7e {s r : MS} {ρ : List (Option D)} {q : Fl × List (Option D)} (h : xs Φ N (.seq s r) ρ = some q) : (∃ d ρ1, xs Φ N s ρ = some (.ret d, ρ1) /\ q = (.ret d, ρ1)) \/ (∃ ρ1, xs Φ N s ρ = some (.next, ρ1) /\ xs Φ N r ρ1 = some q) := by
 have h' : (match xs Φ N s ρ with | none => none | some (.ret d, ρ') => some (Fl.ret d, ρ') | some (.next, ρ') => xs Φ N r ρ') = some q := h
 revert h'
 generalize xs Φ N s ρ = o
 intro h'
 rcases o with _ | ⟨_ | d, ρ1⟩
 ·exact z0a h'
 ·exact .inr ⟨ρ1, rfl, h'⟩
 ·exact .inl ⟨d, ρ1, rfl, (Option.some.inj h').symm⟩
theorem XS.mono {M : Model} {t : Sem Flow} {X₀ Y₀ : Addr -> Prop} {hs : Heap} (xy : ∀ a, X₀ a -> Y₀ a) (g : z7b X₀ Y₀ X Y hs s.heap) (x : XS M A c env W h₀ Yc X Y t s fl ρ') {E : Value -> Shared -> Prop} {Q : Flow -> Shared -> Prop}
  (k : ∀ f h tk, OutS c env W h₀ Yc X₀ Y₀ hs fl ρ' f h -> Q f { s with heap := h, toks := tk }) : wpAny M A t Q E s :=
 x E Q fun f h tk o => k f h tk (by
  cases fl with
  | next =>
   obtain ⟨e, X', Y', m, cm, I, g'⟩ := o
   exact ⟨e, X', Y', m, cm, I, g.trans xy g'⟩
  | ret d => exact o)
noncomputable def q1p (prog : Program) (w : World) (A : Around) (c : TC) (env : Env) (W : List Nat) (h₀ : Heap) (Yc : Addr -> Prop) (Φ : Nat -> List D -> Option D) (N : Nat) (t : Sem Flow) (ms : MS) : Prop :=
 ∀ (X Y : Addr -> Prop) (ρ ρ' : List (Option D)) (s : Shared) (m cm : Str -> Option Value) (fl : Fl), INV c env W h₀ Yc X Y ρ s.heap m cm -> xs Φ N ms ρ = some (fl, ρ') -> XS (model prog w) A c env W h₀ Yc X Y t s fl ρ'
theorem z6d {tr : Stmt -> Option MS} (hs : ∀ st ms, tr st = some ms -> okS W ms = true -> q1p prog w A c env W h₀ Yc Φ N (exec st env) ms) : ∀ (l : List Stmt) (ms : MS), trB tr l = some ms -> okS W ms = true -> q1p prog w A c env W h₀ Yc Φ N (execs l env) ms := by
 intro l
 induction l with
 | nil =>
  intro ms ht _ X Y ρ ρ' s m cm fl I hx
  obtain rfl := Option.some.inj ht
  exact XS.of hx fun E Q k => wpAny_execs_nil (k .next s.heap s.toks ⟨rfl, X, Y, m, cm, I, z7b.refl ..⟩)
 | cons st l ih =>
  intro ms ht ho X Y ρ ρ' s m cm fl I hx E Q k
  obtain ⟨m1, ms', h1, h2, rfl⟩ := q4v ht
  have ho := z9y ho
  refine wpAny_execs_cons ?_
  rcases y7e hx with ⟨d, ρ1, e1, e⟩ | ⟨ρ1, e1, hx⟩
  ·cases e
   refine hs st m1 h1 ho.1 X Y ρ _ s m cm _ I e1 E _ fun f h tk o => ?_
   obtain ⟨v, rfl, o2⟩ := o
   exact k _ h tk ⟨v, rfl, o2⟩
  ·refine hs st m1 h1 ho.1 X Y ρ _ s m cm _ I e1 E _ fun f h tk o => ?_
   obtain ⟨rfl, X', Y', m', cm', I', g⟩ := o
   exact XS.mono I.xy g (ih ms' h2 ho.2 X' Y' ρ1 ρ' _ m' cm' fl I' hx) fun f h2 tk2 o => k f h2 tk2 o
set_option tactic.hygienic true in
theorem snd_if (CO : z4k prog w mg mb tab ap Φ lev) (R : z3o lev A) (F : FS c mg mb tab ap env h₀ Yc) {t : Expr} {a b : List Stmt} {pos : Pos} {mt : ME} {ma mc : MS} (ht : trE n c t = some mt) (hok : okB W mt = true)
  (ha : q1p prog w A c env W h₀ Yc Φ N (execs a env) ma) (hb : q1p prog w A c env W h₀ Yc Φ N (execs b env) mc) : q1p prog w A c env W h₀ Yc Φ N (exec (.If t a b pos) env) (.ifs mt ma mc) := by
 intro X Y ρ ρ' s m cm fl I hx E Q k
 simp only [xs] at hx
 refine wpAny_If ?_
 split at hx
 ·cases hx
 ·rename_i e
  refine (y1f CO n c t mt ht env ρ [] W Y A s R (I.cx F)).B true hok (z6z e) E _ fun b' h tk hx1 hb' => ?_
  subst hb'
  rw [if_pos rfl]
  exact XS.mono I.xy (z7b.ofExt hx1 (fun _ q => q) fun _ q => .inl q) (ha X Y ρ ρ' _ m cm fl (I.after hx1) hx) fun f h2 tk2 o => k f h2 tk2 o
 ·rename_i e
  refine (y1f CO n c t mt ht env ρ [] W Y A s R (I.cx F)).B false hok (z6z e) E _ fun b' h tk hx1 hb' => ?_
  subst hb'
  rw [if_neg Bool.false_ne_true]
  exact XS.mono I.xy (z7b.ofExt hx1 (fun _ q => q) fun _ q => .inl q) (hb X Y ρ ρ' _ m cm fl (I.after hx1) hx) fun f h2 tk2 o => k f h2 tk2 o
inductive WI (c : TC) (env : Env) (W : List Nat) (h₀ : Heap) (Yc X Y : Addr -> Prop) (s : Shared) (P : List (Option D) -> Prop) (s' : Shared) : Prop
 | mk (h : Heap) (tk : Nat) (X' Y' : Addr -> Prop) (m cm : Str -> Option Value) (ρ₁ : List (Option D)) (e : s' = { s with heap := h, toks := tk }) (I : INV c env W h₀ Yc X' Y' ρ₁ h m cm) (g : z7b X Y X' Y' s.heap h) (hl : P ρ₁)
inductive FI (c : TC) (env : Env) (W : List Nat) (h₀ : Heap) (Yc X Y : Addr -> Prop) (s : Shared) (St : Nat -> Heap -> Prop) (src : (Addr -> Prop) -> Heap -> Prop) (fp wr : Addr -> Prop) (L : Nat) (P : Nat -> List (Option D) -> Prop) (j : Nat) (s' : Shared) : Prop
 | mk (i : Nat) (h : Heap) (tk : Nat) (X' Y' : Addr -> Prop) (m cm : Str -> Option Value) (ρ₁ : List (Option D)) (e : s' = { s with heap := h, toks := tk }) (I : INV c env W h₀ Yc X' Y' ρ₁ h m cm) (g : z7b X Y X' Y' s.heap h) (hst : St i h) (hsrc : src Y' h) (hwY : ∀ b, wr b -> Y' b)
  (hfX : ∀ b, fp b -> ¬ X' b) (hfa : ∀ b, fp b -> ∃ o, h.get? b = some o) (hi : i <= L) (hj : j = L - i) (hl : P i ρ₁)
set_option tactic.hygienic true in
theorem y9a (CO : z4k prog w mg mb tab ap Φ lev) (R : z3o lev A) (F : FS c mg mb tab ap env h₀ Yc) {t : Expr} {a : List Stmt} {pos : Pos} {mt : ME} {ma : MS} (ht : trE n c t = some mt) (hok : okB W mt = true)
  (ha : q1p prog w A c env W h₀ Yc Φ N (execs a env) ma) : q1p prog w A c env W h₀ Yc Φ N (exec (.While t a [] pos) env) (.whl mt ma) := by
 intro X Y ρ ρ' s m cm fl I hx E Q k
 simp only [xs] at hx
 refine wpAny_While (codeAny_whileLoop (fun j => WI c env W h₀ Yc X Y s fun ρ₁ => z7p (fun ρ => z7r (ev Φ ρ mt [])) (fun ρ => xs Φ N ma ρ) j ρ₁ = some (fl, ρ')) ?_ N
  ⟨s.heap, s.toks, X, Y, m, cm, ρ, rfl, I, z7b.refl .., hx⟩)
 rintro j s' ⟨h, tk, X', Y', m', cm', ρ₁, rfl, I', g, hl⟩
 cases j with
 | zero => simp [z7p] at hl
 | succ j =>
  simp only [z7p] at hl
  split at hl
  ·cases hl
  ·rename_i e
   cases hl
   refine (y1f CO n c t mt ht env _ [] W Y' A { s with heap := h, toks := tk } R (I'.cx F)).B false hok (z6z e) _ _ fun b' h2 tk2 hx1 hb' => ?_
   subst hb'
   rw [if_neg Bool.false_ne_true]
   exact wpAny_execs_nil (k .next h2 tk2 ⟨rfl, X', Y', m', cm', I'.after hx1, g.trans I.xy (z7b.ofExt hx1 (fun _ q => q) fun _ q => .inl q)⟩)
  ·rename_i e
   refine (y1f CO n c t mt ht env ρ₁ [] W Y' A { s with heap := h, toks := tk } R (I'.cx F)).B true hok (z6z e) _ _ fun b' h2 tk2 hx1 hb' => ?_
   subst hb'
   rw [if_pos rfl]
   have g2 := g.trans I.xy (z7b.ofExt (X := X') (Y := Y') hx1 (fun _ q => q) fun _ q => .inl q)
   split at hl
   ·cases hl
   ·rename_i d ρ2 e2
    cases hl
    refine ha X' Y' ρ₁ _ _ m' cm' _ (I'.after hx1) e2 _ _ fun f h3 tk3 o => ?_
    obtain ⟨v, rfl, o2⟩ := o
    exact k _ h3 tk3 ⟨v, rfl, o2⟩
   ·rename_i ρ2 e2
    refine ha X' Y' ρ₁ _ _ m' cm' _ (I'.after hx1) e2 _ _ fun f h3 tk3 o => ?_
    obtain ⟨rfl, X3, Y3, m3, cm3, I3, g3⟩ := o
    exact ⟨j, Nat.lt_succ_self _, h3, tk3, X3, Y3, m3, cm3, ρ2, rfl, I3, g2.trans I.xy g3, hl⟩
theorem INV.drop (I : INV c env W h₀ Yc X Y ρ h m cm) (hyc : ∀ a, Yc a -> ∃ o, h₀.get? a = some o) {wr : Addr -> Prop} (hk : ∀ b o, ¬ wr b -> h.get? b = some o -> h'.get? b = some o) (hw : ∀ b, wr b -> Y b /\ ¬ X b /\ h₀.get? b = none) :
  INV c env W h₀ Yc X (fun a => Y a /\ ¬ wr a) ρ h' m cm /\ True := by
 have xw : ∀ b, X b -> ¬ wr b := fun b q z => (hw b z).2.1 q
 have w0 : ∀ b o, h₀.get? b = some o -> ¬ wr b := fun b o e z => by
  have := (hw b z).2.2
  rw [e] at this; cases this
 refine ⟨⟨fun b o e => hk b o (w0 b o e) (I.keep b o e), fun b q => ⟨I.xy b q, xw b q⟩, fun b q => let ⟨o, e⟩ := I.ya b q.1; ⟨o, hk b o q.2 e⟩, fun b q => ⟨I.yc b q, fun z => ?_⟩, I.xn, I.ns.at' fun o e => hk _ o (xw _ I.lx) e, I.lx, fun x a e => ?_, I.apart, fun i x d hi hr => ?_, I.apartW⟩, trivial⟩
 ·obtain ⟨o, e⟩ := hyc b q
  exact w0 b o e z
 ·obtain ⟨⟨o, h1, h2⟩, h3, h4⟩ := I.cell x a e
  exact ⟨⟨o, hk a o (xw a h3) h1, h2⟩, h3, h4⟩
 ·have mv : ∀ {vs : List Value} {ds : List D}, z0k h Y vs ds -> z0k h' (fun a => Y a /\ ¬ wr a) vs ds := fun r => r.move (fun a o ha e => hk a o (fun z => ha (hw a z).1) e) fun _ _ _ q => q.1
  obtain ⟨v, hv, hf, ho⟩ := I.slot i x d hi hr
  refine ⟨v, hv, fun q => mv (hf q), fun q => ?_⟩
  obtain ⟨a, ws, n, es, h1, h2, h3, h4, h5, h6, h7⟩ := ho q
  exact ⟨a, ws, n, es, h1, h2, hk a _ (xw a h6) h3, h4, mv h5, h6, h7⟩
set_option tactic.hygienic true in
theorem q5j (CO : z4k prog w mg mb tab ap Φ lev) (R : z3o lev A) (F : FS c mg mb tab ap env h₀ Yc) {tgt it : Expr} {a : List Stmt} {pos : Pos} {names : List Str} {tt : Bool} {ts : List Nat} {mi : ME} {ma : MS}
  (htg : z1b tgt = some (names, tt)) (hts : z1x c names = some ts) (hnd : names.Nodup) (ht : z4c (trE n) c it = some mi) (hok : okI W mi = true) (hts0 : (ts.all fun t => !W.contains t) = true) (hnm : (tt || !z9j mi) = true)
  (ha : q1p prog w A c env W h₀ Yc Φ N (execs a env) ma) : q1p prog w A c env W h₀ Yc Φ N (exec (.For tgt it a [] pos) env) (.fors ts tt mi ma) := by
 intro X Y ρ ρ' s m cm fl I hx E Q k
 simp only [xs] at hx
 split at hx
 ·cases hx
 ·rename_i x e1
  split at hx
  ·cases hx
  ·rename_i items e2
   obtain ⟨hnl, hnt⟩ := z5h hts
   have htn := y0f hts hnd
   have nw : ∀ (j t : Nat), ts[j]? = some t -> W.contains t = false := fun j t q => by
    have := List.all_eq_true.mp hts0 t (List.mem_of_getElem? q)
    simpa using this
   refine wpAny_For ?_ (z5l ht)
   refine z9z (y1f CO n) R (I.cx F) ht hok e1 e2 _ _ fun itv h1 tk1 hx1 hlen hio => ?_
   obtain ⟨fp, wr, St, src, IT, st0, src0, hwr, hfp⟩ := hio
   have wr0 : ∀ b o, s.heap.get? b = some o -> ¬ wr b := fun b o e q => by
    have := (hwr b q).1
    rw [e] at this; cases this
   have fpX : ∀ b, fp b -> ¬ X b := fun b q hX => by
    rcases (hfp b q).2 with q | q | q
    ·obtain ⟨o, e⟩ := I.ya b (I.xy b hX)
     exact wr0 b o e q
    ·exact q (I.xy b hX)
    ·obtain ⟨o, e⟩ := F.ap
     have := I.xn b hX
     rw [q, e] at this; cases this
   refine codeAny_forLoop_any (FI c env W h₀ Yc X Y s St src fp wr items.length fun i ρ₁ => y2p (z2k ts tt) (fun ρ => xs Φ N ma ρ) (items.drop i) ρ₁ = some (fl, ρ')) ?_ items.length ?_
   ·rintro j s' ⟨i, h, tk, X', Y', m', cm', ρ₁, rfl, I', g, hst, hsrc, hwY, hfX, hfa, hi, rfl, hl⟩
    have turn : ∀ {h2 : Heap}, (∀ b o, ¬ wr b -> h.get? b = some o -> h2.get? b = some o) -> (∀ b, wr b -> ∃ o, h2.get? b = some o) -> INV c env W h₀ Yc X' Y' ρ₁ h2 m' cm' /\ z7b X Y X' Y' s.heap h2 := fun {h2} hk hlv => by
     refine ⟨I'.move (fun b o hb e => hk b o ?_ e) (fun _ q => q) (fun _ q => .inl q) fun b q => ?_, g.x, g.y, g.xn, g.yn, fun b o hb e => hk b o (wr0 b o e) (g.ext b o hb e)⟩
     ·rcases hb with q | q | ⟨o', q⟩
      ·exact fun z => hfX b (IT.wrfp b z) q
      ·exact fun z => q (hwY b z)
      ·exact wr0 b o' (I.keep b o' q)
     ·by_cases z : wr b
      ·exact hlv b z
      ·obtain ⟨o, e⟩ := I'.ya b q; exact ⟨o, hk b o z e⟩
    by_cases hlt : i < items.length
    ·have hd : items[i]? = some items[i] := List.getElem?_eq_getElem hlt
     rw [List.drop_eq_getElem_cons hlt] at hl
     simp only [y2p] at hl
     split at hl
     ·cases hl
     ·rename_i ρ2 hb2
      unfold z2k at hb2
      split at hb2
      ·cases hb2
      ·rename_i ks hks
       refine wpAny_mono (IT.item i { s with heap := h, toks := tk } items[i] Y' tgt _ hd hst hsrc (fun b q => let ⟨_, e⟩ := I'.ya b q; Heap.lt_size e) hwY ?_) (fun r s1 h1' => ?_) fun _ _ e => e
       ·rcases z9d htg with ⟨q1, q2⟩ | q2
        ·refine .inl ⟨?_, q2⟩
         rw [q1] at hnm
         simpa using hnm
        ·exact .inr q2
       obtain ⟨v, rfl, hgo⟩ := h1'
       refine wpAny_mono hgo (fun _ s2 h2' => ?_) fun _ _ e => e
       obtain ⟨h2, tk2, rfl, hk2, hst2, hrv⟩ := h2'
       obtain ⟨I2, g2⟩ := turn hk2 (IT.live _ _ hst2)
       have hsrc2 : src Y' h2 := IT.move _ _ _ _ hsrc (fun b o hb e => hk2 b o (fun z => hb (hwY b z)) e) fun _ _ _ q => q
       have hfa2 : ∀ b, fp b -> ∃ o, h2.get? b = some o := fun b q => by
        by_cases z : wr b
        ·exact IT.live _ _ hst2 b z
        ·obtain ⟨o, e⟩ := hfa b q; exact ⟨o, hk2 b o z e⟩
       refine z8h (Y := Y') (ks := ks) (d := items[i]) (s := { s with heap := h2, toks := tk2 })
        (fun vs k s' => ∃ h3, Ext h2 h3 /\ y3g (z6w c m' cm') c env W h₀ Yc X' Y' ρ₁ { s with heap := h3, toks := tk2 } ts vs ks k s') R.hh htg (by rw [hnl]; exact hks) hrv ?_ ?_ ?_
       ·intro vs h3 hx3 hr3 hl3
        refine ⟨h3, hx3, y3g.start (I2.after hx3) fun j t u d a b e => ⟨fun _ => ?_, fun q => by (rw [nw j t a] at q; cases q)⟩⟩
        obtain ⟨d', e1, q⟩ := hr3.at' b
        rw [e] at e1; cases e1; exact q
       ·rintro vs j y u s' ha' hb' ⟨h3, hx3, J⟩ Q' hQ'
        exact y3g.step F (z6e hb2).1 hnt htn hnl (fun j k t u v _ a _ wt _ _ _ => by (rw [nw j t a] at wt; cases wt)) ha' hb' J fun s'' J' => hQ' s'' ⟨h3, hx3, J'⟩
       ·rintro vs s' ⟨h3, hx3, J⟩
        rw [hnl] at J
        obtain ⟨h4, tk4, m4, cm4, rfl, I4, ext4, _⟩ := y3g.fin (z6e hb2).1 J
        rw [<- (z6e hb2).2] at I4
        have up4 : ∀ b o, ¬ X' b -> h2.get? b = some o -> h4.get? b = some o := fun b o hb e => ext4 b o hb (hx3 b o e)
        have g4 : z7b X Y X' Y' s.heap h4 := g2.trans I.xy ⟨fun _ q => q, fun _ q => q, fun _ q => .inl q, fun _ q => .inl q, up4⟩
        split at hl
        ·cases hl
        ·rename_i d ρ3 e3
         cases hl
         refine ha X' Y' ρ2 _ _ m4 cm4 _ I4 e3 _ _ fun f h5 tk5 o => ?_
         obtain ⟨v, rfl, o2⟩ := o
         exact k _ h5 tk5 ⟨v, rfl, o2⟩
        ·rename_i ρ3 e3
         refine ha X' Y' ρ2 _ _ m4 cm4 _ I4 e3 _ _ fun f h5 tk5 o => ?_
         obtain ⟨rfl, X5, Y5, m5, cm5, I5, g5⟩ := o
         have up5 : ∀ b o, ¬ X' b -> h2.get? b = some o -> h5.get? b = some o := fun b o hb e => g5.ext b o hb (up4 b o hb e)
         refine ⟨items.length - (i + 1), by exact o590 hlt, i + 1, h5, tk5, X5, Y5, m5, cm5, ρ3, rfl, I5, g4.trans I.xy g5, IT.frame _ _ _ hst2 fun b o q e => up5 b o (hfX b q) e, ?_, fun b q => g5.y b (hwY b q), fun b q z => ?_, fun b q => ?_, hlt, rfl, hl⟩
         ·refine IT.move _ _ _ _ hsrc2 (fun b o hb e => up5 b o (fun z => hb (I'.xy b z)) e) fun b o e q => ?_
          rcases g5.yn b q with z | z
          ·exact z
          ·by_cases hX : X' b
           ·exact I'.xy b hX
           ·have := up4 b o hX e
            have z' : h4.get? b = none := z
            rw [this] at z'; cases z'
         ·rcases g5.xn b z with z | z
          ·exact hfX b q z
          ·obtain ⟨o, e⟩ := hfa2 b q
           have := up4 b o (hfX b q) e
           have z' : h4.get? b = none := z
           rw [this] at z'; cases z'
         ·obtain ⟨o, e⟩ := hfa2 b q
          exact ⟨o, up5 b o (hfX b q) e⟩
    ·have hie : i = items.length := by exact o13 hi hlt
     subst hie
     rw [List.drop_length] at hl
     simp only [y2p] at hl
     cases hl
     refine wpAny_mono (IT.done { s with heap := h, toks := tk } _ hst) (fun r s1 h1' => ?_) fun _ _ e => e
     obtain ⟨rfl, h2, tk2, rfl, hk2⟩ := h1'
     obtain ⟨r1, r2⟩ := I'.drop F.yc (wr := wr) hk2 (fun b q => ⟨hwY b q, hfX b (IT.wrfp b q), z0o I.keep (hwr b q).1⟩)
     refine wpAny_execs_nil (k .next h2 tk2 ⟨rfl, X', _, m', cm', r1, g.x, fun b q => ⟨g.y b q, fun z => ?_⟩, g.xn, fun b q => g.yn b q.1, fun b o hb e => hk2 b o (wr0 b o e) (g.ext b o hb e)⟩)
     obtain ⟨o, e⟩ := I.ya b q
     exact wr0 b o e z
   ·refine ⟨0, h1, tk1, X, fun b => Y b \/ wr b, m, cm, ρ, rfl, I.move (fun b o _ e => hx1 b o e) (fun _ q => .inl q) (fun b q => q.imp_right fun q => (hwr b q).1) (fun b q => ?_), ⟨fun _ q => q, fun _ q => .inl q, fun _ q => .inl q, fun b q => q.imp_right fun q => (hwr b q).1, fun b o _ e => hx1 b o e⟩, st0, src0,
     fun b q => .inr q, fpX, fun b q => (hfp b q).1, Nat.zero_le _, rfl, hx⟩
    rcases q with q | q
    ·obtain ⟨o, e⟩ := I.ya b q; exact ⟨o, hx1 b o e⟩
    ·exact (hwr b q).2
end
end Mine
end
section
open PySem
namespace Mine
open PyProof.Rows PySem.W
section
variable {c : TC} {mg mb : Str -> Option Value} {tab : List z0r} {ap : Addr} {env : Env} {W : List Nat} {h₀ : Heap} {Yc X Y : Addr -> Prop} {ρ ρ' : List (Option D)} {h h' : Heap} {m cm : Str -> Option Value}
variable {prog : Program} {w : World} {Φ : Nat -> List D -> Option D} {lev n N : Nat} {A : Around} {s : Shared} {fl : Fl}
theorem q1v {op : Operator} (h : y3j op = some .add) : op = .Add := by
 cases op <;> simp [y3j] at h ⊢
theorem q1u {op : Operator} (h : y3j op = some .sub) : op = .Sub := by
 cases op <;> simp [y3j] at h ⊢
section
variable {x : Nat} {e i : ME} {ρ : List (Option D)} {q : Fl × List (Option D)}
set_option tactic.hygienic true in
theorem y7f (h : xs Φ N (.ret e) ρ = some q) : ∃ d, ev Φ ρ e [] = some d /\ some (Fl.ret d, ρ) = some q := by
 simp only [xs] at h
 split at h
 ·exact z0a h
 ·rename_i d h1; exact ⟨d, h1, h⟩
set_option tactic.hygienic true in
theorem y7j (h : xs Φ N (.asg x e) ρ = some q) : ∃ d, ev Φ ρ e [] = some d /\ some (Fl.next, ρ.set x (some d)) = some q := by
 simp only [xs] at h
 split at h
 ·exact z0a h
 ·rename_i d h1; exact ⟨d, h1, h⟩
set_option tactic.hygienic true in
theorem y4l {ts : List Nat} (h : xs Φ N (.asgT ts e) ρ = some q) : E2 fun ds ρ1 => A3 (ev Φ ρ e [] = some (.tup ds)) (z2t ts ds ρ = some ρ1) (some (Fl.next, ρ1) = some q) := by
 simp only [xs] at h
 split at h
 ·rename_i ds h1
  split at h
  ·exact z0a h
  ·rename_i ρ1 h2; exact ⟨ds, ρ1, h1, h2, h⟩
 ·exact z0a h
set_option tactic.hygienic true in
theorem y8p (h : xs Φ N (.ex e) ρ = some q) : ev Φ ρ e [] = some .none /\ some (Fl.next, ρ) = some q := by
 simp only [xs] at h
 split at h
 ·rename_i h1; exact ⟨h1, h⟩
 ·exact z0a h
set_option tactic.hygienic true in
theorem y7h (h : xs Φ N (.pop x) ρ = some q) : ∃ l, ρ[x]? = some (some (.list l)) /\ ¬ l.length = 0 /\ some (Fl.next, ρ.set x (some (.list l.dropLast))) = some q := by
 simp only [xs] at h
 split at h
 ·rename_i l h1
  split at h
  ·exact z0a h
  ·rename_i h2; exact ⟨l, h1, h2, h⟩
 ·exact z0a h
set_option tactic.hygienic true in
theorem y7k (h : xs Φ N (.app x e) ρ = some q) : E2 fun d l => A4 (ev Φ ρ e [] = some d) (ρ[x]? = some (some (.list l))) (l.length < LEN) (some (Fl.next, ρ.set x (some (.list (l ++ [d])))) = some q) := by
 simp only [xs] at h
 split at h
 ·exact z0a h
 ·rename_i d h0
  split at h
  ·rename_i l h1
   split at h
   ·rename_i h2; exact ⟨d, l, h0, h1, h2, h⟩
   ·exact z0a h
  ·exact z0a h
set_option tactic.hygienic true in
theorem y7g (h : xs Φ N (.put x i e) ρ = some q) : E3 fun d l k => A6 (ev Φ ρ e [] = some d) (ρ[x]? = some (some (.list l))) (ev Φ ρ i [] = some (.int k)) (0 <= k) (k < l.length) (some (Fl.next, ρ.set x (some (.list (l.set k.toNat d)))) = some q) := by
 simp only [xs] at h
 split at h
 ·exact z0a h
 ·rename_i d h0
  split at h
  ·rename_i l h1
   split at h
   ·rename_i k h2
    split at h
    ·rename_i h3; exact ⟨d, l, k, h0, h1, h2, h3.1, h3.2, h⟩
    ·exact z0a h
   ·exact z0a h
  ·exact z0a h
set_option tactic.hygienic true in
theorem y7i {op : Op} (h : xs Φ N (.aug op x e) ρ = some q) : E2 fun a b => A3 (ρ[x]? = some (some (.int a))) (ev Φ ρ e [] = some (.int b)) (((op = .add /\ some (Fl.next, ρ.set x (some (.int (a + b)))) = some q) \/ (op = .sub /\ some (Fl.next, ρ.set x (some (.int (a - b)))) = some q))) := by
 simp only [xs] at h
 split at h
 ·rename_i a h1
  split at h
  ·rename_i b h2
   refine ⟨a, b, h1, h2, ?_⟩
   cases op <;> first | exact z0a h | exact .inl ⟨rfl, h⟩ | exact .inr ⟨rfl, h⟩
  ·exact z0a h
 ·exact z0a h
end
theorem sndS (CO : z4k prog w mg mb tab ap Φ lev) (R : z3o lev A) (F : FS c mg mb tab ap env h₀ Yc) : ∀ (k : Nat) (st : Stmt) (ms : MS), trS n c k st = some ms -> okS W ms = true -> q1p prog w A c env W h₀ Yc Φ N (exec st env) ms := by
 intro k
 induction k with
 | zero => intro st ms ht; exact z0a ht
 | succ k ih =>
  intro st ms ht ho
  have vw := q1t ht
  clear ht
  induction vw with
  | ret he =>
   intro X Y ρ ρ' s m cm fl I hx
   obtain ⟨d, hd, hx⟩ := y7f hx
   exact XS.of hx fun E Q kq => wpAny_Return_some ((y1f CO n c _ _ he env ρ [] [] Yc A s R (I.cxRet F)).E d ho hd E _ fun v h1 tk hx1 hr => kq _ h1 tk ⟨v, rfl, hr.1, fun b o e => hx1 b o (I.keep b o e)⟩)
  | @asg x p pos v i mv hi hv =>
   have ho := z9y ho
   intro X Y ρ ρ' s m cm fl I hx
   obtain ⟨d, hd, hx⟩ := y7j hx
   refine XS.of hx (xs_asg CO R F I (z1j hi).1 hv ho.1 (fun q => (Bool.or_eq_true_iff.mp ho.2).resolve_left fun z => ?_) hd)
   rw [q] at z; cases z
  | @asgT es k2 p pos v xs' ts mv hn hts hq hv =>
   have hq := z9y hq
   intro X Y ρ ρ' s m cm fl I hx
   obtain ⟨ds, ρ1, hds, hset, hx⟩ := y4l hx
   exact XS.of hx (q4q CO R F I hn hts (of_decide_eq_true hq.1) (by simpa using hq.2) hv ho hds hset)
  | @put x p sp pos i v sl mi mv hsl hmi hv hq =>
   simp only [Bool.or_eq_true, not_or, Bool.not_eq_true] at hq
   have ho := and3 ho
   intro X Y ρ ρ' s m cm fl I hx
   obtain ⟨d, l, k, hd, hl, hk, h0, h1, hx⟩ := y7g hx
   exact XS.of hx (xs_put CO R F I (z1j hsl).1 (z1j hsl).2 hq.2 ho.1.1 hq.1.2 hv hmi ho.1.2 ho.2 hd hl hk h0 h1)
  | @aug x p pos op v sl o mv hsl hop hv hq =>
   have hoo := z9y ho
   have hw : W.contains sl = false := by simpa using hoo.1
   intro X Y ρ ρ' s m cm fl I hx
   obtain ⟨a, b, ha, hb, ⟨rfl, hx2⟩ | ⟨rfl, hx2⟩⟩ := y7i hx
   ·exact XS.of hx2 (q3j CO R F I (z1j hsl).1 (z1j hsl).2 hw hv hoo.2 hb ha (.inl ⟨q1v hop, rfl⟩))
   ·exact XS.of hx2 (q3j CO R F I (z1j hsl).1 (z1j hsl).2 hw hv hoo.2 hb ha (.inr ⟨q1u hop, rfl⟩))
  | app hl hsl hd hm he =>
   obtain rfl := beq_iff_eq.mp hm
   have ho := z9y ho
   intro X Y ρ ρ' s m cm fl I hx
   obtain ⟨d, l, hdv, hl2, hlen, hx⟩ := y7k hx
   exact XS.of hx (xs_app CO R F I (z1j hsl).1 (z1j hsl).2 (by simpa using hd) ho.1 (by simpa using hl) he ho.2 hdv hl2 hlen)
  | pop hl hsl hd hm =>
   obtain rfl := beq_iff_eq.mp hm
   intro X Y ρ ρ' s m cm fl I hx
   obtain ⟨l, hl2, hlen, hx⟩ := y7h hx
   exact XS.of hx (xs_pop R F I (z1j hsl).1 (z1j hsl).2 (by simpa using hd) ho (by simpa using hl) hl2 hlen)
  | ex he =>
   intro X Y ρ ρ' s m cm fl I hx
   obtain ⟨hd, hx⟩ := y8p hx
   refine XS.of hx fun E Q kq => wpAny_Expr_any ((y1f CO n c _ _ he env ρ [] W Y A s R (I.cx F)).E _ ho hd E _ fun v h1 tk hx1 hr => ?_) (z4e F) rfl
   exact kq .next h1 tk ⟨rfl, X, Y, m, cm, I.after hx1, z7b.ofExt hx1 (fun _ q => q) fun _ q => .inl q⟩
  | ifs h1 h2 h3 =>
   have ho := and3 ho
   exact snd_if CO R F h1 ho.1.1 (z6d ih _ _ h2 ho.1.2) (z6d ih _ _ h3 ho.2)
  | whl h1 h2 =>
   have ho := z9y ho
   exact y9a CO R F h1 ho.1 (z6d ih _ _ h2 ho.2)
  | fors htg h1 h2 h3 hnd =>
   have ho := z9y ho
   have ho1 := and3 ho.1
   exact q5j CO R F htg h1 (of_decide_eq_true hnd) h2 ho1.1.1 ho1.1.2 ho1.2 (z6d ih _ _ h3 ho.2)
  | bad => exact fun X Y ρ ρ' s m cm fl I hx => z0a hx
theorem sndB (CO : z4k prog w mg mb tab ap Φ lev) (R : z3o lev A) (F : FS c mg mb tab ap env h₀ Yc) {k : Nat} {l : List Stmt} {ms : MS} (ht : trB (trS n c k) l = some ms) (ho : okS W ms = true) : q1p prog w A c env W h₀ Yc Φ N (execs l env) ms :=
 z6d (sndS CO R F k) l ms ht ho
end
end Mine
end
section
open PySem
namespace Mine
open PyProof.Rows PySem.W
theorem y1t {ns : List Str} : ∀ {vs : List Value}, vs.length = ns.length -> ns.Nodup -> ∀ (i : Nat) (x : Str) (v : Value), ns[i]? = some x -> vs[i]? = some v -> (ns.zip vs).lookup x = some v := by
 induction ns with
 | nil => intro vs _ _ i x v h; simp at h
 | cons y r ih =>
  intro vs hl hn i x v hx hv
  cases vs with
  | nil => simp at hl
  | cons u us =>
   rw [List.nodup_cons] at hn
   rw [List.zip_cons_cons, List.lookup_cons]
   cases i with
   | zero => simp at hx hv; subst hx hv; simp
   | succ i =>
    have hx' : r[i]? = some x := by simpa using hx
    have : (x == y) = false := by
     simp only [beq_eq_false_iff_ne, ne_eq]
     intro q; subst q; exact hn.1 (List.mem_of_getElem? hx')
    rw [this]
    exact ih (by simpa using hl) hn.2 i x v hx' (by simpa using hv)
theorem y2x {ns : List Str} {vs : List Value} (hl : vs.length = ns.length) (hn : ns.Nodup) : ns.filterMap (fun n => ((ns.zip vs).lookup n).map (n, ·)) = ns.zip vs := by
 have key : ∀ (ms : List Str) (us : List Value), us.length = ms.length -> (∀ (i : Nat) (x : Str) (v : Value), ms[i]? = some x -> us[i]? = some v -> (ns.zip vs).lookup x = some v) -> ms.filterMap (fun n => ((ns.zip vs).lookup n).map (n, ·)) = ms.zip us := by
  intro ms
  induction ms with
  | nil => intro us _ _; simp
  | cons x r ih =>
   intro us hl h
   cases us with
   | nil => simp at hl
   | cons u us =>
    rw [List.filterMap_cons, h 0 x u rfl rfl]
    simp only [Option.map_some, List.zip_cons_cons]
    rw [ih us (by simpa using hl) fun i x v a b => h (i + 1) x v (by simpa using a) (by simpa using b)]
 exact key ns vs hl fun i x v a b => y1t hl hn i x v a b
theorem z4s {name : Str} {params : Arguments} {body : List Stmt} {scope : Scope} {pm cd doc : Value} {args : List Value} (h1 : params.posonlyargs = []) (h2 : params.kwonlyargs = []) (h3 : params.vararg = none) (h4 : params.kwarg = none)
  (hl : args.length = (params.args.map (·.arg)).length) (hn : (params.args.map (·.arg)).Nodup) :
  bindArgs (Calls.docDef name params body scope pm cd doc) ⟨args, []⟩ = pure ((params.args.map (·.arg)).zip args) := by
 have hz : ∀ x ∈ params.args.map (·.arg), (((params.args.map (·.arg)).zip args).lookup x).isNone = false := fun x hx => by
  obtain ⟨i, hi⟩ := List.getElem?_of_mem hx
  have hi' := (List.getElem?_eq_some_iff.mp hi).1
  rw [y1t hl hn i x (args[i]'(by exact q2o hi' hl)) hi (List.getElem?_eq_getElem (by exact q2o hi' hl))]
  rfl
 have hm : ((params.args.map (·.arg)).take (params.args.map (·.arg)).length).filter (fun n => (((params.args.map (·.arg)).zip args).lookup n).isNone) = [] := by
  rw [List.take_length, List.filter_eq_nil_iff]
  intro x hx; rw [hz x hx]; decide
 have hf := y2x hl hn
 obtain ⟨po, as, va, ko, kd, kw, df⟩ := params
 dsimp only at h1 h2 h3 h4 hl hn hm hf ⊢
 subst h1 h2 h3 h4
 have hgt' : decide (args.length > (as.map (·.arg)).length) = false := decide_eq_false (by exact o591 hl)
 have pb : ∀ {α β : Type} (a : α) (f : α -> Sem β), (pure a >>= f) = f a := fun _ _ => rfl
 have e1 : seqItems? (Calls.docDef name ⟨[], as, none, [], kd, none, df⟩ body scope pm cd doc).defaults = pure none := rfl
 unfold bindArgs
 simp only [e1, pb, show (Calls.docDef name ⟨[], as, none, [], kd, none, df⟩ body scope pm cd doc).params = ⟨[], as, none, [], kd, none, df⟩ from rfl, List.map_nil, List.nil_append, List.forIn_nil, hgt', Bool.false_and, Bool.false_eq_true, if_false, Option.getD_none, List.drop_nil, List.length_nil, Nat.sub_zero, hm, List.isEmpty_nil, Bool.not_true, List.zip_nil_right, List.append_nil, hf]
end Mine
end
section
open PySem
namespace Mine
set_option genCtorIdx false
set_option genSizeOf false
open PyProof.Rows PySem.W
noncomputable def z2l (p : Program) : List z0r := p.main.body.filterMap fun s => match s with
 | .FunctionDef name args body _ _ _ sc .. => some ⟨name, args, body, sc⟩
 | _ => none
structure q7l (fns : List Str) (i : z0r) (d : MD) : Prop where
 tr : y8v fns i.params i.body i.scope = some d.body
 ok : okS d.own d.body = true
 npar : d.npar = i.params.args.length
 slots : d.slots.length = (z2m i.scope).length
 own : ∀ j ∈ d.own, d.npar <= j
 p1 : i.params.posonlyargs = []
 p2 : i.params.kwonlyargs = []
 p3 : i.params.vararg = none
 p4 : i.params.kwarg = none
 kind : i.scope.kind = .function
 co : i.scope.isCoroutine = false
 gen : i.scope.isGenerator = false
 nodup : (z2m i.scope).Nodup
 look : ∀ x ∈ i.scope.names, i.scope.names.lookup x.1 = some x.2
 cls : ∀ x ∈ i.scope.names, (x.1 == ("__classdict__" : Str)) = false
theorem z1m {x : Str} : ∀ (names : List (Str × NameKind)) (n : Nat) (acc : List (Str × Addr)), ((x, NameKind.cell) ∈ names \/ ∃ a, acc.lookup x = some a) -> ∃ a, (cellsFrom n names acc).lookup x = some a
 | [], n, acc, h => by
  rcases h with h | h
  ·cases h
  ·exact h
 | (y, k) :: r, n, acc, h => by
  unfold cellsFrom
  by_cases hk : (k == NameKind.cell) = true
  ·rw [if_pos hk]
   refine z1m r _ _ ?_
   by_cases hxy : x = y
   ·subst hxy
    exact .inr ⟨n, by simp [List.lookup_cons]⟩
   ·rcases h with h | ⟨a, h⟩
    ·rcases List.mem_cons.mp h with e | e
     ·exact absurd (Prod.mk.inj e).1 hxy
     ·exact .inl e
    ·refine .inr ⟨a, ?_⟩
     rw [List.lookup_cons, beq_eq_false_iff_ne.mpr hxy]
     exact h
  ·rw [if_neg hk]
   refine z1m r _ _ ?_
   rcases h with h | h
   ·rcases List.mem_cons.mp h with e | e
    ·obtain ⟨rfl, rfl⟩ := Prod.mk.inj e
     exact absurd (by decide) hk
    ·exact .inl e
   ·exact .inr h
theorem y0z {kindOf : Str -> Option NameKind} {x : Str} : ∀ (bs : List (Str × Value)) (m : Str -> Option Value), (∀ p ∈ bs, p.1 ≠ x) -> bindL kindOf bs m x = m x
 | [], m, _ => rfl
 | (y, v) :: r, m, h => by
  unfold bindL
  rw [y0z r _ fun p hp => h p (List.mem_cons_of_mem _ hp)]
  have := h (y, v) List.mem_cons_self
  split
  ·simp [Ne.symm this]
  ·rfl
theorem y1a {kindOf : Str -> Option NameKind} {x : Str} : ∀ (bs : List (Str × Value)) (m : Str -> Option Value), (∀ p ∈ bs, p.1 ≠ x) -> bindC kindOf bs m x = m x
 | [], m, _ => rfl
 | (y, v) :: r, m, h => by
  unfold bindC
  rw [y1a r _ fun p hp => h p (List.mem_cons_of_mem _ hp)]
  have := h (y, v) List.mem_cons_self
  split
  ·rfl
  ·simp [Ne.symm this]
set_option tactic.hygienic true in
theorem z7a {kindOf : Str -> Option NameKind} : ∀ (ns : List Str) (vs : List Value) (m cm : Str -> Option Value), vs.length = ns.length -> ns.Nodup -> ∀ (i : Nat) (x : Str) (v : Value), ns[i]? = some x -> vs[i]? = some v ->
  (if kindOf x = some .local then bindL kindOf (ns.zip vs) m x else bindC kindOf (ns.zip vs) cm x) = some v
 | [], _, _, _, _, _, i, x, v, h, _ => by simp at h
 | y :: r, [], _, _, hl, _, _, _, _, _, _ => by simp at hl
 | y :: r, u :: us, m, cm, hl, hn, i, x, v, hx, hv => by
  rw [List.nodup_cons] at hn
  rw [List.zip_cons_cons]
  cases i with
  | zero =>
   simp at hx hv
   subst hx hv
   have hne : ∀ p ∈ r.zip us, p.1 ≠ y := fun p hp q => hn.1 (q ▸ (List.of_mem_zip hp).1)
   split
   ·rename_i hk
    unfold bindL
    rw [y0z _ _ hne, if_pos hk]
    simp
   ·rename_i hk
    unfold bindC
    rw [y1a _ _ hne, if_neg hk]
    simp
  | succ i =>
   unfold bindL bindC
   exact z7a r us _ _ (by simpa using hl) hn.2 i x v (by simpa using hx) (by simpa using hv)
section
variable {prog : Program} {w : World} {mg mb : Str -> Option Value} {tab : List z0r} {ap : Addr}
set_option tactic.hygienic true in
theorem y8u {fns : List Str} {params : Arguments} {body : List Stmt} {sc : Scope} {ms : MS} (h : y8v fns params body sc = some ms) : params.args.map (·.arg) = (z2m sc).take params.args.length /\ trB (trS 30 (z5e fns sc) 30) body = some ms := by
 unfold y8v at h
 split at h
 ·rename_i q; exact ⟨of_decide_eq_true q, h⟩
 ·cases h
theorem y0g {sc : Scope} {x : Str} (h : x ∈ z2m sc) : (x, NameKind.local) ∈ sc.names \/ (x, NameKind.cell) ∈ sc.names := by
 unfold z2m at h
 obtain ⟨⟨y, k⟩, h1, rfl⟩ := List.mem_map.mp h
 obtain ⟨h2, h3⟩ := List.mem_filter.mp h1
 simp only [Bool.or_eq_true, beq_iff_eq] at h3
 rcases h3 with q | q <;> subst q
 ·exact .inl h2
 ·exact .inr h2
set_option tactic.hygienic true in
theorem q4m {P : List MD} (hok : ∀ (k : Nat) (i : z0r) (d : MD), tab[k]? = some i -> P[k]? = some d -> d.body = .bad \/ q7l (tab.map (·.name)) i d) : ∀ n, z4k prog w mg mb tab ap (phi P n) n := by
 intro n
 induction n with
 | zero => intro k ds d x h; simp [phi] at h
 | succ n ih =>
  intro k ds d x h hx A s Y vs a R G hY hr hmg E Q kk
  simp only [phi] at h
  split at h
  ·cases h
  ·rename_i md hmd
   obtain ⟨i, hi, rfl⟩ : ∃ i, tab[k]? = some i /\ i.name = x := by
    rw [List.getElem?_map] at hx
    exact Option.map_eq_some_iff.mp hx
   unfold y2f at h
   split at h
   ·rename_i hlen
    rcases hok k i md hi hmd with hb | dk
    ·rw [hb] at h
     simp [xs] at h
    ·obtain ⟨a0, o, pm, cd, doc, q1, ho, hdata, hcd⟩ := G.defs i (List.mem_of_getElem? hi)
     rw [hmg] at q1
     cases q1
     obtain ⟨ht1, ht2⟩ := y8u dk.tr
     have hvl : vs.length = (i.params.args.map (·.arg)).length := by
      rw [hr.length, hlen, dk.npar, List.length_map]
     have hpn : (i.params.args.map (·.arg)).Nodup := by rw [ht1]; exact dk.nodup.sublist (List.take_sublist _ _)
     have hpm : ∀ y ∈ i.params.args.map (·.arg), y ∈ z2m i.scope := fun y hy => by rw [ht1] at hy; exact List.mem_of_mem_take hy
     have kinds : ∀ y ∈ z2m i.scope, i.scope.names.lookup y = some .local \/ (i.scope.names.lookup y = some .cell /\ ∃ z, (cellsFrom (s.heap.objs.size + 1) i.scope.names []).lookup y = some z) := fun y hy => by
      rcases y0g hy with q | q
      ·exact .inl (dk.look _ q)
      ·exact .inr ⟨dk.look _ q, z1m _ _ _ (.inl q)⟩
     refine wpAny_call (call_cells_ret (by have := R.depth; exact o592 this) ho hdata G.nolimit hcd (z4s dk.p1 dk.p2 dk.p3 dk.p4 hvl hpn) (fun y hy => ?_) (fun h₁ tk F₁ C₁ => ?_) dk.co dk.gen dk.kind)
     ·rcases kinds y.1 (hpm _ (List.of_mem_zip hy).1) with q | ⟨q1, z, q2⟩
      ·exact .inl q
      ·exact .inr ⟨q1, by rw [q2]; rfl⟩
     ·have R' : z3o n (A.deeper (envOfC i.name i.scope s.heap.objs.size a cd)) := ⟨R.hh, by have := R.depth; show A.depth + 1 + n < _; exact o593 this, by have := R.units; show A.units + 3 + 4 * n + 100 < _; exact o594 this⟩
      have Lnone : ∀ z : Addr, s.heap.objs.size <= z -> s.heap.get? z = none := fun z hz => get?_none_of_size hz
      have FSx : FS (z5e (tab.map (·.name)) i.scope) mg mb tab ap (envOfC i.name i.scope s.heap.objs.size a cd) s.heap Y := by
       refine ⟨G, rfl, rfl, rfl, dk.kind, rfl, rfl, dk.nodup, kinds, fun y hy => ?_, hY, ?_⟩
       ·have := z1d hy
        exact ⟨z1m _ _ _ (.inl this), dk.cls _ this⟩
       ·obtain ⟨_, ws, nn, e, _⟩ := G.primes
        exact ⟨_, e⟩
      have hown : ∀ j, md.own.contains j = true -> md.npar <= j := fun j hj => dk.own j (by simpa using hj)
      have hρ : ∀ (j : Nat) (e : D), (ds.map some ++ List.replicate (md.slots.length - md.npar) none)[j]? = some (some e) -> j < ds.length /\ ds[j]? = some e := fun j e q => by
       by_cases hj : j < ds.length
       ·rw [List.getElem?_append_left (by simpa using hj), List.getElem?_map] at q
        obtain ⟨e', h1, h2⟩ := Option.map_eq_some_iff.mp q
        cases h2
        exact ⟨hj, h1⟩
       ·rw [List.getElem?_append_right (by simpa using hj), List.getElem?_replicate] at q
        split at q
        ·cases q
        ·cases q
      have Yn : ∀ z, (Y z \/ z = s.heap.objs.size \/ ∃ y, (cellsFrom (s.heap.objs.size + 1) i.scope.names []).lookup y = some z) -> Y z \/ s.heap.get? z = none := fun z q => by
       rcases q with q | q | ⟨y, q⟩
       ·exact .inl q
       ·exact .inr (q ▸ Lnone _ (Nat.le_refl _))
       ·exact .inr (Lnone _ (Nat.le_of_lt (C₁.above y z (PySem.mem_of_lookup q))))
      have I0 : INV (z5e (tab.map (·.name)) i.scope) (envOfC i.name i.scope s.heap.objs.size a cd) md.own s.heap Y (fun z => z = s.heap.objs.size \/ ∃ y, (cellsFrom (s.heap.objs.size + 1) i.scope.names []).lookup y = some z)
        (fun z => Y z \/ z = s.heap.objs.size \/ ∃ y, (cellsFrom (s.heap.objs.size + 1) i.scope.names []).lookup y = some z) (ds.map some ++ List.replicate (md.slots.length - md.npar) none) h₁
        (bindL (envOfC i.name i.scope s.heap.objs.size a cd).kindOf ((i.params.args.map (·.arg)).zip vs) fun _ => none) (bindC (envOfC i.name i.scope s.heap.objs.size a cd).kindOf ((i.params.args.map (·.arg)).zip vs) fun _ => none) := by
       refine ⟨F₁.keep, fun z q => .inr q, fun z q => ?_, fun z q => .inl q, fun z q => ?_, F₁.ns, .inl rfl, fun y z e => ⟨C₁.cell y z e, .inr ⟨y, e⟩, Nat.ne_of_gt (C₁.above y z (PySem.mem_of_lookup e))⟩, fun y z b e1 e2 => name_of_addr C₁.apart (PySem.mem_of_lookup e1) (PySem.mem_of_lookup e2), fun j y e hj he => ?_, fun j k' y z e1 e2 b hj hk wj wk r1 r2 _ _ => ?_⟩
       ·rcases q with q | q | ⟨y, q⟩
        ·obtain ⟨o', e⟩ := hY z q; exact ⟨o', F₁.keep z o' e⟩
        ·obtain ⟨o', _, _, e, _⟩ := F₁.ns; exact ⟨o', q ▸ e⟩
        ·obtain ⟨o', e, _⟩ := C₁.cell y z q; exact ⟨o', e⟩
       ·rcases q with q | ⟨y, q⟩
        ·exact q ▸ Lnone _ (Nat.le_refl _)
        ·exact Lnone _ (Nat.le_of_lt (C₁.above y z (PySem.mem_of_lookup q)))
       ·obtain ⟨hj1, hj2⟩ := hρ j e he
        obtain ⟨v, hv, rv⟩ := hr.at hj2
        have hjp : j < i.params.args.length := by rw [<- dk.npar, <- hlen]; exact hj1
        have hyp : (i.params.args.map (·.arg))[j]? = some y := by
         rw [ht1, List.getElem?_take_of_lt hjp]; exact hj
        have bg := z7a (kindOf := (envOfC i.name i.scope s.heap.objs.size a cd).kindOf) (i.params.args.map (·.arg)) vs (fun _ => none) (fun _ => none) hvl hpn j y v hyp hv
        have hkd : (envOfC i.name i.scope s.heap.objs.size a cd).kindOf y = i.scope.names.lookup y := rfl
        have hnv : z6w (z5e (tab.map (·.name)) i.scope) (bindL (envOfC i.name i.scope s.heap.objs.size a cd).kindOf ((i.params.args.map (·.arg)).zip vs) fun _ => none) (bindC (envOfC i.name i.scope s.heap.objs.size a cd).kindOf ((i.params.args.map (·.arg)).zip vs) fun _ => none) y = some v := by
         rw [hkd] at bg
         unfold z6w
         rcases kinds y (List.mem_of_getElem? hj) with q | ⟨q, _⟩
         ·rw [if_pos q] at bg
          rw [if_neg (by show ¬ i.scope.names.lookup y = some .cell; rw [q]; decide)]
          exact bg
         ·rw [if_neg (by rw [q]; decide)] at bg
          rw [if_pos (by show i.scope.names.lookup y = some .cell; exact q)]
          exact bg
        refine ⟨v, hnv, fun _ => z0k.ext (z0k.fresh' rv Yn) F₁.keep, fun wj => ?_⟩
        exact absurd (hlen ▸ hown j wj) (Nat.not_le.mpr hj1)
       ·have := hown j wj
        obtain ⟨q, _⟩ := hρ j e1 r1
        rw [<- hlen] at this
        exact o595 q this
      split at h
      ·cases h
      ·rename_i v ρ' hx'
       cases h
       refine sndB ih R' FSx ht2 dk.ok _ _ _ _ { s with heap := h₁, toks := tk } _ _ _ I0 hx' _ _ fun f h2 tk2 o => ?_
       obtain ⟨v', rfl, r2, e2⟩ := o
       exact kk v' h2 tk2 e2 r2
      ·rename_i ρ' hx'
       cases h
       refine sndB ih R' FSx ht2 dk.ok _ _ _ _ { s with heap := h₁, toks := tk } _ _ _ I0 hx' _ _ fun f h2 tk2 o => ?_
       obtain ⟨rfl, X', Y', m', cm', I', _⟩ := o
       exact kk .none h2 tk2 I'.keep Rep.none
   ·cases h
end
end Mine
end
section
open PySem
namespace Mine
open PyProof.Rows PySem.W
noncomputable def PW : Program := PySem.Challenge.pw_pq0217_01
noncomputable def y8f : MS -> Bool
 | .bad => true
 | _ => false
noncomputable def q1a (fns : List Str) (i : z0r) (d : MD) : Bool :=
 okS d.own d.body && decide (d.npar = i.params.args.length) && decide (d.slots.length = (z2m i.scope).length) && d.own.all (fun j => decide (d.npar <= j)) &&
 i.params.posonlyargs.isEmpty && i.params.kwonlyargs.isEmpty && i.params.vararg.isNone && i.params.kwarg.isNone && decide (i.scope.kind = .function) && !i.scope.isCoroutine && !i.scope.isGenerator &&
 decide ((z2m i.scope).Nodup) && i.scope.names.all (fun x => i.scope.names.lookup x.1 == some x.2) && i.scope.names.all (fun x => !(x.1 == ("__classdict__" : Str)))
theorem q2y {fns : List Str} {i : z0r} {d : MD} (ht : y8v fns i.params i.body i.scope = some d.body) (h : q1a fns i d = true) : q7l fns i d := by
 simp only [q1a, Bool.and_eq_true, decide_eq_true_eq, List.all_eq_true, List.isEmpty_iff, Option.isNone_iff_eq_none, Bool.not_eq_true', beq_iff_eq] at h
 obtain ⟨⟨⟨⟨⟨⟨⟨⟨⟨⟨⟨⟨⟨h2, h3⟩, h4⟩, h5⟩, h6⟩, h7⟩, h8⟩, h9⟩, h10⟩, h11⟩, h12⟩, h13⟩, h14⟩, h15⟩ := h
 exact ⟨ht, h2, h3, h4, h5, h6, h7, h8, h9, h10, h11, h12, h13, h14, h15⟩
noncomputable def allOk : Bool := ((z2l PW).zip prog).all fun p => y8f p.2.body || q1a (y2w PW) p.1 p.2
theorem y8n : allOk = true := by decide +kernel
theorem allTr : ((z2l PW).zip prog).map (fun p => if y8f p.2.body then none else y8v (y2w PW) p.1.params p.1.body p.1.scope) = ((z2l PW).zip prog).map (fun p => if y8f p.2.body then none else some p.2.body) := by kernel_rfl
theorem q2s {m : MS} (h : y8f m = true) : m = .bad := by
 unfold y8f at h
 split at h
 ·rfl
 ·cases h
theorem z6c : (z2l PW).map (·.name) = y2w PW := by decide +kernel
theorem y9o (k : Nat) (i : z0r) (d : MD) (hi : (z2l PW)[k]? = some i) (hd : prog[k]? = some d) : d.body = .bad \/ q7l ((z2l PW).map (·.name)) i d := by
 have h := y8n
 unfold allOk at h
 rw [List.all_eq_true] at h
 have hm : ((z2l PW).zip prog)[k]? = some (i, d) := by rw [List.getElem?_zip_eq_some]; exact ⟨hi, hd⟩
 have := h (i, d) (List.mem_of_getElem? hm)
 have ht := congrArg (fun l => l[k]?) allTr
 simp only [List.getElem?_map, hm, Option.map_some] at ht
 by_cases hb : y8f d.body = true
 ·exact .inl (q2s hb)
 ·rw [if_neg hb, if_neg hb] at ht
  rw [Bool.or_eq_true] at this
  rw [z6c]
  exact .inr (q2y (Option.some.inj ht) (this.resolve_left hb))
end Mine
end
section
open PySem
namespace Mine
open PyProof.Rows PySem.W
theorem y4p : (z2l PW).length = 52 := by decide +kernel
noncomputable def z2j : z0r := (z2l PW)[41]'(by rw [y4p]; decide)
noncomputable def z1q : z0r := (z2l PW)[42]'(by rw [y4p]; decide)
noncomputable def z3d : z0r := (z2l PW)[51]'(by rw [y4p]; decide)
noncomputable def z6o : List Str := y2w PW
theorem z7x : ∃ (gp : Nat -> Pos) (gk : Nat -> Nat) (ge : Nat -> Expr), z2j.body =
  [.Assign [.Name "drawn" (gp 0)] (.IfExp (ge 0) (.Call (.Attribute (.Subscript (.Name "box" (gp 1)) (.Constant (.int 0) (gk 0) (gp 2)) (gp 3)) "pop" (gp 11)) [.Constant (.int 0) (gk 1) (gp 4)] [] (gp 12)) (ge 1) (gp 13)) (gp 5),
  .Assign [.Subscript (.Name "box" (gp 6)) (.Constant (.int 1) (gk 2) (gp 7)) (gp 8)] (ge 2) (gp 9), .Return (some (ge 3)) (gp 10)] /\
  trE 30 (z5e z6o z2j.scope) (ge 0) = some (.cmp .gt (.len (.idx (.var 0) (.int 0))) (.int 0)) /\
  trE 30 (z5e z6o z2j.scope) (ge 1) = some (.bin .fdiv (.idx (.var 0) (.int 1)) (.int 3)) /\
  trE 30 (z5e z6o z2j.scope) (ge 2) = some (.bin .mod (.bin .add (.bin .add (.bin .mul (.idx (.var 0) (.int 1)) (.int 31)) (.bin .mod (.var 2) (.int 997))) (.int 7)) (.int 1009)) /\
  trE 30 (z5e z6o z2j.scope) (ge 3) = some (.bin .mod (.var 2) (.var 1)) /\ ((gp 11).endLine == (gp 12).line) = true := by
 refine ⟨fun n => [_, _, _, _, _, _, _, _, _, _, _, _, _, _].getD n default, fun n => [_, _, _].getD n 0, fun n => [_, _, _, _].getD n (.List [] default), rfl, ?_, ?_, ?_, ?_, ?_⟩
 all_goals first | kernel_rfl | decide +kernel
noncomputable def y1j : Nat -> Pos := Classical.choose z7x
noncomputable def gtk1 : Nat -> Nat := Classical.choose (Classical.choose_spec z7x)
noncomputable def y6o : Nat -> Expr := Classical.choose (Classical.choose_spec (Classical.choose_spec z7x))
theorem gtk_ok : z2j.body =
  [.Assign [.Name "drawn" (y1j 0)] (.IfExp (y6o 0) (.Call (.Attribute (.Subscript (.Name "box" (y1j 1)) (.Constant (.int 0) (gtk1 0) (y1j 2)) (y1j 3)) "pop" (y1j 11)) [.Constant (.int 0) (gtk1 1) (y1j 4)] [] (y1j 12)) (y6o 1) (y1j 13)) (y1j 5),
  .Assign [.Subscript (.Name "box" (y1j 6)) (.Constant (.int 1) (gtk1 2) (y1j 7)) (y1j 8)] (y6o 2) (y1j 9), .Return (some (y6o 3)) (y1j 10)] /\
  trE 30 (z5e z6o z2j.scope) (y6o 0) = some (.cmp .gt (.len (.idx (.var 0) (.int 0))) (.int 0)) /\
  trE 30 (z5e z6o z2j.scope) (y6o 1) = some (.bin .fdiv (.idx (.var 0) (.int 1)) (.int 3)) /\
  trE 30 (z5e z6o z2j.scope) (y6o 2) = some (.bin .mod (.bin .add (.bin .add (.bin .mul (.idx (.var 0) (.int 1)) (.int 31)) (.bin .mod (.var 2) (.int 997))) (.int 7)) (.int 1009)) /\
  trE 30 (z5e z6o z2j.scope) (y6o 3) = some (.bin .mod (.var 2) (.var 1)) /\ ((y1j 11).endLine == (y1j 12).line) = true := (Classical.choose_spec (Classical.choose_spec (Classical.choose_spec z7x)))
theorem z6g : ∃ (gp : Nat -> Pos) (gk : Nat -> Nat) (ge : Nat -> Expr) (gs : Scope), z1q.body =
  [.Assign [.Name "many" (gp 0)] (.BinOp (.Constant (.int 1) (gk 0) (gp 1)) .Add (.Call (.Name "_law_take" (gp 2)) [.Name "box" (gp 3), .Constant (.int 2) (gk 1) (gp 4)] [] (gp 5)) (gp 6)) (gp 7),
  .Assign [.Name "found" (gp 8)] (.ListComp (.BinOp (.Call (.Name "_law_take" (gp 9)) [.Name "box" (gp 10), .Constant (.int 7) (gk 2) (gp 11)] [] (gp 12)) .Sub (.Constant (.int 3) (gk 3) (gp 13)) (gp 14)) [⟨.Name "turn" (gp 15), (ge 0), [], 0⟩] gs (gp 16)) (gp 17),
  .Return (some (.BinOp (.Name "found" (gp 18)) .Add (.List [.Subscript (ge 1) (.Call (.Name "_law_take" (gp 19)) [.Name "box" (gp 20), .Constant (.int 4) (gk 4) (gp 21)] [] (gp 22)) (gp 23)] (gp 24)) (gp 25))) (gp 26)] /\
  z4c (trE 30) (z5e z6o z1q.scope) (ge 0) = some (.range (.var 1)) /\ z2f (z5e z6o z1q.scope) gs ["turn"] = true /\ gs.names.lookup ("_law_take" : Str) = some NameKind.globalImplicit /\ gs.names.lookup ("box" : Str) = some NameKind.free /\
  ((gp 8).line == (gp 16).line) = true /\ (!(gs.names.any fun x => x.1 == ("found" : Str) && (x.2 == .local || x.2 == .cell))) = true /\
  trE 30 (z5e z6o z1q.scope) (ge 1) = some (.list (.cons (.int 1) (.cons (.int 2) (.cons (.neg (.int 1)) (.cons (.int 3) .nil))))) := by
 refine ⟨fun n => [_, _, _, _, _, _, _, _, _, _, _, _, _, _, _, _, _, _, _, _, _, _, _, _, _, _, _].getD n default, fun n => [_, _, _, _, _].getD n 0, fun n => [_, _].getD n (.List [] default), _, rfl, ?_, ?_, ?_, ?_, ?_, ?_, ?_⟩
 all_goals first | kernel_rfl | decide +kernel
noncomputable def z2q : Nat -> Pos := Classical.choose z6g
noncomputable def q0r : Nat -> Nat := Classical.choose (Classical.choose_spec z6g)
noncomputable def q2u : Nat -> Expr := Classical.choose (Classical.choose_spec (Classical.choose_spec z6g))
noncomputable def y8h : Scope := Classical.choose (Classical.choose_spec (Classical.choose_spec (Classical.choose_spec z6g)))
theorem gpl_ok : z1q.body =
  [.Assign [.Name "many" (z2q 0)] (.BinOp (.Constant (.int 1) (q0r 0) (z2q 1)) .Add (.Call (.Name "_law_take" (z2q 2)) [.Name "box" (z2q 3), .Constant (.int 2) (q0r 1) (z2q 4)] [] (z2q 5)) (z2q 6)) (z2q 7),
  .Assign [.Name "found" (z2q 8)] (.ListComp (.BinOp (.Call (.Name "_law_take" (z2q 9)) [.Name "box" (z2q 10), .Constant (.int 7) (q0r 2) (z2q 11)] [] (z2q 12)) .Sub (.Constant (.int 3) (q0r 3) (z2q 13)) (z2q 14)) [⟨.Name "turn" (z2q 15), (q2u 0), [], 0⟩] y8h (z2q 16)) (z2q 17),
  .Return (some (.BinOp (.Name "found" (z2q 18)) .Add (.List [.Subscript (q2u 1) (.Call (.Name "_law_take" (z2q 19)) [.Name "box" (z2q 20), .Constant (.int 4) (q0r 4) (z2q 21)] [] (z2q 22)) (z2q 23)] (z2q 24)) (z2q 25))) (z2q 26)] /\
  z4c (trE 30) (z5e z6o z1q.scope) (q2u 0) = some (.range (.var 1)) /\ z2f (z5e z6o z1q.scope) y8h ["turn"] = true /\ y8h.names.lookup ("_law_take" : Str) = some NameKind.globalImplicit /\ y8h.names.lookup ("box" : Str) = some NameKind.free /\
  ((z2q 8).line == (z2q 16).line) = true /\ (!(y8h.names.any fun x => x.1 == ("found" : Str) && (x.2 == .local || x.2 == .cell))) = true /\
  trE 30 (z5e z6o z1q.scope) (q2u 1) = some (.list (.cons (.int 1) (.cons (.int 2) (.cons (.neg (.int 1)) (.cons (.int 3) .nil))))) := (Classical.choose_spec (Classical.choose_spec (Classical.choose_spec (Classical.choose_spec z6g))))
end Mine
end
section
open PySem
namespace Mine
set_option genCtorIdx false
set_option genSizeOf false
open PyProof.Rows PySem.W
structure z2b (h : Heap) (ba la : Addr) (ns : List Int) (seed : Int) : Prop where
 ne : ba ≠ la
 box : ∃ t n, h.get? ba = some { cls := .type "list", data := .seq [Value.ref la, Value.int seed t].toArray n }
 lo : 0 <= seed
 hi : seed < 1009
 row : E2 fun ws n => A3 (h.get? la = some { cls := .type "list", data := .seq ws.toArray n }) (ws.length <= LEN) (z0k h (fun _ => False) ws (ns.map .int))
noncomputable def z5x (ba la : Addr) (h h' : Heap) : Prop := ∀ b o, b ≠ ba -> b ≠ la -> h.get? b = some o -> h'.get? b = some o
theorem z5x.refl (ba la : Addr) (h : Heap) : z5x ba la h h := fun _ _ _ _ e => e
theorem z5x.trans {ba la : Addr} {h h₁ h₂ : Heap} (x : z5x ba la h h₁) (y : z5x ba la h₁ h₂) : z5x ba la h h₂ := fun b o h1 h2 e => y b o h1 h2 (x b o h1 h2 e)
theorem z5x.ofExt {ba la : Addr} {h h' : Heap} (x : Ext h h') : z5x ba la h h' := fun b o _ _ e => x b o e
theorem z2x {h h' : Heap} {Y Y' : Addr -> Prop} : ∀ {ws : List Value} {ns : List Int}, z0k h Y ws (ns.map D.int) -> z0k h' Y' ws (ns.map D.int)
 | ws, [], r => by cases r; exact .nil
 | ws, n :: ns, r => by
  cases r with
  | int r => exact .int (z2x r)
theorem z2b.keep {ba la : Addr} {h h' : Heap} {ns : List Int} {seed : Int} (B : z2b h ba la ns seed) (h1 : ∀ o, h.get? ba = some o -> h'.get? ba = some o) (h2 : ∀ o, h.get? la = some o -> h'.get? la = some o) : z2b h' ba la ns seed := by
 obtain ⟨t, n, e⟩ := B.box
 obtain ⟨ws, n2, e2, hl, r⟩ := B.row
 exact ⟨B.ne, ⟨t, n, h1 _ e⟩, B.lo, B.hi, ws, n2, h2 _ e2, hl, z2x r⟩
theorem z2b.ext {ba la : Addr} {h h' : Heap} {ns : List Int} {seed : Int} (B : z2b h ba la ns seed) (x : Ext h h') : z2b h' ba la ns seed := B.keep (fun o e => x _ _ e) fun o e => x _ _ e
noncomputable def q3d (ns : List Int) (seed : Int) : D := .list [.list (ns.map .int), .int seed]
theorem z2b.rep {ba la : Addr} {h : Heap} {ns : List Int} {seed : Int} (B : z2b h ba la ns seed) : Rep h (fun _ => False) (.ref ba) (q3d ns seed) := by
 obtain ⟨t, n, e⟩ := B.box
 obtain ⟨ws, n2, e2, hl, r⟩ := B.row
 have := z2v
 refine .list (fun q => q) e (by simp; exact Nat.le_add_left _ _) ?_ .nil
 exact .list (fun q => q) e2 hl r (.int .nil)
noncomputable def EB {α : Type} (M : Model) (A : Around) (t : Sem α) (s : Shared) (ba la : Addr) (P : α -> Heap -> Prop) : Prop :=
 ∀ (E : Value -> Shared -> Prop) (Q : α -> Shared -> Prop), (∀ a h tk ns seed, z5x ba la s.heap h -> z2b h ba la ns seed -> P a h -> Q a { s with heap := h, toks := tk }) -> wpAny M A t Q E s
section
variable {w : World} {mg mb : Str -> Option Value} {A : Around} {s : Shared}
set_option tactic.hygienic true in
theorem y3b {c : TC} {env : Env} {h : Heap} {ρ : List (Option D)} {Y : Addr -> Prop} (hY : ∀ a, Y a -> ∃ o, h.get? a = some o) (G : GI mg mb (z2l PW) 306 h) (fns : c.fns = (z2l PW).map (·.name)) (cn : c.cn = []) (sc : env.scope = c.sc) (kind : c.sc.kind = .function) (globals : env.globals = mainGlobals) (builtins : env.builtins = builtinsNs)
  (cells : ∀ x, c.sc.names.lookup x = some .cell -> (∃ a, env.cells.lookup x = some a) /\ (x == ("__classdict__" : Str)) = false)
  (vals : ∀ (i : Nat) (x : Str) (d : D), c.names[i]? = some x -> (c.sc.names.lookup x = some .local \/ c.sc.names.lookup x = some .cell) -> ρ[i]? = some (some d) -> ∃ v, NV env h x v /\ Rep h Y v d) :
  CX c mg mb (z2l PW) 306 env [] ρ [] Y h where
 gi := G
 fns := fns
 kind := by rw [sc]; exact kind
 globals := globals
 builtins := builtins
 yb := hY
 glob := fun x hg => by
  unfold Env.kindOf
  rw [sc]
  unfold z1z at hg
  simpa using hg
 vars := fun x i d hl hr => by
  have idx : ∀ {i : Nat}, (c.names.idxOf? x).map ME.var = some (.var i) -> c.names[i]? = some x := fun {i} q => by
   obtain ⟨j, hj, e⟩ := Option.map_eq_some_iff.mp q
   cases e
   obtain ⟨h1, h2, h3⟩ := List.idxOf?_eq_some_iff.mp hj
   rw [List.getElem?_eq_getElem h1, h2]
  unfold TC.look at hl
  rw [cn] at hl
  simp only [List.isEmpty_nil, if_true, Bool.true_or] at hl
  have key : c.names[i]? = some x /\ (c.sc.names.lookup x = some .local \/ c.sc.names.lookup x = some .cell) := by
   split at hl
   ·rename_i q; exact ⟨idx hl, .inl q⟩
   ·rename_i q; exact ⟨idx hl, .inr q⟩
   ·cases hl
   ·cases hl
  obtain ⟨v, h1, h2⟩ := vals i x d key.1 key.2 hr
  exact ⟨v, h1, .rep h2, fun _ => h2⟩
 cvars := fun x j d hl _ => by
  exfalso
  unfold TC.look at hl
  rw [cn] at hl
  simp only [List.isEmpty_nil, if_true, Bool.true_or] at hl
  split at hl
  ·obtain ⟨_, _, q⟩ := Option.map_eq_some_iff.mp hl; cases q
  ·obtain ⟨_, _, q⟩ := Option.map_eq_some_iff.mp hl; cases q
  ·cases hl
  ·cases hl
 cells := fun _ x hk => by
  obtain ⟨h1, h2⟩ := cells x hk
  exact ⟨by unfold Env.kindOf; rw [sc]; exact hk, h1, h2⟩
theorem CO0 : z4k PW w mg mb (z2l PW) 306 (phi prog 0) 0 := q4m y9o 0
theorem z8n : z2j.params.args.map (·.arg) = (["box", "many"] : List Str) /\ z2m z2j.scope = (["box", "many", "drawn"] : List Str) /\ z2j.scope.kind = .function /\ z2j.scope.isCoroutine = false /\ z2j.scope.isGenerator = false /\ z2j.params.posonlyargs.isEmpty = true /\ z2j.params.kwonlyargs.isEmpty = true /\
  z2j.params.vararg.isNone = true /\ z2j.params.kwarg.isNone = true /\ z2j.scope.names.lookup ("box" : Str) = some NameKind.local /\ z2j.scope.names.lookup ("many" : Str) = some NameKind.local /\ z2j.scope.names.lookup ("drawn" : Str) = some NameKind.local /\ (z2j.scope.names.all fun x => x.2 != .cell) = true /\ z2j.name = ("_law_take" : Str) := by decide +kernel
theorem y9z {names : List (Str × NameKind)} (h : (names.all fun x => x.2 != .cell) = true) (x : Str) : names.lookup x ≠ some .cell := fun q => by
 have := List.all_eq_true.mp h _ (z1d q)
 simp at this
theorem z6y {a m : Int} (hm : 0 < m) : 0 <= a.fmod m /\ a.fmod m < m := ⟨Int.fmod_nonneg_of_pos a hm, Int.fmod_lt_of_pos a hm⟩
theorem q5b {H0 : Heap} {ba la ta : Addr} {ns : List Int} {seed : Int} (G : GI mg mb (z2l PW) 306 H0) (hb0 : H0.get? ba = none) (hl0 : H0.get? la = none) (R : z3o 1 A) (hx : Ext H0 s.heap) (B : z2b s.heap ba la ns seed) {m : Int} {t : Tok} (hm : 0 < m)
  (hta : mg "_law_take" = some (.ref ta)) : EB (model PW w) A (call (.ref ta) [.ref ba, .int m t]) s ba la (fun v _ => E2 fun r u => A3 (v = .int r u) (0 <= r) (r < m)) := fun E Q kk => by
 obtain ⟨f1, f2, f3, f4, f5, f6, f7, f8, f9, f10, f11, f12, f13, f14⟩ := z8n
 obtain ⟨a0, o, pm, cd, doc, q1, ho, hdata, hcd⟩ := (G.ext hx).defs z2j (List.getElem_mem _)
 rw [f14, hta] at q1
 cases q1
 refine wpAny_call (call_cells_ret (by have := R.depth; exact o0 this) ho hdata (G.ext hx).nolimit hcd (z4s (List.isEmpty_iff.mp f6) (List.isEmpty_iff.mp f7) (Option.isNone_iff_eq_none.mp f8) (Option.isNone_iff_eq_none.mp f9) (by rw [f1]; rfl) (by rw [f1]; decide)) ?_ ?_ f4 f5 f3)
 ·rw [f1]
  intro y hy
  left
  rcases List.mem_cons.mp hy with e | hy
  ·subst e; exact f10
  ·rcases List.mem_cons.mp hy with e | hy
   ·subst e; exact f11
   ·cases hy
 intro h₁ tk₁ F₁ C₁
 rw [f1] at F₁
 obtain ⟨hbody, t1, t2, t3, t4, t5⟩ := gtk_ok
 rw [hbody]
 obtain ⟨env, henv⟩ : ∃ env, envOfC z2j.name z2j.scope s.heap.objs.size ta cd = env := ⟨_, rfl⟩
 have e1 : env.scope = z2j.scope := by rw [<- henv]; rfl
 have e2 : env.locals = s.heap.objs.size := by rw [<- henv]; rfl
 have e3 : env.globals = mainGlobals := by rw [<- henv]; rfl
 have e4 : env.builtins = builtinsNs := by rw [<- henv]; rfl
 rw [henv] at F₁ ⊢
 obtain ⟨A', hA⟩ : ∃ A', A.deeper env = A' := ⟨_, rfl⟩
 have R' : z3o 0 A' := by rw [<- hA]; exact ⟨R.hh, by have := R.depth; show A.depth + 1 + 0 < _; exact o1 this, by have := R.units; show A.units + 3 + 4 * 0 + 100 < _; exact o2 this⟩
 rw [hA]
 have kof : ∀ x, env.kindOf x = z2j.scope.names.lookup x := fun x => by unfold Env.kindOf; rw [e1]
 have hfn : env.scope.kind = .function := by rw [e1]; exact f3
 have hbox1 : bindL env.kindOf ((["box", "many"] : List Str).zip [.ref ba, .int m t]) (fun _ => none) "box" = some (.ref ba) := by
  have := z7a (kindOf := env.kindOf) ["box", "many"] [.ref ba, .int m t] (fun _ => none) (fun _ => none) rfl (by decide) 0 "box" (.ref ba) rfl rfl
  rwa [if_pos (by rw [kof]; exact f10)] at this
 have hmany1 : bindL env.kindOf ((["box", "many"] : List Str).zip [.ref ba, .int m t]) (fun _ => none) "many" = some (.int m t) := by
  have := z7a (kindOf := env.kindOf) ["box", "many"] [.ref ba, .int m t] (fun _ => none) (fun _ => none) rfl (by decide) 1 "many" (.int m t) rfl rfl
  rwa [if_pos (by rw [kof]; exact f11)] at this
 generalize hm1 : bindL env.kindOf ((["box", "many"] : List Str).zip [.ref ba, .int m t]) (fun _ => none) = m₁ at F₁ hbox1 hmany1
 have ns₁ : h₁.Ns env.locals m₁ := by rw [e2]; exact F₁.ns
 have Lnone : s.heap.get? env.locals = none := by rw [e2]; exact get?_none_of_size (Nat.le_refl _)
 have hbL : ba ≠ env.locals := fun q => by
  obtain ⟨_, _, e⟩ := B.box
  rw [q, Lnone] at e; cases e
 have hlL : la ≠ env.locals := fun q => by
  obtain ⟨_, _, e, _⟩ := B.row
  rw [q, Lnone] at e; cases e
 have hext0 : ∀ {h h' : Heap}, Ext H0 h -> z5x ba la h h' -> Ext H0 h' := fun {h h'} x y b o e => y b o (fun q => by rw [q, hb0] at e; cases e) (fun q => by rw [q, hl0] at e; cases e) (x b o e)
 have cx : ∀ (h : Heap) (mm : Str -> Option Value) (ns : List Int) (seed : Int) (dr : Option D), Ext H0 h -> h.Ns env.locals mm -> mm "box" = some (.ref ba) -> mm "many" = some (.int m t) -> z2b h ba la ns seed ->
   (∀ d, dr = some d -> ∃ v, mm "drawn" = some v /\ Rep h (fun _ => False) v d) -> CX (z5e z6o z2j.scope) mg mb (z2l PW) 306 env [] [some (q3d ns seed), some (.int m), dr] [] (fun _ => False) h := fun h mm ns seed dr x hns b1 b2 hB hdr => by
  refine y3b (fun _ q => q.elim) (G.ext x) (z6c.symm) rfl e1 f3 e3 e4 (fun x hk => (y9z f13 x hk).elim) fun i y d hi hk hr => ?_
  have hloc : env.kindOf y = some .local := by
   rw [kof]
   rcases hk with q | q
   ·exact q
   ·exact (y9z f13 y q).elim
  have hi' : (["box", "many", "drawn"] : List Str)[i]? = some y := by rw [<- f2]; exact hi
  match i, hi', hr with
  | 0, hi', hr =>
   simp at hi' hr
   subst hi' hr
   exact ⟨_, .inl ⟨hloc, mm, hns, b1⟩, hB.rep⟩
  | 1, hi', hr =>
   simp at hi' hr
   subst hi' hr
   exact ⟨_, .inl ⟨hloc, mm, hns, b2⟩, Rep.int _ _⟩
  | 2, hi', hr =>
   simp at hi' hr
   subst hi'
   obtain ⟨v, h1, h2⟩ := hdr d hr
   exact ⟨v, .inl ⟨hloc, mm, hns, h1⟩, h2⟩
  | i + 3, hi', hr => simp at hi'
 have B₁ : z2b h₁ ba la ns seed := B.ext F₁.keep
 have X₁ := cx h₁ m₁ ns seed none (hx.trans F₁.keep) ns₁ hbox1 hmany1 B₁ (fun d q => by cases q)
 have rest : ∀ (h : Heap) (tk : Nat) (ns : List Int) (x : Int) (u : Tok), z5x ba la h₁ h -> z2b h ba la ns seed -> h.Ns env.locals m₁ ->
   wpAny (model PW w) A' (storeName env "drawn" (.int x u)) (fun _ s' => wpAny (model PW w) A' (execs [.Assign [.Subscript (.Name "box" (y1j 6)) (.Constant (.int 1) (gtk1 2) (y1j 7)) (y1j 8)] (y6o 2) (y1j 9), .Return (some (y6o 3)) (y1j 10)] env)
    (fun f s' => match (Except.ok (Flow.ret (match f with | .ret v => v | _ => .none)) : Result) with | .ok (.ret v) => Q v s' | .ok _ => False | .error e => E e s') (fun _ _ => False) s') (fun _ _ => False) { s with heap := h, toks := tk } := by
  intro h tk ns x u hT hB hns
  refine wpAny_storeName_local (by rw [kof]; exact f12) hns (fun h2 hn2 hs2 => ?_) (by rw [hfn]; rfl)
  have hT2 : z5x ba la h₁ h -> ∀ b o, b ≠ env.locals -> h.get? b = some o -> h2.get? b = some o := fun _ b o hb e => (hs2.2 b hb).trans e
  have up2 := hT2 hT
  have B2 : z2b h2 ba la ns seed := hB.keep (fun o e => up2 _ o hbL e) fun o e => up2 _ o hlL e
  have x2 : Ext H0 h2 := fun b o e => by
   refine up2 b o (fun q => ?_) (hext0 (hx.trans F₁.keep) hT b o e)
   have := hx b o e
   rw [q, Lnone] at this; cases this
  have hbox2 : (fun y => if y = ("drawn" : Str) then some (Value.int x u) else m₁ y) "box" = some (.ref ba) := by
   show (if ("box" : Str) = ("drawn" : Str) then _ else _) = _
   rw [if_neg (by decide)]; exact hbox1
  have hmany2 : (fun y => if y = ("drawn" : Str) then some (Value.int x u) else m₁ y) "many" = some (.int m t) := by
   show (if ("many" : Str) = ("drawn" : Str) then _ else _) = _
   rw [if_neg (by decide)]; exact hmany1
  have hdr2 : (fun y => if y = ("drawn" : Str) then some (Value.int x u) else m₁ y) "drawn" = some (.int x u) := by
   show (if ("drawn" : Str) = ("drawn" : Str) then _ else _) = _
   rw [if_pos rfl]
  generalize (fun y => if y = ("drawn" : Str) then some (Value.int x u) else m₁ y) = m2 at hn2 hbox2 hmany2 hdr2
  have X2 := cx h2 m2 ns seed (some (.int x)) x2 hn2 hbox2 hmany2 B2 (fun d q => by cases q; exact ⟨_, hdr2, Rep.int _ _⟩)
  refine wpAny_execs_cons (wpAny_Assign_Subscript ?_ (z5f t3 fun a b d e q => by
   have t3' := t3
   rw [q] at t3'
   obtain ⟨_, _, _, _, _, _, _, _, _, _, _, _, _, _, _, _, q⟩ := y6a t3'))
  have hsm : (small seed && small 31) = true := by
   have h1 := B.lo
   have h2 := B.hi
   have hb : BIG > 2000 := by decide +kernel
   simp only [small, Bool.and_eq_true, decide_eq_true_eq]
   exact ⟨o622 h1 h2 hb, o3 hb⟩
  have hv3 : ev (phi prog 0) [some (q3d ns seed), some (.int m), some (.int x)] (.bin .mod (.bin .add (.bin .add (.bin .mul (.idx (.var 0) (.int 1)) (.int 31)) (.bin .mod (.var 2) (.int 997))) (.int 7)) (.int 1009)) [] = some (.int ((seed * 31 + x.fmod 997 + 7).fmod 1009)) := by
   simp [ev, q3d, z7d, z9x, y3f, z9b, hsm]
  refine ((y1f CO0 30 _ (y6o 2) _ t3 env _ [] [] (fun _ => False) A' { s with heap := h2, toks := tk + 1 } R' X2).E _ (by decide) hv3 _ _ fun v3 h3 tk3 hx3 hr3 => ?_)
  obtain ⟨u3, rfl⟩ := hr3.1.int_inv
  have hn3 := hn2.keeps hx3
  refine z3e (s := { s with heap := h3, toks := tk3 }) (P := fun v' h => v' = .ref ba) hfn (.inl ⟨by rw [kof]; exact f10, _, hn3, hbox2⟩) (by decide) rfl _ _ fun v4 h4 tk4 hx4 hv4 => ?_
  subst hv4
  refine wpAny_Constant_int ?_
  have B4 := (B2.ext hx3).ext hx4
  obtain ⟨tb, nb, hg4⟩ := B4.box
  refine ki_setAt (n := nb) hg4 (by decide) (by decide) (by show (1 : Int) < ((2 : Nat) : Int); decide) ?_
  obtain ⟨n', hu⟩ := z4n hg4 (fun z => z.setIfInBounds (1 : Int).toNat (.int ((seed * 31 + x.fmod 997 + 7).fmod 1009) u3))
  have hsb : Heap.SameBut ba h4 (h4.update ba (Obj.mapSeq fun z => z.setIfInBounds (1 : Int).toNat (.int ((seed * 31 + x.fmod 997 + 7).fmod 1009) u3))) := Heap.SameBut.update ..
  generalize hH5 : h4.update ba (Obj.mapSeq fun z => z.setIfInBounds (1 : Int).toNat (.int ((seed * 31 + x.fmod 997 + 7).fmod 1009) u3)) = h5 at hu hsb ⊢
  have B5 : z2b h5 ba la ns ((seed * 31 + x.fmod 997 + 7).fmod 1009) := by
   obtain ⟨ws, n2, e2, hl, r⟩ := B4.row
   exact ⟨B.ne, ⟨u3, n', by simpa using hu⟩, (z6y (by decide)).1, (z6y (by decide)).2, ws, n2, (hsb.2 la (Ne.symm B.ne)).trans e2, hl, z2x r⟩
  have x5 : Ext H0 h5 := fun b o e => (hsb.2 b fun q => by rw [q, hb0] at e; cases e).trans (hx4 b o (hx3 b o (x2 b o e)))
  have hn5 := (hn3.keeps hx4).sameBut hsb (Ne.symm hbL)
  have X5 := cx h5 m2 ns _ (some (.int x)) x5 hn5 hbox2 hmany2 B5 (fun d q => by cases q; exact ⟨_, hdr2, Rep.int _ _⟩)
  refine wpAny_execs_cons (wpAny_Return_some ?_)
  have hv5 : ev (phi prog 0) [some (q3d ns ((seed * 31 + x.fmod 997 + 7).fmod 1009)), some (.int m), some (.int x)] (.bin .mod (.var 2) (.var 1)) [] = some (.int (x.fmod m)) := by
   have : (m != 0) = true := by simp; exact o4 hm
   simp [ev, y3f, z9b, this]
  refine (y1f CO0 30 _ (y6o 3) _ t4 env _ [] [] (fun _ => False) A' { s with heap := h5, toks := tk4 + 1 } R' X5).E _ (by decide) hv5 _ _ fun v6 h6 tk6 hx6 hr6 => ?_
  obtain ⟨u6, rfl⟩ := hr6.1.int_inv
  refine kk _ h6 tk6 ns _ (fun b o h1 h2 e => hx6 b o ?_) (B5.ext hx6) ⟨_, _, rfl, (z6y hm).1, (z6y hm).2⟩
  refine (hsb.2 b h1).trans (hx4 b o (hx3 b o (up2 b o (fun q => ?_) (hT b o h1 h2 (F₁.keep b o e)))))
  rw [q, Lnone] at e; cases e
 refine wpAny_execs_cons (wpAny_Assign_Name (wpAny_IfExp ?_) rfl)
 have hvt : ev (phi prog 0) [some (q3d ns seed), some (.int m), none] (.cmp .gt (.len (.idx (.var 0) (.int 0))) (.int 0)) [] = some (.bool (decide (0 < (ns.length : Int)))) := by
  simp [ev, q3d, z7d, z9x, y5o]
 refine (y1f CO0 30 _ (y6o 0) _ t1 env _ [] [] (fun _ => False) A' { s with heap := h₁, toks := tk₁ } R' X₁).B _ (by decide) hvt _ _ fun b h2 tk2 hx2 hb => ?_
 subst hb
 have B2 := B₁.ext hx2
 have hn2 := ns₁.keeps hx2
 cases ns with
 | nil =>
  rw [if_neg (by simp)]
  have X2 := cx h2 m₁ [] seed none ((hx.trans F₁.keep).trans hx2) hn2 hbox1 hmany1 B2 (fun d q => by cases q)
  have hve : ev (phi prog 0) [some (q3d [] seed), some (.int m), none] (.bin .fdiv (.idx (.var 0) (.int 1)) (.int 3)) [] = some (.int (seed.fdiv 3)) := by
   have : small 3 = true := by decide +kernel
   simp [ev, q3d, z7d, z9x, y3f, z9b, this]
  refine (y1f CO0 30 _ (y6o 1) _ t2 env _ [] [] (fun _ => False) A' { s with heap := h2, toks := tk2 } R' X2).E _ (by decide) hve _ _ fun v3 h3 tk3 hx3 hr3 => ?_
  obtain ⟨u3, rfl⟩ := hr3.1.int_inv
  exact rest h3 tk3 [] _ u3 (z5x.ofExt (hx2.trans hx3)) (B2.ext hx3) (hn2.keeps hx3)
 | cons x0 nr =>
  rw [if_pos (by simp)]
  refine wpAny_Call_method rfl rfl t5 PySem.F.plainAttrs_list PySem.F.slot_list_pop PySem.F.type_list_pop ?_
  refine Subscript_ ?_
  refine z3e (s := { s with heap := h2, toks := tk2 }) (P := fun v' h => v' = .ref ba) hfn (.inl ⟨by rw [kof]; exact f10, _, hn2, hbox1⟩) (by decide) rfl _ _ fun v3 h3 tk3 hx3 hv3 => ?_
  subst hv3
  refine wpAny_Constant_int ?_
  have B3 := B2.ext hx3
  obtain ⟨tb, nb, hg3⟩ := B3.box
  refine tail_any (T := "list") ⟨_, hg3, rfl⟩ list_getitem_lookup (wpAny_getItem_list (z1r hg3) (by decide) (by decide) rfl ?_) (z1t (by intros; intro q; cases q))
  obtain ⟨ws, n2, e2, hl, r⟩ := B3.row
  refine ⟨⟨_, e2, rfl⟩, fun b q => by cases q; exact ⟨_, e2, rfl⟩, callWith_method1 (args_cons (wpAny_Constant_int (args_nil ?_)))⟩
  cases r with
  | @int _ u0 wr _ r =>
   have hsz : (Value.int x0 u0 :: wr).toArray.size <= sizeLine := by rw [List.size_toArray]; exact Nat.le_trans hl z5d
   obtain ⟨n', hu⟩ := z4n e2 (fun xs => xs.eraseIdxIfInBounds 0)
   have hsb : Heap.SameBut la h3 (h3.update la (Obj.mapSeq fun xs => xs.eraseIdxIfInBounds 0)) := Heap.SameBut.update ..
   refine call_meets PySem.F.slot_list_pop ⟨_, e2, rfl⟩ PySem.F.entry_list_pop (PySem.F.args_list_pop_2 _ _) (PySem.MeetsSeq.list_pop_at la _ n2 0 _ 0 (.int x0 u0) (by decide) (by simp [seqIndex?]) rfl hsz) ⟨e2, ?_⟩
   have he : (Value.int x0 u0 :: wr).toArray.eraseIdxIfInBounds 0 = wr.toArray := kl_erase [] wr (.int x0 u0)
   rw [he] at hu
   generalize hH4 : h3.update la (Obj.mapSeq fun xs => xs.eraseIdxIfInBounds 0) = h4 at hu hsb ⊢
   refine rest h4 _ nr x0 u0 (fun b o h1 h2' e => (hsb.2 b h2').trans (hx3 b o (hx2 b o e))) ⟨B.ne, ⟨tb, nb, (hsb.2 ba B.ne).trans hg3⟩, B.lo, B.hi, wr, n', hu, by simp at hl; exact o5 hl, z2x r⟩ ((hn2.keeps hx3).sameBut hsb (Ne.symm hlL))
end
end Mine
end
section
open PySem
namespace Mine
open PyProof.Rows PySem.W
noncomputable def Yb (ba la : Addr) (a : Addr) : Prop := a = ba \/ a = la
section
variable {w : World} {mg mb : Str -> Option Value} {A : Around} {s : Shared}
theorem y2y {c : TC} {env : Env} {ρ : List (Option D)} {κ : List D} {Y : Addr -> Prop} {H0 : Heap} {ba la ta : Addr} {ns : List Int} {seed : Int} {m : Int} {p1 p2 p3 p4 : Pos} {k3 : Nat} (G : GI mg mb (z2l PW) 306 H0) (hb0 : H0.get? ba = none) (hl0 : H0.get? la = none) (R : z3o 1 A)
  (hx : Ext H0 s.heap) (X : CX c mg mb (z2l PW) 306 env [] ρ κ Y s.heap) (hg : z1z c "_law_take" = true) (nv : NV env s.heap "box" (.ref ba)) (B : z2b s.heap ba la ns seed) (hm : 0 < m) (hta : mg "_law_take" = some (.ref ta)) :
  EB (model PW w) A (eval (.Call (.Name "_law_take" p1) [.Name "box" p2, .Constant (.int m) k3 p3] [] p4) env) s ba la (fun v _ => E2 fun r u => A3 (v = .int r u) (0 <= r) (r < m)) := fun E Q kk => by
 obtain ⟨a0, o, pm, cd, doc, q1, ho, hdata, hcd⟩ := (G.ext hx).defs z2j (List.getElem_mem _)
 rw [show z2j.name = ("_law_take" : Str) from z8n.2.2.2.2.2.2.2.2.2.2.2.2.2, hta] at q1
 cases q1
 refine y0x X hg (by decide) hta hdata rfl ?_
 refine args_cons ?_
 refine z3e (P := fun v' h => v' = .ref ba) X.kind nv (by decide) rfl E _ fun v1 h1 tk1 hx1 hv1 => ?_
 subst hv1
 refine args_cons (wpAny_Constant_int (args_nil ⟨hx1 _ _ ho, ?_⟩))
 exact q5b (s := { s with heap := h1, toks := tk1 + 1 }) G hb0 hl0 R (hx.trans hx1) (B.ext hx1) hm hta E Q fun v h tk ns' seed' hT hB hP => kk v h tk ns' seed' ((z5x.ofExt hx1).trans hT) hB hP
inductive BT (ba la : Addr) (P : Int -> Prop) (h₀ h : Heap) (i : Nat) (Y' : Addr -> Prop) (ys : List Value) : Prop
 | mk (x : z5x ba la h₀ h) (ns : List Int) (seed : Int) (B : z2b h ba la ns seed) (l : List Int) (r : z0k h (fun _ => False) ys (l.map .int)) (n : l.length = i) (p : ∀ i ∈ l, P i)
theorem z2b.live {ba la : Addr} {h : Heap} {ns : List Int} {seed : Int} (B : z2b h ba la ns seed) : ∀ a, Yb ba la a -> y5t h a := fun a q => q.elim (fun q => let ⟨_, _, e⟩ := B.box; ⟨_, q ▸ e⟩) fun q => let ⟨_, _, e, _, _⟩ := B.row; ⟨_, q ▸ e⟩
theorem q2z {P : Int -> Prop} {c : TC} {env : Env} {ρ : List (Option D)} {elt it tgt : Expr} {sc : Scope} {pos : Pos} {cn : List Str} {items : List D} {s₀ s₂ : Shared} {itv : Value} {ba la : Addr} {ns0 : List Int} {seed0 : Int} {tt : Bool}
  {RR : Value -> Addr -> Result -> Shared -> Prop} {E : Value -> Shared -> Prop} (hh : A.handled = none) (X : ∀ h, z5x ba la s₀.heap h -> (∃ ns seed, z2b h ba la ns seed) -> CX c mg mb (z2l PW) 306 env [] ρ [] (Yb ba la) h) (K : y1d c sc cn) (ht : z1b tgt = some (cn, tt)) (hnm : tt = false)
  (B0 : z2b s₀.heap ba la ns0 seed0) (hx : Ext s₀.heap s₂.heap) (hit : z6u PW w A (Yb ba la) 306 s₀.heap items true itv s₂.heap) (hcn : cn.length = 1) (hap : ba ≠ 306 /\ la ≠ 306) (hints : ∀ d ∈ items, ∃ i, d = .int i) (hlen : items.length <= LEN)
  (helt : ∀ (env' : Env) (κ' : List D) (s' : Shared) (C : Addr), env' = compEnvC sc (z0i env sc.names []) C env -> CX { c with sc := sc, cn := cn } mg mb (z2l PW) 306 env' [] ρ κ' (Yb ba la) s'.heap -> z5x ba la s₀.heap s'.heap -> (∃ ns seed, z2b s'.heap ba la ns seed) ->
   EB (model PW w) A (eval elt env') s' ba la (fun v _ => ∃ r u, v = .int r u /\ P r))
  (hRR : ∀ (D C : Addr) (h' : Heap) (tk : Nat) (m' : Str -> Option Value) (ws : List Value) (n : Nat) (l : List Int) (ns : List Int) (seed : Int), s₂.heap.objs.size <= D -> s₂.heap.objs.size <= C -> D ≠ C -> h'.Ns C m' -> z5x ba la s₀.heap h' -> z2b h' ba la ns seed ->
   h'.get? D = some { cls := .type "list", data := .seq ws.toArray n } -> z0k h' (fun _ => False) ws (l.map .int) -> l.length = items.length -> (∀ i ∈ l, P i) -> RR (.ref D) C (.ok .next) { s₂ with heap := h', toks := tk }) :
  wpAny (model PW w) A (newList []) (fun acc s₃ => wpAny (model PW w) A (newFunctionEnv sc env.globals (z0i env sc.names []) [] env.qual none .none (some env)) (fun cenv s₄ =>
   codeAny (model PW w) A (.compStart (.ListComp elt [⟨tgt, it, [], 0⟩] sc pos) 0 itv acc { cenv with scope := relabel sc env }) (RR acc cenv.locals) s₄) E s₃) E s₂ := by
 subst hnm
 have L0 := B0.live
 refine y7b (Y := Yb ba la) (s₀ := s₀) (Z := Yb ba la) (T := BT ba la P s₀.heap) (CX' := fun C ks Y' h => CX { c with sc := sc, cn := cn } mg mb (z2l PW) 306 (compEnvC sc (z0i env sc.names []) C env) [] ρ ks (Yb ba la) h) hh K ht (.inl rfl) L0 (fun a q => ⟨q, q.elim (fun q => q ▸ hap.1) fun q => q ▸ hap.2⟩)
  ?_ (fun _ _ _ _ ⟨_, _, _, _, l, r, n, _⟩ => by rw [r.length, List.length_map]; exact Nat.le_of_eq n) hlen (fun _ _ _ _ d _ _ => ⟨[d], rfl⟩) (fun C h i Y' ys m vs ks _ yy ⟨x, ns, seed, B, _, _, _, _⟩ hn hm hl hr hv => q1g (X h x ⟨ns, seed, B⟩) K (Ext.refl _) hn hm hl (hr.weak yy) (fun _ _ _ q => q) (fun a q => hv a (yy a q))) ?_
  (fun _ _ _ _ ⟨_, _, _, B, _, _, _, _⟩ => B.live) (fun h Y' x => ⟨z5x.ofExt x, ns0, seed0, B0.ext x, [], .nil, rfl, fun _ q => nomatch q⟩) hx hit ?_
 ·rintro h h' i Y' ys ⟨x, ns, seed, B, l, r, n, p⟩ k
  exact ⟨fun b o h1 h2 e => k b o (.inr ⟨o, e⟩) (x b o h1 h2 e), ns, seed, B.keep (fun o e => k _ o (.inr (L0 _ (.inl rfl))) e) (fun o e => k _ o (.inr (L0 _ (.inr rfl))) e), l, z2x r, n, p⟩
 ·rintro C Y' ks s' i d ys E' hd hks ⟨x, ns, seed, B, l, r, n, p⟩ X'
  show wpAny _ A (pure true) _ _ _
  refine wpAny_pure (helt _ _ s' C rfl X' x ⟨ns, seed, B⟩ _ _ fun v h₅ tk₅ ns5 seed5 hx5 hB5 ⟨r5, u5, hv5, hP5⟩ => ?_)
  subst hv5
  refine ⟨⟨h₅, tk₅, rfl, fun b o z e => hx5 b o (fun q => z (.inl q)) (fun q => z (.inr q)) e⟩, x.trans hx5, ns5, seed5, hB5, l ++ [r5], by rw [List.map_append]; exact (z2x r).append (.int .nil), by rw [List.length_append, n]; rfl, fun j hj => ?_⟩
  rcases List.mem_append.mp hj with q | q
  ·exact p j q
  ·rw [List.mem_singleton.mp q]; exact hP5
 ·rintro B C h' tk m' ys n Y' hB hC dc hn hy hg ⟨x, ns, seed, B', l, r, hl, p⟩
  exact hRR B C h' tk m' ys n l ns seed hB hC dc hn x B' hg r hl p
end
end Mine
end
section
open PySem
namespace Mine
set_option genCtorIdx false
set_option genSizeOf false
open PyProof.Rows PySem.W
structure y2b (l : List Int) : Prop where
 len : l.length = 2 \/ l.length = 3
 low : ∀ i ∈ l.dropLast, -3 <= i /\ i <= 3
 lead : ∃ i, l.getLast? = some i /\ (i = 1 \/ i = 2 \/ i = -1 \/ i = 3)
section
variable {w : World} {mg mb : Str -> Option Value} {A : Around} {s : Shared}
theorem z8q : z1q.params.args.map (·.arg) = (["box"] : List Str) /\ z2m z1q.scope = (["box", "many", "found"] : List Str) /\ z1q.scope.kind = .function /\ z1q.scope.isCoroutine = false /\ z1q.scope.isGenerator = false /\ z1q.params.posonlyargs.isEmpty = true /\ z1q.params.kwonlyargs.isEmpty = true /\
  z1q.params.vararg.isNone = true /\ z1q.params.kwarg.isNone = true /\ z1q.scope.names.lookup ("box" : Str) = some NameKind.cell /\ z1q.scope.names.lookup ("many" : Str) = some NameKind.local /\ z1q.scope.names.lookup ("found" : Str) = some NameKind.local /\
  (z1q.scope.names.all fun x => x.2 != .cell || x.1 == ("box" : Str)) = true /\ z1q.name = ("_law_poly" : Str) /\ z1q.scope.names.lookup ("_law_take" : Str) = some NameKind.globalImplicit := by decide +kernel
theorem q2m {names : List (Str × NameKind)} (h : (names.all fun x => x.2 != .cell || x.1 == ("box" : Str)) = true) (x : Str) (hx : names.lookup x = some .cell) : x = "box" := by
 have := List.all_eq_true.mp h _ (z1d hx)
 simpa using this
theorem q5v {H0 : Heap} {ba la ta pa : Addr} {ns : List Int} {seed : Int} (G : GI mg mb (z2l PW) 306 H0) (hb0 : H0.get? ba = none) (hl0 : H0.get? la = none) (R : z3o 2 A) (hx : Ext H0 s.heap) (B : z2b s.heap ba la ns seed)
  (hta : mg "_law_take" = some (.ref ta)) (hpa : mg "_law_poly" = some (.ref pa)) : EB (model PW w) A (call (.ref pa) [.ref ba]) s ba la
   (fun v h => E4 fun a ws n l => A6 (v = .ref a) (s.heap.get? a = none) (h.get? a = some { cls := .type "list", data := .seq ws.toArray n }) (ws.length <= LEN) (z0k h (fun _ => False) ws (l.map .int)) (y2b l)) := fun E Q kk => by
 obtain ⟨f1, f2, f3, f4, f5, f6, f7, f8, f9, f10, f11, f12, f13, f14, f15⟩ := z8q
 obtain ⟨a0, o, pm, cd, doc, q1, ho, hdata, hcd⟩ := (G.ext hx).defs z1q (List.getElem_mem _)
 rw [f14, hpa] at q1
 cases q1
 obtain ⟨cb, hcb⟩ := z1m (x := "box") z1q.scope.names (s.heap.objs.size + 1) [] (.inl (z1d f10))
 refine wpAny_call (call_cells_ret (by have := R.depth; exact o16 this) ho hdata (G.ext hx).nolimit hcd (z4s (List.isEmpty_iff.mp f6) (List.isEmpty_iff.mp f7) (Option.isNone_iff_eq_none.mp f8) (Option.isNone_iff_eq_none.mp f9) (by rw [f1]; rfl) (by rw [f1]; decide)) ?_ ?_ f4 f5 f3)
 ·rw [f1]
  intro y hy
  right
  rcases List.mem_cons.mp hy with e | hy
  ·subst e; exact ⟨f10, by rw [hcb]; rfl⟩
  ·cases hy
 intro h₁ tk₁ F₁ C₁
 rw [f1] at F₁ C₁
 obtain ⟨hbody, t1, t2, t3, t4, t5, t6, t7⟩ := gpl_ok
 rw [hbody]
 obtain ⟨env, henv⟩ : ∃ env, envOfC z1q.name z1q.scope s.heap.objs.size pa cd = env := ⟨_, rfl⟩
 have e1 : env.scope = z1q.scope := by rw [<- henv]; rfl
 have e2 : env.locals = s.heap.objs.size := by rw [<- henv]; rfl
 have e3 : env.globals = mainGlobals := by rw [<- henv]; rfl
 have e4 : env.builtins = builtinsNs := by rw [<- henv]; rfl
 have e5 : env.cells = cellsFrom (s.heap.objs.size + 1) z1q.scope.names [] := by rw [<- henv]; rfl
 rw [henv] at F₁ C₁ ⊢
 obtain ⟨A', hA⟩ : ∃ A', A.deeper env = A' := ⟨_, rfl⟩
 have R' : z3o 1 A' := by rw [<- hA]; exact ⟨R.hh, by have := R.depth; show A.depth + 1 + 1 < _; exact o17 this, by have := R.units; show A.units + 3 + 4 * 1 + 100 < _; exact o18 this⟩
 have R0 : z3o 0 A' := ⟨R'.hh, by have := R'.depth; exact o19 this, by have := R'.units; exact o20 this⟩
 rw [hA]
 have kof : ∀ x, env.kindOf x = z1q.scope.names.lookup x := fun x => by unfold Env.kindOf; rw [e1]
 have hfn : env.scope.kind = .function := by rw [e1]; exact f3
 have hboxc : bindC env.kindOf ((["box"] : List Str).zip [.ref ba]) (fun _ => none) "box" = some (.ref ba) := by
  have := z7a (kindOf := env.kindOf) ["box"] [.ref ba] (fun _ => none) (fun _ => none) rfl (by decide) 0 "box" (.ref ba) rfl rfl
  rwa [if_neg (by rw [kof, f10]; decide)] at this
 generalize hm1 : bindL env.kindOf ((["box"] : List Str).zip [.ref ba]) (fun _ => none) = m₁ at F₁
 have ns₁ : h₁.Ns env.locals m₁ := by rw [e2]; exact F₁.ns
 have hcb' : env.cells.lookup ("box" : Str) = some cb := by rw [e5]; exact hcb
 have cell₁ : h₁.IsCell cb (some (.ref ba)) := by rw [<- hboxc]; exact C₁.cell _ _ hcb
 have Lnone : s.heap.get? env.locals = none := by rw [e2]; exact get?_none_of_size (Nat.le_refl _)
 have cnone : s.heap.get? cb = none := get?_none_of_size (Nat.le_of_lt (C₁.above _ _ (PySem.mem_of_lookup hcb)))
 have hcL : cb ≠ env.locals := by rw [e2]; exact Nat.ne_of_gt (C₁.above _ _ (PySem.mem_of_lookup hcb))
 have nbox : ∀ z, s.heap.get? z = none -> z ≠ ba /\ z ≠ la := fun z hz => by
  refine ⟨fun q => ?_, fun q => ?_⟩
  ·obtain ⟨_, _, e⟩ := B.box
   rw [<- q, hz] at e; cases e
  ·obtain ⟨_, _, e, _⟩ := B.row
   rw [<- q, hz] at e; cases e
 obtain ⟨Lb, Ll⟩ := nbox _ Lnone
 obtain ⟨cbb, cbl⟩ := nbox _ cnone
 have x0₁ : Ext H0 h₁ := hx.trans F₁.keep
 have ext0 : ∀ {h h' : Heap}, Ext H0 h -> z5x ba la h h' -> Ext H0 h' := fun {h h'} x y b o e => y b o (fun q => by rw [q, hb0] at e; cases e) (fun q => by rw [q, hl0] at e; cases e) (x b o e)
 have hglob : z1z (z5e z6o z1q.scope) "_law_take" = true := by
  unfold z1z
  show (z1q.scope.names.lookup ("_law_take" : Str) == some NameKind.globalImplicit) = true
  rw [f15]; rfl
 have Ynone : ∀ {h : Heap} {ns : List Int} {seed : Int}, z2b h ba la ns seed -> ∀ a, Yb ba la a -> ∃ o, h.get? a = some o := fun {h ns seed} hB a q => by
  rcases q with q | q
  ·subst q; obtain ⟨_, _, e⟩ := hB.box; exact ⟨_, e⟩
  ·subst q; obtain ⟨_, _, e, _⟩ := hB.row; exact ⟨_, e⟩
 have hap : ba ≠ 306 /\ la ≠ 306 := by
  obtain ⟨_, ws, nn, e, _⟩ := G.primes
  refine ⟨fun q => ?_, fun q => ?_⟩
  ·rw [q, e] at hb0; cases hb0
  ·rw [q, e] at hl0; cases hl0
 have cx : ∀ (h : Heap) (mm : Str -> Option Value) (ns : List Int) (seed : Int) (mo : Option D), Ext H0 h -> h.Ns env.locals mm -> h.IsCell cb (some (.ref ba)) -> z2b h ba la ns seed ->
   (∀ d, mo = some d -> ∃ v, mm "many" = some v /\ Rep h (Yb ba la) v d) -> CX (z5e z6o z1q.scope) mg mb (z2l PW) 306 env [] [none, mo, none] [] (Yb ba la) h := fun h mm ns seed mo x hns hc hB hmo => by
  refine y3b (Ynone hB) (G.ext x) (z6c.symm) rfl e1 f3 e3 e4 (fun x hk => ?_) fun i y d hi hk hr => ?_
  ·have := q2m f13 x hk
   subst this
   exact ⟨⟨cb, hcb'⟩, by decide⟩
  ·have hi' : (["box", "many", "found"] : List Str)[i]? = some y := by rw [<- f2]; exact hi
   match i, hi', hr with
   | 0, hi', hr => simp at hr
   | 1, hi', hr =>
    simp at hi' hr
    subst hi'
    obtain ⟨v, h1, h2⟩ := hmo d hr
    exact ⟨v, .inl ⟨by rw [kof]; exact f11, mm, hns, h1⟩, h2⟩
   | 2, hi', hr => simp at hr
   | i + 3, hi', hr => simp at hi'
 have nvb : ∀ h, h.IsCell cb (some (.ref ba)) -> NV env h "box" (.ref ba) := fun h hc => .inr ⟨.inl (by rw [kof]; exact f10), cb, hcb', hc⟩
 have B₁ : z2b h₁ ba la ns seed := B.ext F₁.keep
 refine wpAny_execs_cons (wpAny_Assign_Name (wpAny_BinOp (wpAny_Constant_int ?_)) rfl)
 refine y2y (s := { s with heap := h₁, toks := tk₁ + 1 }) G hb0 hl0 R' x0₁ (cx h₁ m₁ ns seed none x0₁ ns₁ cell₁ B₁ (fun d q => by cases q)) hglob (nvb _ cell₁) B₁ (by decide) hta _ _ fun v2 h2 tk2 ns2 seed2 hT2 hB2 ⟨r2, u2, hv2, hr2a, hr2b⟩ => ?_
 subst hv2
 refine y5k (o := .add) (c := 1 + r2) rfl rfl _ _ fun v3 h3 tk3 hx3 ⟨u3, hv3⟩ => ?_
 subst hv3
 have hT3 : z5x ba la h₁ h3 := hT2.trans (z5x.ofExt hx3)
 have hn3 : h3.Ns env.locals m₁ := ns₁.at' fun o e => hT3 _ o Lb Ll e
 have hc3 : h3.IsCell cb (some (.ref ba)) := by
  obtain ⟨oc, z1, z2⟩ := cell₁
  exact ⟨oc, hT3 _ _ cbb cbl z1, z2⟩
 refine wpAny_storeName_local (by rw [kof]; exact f11) hn3 (fun h4 hn4 hs4 => ?_) (by rw [hfn]; rfl)
 have up4 : ∀ b o, b ≠ env.locals -> h3.get? b = some o -> h4.get? b = some o := fun b o hb e => (hs4.2 b hb).trans e
 have B4 : z2b h4 ba la ns2 seed2 := (hB2.ext hx3).keep (fun o e => up4 _ o (Ne.symm Lb) e) fun o e => up4 _ o (Ne.symm Ll) e
 have hc4 : h4.IsCell cb (some (.ref ba)) := hc3.sameBut hs4 hcL
 have old4 : z5x ba la s.heap h4 := fun b o h1 h2 e => up4 b o (fun q => by rw [q, Lnone] at e; cases e) (hT3 b o h1 h2 (F₁.keep b o e))
 have x4 : Ext H0 h4 := fun b o e => old4 b o (fun q => by rw [q, hb0] at e; cases e) (fun q => by rw [q, hl0] at e; cases e) (hx b o e)
 have hmany4 : (fun y => if y = ("many" : Str) then some (Value.int (1 + r2) u3) else m₁ y) "many" = some (.int (1 + r2) u3) := by
  show (if ("many" : Str) = ("many" : Str) then _ else _) = _
  rw [if_pos rfl]
 generalize (fun y => if y = ("many" : Str) then some (Value.int (1 + r2) u3) else m₁ y) = m4 at hn4 hmany4
 obtain ⟨s4, hs4'⟩ : ∃ s4 : Shared, s4 = { s with heap := h4, toks := tk3 + 1 } := ⟨_, rfl⟩
 have hh4 : s4.heap = h4 := by rw [hs4']
 have X4 : ∀ h, z5x ba la s4.heap h -> (∃ ns seed, z2b h ba la ns seed) -> CX (z5e z6o z1q.scope) mg mb (z2l PW) 306 env [] [none, some (.int (1 + r2)), none] [] (Yb ba la) h := fun h hT ⟨ns', seed', hB⟩ => by
  rw [hh4] at hT
  refine cx h m4 ns' seed' _ (ext0 x4 hT) (hn4.at' fun o e => hT _ o Lb Ll e) ?_ hB fun d q => by cases q; exact ⟨_, hmany4, Rep.int _ _⟩
  obtain ⟨oc, z1, z2⟩ := hc4
  exact ⟨oc, hT _ _ cbb cbl z1, z2⟩
 have K := y0v t2
 have hb : swapsWith (.ListComp (.BinOp (.Call (.Name "_law_take" (z2q 9)) [.Name "box" (z2q 10), .Constant (.int 7) (q0r 2) (z2q 11)] [] (z2q 12)) .Sub (.Constant (.int 3) (q0r 3) (z2q 13)) (z2q 14)) [⟨.Name "turn" (z2q 15), (q2u 0), [], 0⟩] y8h (z2q 16)) (some (.Name "found" (z2q 8))) (z2q 17).line env = pure true := by
  show (pure (env.blockKind == .function && env.kindOf "found" == some .local && (z2q 8).line == (z2q 16).line && !(y8h.names.any fun x => x.1 == ("found" : Str) && (x.2 == .local || x.2 == .cell))) : Sem Bool) = pure true
  rw [t5, t6, kof, f12]
  unfold Env.blockKind
  rw [hfn]
  rfl
 have hrange : ev (phi prog 0) [none, some (.int (1 + r2)), none] (.range (.var 1)) [] = some (.list (z2n (1 + r2).toNat)) := by
  have h1 : -1000000 <= 1 + r2 /\ 1 + r2 <= 1000000 := by exact o21 hr2a hr2b
  simp [ev, h1]
 have hlenR : (z2n (1 + r2).toNat).length = (1 + r2).toNat := by simp [z2n]
 have st1 : ∀ (Q1 : Flow -> Shared -> Prop), (∀ (D : Addr) (h : Heap) (tk : Nat) (mm : Str -> Option Value) (ws : List Value) (n : Nat) (l ns : List Int) (seed : Int), D ≠ ba -> D ≠ la -> h.Ns env.locals mm -> mm "found" = some (.ref D) -> h.IsCell cb (some (.ref ba)) -> z5x ba la s.heap h -> z2b h ba la ns seed ->
   h.get? D = some { cls := .type "list", data := .seq ws.toArray n } -> z0k h (fun _ => False) ws (l.map .int) -> l.length = (1 + r2).toNat -> (∀ i ∈ l, -3 <= i /\ i <= 3) -> Q1 .next { s with heap := h, toks := tk }) ->
   wpAny (model PW w) A' (exec (.Assign [.Name "found" (z2q 8)] (.ListComp (.BinOp (.Call (.Name "_law_take" (z2q 9)) [.Name "box" (z2q 10), .Constant (.int 7) (q0r 2) (z2q 11)] [] (z2q 12)) .Sub (.Constant (.int 3) (q0r 3) (z2q 13)) (z2q 14)) [⟨.Name "turn" (z2q 15), (q2u 0), [], 0⟩] y8h (z2q 16)) (z2q 17)) env) Q1 (fun _ _ => False) s4 := by
  intro Q1 kq
  rw [exec_Assign_Name_used _ _ _ _ hb]
  refine wpAny_bind (wpAny_standAt (wpAny_bind ?_))
  show wpAny _ A' (do let _ <- comprehension (.ListComp (.BinOp (.Call (.Name "_law_take" (z2q 9)) [.Name "box" (z2q 10), .Constant (.int 7) (q0r 2) (z2q 11)] [] (z2q 12)) .Sub (.Constant (.int 3) (q0r 3) (z2q 13)) (z2q 14)) [⟨.Name "turn" (z2q 15), (q2u 0), [], 0⟩] y8h (z2q 16)) y8h env _ (newList []) false (eval (q2u 0) env) (some (assign (.Name "found" (z2q 8)) env))) _ _ s4
  refine wpAny_bind (wpAny_mono (wpAny_comprehension_free (use := some (assign (.Name "found" (z2q 8)) env)) (Q := fun _ s' => Q1 .next s') (cl := z0i env y8h.names []) rfl (z5l t1)
   (z5p fun y hy e => ((X4 _ (z5x.refl _ _ _) ⟨ns2, seed2, by rw [hh4]; exact B4⟩).cells K.outer y.1 (K.free y hy e)).2.1) K.kind K.locs ?_) (fun _ s' hq => wpAny_pure (wpAny_pure hq)) fun _ _ e => e)
  refine z9z (y1f CO0 30) R0 (X4 _ (z5x.refl _ _ _) ⟨ns2, seed2, by rw [hh4]; exact B4⟩) t1 (by decide) hrange rfl _ _ fun itv h5 tk5 hx5 hlen5 hit => ?_
  refine q2z (P := fun i => -3 <= i /\ i <= 3) (s₀ := s4) (s₂ := { s4 with heap := h5, toks := tk5 }) (RR := fun acc C => compPost (model PW w) A' _ (some (assign (.Name "found" (z2q 8)) env)) (fun _ s' => Q1 .next s') acc C) R'.hh X4 K (cn := ["turn"]) (tt := false) rfl rfl
   (by rw [hh4]; exact B4) hx5 hit rfl hap (fun d hd => ?_) hlen5 ?_ ?_
  ·simp only [z2n, List.mem_map] at hd
   obtain ⟨i, _, rfl⟩ := hd
   exact ⟨_, rfl⟩
  ·intro env' κ' s' C he' X' hT ⟨ns', seed', hB⟩ E' Q' k'
   rw [hh4] at hT
   have hg' : z1z { z5e z6o z1q.scope with sc := y8h, cn := ["turn"] } "_law_take" = true := by
    unfold z1z
    show (y8h.names.lookup ("_law_take" : Str) == some NameKind.globalImplicit) = true
    rw [t3]; rfl
   have nv' : NV env' s'.heap "box" (.ref ba) := by
    subst he'
    refine .inr ⟨?_, cb, z3b hcb' _ _ (.inl ⟨_, z1d t4, rfl⟩), ?_⟩
    ·have := z1v (env := env) t4
     by_cases hbq : (NameKind.free == NameKind.free && env.scope.kind == .function && env.kindOf "box" == some .cell) = true
     ·rw [if_pos hbq] at this; exact .inl this
     ·rw [if_neg hbq] at this; exact .inr ⟨this, by decide⟩
    ·obtain ⟨oc, z1, z2⟩ := hc4
     exact ⟨oc, hT _ _ cbb cbl z1, z2⟩
   refine wpAny_BinOp (y2y G hb0 hl0 R' (ext0 x4 hT) X' hg' nv' hB (by decide) hta _ _ fun v h tk ns5 seed5 hT' hB' ⟨r, u, hv, hra, hrb⟩ => ?_)
   subst hv
   refine wpAny_Constant_int (y5k (o := .sub) (c := r - 3) rfl rfl _ _ fun v6 h6 tk6 hx6 ⟨u6, hv6⟩ => ?_)
   exact k' v6 h6 tk6 ns5 seed5 (hT'.trans (z5x.ofExt hx6)) (hB'.ext hx6) ⟨r - 3, u6, hv6, by exact o22 hra, by exact o23 hrb⟩
  ·intro D C h' tk' m' ws n l ns' seed' hD hC hDC hnC hT hB hg hr hl hP
   have nz : ∀ z : Addr, h5.objs.size <= z -> z ≠ env.locals /\ z ≠ cb /\ z ≠ ba /\ z ≠ la := fun z hz => by
    have e0 : h5.get? z = none := get?_none_of_size hz
    have alive : ∀ b, (∃ o, h4.get? b = some o) -> z ≠ b := fun b ⟨o, e⟩ q => by
     have := hx5 b o (by rw [hh4]; exact e)
     have this' : h5.get? b = some o := this
     rw [<- q, e0] at this'; cases this'
    refine ⟨alive _ ?_, alive _ ?_, alive _ ?_, alive _ ?_⟩
    ·obtain ⟨o, _, _, e, _⟩ := hn4; exact ⟨o, e⟩
    ·obtain ⟨o, e, _⟩ := hc4; exact ⟨o, e⟩
    ·obtain ⟨_, _, e⟩ := B4.box; exact ⟨_, e⟩
    ·obtain ⟨_, _, e, _⟩ := B4.row; exact ⟨_, e⟩
   obtain ⟨d1, d2, d3, d4⟩ := nz D hD
   obtain ⟨c1, c2, c3, c4⟩ := nz C hC
   rw [hh4] at hT
   show wpAny _ A' (assign (.Name "found" (z2q 8)) env (.ref D)) _ _ _
   refine wpAny_assign_Name (wpAny_storeName_local (by rw [kof]; exact f12) (hn4.at' fun o e => hT _ o Lb Ll e) (fun h6 hn6 hs6 => ?_) (by rw [hfn]; rfl))
   refine ⟨m', hnC.sameBut hs6 c1, fun h7 hs7 => ?_⟩
   have up7 : ∀ b o, b ≠ env.locals -> b ≠ C -> h'.get? b = some o -> h7.get? b = some o := fun b o h1 h2 e => (hs7.2 b h2).trans ((hs6.2 b h1).trans e)
   have hc7 : h7.IsCell cb (some (.ref ba)) := by
    obtain ⟨oc, z1, z2⟩ := hc4
    exact ⟨oc, up7 _ _ hcL (Ne.symm c2) (hT _ _ cbb cbl z1), z2⟩
   have := kq D h7 (tk' + 1) _ ws n l ns' seed' d3 d4 (hn6.sameBut hs7 (Ne.symm c1)) (by show (if ("found" : Str) = ("found" : Str) then _ else _) = _; rw [if_pos rfl]) hc7 (fun b o h1 h2 e => ?_) (hB.keep (fun o e => up7 _ o (Ne.symm Lb) (Ne.symm c3) e) fun o e => up7 _ o (Ne.symm Ll) (Ne.symm c4) e) (up7 D _ d1 hDC hg) (z2x hr) (by rw [hl]; exact hlenR) hP
   ·rw [hs4']
    exact this
   ·have e4 := old4 b o h1 h2 e
    refine up7 b o (fun q => by rw [q, Lnone] at e; cases e) (fun q => ?_) (hT b o h1 h2 e4)
    have := hx5 b o (by rw [hh4]; exact e4)
    have this' : h5.get? b = some o := this
    rw [q] at this'
    have e0 : h5.get? C = none := get?_none_of_size hC
    rw [e0] at this'; cases this'
 rw [<- hs4']
 refine wpAny_execs_cons (st1 _ fun D h5 tk5 m5 ws n l ns5 seed5 hDb hDl hn5 hm5 hc5 hT5 hB5 hgD hrD hlD hPD => ?_)
 have x5 : Ext H0 h5 := ext0 hx hT5
 have X5 := cx h5 m5 ns5 seed5 none x5 hn5 hc5 hB5 (fun d q => by cases q)
 refine wpAny_execs_cons (wpAny_Return_some (wpAny_BinOp ?_))
 refine z3e (s := { s with heap := h5, toks := tk5 }) (P := fun v' h => v' = .ref D) hfn (.inl ⟨by rw [kof]; exact f12, m5, hn5, hm5⟩) (by decide) rfl _ _ fun v6 h6 tk6 hx6 hv6 => ?_
 subst hv6
 have X6 := X5.ext hx6
 have hlst : ev (phi prog 0) [none, none, none] (.list (.cons (.int 1) (.cons (.int 2) (.cons (.neg (.int 1)) (.cons (.int 3) .nil))))) [] = some (.list [.int 1, .int 2, .int (-1), .int 3]) := by simp [ev]
 refine List_ (args_cons (Subscript_ ?_) (by rfl))
 refine (y1f CO0 30 _ (q2u 1) _ t7 env _ [] [] (Yb ba la) A' { s with heap := h6, toks := tk6 } R0 X6).E _ (by decide) hlst _ _ fun v7 h7 tk7 hx7 hr7 => ?_
 obtain ⟨a7, ws7, n7, rfl, hY7, hg7, hl7, r7⟩ := hr7.1.list_inv
 have B7 := (hB5.ext hx6).ext hx7
 have x7 : Ext H0 h7 := (x5.trans hx6).trans hx7
 have hc7 : h7.IsCell cb (some (.ref ba)) := (hc5.keeps hx6).keeps hx7
 refine y2y (s := { s with heap := h7, toks := tk7 }) G hb0 hl0 R' x7 (X6.ext hx7) hglob (nvb _ hc7) B7 (by decide) hta _ _ fun v8 h8 tk8 ns8 seed8 hT8 hB8 ⟨r8, u8, hv8, hr8a, hr8b⟩ => ?_
 subst hv8
 have hg8 := hT8 a7 _ (fun q => hY7 (.inl q)) (fun q => hY7 (.inr q)) hg7
 have r7' : z0k h8 (Yb ba la) ws7 [.int 1, .int 2, .int (-1), .int 3] := z2x (ns := [1, 2, -1, 3]) r7
 have hrep8 : Rep h8 (Yb ba la) (.ref a7) (.list [.int 1, .int 2, .int (-1), .int 3]) := .list hY7 hg8 hl7 r7' .nil
 obtain ⟨ld, hld, hldP⟩ : ∃ ld : Int, z9x [.int 1, .int 2, .int (-1), .int 3] r8 = some (.int ld) /\ (ld = 1 \/ ld = 2 \/ ld = -1 \/ ld = 3) := by
  have : r8 = 0 \/ r8 = 1 \/ r8 = 2 \/ r8 = 3 := by exact o24 hr8a hr8b
  rcases this with q | q | q | q <;> subst q
  ·exact ⟨1, rfl, .inl rfl⟩
  ·exact ⟨2, rfl, .inr (.inl rfl)⟩
  ·exact ⟨-1, rfl, .inr (.inr (.inl rfl))⟩
  ·exact ⟨3, rfl, .inr (.inr (.inr rfl))⟩
 refine tail_any (T := "list") ⟨_, hg8, rfl⟩ list_getitem_lookup ?_ (z1t (by intros; intro q; cases q))
 refine z8x (s := { s with heap := h8, toks := tk8 }) (.rep hrep8) rfl hld _ _ fun v9 h9 tk9 hx9 hr9 => ?_
 obtain ⟨u9, rfl⟩ := hr9.int_inv
 refine args_nil ?_
 have B9 := hB8.ext hx9
 have hY9 : ∀ a, Yb ba la a -> a < h9.objs.size := fun a q => let ⟨_, e⟩ := Ynone B9 a q; Heap.lt_size e
 refine y1v (s := { s with heap := h9, toks := tk9 }) (Y := Yb ba la) (ds := [.int ld]) (.int .nil) hY9 (by have := z2v; simp; exact Nat.le_add_left _ _) _ _ fun v10 h10 tk10 hx10 hr10 => ?_
 have B10 := B9.ext hx10
 have hY10 : ∀ a, Yb ba la a -> a < h10.objs.size := fun a q => let ⟨_, e⟩ := Ynone B10 a q; Heap.lt_size e
 have hgD10 := hx10 _ _ (hx9 _ _ (hT8 D _ hDb hDl (hx7 _ _ (hx6 _ _ hgD))))
 have hlws : ws.length <= LEN := by
  have := hrD.length
  have h2 := z2v
  rw [List.length_map, hlD] at this
  (clear G hb0 hl0 R hx B hta hpa kk f1 f2 f3 f4 f5 f6 f7 f8 f9 f10 f11 f12 f13 f14 f15 hdata hcd ho hcb hbody t1 t2 t3 t4 t5 t6 t7 C₁ henv e1 e2 e3 e4 e5 hA R' R0 kof hfn hboxc hm1 F₁ ns₁ hcb' cell₁ Lnone cnone hcL nbox Lb Ll cbb cbl x0₁ ext0 hglob Ynone hap cx nvb B₁ hT2 hB2 hx3 hT3 hn3 hc3 hs4 up4 B4 hc4 old4 x4 hn4 hmany4 hs4' hh4 X4 K hb hrange hlenR st1 hDb hDl hn5 hm5 hc5 hT5 hB5 hgD hrD hlD hPD x5 X5 hx6 X6 hlst hx7 hr7 hY7 hg7 r7 B7 x7 hc7 hT8 hB8 hr8a hr8b hg8 r7' hrep8 hld hldP hx9 hr9 B9 hY9 hx10 hr10 B10 hY10 hgD10; omega)
 have hrD10 : Rep h10 (Yb ba la) (.ref D) (.list (l.map .int)) := .list (fun q => q.elim hDb hDl) hgD10 hlws (z2x hrD) .nil
 refine q0w (s := { s with heap := h10, toks := tk10 }) hrD10 hr10.1 hY10 (by have := z2v; simp; exact o25 hr2b this hlD) _ _ fun v11 h11 tk11 hx11 ⟨hr11, hf11⟩ => ?_
 obtain ⟨a11, ws11, n11, rfl, hY11, hg11, hl11, r11⟩ := hr11.list_inv
 have hTfin : z5x ba la s.heap h10 := (((((hT5.trans (z5x.ofExt hx6)).trans (z5x.ofExt hx7)).trans hT8).trans (z5x.ofExt hx9)).trans (z5x.ofExt hx10))
 refine kk _ h11 tk11 ns8 seed8 (hTfin.trans (z5x.ofExt hx11)) (B10.ext hx11) ⟨a11, ws11, n11, l ++ [ld], rfl, ?_, hg11, hl11, ?_, ?_⟩
 ·obtain ⟨a', e', hn'⟩ := hf11
  cases e'
  cases hq : s.heap.get? a11 with
  | none => rfl
  | some o =>
   have := hTfin a11 o (fun q => hY11 (.inl q)) (fun q => hY11 (.inr q)) hq
   have hn'' : h10.get? a11 = none := hn'
   rw [this] at hn''; cases hn''
 ·rw [List.map_append]
  exact z2x (ns := l ++ [ld]) (by rw [List.map_append]; exact r11) |> fun q => by rw [List.map_append] at q; exact q
 ·refine ⟨?_, ?_, ld, by simp, hldP⟩
  ·simp only [List.length_append, List.length_singleton, hlD]; exact o26 hr2a hr2b
  ·rw [List.dropLast_concat]; exact hPD
end
end Mine
end
section
open PySem
namespace Mine
open PyProof.Rows PySem.W
noncomputable def q6l : ME := match lawA with | .asgT _ e => e | _ => .nil
theorem q6m : lawA = .asgT [5, 6, 7] q6l := rfl
theorem z6x : ∃ (gp : Nat -> Pos) (gk : Nat -> Nat) (gl : Nat -> List Expr) (gv : Expr) (gr : List Stmt), z3d.body =
  .Assign [.Name "box" (gp 0)] (.List [.Call (.Name "list" (gp 1)) [.Subscript (.Name "script" (gp 2)) (.Slice none (some (.Constant (.int 24) (gk 0) (gp 3))) none (gp 4)) (gp 5)] [] (gp 6), .Constant (.int 53) (gk 1) (gp 7)] (gp 8)) (gp 9) ::
  .Assign [.Tuple (gl 0) (gk 2) (gp 10)] (.Tuple [.Call (.Name "_law_poly" (gp 11)) [.Name "box" (gp 12)] [] (gp 13), .Call (.Name "_law_poly" (gp 14)) [.Name "box" (gp 15)] [] (gp 16), .Call (.Name "_law_poly" (gp 17)) [.Name "box" (gp 18)] [] (gp 19)] (gk 3) (gp 20)) (gp 21) ::
  .Assign [.Tuple (gl 1) (gk 4) (gp 22)] gv (gp 23) ::
  .Assign [.Name "start" (gp 24)] (.Subscript (.Name "_law_primes" (gp 25)) (.Call (.Name "_law_take" (gp 26)) [.Name "box" (gp 27), .Constant (.int 6) (gk 5) (gp 28)] [] (gp 29)) (gp 30)) (gp 31) :: gr /\
  z1l (gl 0) = some (["shared", "one", "other"] : List Str) /\ z1l (gl 1) = some (["f", "g", "worth"] : List Str) /\ trE 30 (z5e z6o z3d.scope) gv = some q6l /\ z5r gv = false /\ trB (trS 30 (z5e z6o z3d.scope) 30) gr = some lawB := by
 refine ⟨fun n => [_, _, _, _, _, _, _, _, _, _, _, _, _, _, _, _, _, _, _, _, _, _, _, _, _, _, _, _, _, _, _, _].getD n default, fun n => [_, _, _, _, _, _].getD n 0, fun n => [_, _].getD n [], _, _, rfl, ?_, ?_, ?_, ?_, ?_⟩
 all_goals first | kernel_rfl | decide +kernel
noncomputable def z4l : Nat -> Pos := Classical.choose z6x
noncomputable def q2w : Nat -> Nat := Classical.choose (Classical.choose_spec z6x)
noncomputable def glw2 : Nat -> List Expr := Classical.choose (Classical.choose_spec (Classical.choose_spec z6x))
noncomputable def glw3 : Expr := Classical.choose (Classical.choose_spec (Classical.choose_spec (Classical.choose_spec z6x)))
noncomputable def glw4 : List Stmt := Classical.choose (Classical.choose_spec (Classical.choose_spec (Classical.choose_spec (Classical.choose_spec z6x))))
theorem glw_ok : z3d.body =
  .Assign [.Name "box" (z4l 0)] (.List [.Call (.Name "list" (z4l 1)) [.Subscript (.Name "script" (z4l 2)) (.Slice none (some (.Constant (.int 24) (q2w 0) (z4l 3))) none (z4l 4)) (z4l 5)] [] (z4l 6), .Constant (.int 53) (q2w 1) (z4l 7)] (z4l 8)) (z4l 9) ::
  .Assign [.Tuple (glw2 0) (q2w 2) (z4l 10)] (.Tuple [.Call (.Name "_law_poly" (z4l 11)) [.Name "box" (z4l 12)] [] (z4l 13), .Call (.Name "_law_poly" (z4l 14)) [.Name "box" (z4l 15)] [] (z4l 16), .Call (.Name "_law_poly" (z4l 17)) [.Name "box" (z4l 18)] [] (z4l 19)] (q2w 3) (z4l 20)) (z4l 21) ::
  .Assign [.Tuple (glw2 1) (q2w 4) (z4l 22)] glw3 (z4l 23) ::
  .Assign [.Name "start" (z4l 24)] (.Subscript (.Name "_law_primes" (z4l 25)) (.Call (.Name "_law_take" (z4l 26)) [.Name "box" (z4l 27), .Constant (.int 6) (q2w 5) (z4l 28)] [] (z4l 29)) (z4l 30)) (z4l 31) :: glw4 /\
  z1l (glw2 0) = some (["shared", "one", "other"] : List Str) /\ z1l (glw2 1) = some (["f", "g", "worth"] : List Str) /\ trE 30 (z5e z6o z3d.scope) glw3 = some q6l /\ z5r glw3 = false /\ trB (trS 30 (z5e z6o z3d.scope) 30) glw4 = some lawB := (Classical.choose_spec (Classical.choose_spec (Classical.choose_spec (Classical.choose_spec (Classical.choose_spec z6x)))))
theorem q0k : z3d.params.args.map (·.arg) = (["script"] : List Str) /\ z2m z3d.scope = (["script", "box", "shared", "one", "other", "f", "g", "worth", "start", "bad", "number", "due"] : List Str) /\ z3d.scope.kind = .function /\ z3d.scope.isCoroutine = false /\ z3d.scope.isGenerator = false /\ z3d.params.posonlyargs.isEmpty = true /\ z3d.params.kwonlyargs.isEmpty = true /\
  z3d.params.vararg.isNone = true /\ z3d.params.kwarg.isNone = true /\ z3d.scope.names.lookup ("box" : Str) = some NameKind.local /\ z3d.scope.names.lookup ("script" : Str) = some NameKind.local /\ z3d.scope.names.lookup ("start" : Str) = some NameKind.local /\
  (z3d.scope.names.all fun x => !(x.1 == ("__classdict__" : Str))) = true /\ (z3d.scope.names.all fun x => z3d.scope.names.lookup x.1 == some x.2) = true /\ z3d.name = ("law" : Str) /\ z3d.scope.names.lookup ("_law_take" : Str) = some NameKind.globalImplicit /\
  z3d.scope.names.lookup ("_law_poly" : Str) = some NameKind.globalImplicit /\ z3d.scope.names.lookup ("_law_primes" : Str) = some NameKind.globalImplicit /\ z3d.scope.names.lookup ("list" : Str) = some NameKind.globalImplicit /\ (z2m z3d.scope).Nodup /\
  z1x (z5e z6o z3d.scope) ["shared", "one", "other"] = some [2, 3, 4] /\ z1x (z5e z6o z3d.scope) ["f", "g", "worth"] = some [5, 6, 7] := by decide +kernel
noncomputable def y5u : Prop := ∀ (s u v : List Int) (p : Int), y2b s -> y2b u -> y2b v -> (p = 2 \/ p = 3 \/ p = 5 \/ p = 7 \/ p = 11 \/ p = 13) ->
 ∃ ρ1 r, xs (phi prog 30) z5y lawA [none, none, some (li s), some (li u), some (li v), none, none, none, none, none, none, none] = some (.next, ρ1) /\ xs (phi prog 30) z5y lawB (ρ1.set 8 (some (.int p))) = some (.ret (.bool true), r)
section
variable {w : World} {mg mb : Str -> Option Value} {A : Around} {s : Shared}
theorem y5i {c : TC} {env : Env} {ρ : List (Option D)} {κ : List D} {Y : Addr -> Prop} {H0 : Heap} {ba la ta pa : Addr} {ns : List Int} {seed : Int} {p1 p2 p4 : Pos} (G : GI mg mb (z2l PW) 306 H0) (hb0 : H0.get? ba = none) (hl0 : H0.get? la = none) (R : z3o 2 A)
  (hx : Ext H0 s.heap) (X : CX c mg mb (z2l PW) 306 env [] ρ κ Y s.heap) (hg : z1z c "_law_poly" = true) (nv : NV env s.heap "box" (.ref ba)) (B : z2b s.heap ba la ns seed) (hta : mg "_law_take" = some (.ref ta)) (hpa : mg "_law_poly" = some (.ref pa)) :
  EB (model PW w) A (eval (.Call (.Name "_law_poly" p1) [.Name "box" p2] [] p4) env) s ba la
   (fun v h => E4 fun a ws n l => A6 (v = .ref a) (s.heap.get? a = none) (h.get? a = some { cls := .type "list", data := .seq ws.toArray n }) (ws.length <= LEN) (z0k h (fun _ => False) ws (l.map .int)) (y2b l)) := fun E Q kk => by
 obtain ⟨a0, o, pm, cd, doc, q1, ho, hdata, hcd⟩ := (G.ext hx).defs z1q (List.getElem_mem _)
 rw [show z1q.name = ("_law_poly" : Str) from z8q.2.2.2.2.2.2.2.2.2.2.2.2.2.1, hpa] at q1
 cases q1
 refine y0x X hg (by decide) hpa hdata rfl ?_
 refine args_cons ?_
 refine z3e (P := fun v' h => v' = .ref ba) X.kind nv (by decide) rfl E _ fun v1 h1 tk1 hx1 hv1 => ?_
 subst hv1
 refine args_nil ⟨hx1 _ _ ho, ?_⟩
 exact q5v (s := { s with heap := h1, toks := tk1 }) G hb0 hl0 R (hx.trans hx1) (B.ext hx1) hta hpa E Q fun v h tk ns' seed' hT hB ⟨a, ws, n, l, z1, z2, z3, z4, z5, z6⟩ => kk v h tk ns' seed' ((z5x.ofExt hx1).trans hT) hB ⟨a, ws, n, l, z1, z0o hx1 z2, z3, z4, z5, z6⟩
theorem INV.turn {c : TC} {env : Env} {W : List Nat} {h₀ h h' : Heap} {Yc X Y : Addr -> Prop} {ρ : List (Option D)} {m cm : Str -> Option Value} {ba la : Addr} {ns : List Int} {seed : Int} (I : INV c env W h₀ Yc X Y ρ h m cm) (hT : z5x ba la h h') (B : z2b h' ba la ns seed)
  (yb : Y ba) (yl : Y la) (xb : ¬ X ba) (xl : ¬ X la) (hb0 : h₀.get? ba = none) (hl0 : h₀.get? la = none) : INV c env W h₀ Yc X Y ρ h' m cm := by
 refine I.move (fun a o hc e => hT a o (fun q => ?_) (fun q => ?_) e) (fun _ q => q) (fun _ q => .inl q) fun a q => ?_
 ·subst q
  rcases hc with z | z | ⟨o', z⟩
  ·exact xb z
  ·exact z yb
  ·rw [hb0] at z; cases z
 ·subst q
  rcases hc with z | z | ⟨o', z⟩
  ·exact xl z
  ·exact z yl
  ·rw [hl0] at z; cases z
 ·by_cases h1 : a = ba
  ·subst h1; obtain ⟨_, _, e⟩ := B.box; exact ⟨_, e⟩
  ·by_cases h2 : a = la
   ·subst h2; obtain ⟨_, _, e, _⟩ := B.row; exact ⟨_, e⟩
   ·obtain ⟨o, e⟩ := I.ya a q; exact ⟨o, hT a o h1 h2 e⟩
theorem y5f {h : Heap} {Y : Addr -> Prop} : ∀ {vs : List Value} {ns : List Int}, IntsAre vs ns -> z0k h Y vs (ns.map .int)
 | _, _, .nil => .nil
 | _, _, .cons n t r => .int (y5f r)
set_option tactic.hygienic true in
theorem q6j (L : y5u) {fa a0 : Addr} {vs : List Value} {ns : List Int} (R : z3o 40 A) (G : GI mg mb (z2l PW) 306 s.heap) (hfa : mg "law" = some (.ref fa)) (hL : s.heap.IsList a0 vs.toArray) (hI : IntsAre vs ns) (hlen : ns.length <= 63) :
  EV (model PW w) A (call (.ref fa) [.ref a0]) s (fun v h => v = .bool true) := fun E Q kk => by
 obtain ⟨f1, f2, f3, f4, f5, f6, f7, f8, f9, f10, f11, f12, f13, f14, f15, f16, f17, f18, f19, f20, f21, f22⟩ := q0k
 obtain ⟨a', o, pm, cd, doc, q1, ho, hdata, hcd⟩ := G.defs z3d (List.getElem_mem _)
 rw [f15, hfa] at q1
 cases q1
 obtain ⟨ta, _, _, _, _, hta, _⟩ := G.defs z2j (List.getElem_mem _)
 rw [show z2j.name = ("_law_take" : Str) from z8n.2.2.2.2.2.2.2.2.2.2.2.2.2] at hta
 obtain ⟨pa, _, _, _, _, hpa, _⟩ := G.defs z1q (List.getElem_mem _)
 rw [show z1q.name = ("_law_poly" : Str) from z8q.2.2.2.2.2.2.2.2.2.2.2.2.2.1] at hpa
 have look : ∀ x ∈ z3d.scope.names, z3d.scope.names.lookup x.1 = some x.2 := fun x hx => by
  have := List.all_eq_true.mp f14 x hx
  simpa using this
 have cls : ∀ x ∈ z3d.scope.names, (x.1 == ("__classdict__" : Str)) = false := fun x hx => by
  have := List.all_eq_true.mp f13 x hx
  simpa using this
 have kinds : ∀ y ∈ z2m z3d.scope, z3d.scope.names.lookup y = some .local \/ (z3d.scope.names.lookup y = some .cell /\ ∃ z, (cellsFrom (s.heap.objs.size + 1) z3d.scope.names []).lookup y = some z) := fun y hy => by
  rcases y0g hy with q | q
  ·exact .inl (look _ q)
  ·exact .inr ⟨look _ q, z1m _ _ _ (.inl q)⟩
 refine wpAny_call (call_cells_ret (by have := R.depth; exact o27 this) ho hdata G.nolimit hcd (z4s (List.isEmpty_iff.mp f6) (List.isEmpty_iff.mp f7) (Option.isNone_iff_eq_none.mp f8) (Option.isNone_iff_eq_none.mp f9) (by rw [f1]; rfl) (by rw [f1]; decide)) ?_ ?_ f4 f5 f3)
 ·rw [f1]
  intro y hy
  left
  rcases List.mem_cons.mp hy with e | hy
  ·subst e; exact f11
  ·cases hy
 intro h₁ tk₁ F₁ C₁
 rw [f1] at F₁ C₁
 obtain ⟨hbody, t1, t2, t3, t4, t5⟩ := glw_ok
 rw [hbody]
 obtain ⟨env, henv⟩ : ∃ env, envOfC z3d.name z3d.scope s.heap.objs.size fa cd = env := ⟨_, rfl⟩
 have e1 : env.scope = z3d.scope := by rw [<- henv]; rfl
 have e2 : env.locals = s.heap.objs.size := by rw [<- henv]; rfl
 have e3 : env.globals = mainGlobals := by rw [<- henv]; rfl
 have e4 : env.builtins = builtinsNs := by rw [<- henv]; rfl
 have e5 : env.cells = cellsFrom (s.heap.objs.size + 1) z3d.scope.names [] := by rw [<- henv]; rfl
 rw [henv] at F₁ C₁ ⊢
 obtain ⟨A', hA⟩ : ∃ A', A.deeper env = A' := ⟨_, rfl⟩
 have RR : ∀ n, n <= 39 -> z3o n A' := fun n hn => by rw [<- hA]; exact ⟨R.hh, by have := R.depth; show A.depth + 1 + n < _; exact o28 this hn, by have := R.units; show A.units + 3 + 4 * n + 100 < _; exact o29 this hn⟩
 rw [hA]
 have kof : ∀ x, env.kindOf x = z3d.scope.names.lookup x := fun x => by unfold Env.kindOf; rw [e1]
 have hfn : env.scope.kind = .function := by rw [e1]; exact f3
 have hscr : bindL env.kindOf ((["script"] : List Str).zip [.ref a0]) (fun _ => none) "script" = some (.ref a0) := by
  have := z7a (kindOf := env.kindOf) ["script"] [.ref a0] (fun _ => none) (fun _ => none) rfl (by decide) 0 "script" (.ref a0) rfl rfl
  rwa [if_pos (by rw [kof, f11])] at this
 generalize hm1 : bindL env.kindOf ((["script"] : List Str).zip [.ref a0]) (fun _ => none) = m₁ at F₁ hscr
 generalize hcm1 : bindC env.kindOf ((["script"] : List Str).zip [.ref a0]) (fun _ => none) = cm₁ at C₁
 have ns₁ : h₁.Ns env.locals m₁ := by rw [e2]; exact F₁.ns
 have Lnone : s.heap.get? env.locals = none := by rw [e2]; exact get?_none_of_size (Nat.le_refl _)
 have cells : ∀ y z, env.cells.lookup y = some z -> h₁.IsCell z (cm₁ y) /\ s.heap.get? z = none /\ z ≠ env.locals := fun y z q => by
  rw [e5] at q
  have := C₁.above y z (PySem.mem_of_lookup q)
  exact ⟨C₁.cell y z q, get?_none_of_size (Nat.le_of_lt this), by rw [e2]; exact Nat.ne_of_gt this⟩
 have capart : ∀ x y z, env.cells.lookup x = some z -> env.cells.lookup y = some z -> x = y := fun x y z q1 q2 => by
  rw [e5] at q1 q2
  exact name_of_addr C₁.apart (PySem.mem_of_lookup q1) (PySem.mem_of_lookup q2)
 have FSx : FS (z5e z6o z3d.scope) mg mb (z2l PW) 306 env s.heap (fun _ => False) := by
  refine ⟨G, z6c.symm, rfl, e1, f3, e3, e4, f20, fun y hy => ?_, fun y hy => ?_, fun _ q => q.elim, ?_⟩
  ·rw [e5]; exact kinds y hy
  ·have := z1d hy
   rw [e5]
   exact ⟨z1m _ _ _ (.inl this), cls _ this⟩
  ·obtain ⟨_, ws, nn, e, _⟩ := G.primes
   exact ⟨_, e⟩
 have glob : ∀ x, z3d.scope.names.lookup x = some .globalImplicit -> z1z (z5e z6o z3d.scope) x = true := fun x q => by
  unfold z1z
  show (z3d.scope.names.lookup x == some NameKind.globalImplicit) = true
  rw [q]; rfl
 have CO := q4m (prog := PW) (w := w) (mg := mg) (mb := mb) (ap := 306) y9o 30
 have cx0 : ∀ h, Ext s.heap h -> CX (z5e z6o z3d.scope) mg mb (z2l PW) 306 env [] [] [] (fun _ => False) h := fun h x =>
  y3b (fun _ q => q.elim) (G.ext x) z6c.symm rfl e1 f3 e3 e4 FSx.cells (fun i y d _ _ hr => by simp at hr)
 refine wpAny_execs_cons (wpAny_Assign_Name ?_ rfl)
 refine List_ (args_cons (z5c (cx0 h₁ F₁.keep) (glob _ f19) (by decide) (T := "list") rfl rfl rfl (args_cons (Subscript_ ?_) (by rfl))) (by rfl))
 refine z3e (s := { s with heap := h₁, toks := tk₁ }) (P := fun v' h => v' = .ref a0) hfn (.inl ⟨by rw [kof]; exact f11, m₁, ns₁, hscr⟩) (by decide) rfl _ _ fun v2' h2 tk2 hx2 hv2 => ?_
 subst hv2
 refine wpAny_Slice (wpAny_pure (wpAny_Constant_int (k := (q2w 0)) (pos := (z4l 3)) (wpAny_pure ?_)))
 have hxp : Ext h2 (h2.push { cls := .type "slice", data := .fields #[.none, .int 24 tk2, .none] }) := Ext.push _ _
 have hL3 := (hL.at (fun o e => F₁.keep _ o e)).at (fun o e => hx2 _ o e) |>.at (fun o e => hxp _ o e)
 have hvl : vs.length = ns.length := by
  have := (y5f (h := s.heap) (Y := fun _ => False) hI).length
  rw [List.length_map] at this; exact this
 refine tail_any (T := "list") (ops := [.ref h2.objs.size, .ref a0]) (let ⟨o, z1, z2, _⟩ := hL3; ⟨o, z1, z2⟩) list_getitem_lookup (wpAny_getItem_list_slice hL3 (Heap.IsSliceOf.new ..) .none (.int _ _) .none (by simp) ?_ (by rw [List.size_toArray]; have a1 := z5d; have a2 := z2v; lia)) rfl
 have e24 : slicePick vs.toArray none (some 24) none = (vs.take 24).toArray := slicePick_upto' vs.toArray 24
 rw [e24]
 refine args_nil ?_
 have hG3 : ((h2.push { cls := .type "slice", data := .fields #[.none, .int 24 tk2, .none] }).push { cls := .type "list", data := .seq (vs.take 24).toArray }).get? (h2.push { cls := .type "slice", data := .fields #[.none, .int 24 tk2, .none] }).objs.size = some { cls := .type "list", data := .seq (vs.take 24).toArray } := Heap.get?_push_size _ rfl
 have hx3 : Ext h2 ((h2.push { cls := .type "slice", data := .fields #[.none, .int 24 tk2, .none] }).push { cls := .type "list", data := .seq (vs.take 24).toArray }) := hxp.push' _
 have r24 : ∀ (h : Heap) (Y : Addr -> Prop), z0k h Y (vs.take 24) ((ns.take 24).map .int) := fun h Y => by
  have := (y5f (h := h) (Y := Y) hI).take 24
  rwa [<- List.map_take] at this
 have l24 : (vs.take 24).length <= LEN := by
  have := z2v
  rw [List.length_take]; exact o30 this
 generalize hH3 : (h2.push { cls := .type "slice", data := .fields #[.none, .int 24 tk2, .none] }).push { cls := .type "list", data := .seq (vs.take 24).toArray } = h3 at hG3 hx3 ⊢
 refine q0u (s := { s with heap := h3, toks := tk2 + 1 }) (Y := fun _ => False) (l := (ns.take 24).map .int) (.rep (.list (fun q => q) hG3 l24 (r24 _ _) .nil)) (fun _ q => q.elim) _ _ fun v4 h4 tk4 hx4 ⟨hr4, hf4⟩ => ?_
 obtain ⟨la, wl, nl, rfl, _, hg4, hll, rl4⟩ := hr4.list_inv
 refine args_cons (wpAny_Constant_int (args_nil ?_)) (by rfl)
 refine wpAny_newObj_type ?_ (by show ([Value.ref la, Value.int 53 tk4] : List Value).toArray.size <= sizeLine; rw [List.size_toArray]; exact Nat.le_trans (by have := z2v; simp; exact Nat.le_add_left _ _) z5d)
 obtain ⟨ba, hba⟩ : ∃ ba, h4.objs.size = ba := ⟨_, rfl⟩
 have hg5 : (h4.push { cls := .type "list", data := .seq [Value.ref la, .int 53 tk4].toArray }).get? h4.objs.size = some { cls := .type "list", data := .seq [Value.ref la, .int 53 tk4].toArray } := Heap.get?_push_size _ rfl
 have hx5 : Ext h4 (h4.push { cls := .type "list", data := .seq [Value.ref la, .int 53 tk4].toArray }) := Ext.push _ _
 show wpAny _ A' (storeName env "box" (.ref h4.objs.size)) _ _ { s with heap := h4.push { cls := .type "list", data := .seq [Value.ref la, .int 53 tk4].toArray }, toks := tk4 + 1 }
 generalize hH5 : h4.push { cls := .type "list", data := .seq [Value.ref la, .int 53 tk4].toArray } = h5 at hg5 hx5 ⊢
 have bnone4 : h4.get? h4.objs.size = none := get?_none_of_size (Nat.le_refl _)
 rw [hba] at hg5 bnone4 ⊢
 have x14 : Ext h₁ h4 := hx2.trans (hx3.trans hx4)
 have lnone1 : h₁.get? la = none := by
  obtain ⟨a, e, hn⟩ := hf4
  cases e
  exact z0o (hx2.trans hx3) hn
 have bnone1 : h₁.get? ba = none := z0o x14 bnone4
 have hb0 : s.heap.get? ba = none := z0o F₁.keep bnone1
 have hl0 : s.heap.get? la = none := z0o F₁.keep lnone1
 have hbl : ba ≠ la := fun q => by rw [q, hg4] at bnone4; cases bnone4
 have B5 : z2b h5 ba la (ns.take 24) 53 := ⟨hbl, ⟨tk4, 0, hg5⟩, by decide, by decide, wl, nl, hx5 _ _ hg4, hll, z2x rl4⟩
 have hn5 : h5.Ns env.locals m₁ := (ns₁.keeps x14).keeps hx5
 refine wpAny_storeName_local (by rw [kof]; exact f10) hn5 (fun h6 hn6 hs6 => ?_) (by rw [hfn]; rfl)
 have hbL : ba ≠ env.locals := fun q => by
  obtain ⟨o', _, _, e, _⟩ := ns₁
  rw [<- q, bnone1] at e; cases e
 have hlL : la ≠ env.locals := fun q => by
  obtain ⟨o', _, _, e, _⟩ := ns₁
  rw [<- q, lnone1] at e; cases e
 have up6 : ∀ b o, b ≠ env.locals -> h5.get? b = some o -> h6.get? b = some o := fun b o hb e => (hs6.2 b hb).trans e
 have B6 : z2b h6 ba la (ns.take 24) 53 := B5.keep (fun o e => up6 _ o hbL e) fun o e => up6 _ o hlL e
 have cbx : ∀ y z, env.cells.lookup y = some z -> z ≠ ba /\ z ≠ la := fun y z q => by
  obtain ⟨⟨oc, z1, _⟩, _⟩ := cells y z q
  refine ⟨fun e => ?_, fun e => ?_⟩
  ·rw [e, bnone1] at z1; cases z1
  ·rw [e, lnone1] at z1; cases z1
 have hbox6 : (fun y => if y = ("box" : Str) then some (Value.ref ba) else m₁ y) "box" = some (.ref ba) := by
  show (if ("box" : Str) = ("box" : Str) then _ else _) = _
  rw [if_pos rfl]
 generalize (fun y => if y = ("box" : Str) then some (Value.ref ba) else m₁ y) = m6 at hn6 hbox6
 obtain ⟨X, hX⟩ : ∃ X : Addr -> Prop, X = fun z => z = env.locals \/ ∃ y, env.cells.lookup y = some z := ⟨_, rfl⟩
 obtain ⟨Y, hY⟩ : ∃ Y : Addr -> Prop, Y = fun z => X z \/ z = ba \/ z = la := ⟨_, rfl⟩
 have xb : ¬ X ba := by
  rw [hX]; rintro (q | ⟨y, q⟩)
  ·exact hbL q
  ·exact (cbx y ba q).1 rfl
 have xl : ¬ X la := by
  rw [hX]; rintro (q | ⟨y, q⟩)
  ·exact hlL q
  ·exact (cbx y la q).2 rfl
 have yb : Y ba := by rw [hY]; exact .inr (.inl rfl)
 have yl : Y la := by rw [hY]; exact .inr (.inr rfl)
 have cell6 : ∀ y z, env.cells.lookup y = some z -> h6.IsCell z (cm₁ y) := fun y z q => by
  obtain ⟨⟨oc, z1, z2⟩, _, hzl⟩ := cells y z q
  exact ⟨oc, up6 z oc hzl (hx5 _ _ (x14 _ _ z1)), z2⟩
 have I6 : INV (z5e z6o z3d.scope) env [] s.heap (fun _ => False) X Y (List.replicate 12 none) h6 m6 cm₁ := by
  have nr : ∀ (i : Nat) (d : D), (List.replicate 12 (none : Option D))[i]? ≠ some (some d) := fun i d q => by
   rw [List.getElem?_replicate] at q
   split at q <;> cases q
  refine ⟨fun b o e => up6 b o (fun q => ?_) (hx5 _ _ (x14 _ _ (F₁.keep b o e))), fun z q => by rw [hY]; exact .inl q, fun z q => ?_, fun _ q => q.elim, fun z q => ?_, hn6, by rw [hX]; exact .inl rfl, fun y z q => ⟨cell6 y z q, by rw [hX]; exact .inr ⟨y, q⟩, (cells y z q).2.2⟩, capart, fun i y d _ hr => (nr i d hr).elim, fun i j y z d e b _ _ _ _ hr _ _ _ => (nr i d hr).elim⟩
  ·rw [q, Lnone] at e; cases e
  ·rw [hY, hX] at q
   rcases q with (q | ⟨y, q⟩) | q | q
   ·subst q; obtain ⟨o', _, _, e, _⟩ := hn6; exact ⟨o', e⟩
   ·obtain ⟨oc, z1, _⟩ := cell6 y z q; exact ⟨oc, z1⟩
   ·subst q; obtain ⟨_, _, e⟩ := B6.box; exact ⟨_, e⟩
   ·subst q; obtain ⟨_, _, e, _⟩ := B6.row; exact ⟨_, e⟩
  ·rw [hX] at q
   rcases q with q | ⟨y, q⟩
   ·rw [q]; exact Lnone
   ·exact (cells y z q).2.1
 have nvbox : ∀ {ρ : List (Option D)} {X Y : Addr -> Prop} {h : Heap} {m cm : Str -> Option Value}, INV (z5e z6o z3d.scope) env [] s.heap (fun _ => False) X Y ρ h m cm -> z6w (z5e z6o z3d.scope) m cm "box" = some (.ref ba) -> NV env h "box" (.ref ba) := fun I hv => INV.nv FSx I (.inl f10) hv
 have hnv6 : z6w (z5e z6o z3d.scope) m6 cm₁ "box" = some (.ref ba) := by
  unfold z6w
  rw [if_neg (by show ¬ z3d.scope.names.lookup ("box" : Str) = some .cell; rw [f10]; decide)]
  exact hbox6
 refine wpAny_execs_cons ?_
 have x6 : Ext s.heap h6 := I6.keep
 have hsole : swapsWithSole [.Tuple (glw2 0) (q2w 2) (z4l 10)] (.Tuple [.Call (.Name "_law_poly" (z4l 11)) [.Name "box" (z4l 12)] [] (z4l 13), .Call (.Name "_law_poly" (z4l 14)) [.Name "box" (z4l 15)] [] (z4l 16), .Call (.Name "_law_poly" (z4l 17)) [.Name "box" (z4l 18)] [] (z4l 19)] (q2w 3) (z4l 20)) (z4l 21).line env = pure false := rfl
 rw [exec_Assign]
 refine wpAny_bind (wpAny_standAt ?_)
 rw [hsole]
 refine wpAny_bind (wpAny_pure ?_)
 rw [if_neg (by decide)]
 refine wpAny_bind ?_
 refine Tuple_ (args_cons ?_ (by rfl))
 refine y5i (s := { s with heap := h6, toks := tk4 + 1 + 1 }) G hb0 hl0 (RR 2 (by decide)) x6 (I6.cx FSx) (glob _ f17) (nvbox I6 hnv6) B6 hta hpa _ _ fun u1 h7 tk7 ns7 sd7 hT7 hB7 ⟨a1, w1, n1, l1, hu1, z1, g1, ll1, rr1, P1⟩ => ?_
 subst hu1
 have I7 := I6.turn hT7 hB7 yb yl xb xl hb0 hl0
 refine args_cons ?_ (by rfl)
 refine y5i (s := { s with heap := h7, toks := tk7 }) G hb0 hl0 (RR 2 (by decide)) I7.keep (I7.cx FSx) (glob _ f17) (nvbox I7 hnv6) hB7 hta hpa _ _ fun u2 h8 tk8 ns8 sd8 hT8 hB8 ⟨a2, w2, n2, l2, hu2, z2, g2, ll2, rr2, P2⟩ => ?_
 subst hu2
 have I8 := I7.turn hT8 hB8 yb yl xb xl hb0 hl0
 refine args_cons ?_ (by rfl)
 refine y5i (s := { s with heap := h8, toks := tk8 }) G hb0 hl0 (RR 2 (by decide)) I8.keep (I8.cx FSx) (glob _ f17) (nvbox I8 hnv6) hB8 hta hpa _ _ fun u3 h9 tk9 ns9 sd9 hT9 hB9 ⟨a3, w3, n3, l3, hu3, z3, g3, ll3, rr3, P3⟩ => ?_
 subst hu3
 have I9 := I8.turn hT9 hB9 yb yl xb xl hb0 hl0
 refine args_nil ?_
 refine wpAny_newObj_type ?_ (by show ([Value.ref a1, Value.ref a2, Value.ref a3] : List Value).toArray.size <= sizeLine; rw [List.size_toArray]; exact Nat.le_trans (by have := z2v; simp; exact Nat.le_add_left _ _) z5d)
 have Yno : ∀ {h : Heap} {a : Addr}, (∀ b, Y b -> ∃ o, h.get? b = some o) -> h.get? a = none -> ¬ Y a := fun hy hn q => by
  obtain ⟨o, e⟩ := hy _ q
  rw [hn] at e; cases e
 have y1 := Yno I6.ya z1
 have y2 := Yno I7.ya z2
 have y3 := Yno I8.ya z3
 have off : ∀ a, ¬ Y a -> a ≠ ba /\ a ≠ la := fun a q => ⟨fun e => q (e ▸ yb), fun e => q (e ▸ yl)⟩
 have g1' := hT9 _ _ (off _ y1).1 (off _ y1).2 (hT8 _ _ (off _ y1).1 (off _ y1).2 g1)
 have g2' := hT9 _ _ (off _ y2).1 (off _ y2).2 g2
 have hx10 : Ext h9 (h9.push { cls := .type "tuple", data := .seq [Value.ref a1, Value.ref a2, Value.ref a3].toArray }) := Ext.push _ _
 have hg10 : (h9.push { cls := .type "tuple", data := .seq [Value.ref a1, Value.ref a2, Value.ref a3].toArray }).get? h9.objs.size = some { cls := .type "tuple", data := .seq [Value.ref a1, Value.ref a2, Value.ref a3].toArray 0 } := Heap.get?_push_size _ rfl
 generalize hH10 : h9.push { cls := .type "tuple", data := .seq [Value.ref a1, Value.ref a2, Value.ref a3].toArray } = h10 at hx10 hg10 ⊢
 have I10 := I9.after hx10
 have B10 := hB9.ext hx10
 have cnames : (z5e z6o z3d.scope).names = (["script", "box", "shared", "one", "other", "f", "g", "worth", "start", "bad", "number", "due"] : List Str) := f2
 have hset : z2t [2, 3, 4] [li l1, li l2, li l3] (List.replicate 12 none) = some [none, none, some (li l1), some (li l2), some (li l3), none, none, none, none, none, none, none] := rfl
 refine z7n (s := { s with heap := h10, toks := tk9 }) (hs := h10) (RR 0 (by decide)) FSx I10 (z7b.refl ..) I10.xy t1 f21 (by decide) hset hg10 rfl (fun j t v d ej ev ed => ⟨fun _ => ?_, fun q => by cases q⟩) (fun j k t u v _ _ _ wt _ _ _ => by cases wt) (z7y t1 rfl) fun h11 tk11 ⟨m11, cm11, I11, g11, ext11, oth11⟩ => ?_
 ·match j, ej, ev, ed with
  | 0, ej, ev, ed => simp at ev ed; subst ev ed; exact .list y1 (hx10 _ _ g1') ll1 (z2x rr1) .nil
  | 1, ej, ev, ed => simp at ev ed; subst ev ed; exact .list y2 (hx10 _ _ g2') ll2 (z2x rr2) .nil
  | 2, ej, ev, ed => simp at ev ed; subst ev ed; exact .list y3 (hx10 _ _ g3) ll3 (z2x rr3) .nil
  | j + 3, ej, ev, ed => simp at ej
 have B11 : z2b h11 ba la ns9 sd9 := B10.keep (fun o e => ext11 _ o xb e) fun o e => ext11 _ o xl e
 have hnv11 : z6w (z5e z6o z3d.scope) m11 cm11 "box" = some (.ref ba) := (oth11 "box" (by rw [cnames]; decide)).trans hnv6
 obtain ⟨ρ1, _, hA1, _⟩ := L l1 l2 l3 2 P1 P2 P3 (.inl rfl)
 have hA2 := hA1
 rw [q6m] at hA2
 simp only [xs] at hA2
 split at hA2
 ·rename_i ds hds
  split at hA2
  ·cases hA2
  ·rename_i ρ1' hset2
   cases hA2
   refine wpAny_execs_cons (y4j CO (RR 30 (by decide)) FSx I11 t2 f22 (by decide) t4 t3 (by decide) hds hset2 _ _ fun h12 tk12 X12 Y12 m12 cm12 I12 g12 oth12 => ?_)
   have xb12 : ¬ X12 ba := fun q => by
    rcases g12.xn ba q with z | z
    ·exact xb z
    ·obtain ⟨_, _, e⟩ := B11.box
     have z' : h11.get? ba = none := z
     rw [e] at z'; cases z'
   have xl12 : ¬ X12 la := fun q => by
    rcases g12.xn la q with z | z
    ·exact xl z
    ·obtain ⟨_, _, e, _⟩ := B11.row
     have z' : h11.get? la = none := z
     rw [e] at z'; cases z'
   have B12 : z2b h12 ba la ns9 sd9 := B11.keep (fun o e => g12.ext _ o xb e) fun o e => g12.ext _ o xl e
   have hnv12 : z6w (z5e z6o z3d.scope) m12 cm12 "box" = some (.ref ba) := (oth12 "box" (by rw [cnames]; decide)).trans hnv11
   refine wpAny_execs_cons (wpAny_Assign_Name (Subscript_ ?_) rfl)
   have G12 := G.ext I12.keep
   refine q0t (s := { s with heap := h12, toks := tk12 }) (mg := mg) (P := fun v h => v = .ref 306) hfn (by rw [kof]; exact f18) e3 G12.g G12.primes.1 (by decide) rfl _ _ fun v13 h13 tk13 hx13 hv13 => ?_
   subst hv13
   have I13 := I12.after hx13
   have B13 := B12.ext hx13
   refine y2y (s := { s with heap := h13, toks := tk13 }) G hb0 hl0 (RR 1 (by decide)) I13.keep (I13.cx FSx) (glob _ f16) (nvbox I13 hnv12) B13 (by decide) hta _ _ fun v14 h14 tk14 ns14 sd14 hT14 hB14 ⟨r14, u14, hv14, hr14a, hr14b⟩ => ?_
   subst hv14
   have I14 := I13.turn hT14 hB14 (g12.y _ yb) (g12.y _ yl) xb12 xl12 hb0 hl0
   obtain ⟨_, wp, np, hgp, hlp, rp⟩ := (G.ext I14.keep).primes
   obtain ⟨p, hp, hpP⟩ : ∃ p : Int, z9x [.int 2, .int 3, .int 5, .int 7, .int 11, .int 13] r14 = some (.int p) /\ (p = 2 \/ p = 3 \/ p = 5 \/ p = 7 \/ p = 11 \/ p = 13) := by
    have : r14 = 0 \/ r14 = 1 \/ r14 = 2 \/ r14 = 3 \/ r14 = 4 \/ r14 = 5 := by exact o31 hr14a hr14b
    rcases this with q | q | q | q | q | q <;> subst q
    ·exact ⟨2, rfl, .inl rfl⟩
    ·exact ⟨3, rfl, .inr (.inl rfl)⟩
    ·exact ⟨5, rfl, .inr (.inr (.inl rfl))⟩
    ·exact ⟨7, rfl, .inr (.inr (.inr (.inl rfl)))⟩
    ·exact ⟨11, rfl, .inr (.inr (.inr (.inr (.inl rfl))))⟩
    ·exact ⟨13, rfl, .inr (.inr (.inr (.inr (.inr rfl))))⟩
   obtain ⟨ρ2, rfin, hA3, hB3⟩ := L l1 l2 l3 p P1 P2 P3 hpP
   rw [hA1] at hA3
   cases hA3
   refine tail_any (T := "tuple") ⟨_, hgp, rfl⟩ slot_tuple_getitem.lookup ?_ (z1t (by intros; intro q; cases q))
   refine z8x (s := { s with heap := h14, toks := tk14 }) (Y := Y12) (z5w.tup hgp hlp (rp _)) rfl hp _ _ fun v15 h15 tk15 hx15 hr15 => ?_
   obtain ⟨u15, rfl⟩ := hr15.int_inv
   have I15 := I14.after hx15
   refine z6v (s := { s with heap := h15, toks := tk15 }) FSx I15 (i := 8) (d := .int p) (by rw [cnames]; rfl) (fun _ => Rep.int _ _) (fun q => by cases q) fun h16 tk16 m16 cm16 I16 _ _ => ?_
   refine sndB (k := 30) CO (RR 30 (by decide)) FSx t5 (by decide) _ _ _ _ { s with heap := h16, toks := tk16 } _ _ _ I16 hB3 _ _ fun f h17 tk17 o => ?_
   obtain ⟨v17, rfl, r17, e17⟩ := o
   exact kk v17 h17 tk17 e17 r17.bool_inv
 ·cases hA2
end
end Mine
end
section
namespace Mine
@[reducible] noncomputable def QA := List (Option D × D)
noncomputable def q3i : QA -> Prop
 | [] => True
 | c :: r => c.1 = some c.2 /\ q3i r
theorem q3i.n : q3i [] := trivial
theorem q3i.c {r : Option D} {d : D} {cs : QA} (h : r = some d) (t : q3i cs) : q3i ((r, d) :: cs) := ⟨h, t⟩
noncomputable def mko : List Bool -> QA -> List (Option D)
 | [], _ => []
 | b :: m, cs => bif b then (match cs with | [] => [] | (_, d) :: cs => some d :: mko m cs) else none :: mko m cs
@[reducible] noncomputable def CR := Option (QA × List (Option D) × D)
noncomputable def cask (r : Option D) (os : List (Option D)) (cs : QA) : CR :=
 match os with
 | [] => none
 | o :: os => match o with
  | some d => some ((r, d) :: cs, os, d)
  | none => match r with | none => none | some d => some (cs, os, d)
noncomputable def q3c (r : Option D) (os : List (Option D)) (cs : QA) : CR := match r with | none => none | some d => some (cs, os, d)
section
variable (Φ : Nat -> List D -> Option D) (ρ : List (Option D))
noncomputable def z8f (A : List (Option D) -> QA -> CR) (F : D -> List (Option D) -> QA -> CR) (os : List (Option D)) (cs : QA) : CR :=
 match A os cs with
 | none => none
 | some (cs, os, d) => F d os cs
noncomputable def c1 (e : ME) (A : List (Option D) -> QA -> CR) : List (Option D) -> QA -> CR := z8f A fun d => cask (ev Φ ρ e [d])
noncomputable def c2 (e : ME) (A B : List (Option D) -> QA -> CR) : List (Option D) -> QA -> CR := z8f A fun x => z8f B fun y => cask (ev Φ ρ e [x, y])
noncomputable def cv : ME -> List D -> List (Option D) -> QA -> CR
 | .bin op a b, κ => c2 Φ ρ (.bin op (.cvar 0) (.cvar 1)) (cv a κ) (cv b κ)
 | .cmp c a b, κ => c2 Φ ρ (.cmp c (.cvar 0) (.cvar 1)) (cv a κ) (cv b κ)
 | .max a b, κ => c2 Φ ρ (.max (.cvar 0) (.cvar 1)) (cv a κ) (cv b κ)
 | .idx a b, κ => c2 Φ ρ (.idx (.cvar 0) (.cvar 1)) (cv a κ) (cv b κ)
 | .upTo a b, κ => c2 Φ ρ (.upTo (.cvar 0) (.cvar 1)) (cv a κ) (cv b κ)
 | .fromA a b, κ => c2 Φ ρ (.fromA (.cvar 0) (.cvar 1)) (cv a κ) (cv b κ)
 | .neg a, κ => c1 Φ ρ (.neg (.cvar 0)) (cv a κ)
 | .not a, κ => c1 Φ ρ (.not (.cvar 0)) (cv a κ)
 | .abs a, κ => c1 Φ ρ (.abs (.cvar 0)) (cv a κ)
 | .len a, κ => c1 Φ ρ (.len (.cvar 0)) (cv a κ)
 | .copy a, κ => c1 Φ ρ (.copy (.cvar 0)) (cv a κ)
 | .rev a, κ => c1 Φ ρ (.rev (.cvar 0)) (cv a κ)
 | .range a, κ => c1 Φ ρ (.range (.cvar 0)) (cv a κ)
 | .down a, κ => c1 Φ ρ (.down (.cvar 0)) (cv a κ)
 | .enum a, κ => c1 Φ ρ (.enum (.cvar 0)) (cv a κ)
 | .isN a, κ => c1 Φ ρ (.isN (.cvar 0)) (cv a κ)
 | .notN a, κ => c1 Φ ρ (.notN (.cvar 0)) (cv a κ)
 | .call k a, κ => c1 Φ ρ (.call k (.cvar 0)) (cv a κ)
 | .list a, κ => z8f (cv a κ) fun x => q3c (ev Φ ρ (.list (.cvar 0)) [x])
 | .tup a, κ => z8f (cv a κ) fun x => q3c (ev Φ ρ (.tup (.cvar 0)) [x])
 | .cons a b, κ => z8f (cv a κ) fun x => z8f (cv b κ) fun y => q3c (ev Φ ρ (.cons (.cvar 0) (.cvar 1)) [x, y])
 | .ite c a b, κ => z8f (cv c κ) fun x => match x with
  | .bool t => bif t then cv a κ else cv b κ
  | _ => fun _ _ => none
 | .and a b, κ => z8f (cv a κ) fun x => match x with
  | .bool t => bif t then z8f (cv b κ) fun y => q3c (ev Φ ρ (.and (.bool true) (.cvar 0)) [y]) else q3c (some (.bool false))
  | _ => fun _ _ => none
 | .or a b, κ => z8f (cv a κ) fun x => match x with
  | .bool t => bif t then q3c (some (.bool true)) else z8f (cv b κ) fun y => q3c (ev Φ ρ (.or (.bool false) (.cvar 0)) [y])
  | _ => fun _ _ => none
 | .comp e n i c, κ => cask (ev Φ ρ (.comp e n i c) κ)
 | e, κ => q3c (ev Φ ρ e κ)
noncomputable def Ok (A : List (Option D) -> QA -> CR) (x : Option D) : Prop := ∀ os cs r, A os cs = some r -> q3i r.1 -> q3i cs /\ x = some r.2.2
variable {Φ ρ}
theorem z9h (x : Option D) : Ok (q3c x) x := fun os cs r h t => by
 cases x with
 | none => cases h
 | some d => cases h; exact ⟨t, rfl⟩
theorem y4x (x : Option D) : Ok (fun _ _ => none) x := fun os cs r h t => by cases h
theorem y9u (x : Option D) : Ok (cask x) x := fun os cs r h t => by
 match os, x, h with
 | some d :: os, x, h => cases h; exact ⟨t.2, t.1⟩
 | none :: os, some d, h => cases h; exact ⟨t, rfl⟩
theorem z3q {A : List (Option D) -> QA -> CR} {F : D -> List (Option D) -> QA -> CR} {x : Option D} {f : D -> Option D} (a : Ok A x) (g : ∀ d, Ok (F d) (f d)) : Ok (z8f A F) (x.bind f) := fun os cs r h t => by
 unfold z8f at h
 cases e : A os cs with
 | none => rw [e] at h; cases h
 | some q =>
  rw [e] at h
  have z := g _ _ _ _ h t
  have y := a _ _ _ e z.1
  exact ⟨y.1, by rw [y.2]; exact z.2⟩
theorem Ok.eq {A : List (Option D) -> QA -> CR} {x y : Option D} (a : Ok A x) (h : x = y) : Ok A y := h ▸ a
theorem ok1 {e : ME} {A : List (Option D) -> QA -> CR} {x y : Option D} (a : Ok A x) (h : (x.bind fun d => ev Φ ρ e [d]) = y) : Ok (c1 Φ ρ e A) y := (z3q a fun d => y9u _).eq h
theorem ok2 {e : ME} {A B : List (Option D) -> QA -> CR} {x z y : Option D} (a : Ok A x) (b : Ok B z) (h : (x.bind fun d => z.bind fun q => ev Φ ρ e [d, q]) = y) : Ok (c2 Φ ρ e A B) y := (z3q a fun d => z3q b fun _ => y9u _).eq h
set_option tactic.hygienic true in
theorem cv_ok (e : ME) : ∀ κ, Ok (cv Φ ρ e κ) (ev Φ ρ e κ) := by
 induction e with
 | bin op a b ia ib => exact fun κ => ok2 (ia κ) (ib κ) (by dsimp only [ev]; cases ev Φ ρ a κ; rfl; cases ev Φ ρ b κ <;> first | rfl | (rename_i v; cases v <;> rfl))
 | cmp c a b ia ib => exact fun κ => ok2 (ia κ) (ib κ) (by dsimp only [ev]; cases ev Φ ρ a κ; rfl; cases ev Φ ρ b κ <;> first | rfl | (rename_i v; cases v <;> rfl))
 | max a b ia ib => exact fun κ => ok2 (ia κ) (ib κ) (by dsimp only [ev]; cases ev Φ ρ a κ; rfl; cases ev Φ ρ b κ <;> first | rfl | (rename_i v; cases v <;> rfl))
 | idx a b ia ib => exact fun κ => ok2 (ia κ) (ib κ) (by dsimp only [ev]; cases ev Φ ρ a κ; rfl; cases ev Φ ρ b κ <;> first | rfl | (rename_i v; cases v <;> rfl))
 | upTo a b ia ib => exact fun κ => ok2 (ia κ) (ib κ) (by dsimp only [ev]; cases ev Φ ρ a κ; rfl; cases ev Φ ρ b κ <;> first | rfl | (rename_i v; cases v <;> rfl))
 | fromA a b ia ib => exact fun κ => ok2 (ia κ) (ib κ) (by dsimp only [ev]; cases ev Φ ρ a κ; rfl; cases ev Φ ρ b κ <;> first | rfl | (rename_i v; cases v <;> rfl))
 | neg a ia => exact fun κ => ok1 (ia κ) (by dsimp only [ev]; cases ev Φ ρ a κ <;> rfl)
 | not a ia => exact fun κ => ok1 (ia κ) (by dsimp only [ev]; cases ev Φ ρ a κ <;> rfl)
 | abs a ia => exact fun κ => ok1 (ia κ) (by dsimp only [ev]; cases ev Φ ρ a κ <;> rfl)
 | len a ia => exact fun κ => ok1 (ia κ) (by dsimp only [ev]; cases ev Φ ρ a κ <;> rfl)
 | copy a ia => exact fun κ => ok1 (ia κ) (by dsimp only [ev]; cases ev Φ ρ a κ <;> rfl)
 | rev a ia => exact fun κ => ok1 (ia κ) (by dsimp only [ev]; cases ev Φ ρ a κ <;> rfl)
 | range a ia => exact fun κ => ok1 (ia κ) (by dsimp only [ev]; cases ev Φ ρ a κ <;> rfl)
 | down a ia => exact fun κ => ok1 (ia κ) (by dsimp only [ev]; cases ev Φ ρ a κ <;> rfl)
 | enum a ia => exact fun κ => ok1 (ia κ) (by dsimp only [ev]; cases ev Φ ρ a κ <;> rfl)
 | isN a ia => exact fun κ => ok1 (ia κ) (by dsimp only [ev]; cases ev Φ ρ a κ <;> rfl)
 | notN a ia => exact fun κ => ok1 (ia κ) (by dsimp only [ev]; cases ev Φ ρ a κ <;> rfl)
 | call k a ia => exact fun κ => ok1 (ia κ) (by dsimp only [ev]; cases ev Φ ρ a κ <;> rfl)
 | list a ia => exact fun κ => (z3q (ia κ) fun d => z9h _).eq (by dsimp only [ev]; cases ev Φ ρ a κ <;> rfl)
 | tup a ia => exact fun κ => (z3q (ia κ) fun d => z9h _).eq (by dsimp only [ev]; cases ev Φ ρ a κ <;> rfl)
 | cons a b ia ib => exact fun κ => (z3q (ia κ) fun d => z3q (ib κ) fun _ => z9h _).eq (by dsimp only [ev]; cases ev Φ ρ a κ; rfl; cases ev Φ ρ b κ <;> first | rfl | (rename_i v; cases v <;> rfl))
 | comp e n i c => exact fun κ => y9u _
 | int | none | bool | var | cvar | primes | nil => exact fun κ => z9h _
 | ite c a b ic ia ib =>
  exact fun κ => (z3q (f := fun x => match x with | .bool t => bif t then ev Φ ρ a κ else ev Φ ρ b κ | _ => none) (ic κ) fun x => by
   cases x with
   | bool t => cases t; exact ib κ; exact ia κ
   | _ => exact y4x _).eq (by dsimp only [ev]; rcases ev Φ ρ c κ with _ | _ | ⟨_ | _⟩ | _ | _ | _ <;> rfl)
 | and a b ia ib =>
  exact fun κ => (z3q (f := fun x => match x with | .bool t => bif t then (ev Φ ρ b κ).bind fun y => ev Φ ρ (.and (.bool true) (.cvar 0)) [y] else some (.bool false) | _ => none) (ia κ) fun x => by
   cases x with
   | bool t => cases t; exact z9h (some (.bool false)); exact z3q (f := fun y => ev Φ ρ (.and (.bool true) (.cvar 0)) [y]) (ib κ) fun y => z9h _
   | _ => exact y4x _).eq (by dsimp only [ev]; rcases ev Φ ρ a κ with _ | _ | ⟨_ | _⟩ | _ | _ | _ <;> first | rfl | (cases ev Φ ρ b κ <;> rfl))
 | or a b ia ib =>
  exact fun κ => (z3q (f := fun x => match x with | .bool t => bif t then some (.bool true) else (ev Φ ρ b κ).bind fun y => ev Φ ρ (.or (.bool false) (.cvar 0)) [y] | _ => none) (ia κ) fun x => by
   cases x with
   | bool t => cases t; exact z3q (f := fun y => ev Φ ρ (.or (.bool false) (.cvar 0)) [y]) (ib κ) fun y => z9h _; exact z9h (some (.bool true))
   | _ => exact y4x _).eq (by dsimp only [ev]; rcases ev Φ ρ a κ with _ | _ | ⟨_ | _⟩ | _ | _ | _ <;> first | rfl | (cases ev Φ ρ b κ <;> rfl))
theorem cvo {e : ME} {κ : List D} {v : D} {cs : QA} (m : List Bool) (hs : q3i cs) (h : cv Φ ρ e κ (mko m cs.reverse) [] = some (cs, [], v)) : ev Φ ρ e κ = some v := (cv_ok e κ _ _ _ h hs).2
section
variable {x y z n : Int} {b : Bool} {d u v : D} {l k : List Int} {ds : List D}
theorem z3z (h1 : small x = true) (h2 : small y = true) : ev Φ ρ (.bin .mul (.cvar 0) (.cvar 1)) [.int x, .int y] = some (.int (x * y)) := by
 show Option.map D.int (if small x && small y then some (x * y) else none) = _
 rw [h1, h2]; rfl
theorem y5w (h1 : y ≠ 0) (h : x.fmod y = z) : ev Φ ρ (.bin .mod (.cvar 0) (.cvar 1)) [.int x, .int y] = some (.int z) := by
 show Option.map D.int (if y != 0 then some (x.fmod y) else none) = _
 rw [if_pos (bne_iff_ne.mpr h1), h]; rfl
theorem z4a (h1 : y ≠ 0) (h2 : 0 <= y) : ev Φ ρ (.bin .mod (.cvar 0) (.cvar 1)) [.int x, .int y] = some (.int (x % y)) := y5w h1 (Int.fmod_eq_emod_of_nonneg _ h2)
theorem y5y (h1 : y ≠ 0) (h2 : small y = true) (h : x.fdiv y = z) : ev Φ ρ (.bin .fdiv (.cvar 0) (.cvar 1)) [.int x, .int y] = some (.int z) := by
 show Option.map D.int (if y != 0 && small y then some (x.fdiv y) else none) = _
 rw [if_pos (by rw [bne_iff_ne.mpr h1, h2]; rfl), h]; rfl
theorem v_div (h1 : y ≠ 0) (h2 : small y = true) (h3 : 0 <= y) : ev Φ ρ (.bin .fdiv (.cvar 0) (.cvar 1)) [.int x, .int y] = some (.int (x / y)) := y5y h1 h2 (Int.fdiv_eq_ediv_of_nonneg _ h3)
theorem v_bin {op : Op} (h : y3f op u v = some d) : ev Φ ρ (.bin op (.cvar 0) (.cvar 1)) [u, v] = some d := h
theorem y5z {op : Op} (h : z9b op x y = some z) : ev Φ ρ (.bin op (.cvar 0) (.cvar 1)) [.int x, .int y] = some (.int z) := congrArg (Option.map D.int) h
theorem y8s (h : l.length + k.length <= LEN) : ev Φ ρ (.bin .add (.cvar 0) (.cvar 1)) [li l, li k] = some (li (l ++ k)) := by
 show (if (Op.add == .add && decide ((l.map D.int).length + (k.map D.int).length <= LEN)) = true then some (D.list (l.map D.int ++ k.map D.int)) else none) = _
 rw [List.length_map, List.length_map, if_pos (by rw [decide_eq_true h]; rfl), <- List.map_append]; rfl
theorem y8q (h1 : -1000000 <= n) (h2 : n <= 1000000) : ev Φ ρ (.bin .mul (.cvar 0) (.cvar 1)) [.list [.int z], .int n] = some (li (List.replicate n.toNat z)) := by
 show (if (Op.mul == .mul && decide (-1000000 <= n) && decide (n <= 1000000)) = true then some (D.list (List.replicate n.toNat (D.int z))) else none) = _
 rw [if_pos (by rw [decide_eq_true h1, decide_eq_true h2]; rfl), <- List.map_replicate]; rfl
theorem z8i {c : Cm} (h : y5o c u v = some b) : ev Φ ρ (.cmp c (.cvar 0) (.cvar 1)) [u, v] = some (.bool b) := congrArg (Option.map D.bool) h
theorem v_ltT (h : x < y) : ev Φ ρ (.cmp .lt (.cvar 0) (.cvar 1)) [.int x, .int y] = some (.bool true) := z8i (congrArg some (decide_eq_true h))
theorem q4t (h : ¬ x < y) : ev Φ ρ (.cmp .lt (.cvar 0) (.cvar 1)) [.int x, .int y] = some (.bool false) := z8i (congrArg some (decide_eq_false h))
theorem v_leT (h : x <= y) : ev Φ ρ (.cmp .le (.cvar 0) (.cvar 1)) [.int x, .int y] = some (.bool true) := z8i (congrArg some (decide_eq_true h))
theorem v_leF (h : ¬ x <= y) : ev Φ ρ (.cmp .le (.cvar 0) (.cvar 1)) [.int x, .int y] = some (.bool false) := z8i (congrArg some (decide_eq_false h))
theorem z5z (h : y < x) : ev Φ ρ (.cmp .gt (.cvar 0) (.cvar 1)) [.int x, .int y] = some (.bool true) := z8i (congrArg some (decide_eq_true h))
theorem y7m (h : ¬ y < x) : ev Φ ρ (.cmp .gt (.cvar 0) (.cvar 1)) [.int x, .int y] = some (.bool false) := z8i (congrArg some (decide_eq_false h))
theorem y8r (h : y <= x) : ev Φ ρ (.cmp .ge (.cvar 0) (.cvar 1)) [.int x, .int y] = some (.bool true) := z8i (congrArg some (decide_eq_true h))
theorem q1s (h : ¬ y <= x) : ev Φ ρ (.cmp .ge (.cvar 0) (.cvar 1)) [.int x, .int y] = some (.bool false) := z8i (congrArg some (decide_eq_false h))
theorem y0c (h : (x == y) = b) : ev Φ ρ (.cmp .eq (.cvar 0) (.cvar 1)) [.int x, .int y] = some (.bool b) := z8i (congrArg some h)
theorem v_neB (h : (x == y) = b) : ev Φ ρ (.cmp .ne (.cvar 0) (.cvar 1)) [.int x, .int y] = some (.bool !b) := z8i (congrArg (fun b => some !b) h)
theorem y7n (h : x = y) : ev Φ ρ (.cmp .eq (.cvar 0) (.cvar 1)) [.int x, .int y] = some (.bool true) := y0c (beq_iff_eq.mpr h)
theorem y2c (h : ¬ x = y) : ev Φ ρ (.cmp .eq (.cvar 0) (.cvar 1)) [.int x, .int y] = some (.bool false) := y0c (beq_eq_false_iff_ne.mpr h)
theorem y1h (h : ¬ x = y) : ev Φ ρ (.cmp .ne (.cvar 0) (.cvar 1)) [.int x, .int y] = some (.bool true) := v_neB (beq_eq_false_iff_ne.mpr h)
theorem y7l (h : x = y) : ev Φ ρ (.cmp .ne (.cvar 0) (.cvar 1)) [.int x, .int y] = some (.bool false) := v_neB (beq_iff_eq.mpr h)
theorem z2i (h : z9x ds x = some d) : ev Φ ρ (.idx (.cvar 0) (.cvar 1)) [.list ds, .int x] = some d := h
theorem z0h : ev Φ ρ (.len (.cvar 0)) [li l] = some (.int l.length) := congrArg (fun n : Nat => some (D.int n)) (List.length_map _)
theorem v_rev : ev Φ ρ (.rev (.cvar 0)) [li l] = some (li l.reverse) := congrArg (fun l => some (D.list l)) List.map_reverse.symm
theorem v_up (h : 0 <= n) : ev Φ ρ (.upTo (.cvar 0) (.cvar 1)) [li l, .int n] = some (li (l.take n.toNat)) := by
 show (if 0 <= n then some (D.list ((l.map D.int).take n.toNat)) else none) = _
 rw [if_pos h, <- List.map_take]; rfl
theorem v_from (h : 0 <= n) : ev Φ ρ (.fromA (.cvar 0) (.cvar 1)) [li l, .int n] = some (li (l.drop n.toNat)) := by
 show (if 0 <= n then some (D.list ((l.map D.int).drop n.toNat)) else none) = _
 rw [if_pos h, <- List.map_drop]; rfl
theorem q4r (h : -1000000 <= n /\ n <= 1000000) : ev Φ ρ (.range (.cvar 0)) [.int n] = some (.list (z2n n.toNat)) := if_pos h
theorem v_down (h : -1000000 <= n /\ n <= 1000000) : ev Φ ρ (.down (.cvar 0)) [.int n] = some (.list (z7c (n + 1).toNat)) := if_pos h
theorem z0c {j : Nat} (h : Φ j ds = some d) : ev Φ ρ (.call j (.cvar 0)) [.tup ds] = some d := h
theorem v_maxT (h : x < y) : ev Φ ρ (.max (.cvar 0) (.cvar 1)) [.int x, .int y] = some (.int y) := congrArg (fun z => some (D.int z)) (if_pos h)
theorem v_maxF (h : ¬ x < y) : ev Φ ρ (.max (.cvar 0) (.cvar 1)) [.int x, .int y] = some (.int x) := congrArg (fun z => some (D.int z)) (if_neg h)
variable {N j : Nat} {e i : ME}
theorem y5x (h : (if y > x then y else x) = z) : ev Φ ρ (.max (.cvar 0) (.cvar 1)) [.int x, .int y] = some (.int z) := congrArg (fun z => some (D.int z)) h
theorem v_pow (h1 : x.natAbs < 2 ^ 64) (h2 : 0 <= n) (h3 : n <= 1000) : ev Φ ρ (.bin .pow (.cvar 0) (.cvar 1)) [.int x, .int n] = some (.int (x ^ n.toNat)) := by
 show Option.map D.int (if (decide (x.natAbs < 2 ^ 64) && decide (0 <= n) && decide (n <= 1000)) = true then some (x ^ n.toNat) else none) = _
 rw [if_pos (by rw [decide_eq_true h1, decide_eq_true h2, decide_eq_true h3]; rfl)]; rfl
theorem q4u {m : Nat} (h : -1000000 <= n /\ n <= 1000000) (e : (n + 1).toNat = m) : ev Φ ρ (.down (.cvar 0)) [.int n] = some (.list (z7c m)) := e ▸ v_down h
theorem q1r {m : Nat} (h : -1000000 <= n /\ n <= 1000000) (e : n.toNat = m) : ev Φ ρ (.range (.cvar 0)) [.int n] = some (.list (z2n m)) := e ▸ q4r h
theorem v_upI {m : Nat} (h : 0 <= n) (e : n.toNat = m) : ev Φ ρ (.upTo (.cvar 0) (.cvar 1)) [li l, .int n] = some (li (l.take m)) := e ▸ v_up h
theorem y0q {κ : List D} {e i c : ME} {n : Nat} {x : D} {k l : List D} (h : ev Φ ρ i κ = some x) (hs : z7d x = some k) (hc : z3n (z0u n (n != 1)) (fun ks => ev Φ ρ c ks) (fun ks => ev Φ ρ e ks) k = some l) : ev Φ ρ (.comp e n i c) κ = some (.list l) := by
 simp only [ev, h, hs, hc]
theorem q3k {m : Nat} (h : -1000000 <= n /\ n <= 1000000) (e : n.toNat = m) : ev Φ ρ (.bin .mul (.cvar 0) (.cvar 1)) [.list [.int z], .int n] = some (li (List.replicate m z)) := e ▸ y8q h.1 h.2
theorem q3t (h : ev Φ ρ e [] = some .none) : xs Φ N (.ex e) ρ = some (.next, ρ) := by simp only [xs, h]
theorem y2o (he : ev Φ ρ e [] = some (.int z)) (hx : ρ[j]? = some (some (li l))) (hi : ev Φ ρ i [] = some (.int n)) (h0 : 0 <= n) (h1 : n < l.length) : xs Φ N (.put j i e) ρ = some (.next, ρ.set j (some (li (l.set n.toNat z)))) := by
 simp only [xs, he, hx, hi, li, List.length_map, if_pos (And.intro h0 h1), List.map_set]
theorem q0b (he : ev Φ ρ e [] = some d) (hx : ρ[j]? = some (some (.list ds))) (h0 : ds.length < LEN) : xs Φ N (.app j e) ρ = some (.next, ρ.set j (some (.list (ds ++ [d])))) := by
 simp only [xs, he, hx, if_pos h0]
theorem q2q (he : ev Φ ρ e [] = some (.int z)) (hx : ρ[j]? = some (some (li l))) (h0 : l.length < LEN) : xs Φ N (.app j e) ρ = some (.next, ρ.set j (some (li (l ++ [z])))) := by
 simp only [xs, he, hx, li, List.length_map, if_pos h0, List.map_append, List.map_cons, List.map_nil]
theorem q2p {R : List (List Int)} (he : ev Φ ρ e [] = some (li l)) (hx : ρ[j]? = some (some (.list (R.map li)))) (h0 : R.length < LEN) : xs Φ N (.app j e) ρ = some (.next, ρ.set j (some (.list ((R ++ [l]).map li)))) :=
 (q0b he hx (by rw [List.length_map]; exact h0)).trans (by rw [List.map_append]; rfl)
theorem mxs_add (he : ev Φ ρ e [] = some (.int z)) (hx : ρ[j]? = some (some (.int x))) : xs Φ N (.aug .add j e) ρ = some (.next, ρ.set j (some (.int (x + z)))) := by
 simp only [xs, he, hx]
theorem q0a (he : ev Φ ρ e [] = some (.int z)) (hx : ρ[j]? = some (some (.int x))) : xs Φ N (.aug .sub j e) ρ = some (.next, ρ.set j (some (.int (x - z)))) := by
 simp only [xs, he, hx]
end
end
end Mine
end
section
namespace Mine
noncomputable def pe : List Int -> Int -> Int
 | [], _ => 0
 | c :: r, x => c + x * pe r x
noncomputable def co (l : List Int) (i : Nat) : Int := l.getD i 0
noncomputable def z3m : List Int -> List Int -> List Int
 | [], b => b
 | a :: r, [] => a :: r
 | a :: r, b :: s => (a + b) :: z3m r s
noncomputable def psc (k : Int) (l : List Int) : List Int := l.map (k * ·)
noncomputable def psh (n : Nat) (l : List Int) : List Int := List.replicate n 0 ++ l
noncomputable def z0j : List Int -> List Int -> List Int
 | [], _ => []
 | a :: r, b => z3m (psc a b) (0 :: z0j r b)
theorem z2c (x : Int) : ∀ a b : List Int, pe (z3m a b) x = pe a x + pe b x
 | [], b => by simp [z3m, pe]
 | a :: r, [] => by simp [z3m, pe]
 | a :: r, b :: s => by simp only [z3m, pe, z2c x r s]; exact r0
theorem z0n (k x : Int) : ∀ a : List Int, pe (psc k a) x = k * pe a x
 | [] => by simp [psc, pe]
 | a :: r => by
  have := z0n k x r
  simp only [psc] at this
  simp only [psc, List.map_cons, pe, this]; exact r1
theorem z7e (x : Int) (a : List Int) : ∀ n : Nat, pe (psh n a) x = x ^ n * pe a x
 | 0 => by simp [psh]
 | n + 1 => by
  have := z7e x a n
  simp only [psh] at this
  simp only [psh, List.replicate_succ, List.cons_append, pe, this, Int.pow_succ]; exact r2
theorem z0m (x : Int) : ∀ a b : List Int, pe (z0j a b) x = pe a x * pe b x
 | [], b => by simp [z0j, pe]
 | a :: r, b => by simp only [z0j, z2c, z0n, pe, z0m x r b]; exact r3
theorem y0l (x : Int) (b : List Int) : ∀ a : List Int, pe (a ++ b) x = pe a x + x ^ a.length * pe b x
 | [] => by simp [pe]
 | a :: r => by simp only [List.cons_append, pe, y0l x b r, List.length_cons, Int.pow_succ]; exact r4
theorem z2g (i : Nat) : ∀ a b : List Int, co (z3m a b) i = co a i + co b i := by
 intro a
 induction a generalizing i with
 | nil => intro b; simp [z3m, co]
 | cons a r ih =>
  intro b
  cases b with
  | nil => simp [z3m, co]
  | cons b s =>
   cases i with
   | zero => simp [z3m, co]
   | succ i => simpa [z3m, co] using ih i s
theorem z0p (k : Int) (i : Nat) (a : List Int) : co (psc k a) i = k * co a i := by
 simp only [co, psc, List.getD_eq_getElem?_getD, List.getElem?_map]
 cases a[i]? <;> simp
theorem z0y {l : List Int} {i : Nat} (h : l.length <= i) : co l i = 0 := by
 simp [co, List.getElem?_eq_none h]
theorem z0s (c : Int) (r : List Int) (i : Nat) : co (c :: r) (i + 1) = co r i := by simp [co]
theorem z0x (c : Int) (r : List Int) : co (c :: r) 0 = c := by simp [co]
theorem z9q {l : List Int} {i : Nat} (h : i < l.length) : co l i = l[i] := by simp [co, h]
theorem y1q : ∀ (l : List Int) (K : Int), (∀ x, K <= x -> pe l x = 0) -> ∀ c ∈ l, c = 0
 | [], _, _ => by simp
 | c :: r, K, h => by
  have h0 : c = 0 := by
   obtain ⟨y, hy, hy1, hy2⟩ : ∃ y : Int, K <= y /\ 1 <= y /\ (c.natAbs : Int) < y := ⟨max K (max 1 (c.natAbs + 1)), by exact o32, by exact o33, by exact o34⟩
   have e := h y hy
   simp only [pe] at e
   have hd : y ∣ c := ⟨- pe r y, by rw [Int.mul_neg]; exact o35 e⟩
   exact Int.eq_zero_of_dvd_of_natAbs_lt_natAbs hd (by exact o36 hy2)
  have ih := y1q r (max K 1) fun x hx => by
   have e := h x (by exact o37 hx)
   simp only [pe, h0, Int.zero_add] at e
   rcases Int.mul_eq_zero.mp e with q | q
   ·exact o38 hx q
   ·exact q
  intro z hz
  rcases List.mem_cons.mp hz with q | q
  ·rw [q, h0]
  ·exact ih z q
theorem z5t {a b : List Int} (h : ∀ x, pe a x = pe b x) (i : Nat) : co a i = co b i := by
 have z := y1q (z3m a (psc (-1) b)) 0 fun x _ => by rw [z2c, z0n, h]; exact o39
 have e : co (z3m a (psc (-1) b)) i = 0 := by
  by_cases hi : i < (z3m a (psc (-1) b)).length
  ·rw [z9q hi]; exact z _ (List.getElem_mem hi)
  ·exact z0y (by exact Nat.not_lt.mp hi)
 rw [z2g, z0p] at e
 exact o40 e
theorem z8v {a b k : List Int} {p : Int} (h : ∀ x, pe a x = pe b x + p * pe k x) (i : Nat) : co a i = co b i + p * co k i := by
 have := z5t (a := a) (b := z3m b (psc p k)) (fun x => by rw [z2c, z0n, h]) i
 rwa [z2g, z0p] at this
theorem z2d {a b : List Int} (hl : a.length = b.length) (h : ∀ i, co a i = co b i) : a = b := by
 refine List.ext_getElem hl fun i h1 h2 => ?_
 have := h i
 rwa [z9q h1, z9q h2] at this
theorem z6s (a : Int) (r b : List Int) (n : Nat) : co (z0j (a :: r) b) (n + 1) = a * co b (n + 1) + co (z0j r b) n := by
 rw [z0j, z2g, z0p, z0s]
theorem z9p (a : Int) (r b : List Int) : co (z0j (a :: r) b) 0 = a * co b 0 := by
 rw [z0j, z2g, z0p, z0x]; exact o41
theorem z4j : ∀ (a b : List Int) (m n : Nat), a.length = m + 1 -> b.length = n + 1 -> co (z0j a b) (m + n) = co a m * co b n
 | [], _, _, _, h, _ => by simp at h
 | [c], b, m, n, h, hb => by
  simp at h; subst h
  cases n with
  | zero => rw [Nat.zero_add, z9p, z0x]
  | succ n =>
   rw [Nat.zero_add, z6s, z0x]
   have : co (z0j [] b) n = 0 := z0y (by simp [z0j])
   exact o42 this
 | c :: d :: r, b, m, n, h, hb => by
  obtain ⟨m', rfl⟩ : ∃ m', m = m' + 1 := ⟨r.length, by simp at h; exact o43 h⟩
  have ih := z4j (d :: r) b m' n (by simpa using h) hb
  rw [show m' + 1 + n = (m' + n) + 1 by exact o44, z6s, ih, z0s, z0y (l := b) (by exact o45 hb)]
  exact o46
theorem z2e : ∀ a b : List Int, (z3m a b).length = max a.length b.length
 | [], b => by simp [z3m]
 | a :: r, [] => by simp [z3m]
 | a :: r, b :: s => by simp [z3m, z2e r s]
theorem z5k : ∀ (a b : List Int) (m n : Nat), a.length = m + 1 -> b.length = n + 1 -> (z0j a b).length = m + n + 1
 | [], _, _, _, h, _ => by simp at h
 | [c], b, m, n, h, hb => by
  simp at h; subst h
  simp [z0j, z2e, psc, hb]
 | c :: d :: r, b, m, n, h, hb => by
  obtain ⟨m', rfl⟩ : ∃ m', m = m' + 1 := ⟨r.length, by simp at h; exact o43 h⟩
  have ih := z5k (d :: r) b m' n (by simpa using h) hb
  rw [z0j, z2e, List.length_cons, ih]
  simp [psc, hb]; exact o47
noncomputable def PP (p : Int) : Prop := ∀ a b : Int, p ∣ a * b -> p ∣ a \/ p ∣ b
theorem PP0 : PP 0 := fun a b h => by
 rw [Int.zero_dvd] at h
 rcases Int.mul_eq_zero.mp h with q | q
 ·left; rw [q]; exact Int.dvd_refl 0
 ·right; rw [q]; exact Int.dvd_refl 0
theorem y1n {p : Int} (pp : PP p) {d : List Int} {m : Nat} (hd : d.length = m + 1) (hl : ¬ p ∣ co d m) : ∀ (n : Nat) (q k l : List Int), q.length = n -> (∀ x, pe l x = pe d x * pe q x + p * pe k x) -> (∀ i, m <= i -> p ∣ co l i) -> ∀ i, p ∣ co l i := by
 intro n
 induction n with
 | zero =>
  intro q k l hq h _ i
  have : q = [] := by simpa using hq
  subst this
  have := z8v (a := l) (b := []) (k := k) (p := p) (fun x => by rw [h x]; simp [pe]) i
  rw [this]
  simp [co]
 | succ n ih =>
  intro q k l hq h hi i
  obtain ⟨q', c, rfl⟩ : ∃ q' c, q = q' ++ [c] := by
   refine ⟨q.dropLast, q.getLast (by intro e; rw [e] at hq; simp at hq), (List.dropLast_concat_getLast _).symm⟩
  have hq' : q'.length = n := by simpa using hq
  have e := z8v (a := l) (b := z0j d (q' ++ [c])) (k := k) (p := p) (fun x => by rw [h x, z0m]) (m + n)
  rw [z4j d (q' ++ [c]) m n hd (by simp [hq'])] at e
  have hc : co (q' ++ [c]) n = c := by simp [co, <- hq']
  rw [hc] at e
  have hdv : p ∣ co d m * c := by
   have h1 := hi (m + n) (by exact Nat.le_add_right _ _)
   have : co d m * c = co l (m + n) - p * co k (m + n) := by exact o48 e
   rw [this]
   exact Int.dvd_sub h1 (Int.dvd_mul_right _ _)
  have hpc : p ∣ c := (pp _ _ hdv).resolve_left hl
  obtain ⟨c', rfl⟩ := hpc
  refine ih q' (z3m k (z0j d (psh n [c']))) l hq' (fun x => ?_) hi i
  rw [h x, y0l, z2c, z0m, z7e, hq']
  simp only [pe]; exact r5
noncomputable def Pol (F : Int -> Int) : Prop := ∃ l : List Int, ∀ x, F x = pe l x
theorem Pol.pe (l : List Int) : Pol (pe l) := ⟨l, fun _ => rfl⟩
theorem Pol.const (c : Int) : Pol (fun _ => c) := ⟨[c], fun x => by simp [Mine.pe]⟩
theorem Pol.add {F G : Int -> Int} (f : Pol F) (g : Pol G) : Pol (fun x => F x + G x) := by
 obtain ⟨a, ha⟩ := f; obtain ⟨b, hb⟩ := g
 exact ⟨z3m a b, fun x => by simp only [z2c, ha, hb]⟩
theorem Pol.mul {F G : Int -> Int} (f : Pol F) (g : Pol G) : Pol (fun x => F x * G x) := by
 obtain ⟨a, ha⟩ := f; obtain ⟨b, hb⟩ := g
 exact ⟨z0j a b, fun x => by simp only [z0m, ha, hb]⟩
theorem Pol.smul {F : Int -> Int} (c : Int) (f : Pol F) : Pol (fun x => c * F x) := by
 obtain ⟨a, ha⟩ := f
 exact ⟨psc c a, fun x => by simp only [z0n, ha]⟩
theorem Pol.neg {F : Int -> Int} (f : Pol F) : Pol (fun x => - F x) := by
 obtain ⟨a, ha⟩ := f
 exact ⟨psc (-1) a, fun x => by simp only [z0n, ha]; exact o49⟩
theorem Pol.sub {F G : Int -> Int} (f : Pol F) (g : Pol G) : Pol (fun x => F x - G x) := by
 obtain ⟨a, ha⟩ := f; obtain ⟨b, hb⟩ := g
 exact ⟨z3m a (psc (-1) b), fun x => by simp only [z2c, z0n, ha, hb]; exact o50⟩
theorem Pol.pow (n : Nat) : Pol (fun x => x ^ n) := ⟨psh n [1], fun x => by rw [z7e]; simp [Mine.pe]⟩
end Mine
end
section
namespace Mine
@[reducible] noncomputable def z3y := List (Option D)
noncomputable def z0d (Φ : Nat -> List D -> Option D) (N : Nat) (s : MS) (ρ : z3y) (Q : D -> Prop) : Prop := ∃ v ρ', xs Φ N s ρ = some (.ret v, ρ') /\ Q v
noncomputable def z0e (Φ : Nat -> List D -> Option D) (N : Nat) (s : MS) (ρ : z3y) (P : z3y -> Prop) : Prop := ∃ ρ', xs Φ N s ρ = some (.next, ρ') /\ P ρ'
noncomputable def z3p (n k : Nat) (ds : List D) (Q : D -> Prop) : Prop := ∃ v, phi prog n k ds = some v /\ Q v
section
variable {Φ : Nat -> List D -> Option D} {N : Nat} {s r t b : MS} {c e : ME} {ρ ρ1 : z3y} {Q : D -> Prop} {P : z3y -> Prop}
theorem z0d.seq (h : xs Φ N s ρ = some (.next, ρ1)) (k : z0d Φ N r ρ1 Q) : z0d Φ N (.seq s r) ρ Q := by
 obtain ⟨v, ρ', e, q⟩ := k
 exact ⟨v, ρ', by simp only [xs, h, e], q⟩
theorem z0d.seqP (h : z0e Φ N s ρ P) (k : ∀ ρ1, P ρ1 -> z0d Φ N r ρ1 Q) : z0d Φ N (.seq s r) ρ Q := by
 obtain ⟨ρ1, e, p⟩ := h
 exact z0d.seq e (k ρ1 p)
theorem z0d.here (h : z0d Φ N s ρ Q) : z0d Φ N (.seq s r) ρ Q := by
 obtain ⟨v, ρ', e, q⟩ := h
 exact ⟨v, ρ', by simp only [xs, e], q⟩
theorem z0d.ret {v : D} (h : ev Φ ρ e [] = some v) (q : Q v) : z0d Φ N (.ret e) ρ Q := ⟨v, ρ, by simp only [xs, h], q⟩
theorem z0d.iteT (h : ev Φ ρ c [] = some (.bool true)) (k : z0d Φ N t ρ Q) : z0d Φ N (.ifs c t b) ρ Q := by
 obtain ⟨v, ρ', e, q⟩ := k
 exact ⟨v, ρ', by simp only [xs, h, z7r, e], q⟩
theorem z0d.iteF (h : ev Φ ρ c [] = some (.bool false)) (k : z0d Φ N b ρ Q) : z0d Φ N (.ifs c t b) ρ Q := by
 obtain ⟨v, ρ', e, q⟩ := k
 exact ⟨v, ρ', by simp only [xs, h, z7r, e], q⟩
theorem z7s {out : Option (Fl × z3y)} (h : ev Φ ρ c [] = some (.bool true)) (k : xs Φ N t ρ = out) : xs Φ N (.ifs c t b) ρ = out := by simp only [xs, h, z7r, k]
theorem z1o {out : Option (Fl × z3y)} (h : ev Φ ρ c [] = some (.bool false)) (k : xs Φ N b ρ = out) : xs Φ N (.ifs c t b) ρ = out := by simp only [xs, h, z7r, k]
theorem z0q {out : Option (Fl × z3y)} (h : xs Φ N s ρ = some (.next, ρ1)) (k : xs Φ N r ρ1 = out) : xs Φ N (.seq s r) ρ = out := by simp only [xs, h, k]
theorem z0l : xs Φ N .skip ρ = some (.next, ρ) := rfl
theorem z0g {x : Nat} {d : D} (h : ev Φ ρ e [] = some d) : xs Φ N (.asg x e) ρ = some (.next, ρ.set x (some d)) := by simp only [xs, h]
theorem z0w {ts : List Nat} {ds : List D} (h : ev Φ ρ e [] = some (.tup ds)) (k : z2t ts ds ρ = some ρ1) : xs Φ N (.asgT ts e) ρ = some (.next, ρ1) := by simp only [xs, h, k]
theorem z0e.seq (h : xs Φ N s ρ = some (.next, ρ1)) (k : z0e Φ N r ρ1 P) : z0e Φ N (.seq s r) ρ P := by
 obtain ⟨ρ', e, q⟩ := k
 exact ⟨ρ', by simp only [xs, h, e], q⟩
theorem z0e.seqP {P' : z3y -> Prop} (h : z0e Φ N s ρ P') (k : ∀ ρ1, P' ρ1 -> z0e Φ N r ρ1 P) : z0e Φ N (.seq s r) ρ P := by
 obtain ⟨ρ1, e, p⟩ := h
 exact z0e.seq e (k ρ1 p)
theorem z0e.skip (p : P ρ) : z0e Φ N .skip ρ P := ⟨ρ, rfl, p⟩
theorem z0e.of (h : xs Φ N s ρ = some (.next, ρ1)) (p : P ρ1) : z0e Φ N s ρ P := ⟨ρ1, h, p⟩
theorem y8c {test : z3y -> Option Bool} {body : z3y -> Option (Fl × z3y)} (I : Nat -> z3y -> Prop)
  (step : ∀ k ρ, I k ρ -> (test ρ = some false /\ P ρ) \/ (test ρ = some true /\ E2 fun ρ' k' => A3 (body ρ = some (.next, ρ')) (k' < k) (I k' ρ'))) : ∀ k N ρ, k < N -> I k ρ -> ∃ ρ', z7p test body N ρ = some (.next, ρ') /\ P ρ' := by
 intro k
 induction k using Nat.strongRecOn with
 | _ k ih =>
  intro N ρ hN h
  cases N with
  | zero => exact absurd hN (Nat.not_lt_zero _)
  | succ N =>
   rcases step k ρ h with ⟨e, p⟩ | ⟨e, ρ', k', e2, hk, h'⟩
   ·exact ⟨ρ, by simp only [z7p, e], p⟩
   ·obtain ⟨ρ2, e3, p⟩ := ih k' hk N ρ' (by exact o278 hN hk) h'
    exact ⟨ρ2, by simp only [z7p, e, e2, e3], p⟩
theorem z0e.whl (I : Nat -> z3y -> Prop) (k : Nat) (h0 : I k ρ) (hk : k < N)
  (step : ∀ k ρ, I k ρ -> (ev Φ ρ c [] = some (.bool false) /\ P ρ) \/ (ev Φ ρ c [] = some (.bool true) /\ z0e Φ N b ρ fun ρ' => ∃ k', k' < k /\ I k' ρ')) : z0e Φ N (.whl c b) ρ P := by
 obtain ⟨ρ', e, p⟩ := y8c (P := P) (test := fun ρ => z7r (ev Φ ρ c [])) (body := fun ρ => xs Φ N b ρ) I (fun k ρ h => by
  rcases step k ρ h with ⟨e, p⟩ | ⟨e, ρ', e2, k', hk', h'⟩
  ·exact .inl ⟨by rw [e]; rfl, p⟩
  ·exact .inr ⟨by rw [e]; rfl, ρ', k', e2, hk', h'⟩) k N ρ hk h0
 exact ⟨ρ', by simp only [xs, e], p⟩
theorem q0h {test : z3y -> Option Bool} {body : z3y -> Option (Fl × z3y)} (I : Nat -> z3y -> Prop) (P : Fl -> z3y -> Prop)
  (step : ∀ k ρ, I k ρ -> (test ρ = some false /\ P .next ρ) \/ (test ρ = some true /\ ∃ fl ρ', body ρ = some (fl, ρ') /\ ((∃ d, fl = .ret d /\ P fl ρ') \/ (fl = .next /\ ∃ k', k' < k /\ I k' ρ')))) : ∀ k N ρ, k < N -> I k ρ -> ∃ fl ρ', z7p test body N ρ = some (fl, ρ') /\ P fl ρ' := by
 intro k
 induction k using Nat.strongRecOn with
 | _ k ih =>
  intro N ρ hN h
  cases N with
  | zero => exact absurd hN (Nat.not_lt_zero _)
  | succ N =>
   rcases step k ρ h with ⟨e, p⟩ | ⟨e, fl, ρ', e2, ⟨d, rfl, p⟩ | ⟨rfl, k', hk, h'⟩⟩
   ·exact ⟨.next, ρ, by simp only [z7p, e], p⟩
   ·exact ⟨.ret d, ρ', by simp only [z7p, e, e2], p⟩
   ·obtain ⟨fl, ρ2, e3, p⟩ := ih k' hk N ρ' (by exact o278 hN hk) h'
    exact ⟨fl, ρ2, by simp only [z7p, e, e2, e3], p⟩
theorem y1s {bind : D -> z3y -> Option z3y} {body : z3y -> Option (Fl × z3y)} (I : Nat -> z3y -> Prop) : ∀ (items : List D) (j : Nat) (ρ : z3y),
  (∀ i d ρ, items[i]? = some d -> I (j + i) ρ -> E2 fun ρ₁ ρ₂ => A3 (bind d ρ = some ρ₁) (body ρ₁ = some (.next, ρ₂)) (I (j + i + 1) ρ₂)) -> I j ρ -> ∃ ρ', y2p bind body items ρ = some (.next, ρ') /\ I (j + items.length) ρ'
 | [], j, ρ, _, h => ⟨ρ, rfl, h⟩
 | d :: r, j, ρ, step, h => by
  obtain ⟨ρ₁, ρ₂, e1, e2, h2⟩ := step 0 d ρ rfl h
  obtain ⟨ρ', e3, h3⟩ := y1s I r (j + 1) ρ₂ (fun i d ρ hd hi => by
   have := step (i + 1) d ρ (by simpa using hd) (by rw [show j + (i + 1) = j + 1 + i by exact o99]; exact hi)
   rw [show j + (i + 1) + 1 = j + 1 + i + 1 by exact o279] at this
   exact this) h2
  exact ⟨ρ', by simp only [y2p, e1, e2, e3], by rw [show j + (d :: r).length = j + 1 + r.length by simp; exact o99]; exact h3⟩
theorem z0e.fors {ts : List Nat} {tt : Bool} {it : ME} {x : D} {items : List D} (I : Nat -> z3y -> Prop) (hv : ev Φ ρ it [] = some x) (hs : z7d x = some items) (h0 : I 0 ρ)
  (step : ∀ i d ρ, items[i]? = some d -> I i ρ -> ∃ ρ₁, z2k ts tt d ρ = some ρ₁ /\ z0e Φ N b ρ₁ (I (i + 1))) : z0e Φ N (.fors ts tt it b) ρ (I items.length) := by
 obtain ⟨ρ', e, h⟩ := y1s (bind := z2k ts tt) (body := fun ρ => xs Φ N b ρ) I items 0 ρ (fun i d ρ hd hi => by
  rw [Nat.zero_add] at hi ⊢
  obtain ⟨ρ₁, e1, ρ₂, e2, h2⟩ := step i d ρ hd hi
  exact ⟨ρ₁, ρ₂, e1, e2, h2⟩) h0
 rw [Nat.zero_add] at h
 exact ⟨ρ', by simp only [xs, hv, hs, e], h⟩
end
theorem z8u {n k : Nat} {d : MD} {ds : List D} {Q : D -> Prop} (hk : prog[k]? = some d) (hl : ds.length = d.npar) (h : z0d (phi prog n) z5y d.body (ds.map some ++ List.replicate (d.slots.length - d.npar) none) Q) : z3p (n + 1) k ds Q := by
 obtain ⟨v, ρ', e, q⟩ := h
 exact ⟨v, by simp only [phi, hk, y2f, if_pos hl, e], q⟩
theorem z0f {n k : Nat} {d : MD} {ds : List D} {Q : D -> Prop} {ρ0 : z3y} (hk : prog[k]? = some d) (hl : ds.length = d.npar) (hρ : ds.map some ++ List.replicate (d.slots.length - d.npar) none = ρ0) (h : z0d (phi prog n) z5y d.body ρ0 Q) : z3p (n + 1) k ds Q :=
 z8u hk hl (by rw [hρ]; exact h)
theorem q2j {n k : Nat} {d : MD} {ds : List D} {ρ' : z3y} (hk : prog[k]? = some d) (hl : ds.length = d.npar) (h : xs (phi prog n) z5y d.body (ds.map some ++ List.replicate (d.slots.length - d.npar) none) = some (.next, ρ')) : phi prog (n + 1) k ds = some .none := by
 simp only [phi, hk, y2f, if_pos hl, h]
theorem z3p.eq {n k : Nat} {ds : List D} {v : D} (h : z3p n k ds (· = v)) : phi prog n k ds = some v := by
 obtain ⟨w, e, rfl⟩ := h; exact e
theorem z8z {f : List D -> Option D} {g : D -> D} : ∀ {items : List D}, (∀ d ∈ items, f [d] = some (g d)) -> z3n (z0u 1 false) (fun _ => some (.bool true)) f items = some (items.map g)
 | [], _ => rfl
 | d :: r, h => by
  have ih := z8z (f := f) (g := g) (items := r) fun d hd => h d (List.mem_cons_of_mem _ hd)
  simp only [z3n, z0u, h d List.mem_cons_self, ih, List.map_cons]
theorem z3t : z5y = 1000000 := rfl
theorem q2d {x : Int} (h1 : -(2 ^ 1999 : Int) <= x) (h2 : x <= 2 ^ 1999) : small x = true := by
 have : BIG = 2 * 2 ^ 1999 := by decide +kernel
 simp only [small, decide_eq_true_eq, this]
 have h3 : (0 : Int) < 2 ^ 1999 := by decide +kernel
 have h4 : ((2 ^ 1999 : Nat) : Int) = 2 ^ 1999 := by decide +kernel
 exact o598 h1 h2 h4 h3
theorem z1k {x c : Int} (h1 : -c <= x) (h2 : x <= c) (hc : c <= 2 ^ 1999) : small x = true := q2d (Int.le_trans (Int.neg_le_neg hc) h1) (Int.le_trans h2 hc)
theorem y3l {x c : Int} (h1 : 0 <= x) (h2 : x <= c) (hc : c <= 2 ^ 1999) : small x = true := z1k (o599 h1 h2) h2 hc
noncomputable def gm (x y : Nat) : Nat := if y = 0 then 0 else (x * y).log2 + (if x < y then 2 else 1)
theorem q0i {m n : Nat} (hm : m ≠ 0) (h : m <= n) : m.log2 <= n.log2 := by
 rw [Nat.le_log2 (by exact o83 hm h)]
 exact Nat.le_trans (Nat.log2_self_le hm) h
theorem q6p {x y : Nat} (hy : y ≠ 0) : gm y (x % y) < gm x y := by
 unfold gm
 rw [if_neg hy]
 by_cases hr : x % y = 0
 ·rw [if_pos hr]; split <;> (first | exact o281 | exact o282)
 ·rw [if_neg hr]
  have h1 : x % y < y := Nat.mod_lt _ (by exact Nat.pos_of_ne_zero hy)
  rw [if_neg (by exact o283 h1)]
  by_cases hxy : x < y
  ·rw [if_pos hxy, Nat.mod_eq_of_lt hxy, Nat.mul_comm y x]; exact Nat.le_refl _
  ·rw [if_neg hxy]
   have h2 : 2 * (x % y) <= x := by
    have := Nat.div_add_mod x y
    have h3 : 1 <= x / y := Nat.div_pos (by exact Nat.not_lt.mp hxy) (by exact o284 hy)
    have h4 : y * 1 <= y * (x / y) := Nat.mul_le_mul_left _ h3
    exact o285 h4 this h1
   have h5 : y * (x % y) ≠ 0 := Nat.mul_ne_zero hy hr
   have h6 : 2 * (y * (x % y)) <= x * y := by
    have := Nat.mul_le_mul_left y h2
    rw [Nat.mul_comm x y, Nat.mul_left_comm]; exact this
   have := q0i (by exact o286 h5) h6
   rw [Nat.log2_two_mul h5] at this
   exact Nat.succ_le_succ this
theorem q6q {x y k : Nat} (hx : x < 2 ^ k) (hy : y < 2 ^ k) : gm x y <= 2 * k + 2 := by
 unfold gm
 split
 ·exact Nat.zero_le _
 ·by_cases h0 : x = 0
  ·subst h0
   simp
   split <;> (first | exact o287 | exact o288)
  ·have h : x * y < 2 ^ (2 * k) := by
    rw [Nat.two_mul, Nat.pow_add]
    exact Nat.mul_lt_mul'' hx hy
   have := (Nat.log2_lt (Nat.mul_ne_zero h0 (by assumption))).mpr h
   split <;> (first | exact o289 this | exact o290 this)
theorem y2n (n : Nat) (a b : Int) (ha : a.natAbs < 2 ^ 2000) (hb : b.natAbs < 2 ^ 2000) : phi prog (n + 1) 0 [.int a, .int b] = some (.int (Int.gcd a b)) := by
 refine z3p.eq (z8u (d := d_gcd) rfl rfl ?_)
 refine z0d.seq (ρ1 := [some (.int a.natAbs), some (.int b.natAbs)]) rfl ?_
 have hm := q6q ha hb
 refine z0d.seqP (P := fun ρ => ∃ x : Nat, ρ = [some (.int x), some (.int 0)] /\ x = Int.gcd a b) (z0e.whl (fun k ρ => E2 fun (x y : Nat) => A3 (ρ = [some (.int x), some (.int y)]) (Nat.gcd x y = Int.gcd a b) (gm x y = k)) (gm a.natAbs b.natAbs) ⟨_, _, rfl, rfl, rfl⟩ (by rw [z3t]; exact Nat.lt_of_le_of_lt hm (by decide)) ?_) ?_
 ·rintro k ρ ⟨x, y, rfl, hg, rfl⟩
  by_cases hy : y = 0
  ·subst hy
   exact .inl ⟨rfl, x, rfl, by simpa using hg⟩
  ·refine .inr ⟨?_, z0e.seq (ρ1 := [some (.int y), some (.int (x % y : Nat))]) ?_ (z0e.skip ⟨gm y (x % y), q6p hy, y, x % y, rfl, ?_, rfl⟩)⟩
   ·exact cvo [true] (.c (y1h (Int.natCast_ne_zero.mpr hy)) .n) rfl
   ·exact z0w (cvo [true] (.c (z4a (Int.natCast_ne_zero.mpr hy) (Int.natCast_nonneg _)) .n) rfl) rfl
   ·rw [<- hg, Nat.gcd_comm x y, Nat.gcd_rec y x, Nat.gcd_comm]
 ·rintro ρ ⟨x, rfl, hx⟩
  exact z0d.here (z0d.ret rfl (by rw [hx]))
noncomputable def SG (c s0 s1 r0 r1 : Int) : Prop := (0 <= s0 /\ s1 <= 0 /\ s0 * r1 - s1 * r0 = c) \/ (s0 <= 0 /\ 0 <= s1 /\ s1 * r0 - s0 * r1 = c)
theorem SG.step {c s0 s1 r0 r1 r2 q : Int} (h : SG c s0 s1 r0 r1) (hq : 0 <= q) (hr : r0 - q * r1 = r2) : SG c s1 (s0 - q * s1) r1 r2 := by
 subst hr
 rcases h with ⟨h1, h2, h3⟩ | ⟨h1, h2, h3⟩
 ·right
  have := Int.mul_nonneg hq (show 0 <= -s1 by exact o291 h2)
  refine ⟨h2, ?_, ?_⟩
  ·rw [Int.mul_neg] at this; exact o292 this h1
  ·exact r55 h3
 ·left
  have := Int.mul_nonneg hq h2
  refine ⟨h2, by exact o293 this h1, ?_⟩
  exact r56 h3
theorem SG.bound {c s0 s1 r0 r1 : Int} (h : SG c s0 s1 r0 r1) (h0 : 1 <= r0) (h1 : 0 <= r1) : -c <= s1 /\ s1 <= c := by
 rcases h with ⟨a, b, e⟩ | ⟨a, b, e⟩
 ·have z1 := Int.mul_nonneg a h1
  have z2 : 0 <= (-s1) * (r0 - 1) := Int.mul_nonneg (by exact o291 b) (by exact o294 h0)
  have z3 : (-s1) * (r0 - 1) = -(s1 * r0) + s1 := by exact r57
  constructor <;> (first | exact o295 z2 z1 e z3 | exact o296 z2 z1 e z3 b)
 ·have z1 : 0 <= (-s0) * r1 := Int.mul_nonneg (by exact o291 a) h1
  have z2 : 0 <= s1 * (r0 - 1) := Int.mul_nonneg b (by exact o294 h0)
  have z3 : s1 * (r0 - 1) = s1 * r0 - s1 := by exact r58
  have z4 : (-s0) * r1 = -(s0 * r1) := by exact r59
  constructor <;> (first | exact o297 z1 b z2 e z4 z3 | exact o298 z1 z2 e z4 z3)
@[irreducible] def BB : Int := 2 ^ 1900
theorem z3j {x : Int} (h1 : -BB <= x) (h2 : x <= BB) : small x = true := by
 have : BB <= 2 ^ 1999 := by decide +kernel
 exact z1k h1 h2 this
theorem z5v {x : Int} (h1 : -BB <= x) (h2 : x <= BB) : x.natAbs < 2 ^ 2000 := by
 have : BB < ((2 ^ 2000 : Nat) : Int) := by decide +kernel
 exact o600 h1 h2 this
theorem y1e : 1 <= BB := by decide +kernel
theorem z9i {x y : Int} (hx : 0 <= x) (hy : 0 <= y) : (x % y).natAbs = x.natAbs % y.natAbs := by
 obtain ⟨u, rfl⟩ := Int.eq_ofNat_of_zero_le hx
 obtain ⟨v, rfl⟩ := Int.eq_ofNat_of_zero_le hy
 exact congrArg Int.natAbs (Int.natCast_emod u v).symm
theorem y3y {x y : Int} (hx : 0 <= x) (hy : 0 <= y) : Int.gcd y (x % y) = Int.gcd x y := by
 unfold Int.gcd
 rw [z9i hx hy, Nat.gcd_comm, <- Nat.gcd_rec, Nat.gcd_comm]
theorem z9g (n : Nat) (a b : Int) (ha : 0 <= a) (hb : 0 <= b) (ha2 : a <= BB) (hb2 : b <= BB) :
  z3p (n + 1) 2 [.int a, .int b] fun v => E2 fun (s t : Int) => A6 (v = .tup [.int (Int.gcd a b), .int s, .int t]) (s * a + t * b = Int.gcd a b) (-(b + 1) <= s) (s <= b + 1) (-(a + 1) <= t) (t <= a + 1) := by
 have hB1 := y1e
 refine z8u (d := y1y) rfl rfl ?_
 refine z0d.seq (ρ1 := [some (.int a), some (.int b), some (.tup [.int a, .int 1, .int 0]), some (.tup [.int b, .int 0, .int 1]), none, none]) rfl ?_
 have hm := q6q (z5v (show -BB <= a by exact o300 ha ha2) ha2) (z5v (show -BB <= b by exact o301 hb ha ha2) hb2)
 refine z0d.seqP (P := fun ρ => E7 fun (r0 s0 t0 : Int) (s1 t1 : Int) (x y : Option D) => A8 (ρ = [some (.int a), some (.int b), some (.tup [.int r0, .int s0, .int t0]), some (.tup [.int 0, .int s1, .int t1]), x, y]) (s0 * a + t0 * b = r0) (0 <= r0) (r0 = Int.gcd a b) (-(b + 1) <= s0) (s0 <= b + 1) (-(a + 1) <= t0) (t0 <= a + 1))
  (z0e.whl (fun k ρ => E8 fun (r0 s0 t0 : Int) (r1 s1 t1 : Int) (x y : Option D) => A19 (ρ = [some (.int a), some (.int b), some (.tup [.int r0, .int s0, .int t0]), some (.tup [.int r1, .int s1, .int t1]), x, y]) (s0 * a + t0 * b = r0) (s1 * a + t1 * b = r1) (0 <= r0) (0 <= r1) (r0 <= BB) (r1 <= BB) (Int.gcd r0 r1 = Int.gcd a b) (-(b + 1) <= s0) (s0 <= b + 1) (-(a + 1) <= t0) (t0 <= a + 1) (-(b + 1) <= s1) (s1 <= b + 1) (-(a + 1) <= t1) (t1 <= a + 1) (SG b s0 s1 r0 r1) (SG a t0 t1 r0 r1) (gm r0.natAbs r1.natAbs = k)) (gm a.natAbs b.natAbs)
   ⟨a, 1, 0, b, 0, 1, none, none, rfl, by exact o302, by exact o303, ha, hb, ha2, hb2, rfl, by exact o304 hb, by exact o305 hb, by exact o306 ha, by exact o307 ha, by exact o306 hb, by exact o307 hb, by exact o304 ha, by exact o305 ha, .inl ⟨by exact Int.natCast_nonneg _, by exact Int.le_refl _, by exact o308⟩, .inr ⟨by exact Int.le_refl _, by exact Int.natCast_nonneg _, by exact o308⟩, rfl⟩ (by rw [z3t]; exact o309 hm) ?_) ?_
 ·rintro k ρ ⟨r0, s0, t0, r1, s1, t1, x, y, rfl, e0, e1, p0, p1, q0, q1, hg, a1, a2, a3, a4, a5, a6, a7, a8, S, T, rfl⟩
  by_cases hr : r1 = 0
  ·subst hr
   refine .inl ⟨rfl, r0, s0, t0, s1, t1, x, y, rfl, e0, p0, ?_, a1, a2, a3, a4⟩
   rw [<- hg, Int.gcd_zero_right]; exact o310 p0
  ·have hq : r0.fdiv r1 = r0 / r1 := Int.fdiv_eq_ediv_of_nonneg _ p1
   have hq0 : 0 <= r0 / r1 := Int.ediv_nonneg p0 p1
   have hq1 : r0 / r1 <= r0 := Int.ediv_le_self _ p0
   have hsm : small (r0 / r1) = true := z3j (by exact o301 hq0 ha ha2) (by exact o311 hq1 q0)
   have h1 : small r1 = true := z3j (by exact o301 p1 ha ha2) (by exact o312 q1)
   have hBs : b + 1 <= 2 ^ 1999 /\ a + 1 <= 2 ^ 1999 := by
    have : BB + 1 <= 2 ^ 1999 := by decide +kernel
    exact ⟨Int.le_trans (Int.add_le_add_right hb2 1) this, Int.le_trans (Int.add_le_add_right ha2 1) this⟩
   have h2 : small s1 = true := z1k a5 a6 hBs.1
   have h3 : small t1 = true := z1k a7 a8 hBs.2
   have hmod : r0 - r0 / r1 * r1 = r0 % r1 := by
    have := Int.mul_ediv_add_emod r0 r1
    rw [Int.mul_comm] at this; exact o316 this
   refine .inr ⟨by exact cvo [false, true] (.c (y1h hr) .n) rfl, ?_⟩
   refine z0e.seq (ρ1 := [some (.int a), some (.int b), some (.tup [.int r0, .int s0, .int t0]), some (.tup [.int r1, .int s1, .int t1]), some (.int (r0 / r1)), y]) ?_ ?_
   ·exact z0g (cvo [false, false, true] (.c (v_div hr h1 p1) .n) rfl)
   refine z0e.seq (ρ1 := [some (.int a), some (.int b), some (.tup [.int r0, .int s0, .int t0]), some (.tup [.int r1, .int s1, .int t1]), some (.int (r0 / r1)), some (.tup [.int (r0 % r1), .int (s0 - r0 / r1 * s1), .int (t0 - r0 / r1 * t1)])]) ?_ ?_
   ·exact Eq.trans (z0g (cvo [false, false, true, false, false, false, true, false, false, false, true, false] (.c (z3z hsm h3) (.c (z3z hsm h2) (.c (z3z hsm h1) .n))) rfl)) (by rw [hmod]; rfl)
   refine z0e.seq (ρ1 := [some (.int a), some (.int b), some (.tup [.int r1, .int s1, .int t1]), some (.tup [.int (r0 % r1), .int (s0 - r0 / r1 * s1), .int (t0 - r0 / r1 * t1)]), some (.int (r0 / r1)), some (.tup [.int (r0 % r1), .int (s0 - r0 / r1 * s1), .int (t0 - r0 / r1 * t1)])]) ?_ ?_
   ·exact z0w (cvo [] .n rfl) rfl
   have S' := S.step hq0 hmod
   have T' := T.step hq0 hmod
   have m0 := Int.emod_nonneg r0 hr
   have m1 : r0 % r1 < r1 := Int.emod_lt_of_pos _ (by exact o317 p1 hr)
   have bS := S'.bound (by exact o318 p1 hr) m0
   have bT := T'.bound (by exact o318 p1 hr) m0
   refine z0e.skip ⟨_, ?_, r1, s1, t1, r0 % r1, _, _, _, _, rfl, e1, ?_, p1, m0, q1, by exact o319 m1 q1, ?_, a5, a6, a7, a8, by exact o320 bS.1, by exact o321 bS.2, by exact o320 bT.1, by exact o321 bT.2, S', T', rfl⟩
   ·have : (r0 % r1).natAbs = r0.natAbs % r1.natAbs := z9i p0 p1
    rw [this]
    exact q6p (by exact o322 hr)
   ·exact r60 e0 e1 hmod
   ·rw [<- hg, y3y p0 p1]
 ·rintro ρ ⟨r0, s0, t0, s1, t1, x, y, rfl, e0, p0, hg, b1, b2, b3, b4⟩
  refine z0d.here (z0d.ret (v := .tup [.int r0, .int s0, .int t0]) ?_ ⟨s0, t0, by rw [hg], by rw [e0, hg], b1, b2, b3, b4⟩)
  have : r0 >= 0 := p0
  exact cvo [false, true] (.c (y8r p0) .n) rfl
end Mine
end
section
namespace Mine
noncomputable def z0t (l : List Int) : Nat := l.foldl (fun g x => Nat.gcd g x.natAbs) 0
theorem y4g (l : List Int) (x : Int) : z0t (l ++ [x]) = Nat.gcd (z0t l) x.natAbs := by simp [z0t]
theorem y0d {α : Type} {l : List α} {i : Nat} {x : α} (h : l[i]? = some x) : l.take (i + 1) = l.take i ++ [x] := by
 rw [List.take_add_one, h]; rfl
theorem z1w {l : List Int} {B : Nat} (h : ∀ x ∈ l, x.natAbs <= B) : z0t l <= B := by
 have key : ∀ (l : List Int) (g : Nat), g <= B -> (∀ x ∈ l, x.natAbs <= B) -> l.foldl (fun g x => Nat.gcd g x.natAbs) g <= B := by
  intro l
  induction l with
  | nil => intro g hg _; exact hg
  | cons x r ih =>
   intro g hg hx
   refine ih _ ?_ fun y hy => hx y (List.mem_cons_of_mem _ hy)
   by_cases h0 : g = 0
   ·subst h0; show Nat.gcd 0 x.natAbs <= B; rw [Nat.gcd_zero_left]; exact hx x List.mem_cons_self
   ·exact Nat.le_trans (Nat.gcd_le_left _ (Nat.pos_of_ne_zero h0)) hg
 exact key l 0 (Nat.zero_le _) h
theorem y5a {l : List Int} {i : Nat} {d : D} (h : (l.map D.int)[i]? = some d) : ∃ x, l[i]? = some x /\ d = .int x := by
 rw [List.getElem?_map] at h
 obtain ⟨x, h1, h2⟩ := Option.map_eq_some_iff.mp h
 exact ⟨x, h1, h2.symm⟩
noncomputable def InB (l : List Int) : Prop := ∀ x ∈ l, -BB <= x /\ x <= BB
theorem InB.nat {l : List Int} (h : InB l) : ∀ x ∈ l, x.natAbs <= BB.natAbs := fun x hx => by
 exact o601 (h x hx)
theorem y4v (n : Nat) (l : List Int) (hl : InB l) : phi prog (n + 2) 1 [li l] = some (.int (z0t l)) := by
 refine z3p.eq (z8u (d := y4e) rfl rfl ?_)
 refine z0d.seq (ρ1 := [some (li l), some (.int 0), none]) rfl ?_
 refine z0d.seqP (P := fun ρ => ∃ y, ρ = [some (li l), some (.int (z0t (l.take (l.map D.int).length))), y]) (z0e.fors (x := li l) (items := l.map .int) (fun i ρ => ∃ y, ρ = [some (li l), some (.int (z0t (l.take i))), y]) rfl rfl ⟨none, by simp [z0t]⟩ ?_) ?_
 ·rintro i d ρ hd ⟨y, rfl⟩
  obtain ⟨x, hx, rfl⟩ := y5a hd
  refine ⟨[some (li l), some (.int (z0t (l.take i))), some (.int x)], rfl, z0e.seq (ρ1 := [some (li l), some (.int (z0t (l.take (i + 1)))), some (.int x)]) ?_ (z0e.skip ⟨_, rfl⟩)⟩
  have hB := y1e
  have hxB := hl x (List.mem_of_getElem? hx)
  have hc : z0t (l.take i) <= BB.natAbs := z1w fun z hz => hl.nat z (List.mem_of_mem_take hz)
  have hg := y2n n (z0t (l.take i)) x (z5v (by exact o343 hB) (by exact o344 hB hc)) (z5v hxB.1 hxB.2)
  rw [y0d hx, y4g]
  exact z0g (cvo [true] (.c (z0c hg) .n) rfl)
 ·rintro ρ ⟨y, rfl⟩
  refine z0d.here (z0d.ret (v := .int (z0t l)) ?_ rfl)
  rw [List.length_map, List.take_length]; exact cvo [] .n rfl
theorem z3l (n : Nat) (l : List Int) (hl : InB l) : phi prog (n + 3) 23 [li l] = some (.int (z0t l)) := by
 refine z3p.eq (z8u (d := y1x) rfl rfl ?_)
 refine z0d.here (z0d.ret (v := .int (z0t l)) ?_ rfl)
 exact cvo [true] (.c (z0c (y4v n l hl)) .n) rfl
theorem z2z (n : Nat) (a m : Int) (hm : 2 <= m) (hm2 : m <= BB) (hg : Int.gcd (a % m) m = 1) : z3p (n + 2) 3 [.int a, .int m] fun v => ∃ i, A4 (v = .int i) (0 <= i) (i < m) (m ∣ a * i - 1) := by
 refine z0f (d := z8d) (ρ0 := [some (.int a), some (.int m), none, none, none]) rfl rfl rfl ?_
 have hf : a.fmod m = a % m := Int.fmod_eq_emod_of_nonneg _ (by exact Int.le_trans (by decide) hm)
 have h0 := Int.emod_nonneg a (show m ≠ 0 by exact Int.ne_of_gt (Int.lt_of_lt_of_le (by decide) hm))
 have h1 : a % m < m := Int.emod_lt_of_pos _ (by exact Int.le_of_lt hm)
 obtain ⟨v, hv, s, t, rfl, e, _⟩ := z9g n (a % m) m h0 (by exact q2n hm) (by exact o319 h1 hm2) hm2
 rw [hg] at hv e
 refine z0d.seq (ρ1 := [some (.int a), some (.int m), some (.int 1), some (.int s), some (.int t)]) ?_ ?_
 ·have : m ≠ 0 := by exact q3p hm
  exact z0w (cvo [true, true] (.c (z0c hv) (.c (y5w this hf) .n)) rfl) rfl
 ·refine z0d.here (z0d.ret (v := .int (s % m)) ?_ ⟨s % m, rfl, Int.emod_nonneg _ (by exact q3p hm), Int.emod_lt_of_pos _ (by exact z7f hm), ?_⟩)
  ·have : m ≠ 0 := by exact q3p hm
   exact cvo [false, true] (.c (z4a this ((show 0 <= m by exact q2n hm))) .n) rfl
  ·have e1 := Int.mul_ediv_add_emod a m
   have e2 := Int.mul_ediv_add_emod s m
   refine ⟨a * (-(s / m)) + (a / m) * s - t, ?_⟩
   have e3 : s % m = s - m * (s / m) := by exact o445 e2
   have e4 : a % m = a - m * (a / m) := by exact o445 e1
   rw [e4] at e
   rw [e3]
   have e5 : (1 : Int) = s * (a - m * (a / m)) + t * m := by rw [e]; rfl
   exact r86 e
@[irreducible] def CB : Int := 2 ^ 950
theorem z6j (n : Nat) (x m y p : Int) (hm : 1 <= m) (hp : 1 <= p) (hm2 : m <= CB) (hp2 : p <= CB) (hx : 0 <= x) (hx2 : x < m) (hy : 0 <= y) (hy2 : y < p) (hg : Int.gcd m p = 1) :
  z3p (n + 2) 7 [.tup [.int x, .int m], .tup [.int y, .int p]] fun v => ∃ z, A5 (v = .tup [.int z, .int (m * p)]) (0 <= z) (z < m * p) (m ∣ z - x) (p ∣ z - y) := by
 have hCB : CB <= BB := by decide +kernel
 refine z0f (d := z8e) (ρ0 := [some (.tup [.int x, .int m]), some (.tup [.int y, .int p]), none, none, none, none]) rfl rfl rfl ?_
 obtain ⟨v, hv, s, t, rfl, e, s1, s2, t1, t2⟩ := z9g n m p (by exact o446 hm) (by exact o446 hp) (by exact o447 hCB hm2) (by exact o447 hCB hp2)
 rw [hg] at hv e
 refine z0d.seq (ρ1 := [some (.tup [.int x, .int m]), some (.tup [.int y, .int p]), some (.int 1), some (.int s), some (.int t), none]) ?_ ?_
 ·exact z0w (cvo [false, false, true] (.c (z0c hv) .n) rfl) rfl
 refine z0d.seq (ρ1 := [some (.tup [.int x, .int m]), some (.tup [.int y, .int p]), some (.int 1), some (.int s), some (.int t), none]) ?_ ?_
 ·refine z1o ?_ z0l
  exact cvo [false, false, false, false, true] (.c (y7l (by simp [ev, z7d, z9x, y3f, z9b, y5o, eqD, Int.fmod_eq_emod_of_nonneg _ (show (0 : Int) <= 1 by decide)])) .n) rfl
 have hmp : 0 < m * p := Int.mul_pos (by exact y8a hm) (by exact y8a hp)
 have hC : CB + 1 <= 2 ^ 1999 /\ (0 : Int) <= CB := by decide +kernel
 have b1 : small 1 = true := by decide +kernel
 have b2 : small m = true := y3l (Int.le_trans (by decide) hm) (Int.le_trans hm2 (Int.le_add_one (Int.le_refl _))) hC.1
 have b3 : small p = true := y3l (Int.le_trans (by decide) hp) (Int.le_trans hp2 (Int.le_add_one (Int.le_refl _))) hC.1
 have b4 : small s = true := z1k (Int.le_trans (Int.neg_le_neg (Int.add_le_add_right hp2 1)) s1) (Int.le_trans s2 (Int.add_le_add_right hp2 1)) hC.1
 have b5 : small (y - x) = true := z1k (o607 hx hx2 hy hy2 hm2 hp2).1 (o607 hx hx2 hy hy2 hm2 hp2).2 (Int.le_trans (Int.le_add_one (Int.le_refl _)) hC.1)
 have b6 : small (s * (y - x)) = true := by
  have h1 : (s * (y - x)).natAbs <= ((CB + 1) * CB).natAbs := by
   rw [Int.natAbs_mul, Int.natAbs_mul]
   exact Nat.mul_le_mul (by exact o454 s1 s2 hp2) (by exact o455 hy hx hy2 hx2 hm2 hp2)
  have h2 : (CB + 1) * CB <= 2 ^ 1999 := by decide +kernel
  have h3 : 0 <= (CB + 1) * CB := Int.mul_nonneg (by exact o456 hm hm2) (by exact o457 hm hm2)
  exact z1k (o602 h1 h3).1 (o602 h1 h3).2 h2
 refine z0d.seq (ρ1 := [some (.tup [.int x, .int m]), some (.tup [.int y, .int p]), some (.int 1), some (.int s), some (.int t), some (.int (m * p))]) ?_ ?_
 ·exact Eq.trans (z0g (cvo [false, false, false, true] (.c (z3z (by simp [xs, ev, z7d, z9x, y3f, z9b, b1, b2, b3, Int.fdiv_eq_ediv_of_nonneg _ (show (0 : Int) <= 1 by decide)]) b3) .n) rfl)) (by simp [xs, ev, z7d, z9x, y3f, z9b, b1, b2, b3, Int.fdiv_eq_ediv_of_nonneg _ (show (0 : Int) <= 1 by decide)])
 refine z0d.here (z0d.ret (v := .tup [.int ((x + m * (s * (y - x))) % (m * p)), .int (m * p)]) ?_ ⟨_, rfl, Int.emod_nonneg _ (by exact o135 hmp), Int.emod_lt_of_pos _ hmp, ?_, ?_⟩)
 ·have : m * p ≠ 0 := by exact o135 hmp
  have hne : ¬ (m = 0 \/ p = 0) := by exact o460 hp hm
  exact Eq.trans (cvo [false, false, false, false, false, false, true, true, false, true] (.c (z4a this ((show (0 : Int) <= m * p by exact q6b hmp))) (.c (z3z b2 (by simp [ev, z7d, z9x, y3f, z9b, b1, b2, b4, b5, b6, this, hne, Int.fdiv_eq_ediv_of_nonneg _ (show (0 : Int) <= 1 by decide), Int.fmod_eq_emod_of_nonneg _ (show (0 : Int) <= m * p by exact q6b hmp)])) (.c (z3z b4 (by simp [ev, z7d, z9x, y3f, z9b, b1, b2, b4, b5, b6, this, hne, Int.fdiv_eq_ediv_of_nonneg _ (show (0 : Int) <= 1 by decide), Int.fmod_eq_emod_of_nonneg _ (show (0 : Int) <= m * p by exact q6b hmp)])) .n))) rfl) (by simp [ev, z7d, z9x, y3f, z9b, b1, b2, b4, b5, b6, this, hne, Int.fdiv_eq_ediv_of_nonneg _ (show (0 : Int) <= 1 by decide), Int.fmod_eq_emod_of_nonneg _ (show (0 : Int) <= m * p by exact q6b hmp)])
 ·have e1 := Int.mul_ediv_add_emod (x + m * (s * (y - x))) (m * p)
  refine ⟨s * (y - x) - p * ((x + m * (s * (y - x))) / (m * p)), ?_⟩
  exact r87 e1
 ·have e1 := Int.mul_ediv_add_emod (x + m * (s * (y - x))) (m * p)
  refine ⟨-t * (y - x) - m * ((x + m * (s * (y - x))) / (m * p)), ?_⟩
  have e2 : s * m + t * p = 1 := e
  exact r88 e e1
theorem y4w (n : Nat) (x m y p : Int) (hm : 1 <= m) (hp : 1 <= p) (hm2 : m <= CB) (hp2 : p <= CB) (hx : 0 <= x) (hx2 : x < m) (hy : 0 <= y) (hy2 : y < p) (hg : Int.gcd m p = 1) :
  z3p (n + 3) 8 [.list [.tup [.int x, .int m], .tup [.int y, .int p]]] fun v => ∃ z, A5 (v = .tup [.int z, .int (m * p)]) (0 <= z) (z < m * p) (m ∣ z - x) (p ∣ z - y) := by
 refine z8u (d := y4f) rfl rfl ?_
 obtain ⟨v1, h1, z1, rfl, a1, a2, a3, a4⟩ := z6j n 0 1 x m (by decide) hm (by decide +kernel) hm2 (by decide) (by decide) hx hx2 (by simp [Int.gcd])
 rw [Int.one_mul] at h1 a2
 have ez : z1 = x := by
  obtain ⟨k, hk⟩ := a4
  have h : m ∣ z1 - x := ⟨k, hk⟩
  have : z1 - x = 0 := Int.eq_zero_of_dvd_of_natAbs_lt_natAbs h (by exact o461 a1 hx a2 hx2)
  exact o125 this
 subst ez
 obtain ⟨v2, h2, z, rfl, c1, c2, c3, c4⟩ := z6j n z1 m y p hm hp hm2 hp2 hx hx2 hy hy2 hg
 refine z0d.seq (ρ1 := [some (.list [.tup [.int z1, .int m], .tup [.int y, .int p]]), some (.tup [.int 0, .int 1]), none]) rfl ?_
 refine z0d.seq (ρ1 := [some (.list [.tup [.int z1, .int m], .tup [.int y, .int p]]), some (.tup [.int z, .int (m * p)]), some (.tup [.int y, .int p])]) ?_ (z0d.here (z0d.ret (v := .tup [.int z, .int (m * p)]) rfl ⟨z, rfl, c1, c2, c3, c4⟩))
 simp [xs, ev, z7d, y2p, z2k, z0u, z2t, z7r, h1, h2]
noncomputable def sym (a m : Int) : Int := if 2 * (a % m) > m then a % m - m else a % m
theorem y2k (n : Nat) (a m : Int) (hm : 1 <= m) (hm2 : m <= BB) : phi prog (n + 1) 9 [.int a, .int m] = some (.int (sym a m)) := by
 refine z3p.eq (z0f (d := y0r) (ρ0 := [some (.int a), some (.int m), none]) rfl rfl rfl ?_)
 have h0 := Int.emod_nonneg a (show m ≠ 0 by exact Int.ne_of_gt hm)
 have h1 : a % m < m := Int.emod_lt_of_pos _ (by exact hm)
 have b1 : small 2 = true := by decide +kernel
 have b2 : small (a % m) = true := z3j (by exact o462 h0 hm hm2) (by exact o319 h1 hm2)
 have hne : m ≠ 0 := by exact Int.ne_of_gt hm
 refine z0d.seq (ρ1 := [some (.int a), some (.int m), some (.int (a % m))]) ?_ (z0d.here (z0d.ret (v := .int (sym a m)) ?_ rfl))
 ·exact z0g (cvo [true] (.c (z4a hne ((show 0 <= m by exact Int.le_of_lt hm))) .n) rfl)
 ·unfold sym
  by_cases h : 2 * (a % m) > m
  ·have h' : m < 2 * (a % m) := h
   exact Eq.trans (cvo [true, true, false] (.c (z5z h) (.c (z3z b1 b2) .n)) rfl) (by simp [ev, y3f, z9b, y5o, b1, b2, h'])
  ·have h' : ¬ m < 2 * (a % m) := h
   exact Eq.trans (cvo [true, true] (.c (y7m h) (.c (z3z b1 b2) .n)) rfl) (by simp [ev, y3f, z9b, y5o, b1, b2, h'])
end Mine
end
section
namespace Mine
set_option genCtorIdx false
set_option genSizeOf false
noncomputable def PL : List Nat := [2, 3, 5, 7, 11, 13, 17, 19, 23, 29, 31, 37, 41, 43, 47, 53]
noncomputable def z4y (p : Nat) : Bool := decide (2 <= p) && (List.range p).all fun d => decide (d < 2) || decide (p % d ≠ 0)
theorem q3f : (PL.all z4y) = true := by decide +kernel
theorem q7j : ((PL.zip PL.tail).all fun x => match phi prog 28 6 [.int x.1] with | some (.int r) => r == (x.2 : Int) | _ => false) = true := by decide +kernel
theorem q4o : PL.length = 16 := by decide +kernel
theorem PL_up : (PL.zip PL.tail).all (fun x => decide (x.1 < x.2)) = true := by decide +kernel
structure z1g (p : Int) : Prop where
 two : 2 <= p
 pp : PP p
 cop : ∀ a, ¬ p ∣ a -> Int.gcd (a % p) p = 1
 only : ∀ d : Int, 2 <= d -> d ∣ p -> d = p
theorem z1g.n1 {p : Int} (P : z1g p) (h : p ∣ 1) : False := absurd (Int.le_of_dvd (by decide) h) (Int.not_le.mpr P.two)
theorem z3v {p : Nat} (h : z4y p = true) : z1g p := by
 unfold z4y at h
 rw [Bool.and_eq_true, List.all_eq_true, decide_eq_true_eq] at h
 obtain ⟨h2, h⟩ := h
 have dv : ∀ d : Nat, d ∣ p -> d = 1 \/ d = p := fun d hd => by
  have hle := Nat.le_of_dvd (by exact Nat.le_of_lt h2) hd
  by_cases hdp : d = p
  ·exact .inr hdp
  ·have := h d (List.mem_range.mpr (by exact Nat.lt_of_le_of_ne hle hdp))
   rw [Bool.or_eq_true, decide_eq_true_eq, decide_eq_true_eq] at this
   have h0 : d ≠ 0 := fun q => by subst q; exact absurd (Nat.eq_zero_of_zero_dvd hd) (Nat.ne_of_gt (Nat.lt_of_lt_of_le (by decide) h2))
   have hm : p % d = 0 := Nat.mod_eq_zero_of_dvd hd
   left; exact o464 this hm h0
 have cop : ∀ a : Int, ¬ (p : Int) ∣ a -> Nat.gcd a.natAbs p = 1 := fun a ha => by
  rcases dv _ (Nat.gcd_dvd_right a.natAbs p) with q | q
  ·exact q
  ·have h1 : p ∣ a.natAbs := q ▸ Nat.gcd_dvd_left a.natAbs p
   exact absurd (Int.dvd_trans (Int.natCast_dvd_natCast.mpr h1) Int.natAbs_dvd_self) ha
 refine ⟨by exact Int.ofNat_le.mpr h2, fun a b hab => ?_, fun a ha => ?_, fun d hd hdp => ?_⟩
 ·by_cases ha : (p : Int) ∣ a
  ·exact .inl ha
  ·right
   have h1 : p ∣ a.natAbs * b.natAbs := by
    have := Int.natAbs_dvd_natAbs.mpr hab
    rwa [Int.natAbs_mul, Int.natAbs_natCast] at this
   have h2 : p ∣ b.natAbs := Nat.Coprime.dvd_of_dvd_mul_left (by rw [Nat.Coprime, Nat.gcd_comm]; exact cop a ha) h1
   exact Int.dvd_trans (Int.natCast_dvd_natCast.mpr h2) Int.natAbs_dvd_self
 ·have : ¬ (p : Int) ∣ a % p := fun q => ha (by
   have e := Int.mul_ediv_add_emod a p
   rw [<- e]
   exact Int.dvd_add (Int.dvd_mul_right _ _) q)
  exact cop _ this
 ·have : d.natAbs ∣ p := by
   have := Int.natAbs_dvd_natAbs.mpr hdp
   simpa using this
  rcases dv _ this with q | q <;> (first | exact o465 hd q | exact o466 hd q)
theorem q1q {i : Nat} {p : Nat} (h : PL[i]? = some p) : z1g p := z3v (List.all_eq_true.mp q3f p (List.mem_of_getElem? h))
set_option tactic.hygienic true in
theorem y5s {i : Nat} {p q : Nat} (h : PL[i]? = some p) (h' : PL[i + 1]? = some q) : phi prog 28 6 [.int p] = some (.int q) /\ p < q := by
 have hm : (p, q) ∈ PL.zip PL.tail := List.mem_of_getElem? (i := i) (by rw [List.getElem?_zip_eq_some]; exact ⟨h, by rw [List.getElem?_tail]; exact h'⟩)
 have := List.all_eq_true.mp q7j _ hm
 have h2 := List.all_eq_true.mp PL_up _ hm
 refine ⟨?_, by simpa using h2⟩
 split at this
 ·rename_i r hr; rw [hr]; simp at this; rw [this]
 ·cases this
theorem q7k {i : Nat} : ∀ {j : Nat} {p q : Nat}, i < j -> PL[i]? = some p -> PL[j]? = some q -> p < q := by
 intro j
 induction j with
 | zero => intro p q h; exact absurd h (Nat.not_lt_zero _)
 | succ j ih =>
  intro p q h hi hj
  by_cases hij : i = j
  ·subst hij; exact (y5s hi hj).2
  ·have hlt : j < PL.length := by have := (List.getElem?_eq_some_iff.mp hj).1; exact o0 this
   have hr : PL[j]? = some PL[j] := List.getElem?_eq_getElem hlt
   exact Nat.lt_trans (ih (by exact o10 h hij) hi hr) (y5s hr hj).2
noncomputable def tp (j : Nat) : Nat -> Int
 | 0 => 1
 | i + 1 => if j <= i then tp j i * (PL.getD i 1 : Nat) else 1
theorem y8w (j : Nat) : tp j j = 1 := by
 cases j with
 | zero => rfl
 | succ j => unfold tp; rw [if_neg (by exact o467)]
theorem y4o {j i p : Nat} (h : j <= i) (hp : PL[i]? = some p) : tp j (i + 1) = tp j i * p := by
 have : PL.getD i 1 = p := by rw [List.getD_eq_getElem?_getD, hp]; rfl
 conv => lhs; unfold tp
 rw [if_pos h, this]
theorem tp_all : ((List.range 6).all fun j => (List.range 16).all fun i => decide (i < j) || (decide (1 <= tp j i) && (decide (i <= j + 8) || decide (326 * 652 * 652 < tp j i)))) = true := by decide +kernel
theorem q1w {j i : Nat} (hj : j < 6) (hi : i < 16) (hji : j <= i) : 1 <= tp j i /\ (tp j i <= 326 * 652 * 652 -> i <= j + 8) := by
 have := List.all_eq_true.mp (List.all_eq_true.mp tp_all j (List.mem_range.mpr hj)) i (List.mem_range.mpr hi)
 simp only [Bool.or_eq_true, Bool.and_eq_true, decide_eq_true_eq] at this
 rcases this with q | ⟨q, r | r⟩
 ·exact o468 q hji
 ·exact ⟨q, fun _ => r⟩
 ·exact ⟨q, fun z => by exact o469 r z⟩
theorem tp_nd {j i k q : Nat} (hj : j <= i) (hk : i <= k) (hq : PL[k]? = some q) : ¬ (q : Int) ∣ tp j i := by
 have Q := q1q hq
 induction i with
 | zero =>
  intro h
  have : tp j 0 = 1 := rfl
  rw [this] at h
  exact Q.n1 h
 | succ i ih =>
  by_cases hji : j <= i
  ·have hlt : i < PL.length := by have := (List.getElem?_eq_some_iff.mp hq).1; exact o470 hk this
   have hr : PL[i]? = some PL[i] := List.getElem?_eq_getElem hlt
   rw [y4o hji hr]
   intro h
   rcases Q.pp _ _ h with z | z
   ·exact ih hji (by exact o5 hk) z
   ·have h1 := q7k (show i < k by exact o471 hk) hr hq
    have h2 := (q1q hr).two
    have := Int.le_of_dvd (by exact o472 h2) z
    exact o473 this h1
  ·have : j = i + 1 := by exact o474 hj hji
   subst this
   rw [y8w]
   intro h
   exact Q.n1 h
end Mine
end
section
namespace Mine
noncomputable def tl : List Int -> Nat
 | [] => 0
 | c :: r => if tl r = 0 then (if c = 0 then 0 else 1) else tl r + 1
noncomputable def tr (l : List Int) : List Int := l.take (tl l)
theorem y8x : ∀ l : List Int, tl l <= l.length
 | [] => Nat.le_refl _
 | c :: r => by
  have := y8x r
  unfold tl
  split
  ·split <;> simp
  ·simp; exact this
set_option tactic.hygienic true in
theorem z8l : ∀ (l : List Int) (i : Nat), tl l <= i -> co l i = 0
 | [], i, _ => by simp [co]
 | c :: r, i, h => by
  unfold tl at h
  split at h
  ·rename_i h0
   split at h
   ·rename_i hc
    cases i with
    | zero => rw [z0x, hc]
    | succ i => rw [z0s]; exact z8l r i (by exact o475 h0)
   ·cases i with
    | zero => exact o476 h
    | succ i => rw [z0s]; exact z8l r i (by exact o475 h0)
  ·cases i with
   | zero => exact o477 h
   | succ i => rw [z0s]; exact z8l r i (by exact Nat.le_of_succ_le_succ h)
set_option tactic.hygienic true in
theorem z8m : ∀ (l : List Int), tl l ≠ 0 -> co l (tl l - 1) ≠ 0
 | [], h => by simp [tl] at h
 | c :: r, h => by
  unfold tl at h ⊢
  split
  ·rename_i h0
   rw [if_pos h0] at h
   split
   ·rename_i hc; rw [if_pos hc] at h; exact absurd rfl h
   ·rename_i hc; rw [Nat.sub_self, z0x]; exact hc
  ·rename_i h0
   have := z8m r h0
   rw [show tl r + 1 - 1 = (tl r - 1) + 1 by exact o478 h0, z0s]
   exact this
theorem z6b {l : List Int} {k : Nat} (h1 : ∀ i, k <= i -> co l i = 0) (h2 : k = 0 \/ co l (k - 1) ≠ 0) : tl l = k := by
 rcases Nat.lt_trichotomy (tl l) k with h | h | h
 ·rcases h2 with q | q
  ·exact o479 h q
  ·exact absurd (z8l l (k - 1) (by exact o480 h)) q
 ·exact h
 ·exact absurd (h1 (tl l - 1) (by exact o480 h)) (z8m l (by exact o481 h))
theorem y5m (l : List Int) (k i : Nat) : co (l.take k) i = if i < k then co l i else 0 := by
 simp only [co, List.getD_eq_getElem?_getD, List.getElem?_take]
 split <;> simp
set_option tactic.hygienic true in
theorem z9a (l : List Int) (i : Nat) : co (tr l) i = co l i := by
 unfold tr
 rw [y5m]
 split
 ·rfl
 ·rename_i q; exact (z8l l i (Nat.not_lt.mp q)).symm
theorem z4o : ∀ {a b : List Int}, (∀ i, co a i = co b i) -> ∀ x, pe a x = pe b x
 | [], [], _, _ => rfl
 | [], c :: r, h, x => by
  have h0 := h 0
  rw [z0x] at h0
  have := z4o (a := []) (b := r) (fun i => by have := h (i + 1); rw [z0s] at this; rw [<- this]; simp [co]) x
  simp only [pe] at this ⊢
  rw [<- this, <- h0]; simp [co]
 | c :: r, [], h, x => by
  have h0 := h 0
  rw [z0x] at h0
  have := z4o (a := r) (b := []) (fun i => by have := h (i + 1); rw [z0s] at this; rw [this]; simp [co]) x
  simp only [pe] at this ⊢
  rw [this, h0]; simp [co]
 | c :: r, d :: s, h, x => by
  have h0 := h 0
  rw [z0x, z0x] at h0
  have := z4o (a := r) (b := s) (fun i => by have := h (i + 1); rwa [z0s, z0s] at this) x
  simp only [pe, h0, this]
theorem y7y (l : List Int) (x : Int) : pe (tr l) x = pe l x := z4o (z9a l) x
theorem z2w (l : List Int) : (tr l).length = tl l := by unfold tr; rw [List.length_take]; have := y8x l; exact o483 this
theorem z6a (l : List Int) : (tr l).length <= l.length := by rw [z2w]; exact y8x l
noncomputable def z2h (l : List Int) : Prop := l = [] \/ co l (l.length - 1) ≠ 0
theorem z4b (l : List Int) : z2h (tr l) := by
 by_cases h : tl l = 0
 ·left
  have := z2w l
  rw [h] at this
  exact List.length_eq_zero_iff.mp this
 ·right
  rw [z2w, z9a]
  exact z8m l h
theorem z2h.tr_eq {l : List Int} (h : z2h l) : tr l = l := by
 unfold tr
 have : tl l = l.length := z6b (fun i hi => z0y hi) (by
  rcases h with q | q
  ·left; rw [q]; rfl
  ·exact .inr q)
 rw [this, List.take_length]
theorem y4m {a b : List Int} (h : ∀ i, co a i = co b i) : tr a = tr b := by
 have hl : tl a = tl b := z6b (fun i hi => by rw [h]; exact z8l b i hi) (by
  by_cases h0 : tl b = 0
  ·exact .inl h0
  ·right; rw [h]; exact z8m b h0)
 exact z2d (by rw [z2w, z2w, hl]) fun i => by rw [z9a, z9a, h]
theorem z7u {a b : List Int} (ta : z2h a) (tb : z2h b) (h : ∀ i, co a i = co b i) : a = b := by
 rw [<- ta.tr_eq, <- tb.tr_eq]; exact y4m h
theorem mem_tr {l : List Int} {x : Int} (h : x ∈ tr l) : x ∈ l := List.mem_of_mem_take h
theorem z5b {l : List Int} {x : Int} (h : x ∈ l) : ∃ i, i < l.length /\ co l i = x := by
 obtain ⟨i, hi, rfl⟩ := List.getElem_of_mem h
 exact ⟨i, hi, z9q hi⟩
theorem y8m {l : List Int} {i : Nat} (h : i < l.length) : co l i ∈ l := by rw [z9q h]; exact List.getElem_mem h
theorem z9l {l : List Int} {i : Nat} (h : i < l.length) : (l.map D.int)[i]? = some (.int (co l i)) := by
 rw [List.getElem?_map, List.getElem?_eq_getElem h, z9q h]; rfl
theorem z9k {l : List Int} {i : Int} (h0 : 0 <= i) (h1 : i < l.length) : z9x (l.map D.int) i = some (.int (co l i.toNat)) := by
 unfold z9x
 rw [if_pos h0]
 exact z9l (by exact o484 h0 h1)
theorem z2a {l : List Int} (h : l ≠ []) : z9x (l.map D.int) (-1) = some (.int (co l (l.length - 1))) := by
 have : l.length ≠ 0 := fun q => h (List.length_eq_zero_iff.mp q)
 unfold z9x
 rw [if_neg (by exact o485), List.length_map, if_pos (by exact o486 this), show ((-1 + (l.length : Int)).toNat) = l.length - 1 by exact o487]
 exact z9l (by exact Nat.sub_lt (Nat.pos_of_ne_zero this) Nat.one_pos)
theorem z3a {Φ : Nat -> List D -> Option D} {ρ : z3y} {κ : List D} {elt it : ME} {l : List Int} {g : Int -> Int} (h : ev Φ ρ it κ = some (li l)) (he : ∀ x ∈ l, ev Φ ρ elt [.int x] = some (.int (g x))) :
  ev Φ ρ (.comp elt 1 it (.bool true)) κ = some (li (l.map g)) := by
 have := z8z (f := fun ks => ev Φ ρ elt ks) (g := fun d => match d with | .int x => .int (g x) | d => d) (items := l.map .int) fun d hd => by
  obtain ⟨x, hx, rfl⟩ := List.mem_map.mp hd
  exact he x hx
 simp only [ev, h, li, z7d]
 have hb : ((1 : Nat) != 1) = false := rfl
 simp only [hb]
 rw [this]
 simp
theorem y1l {l : List Int} {k : Nat} (hk : k <= l.length) (h1 : ∀ i, k <= i -> co l i = 0) (h2 : k = 0 \/ co l (k - 1) ≠ 0) : l.take k = tr l := by
 unfold tr; rw [z6b h1 h2]
theorem z7z (n : Nat) (l : List Int) (hl : l.length <= 1000) : phi prog (n + 1) 16 [li l] = some (li (tr l)) := by
 refine z3p.eq (z0f (d := q1b) (ρ0 := [some (li l), none]) rfl rfl rfl ?_)
 refine z0d.seq (ρ1 := [some (li l), some (.int l.length)]) (by exact z0g (cvo [true] (.c z0h .n) rfl)) ?_
 refine z0d.seqP (P := fun ρ => ∃ k : Nat, A4 (k <= l.length) (ρ = [some (li l), some (.int k)]) ((∀ i, k <= i -> co l i = 0)) ((k = 0 \/ co l (k - 1) ≠ 0)))
  (z0e.whl (fun k ρ => k <= l.length /\ ρ = [some (li l), some (.int k)] /\ (∀ i, k <= i -> co l i = 0)) l.length ⟨Nat.le_refl _, rfl, fun i hi => z0y hi⟩ (by rw [z3t]; exact Nat.lt_of_le_of_lt hl (by decide)) ?_) ?_
 ·rintro k ρ ⟨hk, rfl, hz⟩
  by_cases h0 : k = 0
  ·subst h0
   exact .inl ⟨by exact cvo [false] .n rfl, 0, Nat.zero_le _, rfl, hz, .inl rfl⟩
  ·have e1 : z9x (l.map D.int) ((k : Int) - 1) = some (.int (co l (k - 1))) := by
    have := z9k (l := l) (i := (k : Int) - 1) (by exact o488 h0) (by exact o489 hk)
    rwa [show ((k : Int) - 1).toNat = k - 1 by exact o490] at this
   have e2 : 0 < k := by exact Nat.pos_of_ne_zero h0
   by_cases hc : co l (k - 1) = 0
   ·refine .inr ⟨by exact cvo [true, false, true, true] (.c (y7n hc) (.c (z2i e1) (.c (z5z (Int.natCast_pos.mpr e2)) .n))) rfl, z0e.seq (ρ1 := [some (li l), some (.int ((k - 1 : Nat) : Int))]) ?_ (z0e.skip ⟨k - 1, by exact o491 h0, by exact o211 hk, rfl, fun i hi => ?_⟩)⟩
    ·have : (k : Int) - 1 = ((k - 1 : Nat) : Int) := by exact o492 e2
     exact Eq.trans (q0a (cvo [] .n rfl) rfl) (by rw [this]; rfl)
    ·by_cases hik : i = k - 1
     ·rw [hik, hc]
     ·exact hz i (by exact o115 hi hik)
   ·exact .inl ⟨by exact cvo [true, false, true, true] (.c (y2c hc) (.c (z2i e1) (.c (z5z (Int.natCast_pos.mpr e2)) .n))) rfl, k, hk, rfl, hz, .inr hc⟩
 ·rintro ρ ⟨k, hk, rfl, hz, h2⟩
  refine z0d.here (z0d.ret (v := li (tr l)) ?_ rfl)
  rw [<- y1l hk hz h2]
  exact cvo [true, false] (.c (v_up (Int.natCast_nonneg _)) .n) rfl
theorem y0k (n : Nat) (l : List Int) (hl : l.length <= 1000) : phi prog (n + 1) 10 [li l] = some (li (tr l)) := by
 refine z3p.eq (z0f (d := q1d) (ρ0 := [some (li l), none]) rfl rfl rfl ?_)
 refine z0d.seq (ρ1 := [some (li l), some (.int l.length)]) (by exact z0g (cvo [true] (.c z0h .n) rfl)) ?_
 refine z0d.seqP (P := fun ρ => ∃ k : Nat, A4 (k <= l.length) (ρ = [some (li l), some (.int k)]) ((∀ i, k <= i -> co l i = 0)) ((k = 0 \/ co l (k - 1) ≠ 0)))
  (z0e.whl (fun k ρ => k <= l.length /\ ρ = [some (li l), some (.int k)] /\ (∀ i, k <= i -> co l i = 0)) l.length ⟨Nat.le_refl _, rfl, fun i hi => z0y hi⟩ (by rw [z3t]; exact o493 hl) ?_) ?_
 ·rintro k ρ ⟨hk, rfl, hz⟩
  by_cases h0 : k = 0
  ·subst h0
   exact .inl ⟨by exact cvo [false] .n rfl, 0, Nat.zero_le _, rfl, hz, .inl rfl⟩
  ·have e1 : z9x (l.map D.int) ((k : Int) - 1) = some (.int (co l (k - 1))) := by
    have := z9k (l := l) (i := (k : Int) - 1) (by exact o488 h0) (by exact o489 hk)
    rwa [show ((k : Int) - 1).toNat = k - 1 by exact o490] at this
   have e2 : 0 < k := by exact Nat.pos_of_ne_zero h0
   by_cases hc : co l (k - 1) = 0
   ·refine .inr ⟨by exact cvo [true, false, true, true] (.c (y7n hc) (.c (z2i e1) (.c (z5z (Int.natCast_pos.mpr e2)) .n))) rfl, z0e.seq (ρ1 := [some (li l), some (.int ((k - 1 : Nat) : Int))]) ?_ (z0e.skip ⟨k - 1, by exact o491 h0, by exact o211 hk, rfl, fun i hi => ?_⟩)⟩
    ·have : (k : Int) - 1 = ((k - 1 : Nat) : Int) := by exact o494 h0
     exact Eq.trans (z0g (cvo [false] .n rfl)) (by rw [this]; rfl)
    ·by_cases hik : i = k - 1
     ·rw [hik, hc]
     ·exact hz i (by exact o115 hi hik)
   ·exact .inl ⟨by exact cvo [true, false, true, true] (.c (y2c hc) (.c (z2i e1) (.c (z5z (Int.natCast_pos.mpr e2)) .n))) rfl, k, hk, rfl, hz, .inr hc⟩
 ·rintro ρ ⟨k, hk, rfl, hz, h2⟩
  refine z0d.here (z0d.ret (v := li (tr l)) ?_ rfl)
  rw [<- y1l hk hz h2]
  exact cvo [true, false] (.c (v_up (Int.natCast_nonneg _)) .n) rfl
end Mine
end
section
namespace Mine
noncomputable def SmL (l : List Int) : Prop := ∀ x ∈ l, small x = true
theorem InB.sm {l : List Int} (h : InB l) : SmL l := fun x hx => z3j (h x hx).1 (h x hx).2
noncomputable def zl (l : List Int) : Int := co l (l.length - 1)
theorem z8a (n : Nat) (l : List Int) : phi prog (n + 1) 17 [li l] = some (.int (zl l)) := by
 refine z3p.eq (z0f (d := q1c) (ρ0 := [some (li l)]) rfl rfl rfl ?_)
 refine z0d.here (z0d.ret (v := .int (zl l)) ?_ rfl)
 by_cases h : l = []
 ·subst h; exact cvo [false, false] .n rfl
 ·have h' : 0 < l.length := by
   have : l.length ≠ 0 := fun q => h (List.length_eq_zero_iff.mp q)
   exact Nat.pos_of_ne_zero this
  have e := z2a h
  exact cvo [true, true, false, true] (.c (z2i e) (.c (z5z (Int.natCast_pos.mpr h')) (.c z0h .n))) rfl
theorem y9l (n : Nat) : z2n n = ((List.range n).map (fun (i : Nat) => (i : Int))).map D.int := by simp [z2n]
theorem y6r {Φ : Nat -> List D -> Option D} {ρ : z3y} {κ : List D} {a : ME} {n : Nat} (h : ev Φ ρ a κ = some (.int n)) (hn : n <= 1000000) : ev Φ ρ (.range a) κ = some (li ((List.range n).map (fun (i : Nat) => (i : Int)))) := by
 have h1 : -1000000 <= (n : Int) /\ (n : Int) <= 1000000 := by exact o495 hn
 simp only [ev, h, if_pos h1, Int.toNat_natCast, y9l]
 rfl
theorem y3s (a b : List Int) : (List.range (max a.length b.length)).map (fun i => co a i + co b i) = z3m a b := by
 refine z2d (by rw [z2e]; simp) fun i => ?_
 rw [z2g]
 simp only [co, List.getD_eq_getElem?_getD, List.getElem?_map]
 by_cases hi : i < max a.length b.length
 ·rw [List.getElem?_range hi]; rfl
 ·rw [List.getElem?_eq_none (by simp; exact Nat.not_lt.mp hi), List.getElem?_eq_none (show a.length <= i by exact o496 hi), List.getElem?_eq_none (show b.length <= i by exact o497 hi)]; rfl
set_option tactic.hygienic true in
theorem y5e {a b m : Nat} (hm : m = a + 1 - b) : (if (a : Int) - b + 1 > 0 then (a : Int) - b + 1 else 0) = m := by
 split
 ·rename_i q; exact o603 hm q
 ·rename_i q; exact o604 hm q
theorem ev_bin {Φ : Nat -> List D -> Option D} {ρ : z3y} {κ : List D} {op : Op} {a b : ME} {x y z : D} (ha : ev Φ ρ a κ = some x) (hb : ev Φ ρ b κ = some y) (h : y3f op x y = some z) : ev Φ ρ (.bin op a b) κ = some z := by simp only [ev, ha, hb, h]
set_option tactic.hygienic true in
theorem q2i (n : Nat) (a b : List Int) (ha : a.length <= 1000) (hb : b.length <= 1000) : phi prog (n + 2) 18 [li a, li b] = some (li (tr (z3m a b))) := by
 refine z3p.eq (z0f (d := q4h) (ρ0 := [some (li a), some (li b), none]) rfl rfl rfl ?_)
 refine z0d.seq (ρ1 := [some (li a), some (li b), some (.int (max a.length b.length : Nat))]) ?_ ?_
 ·have : (if (b.length : Int) > a.length then (b.length : Int) else a.length) = ((max a.length b.length : Nat) : Int) := by
   split <;> rename_i q <;> (first | exact o605 q | exact o606 q)
  exact z0g (cvo [true, true, true] (.c (y5x this) (.c z0h (.c z0h .n))) rfl)
 ·refine z0d.here (z0d.ret (v := li (tr (z3m a b))) ?_ rfl)
  have e := z3a (Φ := phi prog (n + 1)) (ρ := [some (li a), some (li b), some (.int (max a.length b.length : Nat))]) (κ := []) (elt := .bin .add (.ite (.cmp .lt (.cvar 0) (.len (.var 0))) (.idx (.var 0) (.cvar 0)) (.int 0)) (.ite (.cmp .lt (.cvar 0) (.len (.var 1))) (.idx (.var 1) (.cvar 0)) (.int 0)))
   (it := .range (.var 2)) (l := (List.range (max a.length b.length)).map (fun (i : Nat) => (i : Int))) (g := fun i => co a i.toNat + co b i.toNat) (y6r rfl (by exact o498 hb ha)) (fun x hx => by
    obtain ⟨i, hi, rfl⟩ := List.mem_map.mp hx
    have key : ∀ (l : List Int) (v : Nat), ([some (li a), some (li b), some (.int (max a.length b.length : Nat))] : z3y)[v]? = some (some (li l)) -> ev (phi prog (n + 1)) [some (li a), some (li b), some (.int (max a.length b.length : Nat))] (.ite (.cmp .lt (.cvar 0) (.len (.var v))) (.idx (.var v) (.cvar 0)) (.int 0)) [.int (i : Int)] = some (.int (co l i)) := fun l v hv => by
     by_cases h : i < l.length
     ·have h' : (i : Int) < l.length := by exact o163 h
      have e1 := z9k (l := l) (i := (i : Int)) (by exact Int.natCast_nonneg _) h'
      rw [Int.toNat_natCast] at e1
      simp only [ev, hv]
      simp [li, z7d, y5o, h', e1, h]
     ·have h' : ¬ (i : Int) < l.length := by exact o499 h
      simp only [ev, hv]
      simp [li, z7d, y5o, h', h, z0y (l := l) (i := i) (by exact o102 h)]
    have k1 := key a 0 rfl
    have k2 := key b 1 rfl
    exact ev_bin k1 k2 rfl)
  rw [List.map_map] at e
  have e2 : (List.range (max a.length b.length)).map ((fun (i : Int) => co a i.toNat + co b i.toNat) ∘ fun (i : Nat) => (i : Int)) = z3m a b := by
   rw [<- y3s]
   rfl
  rw [e2] at e
  have e3 := z7z n (z3m a b) (by rw [z2e]; exact o500 hb ha)
  have e4 : ev (phi prog (n + 1)) [some (li a), some (li b), some (.int (max a.length b.length : Nat))] (.call 16 (.cons (.comp (.bin .add (.ite (.cmp .lt (.cvar 0) (.len (.var 0))) (.idx (.var 0) (.cvar 0)) (.int 0)) (.ite (.cmp .lt (.cvar 0) (.len (.var 1))) (.idx (.var 1) (.cvar 0)) (.int 0))) 1 (.range (.var 2)) (.bool true)) .nil)) [] = some (li (tr (z3m a b))) := by
   exact cvo [true, true] (.c (z0c e3) (.c e .n)) rfl
  exact e4
theorem q2g (n : Nat) (l : List Int) : phi prog (n + 1) 19 [li l] = some (li (l.map fun x => -x)) := by
 refine z3p.eq (z0f (d := q4e) (ρ0 := [some (li l)]) rfl rfl rfl ?_)
 refine z0d.here (z0d.ret (v := li (l.map fun x => -x)) (z3a (l := l) rfl fun x _ => by exact cvo [false] .n rfl) rfl)
theorem y2j (n : Nat) (a b : List Int) (ha : a.length <= 1000) (hb : b.length <= 1000) : phi prog (n + 3) 20 [li a, li b] = some (li (tr (z3m a (psc (-1) b)))) := by
 refine z3p.eq (z0f (d := q4d) (ρ0 := [some (li a), some (li b)]) rfl rfl rfl ?_)
 refine z0d.here (z0d.ret (v := li (tr (z3m a (psc (-1) b)))) ?_ rfl)
 have e1 := q2g (n + 1) b
 have e0 : (b.map fun x => -x) = psc (-1) b := by
  unfold psc
  exact List.map_congr_left fun x _ => by exact o49
 rw [e0] at e1
 have e2 := q2i n a (psc (-1) b) ha (by simpa [psc] using hb)
 exact cvo [true, true] (.c (z0c e2) (.c (z0c e1) .n)) rfl
theorem z2u (n : Nat) (l : List Int) (k : Int) (hl : SmL l) (hk : small k = true) : phi prog (n + 1) 21 [li l, .int k] = some (li (if k = 0 then [] else psc k l)) := by
 refine z3p.eq (z0f (d := y6t) (ρ0 := [some (li l), some (.int k)]) rfl rfl rfl ?_)
 refine z0d.here (z0d.ret (v := li (if k = 0 then [] else psc k l)) ?_ rfl)
 have e := z3a (Φ := phi prog n) (ρ := [some (li l), some (.int k)]) (κ := []) (elt := .bin .mul (.cvar 0) (.var 1)) (it := .var 0) (l := l) (g := fun x => x * k) rfl (fun x hx => by exact cvo [true] (.c (z3z (hl x hx) hk) .n) rfl)
 have e0 : (l.map fun x => x * k) = psc k l := by
  unfold psc
  exact List.map_congr_left fun x _ => Int.mul_comm _ _
 rw [e0] at e
 by_cases h : k = 0
 ·subst h; exact cvo [false] .n rfl
 ·rw [if_neg h]
  exact cvo [true, true] (.c e (.c (y1h h) .n)) rfl
theorem z8r (n : Nat) (l : List Int) (k : Nat) (hl : l.length <= 1000) (hk : k <= 1000) : phi prog (n + 1) 22 [li l, .int k] = some (li (if l = [] then [] else psh k l)) := by
 refine z3p.eq (z0f (d := y6u) (ρ0 := [some (li l), some (.int k)]) rfl rfl rfl ?_)
 refine z0d.here (z0d.ret (v := li (if l = [] then [] else psh k l)) ?_ rfl)
 by_cases h : l = []
 ·subst h; exact cvo [false, false] .n rfl
 ·have h' : 0 < l.length := by
   have : l.length ≠ 0 := fun q => h (List.length_eq_zero_iff.mp q)
   exact Nat.pos_of_ne_zero this
  have h1 : (-1000000 : Int) <= k /\ (k : Int) <= 1000000 := by exact o501 hk
  have h2 : k + l.length <= LEN := by
   have : (2000 : Nat) <= LEN := by decide +kernel
   exact o502 this hl hk
  rw [if_neg h]
  exact cvo [true, true, true, false, true] (.c (y8s (by rw [List.length_replicate]; exact h2)) (.c (y8q h1.1 h1.2) (.c (z5z (Int.natCast_pos.mpr h')) (.c z0h .n)))) rfl
theorem z6h (n : Nat) (l : List Int) (k : Int) (h0 : k ≠ 0) (hk : small k = true) : phi prog (n + 1) 24 [li l, .int k] = some (li (l.map fun x => x.fdiv k)) := by
 refine z3p.eq (z0f (d := y1w) (ρ0 := [some (li l), some (.int k)]) rfl rfl rfl ?_)
 refine z0d.here (z0d.ret (v := li (l.map fun x => x.fdiv k)) (z3a (l := l) rfl fun x _ => cvo [true] (.c (y5y h0 hk rfl) .n) rfl) rfl)
theorem y6h (n : Nat) (l : List Int) (m : Int) (h0 : 0 < m) (hl : l.length <= 1000) : phi prog (n + 2) 26 [li l, .int m] = some (li (tr (l.map fun x => x % m))) := by
 refine z3p.eq (z0f (d := q4f) (ρ0 := [some (li l), some (.int m)]) rfl rfl rfl ?_)
 refine z0d.here (z0d.ret (v := li (tr (l.map fun x => x % m))) ?_ rfl)
 have e := z3a (Φ := phi prog (n + 1)) (ρ := [some (li l), some (.int m)]) (κ := []) (elt := .bin .mod (.cvar 0) (.var 1)) (it := .var 0) (l := l) (g := fun x => x % m) rfl (fun x hx => by
  have : m ≠ 0 := by exact o135 h0
  exact cvo [true] (.c (z4a this (by exact q6b h0)) .n) rfl)
 have e3 := z7z n (l.map fun x => x % m) (by simpa using hl)
 exact cvo [true, true] (.c (z0c e3) (.c e .n)) rfl
theorem y1p (n : Nat) (l : List Int) (k p : Int) (hp : 0 < p) (hl : l.length <= 1000) (hs : SmL l) (hk : small k = true) : phi prog (n + 2) 11 [li l, .int k, .int p] = some (li (tr (l.map fun x => x * k % p))) := by
 refine z3p.eq (z0f (d := y6x) (ρ0 := [some (li l), some (.int k), some (.int p)]) rfl rfl rfl ?_)
 refine z0d.here (z0d.ret (v := li (tr (l.map fun x => x * k % p))) ?_ rfl)
 have e := z3a (Φ := phi prog (n + 1)) (ρ := [some (li l), some (.int k), some (.int p)]) (κ := []) (elt := .bin .mod (.bin .mul (.cvar 0) (.var 1)) (.var 2)) (it := .var 0) (l := l) (g := fun x => x * k % p) rfl (fun x hx => by
  have : p ≠ 0 := by exact o135 hp
  exact cvo [true, true] (.c (z4a this (by exact q6b hp)) (.c (z3z (hs x hx) hk) .n)) rfl)
 have e3 := y0k n (l.map fun x => x * k % p) (by simpa using hl)
 exact cvo [true, true] (.c (z0c e3) (.c e .n)) rfl
noncomputable def z2o (l : List Int) : List Int := l.map fun x => x.fdiv (if 0 < zl l then (z0t l : Int) else -(z0t l : Int))
theorem z1u (n : Nat) (l : List Int) (hl : InB l) (h0 : l ≠ []) (hc : z0t l ≠ 0) : phi prog (n + 4) 25 [li l] = some (li (z2o l)) := by
 refine z3p.eq (z0f (d := z9n) (ρ0 := [some (li l), none]) rfl rfl rfl ?_)
 have h' : l.length ≠ 0 := fun q => h0 (List.length_eq_zero_iff.mp q)
 refine z0d.seq (ρ1 := [some (li l), none]) (z1o (cvo [true, true] (.c (y2c (Int.natCast_ne_zero.mpr h')) (.c z0h .n)) rfl) z0l) ?_
 have e := z3l n l hl
 refine z0d.seq (ρ1 := [some (li l), some (.int (z0t l))]) (z0g (cvo [true] (.c (z0c e) .n) rfl)) ?_
 refine z0d.here (z0d.ret (v := li (z2o l)) ?_ rfl)
 have hB := z1w hl.nat
 have hBB := y1e
 have e1 := z2a h0
 have s1 : small (z0t l : Int) = true := z3j (by exact o343 hBB) (by exact o344 hBB hB)
 have s2 : small (-(z0t l : Int)) = true := z3j (by exact o345 hBB hB) (by exact o346 hBB)
 unfold z2o zl
 by_cases h : 0 < co l (l.length - 1)
 ·rw [if_pos h]
  have e2 := z6h (n + 2) l (z0t l) (by exact o62 hc) s1
  exact cvo [false, true, true, true] (.c (z0c e2) (.c (z5z h) (.c (z2i e1) .n))) rfl
 ·rw [if_neg h]
  have e2 := z6h (n + 2) l (-(z0t l : Int)) (by exact o105 hc) s2
  exact cvo [false, true, true, false, true] (.c (z0c e2) (.c (y7m h) (.c (z2i e1) .n))) rfl
end Mine
end
section
namespace Mine
set_option genCtorIdx false
set_option genSizeOf false
theorem z0v {x : Int} (h1 : -1000000000 <= x) (h2 : x <= 1000000000) : small x = true := by
 have : (1000000000 : Int) <= 2 ^ 1999 := by decide +kernel
 exact z1k h1 h2 this
theorem z4r {u v : List Int} {p : Int} (h : ∀ t, p ∣ co u t - co v t) : ∃ k : List Int, ∀ x, pe u x = pe v x + p * pe k x := by
 refine ⟨(List.range (max u.length v.length)).map fun t => (co u t - co v t) / p, fun x => ?_⟩
 rw [<- z0n, <- z2c]
 refine z4o (fun i => ?_) x
 rw [z2g, z0p]
 have e : co ((List.range (max u.length v.length)).map fun t => (co u t - co v t) / p) i = (co u i - co v i) / p := by
  simp only [co, List.getD_eq_getElem?_getD, List.getElem?_map]
  by_cases hi : i < max u.length v.length
  ·rw [List.getElem?_range hi]; rfl
  ·rw [List.getElem?_eq_none (by simp; exact o505 hi), List.getElem?_eq_none (show u.length <= i by exact o496 hi), List.getElem?_eq_none (show v.length <= i by exact o497 hi)]; simp
 rw [e]
 have := Int.mul_ediv_cancel' (h i)
 exact o506 this
theorem y4h (n : Nat) (l : List Int) (t : Nat) : co (psh n l) t = if t < n then 0 else co l (t - n) := by
 unfold psh co
 simp only [List.getD_eq_getElem?_getD]
 by_cases h : t < n
 ·rw [List.getElem?_append_left (by simpa using h), List.getElem?_replicate, if_pos h, if_pos h]; rfl
 ·rw [List.getElem?_append_right (by simpa using h), if_neg h]; simp
noncomputable def Rng (p : Int) (l : List Int) : Prop := ∀ x ∈ l, 0 <= x /\ x < p
theorem Rng.co {p : Int} {l : List Int} (h : Rng p l) (hp : 0 < p) (i : Nat) : 0 <= co l i /\ co l i < p := by
 by_cases hi : i < l.length
 ·exact h _ (y8m hi)
 ·rw [z0y (by exact Nat.not_lt.mp hi)]; exact ⟨Int.le_refl _, hp⟩
theorem z4w {p : Int} {l : List Int} (h : ∀ i, 0 <= co l i /\ co l i < p) : Rng p l := fun x hx => by
 obtain ⟨i, _, rfl⟩ := z5b hx
 exact h i
theorem co_set (l : List Int) (k : Nat) (v : Int) (hk : k < l.length) (t : Nat) : co (l.set k v) t = if t = k then v else co l t := by
 simp only [co, List.getD_eq_getElem?_getD, List.getElem?_set]
 by_cases h : k = t
 ·subst h; simp [hk]
 ·rw [if_neg h, if_neg (Ne.symm h)]
theorem map_set (l : List Int) (k : Nat) (v : Int) : (l.map D.int).set k (.int v) = (l.set k v).map D.int := by rw [List.map_set]
theorem z7m {p x : Int} (h : p ∣ x) (h0 : 0 <= x) (h1 : x < p) : x = 0 := by
 obtain ⟨k, rfl⟩ := h
 by_cases hk : k <= 0
 ·have : p * k <= 0 := Int.mul_nonpos_of_nonneg_of_nonpos (by exact o507 h0 h1) hk
  exact Int.le_antisymm this h0
 ·exfalso
  have : p * 1 <= p * k := Int.mul_le_mul_of_nonneg_left (by exact Int.not_le.mp hk) (by exact o507 h0 h1)
  exact o508 this h1
theorem z1f (a p : Int) : p ∣ a - a % p := ⟨a / p, by have := Int.mul_ediv_add_emod a p; exact o509 this⟩
structure z9c (p : Int) (l : List Int) : Prop where
 rng : Rng p l
 trim : z2h l
theorem z9c.lead {p : Int} {l : List Int} (h : z9c p l) (h0 : l ≠ []) (hp : 0 < p) : ¬ p ∣ co l (l.length - 1) := fun q => by
 rcases h.trim with z | z
 ·exact h0 z
 ·have := h.rng.co hp (l.length - 1)
  exact z (z7m q this.1 this.2)
theorem z4q {p x : Int} (hp : 0 < p) : 0 <= x % p /\ x % p < p := ⟨Int.emod_nonneg _ (by exact Int.ne_of_gt hp), Int.emod_lt_of_pos _ hp⟩
theorem z3f : ∀ (l : List D) (n i : Nat) (d : D), (z2r n l)[i]? = some d -> ∃ x, l[i]? = some x /\ d = .tup [.int ((n + i : Nat) : Int), x]
 | [], _, _, _, h => by simp [z2r] at h
 | y :: r, n, 0, d, h => by simp [z2r] at h; exact ⟨y, rfl, h.symm⟩
 | y :: r, n, i + 1, d, h => by
  simp only [z2r, List.getElem?_cons_succ] at h
  obtain ⟨x, h1, h2⟩ := z3f r (n + 1) i d h
  exact ⟨x, by simpa using h1, by rw [h2]; congr 3; exact o510⟩
theorem z1n : ∀ (l : List D) (n : Nat), (z2r n l).length = l.length
 | [], _ => rfl
 | y :: r, n => by simp [z2r, z1n r (n + 1)]
set_option tactic.hygienic true in
theorem y4u (n : Nat) (p : Int) (P : z1g p) (hp2 : p <= 1000) (a b : List Int) (ha : Rng p a) (hb : z9c p b) (hb0 : b ≠ []) (la : a.length <= 100) (lb : b.length <= 100) :
  z3p (n + 3) 12 [li a, li b, .int p] fun v => E2 fun w r => A4 (v = .tup [w, li r]) (z9c p r) (r.length < b.length) (∃ q k : List Int, ∀ x, pe a x = pe b x * pe q x + pe r x + p * pe k x) := by
 have hp := P.two
 have hbl : b.length ≠ 0 := fun q => hb0 (List.length_eq_zero_iff.mp q)
 obtain ⟨m, hm⟩ : ∃ m : Nat, m = a.length + 1 - b.length := ⟨_, rfl⟩
 refine z0f (d := y4c) (ρ0 := [some (li a), some (li b), some (.int p), none, none, none, none, none, none, none]) rfl rfl rfl ?_
 refine z0d.seq (ρ1 := [some (li a), some (li b), some (.int p), some (li a), some (li (List.replicate m 0)), none, none, none, none, none]) ?_ ?_
 ·have e1 : (if (a.length : Int) - b.length + 1 > 0 then (a.length : Int) - b.length + 1 else 0) = m := y5e hm
  have e2 : (-1000000 : Int) <= m /\ (m : Int) <= 1000000 := by exact o511 hm la
  exact z0w (cvo [false, true, true, false, false, true, true] (.c (y8q e2.1 e2.2) (.c (y5x e1) (.c z0h (.c z0h .n)))) rfl) rfl
 have hBB : (1000 : Int) <= BB := by decide +kernel
 obtain ⟨v, hv, turn, rfl, t0, t1, t2⟩ := z2z n (co b (b.length - 1)) p hp (by exact o395 hBB hp2) (P.cop _ (hb.lead hb0 (by exact z7f hp)))
 refine z0d.seq (ρ1 := [some (li a), some (li b), some (.int p), some (li a), some (li (List.replicate m 0)), some (.int turn), none, none, none, none]) ?_ ?_
 ·have e1 := z2a hb0
  exact z0g (cvo [false, true, true] (.c (z0c hv) (.c (z2i e1) .n)) rfl)
 have dl : ∀ i : Nat, i < m -> (z7c m)[i]? = some (.int ((m - 1 - i : Nat) : Int)) := fun i hi => by
  simp only [z7c, List.getElem?_map, List.getElem?_range hi, Option.map_some]
  congr 2; exact o512 hi
 have hdown : ev (phi prog (n + 2)) [some (li a), some (li b), some (.int p), some (li a), some (li (List.replicate m 0)), some (.int turn), none, none, none, none] (.down (.bin .sub (.len (.var 0)) (.len (.var 1)))) [] = some (.list (z7c m)) := by
  have h1 : -1000000 <= (a.length : Int) - b.length /\ (a.length : Int) - b.length <= 1000000 := by exact o513 lb la
  have h2 : ((a.length : Int) - b.length + 1).toNat = m := by exact o514 hm
  exact cvo [true, true, false, true] (.c (q4u h1 h2) (.c z0h (.c z0h .n))) rfl
 refine z0d.seqP (P := fun ρ => E6 fun (rest quot : List Int) (o6 o7 o8 o9 : Option D) => A6 (ρ = [some (li a), some (li b), some (.int p), some (li rest), some (li quot), some (.int turn), o6, o7, o8, o9]) (rest.length = a.length) (quot.length = m) (Rng p rest) ((∃ q k : List Int, ∀ x, pe a x = pe b x * pe q x + pe rest x + p * pe k x)) ((∀ j, m - (z7c m).length + (b.length - 1) <= j -> co rest j = 0)))
  (z0e.fors (items := z7c m) (fun i ρ => E6 fun (rest quot : List Int) (o6 o7 o8 o9 : Option D) => A6 (ρ = [some (li a), some (li b), some (.int p), some (li rest), some (li quot), some (.int turn), o6, o7, o8, o9]) (rest.length = a.length) (quot.length = m) (Rng p rest) ((∃ q k : List Int, ∀ x, pe a x = pe b x * pe q x + pe rest x + p * pe k x)) ((∀ j, m - i + (b.length - 1) <= j -> co rest j = 0))) hdown rfl
   ⟨a, List.replicate m 0, none, none, none, none, rfl, rfl, by simp, ha, ⟨[], [], fun x => by simp [pe]⟩, fun j hj => z0y (by exact o515 hj hm)⟩ ?_) ?_
 ·rintro i d ρ hd ⟨rest, quot, o6, o7, o8, o9, rfl, hrl, hql, hrng, ⟨q, k, hqk⟩, hz⟩
  have him : i < m := by
   have := (List.getElem?_eq_some_iff.mp hd).1
   simpa [z7c] using this
  rw [dl i him] at hd
  cases hd
  obtain ⟨t, ht⟩ : ∃ t : Nat, t = m - 1 - i := ⟨_, rfl⟩
  rw [<- ht]
  have hta : t + b.length - 1 < a.length := by exact o516 him hm ht hbl
  refine ⟨[some (li a), some (li b), some (.int p), some (li rest), some (li quot), some (.int turn), some (.int t), o7, o8, o9], rfl, ?_⟩
  have hr0 := hrng.co (show 0 < p by exact z7f hp) (t + b.length - 1)
  obtain ⟨num, hnum⟩ : ∃ num : Int, num = co rest (t + b.length - 1) * turn % p := ⟨_, rfl⟩
  have hn0 := z4q (p := p) (x := co rest (t + b.length - 1) * turn) (by exact z7f hp)
  rw [<- hnum] at hn0
  have hpne : p ≠ 0 := by exact q3p hp
  refine z0e.seq (ρ1 := [some (li a), some (li b), some (.int p), some (li rest), some (li quot), some (.int turn), some (.int t), some (.int num), o8, o9]) ?_ ?_
  ·have e1 : z9x (rest.map D.int) ((t : Int) + b.length - 1) = some (.int (co rest (t + b.length - 1))) := by
    have := z9k (l := rest) (i := (t : Int) + b.length - 1) (by exact o517 hbl) (by exact o518 hta hrl)
    rwa [show ((t : Int) + b.length - 1).toNat = t + b.length - 1 by exact o368] at this
   have s1 : small (co rest (t + b.length - 1)) = true := z0v (by exact y4y hr0.1) (by exact y6i hr0.2 hp2)
   have s2 : small turn = true := z0v (by exact y4y t0) (by exact y6i t1 hp2)
   exact Eq.trans (z0g (cvo [true, false, false, true, true, true] (.c (z4a hpne ((show 0 <= p by exact q2n hp))) (.c (z3z s1 s2) (.c (z2i e1) (.c z0h .n)))) rfl)) (by rw [hnum]; rfl)
  refine z0e.seq (ρ1 := [some (li a), some (li b), some (.int p), some (li rest), some (li (quot.set t num)), some (.int turn), some (.int t), some (.int num), o8, o9]) ?_ ?_
  ·have h1 : (0 : Int) <= t /\ (t : Int) < quot.length := by exact o519 him ht hql
   have h2 : (t : Int) < quot.length := h1.2
   exact y2o (cvo [] .n rfl) rfl (cvo [] .n rfl) (Int.natCast_nonneg _) h2
  have fin : ∀ (rest' : List Int) (o8 o9 : Option D), rest'.length = a.length -> (∀ j, co rest' j = if t <= j /\ j < t + b.length then (co rest j - num * co b (j - t)) % p else co rest j) ->
    ∃ k', k' = (0 : Nat) /\ E6 fun (rest2 quot2 : List Int) (o6 o7 o8' o9' : Option D) => A6 (([some (li a), some (li b), some (.int p), some (li rest'), some (li (quot.set t num)), some (.int turn), some (.int t), some (.int num), o8, o9] : z3y) = [some (li a), some (li b), some (.int p), some (li rest2), some (li quot2), some (.int turn), o6, o7, o8', o9']) (rest2.length = a.length) (quot2.length = m) (Rng p rest2) ((∃ q k : List Int, ∀ x, pe a x = pe b x * pe q x + pe rest2 x + p * pe k x)) ((∀ j, m - (i + 1) + (b.length - 1) <= j -> co rest2 j = 0)) := fun rest' o8 o9 hl' hco => by
   refine ⟨0, rfl, rest', quot.set t num, _, _, _, _, rfl, hl', by simp [hql], z4w fun j => ?_, ?_, fun j hj => ?_⟩
   ·rw [hco]; split
    ·exact z4q (by exact z7f hp)
    ·exact hrng.co (by exact z7f hp) j
   ·obtain ⟨k2, hk2⟩ := z4r (p := p) (u := rest') (v := z3m rest (psc (-num) (psh t b))) fun j => by
     rw [z2g, z0p, y4h, hco]
     by_cases h1 : j < t
     ·rw [if_neg (by exact o520 h1), if_pos h1]; simp
     ·rw [if_neg h1]
      by_cases h2 : j < t + b.length
      ·rw [if_pos ⟨by exact o102 h1, h2⟩]
       have := z1f (co rest j - num * co b (j - t)) p
       have e : (co rest j - num * co b (j - t)) % p - (co rest j + -num * co b (j - t)) = -((co rest j - num * co b (j - t)) - (co rest j - num * co b (j - t)) % p) := by
        rw [Int.neg_mul]; exact o521
       rw [e]; exact Int.dvd_neg.mpr this
      ·rw [if_neg (by exact o522 h2), z0y (l := b) (by exact o523 h2)]; simp
    refine ⟨z3m q (psc num (psh t [1])), z3m k (psc (-1) k2), fun x => ?_⟩
    rw [hqk x, hk2 x]
    simp only [z2c, z0n, z7e, pe]
    exact r89
   ·rw [hco]
    by_cases h1 : j = t + b.length - 1
    ·subst h1
     rw [if_pos (by exact o524 hbl), show t + b.length - 1 - t = b.length - 1 by exact o525]
     refine Int.emod_eq_zero_of_dvd ?_
     have d1 := z1f (co rest (t + b.length - 1) * turn) p
     rw [<- hnum] at d1
     have e : co rest (t + b.length - 1) - num * co b (b.length - 1) = (co rest (t + b.length - 1) * turn - num) * co b (b.length - 1) - co rest (t + b.length - 1) * (co b (b.length - 1) * turn - 1) := by exact r90
     rw [e]
     exact Int.dvd_sub (Int.dvd_trans d1 (Int.dvd_mul_right _ _)) (Int.dvd_trans t2 (Int.dvd_mul_left _ _))
    ·rw [if_neg (by exact o526 hj ht h1)]
     have hj2 : t + (b.length - 1) <= j := (show m - (i + 1) = t from o617 ht) ▸ hj
     exact hz j (o616 hj2 h1 hbl (o615 ht))
  have hnx : z0e (phi prog (n + 2)) z5y (.ifs (.cmp .ne (.var 7) (.int 0)) (.seq (.fors [8, 9] true (.enum (.var 1)) (.seq (.put 3 (.bin .add (.var 6) (.var 8)) (.bin .mod (.bin .sub (.idx (.var 3) (.bin .add (.var 6) (.var 8))) (.bin .mul (.var 7) (.var 9))) (.var 2))) .skip)) .skip) .skip)
    [some (li a), some (li b), some (.int p), some (li rest), some (li (quot.set t num)), some (.int turn), some (.int t), some (.int num), o8, o9]
    (fun ρ => E3 fun (rest' : List Int) (o8 o9 : Option D) => A3 (ρ = [some (li a), some (li b), some (.int p), some (li rest'), some (li (quot.set t num)), some (.int turn), some (.int t), some (.int num), o8, o9]) (rest'.length = a.length) ((∀ j, co rest' j = if t <= j /\ j < t + b.length then (co rest j - num * co b (j - t)) % p else co rest j))) := by
   by_cases hn : num = 0
   ·refine z0e.of (z1o (by exact cvo [true] (.c (y7l hn) .n) rfl) z0l) ⟨rest, o8, o9, rfl, hrl, fun j => ?_⟩
    split
    ·rw [hn, Int.zero_mul, Int.sub_zero]
     have := hrng.co (show 0 < p by exact z7f hp) j
     exact (Int.emod_eq_of_lt this.1 this.2).symm
    ·rfl
   ·have inner : z0e (phi prog (n + 2)) z5y (.fors [8, 9] true (.enum (.var 1)) (.seq (.put 3 (.bin .add (.var 6) (.var 8)) (.bin .mod (.bin .sub (.idx (.var 3) (.bin .add (.var 6) (.var 8))) (.bin .mul (.var 7) (.var 9))) (.var 2))) .skip))
      [some (li a), some (li b), some (.int p), some (li rest), some (li (quot.set t num)), some (.int turn), some (.int t), some (.int num), o8, o9]
      (fun ρ => E3 fun (rest' : List Int) (o8 o9 : Option D) => A3 (ρ = [some (li a), some (li b), some (.int p), some (li rest'), some (li (quot.set t num)), some (.int turn), some (.int t), some (.int num), o8, o9]) (rest'.length = a.length) ((∀ j, co rest' j = if t <= j /\ j < t + (z2r 0 (b.map D.int)).length then (co rest j - num * co b (j - t)) % p else co rest j))) := by
     refine z0e.fors (x := .list (z2r 0 (b.map D.int))) (items := z2r 0 (b.map D.int)) (fun e ρ => E3 fun (rest' : List Int) (o8 o9 : Option D) => A3 (ρ = [some (li a), some (li b), some (.int p), some (li rest'), some (li (quot.set t num)), some (.int turn), some (.int t), some (.int num), o8, o9]) (rest'.length = a.length) ((∀ j, co rest' j = if t <= j /\ j < t + e then (co rest j - num * co b (j - t)) % p else co rest j)))
      (by exact cvo [false] .n rfl) rfl ⟨rest, o8, o9, rfl, hrl, fun j => by rw [if_neg (by exact o528)]⟩ ?_
     rintro e d ρ hd ⟨rest', o8, o9, rfl, hl', hco⟩
     have heb : e < b.length := by
      have := (List.getElem?_eq_some_iff.mp hd).1
      rwa [z1n, List.length_map] at this
     obtain ⟨x, hx, rfl⟩ := z3f _ _ _ _ hd
     rw [z9l heb] at hx
     cases hx
     rw [Nat.zero_add]
     refine ⟨[some (li a), some (li b), some (.int p), some (li rest'), some (li (quot.set t num)), some (.int turn), some (.int t), some (.int num), some (.int e), some (.int (co b e))], by simp [z2k, z0u, z2t], ?_⟩
     have e1 : z9x (rest'.map D.int) ((t : Int) + e) = some (.int (co rest' (t + e))) := by
      have := z9k (l := rest') (i := (t : Int) + e) (by exact Int.natCast_nonneg _) (by exact o529 hta heb hl')
      rwa [show ((t : Int) + e).toNat = t + e by exact rfl] at this
     have hbe := hb.rng.co (show 0 < p by exact z7f hp) e
     have s1 : small num = true := z0v (by exact y4y hn0.1) (by exact y6i hn0.2 hp2)
     have s2 : small (co b e) = true := z0v (by exact y4y hbe.1) (by exact y6i hbe.2 hp2)
     refine z0e.seq (ρ1 := [some (li a), some (li b), some (.int p), some (li (rest'.set (t + e) ((co rest' (t + e) - num * co b e) % p))), some (li (quot.set t num)), some (.int turn), some (.int t), some (.int num), some (.int e), some (.int (co b e))]) ?_ (z0e.skip ⟨_, _, _, rfl, by simp [hl'], fun j => ?_⟩)
     ·have h1 : (0 : Int) <= (t : Int) + e /\ (t : Int) + e < rest'.length := by exact o530 hta heb hl'
      have h2 : (t : Int) + e < rest'.length := h1.2
      have h3 : ((t : Int) + e).toNat = t + e := by exact rfl
      exact y2o (cvo [false, true, true, false, true] (.c (z4a hpne ((show 0 <= p by exact q2n hp))) (.c (z3z s1 s2) (.c (z2i e1) .n))) rfl) rfl (cvo [false] .n rfl) (Int.natCast_nonneg _) h2
     ·rw [co_set _ _ _ (by exact o531 hta heb hl')]
      by_cases hj : j = t + e
      ·subst hj
       rw [if_pos rfl, if_pos (by exact o532), hco, if_neg (by exact o533), show t + e - t = e by exact o534]
      ·rw [if_neg hj, hco]
       by_cases h3 : t <= j /\ j < t + e
       ·rw [if_pos h3, if_pos (by exact o535 h3.2 h3.1)]
       ·rw [if_neg h3, if_neg (by exact o536 h3 hj)]
    rw [z1n, List.length_map] at inner
    obtain ⟨ρ', h1, h2⟩ := inner
    exact ⟨ρ', z7s (by exact cvo [true] (.c (y1h hn) .n) rfl) (z0q h1 z0l), h2⟩
  refine z0e.seqP hnx ?_
  rintro ρ1 ⟨rest', o8', o9', rfl, hl', hco⟩
  obtain ⟨_, _, h⟩ := fin rest' o8' o9' hl' hco
  exact z0e.skip h
 ·rintro ρ ⟨rest, quot, o6, o7, o8, o9, rfl, hrl, hql, hrng, hqk, hz⟩
  have hdl : (z7c m).length = m := by simp [z7c]
  rw [hdl, Nat.sub_self, Nat.zero_add] at hz
  have hco : ∀ i, co (tr (rest.take (b.length - 1))) i = co rest i := fun i => by
   rw [z9a, y5m]
   split
   ·rfl
   ·rename_i q; exact (hz i (Nat.not_lt.mp q)).symm
  refine z0d.here (z0d.ret (v := .tup [li (tr quot), li (tr (rest.take (b.length - 1)))]) ?_ ⟨_, _, rfl, ⟨z4w fun i => by rw [hco]; exact hrng.co (by exact z7f hp) i, z4b _⟩, ?_, ?_⟩)
  ·have e1 := y0k (n + 1) quot (by exact o537 hm hql la)
   have e2 := y0k (n + 1) (rest.take (b.length - 1)) (by rw [List.length_take]; exact o538 hrl la)
   have h1 : (0 : Int) <= (b.length : Int) - 1 := by exact o539 hbl
   have h2 : ((b.length : Int) - 1).toNat = b.length - 1 := by exact o490
   exact cvo [true, true, false, true, true] (.c (z0c e2) (.c (v_upI h1 h2) (.c z0h (.c (z0c e1) .n)))) rfl
  ·have := z6a (rest.take (b.length - 1))
   rw [List.length_take] at this
   exact o541 hbl this
  ·obtain ⟨q, k, hqk⟩ := hqk
   exact ⟨q, k, fun x => by rw [hqk x, z4o hco x]⟩
end Mine
end
section
namespace Mine
set_option genCtorIdx false
set_option genSizeOf false
noncomputable def Idl (p : Int) (X Y F : Int -> Int) : Prop := E3 fun (U V K : Int -> Int) => A4 (Pol U) (Pol V) (Pol K) (∀ t, F t = X t * U t + Y t * V t + p * K t)
noncomputable def Dv (p : Int) (X F : Int -> Int) : Prop := E2 fun (U K : Int -> Int) => A3 (Pol U) (Pol K) (∀ t, F t = X t * U t + p * K t)
section
variable {p : Int} {X Y F G Z : Int -> Int}
theorem Idl.left : Idl p X Y X := ⟨_, _, _, Pol.const 1, Pol.const 0, Pol.const 0, fun t => by exact r91⟩
theorem Idl.right : Idl p X Y Y := ⟨_, _, _, Pol.const 0, Pol.const 1, Pol.const 0, fun t => by exact r92⟩
theorem Idl.add (h : Idl p X Y F) (k : Idl p X Y G) : Idl p X Y (fun t => F t + G t) := by
 obtain ⟨U, V, K, h1, h2, h3, e⟩ := h
 obtain ⟨U', V', K', k1, k2, k3, e'⟩ := k
 exact ⟨_, _, _, h1.add k1, h2.add k2, h3.add k3, fun t => by simp only [e, e']; exact r93⟩
theorem Idl.mul (h : Idl p X Y F) (k : Pol G) : Idl p X Y (fun t => F t * G t) := by
 obtain ⟨U, V, K, h1, h2, h3, e⟩ := h
 exact ⟨_, _, _, h1.mul k, h2.mul k, h3.mul k, fun t => by simp only [e]; exact r94⟩
theorem Idl.pk (k : Pol G) : Idl p X Y (fun t => p * G t) := ⟨_, _, _, Pol.const 0, Pol.const 0, k, fun t => by exact r104⟩
theorem Idl.congr (h : Idl p X Y F) (e : ∀ t, G t = F t) : Idl p X Y G := by
 obtain ⟨U, V, K, h1, h2, h3, e'⟩ := h
 exact ⟨U, V, K, h1, h2, h3, fun t => by rw [e, e']⟩
theorem Idl.trans {X' Y' : Int -> Int} (h : Idl p X Y F) (hx : Idl p X' Y' X) (hy : Idl p X' Y' Y) : Idl p X' Y' F := by
 obtain ⟨U, V, K, h1, h2, h3, e⟩ := h
 exact (((hx.mul h1).add (hy.mul h2)).add (Idl.pk h3)).congr e
theorem Dv.trans (h : Dv p X F) (k : Dv p F G) : Dv p X G := by
 obtain ⟨U, K, h1, h2, e⟩ := h
 obtain ⟨U', K', k1, k2, e'⟩ := k
 exact ⟨_, _, h1.mul k1, (h2.mul k1).add k2, fun t => by simp only [e', e]; exact r95⟩
theorem Dv.of_idl (h : Idl p X Y F) (hx : Dv p Z X) (hy : Dv p Z Y) : Dv p Z F := by
 obtain ⟨U, V, K, h1, h2, h3, e⟩ := h
 obtain ⟨U1, K1, a1, a2, e1⟩ := hx
 obtain ⟨U2, K2, b1, b2, e2⟩ := hy
 exact ⟨_, _, (a1.mul h1).add (b1.mul h2), ((a2.mul h1).add (b2.mul h2)).add h3, fun t => by simp only [e, e1, e2]; exact r96⟩
theorem Dv.congr (h : Dv p X F) (e : ∀ t, G t = F t) : Dv p X G := by
 obtain ⟨U, K, h1, h2, e'⟩ := h
 exact ⟨U, K, h1, h2, fun t => by rw [e, e']⟩
theorem Dv.add (h : Dv p X F) (k : Dv p X G) : Dv p X (fun t => F t + G t) := by
 obtain ⟨U, K, h1, h2, e⟩ := h
 obtain ⟨U', K', k1, k2, e'⟩ := k
 exact ⟨_, _, h1.add k1, h2.add k2, fun t => by simp only [e, e']; exact r97⟩
theorem Dv.mul (h : Dv p X F) (k : Pol G) : Dv p X (fun t => F t * G t) := by
 obtain ⟨U, K, h1, h2, e⟩ := h
 exact ⟨_, _, h1.mul k, h2.mul k, fun t => by simp only [e]; exact r98⟩
theorem Dv.refl : Dv p X X := ⟨_, _, Pol.const 1, Pol.const 0, fun t => by exact r99⟩
theorem Dv.pk (k : Pol G) : Dv p X (fun t => p * G t) := ⟨_, _, Pol.const 0, k, fun t => by exact r105⟩
end
theorem Dv.small {p : Int} (pp : PP p) {d l : List Int} {m : Nat} (hd : d.length = m + 1) (hl : ¬ p ∣ co d m) (h : Dv p (pe d) (pe l)) (hi : ∀ i, m <= i -> p ∣ co l i) : ∀ i, p ∣ co l i := by
 obtain ⟨U, K, ⟨q, hq⟩, ⟨k, hk⟩, e⟩ := h
 exact y1n pp hd hl _ q k l rfl (fun x => by rw [e, hq, hk]) hi
structure y3h (p : Int) (a b d : List Int) : Prop where
 res : z9c p d
 ne : d ≠ []
 monic : co d (d.length - 1) = 1
 dva : Dv p (pe d) (pe a)
 dvb : Dv p (pe d) (pe b)
 bez : Idl p (pe a) (pe b) (pe d)
theorem y3h.len_le {p : Int} (P : z1g p) {a b d : List Int} (g : y3h p a b d) {e : List Int} {m : Nat} (he : e.length = m + 1) (hl : ¬ p ∣ co e m) (ha : Dv p (pe e) (pe a)) (hb : Dv p (pe e) (pe b)) : e.length <= d.length := by
 have hde : Dv p (pe e) (pe d) := Dv.of_idl g.bez ha hb
 refine Nat.not_lt.mp fun q => ?_
 have := hde.small P.pp he hl (fun i hi => by rw [z0y (by exact o542 q he hi)]; exact Int.dvd_zero p) (d.length - 1)
 rw [g.monic] at this
 exact P.n1 this
theorem y3h.unique {p : Int} (P : z1g p) {a b d e : List Int} (g : y3h p a b d) (h : y3h p a b e) : d = e := by
 have hd0 : d.length ≠ 0 := fun q => g.ne (List.length_eq_zero_iff.mp q)
 have he0 : e.length ≠ 0 := fun q => h.ne (List.length_eq_zero_iff.mp q)
 have h2 := P.two
 have n1 : ∀ {z : Int}, z = 1 -> ¬ p ∣ z := fun hz q => by
  rw [hz] at q
  have := Int.le_of_dvd (by decide) q
  exact o112 h2 this
 have l1 := g.len_le P (m := e.length - 1) (by exact o53 he0) (n1 h.monic) h.dva h.dvb
 have l2 := h.len_le P (m := d.length - 1) (by exact o53 hd0) (n1 g.monic) g.dva g.dvb
 have hl : d.length = e.length := by exact o543 l2 l1
 have hde : Dv p (pe d) (pe e) := Dv.of_idl h.bez g.dva g.dvb
 have hs : Dv p (pe d) (pe (z3m e (psc (-1) d))) := (hde.add (Dv.refl.mul (Pol.const (-1)))).congr fun t => by rw [z2c, z0n]; exact r100
 have key := hs.small P.pp (m := d.length - 1) (by exact o53 hd0) (n1 g.monic) fun i hi => by
  rw [z2g, z0p]
  by_cases h3 : i = d.length - 1
  ·rw [h3, g.monic, hl, h.monic]; exact Int.dvd_zero p
  ·rw [z0y (l := e) (by exact o544 hi l1 h3), z0y (l := d) (by exact o115 hi h3)]; exact Int.dvd_zero p
 refine z2d hl fun i => ?_
 have := key i
 rw [z2g, z0p] at this
 have a1 := g.res.rng.co (show 0 < p by exact z7f h2) i
 have a2 := h.res.rng.co (show 0 < p by exact z7f h2) i
 rcases Int.lt_trichotomy (co d i) (co e i) with q | q | q
 ·have := z7m (p := p) (x := co e i - co d i) (by rw [show co e i - co d i = co e i + -1 * co d i by exact o50]; exact this) (by exact o545 q) (by exact o546 a1.1 a2.2)
  exact (Int.sub_eq_zero.mp this).symm
 ·exact q
 ·have := z7m (p := p) (x := co d i - co e i) (by rw [show co d i - co e i = -(co e i + -1 * co d i) by exact o547]; exact Int.dvd_neg.mpr this) (by exact o545 q) (by exact o546 a2.1 a1.2)
  exact Int.sub_eq_zero.mp this
theorem y9r (n : Nat) (p : Int) (P : z1g p) (hp2 : p <= 1000) (a b : List Int) (ha : Rng p a) (hb : z9c p b) (hb0 : b ≠ []) (la : a.length <= 100) (lb : b.length <= 100) :
  z3p (n + 4) 13 [li a, li b, .int p] fun v => ∃ r, A4 (v = li r) (z9c p r) (r.length < b.length) (∃ q k : List Int, ∀ x, pe a x = pe b x * pe q x + pe r x + p * pe k x) := by
 obtain ⟨v, hv, w, r, rfl, h1, h2, h3⟩ := y4u n p P hp2 a b ha hb hb0 la lb
 refine z0f (d := q1e) (ρ0 := [some (li a), some (li b), some (.int p)]) rfl rfl rfl ?_
 refine z0d.here (z0d.ret (v := li r) ?_ ⟨r, rfl, h1, h2, h3⟩)
 exact cvo [true, false] (.c (z0c hv) .n) rfl
theorem y7o {l : List Int} (h : l = [] \/ co l (l.length - 1) ≠ 0) : tr l = l := z2h.tr_eq h
theorem z3s {f : Int -> Int} (hf : f 0 = 0) (l : List Int) (i : Nat) : co (l.map f) i = f (co l i) := by
 simp only [co, List.getD_eq_getElem?_getD, List.getElem?_map]
 cases l[i]? <;> simp [hf]
theorem y7w (n : Nat) (p : Int) (P : z1g p) (hp2 : p <= 1000) (a : List Int) (ha : z9c p a) (h0 : a ≠ []) (la : a.length <= 100) :
  z3p (n + 3) 14 [li a, .int p] fun v => E2 fun d i => A6 (v = li d) (z9c p d) (d.length = a.length) (co d (d.length - 1) = 1) ((∀ t, p ∣ co d t - i * co a t)) (p ∣ co a (a.length - 1) * i - 1) := by
 have hp := P.two
 have hal : a.length ≠ 0 := fun q => h0 (List.length_eq_zero_iff.mp q)
 have hBB : (1000 : Int) <= BB := by decide +kernel
 obtain ⟨v, hv, i, rfl, i0, i1, i2⟩ := z2z n (co a (a.length - 1)) p hp (by exact o395 hBB hp2) (P.cop _ (ha.lead h0 (by exact Int.le_of_lt hp)))
 refine z0f (d := y6y) (ρ0 := [some (li a), some (.int p)]) rfl rfl rfl ?_
 have e1 := z2a h0
 have sm : SmL a := fun x hx => by
  have := ha.rng x hx
  exact z0v (by exact y4y this.1) (by exact y6i this.2 hp2)
 have e2 := y1p n a i p (by exact z7f hp) (by exact o420 la) sm (z0v (by exact y4y i0) (by exact y6i i1 hp2))
 have z0 : (fun x => x * i % p) (0 : Int) = 0 := by simp
 have hlead : co (a.map fun x => x * i % p) (a.length - 1) = 1 := by
  rw [z3s z0]
  have : (co a (a.length - 1) * i - 1) % p = 0 := Int.emod_eq_zero_of_dvd i2
  have e : co a (a.length - 1) * i = 1 + (co a (a.length - 1) * i - 1) := by exact o404
  show co a (a.length - 1) * i % p = 1
  rw [e, Int.add_emod, this, Int.add_zero, Int.emod_emod, Int.emod_eq_of_lt (by decide) (by exact o405 hp)]
 have htr : tr (a.map fun x => x * i % p) = a.map fun x => x * i % p := y7o (.inr (by rw [List.length_map, hlead]; decide))
 rw [htr] at e2
 refine z0d.here (z0d.ret (v := li (a.map fun x => x * i % p)) ?_ ⟨_, i, rfl, ⟨z4w fun t => ?_, .inr (by rw [List.length_map, hlead]; decide)⟩, by simp, by rw [List.length_map, hlead], fun t => ?_, i2⟩)
 ·have h' : 0 < a.length := by exact o284 hal
  simp only [li] at e2 ⊢
  exact cvo [true, true, false, true, true, true] (.c (z0c e2) (.c (z0c hv) (.c (z2i e1) (.c (z5z (Int.natCast_pos.mpr h')) (.c z0h .n))))) rfl
 ·rw [z3s z0]; exact z4q (by exact z7f hp)
 ·rw [z3s z0]
  have := z1f (co a t * i) p
  rw [show co a t * i % p - i * co a t = -(co a t * i - co a t * i % p) by rw [Int.mul_comm i]; exact o121]
  exact Int.dvd_neg.mpr this
end Mine
end
section
namespace Mine
theorem q0q {p : Int} {a b r q k : List Int} (h : ∀ x, pe a x = pe b x * pe q x + pe r x + p * pe k x) : Idl p (pe b) (pe r) (pe a) /\ Idl p (pe a) (pe b) (pe r) := by
 refine ⟨⟨_, _, _, Pol.pe q, Pol.const 1, Pol.pe k, fun t => by rw [h t]; exact r101⟩, ⟨_, _, _, Pol.const 1, (Pol.pe q).neg, (Pol.pe k).neg, fun t => ?_⟩⟩
 have := h t
 simp only [this]
 exact r81
theorem q2k (n : Nat) (p : Int) (P : z1g p) (hp2 : p <= 1000) (a b : List Int) (ha : z9c p a) (hb : z9c p b) (h0 : a ≠ [] \/ b ≠ []) (la : a.length <= 100) (lb : b.length <= 100) :
  z3p (n + 5) 15 [li a, li b, .int p] fun v => ∃ d, v = li d /\ y3h p a b d /\ d.length <= 100 := by
 refine z0f (d := q4i) (ρ0 := [some (li a), some (li b), some (.int p)]) rfl rfl rfl ?_
 refine z0d.seqP (P := fun ρ => ∃ x : List Int, A7 (ρ = [some (li x), some (li []), some (.int p)]) (z9c p x) (x ≠ []) (x.length <= 100) (Idl p (pe x) (pe []) (pe a)) (Idl p (pe x) (pe []) (pe b)) (Idl p (pe a) (pe b) (pe x)))
  (z0e.whl (fun k ρ => E2 fun (x y : List Int) => A11 (ρ = [some (li x), some (li y), some (.int p)]) (z9c p x) (z9c p y) ((x ≠ [] \/ y ≠ [])) (x.length <= 100) (y.length <= 100) (Idl p (pe x) (pe y) (pe a)) (Idl p (pe x) (pe y) (pe b)) (Idl p (pe a) (pe b) (pe x)) (Idl p (pe a) (pe b) (pe y)) (y.length = k)) b.length
   ⟨a, b, rfl, ha, hb, h0, la, lb, Idl.left, Idl.right, Idl.left, Idl.right, rfl⟩ (by rw [z3t]; exact o422 lb) ?_) ?_
 ·rintro k ρ ⟨x, y, rfl, hx, hy, hxy, lx, ly, i1, i2, i3, i4, rfl⟩
  by_cases hy0 : y = []
  ·subst hy0
   exact .inl ⟨by exact cvo [false, false] .n rfl, x, rfl, hx, hxy.resolve_right (by simp), lx, i1, i2, i3⟩
  ·have h' : 0 < y.length := by
    have : y.length ≠ 0 := fun q => hy0 (List.length_eq_zero_iff.mp q)
    exact o284 this
   obtain ⟨v, hv, r, rfl, hr, hrl, q, kk, hq⟩ := y9r n p P hp2 x y hx.rng hy hy0 lx ly
   obtain ⟨j1, j2⟩ := q0q hq
   refine .inr ⟨by exact cvo [true, true] (.c (z5z (Int.natCast_pos.mpr h')) (.c z0h .n)) rfl, z0e.seq (ρ1 := [some (li y), some (li r), some (.int p)]) (by exact z0w (cvo [true] (.c (z0c hv) .n) rfl) rfl) (z0e.skip ⟨r.length, hrl, y, r, rfl, hy, hr, .inl hy0, ly, by exact o423 hrl ly, i1.trans j1 Idl.left, i2.trans j1 Idl.left, i4, j2.trans i3 i4, rfl⟩)⟩
 ·rintro ρ ⟨x, rfl, hx, hx0, lx, i1, i2, i3⟩
  obtain ⟨v, hv, d, i, rfl, hd, hdl, hdm, hdc, hi⟩ := y7w (n + 1) p P hp2 x hx hx0 lx
  refine z0d.here (z0d.ret (v := li d) (by exact cvo [true] (.c (z0c hv) .n) rfl) ⟨d, rfl, ?_, by exact o548 hdl lx⟩)
  have hxl : x.length ≠ 0 := fun q => hx0 (List.length_eq_zero_iff.mp q)
  have hdx : ∃ k : List Int, ∀ t, pe d t = i * pe x t + p * pe k t := by
   obtain ⟨k, hk⟩ := z4r (p := p) (u := d) (v := psc i x) fun t => by rw [z0p]; exact hdc t
   exact ⟨k, fun t => by rw [hk, z0n]⟩
  obtain ⟨k, hk⟩ := hdx
  obtain ⟨c, hc⟩ := hi
  have hxd : Dv p (pe d) (pe x) := by
   refine ⟨_, _, Pol.const (co x (x.length - 1)), ((Pol.pe k).smul (-(co x (x.length - 1)))).add ((Pol.pe x).smul (-c)), fun t => ?_⟩
   rw [hk]
   have e : co x (x.length - 1) * i = 1 + p * c := by exact o424 hc
   exact r82 hc
  have ze : Dv p (pe d) (pe []) := ⟨_, _, Pol.const 0, Pol.const 0, fun t => by simp [pe]⟩
  refine ⟨hd, fun q => by rw [q] at hdl; simp at hdl; exact q3r hdl hxl, hdm, Dv.of_idl i1 hxd ze, Dv.of_idl i2 hxd ze, ?_⟩
  refine ((i3.mul (Pol.const i)).add (Idl.pk (Pol.pe k))).congr fun t => by rw [hk]; exact r83
theorem y3h.congr {p : Int} {a b a' b' d : List Int} (g : y3h p a b d) (ha : ∀ t, p ∣ co a' t - co a t) (hb : ∀ t, p ∣ co b' t - co b t) : y3h p a' b' d := by
 obtain ⟨k, hk⟩ := z4r ha
 obtain ⟨l, hl⟩ := z4r hb
 refine ⟨g.res, g.ne, g.monic, (g.dva.add (Dv.pk (Pol.pe k))).congr hk, (g.dvb.add (Dv.pk (Pol.pe l))).congr hl, g.bez.trans ?_ ?_⟩
 ·exact (Idl.left.add (Idl.pk (Pol.pe k).neg)).congr fun t => by rw [hk]; exact r102
 ·exact (Idl.right.add (Idl.pk (Pol.pe l).neg)).congr fun t => by rw [hl]; exact r102
noncomputable def rs (p : Int) (l : List Int) : List Int := tr (l.map fun x => x % p)
theorem q7b (p : Int) (l : List Int) (i : Nat) : co (rs p l) i = co l i % p := by
 unfold rs; rw [z9a, z3s (f := fun x => x % p) (by simp)]
theorem z9e {p : Int} (hp : 0 < p) (l : List Int) : z9c p (rs p l) := ⟨z4w fun i => by rw [q7b]; exact z4q hp, z4b _⟩
theorem y2g (p : Int) (l : List Int) (i : Nat) : p ∣ co l i - co (rs p l) i := by rw [q7b]; exact z1f _ _
theorem y7r {p : Int} {l : List Int} {i : Nat} (h : ¬ p ∣ co l i) : rs p l ≠ [] := fun q => h (by
 have := y2g p l i
 rw [q] at this
 simpa [co] using this)
theorem y3o (p : Int) (l : List Int) : (rs p l).length <= l.length := by
 have := z6a (l.map fun x => x % p)
 rwa [List.length_map] at this
noncomputable def im (p c : Int) (d : List Int) : List Int := tr (d.map fun x => x * (c % p) % p)
theorem y3q (n : Nat) (p : Int) (P : z1g p) (hp2 : p <= 1000) (a b : List Int) (c : Int) (h0 : (∃ i, ¬ p ∣ co a i) \/ (∃ i, ¬ p ∣ co b i)) (la : a.length <= 100) (lb : b.length <= 100) :
  z3p (n + 6) 32 [li a, li b, .int c, .int p] fun v => ∃ d, v = li (im p c d) /\ y3h p a b d := by
 have hp := P.two
 refine z0f (d := q1f) (ρ0 := [some (li a), some (li b), some (.int c), some (.int p)]) rfl rfl rfl ?_
 have e1 := y6h (n + 3) a p (by exact z7f hp) (by exact o420 la)
 have e2 := y6h (n + 3) b p (by exact z7f hp) (by exact o420 lb)
 obtain ⟨v, hv, d, rfl, g, hdl⟩ := q2k n p P hp2 (rs p a) (rs p b) (z9e (by exact z7f hp) a) (z9e (by exact z7f hp) b) (h0.imp (fun ⟨i, q⟩ => y7r q) fun ⟨i, q⟩ => y7r q) (by have := y3o p a; exact o421 la this) (by have := y3o p b; exact o421 lb this)
 have hc := z4q (p := p) (x := c) (by exact z7f hp)
 have sm : SmL d := fun x hx => by
  have := g.res.rng x hx
  exact z0v (by exact y4y this.1) (by exact y6i this.2 hp2)
 have e3 := y1p (n + 3) d (c % p) p (by exact z7f hp) (by exact o420 hdl) sm (z0v (by exact y4y hc.1) (by exact y6i hc.2 hp2))
 refine z0d.here (z0d.ret (v := li (im p c d)) ?_ ⟨d, rfl, g.congr (y2g p a) (y2g p b)⟩)
 have hpne : p ≠ 0 := by exact q3p hp
 unfold rs at hv
 unfold im
 exact cvo [true, true, true, true, true] (.c (z0c e3) (.c (z4a hpne ((show 0 <= p by exact q2n hp))) (.c (z0c hv) (.c (z0c e2) (.c (z0c e1) .n))))) rfl
theorem q3a (p c : Int) (d : List Int) (i : Nat) : co (im p c d) i = co d i * (c % p) % p := by
 unfold im; rw [z9a, z3s (f := fun x => x * (c % p) % p) (by simp)]
theorem y3x {p c : Int} (P : z1g p) {d : List Int} (hd : d ≠ []) (hm : co d (d.length - 1) = 1) (hc : ¬ p ∣ c) : (im p c d).length = d.length /\ co (im p c d) (d.length - 1) = c % p := by
 have hp := P.two
 have hdl : d.length ≠ 0 := fun q => hd (List.length_eq_zero_iff.mp q)
 have e : co (im p c d) (d.length - 1) = c % p := by
  rw [q3a, hm, Int.one_mul, Int.emod_emod]
 refine ⟨?_, e⟩
 unfold im
 rw [z2w]
 refine z6b (fun i hi => z0y (by simpa using hi)) (.inr fun q => hc ?_)
 rw [z3s (f := fun x => x * (c % p) % p) (by simp)] at q
 rw [hm, Int.one_mul, Int.emod_emod] at q
 exact Int.dvd_of_emod_eq_zero q
end Mine
end
section
namespace Mine
theorem z0d.seqW {Φ : Nat -> List D -> Option D} {N : Nat} {c : ME} {b r : MS} {ρ : z3y} {Q : D -> Prop} {P : z3y -> Prop} (I : Nat -> z3y -> Prop) (k : Nat) (h0 : I k ρ) (hk : k < N)
  (step : ∀ k ρ, I k ρ -> (ev Φ ρ c [] = some (.bool false) /\ P ρ) \/ (ev Φ ρ c [] = some (.bool true) /\ (z0d Φ N b ρ Q \/ z0e Φ N b ρ fun ρ' => ∃ k', k' < k /\ I k' ρ'))) (fin : ∀ ρ1, P ρ1 -> z0d Φ N r ρ1 Q) : z0d Φ N (.seq (.whl c b) r) ρ Q := by
 obtain ⟨fl, ρ', e, h⟩ := q0h (test := fun ρ => z7r (ev Φ ρ c [])) (body := fun ρ => xs Φ N b ρ) I (fun fl ρ' => match fl with | .next => P ρ' | .ret d => Q d) (fun k ρ h => by
  rcases step k ρ h with ⟨e, p⟩ | ⟨e, ⟨v, ρ', e2, q⟩ | ⟨ρ', e2, k', hk', h'⟩⟩
  ·exact .inl ⟨by rw [e]; rfl, p⟩
  ·exact .inr ⟨by rw [e]; rfl, .ret v, ρ', e2, .inl ⟨v, rfl, q⟩⟩
  ·exact .inr ⟨by rw [e]; rfl, .next, ρ', e2, .inr ⟨rfl, k', hk', h'⟩⟩) k N ρ hk h0
 cases fl with
 | next => exact z0d.seqP ⟨ρ', by simp only [xs, e], h⟩ fin
 | ret d => exact z0d.here ⟨d, ρ', by simp only [xs, e], h⟩
theorem dv0 {X F : Int -> Int} : Dv 0 X F <-> ∃ u : List Int, ∀ t, F t = X t * pe u t := by
 constructor
 ·rintro ⟨U, K, ⟨u, hu⟩, _, e⟩
  exact ⟨u, fun t => by rw [e, hu]; exact o51⟩
 ·rintro ⟨u, hu⟩
  exact ⟨_, _, Pol.pe u, Pol.const 0, fun t => by rw [hu]; exact o52⟩
theorem z1e {l : List Int} (h : l ≠ []) : l.length ≠ 0 := fun q => h (List.length_eq_zero_iff.mp q)
theorem z2h.lead {l : List Int} (h : z2h l) (h0 : l ≠ []) : co l (l.length - 1) ≠ 0 := h.resolve_left h0
theorem z3k {a b : List Int} (ha : z2h a) (hb : z2h b) (a0 : a ≠ []) (b0 : b ≠ []) : z2h (z0j a b) /\ (z0j a b).length = a.length + b.length - 1 /\ co (z0j a b) (a.length + b.length - 2) = co a (a.length - 1) * co b (b.length - 1) := by
 have la := z1e a0
 have lb := z1e b0
 have e1 := z5k a b (a.length - 1) (b.length - 1) (by exact o53 la) (by exact o53 lb)
 have e2 := z4j a b (a.length - 1) (b.length - 1) (by exact o53 la) (by exact o53 lb)
 have h1 : a.length - 1 + (b.length - 1) = a.length + b.length - 2 := by exact o54 lb la
 rw [h1] at e1 e2
 refine ⟨.inr ?_, by exact o55 e1 la lb, e2⟩
 rw [e1, Nat.add_sub_cancel, e2]
 exact Int.mul_ne_zero (ha.lead a0) (hb.lead b0)
theorem q0c {r b : List Int} (hr : z2h r) (hb : z2h b) (b0 : b ≠ []) (h : Dv 0 (pe b) (pe r)) : r = [] \/ ∃ u, z2h u /\ u ≠ [] /\ r = z0j b u := by
 obtain ⟨u, hu⟩ := dv0.mp h
 by_cases hu0 : tr u = []
 ·left
  refine z7u hr (.inl rfl) fun i => ?_
  have := z5t (a := r) (b := []) (fun x => by rw [hu, <- y7y u, hu0]; simp [pe]) i
  exact this
 ·right
  obtain ⟨t1, _⟩ := z3k hb (z4b u) b0 hu0
  exact ⟨tr u, z4b u, hu0, z7u hr t1 fun i => z5t (fun x => by rw [hu, z0m, y7y]) i⟩
theorem y7c {l : List Int} {B : Int} (h0 : 0 <= B) (h : ∀ x ∈ l, -B <= x /\ x <= B) (i : Nat) : -B <= co l i /\ co l i <= B := by
 by_cases hi : i < l.length
 ·exact h _ (y8m hi)
 ·rw [z0y (by exact Nat.not_lt.mp hi)]; exact o56 h0
noncomputable def Bnd (B : Int) (l : List Int) : Prop := ∀ i, -B <= co l i /\ co l i <= B
theorem Bnd.sm {B : Int} {l : List Int} (h : Bnd B l) (hB : B <= 2 ^ 1999) : SmL l := fun x hx => by
 obtain ⟨i, _, rfl⟩ := z5b hx
 exact z1k (h i).1 (h i).2 hB
theorem Bnd.inB {B : Int} {l : List Int} (h : Bnd B l) (hB : B <= BB) : InB l := fun x hx => by
 obtain ⟨i, _, rfl⟩ := z5b hx
 have := h i
 exact o59 this.1 this.2 hB
theorem z0b {a b A B : Int} (h1 : -A <= a) (h2 : a <= A) (h3 : -B <= b) (h4 : b <= B) : -(A * B) <= a * b /\ a * b <= A * B := by
 have hA : 0 <= A := by exact o60 h1 h2
 have hB : 0 <= B := by exact o60 h3 h4
 have : (a * b).natAbs <= (A * B).natAbs := by
  rw [Int.natAbs_mul, Int.natAbs_mul]
  exact Nat.mul_le_mul (by exact o61 h1 h2) (by exact o61 h3 h4)
 exact o602 this (Int.mul_nonneg hA hB)
theorem z6l {l : List Int} (h0 : l ≠ []) : ((l.length : Int) == 0) = false := by
 have := z1e h0
 rw [beq_eq_false_iff_ne]; exact o62 this
theorem pw (B : Int) (n k : Nat) : B ^ (n + 1 + k) = B ^ n * B * B ^ k := by rw [Int.pow_add, Int.pow_succ]
theorem z5s (n : Nat) (l : List Int) (h0 : l ≠ []) : phi prog (n + 1) 27 [li l] = some .none := by
 have h2 := z6l h0
 exact q2j (d := z7l) rfl rfl (z0q (z1o (cvo [true, true] (.c (y0c h2) (.c z0h .n)) rfl) z0l) z0l)
theorem y7u (n : Nat) (a b : List Int) (ta : z2h a) (tb : z2h b) (b0 : b ≠ []) (la : a.length <= 10) (lb : b.length <= 10) (ba : Bnd (2 ^ 60) a) (bb : Bnd (2 ^ 40) b) :
  z3p (n + 4) 28 [li a, li b] fun v => (v = .none /\ ¬ Dv 0 (pe b) (pe a)) \/ (∃ q, v = li q /\ Dv 0 (pe b) (pe a)) := by
 have hbl := z1e b0
 obtain ⟨m, hm⟩ : ∃ m : Nat, m = a.length + 1 - b.length := ⟨_, rfl⟩
 refine z0f (d := y6v) (ρ0 := [some (li a), some (li b), none, none, none, none]) rfl rfl rfl ?_
 refine z0d.seq (ρ1 := [some (li a), some (li b), none, none, none, none]) (q3t (cvo [true] (.c (z0c (z5s (n + 2) b b0)) .n) rfl)) ?_
 refine z0d.seq (ρ1 := [some (li a), some (li b), some (li a), some (li (List.replicate m 0)), none, none]) ?_ ?_
 ·have e1 : (if (a.length : Int) - b.length + 1 > 0 then (a.length : Int) - b.length + 1 else 0) = m := y5e hm
  have e2 : (-1000000 : Int) <= m /\ (m : Int) <= 1000000 := by exact o63 hm la
  exact z0w (cvo [false, true, true, false, false, true, true] (.c (y8q e2.1 e2.2) (.c (y5x e1) (.c z0h (.c z0h .n)))) rfl) rfl
 have hpow : ∀ j : Nat, j <= 10 -> (0 : Int) <= 2 ^ 60 * (2 ^ 41) ^ j /\ (2 ^ 60 * (2 ^ 41) ^ j : Int) <= 2 ^ 500 := fun j hj => by
  have : ∀ j ∈ List.range 11, (0 : Int) <= 2 ^ 60 * (2 ^ 41) ^ j /\ (2 ^ 60 * (2 ^ 41) ^ j : Int) <= 2 ^ 500 := by decide +kernel
  exact this j (List.mem_range.mpr (by exact o64 hj))
 have h500 : (2 ^ 500 : Int) <= 2 ^ 1999 := by decide +kernel
 refine z0d.seqW (P := fun ρ => E4 fun (rest found : List Int) (o4 o5 : Option D) => A5 (ρ = [some (li a), some (li b), some (li rest), some (li found), o4, o5]) (z2h rest) (rest.length < b.length) (found.length = m) ((Dv 0 (pe b) (pe a) <-> Dv 0 (pe b) (pe rest))))
  (fun k ρ => E4 fun (rest found : List Int) (o4 o5 : Option D) => A7 (ρ = [some (li a), some (li b), some (li rest), some (li found), o4, o5]) (z2h rest) (rest.length <= a.length) (found.length = m) ((Dv 0 (pe b) (pe a) <-> Dv 0 (pe b) (pe rest))) (Bnd (2 ^ 60 * (2 ^ 41) ^ (a.length - rest.length)) rest) (rest.length = k)) a.length
  ⟨a, List.replicate m 0, none, none, rfl, ta, Nat.le_refl _, by simp, Iff.rfl, by rw [Nat.sub_self]; simpa using ba, rfl⟩ (by rw [z3t]; exact o65 la) ?_ ?_
 ·rintro k ρ ⟨rest, found, o4, o5, rfl, tr0, hrl, hfl, hiff, hbd, rfl⟩
  by_cases hlt : rest.length < b.length
  ·have : ¬ (b.length : Int) <= rest.length := by exact o66 hlt
   exact .inl ⟨cvo [true, true, true] (.c (q1s this) (.c z0h (.c z0h .n))) rfl, rest, found, o4, o5, rfl, tr0, hlt, hfl, hiff⟩
  ·have hr0 : rest ≠ [] := fun q => hlt (by rw [q]; exact Nat.pos_of_ne_zero hbl)
   have hle : (b.length : Int) <= rest.length := by exact o67 hlt
   have hrl0 := z1e hr0
   have lr := tr0.lead hr0
   have lbn := tb.lead b0
   obtain ⟨x, hx⟩ : ∃ x, co rest (rest.length - 1) = x := ⟨_, rfl⟩
   obtain ⟨y, hy⟩ : ∃ y, co b (b.length - 1) = y := ⟨_, rfl⟩
   rw [hx] at lr
   rw [hy] at lbn
   have i1 := z2a hr0
   have i2 := z2a b0
   rw [hx] at i1
   rw [hy] at i2
   refine .inr ⟨cvo [true, true, true] (.c (y8r hle) (.c z0h (.c z0h .n))) rfl, ?_⟩
   have hfe : x.fmod y = 0 <-> y ∣ x := Int.dvd_iff_fmod_eq_zero.symm
   by_cases hd : y ∣ x
   ·right
    have hf0 := hfe.mpr hd
    obtain ⟨c, rfl⟩ := hd
    have hq : (y * c).fdiv y = c := Int.mul_fdiv_cancel_left _ lbn
    obtain ⟨hp1, hp2⟩ := hpow (a.length - rest.length) (by exact o68 la)
    have byy := bb (b.length - 1)
    rw [hy] at byy
    have bx := hbd (rest.length - 1)
    rw [hx] at bx
    obtain ⟨R0, hR0⟩ : ∃ R0 : Int, R0 = 2 ^ 60 * (2 ^ 41) ^ (a.length - rest.length) := ⟨_, rfl⟩
    rw [<- hR0] at hp1 hp2 bx hbd
    have hcb : -R0 <= c /\ c <= R0 := by
     have h1 : (y * c).natAbs = y.natAbs * c.natAbs := Int.natAbs_mul _ _
     have h2 : 1 * c.natAbs <= y.natAbs * c.natAbs := Nat.mul_le_mul_right _ (by exact o69 lbn)
     exact o70 h2 bx.1 h1 bx.2
    have sy : small y = true := z1k byy.1 byy.2 (by decide +kernel)
    have sc : small c = true := z1k hcb.1 hcb.2 (Int.le_trans hp2 (by decide +kernel))
    have c0 : c ≠ 0 := fun q => lr (by rw [q]; simp)
    refine z0e.seq (ρ1 := [some (li a), some (li b), some (li rest), some (li found), o4, o5]) (z1o (cvo [false, true, false, true, true, false] (.c (y5w lbn hf0) (.c (z2i i2) (.c (z2i i1) .n))) rfl) z0l) ?_
    refine z0e.seq (ρ1 := [some (li a), some (li b), some (li rest), some (li found), some (.int c), some (.int ((rest.length - b.length : Nat) : Int))]) ?_ ?_
    ·have e : (rest.length : Int) - b.length = ((rest.length - b.length : Nat) : Int) := by exact o75 hlt
     exact z0w (cvo [false, true, false, true, true, true, true, true] (.c (y5z (op := .sub) (congrArg some e)) (.c z0h (.c z0h (.c (y5y lbn sy hq) (.c (z2i i2) (.c (z2i i1) .n)))))) rfl) rfl
    refine z0e.seq (ρ1 := [some (li a), some (li b), some (li rest), some (li (found.set (rest.length - b.length) c)), some (.int c), some (.int ((rest.length - b.length : Nat) : Int))]) ?_ ?_
    ·have h1 : ((rest.length - b.length : Nat) : Int) < found.length := by exact o76 hm hfl hrl hlt
     exact y2o (cvo [] .n rfl) rfl (cvo [] .n rfl) (Int.natCast_nonneg _) h1
    have e1 := z2u (n + 2) b c (bb.sm (by decide +kernel)) sc
    rw [if_neg c0] at e1
    have hps : psc c b ≠ [] := fun q => b0 (by simpa [psc] using q)
    have e2 := z8r (n + 2) (psc c b) (rest.length - b.length) (by simp [psc]; exact o78 lb) (by exact o79 la hrl)
    rw [if_neg hps] at e2
    have e3 := y2j n rest (psh (rest.length - b.length) (psc c b)) (by exact o80 la hrl) (by simp [psh, psc]; exact o81 lb la hrl)
    obtain ⟨rest', hrest'⟩ : ∃ rest', rest' = tr (z3m rest (psc (-1) (psh (rest.length - b.length) (psc c b)))) := ⟨_, rfl⟩
    rw [<- hrest'] at e3
    have hco : ∀ i, co rest' i = co rest i - (if i < rest.length - b.length then 0 else c * co b (i - (rest.length - b.length))) := fun i => by
     rw [hrest', z9a, z2g, z0p, y4h]
     split
     ·exact rfl
     ·rw [z0p]; exact o82
    have hlen : rest'.length < rest.length := by
     rw [hrest', z2w]
     refine Nat.not_le.mp fun q => ?_
     have hz := z8m (z3m rest (psc (-1) (psh (rest.length - b.length) (psc c b)))) (by exact o83 hrl0 q)
     have ht := y8x (z3m rest (psc (-1) (psh (rest.length - b.length) (psc c b))))
     rw [z2e] at ht
     simp only [psc, psh, List.length_map, List.length_append, List.length_replicate] at ht
     have hteq : tl (z3m rest (psc (-1) (psh (rest.length - b.length) (psc c b)))) = rest.length := by
      simp only [psc, psh] at q ⊢
      exact o84 ht q hlt
     have := hco (rest.length - 1)
     rw [hrest', z9a] at this
     rw [hteq] at hz
     rw [if_neg (by exact o85 hbl), show rest.length - 1 - (rest.length - b.length) = b.length - 1 by exact o86 hlt, hx, hy] at this
     exact hz (by rw [this, Int.mul_comm]; exact o87)
    refine z0e.seq (ρ1 := [some (li a), some (li b), some (li rest'), some (li (found.set (rest.length - b.length) c)), some (.int c), some (.int ((rest.length - b.length : Nat) : Int))]) (z0g (cvo [true, true, true] (.c (z0c e3) (.c (z0c e2) (.c (z0c e1) .n))) rfl)) (z0e.skip ⟨rest'.length, hlen, rest', _, _, _, rfl, by rw [hrest']; exact z4b _, by exact o88 hlen hrl, by simp [hfl], ?_, ?_, rfl⟩)
    ·have hpe : ∀ t, pe rest' t = pe rest t - pe b t * (c * t ^ (rest.length - b.length)) := fun t => by
      rw [hrest', y7y, z2c, z0n, z7e, z0n]; exact r6
     refine hiff.trans ⟨fun h => ?_, fun h => ?_⟩
     ·exact (h.add (Dv.refl.mul ((Pol.pow (rest.length - b.length)).smul (-c)))).congr fun t => by rw [hpe]; exact r7
     ·exact (h.add (Dv.refl.mul ((Pol.pow (rest.length - b.length)).smul c))).congr fun t => by rw [hpe]; exact r8
    ·intro i
     have h1 : (2 ^ 60 * (2 ^ 41) ^ (a.length - rest'.length) : Int) >= R0 * 2 ^ 41 := by
      have e : a.length - rest'.length = (a.length - rest.length) + 1 + (rest.length - 1 - rest'.length) := by exact o89 hlen hrl
      rw [e, pw, hR0]
      have h1 : (1 : Int) <= (2 ^ 41) ^ (rest.length - 1 - rest'.length) := by
       have := Int.pow_pos (n := (2 ^ 41 : Int)) (m := rest.length - 1 - rest'.length) (by decide)
       exact o90 this
      generalize (2 ^ 41 : Int) ^ (rest.length - 1 - rest'.length) = z at h1
      rw [hR0] at hp1
      generalize (2 ^ 41 : Int) ^ (a.length - rest.length) = y0 at hp1
      have h2 : (0 : Int) <= 2 ^ 60 * y0 * 2 ^ 41 := Int.mul_nonneg hp1 (by decide)
      have h3 := Int.mul_le_mul_of_nonneg_left h1 h2
      have e2 : (2 ^ 60 * (y0 * 2 ^ 41 * z) : Int) = 2 ^ 60 * y0 * 2 ^ 41 * z := by rw [<- Int.mul_assoc, <- Int.mul_assoc]
      rw [e2]
      rw [Int.mul_one] at h3
      exact h3
     have h2 := hbd i
     rw [hco]
     have h3 := bb (i - (rest.length - b.length))
     have h4 := z0b hcb.1 hcb.2 h3.1 h3.2
     have h5 : R0 * 2 ^ 41 = R0 * 2 ^ 40 + R0 * 2 ^ 40 := by
      rw [<- Int.mul_add]; rfl
     have h6 : R0 <= R0 * 2 ^ 40 := by
      have := Int.mul_le_mul_of_nonneg_left (show (1 : Int) <= 2 ^ 40 by decide) hp1
      exact o91 hp1
     split <;> (first | exact o92 h1 h2.1 h2.2 | exact o93 h1 h4.1 h2.1 h4.2 h2.2)
   ·left
    refine z0d.here (z0d.iteT ?_ (z0d.here (z0d.ret (v := .none) rfl (.inl ⟨rfl, fun h => ?_⟩))))
    ·have : ¬ x.fmod y = 0 := fun q => hd (hfe.mp q)
     exact cvo [false, true, false, true, true, true] (.c (y1h this) (.c (y5w lbn rfl) (.c (z2i i2) (.c (z2i i1) .n)))) rfl
    ·rcases q0c tr0 tb b0 (hiff.mp h) with q | ⟨u, tu, u0, hu⟩
     ·exact hr0 q
     ·obtain ⟨_, q1, q2⟩ := z3k tb tu b0 u0
      rw [<- hu] at q1 q2
      rw [show b.length + u.length - 2 = rest.length - 1 by exact o94 q1, hx, hy] at q2
      exact hd ⟨_, q2⟩
 ·rintro ρ ⟨rest, found, o4, o5, rfl, tr0, hlt, hfl, hiff⟩
  by_cases hr0 : rest = []
  ·subst hr0
   have e := z7z (n + 2) found (by exact o95 hm hfl la)
   refine z0d.here (z0d.ret (v := li (tr found)) ?_ (.inr ⟨_, rfl, hiff.mpr ⟨_, _, Pol.const 0, Pol.const 0, fun t => by simp [pe]⟩⟩))
   exact cvo [false, false, true] (.c (z0c e) .n) rfl
  ·refine z0d.here (z0d.ret (v := .none) ?_ (.inl ⟨rfl, fun h => ?_⟩))
   ·have := z6l hr0
    exact cvo [true, true] (.c (y0c this) (.c z0h .n)) rfl
   ·have hd := (hiff.mp h).small PP0 (m := b.length - 1) (by exact o96 hlt) (by rw [Int.zero_dvd]; exact tb.lead b0) (fun i hi => by rw [z0y (by exact o97 hi hlt)]; exact Int.dvd_zero 0) (rest.length - 1)
    rw [Int.zero_dvd] at hd
    exact tr0.lead hr0 hd
end Mine
end
section
namespace Mine
theorem z9f (n : Nat) (a b : List Int) (ta : z2h a) (tb : z2h b) (b0 : b ≠ []) (la : a.length <= 10) (lb : b.length <= 10) (ba : Bnd (2 ^ 60) a) (bb : Bnd (2 ^ 40) b) :
  ∃ t : Bool, phi prog (n + 5) 29 [li b, li a] = some (.bool t) /\ (t = true <-> Dv 0 (pe b) (pe a)) := by
 obtain ⟨v, hv, h⟩ := y7u n a b ta tb b0 la lb ba bb
 rcases h with ⟨rfl, h⟩ | ⟨q, rfl, h⟩
 ·refine ⟨false, z3p.eq (z0f (d := z8y) (ρ0 := [some (li b), some (li a)]) rfl rfl rfl (z0d.here (z0d.ret (v := .bool false) (cvo [true, false] (.c (z0c hv) .n) rfl) rfl))), by simp [h]⟩
 ·refine ⟨true, z3p.eq (z0f (d := z8y) (ρ0 := [some (li b), some (li a)]) rfl rfl rfl (z0d.here (z0d.ret (v := .bool true) (cvo [true, false] (.c (z0c hv) .n) rfl) rfl))), by simp [h]⟩
theorem y2m (n : Nat) (c a b : List Int) (ta : z2h a) (tb : z2h b) (tc : z2h c) (c0 : c ≠ []) (la : a.length <= 10) (lb : b.length <= 10) (lc : c.length <= 10) (ba : Bnd (2 ^ 60) a) (bb : Bnd (2 ^ 60) b) (bc : Bnd (2 ^ 40) c) :
  ∃ t : Bool, phi prog (n + 6) 35 [li c, li a, li b] = some (.bool t) /\ (t = true <-> Dv 0 (pe c) (pe a) /\ Dv 0 (pe c) (pe b)) := by
 obtain ⟨t1, e1, h1⟩ := z9f n a c ta tc c0 la lc ba bc
 obtain ⟨t2, e2, h2⟩ := z9f n b c tb tc c0 lb lc bb bc
 refine ⟨t1 && t2, z3p.eq (z0f (d := y0u) (ρ0 := [some (li c), some (li a), some (li b)]) rfl rfl rfl (z0d.here (z0d.ret (v := .bool (t1 && t2)) ?_ rfl))), by rw [Bool.and_eq_true, h1, h2]⟩
 cases t1
 ·exact cvo [true] (.c (z0c e1) .n) rfl
 ·exact cvo [true, true] (.c (z0c e2) (.c (z0c e1) .n)) rfl
theorem z9u (n : Nat) (l : List Int) (m : Int) (hm : 1 <= m) (hm2 : m <= BB) (hl : l.length <= 1000) : phi prog (n + 2) 34 [li l, .int m] = some (li (tr (l.map fun x => sym x m))) := by
 refine z3p.eq (z0f (d := z7k) (ρ0 := [some (li l), some (.int m)]) rfl rfl rfl ?_)
 refine z0d.here (z0d.ret (v := li (tr (l.map fun x => sym x m))) ?_ rfl)
 have e := z3a (Φ := phi prog (n + 1)) (ρ := [some (li l), some (.int m)]) (κ := []) (elt := .call 9 (.cons (.cvar 0) (.cons (.var 1) .nil))) (it := .var 0) (l := l) (g := fun x => sym x m) rfl (fun x hx => cvo [true] (.c (z0c (y2k n x m hm hm2)) .n) rfl)
 have e3 := z7z n (l.map fun x => sym x m) (by simpa using hl)
 exact cvo [true, true] (.c (z0c e3) (.c e .n)) rfl
theorem y0w {opn : D -> Option (List D)} {c f : List D -> Option D} {R : Nat -> Int -> Prop} : ∀ {items : List D} (j : Nat), (∀ i d, items[i]? = some d -> E2 fun ks y => A4 (opn d = some ks) (c ks = some (.bool true)) (f ks = some (.int y)) (R (j + i) y)) ->
  ∃ l : List Int, z3n opn c f items = some (l.map .int) /\ l.length = items.length /\ ∀ i, i < l.length -> R (j + i) (co l i)
 | [], j, _ => ⟨[], rfl, rfl, by simp⟩
 | d :: r, j, h => by
  obtain ⟨ks, y, h1, h2, h3, h4⟩ := h 0 d rfl
  obtain ⟨l, e, hl, hR⟩ := y0w (items := r) (j + 1) fun i d hd => by
   obtain ⟨ks, y, a1, a2, a3, a4⟩ := h (i + 1) d (by simpa using hd)
   exact ⟨ks, y, a1, a2, a3, by rwa [show j + 1 + i = j + (i + 1) by exact o98]⟩
  refine ⟨y :: l, by simp [z3n, h1, h2, h3, e], by simp [hl], fun i hi => ?_⟩
  cases i with
  | zero => rw [z0x]; exact h4
  | succ i =>
   rw [z0s, show j + (i + 1) = j + 1 + i by exact o99]
   exact hR i (by simpa using hi)
theorem y7x (n : Nat) (a b : List Int) (m p : Int) (hm : 1 <= m) (hp : 1 <= p) (hm2 : m <= CB) (hp2 : p <= CB) (ha : Rng m a) (hb : Rng p b) (hl : a.length = b.length) (hg : Int.gcd m p = 1) :
  z3p (n + 4) 33 [li a, .int m, li b, .int p] fun v => ∃ c, A5 (v = li c) (c.length = a.length) (Rng (m * p) c) ((∀ i, m ∣ co c i - co a i)) ((∀ i, p ∣ co c i - co b i)) := by
 refine z0f (d := y6z) (ρ0 := [some (li a), some (.int m), some (li b), some (.int p)]) rfl rfl rfl ?_
 obtain ⟨l, e, hll, hR⟩ := y0w (opn := z0u 2 true) (c := fun _ => some (.bool true)) (f := fun ks => ev (phi prog (n + 3)) [some (li a), some (.int m), some (li b), some (.int p)] (.idx (.call 8 (.cons (.list (.cons (.tup (.cons (.cvar 1) (.cons (.var 1) .nil))) (.cons (.tup (.cons (.idx (.var 2) (.cvar 0)) (.cons (.var 3) .nil))) .nil))) .nil)) (.int 0)) ks)
  (R := fun i z => 0 <= z /\ z < m * p /\ m ∣ z - co a i /\ p ∣ z - co b i) (items := z2r 0 (a.map D.int)) 0 (fun i d hd => by
   have hi : i < a.length := by
    have := (List.getElem?_eq_some_iff.mp hd).1
    rwa [z1n, List.length_map] at this
   obtain ⟨x, hx, rfl⟩ := z3f _ _ _ _ hd
   rw [z9l hi] at hx
   cases hx
   have ra := ha _ (y8m hi)
   have rb := hb _ (y8m (l := b) (i := i) (by exact o100 hi hl))
   obtain ⟨v, hv, z, rfl, z0, z1, z2, z3⟩ := y4w n (co a i) m (co b i) p hm hp hm2 hp2 ra.1 ra.2 rb.1 rb.2 hg
   refine ⟨[.int ((0 + i : Nat) : Int), .int (co a i)], z, rfl, rfl, ?_, ?_⟩
   ·have e1 := z9k (l := b) (i := (i : Int)) (by exact Int.natCast_nonneg _) (by exact o101 hi hl)
    rw [Int.toNat_natCast] at e1
    rw [Nat.zero_add]
    exact cvo [true, true, false] (.c (z0c hv) (.c (z2i e1) .n)) rfl
   ·rw [Nat.zero_add]; exact ⟨z0, z1, z2, z3⟩)
 rw [z1n, List.length_map] at hll
 refine z0d.here (z0d.ret (v := li l) ?_ ⟨l, rfl, hll, fun x hx => ?_, fun i => ?_, fun i => ?_⟩)
 ·exact y0q (x := .list (z2r 0 (a.map D.int))) rfl rfl e
 ·obtain ⟨i, hi, rfl⟩ := z5b hx
  have := hR i hi
  exact ⟨this.1, this.2.1⟩
 ·by_cases hi : i < l.length
  ·have := hR i hi
   rw [Nat.zero_add] at this
   exact this.2.2.1
  ·rw [z0y (l := l) (by exact o102 hi), z0y (l := a) (by exact o103 hll hi)]; exact Int.dvd_zero m
 ·by_cases hi : i < l.length
  ·have := hR i hi
   rw [Nat.zero_add] at this
   exact this.2.2.2
  ·rw [z0y (l := l) (by exact o102 hi), z0y (l := b) (by exact o104 hll hl hi)]; exact Int.dvd_zero p
end Mine
end
section
namespace Mine
set_option genCtorIdx false
set_option genSizeOf false
theorem z6r {k : Int} {R : Int} : ∀ {l : List Int}, (∀ x ∈ l, k ∣ R * x) -> k ∣ R * (z0t l : Int) := by
 have key : ∀ (l : List Int) (g : Nat), k ∣ R * (g : Int) -> (∀ x ∈ l, k ∣ R * x) -> k ∣ R * ((l.foldl (fun g x => Nat.gcd g x.natAbs) g : Nat) : Int) := by
  intro l
  induction l with
  | nil => intro g hg _; exact hg
  | cons x r ih =>
   intro g hg hx
   refine ih _ ?_ fun y hy => hx y (List.mem_cons_of_mem _ hy)
   show k ∣ R * ((Nat.gcd g x.natAbs : Nat) : Int)
   have h1 : k.natAbs ∣ R.natAbs * g := by
    have := Int.natAbs_dvd_natAbs.mpr hg
    rwa [Int.natAbs_mul, Int.natAbs_natCast] at this
   have h2 : k.natAbs ∣ R.natAbs * x.natAbs := by
    have := Int.natAbs_dvd_natAbs.mpr (hx x List.mem_cons_self)
    rwa [Int.natAbs_mul] at this
   have h3 : k.natAbs ∣ R.natAbs * Nat.gcd g x.natAbs := by
    rw [<- Nat.gcd_mul_left]
    exact Nat.dvd_gcd h1 h2
   rw [<- Int.natAbs_dvd_natAbs, Int.natAbs_mul, Int.natAbs_natCast]
   exact h3
 intro l h
 exact key l 0 (by simp) h
theorem y2z {k : Int} {l : List Int} (h : ∀ x ∈ l, k ∣ x) : k ∣ (z0t l : Int) := by
 have := z6r (k := k) (R := 1) (l := l) fun x hx => by rw [Int.one_mul]; exact h x hx
 rwa [Int.one_mul] at this
theorem y7a : ∀ {l : List Int}, ∀ x ∈ l, (z0t l : Int) ∣ x := by
 have key : ∀ (l : List Int) (g : Nat), (l.foldl (fun g x => Nat.gcd g x.natAbs) g) ∣ g /\ ∀ x ∈ l, (l.foldl (fun g x => Nat.gcd g x.natAbs) g) ∣ x.natAbs := by
  intro l
  induction l with
  | nil => intro g; exact ⟨Nat.dvd_refl _, by simp⟩
  | cons y r ih =>
   intro g
   obtain ⟨h1, h2⟩ := ih (Nat.gcd g y.natAbs)
   refine ⟨Nat.dvd_trans h1 (Nat.gcd_dvd_left _ _), fun x hx => ?_⟩
   rcases List.mem_cons.mp hx with q | q
   ·subst q; exact Nat.dvd_trans h1 (Nat.gcd_dvd_right _ _)
   ·exact h2 x q
 intro l x hx
 have := (key l 0).2 x hx
 exact Int.dvd_trans (Int.natCast_dvd_natCast.mpr this) Int.natAbs_dvd_self
theorem z2s {l : List Int} (h : z2h l) (h0 : l ≠ []) : z0t l ≠ 0 := fun q => by
 have hl := z1e h0
 have := y7a _ (y8m (l := l) (i := l.length - 1) (by exact Nat.sub_lt (Nat.pos_of_ne_zero hl) Nat.one_pos))
 rw [q] at this
 exact h.lead h0 (Int.zero_dvd.mp this)
theorem y3c {l : List Int} (i : Nat) : (z0t l : Int) ∣ co l i := by
 by_cases hi : i < l.length
 ·exact y7a _ (y8m hi)
 ·rw [z0y (by exact Nat.not_lt.mp hi)]; exact Int.dvd_zero _
structure Prm (l : List Int) : Prop where
 trim : z2h l
 ne : l ≠ []
 pos : 0 < zl l
 one : z0t l = 1
theorem y9f {l : List Int} (h : z2h l) (h0 : l ≠ []) : (if 0 < zl l then (z0t l : Int) else -(z0t l : Int)) ≠ 0 := by
 have := z2s h h0
 split <;> (first | exact o62 this | exact o105 this)
theorem y0j {l : List Int} (h : z2h l) (h0 : l ≠ []) (i : Nat) : co l i = (if 0 < zl l then (z0t l : Int) else -(z0t l : Int)) * co (z2o l) i := by
 have hs := y9f h h0
 obtain ⟨s, hse⟩ : ∃ s, (if 0 < zl l then (z0t l : Int) else -(z0t l : Int)) = s := ⟨_, rfl⟩
 have hd : s ∣ co l i := by
  rw [<- hse]
  split
  ·exact y3c i
  ·exact Int.neg_dvd.mpr (y3c i)
 unfold z2o
 rw [hse] at hs ⊢
 rw [z3s (f := fun x => x.fdiv s) (Int.zero_fdiv s)]
 obtain ⟨z, hz⟩ := hd
 rw [hz, Int.mul_fdiv_cancel_left _ hs]
theorem z3i (l : List Int) : (z2o l).length = l.length := by simp [z2o]
theorem z3w {l : List Int} (h : z2h l) (h0 : l ≠ []) : Prm (z2o l) := by
 have hl := z1e h0
 have hc := z2s h h0
 have e := y0j h h0 (l.length - 1)
 have hlead := h.lead h0
 have hz : 0 < zl (z2o l) := by
  unfold zl
  rw [z3i]
  unfold zl at e
  by_cases h1 : 0 < co l (l.length - 1)
  ·rw [if_pos h1] at e
   rw [e] at h1
   exact Int.pos_of_mul_pos_right h1 (by exact o106 hc) |> fun q => q
  ·rw [if_neg h1] at e
   have h2 : co l (l.length - 1) < 0 := by exact o107 hlead h1
   rw [e, Int.neg_mul] at h2
   have h3 : 0 < (z0t l : Int) * co (z2o l) (l.length - 1) := by exact o108 h2
   exact Int.pos_of_mul_pos_right h3 (by exact o106 hc)
 refine ⟨.inr ?_, fun q => by have := z3i l; rw [q] at this; simp at this; exact q3r this hl, hz, ?_⟩
 ·unfold zl at hz; exact Int.ne_of_gt hz
 ·have key : (z0t l : Int) * (z0t (z2o l) : Int) ∣ (z0t l : Int) := by
   have : ∀ x ∈ l, (z0t l : Int) * (z0t (z2o l) : Int) ∣ x := fun x hx => by
    obtain ⟨i, _, rfl⟩ := z5b hx
    rw [y0j h h0 i]
    have h1 := y3c (l := z2o l) i
    split
    ·exact Int.mul_dvd_mul (Int.dvd_refl _) h1
    ·rw [Int.neg_mul]; exact Int.dvd_neg.mpr (Int.mul_dvd_mul (Int.dvd_refl _) h1)
   exact y2z this
  have h1 : z0t l * z0t (z2o l) ∣ z0t l * 1 := by
   rw [Nat.mul_one]
   exact Int.natCast_dvd_natCast.mp (by rw [Int.natCast_mul]; exact key)
  have := Nat.dvd_of_mul_dvd_mul_left (by exact Nat.pos_of_ne_zero hc) h1
  exact Nat.dvd_one.mp this
theorem z8p {S c : List Int} (hS : Prm S) (hc : Prm c) (hl : S.length = c.length) {R k : Int} (hR : R ≠ 0) (h : ∀ i, R * co S i = k * co c i) : c = S := by
 have h1 : k ∣ R := by
  have := z6r (k := k) (R := R) (l := S) fun x hx => by
   obtain ⟨i, _, rfl⟩ := z5b hx
   exact ⟨_, h i⟩
  rw [hS.one] at this
  simpa using this
 have h2 : R ∣ k := by
  have := z6r (k := R) (R := k) (l := c) fun x hx => by
   obtain ⟨i, _, rfl⟩ := z5b hx
   exact ⟨_, (h i).symm⟩
  rw [hc.one] at this
  simpa using this
 have h3 : R.natAbs = k.natAbs := Nat.dvd_antisymm (Int.natAbs_dvd_natAbs.mpr h2) (Int.natAbs_dvd_natAbs.mpr h1)
 have hlead := h (S.length - 1)
 have p1 := hS.pos
 have p2 := hc.pos
 unfold zl at p1 p2
 rw [<- hl] at p2
 have hk : k = R := by
  rcases Int.natAbs_eq_natAbs_iff.mp h3 with q | q
  ·exact q.symm
  ·exfalso
   rw [q, Int.neg_mul] at hlead
   have hk0 : k ≠ 0 := by exact o110 q hR
   rw [<- Int.mul_neg] at hlead
   have := Int.eq_of_mul_eq_mul_left hk0 hlead
   exact o111 this p1 p2
 subst hk
 exact z2d hl.symm fun i => (Int.eq_of_mul_eq_mul_left hR (h i)).symm
end Mine
end
section
namespace Mine
set_option genCtorIdx false
set_option genSizeOf false
structure GG (a b S : List Int) (R w : Int) : Prop where
 pa : z2h a
 pb : z2h b
 a0 : a ≠ []
 b0 : b ≠ []
 la : a.length <= 10
 lb : b.length <= 10
 ba : Bnd (2 ^ 30) a
 bb : Bnd (2 ^ 30) b
 pS : Prm S
 ls : 2 <= S.length
 ua : Dv 0 (pe S) (pe a)
 ub : Dv 0 (pe S) (pe b)
 bez : Idl 0 (pe a) (pe b) (fun t => R * pe S t)
 R0 : R ≠ 0
 R1 : R.natAbs <= 652
 ca : z0t a = 1
 fr : (Int.gcd (zl a) (zl b) : Int) = zl S * w
 wb : ∀ i, -326 <= w * co S i /\ w * co S i <= 326
theorem y8i {p : Int} {X F : Int -> Int} (h : Dv 0 X F) : Dv p X F := by
 obtain ⟨U, K, h1, h2, e⟩ := h
 exact ⟨U, _, h1, Pol.const 0, fun t => by rw [e]; exact r9⟩
theorem q4a {p : Int} {X Y F : Int -> Int} (h : Idl 0 X Y F) : Idl p X Y F := by
 obtain ⟨U, V, K, h1, h2, h3, e⟩ := h
 exact ⟨U, V, _, h1, h2, Pol.const 0, fun t => by rw [e]; exact r10⟩
section
variable {a b S : List Int} {R w : Int} (g : GG a b S R w)
include g
theorem GG.sl : S.length ≠ 0 := z1e g.pS.ne
theorem GG.front_pos : 0 < (Int.gcd (zl a) (zl b) : Int) := by
 have h1 : zl a ≠ 0 := g.pa.lead g.a0
 have : Int.gcd (zl a) (zl b) ≠ 0 := fun q => h1 (Int.gcd_eq_zero_iff.mp q).1
 exact o106 this
theorem GG.lead_nd {p : Int} (hp : ¬ p ∣ (Int.gcd (zl a) (zl b) : Int)) : ¬ p ∣ co S (S.length - 1) := fun q => hp (by
 rw [g.fr]; exact Int.dvd_trans q (Int.dvd_mul_right _ _))
theorem GG.a_nd {p : Int} (P : z1g p) : ∃ i, ¬ p ∣ co a i := by
 refine Classical.byContradiction fun h => ?_
 have h' : ∀ i, p ∣ co a i := fun i => Classical.byContradiction fun q => h ⟨i, q⟩
 have : p ∣ (z0t a : Int) := y2z fun x hx => by
  obtain ⟨i, _, rfl⟩ := z5b hx
  exact h' i
 rw [g.ca] at this
 exact P.n1 this
theorem GG.len_ge {p : Int} (P : z1g p) {d : List Int} (hd : y3h p a b d) (hp : ¬ p ∣ (Int.gcd (zl a) (zl b) : Int)) : S.length <= d.length :=
 hd.len_le P (m := S.length - 1) (by have := g.sl; exact o53 this) (g.lead_nd hp) (y8i g.ua) (y8i g.ub)
theorem GG.len_le10 {p : Int} (P : z1g p) {d : List Int} (hd : y3h p a b d) : d.length <= 10 := by
 have hdl := z1e hd.ne
 refine Nat.not_lt.mp fun q => ?_
 obtain ⟨i, hi⟩ := g.a_nd P
 have h2 := P.two
 refine hi (hd.dva.small P.pp (m := d.length - 1) (by exact o53 hdl) (fun z => ?_) (fun i hi => ?_) i)
 ·rw [hd.monic] at z
  have := Int.le_of_dvd (by decide) z
  exact o112 h2 this
 ·rw [z0y (Nat.le_trans g.la (Nat.le_trans (Nat.le_sub_one_of_lt q) hi))]; exact Int.dvd_zero p
theorem GG.good {p : Int} (P : z1g p) {d : List Int} (hd : y3h p a b d) (hp : ¬ p ∣ (Int.gcd (zl a) (zl b) : Int)) (hl : d.length = S.length) (i : Nat) : p ∣ co (im p (Int.gcd (zl a) (zl b)) d) i - w * co S i := by
 have hsl := g.sl
 have hdl := z1e hd.ne
 have hSd : Dv p (pe S) (pe d) := Dv.of_idl hd.bez (y8i g.ua) (y8i g.ub)
 have h1 : Dv p (pe S) (pe (z3m (psc (zl S) d) (psc (-1) S))) := ((hSd.mul (Pol.const (zl S))).add (Dv.refl.mul (Pol.const (-1)))).congr fun t => by rw [z2c, z0n, z0n]; exact r11
 have h2 := h1.small P.pp (m := S.length - 1) (by exact o53 hsl) (g.lead_nd hp) (fun j hj => by
  rw [z2g, z0p, z0p]
  by_cases q : j = S.length - 1
  ·have e : co d j = 1 := by rw [q, <- hl]; exact hd.monic
   rw [e, q]
   unfold zl
   rw [show co S (S.length - 1) * 1 + -1 * co S (S.length - 1) = 0 by exact o113]
   exact Int.dvd_zero p
  ·rw [z0y (l := d) (by exact o114 hj hl q), z0y (l := S) (by exact o115 hj q)]; simp) i
 rw [z2g, z0p, z0p] at h2
 rw [q3a]
 have d1 := z1f (co d i * ((Int.gcd (zl a) (zl b) : Int) % p)) p
 have d2 := z1f (Int.gcd (zl a) (zl b) : Int) p
 have e : co d i * ((Int.gcd (zl a) (zl b) : Int) % p) % p - w * co S i = w * (zl S * co d i + -1 * co S i) - co d i * ((Int.gcd (zl a) (zl b) : Int) - (Int.gcd (zl a) (zl b) : Int) % p) - (co d i * ((Int.gcd (zl a) (zl b) : Int) % p) - co d i * ((Int.gcd (zl a) (zl b) : Int) % p) % p) := by
  have := g.fr
  exact r12 this
 rw [e]
 exact Int.dvd_sub (Int.dvd_sub (Int.dvd_trans h2 (Int.dvd_mul_left _ _)) (Int.dvd_trans d2 (Int.dvd_mul_left _ _))) d1
theorem GG.bad {p : Int} (P : z1g p) {d : List Int} (hd : y3h p a b d) (hp : ¬ p ∣ (Int.gcd (zl a) (zl b) : Int)) (hl : S.length < d.length) : p ∣ R := by
 have hsl := g.sl
 have h2 := P.two
 have h1 : Dv p (pe d) (pe (psc R S)) := (Dv.of_idl (q4a g.bez) hd.dva hd.dvb).congr fun t => z0n R t S
 have h3 := h1.small P.pp (m := d.length - 1) (by exact o96 hl) (fun z => by
  rw [hd.monic] at z
  have := Int.le_of_dvd (by decide) z
  exact o112 h2 this) (fun j hj => by rw [z0y (by simp [psc]; exact o97 hj hl)]; exact Int.dvd_zero p) (S.length - 1)
 rw [z0p] at h3
 exact (P.pp _ _ h3).resolve_right (g.lead_nd hp)
theorem GG.cand {c : List Int} (hc : Prm c) (hl : S.length <= c.length) (ha : Dv 0 (pe c) (pe a)) (hb : Dv 0 (pe c) (pe b)) : c = S := by
 have hsl := g.sl
 have hcl := z1e hc.ne
 have h1 : Dv 0 (pe c) (pe (psc R S)) := (Dv.of_idl g.bez ha hb).congr fun t => z0n R t S
 have tS : z2h (psc R S) := .inr (by
  simp only [psc, List.length_map]
  have := z0p R (S.length - 1) S
  rw [psc] at this
  rw [this]
  exact Int.mul_ne_zero g.R0 (g.pS.trim.lead g.pS.ne))
 rcases q0c tS hc.trim hc.ne h1 with q | ⟨u, tu, u0, hu⟩
 ·exact absurd (by simpa [psc] using q) g.pS.ne
 ·have hul := z1e u0
  obtain ⟨_, q1, _⟩ := z3k hc.trim tu hc.ne u0
  have q2 : (psc R S).length = S.length := by simp [psc]
  rw [<- hu, q2] at q1
  obtain ⟨k, hk⟩ : ∃ k, u = [k] := by
   have : u.length = 1 := by exact o116 q1 hul hl
   exact List.length_eq_one_iff.mp this
  refine z8p g.pS hc (by exact o117 q1 hul hl) g.R0 (k := k) fun i => ?_
  have := z5t (a := psc R S) (b := psc k c) (fun x => by
   rw [hu, z0m, z0n, hk]
   simp only [pe]; exact r13) i
  rwa [z0p, z0p] at this
noncomputable def KS (a b S : List Int) (R w : Int) (kn : List Int) (m : Int) : Prop :=
 1 <= m /\ kn ≠ [] /\ kn.length <= 10 /\ Rng m kn /\ (¬ m ∣ co kn (kn.length - 1)) /\
  ((kn.length = S.length /\ ∀ i, m ∣ co kn i - w * co S i) \/ (S.length < kn.length /\ m ∣ R))
end
end Mine
end
section
namespace Mine
set_option genCtorIdx false
set_option genSizeOf false
set_option tactic.hygienic true in
theorem y0e (x m : Int) (hm : 1 <= m) : m ∣ sym x m - x /\ -m <= 2 * sym x m /\ 2 * sym x m <= m := by
 have h0 := z4q (p := m) (x := x) (by exact hm)
 have h1 := z1f x m
 unfold sym
 split
 ·rename_i q
  refine ⟨?_, o612 h0 q, by exact o118 hm h0.2⟩
  rw [show x % m - m - x = -(x - x % m) - m by exact o119]
  exact Int.dvd_sub (Int.dvd_neg.mpr h1) (Int.dvd_refl m)
 ·rename_i q
  refine ⟨?_, by exact o120 h0.1 hm, o613 q⟩
  rw [show x % m - x = -(x - x % m) by exact o121]
  exact Int.dvd_neg.mpr h1
theorem y6c (m : Int) (hm : 1 <= m) : sym 0 m = 0 := by
 unfold sym
 rw [Int.zero_emod, if_neg (by exact o122 hm)]
theorem y8y {x y m : Int} (hm : 1 <= m) (h : m ∣ x - y) (h1 : -m < 2 * y) (h2 : 2 * y < m) : sym x m = y := by
 obtain ⟨a1, a2, a3⟩ := y0e x m hm
 have a4 : m ∣ sym x m - y := by
  rw [show sym x m - y = (sym x m - x) + (x - y) by exact o123]
  exact Int.dvd_add a1 h
 have := Int.eq_zero_of_dvd_of_natAbs_lt_natAbs a4 (by exact o124 h2 a3 h1 a2)
 exact o125 this
theorem y2i {l : List Int} {B : Int} (h : z2h l) (h0 : l ≠ []) (hb : Bnd B l) : Bnd B (z2o l) := fun i => by
 have e := y0j h h0 i
 have hs := y9f h h0
 have h1 : (co l i).natAbs = ((if 0 < zl l then (z0t l : Int) else -(z0t l : Int))).natAbs * (co (z2o l) i).natAbs := by
  rw [<- Int.natAbs_mul, <- e]
 have h2 : 1 * (co (z2o l) i).natAbs <= ((if 0 < zl l then (z0t l : Int) else -(z0t l : Int))).natAbs * (co (z2o l) i).natAbs := Nat.mul_le_mul_right _ (by exact o69 hs)
 have := hb i
 exact o70 h2 this.1 h1 this.2
structure CS (kn : List Int) (m : Int) : Prop where
 m1 : 1 <= m
 m2 : m <= 2 ^ 40
 ne : kn ≠ []
 le : kn.length <= 10
 rng : Rng m kn
 lead : ¬ m ∣ co kn (kn.length - 1)
noncomputable def cnd (kn : List Int) (m : Int) : List Int := tr (kn.map fun x => sym x m)
theorem CS.cnd {kn : List Int} {m : Int} (c : CS kn m) : z2h (cnd kn m) /\ (cnd kn m).length = kn.length /\ Bnd (2 ^ 40) (cnd kn m) /\ (∀ i, co (cnd kn m) i = sym (co kn i) m) := by
 have hl := z1e c.ne
 have hco : ∀ i, co (Mine.cnd kn m) i = sym (co kn i) m := fun i => by
  unfold Mine.cnd
  rw [z9a, z3s (f := fun x => sym x m) (y6c m c.m1)]
 refine ⟨z4b _, ?_, fun i => ?_, hco⟩
 ·unfold Mine.cnd
  rw [z2w]
  refine z6b (fun i hi => z0y (by simpa using hi)) (.inr fun q => c.lead ?_)
  rw [z3s (f := fun x => sym x m) (y6c m c.m1)] at q
  have := (y0e (co kn (kn.length - 1)) m c.m1).1
  rw [show sym (co kn (kn.length - 1)) m = 0 from q] at this
  rw [show co kn (kn.length - 1) = -(0 - co kn (kn.length - 1)) by exact o126]
  exact Int.dvd_neg.mpr this
 ·rw [hco]
  exact o629 (y0e (co kn i) m c.m1).2 c.m1 c.m2
structure PG (a b S : List Int) (R w : Int) (T : Int) (kn : List Int) (m F Rb mg : Int) : Prop where
 hT : F * Rb * mg = T
 F0 : 1 <= F
 Rb0 : 1 <= Rb
 m0 : 1 <= mg
 hF : F ∣ (Int.gcd (zl a) (zl b) : Int)
 hR : Rb ∣ R
 hm1 : 1 <= m
 hm : m ∣ T
 st : (kn = [] /\ mg = 1) \/ (CS kn m /\ ((kn.length = S.length /\ m = mg /\ ∀ t, m ∣ co kn t - w * co S t) \/ (S.length < kn.length /\ mg = 1)))
section
variable {a b S : List Int} {R w : Int} (g : GG a b S R w)
include g
theorem GG.front_le : (Int.gcd (zl a) (zl b) : Int) <= 326 := by
 have := g.wb (S.length - 1)
 have e := g.fr
 unfold zl at e
 unfold zl
 rw [e, Int.mul_comm]
 exact this.2
theorem GG.w_pos : 0 < w := by
 have h := g.front_pos
 rw [g.fr] at h
 exact Int.pos_of_mul_pos_right h (by have := g.pS.pos; exact o127 this)
theorem PG.bound {T m F Rb mg : Int} {kn : List Int} (h : PG a b S R w T kn m F Rb mg) (hmg : mg <= 652) : T <= 326 * 652 * 652 := by
 have h1 : F <= 326 := Int.le_trans (Int.le_of_dvd g.front_pos h.hF) g.front_le
 have h2 : Rb <= 652 := by
  have h3 := Int.natAbs_dvd_natAbs.mpr h.hR
  have h4 := Nat.le_of_dvd (by have := g.R0; exact o128 this) h3
  have := g.R1
  exact o129 this h4
 rw [<- h.hT]
 have a1 := z0b (A := 326) (B := 652) (a := F) (b := Rb) (by have := h.F0; exact o130 this) h1 (by have := h.Rb0; exact o131 this) h2
 have a2 := z0b (A := 326 * 652) (B := 652) (a := F * Rb) (b := mg) a1.1 a1.2 (by have := h.m0; exact o131 this) hmg
 exact a2.2
theorem q6o {kn : List Int} {m : Int} (c : CS kn m) (hl : kn.length = S.length) (hm : 652 < m) (hk : ∀ t, m ∣ co kn t - w * co S t) : z2o (cnd kn m) = S := by
 obtain ⟨c1, c2, c3, c4⟩ := c.cnd
 have hsl := g.sl
 have c0 : cnd kn m ≠ [] := fun q => by rw [q] at c2; simp at c2; exact o132 c2 hl hsl
 have hco : ∀ i, co (cnd kn m) i = w * co S i := fun i => by
  rw [c4]
  have := g.wb i
  exact y8y c.m1 (hk i) (by exact o133 this.1 hm) (by exact o134 hm this.2)
 refine z8p g.pS (z3w c1 c0) (by rw [z3i, c2, hl]) (R := w) (k := (if 0 < zl (cnd kn m) then (z0t (cnd kn m) : Int) else -(z0t (cnd kn m) : Int))) (by have := g.w_pos; exact o135 this) fun i => ?_
 rw [<- hco, y0j c1 c0]
theorem GG.bndS : Bnd (2 ^ 40) S := fun i => by
 have h1 := g.wb i
 have h2 := g.w_pos
 have h3 : (w * co S i).natAbs = w.natAbs * (co S i).natAbs := Int.natAbs_mul _ _
 have h4 : 1 * (co S i).natAbs <= w.natAbs * (co S i).natAbs := Nat.mul_le_mul_right _ (by exact o136 h2)
 exact o137 h4 h1.1 h3 h1.2
omit g in
theorem z5m {F p N : Int} (P : z1g p) (hF : F ∣ N) (hp : p ∣ N) (hpF : ¬ p ∣ F) : F * p ∣ N := by
 obtain ⟨z, rfl⟩ := hF
 obtain ⟨y, rfl⟩ := (P.pp _ _ hp).resolve_left hpF
 exact ⟨y, by rw [Int.mul_assoc]⟩
omit g in
theorem im_CS {p c : Int} (P : z1g p) (hp : p <= 53) {d : List Int} (hd : d ≠ []) (hl : d.length <= 10) (hm : co d (d.length - 1) = 1) (hc : ¬ p ∣ c) : CS (im p c d) p := by
 have h2 := P.two
 obtain ⟨e1, e2⟩ := y3x P hd hm hc
 have hdl := z1e hd
 refine ⟨by exact Int.le_of_lt h2, by exact Int.le_trans hp (by decide), fun q => by rw [q] at e1; simp at e1; exact q3r e1 hdl, by exact o138 e1 hl, z4w fun i => by rw [q3a]; exact z4q (by exact z7f h2), fun q => hc ?_⟩
 rw [e1, e2] at q
 have := z1f c p
 rw [show c = (c - c % p) + c % p by exact o140]
 exact Int.dvd_add this q
theorem PG.turn {T m F Rb mg p : Int} {kn d : List Int} (h : PG a b S R w T kn m F Rb mg) (P : z1g p) (hp : p <= 53) (hpT : ¬ p ∣ T) (hmg : mg <= 652) (hnf : ¬ p ∣ (Int.gcd (zl a) (zl b) : Int)) (hd : y3h p a b d) :
  (kn = [] \/ (im p (Int.gcd (zl a) (zl b)) d).length < kn.length -> ∃ Rb' mg', PG a b S R w (T * p) (im p (Int.gcd (zl a) (zl b)) d) p F Rb' mg') /\
  (kn ≠ [] -> kn.length < (im p (Int.gcd (zl a) (zl b)) d).length -> ∃ Rb', PG a b S R w (T * p) kn m F Rb' mg) /\
  (kn ≠ [] -> (im p (Int.gcd (zl a) (zl b)) d).length = kn.length -> ∀ c, c.length = kn.length -> Rng (m * p) c -> (∀ i, m ∣ co c i - co kn i) -> (∀ i, p ∣ co c i - co (im p (Int.gcd (zl a) (zl b)) d) i) -> ∃ Rb' mg', PG a b S R w (T * p) c (m * p) F Rb' mg') := by
 have h2 := P.two
 have hT := PG.bound g h hmg
 obtain ⟨e1, e2⟩ := y3x P hd.ne hd.monic hnf
 have hge := g.len_ge P hd hnf
 have c0 := im_CS P hp hd.ne (g.len_le10 P hd) hd.monic hnf
 have hbad : S.length < d.length -> Rb * p ∣ R := fun q => z5m P h.hR (g.bad P hd hnf q) fun z => hpT (by
  rw [<- h.hT]; exact Int.dvd_trans z (Int.dvd_trans (Int.dvd_mul_left _ _) (Int.dvd_mul_right _ _)))
 have hgood := g.good P hd hnf
 have hRp : 1 <= Rb * p := by
  have := Int.mul_pos (a := Rb) (b := p) (by have := h.Rb0; exact y8a this) (by exact z7f h2)
  exact o90 this
 have hmp : 1 <= m * p := by
  have := Int.mul_pos (a := m) (b := p) (by have := h.hm1; exact y8a this) (by exact z7f h2)
  exact o90 this
 have hgp : 1 <= mg * p := by
  have := Int.mul_pos (a := mg) (b := p) (by have := h.m0; exact y8a this) (by exact z7f h2)
  exact o90 this
 have hT0 : 1 <= T := by
  rw [<- h.hT]
  have h1 := Int.mul_pos (a := F) (b := Rb) (by have := h.F0; exact y8a this) (by have := h.Rb0; exact y8a this)
  have := Int.mul_pos (a := F * Rb) (b := mg) h1 (by have := h.m0; exact y8a this)
  exact o90 this
 rw [e1]
 refine ⟨fun hk => ?_, fun hk0 hk => ?_, fun hk0 hk c hcl hcr hc1 hc2 => ?_⟩
 ·have hmg1 : mg = 1 := by
   rcases h.st with q | ⟨_, q | q⟩
   ·exact q.2
   ·rcases hk with z | z
    ·exfalso; have := g.sl; rw [z] at q; simp at q; exact q3r q.1 this
    ·exact o142 z q.1 hge
   ·exact q.2
  by_cases hl : S.length < d.length
  ·refine ⟨Rb * p, 1, ?_, h.F0, hRp, by exact Int.le_refl _, h.hF, hbad hl, by exact o143 h2, Int.dvd_mul_left _ _, .inr ⟨c0, .inr ⟨by exact q2o hl e1, rfl⟩⟩⟩
   rw [<- h.hT, hmg1]; simp [Int.mul_assoc]
  ·refine ⟨Rb, p, ?_, h.F0, h.Rb0, by exact o143 h2, h.hF, h.hR, by exact o143 h2, Int.dvd_mul_left _ _, .inr ⟨c0, .inl ⟨by exact o145 e1 hge hl, rfl, fun t => hgood (by exact o146 hge hl) t⟩⟩⟩
   rw [<- h.hT, hmg1, Int.mul_one]
 ·have hl : S.length < d.length := by
   rcases h.st with q | ⟨_, q | q⟩
   ·exact absurd q.1 hk0
   ·exact o147 hk q.1
   ·exact o148 q.1 hk
  refine ⟨Rb * p, ?_, h.F0, hRp, h.m0, h.hF, hbad hl, h.hm1, Int.dvd_trans h.hm (Int.dvd_mul_right _ _), h.st⟩
  rw [<- h.hT]; exact r14
 ·rcases h.st with q | ⟨ck, q⟩
  ·exact absurd q.1 hk0
  have hmT : m <= T := Int.le_of_dvd (by exact y8a hT0) h.hm
  have ck' : CS c (m * p) := by
   refine ⟨hmp, ?_, fun z => ?_, by have := ck.le; exact o138 hcl this, hcr, fun z => ck.lead ?_⟩
   ·have := (z0b (a := m) (b := p) (A := 326 * 652 * 652) (B := 53) (by have := h.hm1; exact o149 this) (by exact o150 hT hmT) (by exact o151 h2) hp).2
    exact o152 this
   ·have := z1e hk0; rw [z] at hcl; simp at hcl; exact q3r hcl this
   ·rw [hcl] at z
    have h3 := Int.dvd_trans (Int.dvd_mul_right m p) z
    have h4 := hc1 (kn.length - 1)
    rw [show co kn (kn.length - 1) = co c (kn.length - 1) - (co c (kn.length - 1) - co kn (kn.length - 1)) by exact o153]
    exact Int.dvd_sub h3 h4
  rcases q with ⟨q1, q2, q3⟩ | ⟨q1, q2⟩
  ·refine ⟨Rb, mg * p, by rw [<- h.hT]; exact r15, h.F0, h.Rb0, hgp, h.hF, h.hR, hmp, Int.mul_dvd_mul h.hm (Int.dvd_refl p), .inr ⟨ck', .inl ⟨by exact o154 q1 hcl, by rw [q2], fun t => ?_⟩⟩⟩
   have k1 : m ∣ co c t - w * co S t := by
    rw [show co c t - w * co S t = (co c t - co kn t) + (co kn t - w * co S t) by exact o123]
    exact Int.dvd_add (hc1 t) (q3 t)
   have k2 : p ∣ co c t - w * co S t := by
    rw [show co c t - w * co S t = (co c t - co (im p (Int.gcd (zl a) (zl b)) d) t) + (co (im p (Int.gcd (zl a) (zl b)) d) t - w * co S t) by exact o123]
    exact Int.dvd_add (hc2 t) (hgood (by exact o154 q1 hk) t)
   exact z5m P k1 k2 fun z => hpT (Int.dvd_trans z h.hm)
  ·refine ⟨Rb * p, 1, ?_, h.F0, hRp, by exact Int.le_refl _, h.hF, hbad (by exact q2o q1 hk), hmp, Int.mul_dvd_mul h.hm (Int.dvd_refl p), .inr ⟨ck', .inr ⟨by exact q2o q1 hcl, rfl⟩⟩⟩
   rw [<- h.hT, q2]; exact r16
omit g in
theorem PG.skip {T m F Rb mg p : Int} {kn : List Int} (h : PG a b S R w T kn m F Rb mg) (P : z1g p) (hpT : ¬ p ∣ T) (hf : p ∣ (Int.gcd (zl a) (zl b) : Int)) : PG a b S R w (T * p) kn m (F * p) Rb mg := by
 have h2 := P.two
 have hFp : 1 <= F * p := by
  have := Int.mul_pos (a := F) (b := p) (by have := h.F0; exact y8a this) (by exact z7f h2)
  exact o90 this
 refine ⟨by rw [<- h.hT]; exact r17, hFp, h.Rb0, h.m0, z5m P h.hF hf fun z => hpT (by
  rw [<- h.hT, Int.mul_assoc]; exact Int.dvd_trans z (Int.dvd_mul_right _ _)), h.hR, h.hm1, Int.dvd_trans h.hm (Int.dvd_mul_right _ _), h.st⟩
theorem PG.cand {T m F Rb mg : Int} {kn : List Int} (h : PG a b S R w T kn m F Rb mg) (hk : kn ≠ []) : CS kn m /\ z2h (cnd kn m) /\ cnd kn m ≠ [] /\ Prm (z2o (cnd kn m)) /\ Bnd (2 ^ 40) (z2o (cnd kn m)) /\ (z2o (cnd kn m)).length <= 10 /\
  (Dv 0 (pe (z2o (cnd kn m))) (pe a) /\ Dv 0 (pe (z2o (cnd kn m))) (pe b) -> z2o (cnd kn m) = S) /\ (652 < mg -> z2o (cnd kn m) = S) := by
 rcases h.st with q | ⟨ck, q⟩
 ·exact absurd q.1 hk
 obtain ⟨c1, c2, c3, c4⟩ := ck.cnd
 have hkl := z1e hk
 have c0 : cnd kn m ≠ [] := fun q => by rw [q] at c2; simp at c2; exact q3r c2 hkl
 refine ⟨ck, c1, c0, z3w c1 c0, y2i c1 c0 c3, by rw [z3i, c2]; exact ck.le, fun ⟨ha, hb⟩ => g.cand (z3w c1 c0) ?_ ha hb, fun hmg => ?_⟩
 ·rw [z3i, c2]
  rcases q with q | q <;> (first | exact o155 q.1 | exact o156 q.1)
 ·rcases q with ⟨q1, q2, q3⟩ | ⟨q1, q2⟩
  ·exact q6o g ck q1 (by exact o157 hmg q2) q3
  ·exact absurd hmg (by rw [q2]; decide)
end
end Mine
end
section
namespace Mine
noncomputable def y9s : MS := .seq (.asg 8 (.call 25 (.cons (.call 34 (.cons (.var 4) (.cons (.var 5) .nil))) .nil))) (.seq (.ifs (.call 35 (.cons (.var 8) (.cons (.var 0) (.cons (.var 1) .nil)))) (.seq (.ret (.var 8)) .skip) .skip) .skip)
noncomputable def pgUpd : MS := .ifs (.or (.cmp .eq (.len (.var 4)) (.int 0)) (.cmp .lt (.len (.var 7)) (.len (.var 4)))) (.seq (.asgT [4, 5] (.tup (.cons (.var 7) (.cons (.var 6) .nil)))) .skip) (.seq (.ifs (.cmp .eq (.len (.var 7)) (.len (.var 4))) (.seq (.asgT [4, 5] (.tup (.cons (.call 33 (.cons (.var 4) (.cons (.var 5) (.cons (.var 7) (.cons (.var 6) .nil))))) (.cons (.bin .mul (.var 5) (.var 6)) .nil)))) .skip) .skip) .skip)
noncomputable def pgIn : MS := .seq (.asg 7 (.call 32 (.cons (.var 0) (.cons (.var 1) (.cons (.var 3) (.cons (.var 6) .nil)))))) (.seq (.ifs (.cmp .eq (.len (.var 7)) (.int 1)) (.seq (.ret (.list (.cons (.int 1) .nil))) .skip) .skip) (.seq pgUpd y9s))
theorem q6a : z4h.body = .seq (.asg 3 (.call 0 (.cons (.call 17 (.cons (.var 0) .nil)) (.cons (.call 17 (.cons (.var 1) .nil)) .nil)))) (.seq (.asgT [4, 5, 6] (.tup (.cons (.list .nil) (.cons (.int 1) (.cons (.var 2) .nil))))) (.seq (.whl (.bool true) (.seq (.ifs (.cmp .ne (.bin .mod (.var 3) (.var 6)) (.int 0)) pgIn .skip) (.seq (.asg 6 (.call 6 (.cons (.var 6) .nil))) .skip))) .skip)) := rfl
section
variable {a b S : List Int} {R w : Int} (g : GG a b S R w)
include g
noncomputable def pgE (a b : List Int) (x : Option D) (F kn m p y z : Option D) : z3y := [some (li a), some (li b), x, F, kn, m, p, y, z]
theorem q5z {T m F Rb mg : Int} {kn : List Int} (h : PG a b S R w T kn m F Rb mg) (hk : kn ≠ []) (x fr p y z : Option D) :
  z0d (phi prog 28) z5y y9s (pgE a b x fr (some (li kn)) (some (.int m)) p y z) (· = li S) \/
  (mg <= 652 /\ ∃ z', xs (phi prog 28) z5y y9s (pgE a b x fr (some (li kn)) (some (.int m)) p y z) = some (.next, pgE a b x fr (some (li kn)) (some (.int m)) p y z')) := by
 obtain ⟨ck, t1, t2, t3, t4, t5, t6, t7⟩ := PG.cand g h hk
 have hm := ck.m2
 have hBB : (2 ^ 40 : Int) <= BB := by decide +kernel
 have e1 := z9u 26 kn m ck.m1 (by exact o158 hBB hm) (by have := ck.le; exact o78 this)
 have e1' : phi prog 28 34 [li kn, .int m] = some (li (cnd kn m)) := e1
 have e2 := z1u 24 (cnd kn m) (Bnd.inB (ck.cnd).2.2.1 hBB) t2 (z2s t1 t2)
 obtain ⟨t, e3, e4⟩ := y2m 22 (z2o (cnd kn m)) a b g.pa g.pb t3.trim t3.ne g.la g.lb t5 (fun i => by have := g.ba i; exact o159 this.1 this.2) (fun i => by have := g.bb i; exact o159 this.1 this.2) t4
 have s1 : xs (phi prog 28) z5y (.asg 8 (.call 25 (.cons (.call 34 (.cons (.var 4) (.cons (.var 5) .nil))) .nil))) (pgE a b x fr (some (li kn)) (some (.int m)) p y z) = some (.next, pgE a b x fr (some (li kn)) (some (.int m)) p y (some (li (z2o (cnd kn m))))) := by
  exact z0g (cvo [true, true] (.c (z0c e2) (.c (z0c e1') .n)) rfl)
 have s2 : ev (phi prog 28) (pgE a b x fr (some (li kn)) (some (.int m)) p y (some (li (z2o (cnd kn m))))) (.call 35 (.cons (.var 8) (.cons (.var 0) (.cons (.var 1) .nil)))) [] = some (.bool t) := by
  exact cvo [true] (.c (z0c e3) .n) rfl
 cases t with
 | true =>
  left
  have := t6 (e4.mp rfl)
  refine z0d.seq s1 (z0d.here (z0d.iteT s2 (z0d.here (z0d.ret (v := li (z2o (cnd kn m))) rfl (by rw [this])))))
 | false =>
  right
  refine ⟨Int.not_lt.mp fun q => ?_, _, z0q s1 (z0q (z1o s2 z0l) z0l)⟩
  have hS := t7 q
  have : false = true := e4.mpr ⟨by rw [hS]; exact g.ua, by rw [hS]; exact g.ub⟩
  cases this
theorem pg_in {T m F Rb mg : Int} {p : Int} {kn : List Int} (h : PG a b S R w T kn m F Rb mg) (P : z1g p) (hp : p <= 53) (hpT : ¬ p ∣ T) (hmg : mg <= 652) (hnf : ¬ p ∣ (Int.gcd (zl a) (zl b) : Int)) (x y z : Option D) :
  z0d (phi prog 28) z5y pgIn (pgE a b x (some (.int (Int.gcd (zl a) (zl b)))) (some (li kn)) (some (.int m)) (some (.int p)) y z) (· = li S) \/
  E7 fun kn' m' F' Rb' mg' y' z' => A3 (PG a b S R w (T * p) kn' m' F' Rb' mg') (mg' <= 652) (xs (phi prog 28) z5y pgIn (pgE a b x (some (.int (Int.gcd (zl a) (zl b)))) (some (li kn)) (some (.int m)) (some (.int p)) y z) = some (.next, pgE a b x (some (.int (Int.gcd (zl a) (zl b)))) (some (li kn')) (some (.int m')) (some (.int p)) y' z')) := by
 have h2 := P.two
 obtain ⟨v, hv, d, rfl, hd⟩ := y3q 22 p P (by exact o160 hp) a b (Int.gcd (zl a) (zl b)) (.inl (g.a_nd P)) (by have := g.la; exact o161 this) (by have := g.lb; exact o161 this)
 obtain ⟨f, hf⟩ : ∃ f, f = im p (Int.gcd (zl a) (zl b)) d := ⟨_, rfl⟩
 have hge := g.len_ge P hd hnf
 have hle := g.len_le10 P hd
 obtain ⟨i1, _⟩ := y3x P hd.ne hd.monic hnf
 obtain ⟨tA, tC, tB⟩ := PG.turn g h P hp hpT hmg hnf hd
 have c0 := im_CS P hp hd.ne hle hd.monic hnf
 rw [<- hf] at hv i1 tA tC tB c0
 have hls := g.ls
 have s1 : xs (phi prog 28) z5y (.asg 7 (.call 32 (.cons (.var 0) (.cons (.var 1) (.cons (.var 3) (.cons (.var 6) .nil)))))) (pgE a b x (some (.int (Int.gcd (zl a) (zl b)))) (some (li kn)) (some (.int m)) (some (.int p)) y z) = some (.next, pgE a b x (some (.int (Int.gcd (zl a) (zl b)))) (some (li kn)) (some (.int m)) (some (.int p)) (some (li f)) z) := by
  exact z0g (cvo [true] (.c (z0c hv) .n) rfl)
 have s2 : xs (phi prog 28) z5y (.ifs (.cmp .eq (.len (.var 7)) (.int 1)) (.seq (.ret (.list (.cons (.int 1) .nil))) .skip) .skip) (pgE a b x (some (.int (Int.gcd (zl a) (zl b)))) (some (li kn)) (some (.int m)) (some (.int p)) (some (li f)) z) = some (.next, pgE a b x (some (.int (Int.gcd (zl a) (zl b)))) (some (li kn)) (some (.int m)) (some (.int p)) (some (li f)) z) := by
  refine z1o ?_ z0l
  have : ((f.length : Int) == 1) = false := by rw [beq_eq_false_iff_ne]; exact o162 hls i1 hge
  exact cvo [true, true] (.c (y0c this) (.c z0h .n)) rfl
 have fin : ∀ kn' m' Rb' mg', kn' ≠ [] -> PG a b S R w (T * p) kn' m' F Rb' mg' -> xs (phi prog 28) z5y pgUpd (pgE a b x (some (.int (Int.gcd (zl a) (zl b)))) (some (li kn)) (some (.int m)) (some (.int p)) (some (li f)) z) = some (.next, pgE a b x (some (.int (Int.gcd (zl a) (zl b)))) (some (li kn')) (some (.int m')) (some (.int p)) (some (li f)) z) ->
   z0d (phi prog 28) z5y pgIn (pgE a b x (some (.int (Int.gcd (zl a) (zl b)))) (some (li kn)) (some (.int m)) (some (.int p)) y z) (· = li S) \/
   E7 fun kn' m' F' Rb' mg' y' z' => A3 (PG a b S R w (T * p) kn' m' F' Rb' mg') (mg' <= 652) (xs (phi prog 28) z5y pgIn (pgE a b x (some (.int (Int.gcd (zl a) (zl b)))) (some (li kn)) (some (.int m)) (some (.int p)) y z) = some (.next, pgE a b x (some (.int (Int.gcd (zl a) (zl b)))) (some (li kn')) (some (.int m')) (some (.int p)) y' z')) := fun kn' m' Rb' mg' hk' h' s3 => by
  rcases q5z g h' hk' x (some (.int (Int.gcd (zl a) (zl b)))) (some (.int p)) (some (li f)) z with q | ⟨q1, z', q2⟩
  ·exact .inl (z0d.seq s1 (z0d.seq s2 (z0d.seq s3 q)))
  ·exact .inr ⟨kn', m', F, Rb', mg', _, z', h', q1, z0q s1 (z0q s2 (z0q s3 q2))⟩
 by_cases hk0 : kn = []
 ·obtain ⟨Rb', mg', h'⟩ := tA (.inl hk0)
  refine fin f p Rb' mg' c0.ne h' ?_
  subst hk0
  exact z7s (by exact cvo [false, false] .n rfl) (z0q (by exact z0w (cvo [] .n rfl) rfl) z0l)
 ·have hkl := z1e hk0
  have n0 := z6l hk0
  rcases Nat.lt_trichotomy f.length kn.length with q | q | q
  ·obtain ⟨Rb', mg', h'⟩ := tA (.inr q)
   refine fin f p Rb' mg' c0.ne h' ?_
   have : (f.length : Int) < kn.length := by exact o163 q
   exact z7s (by exact cvo [true, true, true, true, true] (.c (v_ltT this) (.c z0h (.c z0h (.c (y2c (Int.natCast_ne_zero.mpr hkl)) (.c z0h .n))))) rfl) (z0q (by exact z0w (cvo [] .n rfl) rfl) z0l)
  ·have ckn : CS kn m := by
    rcases h.st with z | z
    ·exact absurd z.1 hk0
    ·exact z.1
   have hT := PG.bound g h hmg
   have hCB : (2 ^ 40 : Int) <= CB := by decide +kernel
   have hcop : Int.gcd m p = 1 := by
    have := P.cop m fun q => hpT (Int.dvd_trans q h.hm)
    have h3 := y3y (x := m) (y := p) (Int.le_trans (by decide) h.hm1) (by exact q2n h2)
    rw [<- h3, Int.gcd_comm]; exact this
   obtain ⟨v, hj, c, rfl, j1, j2, j3, j4⟩ := y7x 24 kn f m p ckn.m1 (by exact o143 h2) (by have := ckn.m2; exact o158 hCB this) (by exact o165 hCB hp) ckn.rng c0.rng q.symm hcop
   obtain ⟨Rb', mg', h'⟩ := tB hk0 q c j1 j2 j3 j4
   refine fin c (m * p) Rb' mg' (fun z => by rw [z] at j1; simp at j1; exact q3r j1 hkl) h' ?_
   have h3 : ¬ (f.length : Int) < kn.length := by exact o166 q
   have sm : small m = true := z0v (by have := h.hm1; exact o167 this) (by
    have := Int.le_of_dvd (show 0 < T by
     rw [<- h.hT]
     exact Int.mul_pos (Int.mul_pos (by have := h.F0; exact y8a this) (by have := h.Rb0; exact y8a this)) (by have := h.m0; exact y8a this)) h.hm
    exact o168 hT this)
   have sp : small p = true := z0v (by exact o169 h2) (by exact o170 hp)
   refine z1o (by exact cvo [true, true, true, true, true] (.c (q4t h3) (.c z0h (.c z0h (.c (y2c (Int.natCast_ne_zero.mpr hkl)) (.c z0h .n))))) rfl) (z0q (z7s (by exact cvo [true, true, true] (.c (y7n (congrArg Nat.cast q)) (.c z0h (.c z0h .n))) rfl) (z0q (ρ1 := pgE a b x (some (.int (Int.gcd (zl a) (zl b)))) (some (li c)) (some (.int (m * p))) (some (.int p)) (some (li f)) z) ?_ z0l)) z0l)
   exact z0w (cvo [true, true] (.c (z3z sm sp) (.c (z0c hj) .n)) rfl) rfl
  ·obtain ⟨Rb', h'⟩ := tC hk0 q
   refine fin kn m Rb' mg hk0 h' ?_
   have h3 : ¬ (f.length : Int) < kn.length := by exact o171 q
   have h4 : ((f.length : Int) == kn.length) = false := by rw [beq_eq_false_iff_ne]; exact o172 q
   exact z1o (by exact cvo [true, true, true, true, true] (.c (q4t h3) (.c z0h (.c z0h (.c (y2c (Int.natCast_ne_zero.mpr hkl)) (.c z0h .n))))) rfl) (z0q (z1o (by exact cvo [true, true, true] (.c (y0c h4) (.c z0h (.c z0h .n))) rfl) z0l) z0l)
theorem z8s {j p : Nat} (hj : j < 6) (hp : PL[j]? = some p) : phi prog 29 36 [li a, li b, .int p] = some (li S) := by
 refine z3p.eq (z0f (d := z4h) (ρ0 := pgE a b (some (.int p)) none none none none none none) rfl rfl rfl ?_)
 rw [q6a]
 have hBB : (2 ^ 30 : Int) <= BB := by decide +kernel
 have e1 := z8a 27 a
 have e2 := z8a 27 b
 have ba := g.ba (a.length - 1)
 have bb := g.bb (b.length - 1)
 have e3 := y2n 27 (zl a) (zl b) (z5v (by unfold zl; exact o173 hBB ba.1) (by unfold zl; exact o174 hBB ba.2)) (z5v (by unfold zl; exact o173 hBB bb.1) (by unfold zl; exact o174 hBB bb.2))
 refine z0d.seq (ρ1 := pgE a b (some (.int p)) (some (.int (Int.gcd (zl a) (zl b)))) none none none none none) (by exact z0g (cvo [true, true, true] (.c (z0c e3) (.c (z0c e2) (.c (z0c e1) .n))) rfl)) ?_
 refine z0d.seq (ρ1 := pgE a b (some (.int p)) (some (.int (Int.gcd (zl a) (zl b)))) (some (li [])) (some (.int 1)) (some (.int p)) none none) (by exact z0w (cvo [] .n rfl) rfl) ?_
 refine z0d.seqW (P := fun _ => False) (fun k ρ => E9 fun (i q : Nat) (kn : List Int) (m F Rb mg : Int) (y z : Option D) => A6 (PL[i]? = some q) (k + i = 100) (j <= i) (PG a b S R w (tp j i) kn m F Rb mg) (mg <= 652) (ρ = pgE a b (some (.int p)) (some (.int (Int.gcd (zl a) (zl b)))) (some (li kn)) (some (.int m)) (some (.int q)) y z)) (100 - j)
  ⟨j, p, [], 1, 1, 1, 1, none, none, hp, by exact o175 hj, Nat.le_refl _, ⟨by rw [y8w]; rfl, by decide, by decide, by decide, Int.one_dvd _, Int.one_dvd _, by decide, Int.one_dvd _, .inl ⟨rfl, rfl⟩⟩, by decide, rfl⟩ (by rw [z3t]; exact o176) ?_ (fun _ q => q.elim)
 rintro k ρ ⟨i, q, kn, m, F, Rb, mg, y, z, hq, hki, hji, h, hmg, rfl⟩
 refine .inr ⟨rfl, ?_⟩
 have hi16 : i < 16 := by have := (List.getElem?_eq_some_iff.mp hq).1; rw [q4o] at this; exact this
 have hT := PG.bound g h hmg
 have hi := (q1w hj hi16 hji).2 hT
 have hlt : i + 1 < PL.length := by rw [q4o]; exact o177 hj hi
 have hq' : PL[i + 1]? = some PL[i + 1] := List.getElem?_eq_getElem hlt
 obtain ⟨hnext, _⟩ := y5s hq hq'
 have Q := q1q hq
 have hq53 : (q : Int) <= 53 := by
  have h1 : ∀ x ∈ PL, x <= 53 := by decide
  have := h1 q (List.mem_of_getElem? hq)
  exact o178 this
 have hqT := tp_nd hji (Nat.le_refl i) hq
 have q0 : (q : Int) ≠ 0 := by have := Q.two; exact o179 this
 have qn : q ≠ 0 := by exact o180 q0
 have hfm : (Int.gcd (zl a) (zl b) : Int).fmod q = (Int.gcd (zl a) (zl b) : Int) % q := Int.fmod_eq_emod_of_nonneg _ (by exact Int.natCast_nonneg _)
 have nx : ∀ (kn' : List Int) (m' : Int) (y' z' : Option D), xs (phi prog 28) z5y (.seq (.asg 6 (.call 6 (.cons (.var 6) .nil))) .skip) (pgE a b (some (.int p)) (some (.int (Int.gcd (zl a) (zl b)))) (some (li kn')) (some (.int m')) (some (.int q)) y' z') = some (.next, pgE a b (some (.int p)) (some (.int (Int.gcd (zl a) (zl b)))) (some (li kn')) (some (.int m')) (some (.int (PL[i + 1] : Nat))) y' z') := fun kn' m' y' z' => by
  exact z0q (z0g (cvo [true] (.c (z0c hnext) .n) rfl)) z0l
 by_cases hf : (q : Int) ∣ (Int.gcd (zl a) (zl b) : Int)
 ·right
  have hz := Int.emod_eq_zero_of_dvd hf
  refine ⟨_, z0q (z1o ?_ z0l) (nx kn m y z), k - 1, by exact o181 hki hi16, i + 1, _, kn, m, F * q, Rb, mg, y, z, hq', by exact o182 hki hi16, by exact o183 hji, ?_, hmg, rfl⟩
  ·exact cvo [true, true] (.c (y7l hz) (.c (z4a q0 (Int.natCast_nonneg _)) .n)) rfl
  ·rw [y4o hji hq]; exact h.skip Q hqT hf
 ·have hz : (Int.gcd (zl a) (zl b) : Int) % q ≠ 0 := fun e => hf (Int.dvd_of_emod_eq_zero e)
  have ct : ev (phi prog 28) (pgE a b (some (.int p)) (some (.int (Int.gcd (zl a) (zl b)))) (some (li kn)) (some (.int m)) (some (.int q)) y z) (.cmp .ne (.bin .mod (.var 3) (.var 6)) (.int 0)) [] = some (.bool true) := by
   exact cvo [true, true] (.c (y1h hz) (.c (z4a q0 (Int.natCast_nonneg _)) .n)) rfl
  rcases pg_in g h Q hq53 hqT hmg hf (some (.int p)) y z with r | ⟨kn', m', F', Rb', mg', y', z', h', hmg', r⟩
  ·exact .inl (z0d.here (z0d.iteT ct r))
  ·refine .inr ⟨_, z0q (z7s ct r) (nx kn' m' y' z'), k - 1, by exact o181 hki hi16, i + 1, _, kn', m', F', Rb', mg', y', z', hq', by exact o182 hki hi16, by exact o183 hji, ?_, hmg', rfl⟩
   rw [y4o hji hq]; exact h'
end
end Mine
end
section
namespace Mine
theorem z1a (k : Int) (l : List Int) : (psc k l).length = l.length := by simp [psc]
theorem z6f {k : Int} {l : List Int} : psc k l = [] <-> l = [] := by simp [psc]
theorem z2p {k : Int} {l : List Int} (hk : k ≠ 0) (h : z2h l) : z2h (psc k l) := by
 by_cases h0 : l = []
 ·left; rw [h0]; rfl
 ·right
  rw [z1a, z0p]
  exact Int.mul_ne_zero hk (h.lead h0)
theorem z9t {f h S : List Int} {R w : Int} (tf : z2h f) (th : z2h h) (f0 : f ≠ []) (h0 : h ≠ []) (bf : Bnd (2 ^ 40) f) (bh : Bnd (2 ^ 40) h) (g : GG (z2o f) (z2o h) S R w) {j p : Nat} (hj : j < 6) (hp : PL[j]? = some p) :
  phi prog 30 37 [li f, li h, .int p] = some (li (psc (Nat.gcd (z0t f) (z0t h) : Int) S)) := by
 have hBB : (2 ^ 40 : Int) <= BB := by decide +kernel
 have bf' := bf.inB hBB
 have bh' := bh.inB hBB
 have c1 := z3l 26 f bf'
 have c2 := z3l 26 h bh'
 have k1 := z1w bf'.nat
 have k2 := z1w bh'.nat
 have hB1 := y1e
 have c3 := y2n 28 (z0t f) (z0t h) (z5v (by exact o184 hBB) (by exact o185 hBB k1)) (z5v (by exact o184 hBB) (by exact o185 hBB k2))
 have e0 : Int.gcd (z0t f : Int) (z0t h : Int) = Nat.gcd (z0t f) (z0t h) := rfl
 rw [e0] at c3
 have p1 := z1u 25 f bf' f0 (z2s tf f0)
 have p2 := z1u 25 h bh' h0 (z2s th h0)
 have p3 := z8s g hj hp
 have n0 : Nat.gcd (z0t f) (z0t h) ≠ 0 := fun q => z2s tf f0 (Nat.gcd_eq_zero_iff.mp q).1
 have nle : Nat.gcd (z0t f) (z0t h) <= z0t f := Nat.gcd_le_left _ (Nat.pos_of_ne_zero (z2s tf f0))
 have sm : small (Nat.gcd (z0t f) (z0t h) : Int) = true := z3j (by exact o184 hBB) (by exact o186 hBB k1 nle)
 have p4 := z2u 28 S (Nat.gcd (z0t f) (z0t h)) (g.bndS.sm (by decide +kernel)) sm
 rw [if_neg (by exact o187 n0)] at p4
 have b1 := z6l f0
 have b2 := z6l h0
 refine z3p.eq (z0f (d := z7j) (ρ0 := [some (li f), some (li h), some (.int p), none, none]) rfl rfl rfl ?_)
 refine z0d.seq (ρ1 := [some (li f), some (li h), some (.int p), none, none]) (z1o (by exact cvo [true, true, true, true] (.c (y0c b2) (.c z0h (.c (y0c b1) (.c z0h .n)))) rfl) z0l) ?_
 refine z0d.seq (ρ1 := [some (li f), some (li h), some (.int p), none, some (.int (Nat.gcd (z0t f) (z0t h) : Nat))]) (by exact z0g (cvo [true, true, true] (.c (z0c c3) (.c (z0c c2) (.c (z0c c1) .n))) rfl)) ?_
 refine z0d.here (z0d.ret (v := li (psc (Nat.gcd (z0t f) (z0t h) : Int) S)) ?_ rfl)
 exact cvo [true, true, true, true] (.c (z0c p4) (.c (z0c p3) (.c (z0c p2) (.c (z0c p1) .n)))) rfl
theorem pbd (t : Nat) (h : t <= 10) : (0 : Int) <= 2 ^ 60 * (2 ^ 61) ^ t /\ (2 ^ 60 * (2 ^ 61) ^ t : Int) <= 2 ^ 700 := by
 have : ∀ j ∈ List.range 11, (0 : Int) <= 2 ^ 60 * (2 ^ 61) ^ j /\ (2 ^ 60 * (2 ^ 61) ^ j : Int) <= 2 ^ 700 := by decide +kernel
 exact this t (List.mem_range.mpr (by exact Nat.succ_le_succ h))
theorem q5u {x B : Int} (h1 : -B <= x) (h2 : x <= B) (n : Nat) : -(B ^ n) <= x ^ n /\ x ^ n <= B ^ n := by
 induction n with
 | zero => simp
 | succ n ih => rw [Int.pow_succ, Int.pow_succ]; exact z0b ih.1 ih.2 h1 h2
noncomputable def psW : MS := (.seq (.asgT [7, 8] (.tup (.cons (.idx (.var 3) (.neg (.int 1))) (.cons (.bin .sub (.len (.var 3)) (.len (.var 1))) .nil)))) (.seq (.asg 4 (.call 20 (.cons (.call 21 (.cons (.var 4) (.cons (.var 6) .nil))) (.cons (.call 22 (.cons (.list (.cons (.neg (.var 7)) .nil)) (.cons (.var 8) .nil))) .nil)))) (.seq (.asg 3 (.call 20 (.cons (.call 21 (.cons (.var 3) (.cons (.var 6) .nil))) (.cons (.call 22 (.cons (.call 21 (.cons (.var 1) (.cons (.var 7) .nil))) (.cons (.var 8) .nil))) .nil)))) (.seq (.aug .sub 5 (.int 1)) .skip))))
theorem y7v (n : Nat) (a b : List Int) (ta : z2h a) (tb : z2h b) (b0 : b ≠ []) (la : a.length <= 10) (lb : b.length <= 10) (ba : Bnd (2 ^ 60) a) (bb : Bnd (2 ^ 60) b) :
  z3p (n + 4) 30 [li a, li b] fun v => E3 fun w r m => A4 (v = .tup [w, li r, m]) (z2h r) (r.length < b.length) (∃ q : List Int, ∀ x, co b (b.length - 1) ^ (a.length + 1 - b.length) * pe a x = pe b x * pe q x + pe r x) := by
 have hbl := z1e b0
 obtain ⟨m, hm⟩ : ∃ m : Nat, m = a.length + 1 - b.length := ⟨_, rfl⟩
 obtain ⟨y, hy⟩ : ∃ y, co b (b.length - 1) = y := ⟨_, rfl⟩
 have y0 : y ≠ 0 := hy ▸ tb.lead b0
 have yb := bb (b.length - 1)
 rw [hy] at yb
 rw [<- hm, hy]
 have h700 : (2 ^ 700 : Int) <= 2 ^ 1999 := by decide +kernel
 have h60 : (2 ^ 60 : Int) <= 2 ^ 1999 := by decide +kernel
 have sy : small y = true := z1k yb.1 yb.2 h60
 refine z0f (d := y6w) (ρ0 := [some (li a), some (li b), none, none, none, none, none, none, none, none]) rfl rfl rfl ?_
 refine z0d.seq (ρ1 := [some (li a), some (li b), none, none, none, none, none, none, none, none]) (q3t (cvo [true] (.c (z0c (z5s (n + 2) b b0)) .n) rfl)) ?_
 refine z0d.seq (ρ1 := [some (li a), some (li b), some (.int m), none, none, none, none, none, none, none]) ?_ ?_
 ·have e1 : (if (a.length : Int) - b.length + 1 > 0 then (a.length : Int) - b.length + 1 else 0) = m := y5e hm
  exact z0g (cvo [true, true, false, false, true] (.c (y5x e1) (.c z0h (.c z0h .n))) rfl)
 have ez : zl b = y := hy
 have e0 := z8a (n + 2) b
 rw [ez] at e0
 refine z0d.seq (ρ1 := [some (li a), some (li b), some (.int m), some (li a), some (li []), some (.int m), some (.int y), none, none, none]) ?_ ?_
 ·simp only [li] at e0 ⊢
  exact z0w (cvo [false, true] (.c (z0c e0) .n) rfl) rfl
 refine z0d.seqP (P := fun ρ => E5 fun (rest found : List Int) (L : Nat) (o7 o8 : Option D) => A7 (ρ = [some (li a), some (li b), some (.int m), some (li rest), some (li found), some (.int L), some (.int y), o7, o8, none]) (z2h rest) (rest.length < b.length) (L <= m) ((∃ q : List Int, ∀ x, y ^ (m - L) * pe a x = pe b x * pe q x + pe rest x)) (Bnd (2 ^ 700) rest) (Bnd (2 ^ 700) found))
  (z0e.whl (fun k ρ => E5 fun (rest found : List Int) (L : Nat) (o7 o8 : Option D) => A10 (ρ = [some (li a), some (li b), some (.int m), some (li rest), some (li found), some (.int L), some (.int y), o7, o8, none]) (z2h rest) (rest.length + 1 - b.length <= L) (L <= m) (rest.length <= a.length) (found.length <= 10) ((∃ q : List Int, ∀ x, y ^ (m - L) * pe a x = pe b x * pe q x + pe rest x)) (Bnd (2 ^ 60 * (2 ^ 61) ^ (m - L)) rest) (Bnd (2 ^ 60 * (2 ^ 61) ^ (m - L)) found) (rest.length = k)) a.length
   ⟨a, [], m, none, none, rfl, ta, by exact o190 hm, Nat.le_refl _, Nat.le_refl _, by simp, ⟨[], fun x => by simp [pe]⟩, by rw [Nat.sub_self]; simpa using ba, fun i => by rw [Nat.sub_self]; simp [co], rfl⟩ (by rw [z3t]; exact o65 la) ?_) ?_
 ·rintro k ρ ⟨rest, found, L, o7, o8, rfl, trr, hL, hLm, hrl, hfl, ⟨q, hq⟩, br, bf, rfl⟩
  obtain ⟨pb0, pb1⟩ := pbd (m - L) (by exact o191 hm hbl la)
  by_cases hlt : rest.length < b.length
  ·have : ¬ (b.length : Int) <= rest.length := by exact o66 hlt
   refine .inl ⟨cvo [true, true, true] (.c (q1s this) (.c z0h (.c z0h .n))) rfl, rest, found, L, o7, o8, rfl, trr, hlt, hLm, ⟨q, hq⟩, fun i => ?_, fun i => ?_⟩
   ·exact ⟨Int.le_trans (Int.neg_le_neg pb1) (br i).1, Int.le_trans (br i).2 pb1⟩
   ·exact ⟨Int.le_trans (Int.neg_le_neg pb1) (bf i).1, Int.le_trans (bf i).2 pb1⟩
  ·have hr0 : rest ≠ [] := fun q => hlt (by rw [q]; exact Nat.pos_of_ne_zero hbl)
   have hle : (b.length : Int) <= rest.length := by exact o67 hlt
   have hrl0 := z1e hr0
   have lr := trr.lead hr0
   obtain ⟨x, hx⟩ : ∃ x, co rest (rest.length - 1) = x := ⟨_, rfl⟩
   rw [hx] at lr
   have i1 := z2a hr0
   rw [hx] at i1
   obtain ⟨B, hB⟩ : ∃ B : Int, B = 2 ^ 60 * (2 ^ 61) ^ (m - L) := ⟨_, rfl⟩
   rw [<- hB] at pb0 pb1 br bf
   have bx := br (rest.length - 1)
   rw [hx] at bx
   have sx : small x = true := z1k bx.1 bx.2 (Int.le_trans pb1 h700)
   obtain ⟨pw', hpw⟩ : ∃ pw' : Nat, pw' = rest.length - b.length := ⟨_, rfl⟩
   have epw : (rest.length : Int) - b.length = (pw' : Int) := by exact o195 hpw hlt
   refine .inr ⟨cvo [true, true, true] (.c (y8r hle) (.c z0h (.c z0h .n))) rfl, ?_⟩
   have e1 := z2u (n + 2) found y (bf.sm (Int.le_trans pb1 h700)) sy
   rw [if_neg y0] at e1
   have e2 := z8r (n + 2) [-x] pw' (by simp) (by exact o197 epw la hrl)
   rw [if_neg (by simp)] at e2
   have e3 := y2j n (psc y found) (psh pw' [-x]) (by rw [z1a]; exact o78 hfl) (by simp [psh]; exact o198 epw la hrl)
   have e4 := z2u (n + 2) rest y (br.sm (Int.le_trans pb1 h700)) sy
   rw [if_neg y0] at e4
   have e5 := z2u (n + 2) b x (bb.sm h60) sx
   rw [if_neg lr] at e5
   have e6 := z8r (n + 2) (psc x b) pw' (by rw [z1a]; exact o78 lb) (by exact o200 hL hm hpw la hLm)
   rw [if_neg (fun z => b0 (z6f.mp z))] at e6
   have e7 := y2j n (psc y rest) (psh pw' (psc x b)) (by rw [z1a]; exact o201 hL hm la lb hLm) (by simp [psh, psc]; exact o202 epw la hrl)
   obtain ⟨found', hf'⟩ : ∃ found', found' = tr (z3m (psc y found) (psc (-1) (psh pw' [-x]))) := ⟨_, rfl⟩
   obtain ⟨rest', hr'⟩ : ∃ rest', rest' = tr (z3m (psc y rest) (psc (-1) (psh pw' (psc x b)))) := ⟨_, rfl⟩
   rw [<- hf'] at e3
   rw [<- hr'] at e7
   have hL1 : ((L : Int) - 1) = ((L - 1 : Nat) : Int) := by exact o203 hL hlt
   refine z0e.seq (ρ1 := [some (li a), some (li b), some (.int m), some (li rest), some (li found), some (.int L), some (.int y), some (.int x), some (.int pw'), none]) ?_ ?_
   ·exact Eq.trans (z0w (cvo [false, true, true, true, false] (.c z0h (.c z0h (.c (z2i i1) .n))) rfl) rfl) (by rw [epw]; rfl)
   refine z0e.seq (ρ1 := [some (li a), some (li b), some (.int m), some (li rest), some (li found'), some (.int L), some (.int y), some (.int x), some (.int pw'), none]) ?_ ?_
   ·have e2' : phi prog (n + 3) 22 [D.list [D.int (-x)], D.int (pw' : Int)] = some (li (psh pw' [-x])) := e2
    exact z0g (cvo [true, false, true, true] (.c (z0c e3) (.c (z0c e2') (.c (z0c e1) .n))) rfl)
   refine z0e.seq (ρ1 := [some (li a), some (li b), some (.int m), some (li rest'), some (li found'), some (.int L), some (.int y), some (.int x), some (.int pw'), none]) ?_ ?_
   ·exact z0g (cvo [true, true, true, true] (.c (z0c e7) (.c (z0c e6) (.c (z0c e5) (.c (z0c e4) .n)))) rfl)
   have hco : ∀ i, co rest' i = y * co rest i - (if i < pw' then 0 else x * co b (i - pw')) := fun i => by
    rw [hr', z9a, z2g, z0p, z0p, y4h]
    split
    ·exact rfl
    ·rw [z0p]; exact o82
   have hcf : ∀ i, co found' i = y * co found i - (if i < pw' then 0 else co [-x] (i - pw')) := fun i => by
    rw [hf', z9a, z2g, z0p, z0p, y4h]
    split <;> (first | exact o204 | exact o82)
   have hlen : rest'.length < rest.length := by
    rw [hr', z2w]
    refine Nat.not_le.mp fun q => ?_
    have hz := z8m (z3m (psc y rest) (psc (-1) (psh pw' (psc x b)))) (fun z => hrl0 (Nat.le_zero.mp (z ▸ q)))
    have ht := y8x (z3m (psc y rest) (psc (-1) (psh pw' (psc x b))))
    rw [z2e] at ht
    simp only [psc, psh, List.length_map, List.length_append, List.length_replicate] at ht
    have hteq : tl (z3m (psc y rest) (psc (-1) (psh pw' (psc x b)))) = rest.length := by
     simp only [psc, psh] at q ⊢
     exact o630 ht q hpw hlt
    have := hco (rest.length - 1)
    rw [hr', z9a] at this
    rw [hteq] at hz
    rw [if_neg (by exact o205 hpw hbl), show rest.length - 1 - pw' = b.length - 1 by exact o206 epw, hx, hy] at this
    exact hz (by rw [this, Int.mul_comm]; exact o87)
   have hmL : m - (L - 1) = (m - L) + 1 := by exact o207 hL1 hLm
   have hBn : (2 ^ 60 * (2 ^ 61) ^ (m - (L - 1)) : Int) = B * 2 ^ 60 + B * 2 ^ 60 := by
    rw [hmL, Int.pow_succ (2 ^ 61 : Int) (m - L), <- Int.mul_assoc, <- hB]; exact o208
   have hBB0 : (0 : Int) <= B * 2 ^ 60 := Int.mul_nonneg pb0 (by decide)
   have hB1 : B <= B * 2 ^ 60 := by
    have := Int.mul_le_mul_of_nonneg_left (show (1 : Int) <= 2 ^ 60 by decide) pb0
    exact o209 pb0
   refine z0e.seq (ρ1 := [some (li a), some (li b), some (.int m), some (li rest'), some (li found'), some (.int ((L - 1 : Nat) : Int)), some (.int y), some (.int x), some (.int pw'), none]) (by exact Eq.trans (q0a (cvo [] .n rfl) rfl) (by rw [hL1]; rfl))
    (z0e.skip ⟨rest'.length, hlen, rest', found', L - 1, _, _, rfl, by rw [hr']; exact z4b _, by exact o210 hL hlen, by exact o211 hLm, by exact o88 hlen hrl, ?_, ?_, ?_, ?_, rfl⟩)
   ·have h1 := z6a (z3m (psc y found) (psc (-1) (psh pw' [-x])))
    rw [<- hf', z2e, z1a, z1a] at h1
    simp only [psh, List.length_append, List.length_replicate, List.length_cons, List.length_nil] at h1
    exact o212 hL hm hpw hbl la hfl h1 hLm
   ·refine ⟨z3m (psc y q) (psh pw' [x]), fun t => ?_⟩
    rw [hmL, Int.pow_succ y (m - L)]
    have h1 := hq t
    have h2 : pe rest' t = y * pe rest t - t ^ pw' * (x * pe b t) := by
     rw [hr', y7y, z2c, z0n, z0n, z7e, z0n]; exact r18
    rw [h2, z2c, z0n, z7e]
    simp only [pe]
    exact r19 h1
   ·intro i
    rw [hBn, hco]
    have h1 := br i
    have h3 := z0b yb.1 yb.2 h1.1 h1.2
    rw [Int.mul_comm (2 ^ 60 : Int) B] at h3
    have h4 := bb (i - pw')
    have h5 := z0b bx.1 bx.2 h4.1 h4.2
    split <;> (first | exact o213 h3.1 h3.2 | exact o214 h5.1 h3.1 h5.2 h3.2)
   ·intro i
    rw [hBn, hcf]
    have h1 := bf i
    have h3 := z0b yb.1 yb.2 h1.1 h1.2
    rw [Int.mul_comm (2 ^ 60 : Int) B] at h3
    have h5 : -B <= co [-x] (i - pw') /\ co [-x] (i - pw') <= B := by
     generalize i - pw' = t
     cases t with
     | zero => rw [z0x]; exact o215 bx.1 bx.2
     | succ t => rw [z0s]; simp [co]; exact o216 pb0
    split <;> (first | exact o213 h3.1 h3.2 | exact o217 h3.1 h5.1 h3.2 h5.2)
 ·rintro ρ ⟨rest, found, L, o7, o8, rfl, trr, hlt, hLm, ⟨q, hq⟩, br, bf⟩
  have y64 : y.natAbs < 2 ^ 64 := by exact o218 yb.1 yb.2
  have yL : y ^ L ≠ 0 := Int.pow_ne_zero y0
  have syL : small (y ^ L) = true := by
   have h1 := q5u yb.1 yb.2 L
   have h2 : ∀ j ∈ List.range 11, ((2 ^ 60) ^ j : Int) <= 2 ^ 1999 := by decide +kernel
   have h3 := h2 L (List.mem_range.mpr (by exact o219 hlt hm la hLm))
   exact z1k h1.1 h1.2 h3
  refine z0d.seq (ρ1 := [some (li a), some (li b), some (.int m), some (li rest), some (li found), some (.int L), some (.int y), o7, o8, some (.int (y ^ L))]) ?_ ?_
  ·have h1 : (L : Int) <= 1000 := by exact o220 hm la hLm
   exact z0g (cvo [true] (.c (v_pow y64 (Int.natCast_nonneg _) h1) .n) rfl)
  have e1 := z2u (n + 2) found (y ^ L) (bf.sm h700) syL
  rw [if_neg yL] at e1
  have e2 := z2u (n + 2) rest (y ^ L) (br.sm h700) syL
  rw [if_neg yL] at e2
  refine z0d.here (z0d.ret (v := .tup [li (psc (y ^ L) found), li (psc (y ^ L) rest), .int m]) (by exact cvo [true, true] (.c (z0c e2) (.c (z0c e1) .n)) rfl) ⟨_, _, _, rfl, z2p yL trr, by rw [z1a]; exact hlt, psc (y ^ L) q, fun x => ?_⟩)
  have h1 : y ^ m = y ^ L * y ^ (m - L) := by rw [<- Int.pow_add, show L + (m - L) = m by exact o221 hLm]
  rw [h1, z0n, z0n, Int.mul_assoc, hq]
  exact r20
theorem z9s (n : Nat) (a b : List Int) (ta : z2h a) (tb : z2h b) (b0 : b ≠ []) (la : a.length <= 10) (lb : b.length <= 10) (ba : Bnd (2 ^ 60) a) (bb : Bnd (2 ^ 60) b) :
  z3p (n + 5) 31 [li a, li b] fun v => ∃ r, A4 (v = li r) (z2h r) (r.length < b.length) (∃ q : List Int, ∀ x, co b (b.length - 1) ^ (a.length + 1 - b.length) * pe a x = pe b x * pe q x + pe r x) := by
 obtain ⟨v, hv, w, r, m, rfl, h1, h2, h3⟩ := y7v n a b ta tb b0 la lb ba bb
 exact z0f (d := z7i) (ρ0 := [some (li a), some (li b)]) rfl rfl rfl (z0d.here (z0d.ret (v := li r) (by exact cvo [true, false] (.c (z0c hv) .n) rfl) ⟨r, rfl, h1, h2, h3⟩))
theorem z4d (n : Nat) (a b : List Int) (ta : z2h a) (tb : z2h b) (b0 : b ≠ []) (la : a.length <= 10) (lb : b.length <= 10) (ba : Bnd (2 ^ 60) a) (bb : Bnd (2 ^ 60) b) {q r : List Int} (tr : z2h r) (hl : r.length < b.length)
  (h : ∀ x, co b (b.length - 1) ^ (a.length + 1 - b.length) * pe a x = pe b x * pe q x + pe r x) : phi prog (n + 5) 31 [li a, li b] = some (li r) := by
 obtain ⟨v, hv, r', rfl, tr', hl', q', h'⟩ := z9s n a b ta tb b0 la lb ba bb
 rw [hv]
 have hbl := z1e b0
 have key := y1n PP0 (d := b) (m := b.length - 1) (by exact o96 hl) (by rw [Int.zero_dvd]; exact tb.lead b0) _ (z3m q (psc (-1) q')) [] (z3m r' (psc (-1) r)) rfl (fun x => by
  have h1 := h x
  have h2 := h' x
  simp only [z2c, z0n]
  exact r21 h1 h2) (fun i hi => by
   rw [z2g, z0p, z0y (l := r') (by exact o97 hi hl'), z0y (l := r) (by exact o97 hi hl)]; simp)
 have : r' = r := z7u tr' tr fun i => by
  have := key i
  rw [Int.zero_dvd, z2g, z0p] at this
  exact o40 this
 rw [this]
end Mine
end
section
namespace Mine
set_option genCtorIdx false
set_option genSizeOf false
noncomputable def res : List Int -> List Int -> Int
 | [a, b], [c, d] => b * c - a * d
 | [a, b, e], [c, d] => e * (c * c) - b * (d * c) + a * (d * d)
 | [a, b], [c, d, f] => b * (b * c - a * d) + a * (a * f)
 | [a, b, e], [c, d, f] => (f * a - e * c) * (f * a - e * c) + (f * b - e * d) * (b * c - a * d)
 | _, _ => 0
noncomputable def Sh (l : List Int) : Prop := (∃ a b, l = [a, b]) \/ (∃ a b c, l = [a, b, c])
theorem sh_of : ∀ {l : List Int}, l.length = 2 \/ l.length = 3 -> Sh l
 | [], h => by simp at h
 | [_], h => by simp at h
 | [a, b], _ => .inl ⟨a, b, rfl⟩
 | [a, b, c], _ => .inr ⟨a, b, c, rfl⟩
 | _ :: _ :: _ :: _ :: _, h => by simp at h
theorem y9j {u v : List Int} (hu : Sh u) (hv : Sh v) : ∃ X Y : List Int, ∀ x, res u v = pe u x * pe X x + pe v x * pe Y x := by
 rcases hu with ⟨a, b, rfl⟩ | ⟨a, b, e, rfl⟩ <;> rcases hv with ⟨c, d, rfl⟩ | ⟨c, d, f, rfl⟩
 ·exact ⟨[-d], [b], fun x => by simp only [pe, res]; exact r22⟩
 ·exact ⟨[a * f - b * d, -(b * f)], [b * b], fun x => by simp only [pe, res]; exact r23⟩
 ·exact ⟨[d * d], [e * c - b * d, -(e * d)], fun x => by simp only [pe, res]; exact r24⟩
 ·exact ⟨[(f * a - e * c) * f - (f * b - e * d) * d, -((f * b - e * d) * f)], [-((f * a - e * c) * e) + (f * b - e * d) * b, (f * b - e * d) * e], fun x => by simp only [pe, res]; exact r25⟩
structure Com (p : Int) (u v h : List Int) : Prop where
 l2 : 2 <= h.length
 l3 : h.length <= 3
 lead : ¬ p ∣ co h (h.length - 1)
 bez : ∃ X Y : List Int, ∀ x, pe h x = pe u x * pe X x + pe v x * pe Y x
 du : E3 fun (c : Int) (q k : List Int) => ¬ p ∣ c /\ ∀ x, c * pe u x = pe h x * pe q x + p * pe k x
 dv : E3 fun (c : Int) (q k : List Int) => ¬ p ∣ c /\ ∀ x, c * pe v x = pe h x * pe q x + p * pe k x
theorem Com.swap {p : Int} {u v h : List Int} (c : Com p u v h) : Com p v u h := by
 obtain ⟨X, Y, e⟩ := c.bez
 exact ⟨c.l2, c.l3, c.lead, ⟨Y, X, fun x => by rw [e]; exact o222⟩, c.dv, c.du⟩
theorem nd1 {p c : Int} (h : ¬ p ∣ c) : ¬ p ∣ 1 := fun q => h (Int.dvd_trans q (Int.one_dvd c))
theorem com22 {p a b c d : Int} (hd : ¬ p ∣ d) (h : p ∣ res [a, b] [c, d]) : Com p [a, b] [c, d] [c, d] := by
 obtain ⟨z, hz⟩ := h
 refine ⟨by simp, by simp, by simpa [co] using hd, ⟨[], [1], fun x => by simp only [pe]; exact r26⟩, ⟨d, [b], [-z], hd, fun x => ?_⟩, ⟨1, [1], [], nd1 hd, fun x => by simp only [pe]; exact r27⟩⟩
 simp only [res] at hz
 simp only [pe]; exact r28 hz
theorem q6z {p a b e c d : Int} (pp : PP p) (hd : ¬ p ∣ d) (h : p ∣ res [a, b, e] [c, d]) : Com p [a, b, e] [c, d] [c, d] := by
 obtain ⟨z, hz⟩ := h
 refine ⟨by simp, by simp, by simpa [co] using hd, ⟨[], [1], fun x => by simp only [pe]; exact r29⟩, ⟨d * d, [d * b - e * c, d * e], [z], fun q => ?_, fun x => ?_⟩, ⟨1, [1], [], nd1 hd, fun x => by simp only [pe]; exact r27⟩⟩
 ·rcases pp _ _ q with q | q <;> exact hd q
 simp only [res] at hz
 simp only [pe]; exact r30 hz
noncomputable def wrow (u v : List Int) : List Int := match u, v with
 | [a, b, e], [c, d, f] => [f * a - e * c, f * b - e * d]
 | _, _ => []
theorem q4l {p a b e c d f : Int} (pp : PP p) (hf : ¬ p ∣ f) (h : p ∣ res [a, b, e] [c, d, f]) (h1 : p ∣ f * b - e * d) : p ∣ f * a - e * c /\ Com p [a, b, e] [c, d, f] [c, d, f] := by
 obtain ⟨y, hy⟩ := h1
 have h0 : p ∣ f * a - e * c := by
  have : p ∣ (f * a - e * c) * (f * a - e * c) := by
   obtain ⟨z, hz⟩ := h
   simp only [res] at hz
   exact ⟨z - y * (b * c - a * d), by rw [hy] at hz; exact r31 hz⟩
  rcases pp _ _ this with q | q <;> exact q
 refine ⟨h0, ?_⟩
 obtain ⟨w, hw⟩ := h0
 refine ⟨by simp, by simp, by simpa [co] using hf, ⟨[], [1], fun x => by simp only [pe]; exact r32⟩, ⟨f, [e], [w, y], hf, fun x => ?_⟩, ⟨1, [1], [], nd1 hf, fun x => by simp only [pe]; exact r33⟩⟩
 simp only [pe]; exact r34 hy hw
theorem q4k {p a b e c d f : Int} (pp : PP p) (hf : ¬ p ∣ f) (h : p ∣ res [a, b, e] [c, d, f]) (h1 : ¬ p ∣ f * b - e * d) : Com p [a, b, e] [c, d, f] [f * a - e * c, f * b - e * d] := by
 obtain ⟨z, hz⟩ := h
 simp only [res] at hz
 have h11 : ¬ p ∣ (f * b - e * d) * (f * b - e * d) := fun q => by
  rcases pp _ _ q with q | q <;> exact h1 q
 have key : ∀ x : Int, (f * b - e * d) * (f * b - e * d) * (c + x * (d + x * f)) = (f * a - e * c + x * (f * b - e * d)) * ((f * b - e * d) * d - f * (f * a - e * c) + x * ((f * b - e * d) * f)) + p * (f * z) := fun x => by
  have : p * (f * z) = f * ((f * a - e * c) * (f * a - e * c) + (f * b - e * d) * (b * c - a * d)) := by rw [hz]; exact r35
  rw [this]; exact r36
 refine ⟨by simp, by simp, by simpa [co] using h1, ⟨[f], [-e], fun x => by simp only [pe]; exact r37⟩, ⟨(f * b - e * d) * (f * b - e * d) * f, [e * ((f * b - e * d) * d - f * (f * a - e * c)) + (f * b - e * d) * (f * b - e * d), e * ((f * b - e * d) * f)], [e * (f * z)], fun q => ?_, fun x => ?_⟩,
  ⟨(f * b - e * d) * (f * b - e * d), [(f * b - e * d) * d - f * (f * a - e * c), (f * b - e * d) * f], [f * z], h11, fun x => ?_⟩⟩
 ·rcases pp _ _ q with q | q
  ·exact h11 q
  ·exact hf q
 ·have := key x
  generalize (f * b - e * d) * (f * b - e * d) = g at this ⊢
  have k2 : g * f * (a + x * (b + x * e)) = e * (g * (c + x * (d + x * f))) + g * (f * a - e * c + x * (f * b - e * d)) := by exact r38
  simp only [pe]
  rw [show g * f * (a + x * (b + x * (e + x * 0))) = g * f * (a + x * (b + x * e)) by exact r39, k2, this]
  exact r40
 ·have := key x
  simp only [pe]
  rw [show (c + x * (d + x * (f + x * 0))) = (c + x * (d + x * f)) by exact r41, this]
  exact r42
theorem y2h {u v : List Int} (hu : Sh u) (hv : Sh v) {p : Int} : p ∣ res u v <-> p ∣ res v u := by
 rcases hu with ⟨a, b, rfl⟩ | ⟨a, b, e, rfl⟩ <;> rcases hv with ⟨c, d, rfl⟩ | ⟨c, d, f, rfl⟩
 ·have : res [a, b] [c, d] = - res [c, d] [a, b] := by simp only [res]; exact r43
  rw [this]; exact Int.dvd_neg
 ·have : res [a, b] [c, d, f] = res [c, d, f] [a, b] := by simp only [res]; exact r44
  rw [this]
 ·have : res [a, b, e] [c, d] = res [c, d] [a, b, e] := by simp only [res]; exact r45
  rw [this]
 ·have : res [a, b, e] [c, d, f] = res [c, d, f] [a, b, e] := by simp only [res]; exact r46
  rw [this]
theorem com_of {p : Int} (pp : PP p) {u v : List Int} (hu : Sh u) (hv : Sh v) (lu : ¬ p ∣ co u (u.length - 1)) (lv : ¬ p ∣ co v (v.length - 1)) (h : p ∣ res u v) : ∃ h, Com p u v h := by
 rcases hu with ⟨a, b, rfl⟩ | ⟨a, b, e, rfl⟩ <;> rcases hv with ⟨c, d, rfl⟩ | ⟨c, d, f, rfl⟩
 ·exact ⟨_, com22 (by simpa [co] using lv) h⟩
 ·exact ⟨_, (q6z pp (by simpa [co] using lu) ((y2h (.inl ⟨_, _, rfl⟩) (.inr ⟨_, _, _, rfl⟩)).mp h)).swap⟩
 ·exact ⟨_, q6z pp (by simpa [co] using lv) h⟩
 ·by_cases h1 : p ∣ f * b - e * d
  ·exact ⟨_, (q4l pp (by simpa [co] using lv) h h1).2⟩
  ·exact ⟨_, q4k pp (by simpa [co] using lv) h h1⟩
end Mine
end
section
namespace Mine
set_option genCtorIdx false
set_option genSizeOf false
structure Dr (l : List Int) : Prop where
 sh : Sh l
 bnd : Bnd 3 l
 lead : co l (l.length - 1) ≠ 0
theorem Sh.len {l : List Int} (h : Sh l) : 2 <= l.length /\ l.length <= 3 := by
 rcases h with ⟨a, b, rfl⟩ | ⟨a, b, c, rfl⟩ <;> simp
theorem Dr.trim {l : List Int} (h : Dr l) : z2h l := .inr h.lead
theorem Dr.ne {l : List Int} (h : Dr l) : l ≠ [] := fun q => by have := h.sh.len; rw [q] at this; simp at this
theorem Bnd.mono {A B : Int} {l : List Int} (h : Bnd A l) (hab : A <= B) : Bnd B l := fun i => by have := h i; exact o59 this.1 this.2 hab
theorem y5r {k A B : Int} {l : List Int} (h : Bnd B l) (h1 : -A <= k) (h2 : k <= A) : Bnd (A * B) (psc k l) := fun i => by
 rw [z0p]; exact z0b h1 h2 (h i).1 (h i).2
theorem z8g {A B : Int} (hA : 0 <= A) (hB : 0 <= B) {b : List Int} (hb : Bnd B b) : ∀ {a : List Int} (n : Nat), a.length <= n -> Bnd A a -> Bnd ((n : Int) * (A * B)) (z0j a b)
 | [], n, _, _ => fun i => by
  have := Int.mul_nonneg (show (0 : Int) <= n by exact Int.natCast_nonneg _) (Int.mul_nonneg hA hB)
  rw [z0j, z0y (by simp)]; exact o56 this
 | c :: r, 0, h, _ => by simp at h
 | c :: r, n + 1, h, ha => fun i => by
  have h0 := ha 0
  rw [z0x] at h0
  have ih := z8g hA hB hb (a := r) n (by simpa using h) fun j => by have := ha (j + 1); rwa [z0s] at this
  have h1 := hb i
  have h2 := z0b h0.1 h0.2 h1.1 h1.2
  have h3 : ((n + 1 : Nat) : Int) * (A * B) = (n : Int) * (A * B) + A * B := (Int.add_mul n 1 (A * B)).trans (congrArg _ (Int.one_mul _))
  rw [h3]
  cases i with
  | zero =>
   rw [z9p]
   have := Int.mul_nonneg (show (0 : Int) <= n by exact Int.natCast_nonneg _) (Int.mul_nonneg hA hB)
   exact o223 h2.1 this h2.2
  | succ i =>
   rw [z6s]
   have := ih i
   exact o224 this.1 h2.1 this.2 h2.2
theorem y9i {u v : List Int} (hu : Dr u) (hv : Dr v) : -648 <= res u v /\ res u v <= 648 := by
 obtain ⟨hu, bu, _⟩ := hu
 obtain ⟨hv, bv, _⟩ := hv
 have u0 := bu 0
 have u1 := bu 1
 have u2 := bu 2
 have v0 := bv 0
 have v1 := bv 1
 have v2 := bv 2
 rcases hu with ⟨a, b, rfl⟩ | ⟨a, b, e, rfl⟩ <;> rcases hv with ⟨c, d, rfl⟩ | ⟨c, d, f, rfl⟩ <;> simp [co] at u0 u1 u2 v0 v1 v2 <;> simp only [res]
 ·exact o631 (z0b u1.1 u1.2 v0.1 v0.2) (z0b u0.1 u0.2 v1.1 v1.2)
 ·have h1 := z0b u1.1 u1.2 v0.1 v0.2
  have h2 := z0b u0.1 u0.2 v1.1 v1.2
  have h3 := z0b u0.1 u0.2 v2.1 v2.2
  have h4 := z0b (A := 3) (B := 18) (a := b) (b := b * c - a * d) u1.1 u1.2 (by exact o225 h1.1 h2.2) (by exact o226 h2.1 h1.2)
  have h5 := z0b (A := 3) (B := 9) (a := a) (b := a * f) u0.1 u0.2 (by exact o227 h3.1) (by exact o228 h3.2)
  exact o229 h4.1 h5.1 h4.2 h5.2
 ·have h1 := z0b v0.1 v0.2 v0.1 v0.2
  have h2 := z0b v1.1 v1.2 v0.1 v0.2
  have h3 := z0b v1.1 v1.2 v1.1 v1.2
  have h4 := z0b (A := 3) (B := 9) (a := e) (b := c * c) u2.1 u2.2 (by exact o227 h1.1) (by exact o228 h1.2)
  have h5 := z0b (A := 3) (B := 9) (a := b) (b := d * c) u1.1 u1.2 (by exact o227 h2.1) (by exact o228 h2.2)
  have h6 := z0b (A := 3) (B := 9) (a := a) (b := d * d) u0.1 u0.2 (by exact o227 h3.1) (by exact o228 h3.2)
  exact o230 h5.1 h6.1 h4.1 h4.2 h5.2 h6.2
 ·have h1 := z0b v2.1 v2.2 u0.1 u0.2
  have h2 := z0b u2.1 u2.2 v0.1 v0.2
  have h3 := z0b v2.1 v2.2 u1.1 u1.2
  have h4 := z0b u2.1 u2.2 v1.1 v1.2
  have h5 := z0b u1.1 u1.2 v0.1 v0.2
  have h6 := z0b u0.1 u0.2 v1.1 v1.2
  have h7 := z0b (A := 18) (B := 18) (a := f * a - e * c) (b := f * a - e * c) (by exact o225 h1.1 h2.2) (by exact o226 h2.1 h1.2) (by exact o225 h1.1 h2.2) (by exact o226 h2.1 h1.2)
  have h8 := z0b (A := 18) (B := 18) (a := f * b - e * d) (b := b * c - a * d) (by exact o225 h3.1 h4.2) (by exact o226 h4.1 h3.2) (by exact o225 h5.1 h6.2) (by exact o226 h6.1 h5.2)
  exact o231 h8.1 h7.1 h8.2 h7.2
section
variable {Φ : Nat -> List D -> Option D} {N : Nat} {c : ME} {b r : MS} {ρ ρ1 : z3y} {Q : D -> Prop}
noncomputable def z4u (Φ : Nat -> List D -> Option D) (N : Nat) (c : ME) (b : MS) (n : Nat) (ρ : z3y) (Q : D -> Prop) : Prop := ∃ v ρ', z7p (fun ρ => z7r (ev Φ ρ c [])) (fun ρ => xs Φ N b ρ) n ρ = some (.ret v, ρ') /\ Q v
theorem z4u.stop {n : Nat} (h : ev Φ ρ c [] = some (.bool true)) (k : z0d Φ N b ρ Q) : z4u Φ N c b (n + 1) ρ Q := by
 obtain ⟨v, ρ', e, q⟩ := k
 exact ⟨v, ρ', by simp only [z7p, h, z7r, e], q⟩
theorem z4u.go {n : Nat} (h : ev Φ ρ c [] = some (.bool true)) (e : xs Φ N b ρ = some (.next, ρ1)) (k : z4u Φ N c b n ρ1 Q) : z4u Φ N c b (n + 1) ρ Q := by
 obtain ⟨v, ρ', e', q⟩ := k
 exact ⟨v, ρ', by rw [z7p]; simp only [h, z7r, e]; exact e', q⟩
theorem z4u.ret (k : z4u Φ N c b N ρ Q) : z0d Φ N (.seq (.whl c b) r) ρ Q := by
 obtain ⟨v, ρ', e, q⟩ := k
 exact z0d.here ⟨v, ρ', by simp only [xs, e], q⟩
end
noncomputable def sbC : ME := .cmp .gt (.len (.var 1)) (.int 1)
noncomputable def sbB : MS := .seq (.asg 5 (.bin .sub (.len (.var 0)) (.len (.var 1)))) (.seq (.asg 6 (.call 31 (.cons (.var 0) (.cons (.var 1) .nil)))) (.seq (.ifs (.cmp .eq (.len (.var 6)) (.int 0)) (.seq (.ret (.var 2)) .skip) .skip) (.seq (.asgT [0, 1] (.tup (.cons (.var 1) (.cons (.call 24 (.cons (.var 6) (.cons (.bin .mul (.var 3) (.bin .pow (.var 4) (.var 5))) .nil))) .nil)))) (.seq (.app 2 (.var 1)) (.seq (.asg 3 (.call 17 (.cons (.var 0) .nil))) (.seq (.asg 4 (.call 38 (.cons (.var 3) (.cons (.var 5) (.cons (.var 4) .nil))))) .skip))))))
theorem q5n : z4g.body = .seq (.ifs (.cmp .lt (.len (.var 0)) (.len (.var 1))) (.seq (.asgT [0, 1] (.tup (.cons (.var 1) (.cons (.var 0) .nil)))) .skip) .skip) (.seq (.asgT [2, 3, 4] (.tup (.cons (.list (.cons (.copy (.var 0)) (.cons (.copy (.var 1)) .nil))) (.cons (.int 1) (.cons (.int 1) .nil))))) (.seq (.whl sbC sbB) (.seq (.ret (.var 2)) .skip))) := rfl
noncomputable def sbE (a b : List Int) (row : List D) (fr ht : Int) (o5 o6 : Option D) : z3y := [some (li a), some (li b), some (.list row), some (.int fr), some (.int ht), o5, o6]
theorem z8o (n : Nat) {a b : List Int} {row : List D} {fr ht : Int} {o5 o6 : Option D} (h : 2 <= b.length) : ev (phi prog n) (sbE a b row fr ht o5 o6) sbC [] = some (.bool true) := by
 have : (1 : Int) < b.length := by exact o232 h
 exact cvo [true, true] (.c (z5z this) (.c z0h .n)) rfl
theorem y4r (n : Nat) {a b : List Int} {row : List D} {fr ht : Int} {o5 o6 : Option D} (h : phi prog n 31 [li a, li b] = some (li [])) : z0d (phi prog n) z5y sbB (sbE a b row fr ht o5 o6) (· = .list row) := by
 refine z0d.seq (ρ1 := sbE a b row fr ht (some (.int ((a.length : Int) - b.length))) o6) (by exact z0g (cvo [true, true, false] (.c z0h (.c z0h .n)) rfl)) ?_
 refine z0d.seq (ρ1 := sbE a b row fr ht (some (.int ((a.length : Int) - b.length))) (some (li []))) (by exact z0g (cvo [true] (.c (z0c h) .n) rfl)) ?_
 exact z0d.here (z0d.iteT (by exact cvo [false, false] .n rfl) (z0d.here (z0d.ret (v := .list row) rfl rfl)))
theorem z9w (n : Nat) (f h : Int) : phi prog (n + 1) 38 [.int f, .int 0, .int h] = some (.int h) := by
 refine z3p.eq (z0f (d := z5n) (ρ0 := [some (.int f), some (.int 0), some (.int h)]) rfl rfl rfl ?_)
 exact z0d.here (z0d.iteT (by exact cvo [false] .n rfl) (z0d.here (z0d.ret (v := .int h) rfl rfl)))
theorem z9v (n : Nat) (f h : Int) (hf : f.natAbs < 2 ^ 64) (hh : h.natAbs < 2 ^ 64) : phi prog (n + 1) 38 [.int f, .int 1, .int h] = some (.int f) := by
 refine z3p.eq (z0f (d := z5n) (ρ0 := [some (.int f), some (.int 1), some (.int h)]) rfl rfl rfl ?_)
 refine z0d.seq (ρ1 := [some (.int f), some (.int 1), some (.int h)]) (z1o (by exact cvo [false] .n rfl) z0l) (z0d.here (z0d.ret (v := .int f) ?_ rfl))
 have b1 : small 1 = true := by decide +kernel
 have e1 : z9b .pow f 1 = some f := by
  simp only [z9b]
  rw [if_pos (by simp; exact hf)]
  exact congrArg some (Int.pow_one f)
 have e2 : z9b .pow h 0 = some 1 := by
  simp only [z9b]
  rw [if_pos (by simp; exact hh)]
  simp
 have e3 : z9b .fdiv f 1 = some f := by
  simp only [z9b]
  rw [if_pos (by simp [b1]), Int.fdiv_eq_ediv_of_nonneg _ (by decide), Int.ediv_one]
 have e4 : z9b .sub 1 1 = some 0 := rfl
 simp only [ev, List.getElem?_cons_zero, List.getElem?_cons_succ, y3f, e1, e4, Option.map_some, e2, e3]
theorem y3t {d : Int} (hd : d ≠ 0) (r : List Int) : (psc d r).map (fun x => x.fdiv d) = r := by
 unfold psc
 rw [List.map_map]
 conv => rhs; rw [<- List.map_id r]
 refine List.map_congr_left fun x _ => ?_
 exact Int.mul_fdiv_cancel_left _ hd
theorem sb_go (n : Nat) {a b r : List Int} {row : List D} {fr ht : Int} {o5 o6 : Option D} (st : Nat) (hst : st <= 1) (hab : a.length = b.length + st) (f0 : fr ≠ 0) (h0 : ht ≠ 0) (f1 : -(2 ^ 60) <= fr) (f2 : fr <= 2 ^ 60) (h1 : -(2 ^ 60) <= ht) (h2 : ht <= 2 ^ 60)
  (z1 : -(2 ^ 60) <= zl b) (z2 : zl b <= 2 ^ 60) (hl : row.length <= 100) (r0 : r ≠ []) (h : phi prog (n + 1) 31 [li a, li b] = some (li (psc (fr * ht ^ st) r))) :
  xs (phi prog (n + 1)) z5y sbB (sbE a b row fr ht o5 o6) = some (.next, sbE b r (row ++ [li r]) (zl b) (if st = 0 then ht else zl b) (some (.int st)) (some (li (psc (fr * ht ^ st) r)))) := by
 have hd : fr * ht ^ st ≠ 0 := Int.mul_ne_zero f0 (Int.pow_ne_zero h0)
 have epw : z9b .pow ht st = some (ht ^ st) := by
  simp only [z9b]
  have h3 : (st : Int) <= 1000 := by exact o233 hst
  rw [if_pos (by simp [h3]; exact o234 h1 h2)]
  rfl
 have hpb : -(2 ^ 60) <= ht ^ st /\ ht ^ st <= 2 ^ 60 := by
  have : st = 0 \/ st = 1 := by exact o235 hst
  rcases this with q | q <;> subst q
  ·rw [Int.pow_zero]; exact by decide
  ·rw [Int.pow_one]; exact o236 h1 h2
 have h60 : (2 ^ 60 : Int) <= 2 ^ 1999 := by decide +kernel
 have s1 : small fr = true := z1k f1 f2 h60
 have s2 : small (ht ^ st) = true := z1k hpb.1 hpb.2 h60
 have emul : z9b .mul fr (ht ^ st) = some (fr * ht ^ st) := by simp [z9b, s1, s2]
 have h120 : (2 ^ 60 * 2 ^ 60 : Int) <= 2 ^ 1999 := by decide +kernel
 have s3 : small (fr * ht ^ st) = true := by
  have := z0b f1 f2 hpb.1 hpb.2
  exact z1k this.1 this.2 h120
 have e1 := z6h n (psc (fr * ht ^ st) r) (fr * ht ^ st) hd s3
 rw [y3t hd] at e1
 have e2 := z8a n b
 have e3 : phi prog (n + 1) 38 [.int (zl b), .int (st : Int), .int ht] = some (.int (if st = 0 then ht else zl b)) := by
  have : st = 0 \/ st = 1 := by exact o235 hst
  rcases this with q | q <;> subst q
  ·exact z9w n _ _
  ·exact z9v n _ _ (by exact o218 z1 z2) (by exact o218 h1 h2)
 have est : (a.length : Int) - b.length = st := by exact o239 hab
 have hrl := z1e r0
 have hpl : (((psc (fr * ht ^ st) r).length : Int) == 0) = false := z6l fun q => r0 (z6f.mp q)
 have hLEN : row.length < LEN := by
  have : (200 : Nat) <= LEN := by decide +kernel
  exact o240 this hl
 obtain ⟨R, hR⟩ : ∃ R, R = psc (fr * ht ^ st) r := ⟨_, rfl⟩
 rw [<- hR] at h e1 hpl ⊢
 refine z0q (ρ1 := sbE a b row fr ht (some (.int st)) o6) (by exact Eq.trans (z0g (cvo [true, true, false] (.c z0h (.c z0h .n)) rfl)) (by rw [est]; rfl)) ?_
 refine z0q (ρ1 := sbE a b row fr ht (some (.int st)) (some (li R))) (by exact z0g (cvo [true] (.c (z0c h) .n) rfl)) ?_
 refine z0q (ρ1 := sbE a b row fr ht (some (.int st)) (some (li R))) (z1o (by exact cvo [true, true] (.c (y0c hpl) (.c z0h .n)) rfl) z0l) ?_
 refine z0q (ρ1 := sbE b r row fr ht (some (.int st)) (some (li R))) ?_ ?_
 ·exact z0w (cvo [true, true, true] (.c (z0c e1) (.c (z3z s1 s2) (.c (y5z epw) .n))) rfl) rfl
 refine z0q (ρ1 := sbE b r (row ++ [li r]) fr ht (some (.int st)) (some (li R))) (by exact q0b (cvo [] .n rfl) rfl hLEN) ?_
 refine z0q (ρ1 := sbE b r (row ++ [li r]) (zl b) ht (some (.int st)) (some (li R))) (by exact z0g (cvo [true] (.c (z0c e2) .n) rfl)) ?_
 refine z0q (ρ1 := sbE b r (row ++ [li r]) (zl b) (if st = 0 then ht else zl b) (some (.int st)) (some (li R))) (by exact z0g (cvo [true] (.c (z0c e3) .n) rfl)) rfl
end Mine
end
section
namespace Mine
theorem y9n (l : List Int) : psc 1 l = l := by
 unfold psc
 conv => rhs; rw [<- List.map_id l]
 exact List.map_congr_left fun x _ => Int.one_mul x
noncomputable def y1b (S U V last : List Int) : Prop :=
 (res U V ≠ 0 /\ ∃ k, A4 (k ≠ 0) (last = psc k S) (Bnd (2 ^ 40) last) (∀ p, PP p -> p ∣ res U V -> p ∣ k)) \/
 (res U V = 0 /\ E2 fun h k => A5 (Com 0 U V h) (Bnd 18 h) (k ≠ 0) (last = psc k (z0j S h)) (Bnd (2 ^ 40) last))
noncomputable def y4k (S U V : List Int) (v : D) : Prop := E2 fun rows last => A3 (v = .list rows) (z9x rows (-1) = some (li last)) (y1b S U V last)
theorem y1b.swap {S U V last : List Int} (hU : Sh U) (hV : Sh V) (h : y1b S V U last) : y1b S U V last := by
 have e0 : res U V = 0 <-> res V U = 0 := by
  have := y2h (p := 0) hU hV
  rwa [Int.zero_dvd, Int.zero_dvd] at this
 rcases h with ⟨h1, k, h2, h3, h4, h5⟩ | ⟨h1, h, k, h2, h3, h4, h5, h6⟩
 ·exact .inl ⟨fun q => h1 (e0.mp q), k, h2, h3, h4, fun p pp q => h5 p pp ((y2h hU hV).mp q)⟩
 ·exact .inr ⟨e0.mpr h1, h, k, h2.swap, h3, h4, h5, h6⟩
theorem z4u.imp {Φ : Nat -> List D -> Option D} {N : Nat} {c : ME} {b : MS} {n : Nat} {ρ : z3y} {Q Q' : D -> Prop} (h : z4u Φ N c b n ρ Q) (k : ∀ v, Q v -> Q' v) : z4u Φ N c b n ρ Q' := by
 obtain ⟨v, ρ', e, q⟩ := h
 exact ⟨v, ρ', e, k v q⟩
section
variable {S : List Int} (hS : Dr S)
include hS
theorem y8z (n m : Nat) {a : List Int} {k : Int} (k0 : k ≠ 0) (ta : z2h a) (hal : S.length <= a.length) (la : a.length <= 10) (ba : Bnd (2 ^ 60) a) (bk : Bnd (2 ^ 60) (psc k S)) (hc : ∃ c : List Int, ∀ x, k * pe a x = pe (psc k S) x * pe c x) (row : List D) (fr ht : Int) (o5 o6 : Option D) :
  z4u (phi prog (n + 5)) z5y sbC sbB (m + 1) (sbE a (psc k S) row fr ht o5 o6) (· = .list row) := by
 obtain ⟨c, hc⟩ := hc
 have hl := hS.sh.len
 have hk0 : psc k S ≠ [] := fun q => hS.ne (z6f.mp q)
 refine z4u.stop (z8o _ (by rw [z1a]; exact o241 hl.1)) (y4r _ ?_)
 have e1 : co (psc k S) ((psc k S).length - 1) = k * zl S := by rw [z0p, z1a]; rfl
 obtain ⟨j, hj⟩ : ∃ j, a.length + 1 - (psc k S).length = j + 1 := ⟨a.length - S.length, by rw [z1a]; exact o242 hal⟩
 refine z4d n a (psc k S) ta (z2p k0 hS.trim) hk0 la (by rw [z1a]; exact o243 la hal) ba bk (q := psc ((k * zl S) ^ j * zl S) c) (r := []) (.inl rfl) (by rw [z1a]; simp; exact o244 hl.1) fun x => ?_
 have := hc x
 rw [z0n] at this
 rw [e1, hj, Int.pow_succ, z0n, z0n]
 simp only [pe]
 generalize (k * zl S) ^ j = y
 generalize pe a x = u at this ⊢
 generalize pe c x = v at this ⊢
 generalize pe S x = t at this ⊢
 generalize zl S = z at this ⊢
 exact r47 this
omit hS in
theorem y3k (n : Nat) {A B r q : List Int} {row : List D} {o5 o6 : Option D} (st : Nat) (hst : st <= 1) (hab : A.length = B.length + st) (tA : z2h A) (tB : z2h B) (B0 : B ≠ []) (la : A.length <= 10) (bA : Bnd (2 ^ 60) A) (bB : Bnd (2 ^ 60) B) (hl : row.length <= 100) (r0 : r ≠ []) (tr : z2h r) (lr : r.length < B.length)
  (h : ∀ x, co B (B.length - 1) ^ (A.length + 1 - B.length) * pe A x = pe B x * pe q x + pe r x) : ∃ o5' o6', xs (phi prog (n + 5)) z5y sbB (sbE A B row 1 1 o5 o6) = some (.next, sbE B r (row ++ [li r]) (zl B) (if st = 0 then 1 else zl B) o5' o6') := by
 have e := z4d n A B tA tB B0 la (by exact o245 hab la) bA bB tr lr h
 have hp : psc (1 * 1 ^ st) r = r := by rw [Int.one_pow, Int.one_mul, y9n]
 have hz := bB (B.length - 1)
 exact ⟨_, _, sb_go (n + 4) st hst hab (by decide) (by decide) (by decide) (by decide) (by decide) (by decide) hz.1 hz.2 hl r0 (by rw [hp]; exact e)⟩
theorem z0z {U : List Int} (hU : Dr U) : z2h (z0j S U) /\ z0j S U ≠ [] /\ (z0j S U).length = S.length + U.length - 1 /\ zl (z0j S U) = zl S * zl U /\ Bnd 27 (z0j S U) := by
 obtain ⟨h1, h2, h3⟩ := z3k hS.trim hU.trim hS.ne hU.ne
 have l1 := hS.sh.len
 have l2 := hU.sh.len
 refine ⟨h1, fun q => by rw [q] at h2; simp at h2; exact o246 h2 l1.1, h2, ?_, z8g (by decide) (by decide) hU.bnd 3 l1.2 hS.bnd⟩
 unfold zl
 rw [h2, show S.length + U.length - 1 - 1 = S.length + U.length - 2 by exact rfl, h3]
theorem zS_bnd : -3 <= zl S /\ zl S <= 3 := hS.bnd _
theorem y5p (n m : Nat) {U V q : List Int} {t : Int} (hU : Dr U) (hV : Dr V) (hl : U.length = V.length \/ U.length = V.length + 1) (ht : t = 0 -> Com 0 U V V) (hr0 : res U V = 0 <-> t = 0) (hr : ∀ p, PP p -> p ∣ res U V -> p ∣ t) (tb : -(2 ^ 20) <= t /\ t <= 2 ^ 20)
  (h : ∀ x, (zl S * zl V) ^ (U.length + 1 - V.length) * (pe S x * pe U x) = pe S x * pe V x * pe q x + t * pe S x) (o5 o6 : Option D) :
  z4u (phi prog (n + 5)) z5y sbC sbB (m + 2) (sbE (z0j S U) (z0j S V) [li (z0j S U), li (z0j S V)] 1 1 o5 o6) (y4k S U V) := by
 obtain ⟨a1, a2, a3, a4, a5⟩ := z0z hS hU
 obtain ⟨b1, b2, b3, b4, b5⟩ := z0z hS hV
 have lS := hS.sh.len
 have lU := hU.sh.len
 have lV := hV.sh.len
 have hexp : (z0j S U).length + 1 - (z0j S V).length = U.length + 1 - V.length := by exact o247 lS.1 a3 b3
 have hz : co (z0j S V) ((z0j S V).length - 1) = zl S * zl V := b4
 have bA : Bnd (2 ^ 60) (z0j S U) := a5.mono (by decide)
 have bB : Bnd (2 ^ 60) (z0j S V) := b5.mono (by decide)
 by_cases t0 : t = 0
 ·refine (z4u.stop (z8o _ (by exact o248 lV.1 lS.1 b3)) (y4r _ (z4d n _ _ a1 b1 b2 (by exact q3q a3 lU.2 lS.2) (by exact q3q b3 lV.2 lS.2) bA bB (q := q) (r := []) (.inl rfl) (by simp; exact o250 lS.1 b3) fun x => ?_))).imp fun v hv => ⟨_, _, hv, rfl, .inr ⟨hr0.mpr t0, V, 1, ht t0, hV.bnd.mono (by decide), by decide, (y9n _).symm, b5.mono (by decide)⟩⟩
  rw [hexp, hz, z0m, z0m, h x, t0]
  simp [pe]
 ·have bk : Bnd (2 ^ 40) (psc t S) := (y5r hS.bnd tb.1 tb.2).mono (by decide)
  obtain ⟨o5', o6', e⟩ := y3k n (A := z0j S U) (B := z0j S V) (r := psc t S) (q := q) (row := [li (z0j S U), li (z0j S V)]) (o5 := o5) (o6 := o6) (U.length - V.length) (by exact o251 hl) (by exact o252 lS.1 hl a3 b3) a1 b1 b2 (by exact q3q a3 lU.2 lS.2) bA bB (by simp) (fun z => hS.ne (z6f.mp z)) (z2p t0 hS.trim) (by rw [z1a]; exact o253 lV.1 b3) fun x => by
   rw [hexp, hz, z0m, z0m, h x, z0n]
  refine z4u.go (z8o _ (by exact o248 lV.1 lS.1 b3)) e ?_
  refine (y8z hS n m t0 b1 (by exact o254 lV.1 b3) (by exact q3q b3 lV.2 lS.2) bB (bk.mono (by decide)) ⟨V, fun x => by rw [z0n, z0m]; exact r48⟩ _ _ _ _ _).imp fun v hv => ⟨_, _, hv, rfl, .inl ⟨fun z => t0 (hr0.mp z), t, t0, rfl, bk, hr⟩⟩
theorem chain (n m : Nat) {U V : List Int} (hU : Dr U) (hV : Dr V) (hl : V.length <= U.length) (o5 o6 : Option D) :
  z4u (phi prog (n + 5)) z5y sbC sbB (m + 3) (sbE (z0j S U) (z0j S V) [li (z0j S U), li (z0j S V)] 1 1 o5 o6) (y4k S U V) := by
 have hs := zS_bnd hS
 have hs0 : zl S ≠ 0 := hS.lead
 have rb := y9i hU hV
 have ub := hU.bnd
 have vb := hV.bnd
 obtain ⟨y, hy⟩ : ∃ y, zl S = y := ⟨_, rfl⟩
 have ly := hV.lead
 rcases hU.sh with ⟨a, b, rfl⟩ | ⟨a, b, e, rfl⟩ <;> rcases hV.sh with ⟨c, d, rfl⟩ | ⟨c, d, f, rfl⟩
 ·have d0 : d ≠ 0 := by simpa [co] using ly
  obtain ⟨ρ, hρ⟩ : ∃ ρ, ρ = res [a, b] [c, d] := ⟨_, rfl⟩
  rw [<- hρ] at rb
  have h1 := z0b hs.1 hs.2 rb.1 rb.2
  refine y5p hS n (m + 1) (q := [zl S * b]) (t := -(zl S * ρ)) hU hV (.inl rfl) (fun q => com22 (by rw [Int.zero_dvd]; exact d0) ?_) ?_ (fun p pp q => Int.dvd_neg.mpr (Int.dvd_trans (hρ ▸ q) (Int.dvd_mul_left _ _))) (by exact o255 h1.1 h1.2) (fun x => ?_) o5 o6
  ·rw [Int.zero_dvd, <- hρ]
   exact (Int.mul_eq_zero.mp (by exact o256 q : zl S * ρ = 0)).resolve_left hs0
  ·rw [<- hρ]
   refine ⟨fun q => by rw [q]; simp, fun q => (Int.mul_eq_zero.mp (by exact o256 q : zl S * ρ = 0)).resolve_left hs0⟩
  ·have hz : zl [c, d] = d := by simp [zl, co]
   rw [hz, hρ, hy]
   simp only [pe, res, List.length_cons, List.length_nil]
   exact r106
 ·simp at hl
 ·have d0 : d ≠ 0 := by simpa [co] using ly
  obtain ⟨ρ, hρ⟩ : ∃ ρ, ρ = res [a, b, e] [c, d] := ⟨_, rfl⟩
  rw [<- hρ] at rb
  have h0 := z0b hs.1 hs.2 hs.1 hs.2
  have h1 := z0b h0.1 h0.2 rb.1 rb.2
  have hss : zl S * zl S ≠ 0 := Int.mul_ne_zero hs0 hs0
  refine y5p hS n (m + 1) (q := [zl S * zl S * (d * b - e * c), zl S * zl S * (d * e)]) (t := zl S * zl S * ρ) hU hV (.inr rfl) (fun q => q6z PP0 (by rw [Int.zero_dvd]; exact d0) ?_) ?_ (fun p pp q => Int.dvd_trans (hρ ▸ q) (Int.dvd_mul_left _ _)) (by exact o257 h1.1 h1.2) (fun x => ?_) o5 o6
  ·rw [Int.zero_dvd, <- hρ]
   exact (Int.mul_eq_zero.mp q).resolve_left hss
  ·rw [<- hρ]
   refine ⟨fun q => by rw [q]; simp, fun q => (Int.mul_eq_zero.mp q).resolve_left hss⟩
  ·have hz : zl [c, d] = d := by simp [zl, co]
   rw [hz, hρ, hy]
   simp only [pe, res, List.length_cons, List.length_nil]
   exact r107
 ·have f0 : f ≠ 0 := by simpa [co] using ly
  have hz : zl [c, d, f] = f := by simp [zl, co]
  have u0 := ub 0
  have u1 := ub 1
  have u2 := ub 2
  have v0 := vb 0
  have v1 := vb 1
  have v2 := vb 2
  simp [co] at u0 u1 u2 v0 v1 v2
  obtain ⟨r0, hr0⟩ : ∃ r0, r0 = f * a - e * c := ⟨_, rfl⟩
  obtain ⟨r1, hr1⟩ : ∃ r1, r1 = f * b - e * d := ⟨_, rfl⟩
  have b0 : -18 <= r0 /\ r0 <= 18 := by
   have h1 := z0b v2.1 v2.2 u0.1 u0.2
   have h2 := z0b u2.1 u2.2 v0.1 v0.2
   exact o258 h2.1 h1.1 hr0 h2.2 h1.2
  have b1 : -18 <= r1 /\ r1 <= 18 := by
   have h1 := z0b v2.1 v2.2 u1.1 u1.2
   have h2 := z0b u2.1 u2.2 v1.1 v1.2
   exact o258 h2.1 h1.1 hr1 h2.2 h1.2
  have nf : ¬ (0 : Int) ∣ f := by rw [Int.zero_dvd]; exact f0
  by_cases h1 : r1 = 0
  ·have hres : res [a, b, e] [c, d, f] = r0 * r0 := by
    simp only [res]
    rw [<- hr0, <- hr1, h1]; simp
   have h2 := z0b hs.1 hs.2 b0.1 b0.2
   refine y5p hS n (m + 1) (q := [zl S * e]) (t := zl S * r0) hU hV (.inl rfl) (fun q => ?_) ?_ (fun p pp q => ?_) (by exact o259 h2.1 h2.2) (fun x => ?_) o5 o6
   ·have := (Int.mul_eq_zero.mp q).resolve_left hs0
    exact (q4l PP0 nf (by rw [hres, this]; simp) (by rw [<- hr1, h1]; simp)).2
   ·rw [hres]
    refine ⟨fun q => ?_, fun q => by rw [(Int.mul_eq_zero.mp q).resolve_left hs0]; simp⟩
    rcases Int.mul_eq_zero.mp q with z | z <;> rw [z] <;> simp
   ·rw [hres] at q
    rcases pp _ _ q with z | z <;> exact Int.dvd_trans z (Int.dvd_mul_left _ _)
   ·rw [hz, hy]
    simp only [pe, List.length_cons, List.length_nil]
    exact r108 hr0 hr1 h1
  ·-- three turns
   have nr1 : ¬ (0 : Int) ∣ f * b - e * d := by rw [Int.zero_dvd, <- hr1]; exact h1
   obtain ⟨p1, p2, p3, p4, p5⟩ := z0z hS hU
   obtain ⟨q1, q2, q3, q4, q5⟩ := z0z hS hV
   have tW : z2h [r0, r1] := .inr (by simpa [co] using h1)
   obtain ⟨w1, w2, w3⟩ := z3k hS.trim tW hS.ne (by simp)
   have lS := hS.sh.len
   simp only [List.length_cons, List.length_nil] at p3 q3 w2
   have bW : Bnd 18 [r0, r1] := fun i => by
    match i with
    | 0 => simpa [co] using b0
    | 1 => simpa [co] using b1
    | i + 2 => simp [co]
   have bSW : Bnd (3 * (3 * 18)) (z0j S [r0, r1]) := z8g (by decide) (by decide) bW 3 lS.2 hS.bnd
   have bB1 : Bnd (3 * (3 * (3 * 18))) (psc (zl S) (z0j S [r0, r1])) := y5r bSW hs.1 hs.2
   obtain ⟨b1', hb1⟩ : ∃ b1', b1' = psc (zl S) (z0j S [r0, r1]) := ⟨_, rfl⟩
   have lb1 : b1'.length = S.length + 1 := by rw [hb1, z1a]; exact o260 w2
   have tb1 : z2h b1' := by rw [hb1]; exact z2p hs0 w1
   have nb1 : b1' ≠ [] := fun z => by rw [z] at lb1; simp at lb1
   have zb1 : co b1' (b1'.length - 1) = zl S * (zl S * r1) := by
    rw [lb1, hb1, z0p]
    have : co (z0j S [r0, r1]) (S.length + 1 - 1) = co S (S.length - 1) * co [r0, r1] 1 := w3
    rw [this]; simp [co, zl]
   have pb1 : ∀ x, pe b1' x = zl S * (pe S x * pe [r0, r1] x) := fun x => by rw [hb1, z0n, z0m]
   have bb1 : Bnd (2 ^ 60) b1' := by rw [hb1]; exact bB1.mono (by decide)
   have bA : Bnd (2 ^ 60) (z0j S [a, b, e]) := p5.mono (by decide)
   have bB : Bnd (2 ^ 60) (z0j S [c, d, f]) := q5.mono (by decide)
   have hzB : co (z0j S [c, d, f]) ((z0j S [c, d, f]).length - 1) = zl S * f := by rw [<- hz]; exact q4
   obtain ⟨o5', o6', e1⟩ := y3k n (A := z0j S [a, b, e]) (B := z0j S [c, d, f]) (r := b1') (q := [zl S * e]) (row := [li (z0j S [a, b, e]), li (z0j S [c, d, f])]) (o5 := o5) (o6 := o6) 0 (by exact Nat.zero_le _) (by exact o261 q3 p3) p1 q1 q2 (by exact o262 p3 lS.2) bA bB (by simp) nb1 tb1 (by exact o263 q3 lb1) fun x => by
    rw [show (z0j S [a, b, e]).length + 1 - (z0j S [c, d, f]).length = 1 by exact o264 q3 p3, hzB, z0m, z0m, pb1, Int.pow_one, hr0, hr1, hy]
    simp only [pe]
    exact r49
   refine z4u.go (z8o _ (by exact o265 q3)) e1 ?_
   rw [if_pos rfl]
   obtain ⟨ρ, hρ⟩ : ∃ ρ, ρ = res [a, b, e] [c, d, f] := ⟨_, rfl⟩
   rw [<- hρ] at rb
   have hρ' : ρ = r0 * r0 + r1 * (b * c - a * d) := by rw [hρ, hr0, hr1]; rfl
   have key : ∀ x, (zl S * (zl S * r1)) ^ 2 * (pe S x * pe [c, d, f] x) = zl S * (pe S x * pe [r0, r1] x) * pe [zl S * zl S * zl S * (r1 * d - f * r0), zl S * zl S * zl S * (r1 * f)] x + zl S * f * (zl S * zl S * zl S * ρ * pe S x) := fun x => by
    have k1 : r1 * r1 * (c + x * (d + x * f)) = (r0 + x * r1) * (r1 * d - f * r0 + x * (r1 * f)) + f * ρ := by
     rw [hρ', hr0, hr1]; exact r36
    have e1 : pe [c, d, f] x = c + x * (d + x * f) := by simp only [pe]; exact r41
    have e2 : pe [r0, r1] x = r0 + x * r1 := by simp only [pe]; exact r50
    have e3 : pe [zl S * zl S * zl S * (r1 * d - f * r0), zl S * zl S * zl S * (r1 * f)] x = zl S * zl S * zl S * (r1 * d - f * r0 + x * (r1 * f)) := by simp only [pe]; exact r51
    rw [e1, e2, e3]
    generalize c + x * (d + x * f) = vx at k1 ⊢
    generalize r0 + x * r1 = wx at k1 ⊢
    generalize r1 * d - f * r0 + x * (r1 * f) = qx at k1 ⊢
    generalize pe S x = s at k1 ⊢
    generalize zl S = z at k1 ⊢
    have k2 : (z * (z * r1)) ^ 2 * (s * vx) = z * z * z * z * s * (r1 * r1 * vx) := by exact r52
    rw [k2, k1]
    exact r53
   have hq2 : ∀ x, co b1' (b1'.length - 1) ^ ((z0j S [c, d, f]).length + 1 - b1'.length) * pe (z0j S [c, d, f]) x = pe b1' x * pe [zl S * zl S * zl S * (r1 * d - f * r0), zl S * zl S * zl S * (r1 * f)] x + zl S * f * (zl S * zl S * zl S * ρ * pe S x) := fun x => by
    rw [zb1, show (z0j S [c, d, f]).length + 1 - b1'.length = 2 by exact o266 q3 lb1, z0m, pb1]
    exact key x
   by_cases h0 : ρ = 0
   ·refine (z4u.stop (z8o _ (by exact o267 lS.1 lb1)) (y4r _ (z4d n _ _ q1 tb1 nb1 (by exact o262 q3 lS.2) (by exact o268 lb1 lS.2) bB bb1 (q := [zl S * zl S * zl S * (r1 * d - f * r0), zl S * zl S * zl S * (r1 * f)]) (r := []) (.inl rfl) (by simp; exact o269 lb1) fun x => ?_))).imp fun v hv => ⟨_, _, hv, rfl, .inr ⟨by rw [<- hρ]; exact h0, [r0, r1], zl S, ?_, bW, hs0, hb1, by rw [hb1]; exact bB1.mono (by decide)⟩⟩
    ·rw [hq2, h0]
     simp [pe]
    ·rw [hr0, hr1]
     exact q4k PP0 nf (by rw [<- hρ, h0]; simp) nr1
   ·obtain ⟨k, hk⟩ : ∃ k, k = zl S * zl S * zl S * ρ := ⟨_, rfl⟩
    have k0 : k ≠ 0 := by rw [hk]; exact Int.mul_ne_zero (Int.mul_ne_zero (Int.mul_ne_zero hs0 hs0) hs0) h0
    have kb : -(2 ^ 20) <= k /\ k <= 2 ^ 20 := by
     have m1 := z0b hs.1 hs.2 hs.1 hs.2
     have m2 := z0b m1.1 m1.2 hs.1 hs.2
     have m3 := z0b m2.1 m2.2 rb.1 rb.2
     exact o270 m3.1 hk m3.2
    have bk : Bnd (2 ^ 40) (psc k S) := (y5r hS.bnd kb.1 kb.2).mono (by decide)
    rw [<- hk] at hq2
    have hfz := z0b hs.1 hs.2 v2.1 v2.2
    have e := z4d n (z0j S [c, d, f]) b1' q1 tb1 nb1 (by exact o262 q3 lS.2) (by exact o268 lb1 lS.2) bB bb1 (q := [zl S * zl S * zl S * (r1 * d - f * r0), zl S * zl S * zl S * (r1 * f)]) (r := psc (zl S * f) (psc k S)) (z2p (Int.mul_ne_zero hs0 f0) (z2p k0 hS.trim)) (by rw [z1a, z1a]; exact o271 lb1) fun x => by rw [hq2, z0n, z0n]
    have hzB' : zl (z0j S [c, d, f]) = zl S * f := hzB
    have hz1 := bb1 (b1'.length - 1)
    rw [hzB']
    refine z4u.go (z8o _ (by exact o267 lS.1 lb1)) (sb_go (n + 4) (r := psc k S) 1 (by decide) (by exact o272 q3 lb1) (Int.mul_ne_zero hs0 f0) (by decide) (by exact o273 hfz.1) (by exact o274 hfz.2) (by decide) (by decide) hz1.1 hz1.2 (by simp) (fun z => hS.ne (z6f.mp z)) (by rw [Int.pow_one, Int.mul_one]; exact e)) ?_
    rw [if_neg (by decide)]
    refine (y8z hS n m k0 tb1 (by exact o14 lb1) (by exact o268 lb1 lS.2) bb1 (bk.mono (by decide)) ⟨psc (zl S) [r0, r1], fun x => by rw [z0n, z0n, pb1]; exact r54⟩ _ _ _ _ _).imp fun v hv => ⟨_, _, hv, rfl, .inl ⟨by rw [<- hρ]; exact h0, k, k0, rfl, bk, fun p _ z => ?_⟩⟩
    rw [hk]
    exact Int.dvd_trans (hρ ▸ z) (Int.dvd_mul_left _ _)
end
theorem z4z (n : Nat) {S U V : List Int} (hS : Dr S) (hU : Dr U) (hV : Dr V) : z3p (n + 6) 39 [li (z0j S U), li (z0j S V)] (y4k S U V) := by
 obtain ⟨a1, a2, a3, a4, a5⟩ := z0z hS hU
 obtain ⟨b1, b2, b3, b4, b5⟩ := z0z hS hV
 refine z0f (d := z4g) (ρ0 := [some (li (z0j S U)), some (li (z0j S V)), none, none, none, none, none]) rfl rfl rfl ?_
 rw [q5n]
 have fin : ∀ (A B : List Int), z4u (phi prog (n + 5)) z5y sbC sbB (999997 + 3) (sbE A B [li A, li B] 1 1 none none) (y4k S U V) -> z0d (phi prog (n + 5)) z5y (.seq (.asgT [2, 3, 4] (.tup (.cons (.list (.cons (.copy (.var 0)) (.cons (.copy (.var 1)) .nil))) (.cons (.int 1) (.cons (.int 1) .nil))))) (.seq (.whl sbC sbB) (.seq (.ret (.var 2)) .skip))) [some (li A), some (li B), none, none, none, none, none] (y4k S U V) := fun A B h =>
  z0d.seq (ρ1 := sbE A B [li A, li B] 1 1 none none) (by exact z0w (cvo [false, false] .n rfl) rfl) (z4u.ret h)
 by_cases hl : V.length <= U.length
 ·refine z0d.seq (ρ1 := [some (li (z0j S U)), some (li (z0j S V)), none, none, none, none, none]) (z1o ?_ z0l) (fin _ _ (chain hS n 999997 hU hV hl none none))
  have : ¬ ((z0j S U).length : Int) < (z0j S V).length := by exact o275 b3 a3 hl
  exact cvo [true, true, true] (.c (q4t this) (.c z0h (.c z0h .n))) rfl
 ·refine z0d.seq (ρ1 := [some (li (z0j S V)), some (li (z0j S U)), none, none, none, none, none]) (z7s ?_ (z0q (by exact z0w (cvo [] .n rfl) rfl) z0l)) (fin _ _ ?_)
  ·have lS := hS.sh.len
   have : ((z0j S U).length : Int) < (z0j S V).length := by exact o276 lS.1 a3 b3 hl
   exact cvo [true, true, true] (.c (v_ltT this) (.c z0h (.c z0h .n))) rfl
  ·refine (chain hS n 999997 hV hU (by exact o277 hl) none none).imp fun v ⟨rows, last, h1, h2, h3⟩ => ⟨rows, last, h1, h2, h3.swap hU.sh hV.sh⟩
end Mine
end
section
namespace Mine
theorem y9q : ∀ n : Nat, 2 <= n -> ∃ p : Nat, z1g p /\ p ∣ n := by
 intro n
 induction n using Nat.strongRecOn with
 | _ n ih =>
  intro h2
  by_cases hp : z4y n = true
  ·exact ⟨n, z3v hp, Nat.dvd_refl n⟩
  ·obtain ⟨d, h1, h3, h4⟩ : ∃ d, 2 <= d /\ d < n /\ n % d = 0 := by
    refine Classical.byContradiction fun q => hp ?_
    unfold z4y
    rw [Bool.and_eq_true, decide_eq_true_eq, List.all_eq_true]
    refine ⟨h2, fun d hd => ?_⟩
    rw [Bool.or_eq_true, decide_eq_true_eq, decide_eq_true_eq]
    have := List.mem_range.mp hd
    by_cases hd2 : d < 2
    ·exact .inl hd2
    ·exact .inr fun z => q ⟨d, by exact Nat.not_lt.mp hd2, this, z⟩
   obtain ⟨p, P, hpd⟩ := ih d h3 h1
   exact ⟨p, P, Nat.dvd_trans hpd (Nat.dvd_of_mod_eq_zero h4)⟩
theorem q6r {p : Int} (P : z1g p) {S U : List Int} (hS : ∃ i, ¬ p ∣ co S i) (hU : ∃ i, ¬ p ∣ co U i) : ∃ i, ¬ p ∣ co (z0j S U) i := by
 obtain ⟨i, hi⟩ := hS
 obtain ⟨j, hj⟩ := hU
 have hp : 0 < p := by have := P.two; exact z7f this
 have s0 := y7r hi
 have u0 := y7r hj
 have ls := (z9e hp S).lead s0 hp
 have lu := (z9e hp U).lead u0 hp
 have nS := z1e s0
 have nU := z1e u0
 obtain ⟨k, hk⟩ := z4r (y2g p S)
 obtain ⟨l, hl⟩ := z4r (y2g p U)
 refine ⟨(rs p S).length - 1 + ((rs p U).length - 1), fun q => ?_⟩
 have e := z8v (a := z0j S U) (b := z0j (rs p S) (rs p U)) (p := p) (k := z3m (z3m (z0j (rs p S) l) (z0j k (rs p U))) (psc p (z0j k l))) (fun x => by
  simp only [z0m, z2c, z0n, hk, hl]; exact r61) ((rs p S).length - 1 + ((rs p U).length - 1))
 rw [z4j (rs p S) (rs p U) ((rs p S).length - 1) ((rs p U).length - 1) (by exact o53 nS) (by exact o53 nU)] at e
 have : p ∣ co (rs p S) ((rs p S).length - 1) * co (rs p U) ((rs p U).length - 1) := by
  obtain ⟨z, hz⟩ := q
  rw [hz] at e
  exact ⟨z - co (z3m (z3m (z0j (rs p S) l) (z0j k (rs p U))) (psc p (z0j k l))) ((rs p S).length - 1 + ((rs p U).length - 1)), by rw [Int.mul_sub]; exact o48 e⟩
 rcases P.pp _ _ this with z | z
 ·exact ls z
 ·exact lu z
theorem y1r {p : Int} (P : z1g p) {l : List Int} (h : z0t l = 1) : ∃ i, ¬ p ∣ co l i := by
 refine Classical.byContradiction fun q => ?_
 have h' : ∀ i, p ∣ co l i := fun i => Classical.byContradiction fun z => q ⟨i, z⟩
 have : p ∣ (z0t l : Int) := y2z fun x hx => by
  obtain ⟨i, _, rfl⟩ := z5b hx
  exact h' i
 rw [h] at this
 exact P.n1 this
theorem q6s {S U : List Int} (hS : z0t S = 1) (hU : z0t U = 1) : z0t (z0j S U) = 1 := by
 refine Classical.byContradiction fun q => ?_
 have key : ∀ p : Nat, z1g p -> p ∣ z0t (z0j S U) -> False := fun p P hp => by
  obtain ⟨i, hi⟩ := q6r P (y1r P hS) (y1r P hU)
  exact hi (Int.dvd_trans (Int.natCast_dvd_natCast.mpr hp) (y3c i))
 by_cases h0 : z0t (z0j S U) = 0
 ·exact key 2 (z3v (by decide)) (by rw [h0]; exact Nat.dvd_zero 2)
 ·obtain ⟨p, P, hp⟩ := y9q (z0t (z0j S U)) (by exact o323 h0 q)
  exact key p P hp
theorem y0i {S U : List Int} (hS : Prm S) (hU : Prm U) : Prm (z0j S U) /\ zl (z0j S U) = zl S * zl U /\ (z0j S U).length = S.length + U.length - 1 := by
 obtain ⟨h1, h2, h3⟩ := z3k hS.trim hU.trim hS.ne hU.ne
 have l1 := z1e hS.ne
 have l2 := z1e hU.ne
 have hz : zl (z0j S U) = zl S * zl U := by
  unfold zl
  rw [h2, show S.length + U.length - 1 - 1 = S.length + U.length - 2 by exact rfl, h3]
 refine ⟨⟨h1, fun q => by rw [q] at h2; simp at h2; exact o324 h2 l2 l1, ?_, q6s hS.one hU.one⟩, hz, h2⟩
 rw [hz]
 exact Int.mul_pos hS.pos hU.pos
theorem q3n {A B : List Int} (hA : Prm A) (hB : Prm B) {c d : Int} (hc : c ≠ 0) (hd : d ≠ 0) (h : ∀ i, c * co A i = d * co B i) : A = B := by
 have e : psc c A = psc d B := z7u (z2p hc hA.trim) (z2p hd hB.trim) fun i => by rw [z0p, z0p, h]
 have hl : A.length = B.length := by
  have := congrArg List.length e
  rwa [z1a, z1a] at this
 exact (z8p hA hB hl hc h).symm
noncomputable def sg (l : List Int) : Int := if 0 < zl l then (z0t l : Int) else -(z0t l : Int)
theorem y3n {l : List Int} (h : z2h l) (h0 : l ≠ []) : sg l ≠ 0 := y9f h h0
theorem y9h {l : List Int} (h : z2h l) (h0 : l ≠ []) (i : Nat) : co l i = sg l * co (z2o l) i := y0j h h0 i
theorem y9g {l : List Int} (h : z2h l) (h0 : l ≠ []) (x : Int) : pe l x = sg l * pe (z2o l) x := by
 rw [<- z0n]
 exact z4o (fun i => by rw [z0p, y9h h h0]) x
theorem y4t {l P : List Int} (h : z2h l) (h0 : l ≠ []) (hP : Prm P) {k : Int} (hk : k ≠ 0) (e : ∀ i, co l i = k * co P i) : z2o l = P :=
 q3n (z3w h h0) hP (y3n h h0) hk fun i => by rw [<- y9h h h0, e]
theorem y6g {s u : List Int} (hs : z2h s) (hu : z2h u) (s0 : s ≠ []) (u0 : u ≠ []) : z2o (z0j s u) = z0j (z2o s) (z2o u) := by
 obtain ⟨h1, h2, h3⟩ := z3k hs hu s0 u0
 have l1 := z1e s0
 have l2 := z1e u0
 refine y4t h1 (fun q => by rw [q] at h2; simp at h2; exact o324 h2 l2 l1) (y0i (z3w hs s0) (z3w hu u0)).1 (k := sg s * sg u) (Int.mul_ne_zero (y3n hs s0) (y3n hu u0)) fun i => ?_
 rw [<- z0p]
 exact z5t (fun x => by rw [z0n, z0m, z0m, y9g hs s0, y9g hu u0]; exact r62) i
theorem y9p {A H q : List Int} (hA : Prm A) (hH : Prm H) {c : Int} (hc : c ≠ 0) (h : ∀ x, c * pe A x = pe H x * pe q x) : ∃ B, Prm B /\ A = z0j H B := by
 have hq0 : tr q ≠ [] := fun z => by
  have e := z5t (a := psc c A) (b := []) (fun x => by rw [z0n, h, <- y7y q, z]; simp [pe]) (A.length - 1)
  rw [z0p] at e
  have := hA.trim.lead hA.ne
  rcases Int.mul_eq_zero.mp (show c * co A (A.length - 1) = 0 from e) with y | y
  ·exact hc y
  ·exact this y
 have hq := z3w (z4b q) hq0
 refine ⟨z2o (tr q), hq, q3n hA (y0i hH hq).1 hc (y3n (z4b q) hq0) fun i => ?_⟩
 rw [<- z0p, <- z0p]
 exact z5t (fun x => by rw [z0n, z0n, z0m, h, <- y7y q, y9g (z4b q) hq0]; exact r35) i
theorem q5p {u v : List Int} (hu : Sh u) (hv : Sh v) {c d : Int} (hc : c ≠ 0) (hd : d ≠ 0) : ∃ m, m ≠ 0 /\ res (psc c u) (psc d v) = m * res u v := by
 rcases hu with ⟨a, b, rfl⟩ | ⟨a, b, e, rfl⟩ <;> rcases hv with ⟨x, y, rfl⟩ | ⟨x, y, z, rfl⟩ <;> simp only [psc, List.map_cons, List.map_nil, res]
 ·exact ⟨c * d, Int.mul_ne_zero hc hd, by exact r63⟩
 ·exact ⟨c * c * d, Int.mul_ne_zero (Int.mul_ne_zero hc hc) hd, by exact r64⟩
 ·exact ⟨c * d * d, Int.mul_ne_zero (Int.mul_ne_zero hc hd) hd, by exact r65⟩
 ·exact ⟨c * c * d * d, Int.mul_ne_zero (Int.mul_ne_zero (Int.mul_ne_zero hc hc) hd) hd, by exact r66⟩
theorem y5l {l : List Int} (h : Dr l) : Dr (z2o l) /\ Prm (z2o l) := by
 have hp := z3w h.trim h.ne
 refine ⟨⟨sh_of ?_, y2i h.trim h.ne h.bnd, hp.trim.lead hp.ne⟩, hp⟩
 rw [z3i]
 have := h.sh.len
 exact o325 this.1 this.2
end Mine
end
section
namespace Mine
theorem y3p (a b : List Int) (i : Nat) : co (z0j a b) i = co (z0j b a) i := z5t (fun x => by rw [z0m, z0m, Int.mul_comm]) i
theorem q2f (a b c : List Int) (i : Nat) : co (z0j a (z0j b c)) i = co (z0j (z0j a b) c) i := z5t (fun x => by simp only [z0m, Int.mul_assoc]) i
theorem y3a (S U : List Int) : Dv 0 (pe S) (pe (z0j S U)) := dv0.mpr ⟨U, fun t => z0m t S U⟩
theorem y6p {a b c : Int} (h : 0 < a) : (Int.gcd (a * b) (a * c) : Int) = a * (Int.gcd b c : Int) := by
 rw [Int.gcd_mul_left, Int.natCast_mul]
 congr 1
 exact o326 h
theorem gg_res {S U V : List Int} (hS : Dr S) (hU : Dr U) (hV : Dr V) (pS : Prm S) (pU : Prm U) (pV : Prm V) (h : res U V ≠ 0) : ∃ R w, GG (z0j S U) (z0j S V) S R w := by
 obtain ⟨a1, a2, a3, a4, a5⟩ := z0z hS hU
 obtain ⟨b1, b2, b3, b4, b5⟩ := z0z hS hV
 have lS := hS.sh.len
 have lU := hU.sh.len
 have lV := hV.sh.len
 have rb := y9i hU hV
 obtain ⟨X, Y, hXY⟩ := y9j hU.sh hV.sh
 have hw : (Int.gcd (zl U) (zl V) : Int) <= 3 /\ 0 <= (Int.gcd (zl U) (zl V) : Int) := by
  have h1 := Int.le_of_dvd pU.pos (Int.gcd_dvd_left (a := zl U) (b := zl V))
  have h2 := hU.bnd (U.length - 1)
  unfold zl at h1 ⊢
  exact o327 h1 h2.2
 refine ⟨res U V, Int.gcd (zl U) (zl V), a1, b1, a2, b2, by exact q3q a3 lU.2 lS.2, by exact q3q b3 lV.2 lS.2, a5.mono (by decide), b5.mono (by decide), pS, lS.1, y3a S U, y3a S V, ⟨_, _, _, Pol.pe X, Pol.pe Y, Pol.const 0, fun t => ?_⟩, h, by exact o328 rb.1 rb.2, q6s pS.one pU.one, ?_, fun i => ?_⟩
 ·rw [z0m, z0m, hXY t]; exact r103
 ·rw [a4, b4, y6p pS.pos]
 ·have h1 := hS.bnd i
  have := z0b (A := 3) (B := 3) (a := (Int.gcd (zl U) (zl V) : Int)) (b := co S i) (by exact Int.natCast_nonneg _) hw.1 h1.1 h1.2
  exact o329 this.1 this.2
theorem gg_com {S U V h : List Int} (hS : Dr S) (hU : Dr U) (hV : Dr V) (pS : Prm S) (pU : Prm U) (pV : Prm V) (c : Com 0 U V h) (hb : Bnd 18 h) : Prm (z0j S (z2o h)) /\ S.length < (z0j S (z2o h)).length /\ ∃ R w, GG (z0j S U) (z0j S V) (z0j S (z2o h)) R w := by
 obtain ⟨a1, a2, a3, a4, a5⟩ := z0z hS hU
 obtain ⟨b1, b2, b3, b4, b5⟩ := z0z hS hV
 have lS := hS.sh.len
 have lU := hU.sh.len
 have lV := hV.sh.len
 have l2 := c.l2
 have l3 := c.l3
 have lead := c.lead
 rw [Int.zero_dvd] at lead
 have th : z2h h := .inr lead
 have h0 : h ≠ [] := fun q => by rw [q] at l2; simp at l2
 have pH := z3w th h0
 obtain ⟨H, hH⟩ : ∃ H, H = z2o h := ⟨_, rfl⟩
 have lH : H.length = h.length := by rw [hH, z3i]
 have bH : Bnd 18 H := by rw [hH]; exact y2i th h0 hb
 rw [<- hH] at pH ⊢
 have he := y9g th h0
 have hs0 := y3n th h0
 rw [<- hH] at he
 obtain ⟨p1, p2, p3⟩ := y0i pS pH
 obtain ⟨cu, qu, ku, c0, cq⟩ := c.du
 obtain ⟨cv, qv, kv, d0, dq⟩ := c.dv
 rw [Int.zero_dvd] at c0 d0
 obtain ⟨U', pU', eU⟩ := y9p pU pH (q := psc (sg h) qu) c0 fun x => by rw [cq, he, z0n]; exact r67
 obtain ⟨V', pV', eV⟩ := y9p pV pH (q := psc (sg h) qv) d0 fun x => by rw [dq, he, z0n]; exact r67
 obtain ⟨_, zU, luU⟩ := y0i pH pU'
 obtain ⟨_, zV, _⟩ := y0i pH pV'
 rw [<- eU] at zU luU
 rw [<- eV] at zV
 obtain ⟨X, Y, hXY⟩ := c.bez
 have hz3 : zl U <= 3 := (hU.bnd _).2
 have hw0 : 0 < (Int.gcd (zl U') (zl V') : Int) := by
  have : Int.gcd (zl U') (zl V') ≠ 0 := fun q => Int.ne_of_gt pU'.pos (Int.gcd_eq_zero_iff.mp q).1
  exact o106 this
 have hw : (Int.gcd (zl U') (zl V') : Int) <= 3 := by
  have h1 := Int.le_of_dvd pU'.pos (Int.gcd_dvd_left (a := zl U') (b := zl V'))
  have h2 : zl U' <= zl H * zl U' := by
   have := Int.mul_le_mul_of_nonneg_right (show (1 : Int) <= zl H by have := pH.pos; exact o90 this) (show 0 <= zl U' by have := pU'.pos; exact o330 h1)
   exact o331 this
  exact o332 h1 zU hz3 h2
 have hsg : (sg h).natAbs <= 18 := by
  have e := y9h th h0 (h.length - 1)
  have h1 : (co h (h.length - 1)).natAbs = (sg h).natAbs * (co (z2o h) (h.length - 1)).natAbs := by rw [e, Int.natAbs_mul]
  have h2 := hb (h.length - 1)
  have h3 : (co (z2o h) (h.length - 1)).natAbs ≠ 0 := fun z => lead (by
   have : co (z2o h) (h.length - 1) = 0 := by exact o333 z
   rw [e, this]; simp)
  have h4 : (sg h).natAbs * 1 <= (sg h).natAbs * (co (z2o h) (h.length - 1)).natAbs := Nat.mul_le_mul_left _ (by exact o334 h3)
  exact o335 h4 h2.1 h1 h2.2
 have hbd : ∀ i, -108 <= co (z0j S H) i /\ co (z0j S H) i <= 108 := by
  by_cases h3 : h.length = 3
  ·have lU' : U'.length = 1 := by have := z1e pU'.ne; exact o336 luU h3 lH this lU.2
   obtain ⟨k, rfl⟩ := List.length_eq_one_iff.mp lU'
   have hk : 0 < k := by have := pU'.pos; simpa [zl, co] using this
   have hb3 : Bnd 3 H := fun i => by
    have e : co U i = k * co H i := by
     rw [<- z0p]
     exact z5t (fun x => by rw [eU, z0m, z0n]; simp only [pe]; exact r13) i
    have h1 := hU.bnd i
    have h2 : (co U i).natAbs = k.natAbs * (co H i).natAbs := by rw [e, Int.natAbs_mul]
    have h4 : 1 * (co H i).natAbs <= k.natAbs * (co H i).natAbs := Nat.mul_le_mul_right _ (by exact o136 hk)
    exact o337 h4 h1.1 h2 h1.2
   have := z8g (by decide) (by decide) hb3 3 lS.2 hS.bnd
   exact this.mono (by decide)
  ·intro i
   have := z8g (by decide) (by decide) hS.bnd 2 (by exact o338 lH l3 h3) bH i
   rw [y3p]
   exact this
 refine ⟨p1, by exact o339 l2 p3 lH, sg h, Int.gcd (zl U') (zl V'), a1, b1, a2, b2, by exact q3q a3 lU.2 lS.2, by exact q3q b3 lV.2 lS.2, a5.mono (by decide), b5.mono (by decide), p1, by exact o340 l2 lS.1 p3 lH, dv0.mpr ⟨U', fun t => ?_⟩, dv0.mpr ⟨V', fun t => ?_⟩, ⟨_, _, _, Pol.pe X, Pol.pe Y, Pol.const 0, fun t => ?_⟩, hs0, by exact o341 hsg, q6s pS.one pU.one, ?_, fun i => ?_⟩
 ·rw [eU]; simp only [z0m, Int.mul_assoc]
 ·rw [eV]; simp only [z0m, Int.mul_assoc]
 ·have h1 := hXY t
  rw [he] at h1
  simp only [z0m]
  exact r68 h1
 ·rw [a4, b4, p2, zU, zV, <- Int.mul_assoc, <- Int.mul_assoc, y6p (Int.mul_pos pS.pos pH.pos)]
 ·have h1 := hbd i
  have := z0b (A := 3) (B := 108) (a := (Int.gcd (zl U') (zl V') : Int)) (b := co (z0j S H) i) (by exact Int.natCast_nonneg _) hw h1.1 h1.2
  exact o342 this.1 this.2
theorem gg_of {S U V last : List Int} (hS : Dr S) (hU : Dr U) (hV : Dr V) (pS : Prm S) (pU : Prm U) (pV : Prm V) (sp : y1b S U V last) :
  E3 fun S' R w => A7 (GG (z0j S U) (z0j S V) S' R w) (z2o last = S') (z2h last) (2 <= last.length) (Bnd (2 ^ 40) last) ((res U V ≠ 0 -> S' = S)) ((res U V = 0 -> S.length < S'.length)) := by
 have lS := hS.sh.len
 rcases sp with ⟨h0, k, k0, rfl, kb, _⟩ | ⟨h0, h, k, c, hb, k0, rfl, kb⟩
 ·obtain ⟨R, w, g⟩ := gg_res hS hU hV pS pU pV h0
  exact ⟨S, R, w, g, y4t (z2p k0 hS.trim) (fun z => hS.ne (z6f.mp z)) pS k0 fun i => z0p _ _ _, z2p k0 hS.trim, by rw [z1a]; exact o241 lS.1, kb, fun _ => rfl, fun z => absurd z h0⟩
 ·obtain ⟨p1, l1, R, w, g⟩ := gg_com hS hU hV pS pU pV c hb
  have l2 := c.l2
  have lead := c.lead
  rw [Int.zero_dvd] at lead
  have th : z2h h := .inr lead
  have h0' : h ≠ [] := fun q => by rw [q] at l2; simp at l2
  obtain ⟨t1, t2, t3⟩ := z3k hS.trim th hS.ne h0'
  have n1 : z0j S h ≠ [] := fun q => by rw [q] at t2; simp at t2; exact o246 t2 lS.1
  refine ⟨_, R, w, g, y4t (z2p k0 t1) (fun z => n1 (z6f.mp z)) p1 (k := k * sg h) (Int.mul_ne_zero k0 (y3n th h0')) fun i => ?_, z2p k0 t1, by rw [z1a]; exact o248 l2 lS.1 t2, kb, fun z => absurd h0 z, fun _ => l1⟩
  rw [z0p, Int.mul_assoc]
  congr 1
  rw [<- z0p]
  exact z5t (fun x => by rw [z0n, z0m, z0m, y9g th h0']; exact r35) i
theorem q2h {f h S U V : List Int} (tf : z2h f) (th : z2h h) (f0 : f ≠ []) (h0 : h ≠ []) (bf : Bnd (2 ^ 40) f) (bh : Bnd (2 ^ 40) h) (hS : Dr S) (hU : Dr U) (hV : Dr V) (pS : Prm S) (pU : Prm U) (pV : Prm V) (ef : z2o f = z0j S U) (eh : z2o h = z0j S V) :
  E3 fun S' R w => A4 (GG (z2o f) (z2o h) S' R w) ((res U V ≠ 0 -> S' = S)) ((res U V = 0 -> S.length < S'.length)) (phi prog 30 40 [li f, li h] = some (li (psc (Nat.gcd (z0t f) (z0t h) : Int) S'))) := by
 have hBB : (2 ^ 40 : Int) <= BB := by decide +kernel
 have bf' := bf.inB hBB
 have bh' := bh.inB hBB
 have c1 := z3l 26 f bf'
 have c2 := z3l 26 h bh'
 have k1 := z1w bf'.nat
 have k2 := z1w bh'.nat
 have hB1 := y1e
 have c3 := y2n 28 (z0t f) (z0t h) (z5v (by exact o184 hBB) (by exact o185 hBB k1)) (z5v (by exact o184 hBB) (by exact o185 hBB k2))
 have e0 : Int.gcd (z0t f : Int) (z0t h : Int) = Nat.gcd (z0t f) (z0t h) := rfl
 rw [e0] at c3
 have p1 := z1u 25 f bf' f0 (z2s tf f0)
 have p2 := z1u 25 h bh' h0 (z2s th h0)
 obtain ⟨v, hv, rows, last, rfl, hlast, sp⟩ := z4z 23 hS hU hV
 rw [<- ef, <- eh] at hv
 obtain ⟨S', R, w, g, e1, tl1, ll, bl, s1, s2⟩ := gg_of hS hU hV pS pU pV sp
 have last0 : last ≠ [] := fun q => by rw [q] at ll; simp at ll
 have p3 := z1u 25 last (bl.inB hBB) last0 (z2s tl1 last0)
 rw [e1] at p3
 have n0 : Nat.gcd (z0t f) (z0t h) ≠ 0 := fun q => z2s tf f0 (Nat.gcd_eq_zero_iff.mp q).1
 have nle : Nat.gcd (z0t f) (z0t h) <= z0t f := Nat.gcd_le_left _ (Nat.pos_of_ne_zero (z2s tf f0))
 have sm : small (Nat.gcd (z0t f) (z0t h) : Int) = true := z3j (by exact o184 hBB) (by exact o186 hBB k1 nle)
 have p4 := z2u 28 S' (Nat.gcd (z0t f) (z0t h)) (g.bndS.sm (by decide +kernel)) sm
 rw [if_neg (by exact o187 n0)] at p4
 have b1 := z6l f0
 have b2 := z6l h0
 refine ⟨S', R, w, by rw [ef, eh]; exact g, s1, s2, z3p.eq (z0f (d := q4g) (ρ0 := [some (li f), some (li h), none, none, none]) rfl rfl rfl ?_)⟩
 refine z0d.seq (ρ1 := [some (li f), some (li h), none, none, none]) (z1o (by exact cvo [true, true, true, true] (.c (y0c b2) (.c z0h (.c (y0c b1) (.c z0h .n)))) rfl) z0l) ?_
 refine z0d.seq (ρ1 := [some (li f), some (li h), none, some (.int (Nat.gcd (z0t f) (z0t h) : Nat)), none]) (by exact z0g (cvo [true, true, true] (.c (z0c c3) (.c (z0c c2) (.c (z0c c1) .n))) rfl)) ?_
 refine z0d.seq (ρ1 := [some (li f), some (li h), none, some (.int (Nat.gcd (z0t f) (z0t h) : Nat)), some (li last)]) (by exact z0g (cvo [true, true, true, false, true] (.c (z2i hlast) (.c (z0c hv) (.c (z0c p2) (.c (z0c p1) .n)))) rfl)) ?_
 refine z0d.here (z0d.ret (v := li (psc (Nat.gcd (z0t f) (z0t h) : Int) S')) ?_ rfl)
 have l1 : (1 : Int) < last.length := by exact o232 ll
 exact cvo [true, true, true, true] (.c (z0c p4) (.c (z0c p3) (.c (z5z l1) (.c z0h .n)))) rfl
end Mine
end
section
namespace Mine
theorem z2y (n : Nat) (l : List Int) (hl : InB l) : phi prog (n + 1) 44 [li l] = some (.int (z0t l)) := by
 refine z3p.eq (z0f (d := z8c) (ρ0 := [some (li l), none, none, none]) rfl rfl rfl ?_)
 refine z0d.seq (ρ1 := [some (li l), some (.int 0), none, none]) rfl ?_
 refine z0d.seqP (P := fun ρ => ∃ y z, ρ = [some (li l), some (.int (z0t (l.take (l.map D.int).length))), y, z]) (z0e.fors (x := li l) (items := l.map .int) (fun i ρ => ∃ y z, ρ = [some (li l), some (.int (z0t (l.take i))), y, z]) rfl rfl ⟨none, none, by simp [z0t]⟩ ?_) ?_
 ·rintro i d ρ hd ⟨y, z, rfl⟩
  obtain ⟨x, hx, rfl⟩ := y5a hd
  refine ⟨[some (li l), some (.int (z0t (l.take i))), some (.int x), z], rfl, z0e.seq (ρ1 := [some (li l), some (.int (z0t (l.take i))), some (.int x), some (.int x.natAbs)]) rfl ?_⟩
  have hB := y1e
  have hxB := hl x (List.mem_of_getElem? hx)
  have hc : z0t (l.take i) <= BB.natAbs := z1w fun z hz => hl.nat z (List.mem_of_mem_take hz)
  have hm := q6q (x := z0t (l.take i)) (y := x.natAbs) (z5v (x := (z0t (l.take i) : Int)) (by exact o343 hB) (by exact o344 hB hc)) (z5v hxB.1 hxB.2)
  rw [y0d hx, y4g]
  refine z0e.seqP (P' := fun ρ => ρ = [some (li l), some (.int (Nat.gcd (z0t (l.take i)) x.natAbs : Nat)), some (.int x), some (.int 0)]) (z0e.whl (fun k ρ => E2 fun (u v : Nat) => A3 (ρ = [some (li l), some (.int u), some (.int x), some (.int v)]) (Nat.gcd u v = Nat.gcd (z0t (l.take i)) x.natAbs) (gm u v = k)) (gm (z0t (l.take i)) x.natAbs) ⟨_, _, rfl, rfl, rfl⟩ (by rw [z3t]; exact o309 hm) ?_) ?_
  ·rintro k ρ ⟨u, v, rfl, hg, rfl⟩
   by_cases hv : v = 0
   ·subst hv
    exact .inl ⟨rfl, by rw [<- hg]; simp⟩
   ·refine .inr ⟨?_, z0e.seq (ρ1 := [some (li l), some (.int v), some (.int x), some (.int (u % v : Nat))]) ?_ (z0e.skip ⟨gm v (u % v), q6p hv, v, u % v, rfl, ?_, rfl⟩)⟩
    ·exact cvo [true] (.c (y1h (Int.natCast_ne_zero.mpr hv)) .n) rfl
    ·exact z0w (cvo [true] (.c (z4a (Int.natCast_ne_zero.mpr hv) (Int.natCast_nonneg _)) .n) rfl) rfl
    ·rw [<- hg, Nat.gcd_comm u v, Nat.gcd_rec v u, Nat.gcd_comm]
  ·rintro ρ rfl
   exact z0e.skip ⟨_, _, rfl⟩
 ·rintro ρ ⟨y, z, rfl⟩
  refine z0d.here (z0d.ret (v := .int (z0t l)) ?_ rfl)
  rw [List.length_map, List.take_length]; exact cvo [] .n rfl
theorem y2l (n : Nat) (l : List Int) (hl : InB l) (h0 : l ≠ []) (hc : z0t l ≠ 0) : phi prog (n + 2) 45 [li l] = some (li (z2o l)) := by
 refine z3p.eq (z0f (d := y0t) (ρ0 := [some (li l), none]) rfl rfl rfl ?_)
 have e := z2y n l hl
 have e1 := z2a h0
 have hB := z1w hl.nat
 have hBB := y1e
 obtain ⟨s, hs⟩ : ∃ s, s = if 0 < zl l then (z0t l : Int) else -(z0t l : Int) := ⟨_, rfl⟩
 have s0 : s ≠ 0 := by rw [hs]; split <;> (first | exact o62 hc | exact o105 hc)
 have sm : small s = true := by rw [hs]; split <;> (first | exact z3j (o632 hBB hB).1 (o632 hBB hB).2 | exact z3j (o633 hBB hB).1 (o633 hBB hB).2)
 refine z0d.seq (ρ1 := [some (li l), some (.int s)]) ?_ ?_
 ·rw [hs]
  unfold zl
  by_cases h : 0 < co l (l.length - 1)
  ·rw [if_pos h]
   exact z0g (cvo [false, true, true, true] (.c (z0c e) (.c (z5z h) (.c (z2i e1) .n))) rfl)
  ·rw [if_neg h]
   exact z0g (cvo [false, true, true, true, false] (.c (z0c e) (.c (y7m h) (.c (z2i e1) .n))) rfl)
 ·refine z0d.here (z0d.ret (v := li (z2o l)) ?_ rfl)
  unfold z2o
  rw [<- hs]
  exact z3a (l := l) rfl fun x _ => cvo [true] (.c (y5y s0 sm rfl) .n) rfl
noncomputable def z9o (i : Nat) (l : List Int) : List Int := l.take i ++ l.drop (i + 1)
noncomputable def y4s (f : Nat -> Int) (l : List Int) : Nat -> Int
 | 0 => 0
 | k + 1 => y4s f l k + (1 - 2 * ((k : Int) % 2)) * co l k * f k
noncomputable def det : Nat -> List (List Int) -> Int
 | 0, _ => 1
 | _ + 1, [] => 1
 | n + 1, r :: rest => y4s (fun i => det n (rest.map (z9o i))) r r.length
noncomputable def Rw (r : List Int) : Prop := r.length <= 4 /\ ∀ x ∈ r, -3 <= x /\ x <= 3
theorem Rw.cut {r : List Int} (h : Rw r) (i : Nat) : Rw (z9o i r) := by
 refine ⟨?_, fun x hx => ?_⟩
 ·have := h.1
  unfold z9o
  rw [List.length_append, List.length_take, List.length_drop]; exact o347 this
 ·unfold z9o at hx
  rcases List.mem_append.mp hx with q | q
  ·exact h.2 x (List.mem_of_mem_take q)
  ·exact h.2 x (List.mem_of_mem_drop q)
theorem pm1 (k : Nat) : -1 <= 1 - 2 * ((k : Int) % 2) /\ 1 - 2 * ((k : Int) % 2) <= 1 := o625 (Nat.mod_lt k (by decide))
theorem y6f {f : Nat -> Int} {r : List Int} {F : Int} (h : Rw r) (h0 : 0 <= F) (hf : ∀ i, -F <= f i /\ f i <= F) : ∀ k : Nat, -((k : Int) * (3 * F)) <= y4s f r k /\ y4s f r k <= (k : Int) * (3 * F)
 | 0 => by simp [y4s]
 | k + 1 => by
  have ih := y6f h h0 hf k
  have hc := y7c (by decide) h.2 k
  have h1 := pm1 k
  have h2 := z0b (A := 1) (B := 3) h1.1 h1.2 hc.1 hc.2
  have h3 := z0b (A := 3) (B := F) (a := (1 - 2 * ((k : Int) % 2)) * co r k) (by exact o349 h2.1) (by exact o350 h2.2) (hf k).1 (hf k).2
  have h4 : ((k + 1 : Nat) : Int) * (3 * F) = (k : Int) * (3 * F) + 3 * F := (Int.add_mul k 1 (3 * F)).trans (congrArg _ (Int.one_mul _))
  rw [h4]
  unfold y4s
  exact o351 h3.1 ih.1 h3.2 ih.2
theorem q0z : ∀ (n : Nat) (rows : List (List Int)), (∀ r ∈ rows, Rw r) -> -(12 ^ n) <= det n rows /\ det n rows <= 12 ^ n
 | 0, _, _ => by simp [det]
 | n + 1, [], _ => by
  have := Int.pow_pos (n := (12 : Int)) (m := n + 1) (by decide)
  simp only [det]; exact o352 this
 | n + 1, r :: rest, h => by
  have hr := h r List.mem_cons_self
  have ih := fun i => q0z n (rest.map (z9o i)) fun z hz => by
   obtain ⟨y, hy, rfl⟩ := List.mem_map.mp hz
   exact (h y (List.mem_cons_of_mem _ hy)).cut i
  have h12 : (0 : Int) <= 12 ^ n := by
   have := Int.pow_pos (n := (12 : Int)) (m := n) (by decide); exact Int.natCast_nonneg _
  have := y6f (f := fun i => det n (rest.map (z9o i))) hr h12 ih r.length
  have h5 : (r.length : Int) * (3 * 12 ^ n) <= 4 * (3 * 12 ^ n) := Int.mul_le_mul_of_nonneg_right (by exact Int.ofNat_le.mpr hr.1) (by exact Int.natCast_nonneg _)
  rw [Int.pow_succ]
  simp only [det]
  exact o353 this.1 h5 this.2
theorem q0o (r : List Int) (rest : List D) : z1i (li r :: rest) = none := by simp [li, z1i]
theorem z8w : ∀ r : List Int, z1i (r.map D.int) = some r
 | [] => rfl
 | x :: r => by simp [z1i, z8w r]
theorem q3e (rows : List (List Int)) : (rows.map li).all z6m = true := by
 rw [List.all_eq_true]
 intro d hd
 obtain ⟨r, _, rfl⟩ := List.mem_map.mp hd
 simp [li, z6m, z8w]
noncomputable def deE (rows : List (List Int)) (w : Option D) (a o l : Option D) : z3y := [some (.list (rows.map li)), w, a, o, l]
theorem q5x (m : Nat) : ∀ (n : Nat) (rows : List (List Int)), n <= 4 -> rows.length <= n -> (∀ r ∈ rows, Rw r) -> phi prog (m + n + 1) 46 [.list (rows.map li)] = some (.int (det n rows)) := by
 have nil : ∀ (k n : Nat), phi prog (k + 1) 46 [.list (([] : List (List Int)).map li)] = some (.int (det n [])) := fun k n => by
  have : det n [] = 1 := by cases n <;> rfl
  rw [this]
  refine z3p.eq (z0f (d := z3g) (ρ0 := deE [] none none none none) rfl rfl rfl ?_)
  exact z0d.here (z0d.iteT (cvo [false] .n rfl) (z0d.here (z0d.ret (v := .int 1) rfl rfl)))
 intro n
 induction n with
 | zero =>
  intro rows _ h _
  have : rows = [] := List.length_eq_zero_iff.mp (by exact o354 h)
  subst this
  exact nil _ _
 | succ n ih =>
  intro rows hn hlen hR
  cases rows with
  | nil => exact nil _ _
  | cons r rest =>
   have hr := hR r List.mem_cons_self
   have hrest : ∀ i, ∀ z ∈ rest.map (z9o i), Rw z := fun i z hz => by
    obtain ⟨y, hy, rfl⟩ := List.mem_map.mp hz
    exact (hR y (List.mem_cons_of_mem _ hy)).cut i
   have ihi := fun i => ih (rest.map (z9o i)) (by exact o355 hn) (by simpa using hlen) (hrest i)
   have bdi := fun i => q0z n (rest.map (z9o i)) (hrest i)
   have h12 : (12 : Int) ^ n <= 1000000 := by
    have : ∀ j ∈ List.range 5, (12 : Int) ^ j <= 1000000 := by decide
    exact this n (List.mem_range.mpr (by exact o356 hn))
   refine z3p.eq (z0f (d := z3g) (ρ0 := deE (r :: rest) none none none none) rfl rfl rfl ?_)
   refine z0d.seq (ρ1 := deE (r :: rest) none none none none) (z1o ?_ z0l) ?_
   ·have h1 := q3e (r :: rest)
    rw [List.map_cons] at h1
    simp only [ev, deE, List.getElem?_cons_zero, y5o, eqD, List.map_cons, eqL, q0o, z1i, h1]
    rfl
   refine z0d.seq (ρ1 := deE (r :: rest) (some (.int 0)) none none none) rfl ?_
   refine z0d.seqP (P := fun ρ => ∃ a o l, ρ = deE (r :: rest) (some (.int (y4s (fun i => det n (rest.map (z9o i))) r (z2r 0 (r.map D.int)).length))) a o l)
    (z0e.fors (x := .list (z2r 0 (r.map D.int))) (items := z2r 0 (r.map D.int)) (fun i ρ => ∃ a o l, ρ = deE (r :: rest) (some (.int (y4s (fun i => det n (rest.map (z9o i))) r i))) a o l) (cvo [false, false] .n rfl) rfl ⟨none, none, none, rfl⟩ ?_) ?_
   ·rintro i d ρ hd ⟨a, o, l, rfl⟩
    have hi : i < r.length := by
     have := (List.getElem?_eq_some_iff.mp hd).1
     rwa [z1n, List.length_map] at this
    obtain ⟨x, hx, rfl⟩ := z3f _ _ _ _ hd
    rw [z9l hi] at hx
    cases hx
    rw [Nat.zero_add]
    refine ⟨deE (r :: rest) (some (.int (y4s (fun i => det n (rest.map (z9o i))) r i))) (some (.int i)) (some (.int (co r i))) l, by simp [z2k, z0u, z2t, deE], ?_⟩
    refine z0e.seq (ρ1 := deE (r :: rest) (some (.int (y4s (fun i => det n (rest.map (z9o i))) r i))) (some (.int i)) (some (.int (co r i))) (some (.list ((rest.map (z9o i)).map li)))) ?_ ?_
    ·have key : ∀ (z : List Int), Rw z -> ev (phi prog (m + (n + 1))) (deE (r :: rest) (some (.int (y4s (fun i => det n (rest.map (z9o i))) r i))) (some (.int i)) (some (.int (co r i))) l) (.bin .add (.upTo (.cvar 0) (.var 2)) (.fromA (.cvar 0) (.bin .add (.var 2) (.int 1)))) [li z] = some (li (z9o i z)) := fun z hz => by
      have h1 : (0 : Int) <= i := by exact Int.natCast_nonneg _
      have h2 : (0 : Int) <= (i : Int) + 1 := by exact Int.natCast_nonneg _
      have h3 : ((i : Int) + 1).toNat = i + 1 := by exact rfl
      have h4 : min i z.length + (z.length - (i + 1)) <= LEN := by
       exact o628 hz.1 (show (200 : Nat) <= LEN by decide +kernel)
      exact cvo [true, false, true, true] (.c (y8s (by rw [List.length_take, List.length_drop]; exact h4)) (.c (v_from h2) (.c (v_up h1) .n))) rfl
     have cg := z8z (f := fun ks => ev (phi prog (m + (n + 1))) (deE (r :: rest) (some (.int (y4s (fun i => det n (rest.map (z9o i))) r i))) (some (.int i)) (some (.int (co r i))) l) (.bin .add (.upTo (.cvar 0) (.var 2)) (.fromA (.cvar 0) (.bin .add (.var 2) (.int 1)))) ks) (g := fun d => match d with | .list z => .list (z.take i ++ z.drop (i + 1)) | d => d) (items := rest.map li) fun d hd => by
      obtain ⟨z, hz, rfl⟩ := List.mem_map.mp hd
      refine (key z (hR z (List.mem_cons_of_mem _ hz))).trans ?_
      simp [li, z9o, List.map_take, List.map_drop]
     have e2 : (rest.map li).map (fun d => match d with | .list z => .list (z.take i ++ z.drop (i + 1)) | d => d) = (rest.map (z9o i)).map li := by
      rw [List.map_map, List.map_map]
      refine List.map_congr_left fun z _ => ?_
      simp [li, z9o, List.map_take, List.map_drop]
     rw [e2] at cg
     have hit : ev (phi prog (m + (n + 1))) (deE (r :: rest) (some (.int (y4s (fun i => det n (rest.map (z9o i))) r i))) (some (.int i)) (some (.int (co r i))) l) (.fromA (.var 0) (.int 1)) [] = some (.list (rest.map li)) := cvo [false] .n rfl
     refine z0g (ρ := deE (r :: rest) (some (.int (y4s (fun i => det n (rest.map (z9o i))) r i))) (some (.int i)) (some (.int (co r i))) l) (x := 4) (d := .list ((rest.map (z9o i)).map li)) ?_
     exact y0q hit rfl cg
    ·have hc := y7c (by decide) hr.2 i
     have hs := pm1 i
     have b0 : small 2 = true := by decide +kernel
     have b1 : small ((i : Int) % 2) = true := z0v (by exact Int.natCast_nonneg _) (o626 (Nat.mod_lt i (by decide)))
     have b2 : small (1 - 2 * ((i : Int) % 2)) = true := z0v (o627 hs).1 (o627 hs).2
     have b3 : small (co r i) = true := z0v (by exact o360 hc.1) (by exact o361 hc.2)
     have h2 := z0b (A := 1) (B := 3) hs.1 hs.2 hc.1 hc.2
     have b4 : small ((1 - 2 * ((i : Int) % 2)) * co r i) = true := z0v (by exact o362 h2.1) (by exact o363 h2.2)
     have bd := bdi i
     have b5 : small (det n (rest.map (z9o i))) = true := z0v (by exact o364 bd.1 h12) (by exact o365 h12 bd.2)
     have e := ihi i
     rw [show m + n + 1 = m + (n + 1) by exact rfl] at e
     refine z0e.seq (ρ1 := deE (r :: rest) (some (.int (y4s (fun i => det n (rest.map (z9o i))) r (i + 1)))) (some (.int i)) (some (.int (co r i))) (some (.list ((rest.map (z9o i)).map li)))) ?_ (z0e.skip ⟨_, _, _, rfl⟩)
     exact z0g (cvo [true, true, false, true, true, true, false] (.c (z3z b4 b5) (.c (z0c e) (.c (z3z b2 b3) (.c (z3z b0 b1) (.c (z4a (by decide) (by decide)) .n))))) rfl)
   ·rintro ρ ⟨a, o, l, rfl⟩
    refine z0d.here (z0d.ret (v := .int (det (n + 1) (r :: rest))) ?_ rfl)
    rw [z1n, List.length_map]
    rfl
end Mine
end
section
namespace Mine
theorem q3o (x v : Int) : ∀ (l : List Int) (k : Nat), k < l.length -> pe (l.set k v) x = pe l x + (v - co l k) * x ^ k
 | [], k, h => by simp at h
 | c :: r, 0, h => by simp [pe, co]; exact o366
 | c :: r, k + 1, h => by
  have ih := q3o x v r k (by simpa using h)
  rw [List.set_cons_succ]
  simp only [pe, ih, z0s, Int.pow_succ]
  exact r69
theorem y9t (x : Int) (l : List Int) (i : Nat) (h : i < l.length) : pe (l.take (i + 1)) x = pe (l.take i) x + co l i * x ^ i := by
 rw [y0d (List.getElem?_eq_getElem h), y0l, List.length_take, Nat.min_eq_left (by exact Nat.le_of_lt h)]
 simp only [pe]
 rw [z9q h]; exact r70
noncomputable def prE (u v f : List Int) (o3 o4 o5 o6 : Option D) : z3y := [some (li u), some (li v), some (li f), o3, o4, o5, o6]
theorem z6i (n : Nat) {u v : List Int} (hu : Dr u) (hv : Dr v) : phi prog (n + 1) 43 [li u, li v] = some (li (z0j u v)) := by
 refine z3p.eq (z0f (d := z8b) (ρ0 := [some (li u), some (li v), none, none, none, none, none]) rfl rfl rfl ?_)
 have lu := hu.sh.len
 have lv := hv.sh.len
 have h1000 : (-1000000 : Int) <= u.length + v.length - 1 /\ (u.length : Int) + v.length - 1 <= 1000000 := by exact o367 lv.2 lu.2
 refine z0d.seq (ρ1 := prE u v (List.replicate (u.length + v.length - 1) 0) none none none none) ?_ ?_
 ·have h2 : ((u.length : Int) + v.length - 1).toNat = u.length + v.length - 1 := by exact o368
  exact z0g (cvo [true, true, false, false, true] (.c (q3k h1000 h2) (.c z0h (.c z0h .n))) rfl)
 refine z0d.seqP (P := fun ρ => E5 fun f o3 o4 o5 o6 => A3 (ρ = prE u v f o3 o4 o5 o6) (f.length = u.length + v.length - 1) (∀ x, pe f x = pe (u.take (z2r 0 (u.map D.int)).length) x * pe v x))
  (z0e.fors (x := .list (z2r 0 (u.map D.int))) (items := z2r 0 (u.map D.int)) (fun i ρ => E5 fun f o3 o4 o5 o6 => A3 (ρ = prE u v f o3 o4 o5 o6) (f.length = u.length + v.length - 1) (∀ x, pe f x = pe (u.take i) x * pe v x)) (by exact cvo [false] .n rfl) rfl ⟨_, none, none, none, none, rfl, by simp, fun x => ?_⟩ ?_) ?_
 ·have := z7e x [] (u.length + v.length - 1)
  simp only [psh, List.append_nil, pe] at this
  rw [this]; simp [pe]
 ·rintro i d ρ hd ⟨f, o3, o4, o5, o6, rfl, hf, hp⟩
  have hi : i < u.length := by
   have := (List.getElem?_eq_some_iff.mp hd).1
   rwa [z1n, List.length_map] at this
  obtain ⟨x, hx, rfl⟩ := z3f _ _ _ _ hd
  rw [z9l hi] at hx
  cases hx
  rw [Nat.zero_add]
  refine ⟨prE u v f (some (.int i)) (some (.int (co u i))) o5 o6, by simp [z2k, z0u, z2t, prE], ?_⟩
  refine z0e.seqP (P' := fun ρ => E3 fun f o5 o6 => A3 (ρ = prE u v f (some (.int i)) (some (.int (co u i))) o5 o6) (f.length = u.length + v.length - 1) (∀ x, pe f x = pe (u.take i) x * pe v x + co u i * x ^ i * pe (v.take (z2r 0 (v.map D.int)).length) x))
   (z0e.fors (x := .list (z2r 0 (v.map D.int))) (items := z2r 0 (v.map D.int)) (fun j ρ => E3 fun f o5 o6 => A3 (ρ = prE u v f (some (.int i)) (some (.int (co u i))) o5 o6) (f.length = u.length + v.length - 1) (∀ x, pe f x = pe (u.take i) x * pe v x + co u i * x ^ i * pe (v.take j) x)) (by exact cvo [false] .n rfl) rfl ⟨f, o5, o6, rfl, hf, fun x => by rw [hp]; simp [pe]⟩ ?_) ?_
  ·rintro j d ρ hd ⟨f, o5, o6, rfl, hf, hp⟩
   have hj : j < v.length := by
    have := (List.getElem?_eq_some_iff.mp hd).1
    rwa [z1n, List.length_map] at this
   obtain ⟨y, hy, rfl⟩ := z3f _ _ _ _ hd
   rw [z9l hj] at hy
   cases hy
   rw [Nat.zero_add]
   refine ⟨prE u v f (some (.int i)) (some (.int (co u i))) (some (.int j)) (some (.int (co v j))), by simp [z2k, z0u, z2t, prE], ?_⟩
   have b1 := hu.bnd i
   have b2 := hv.bnd j
   have s1 : small (co u i) = true := z0v (by exact o360 b1.1) (by exact o361 b1.2)
   have s2 : small (co v j) = true := z0v (by exact o360 b2.1) (by exact o361 b2.2)
   have hij : i + j < f.length := o623 hi hj hf
   have e1 : z9x (f.map D.int) ((i : Int) + j) = some (.int (co f (i + j))) := by
    have := z9k (l := f) (i := (i : Int) + j) (by exact Int.natCast_nonneg _) (Int.ofNat_lt.mpr hij)
    rwa [show ((i : Int) + j).toNat = i + j by exact rfl] at this
   refine z0e.seq (ρ1 := prE u v (f.set (i + j) (co f (i + j) + co u i * co v j)) (some (.int i)) (some (.int (co u i))) (some (.int j)) (some (.int (co v j)))) ?_ (z0e.skip ⟨_, _, _, rfl, by simp [hf], fun x => ?_⟩)
   ·have h1 : (0 : Int) <= (i : Int) + j /\ (i : Int) + j < f.length := ⟨Int.natCast_nonneg (i + j), Int.ofNat_lt.mpr hij⟩
    exact y2o (cvo [false, true, true, false] (.c (z3z s1 s2) (.c (z2i e1) .n)) rfl) rfl (cvo [false] .n rfl) h1.1 h1.2
   ·rw [q3o x _ f (i + j) hij, hp, y9t x v j hj, Int.pow_add]
    exact r71
  ·rintro ρ ⟨f, o5, o6, rfl, hf, hp⟩
   refine z0e.skip ⟨f, _, _, _, _, rfl, hf, fun x => ?_⟩
   rw [hp, z1n, List.length_map, List.take_length, y9t x u i hi]
   exact r72
 ·rintro ρ ⟨f, o3, o4, o5, o6, rfl, hf, hp⟩
  refine z0d.here (z0d.ret (v := li f) rfl ?_)
  congr 1
  rw [z1n, List.length_map, List.take_length] at hp
  have hlp := z5k u v (u.length - 1) (v.length - 1) (by exact q6c lu.1) (by exact q6c lv.1)
  exact z2d (by exact o370 lv.1 lu.1 hlp hf) fun i => z5t (fun x => by rw [hp, z0m]) i
noncomputable def reE (u v : List Int) (w : Option D) (rows : List (List Int)) (o4 o5 o6 : Option D) : z3y := [some (li u), some (li v), w, some (.list (rows.map li)), o4, o5, o6]
noncomputable def reB : MS := .seq (.fors [6] false (.range (.bin .sub (.len (.var 5)) (.int 1))) (.seq (.app 3 (.bin .add (.bin .add (.bin .mul (.list (.cons (.int 0) .nil)) (.var 6)) (.rev (.var 4))) (.bin .mul (.list (.cons (.int 0) .nil)) (.bin .sub (.bin .sub (.var 2) (.var 6)) (.len (.var 4)))))) .skip)) .skip
theorem q5q : z4i.body = (.seq (.asgT [2, 3] (.tup (.cons (.bin .sub (.bin .add (.len (.var 0)) (.len (.var 1))) (.int 2)) (.cons (.list .nil) .nil)))) (.seq (.fors [4, 5] true (.tup (.cons (.tup (.cons (.var 0) (.cons (.var 1) .nil))) (.cons (.tup (.cons (.var 1) (.cons (.var 0) .nil))) .nil))) reB) (.seq (.ret (.call 46 (.cons (.var 3) .nil))) .skip))) := rfl
noncomputable def z1p (one : List Int) (w k : Nat) : List (List Int) := (List.range k).map fun at' => List.replicate at' 0 ++ one.reverse ++ List.replicate (w - at' - one.length) 0
theorem re_in (Φ : Nat -> List D -> Option D) (N : Nat) (u v one other : List Int) (w : Nat) (rows : List (List Int)) (o6 : Option D) (hw : w + 1 = one.length + (other.length - 1)) (hw4 : w <= 4) (ho : 1 <= other.length) (hr : rows.length <= 10) :
  ∃ o6', xs Φ N reB (reE u v (some (.int w)) rows (some (li one)) (some (li other)) o6) = some (.next, reE u v (some (.int w)) (rows ++ z1p one w (other.length - 1)) (some (li one)) (some (li other)) o6') := by
 obtain ⟨k, hk⟩ : ∃ k, k = other.length - 1 := ⟨_, rfl⟩
 have hnx : z0e Φ N reB (reE u v (some (.int w)) rows (some (li one)) (some (li other)) o6) (fun ρ => ∃ o6', ρ = reE u v (some (.int w)) (rows ++ z1p one w k) (some (li one)) (some (li other)) o6') := by
  refine z0e.seqP (P' := fun ρ => ∃ o6', ρ = reE u v (some (.int w)) (rows ++ z1p one w (z2n k).length) (some (li one)) (some (li other)) o6') (z0e.fors (x := .list (z2n k)) (items := z2n k) (fun i ρ => ∃ o6', ρ = reE u v (some (.int w)) (rows ++ z1p one w i) (some (li one)) (some (li other)) o6') ?_ rfl ⟨o6, by simp [z1p]⟩ ?_) ?_
  ·have h1 : (-1000000 : Int) <= (other.length : Int) - 1 /\ (other.length : Int) - 1 <= 1000000 := by exact o371 hw hw4
   have h2 : ((other.length : Int) - 1).toNat = k := by exact o372 hk
   exact cvo [true, false, true] (.c (q1r h1 h2) (.c z0h .n)) rfl
  ·rintro i d ρ hd ⟨o6', rfl⟩
   have hi : i < k := by
    have := (List.getElem?_eq_some_iff.mp hd).1
    simpa [z2n] using this
   have hd' : d = .int (i : Int) := by
    simp only [z2n, List.getElem?_map, List.getElem?_range hi, Option.map_some, Option.some.injEq] at hd
    exact hd.symm
   subst hd'
   refine ⟨reE u v (some (.int w)) (rows ++ z1p one w i) (some (li one)) (some (li other)) (some (.int i)), by simp [z2k, z0u, z2t, reE], ?_⟩
   refine z0e.seq (ρ1 := reE u v (some (.int w)) (rows ++ z1p one w (i + 1)) (some (li one)) (some (li other)) (some (.int i))) ?_ (z0e.skip ⟨_, rfl⟩)
   have e1 : z1p one w (i + 1) = z1p one w i ++ [List.replicate i 0 ++ one.reverse ++ List.replicate (w - i - one.length) 0] := by
    simp [z1p, List.range_succ]
   have hL : (200 : Nat) <= LEN := by decide +kernel
   have h1 : (-1000000 : Int) <= i /\ (i : Int) <= 1000000 := by exact o373 hw hi hk hw4
   have h2 : (-1000000 : Int) <= (w : Int) - i - one.length /\ (w : Int) - i - one.length <= 1000000 := by exact o374 hw hi hk hw4
   have h3 : ((w : Int) - i - one.length).toNat = w - i - one.length := by exact o375
   have h4 : i + one.length <= LEN := by exact o376 hL hw hi hk hw4
   have h5 : i + (one.length + (w - i - one.length)) <= LEN := by exact o377 hL hw hi hk hw4
   have h7 : i + one.length + (w - i - one.length) <= LEN := by exact o378 h5
   have h6 : rows.length + (z1p one w i).length < LEN := by simp [z1p]; exact o379 hL hw hi hk hr hw4
   rw [e1, <- List.append_assoc]
   exact q2p (cvo [true, true, true, false, true, false, true, true] (.c (y8s (by rw [List.length_append, List.length_replicate, List.length_replicate, List.length_reverse]; exact h7)) (.c (q3k h2 h3) (.c z0h (.c (y8s (by rw [List.length_replicate, List.length_reverse]; exact h4)) (.c v_rev (.c (y8q h1.1 h1.2) .n)))))) rfl) rfl (by rw [List.length_append]; exact h6)
  ·rintro ρ ⟨o6', rfl⟩
   have : (z2n k).length = k := by simp [z2n]
   rw [this]
   exact z0e.skip ⟨_, rfl⟩
 obtain ⟨ρ', e, o6', rfl⟩ := hnx
 exact ⟨o6', by rw [<- hk]; exact e⟩
theorem y6d {one : List Int} (h : Dr one) {w k : Nat} (hw : w + 1 = one.length + k) (hk : 1 <= k) (hw4 : w <= 4) : ∀ r ∈ z1p one w k, Rw r := fun r hr => by
 obtain ⟨i, hi, rfl⟩ := List.mem_map.mp hr
 have := List.mem_range.mp hi
 refine ⟨by simp; exact o380 hw this hw4, fun x hx => ?_⟩
 rcases List.mem_append.mp hx with q | q
 ·rcases List.mem_append.mp q with q | q
  ·rw [(List.mem_replicate.mp q).2]; decide
  ·obtain ⟨j, _, rfl⟩ := z5b (List.mem_reverse.mp q)
   exact h.bnd j
 ·rw [(List.mem_replicate.mp q).2]; decide
noncomputable def psumR (f : Nat -> R) (l : List R) : Nat -> R
 | 0 => .num 0
 | k + 1 => .add (psumR f l k) (.mul (.mul (.num (1 - 2 * ((k : Int) % 2))) (l.getD k (.num 0))) (f k))
noncomputable def detR : Nat -> List (List R) -> R
 | 0, _ => .num 1
 | _ + 1, [] => .num 1
 | n + 1, r :: rest => psumR (fun i => detR n (rest.map fun l => l.take i ++ l.drop (i + 1))) r r.length
theorem q6y {u v : List Int} (hu : Sh u) (hv : Sh v) : det (u.length + v.length - 2) (z1p u (u.length + v.length - 2) (v.length - 1) ++ z1p v (u.length + v.length - 2) (u.length - 1)) = res u v := by
 have fin : ∀ {ζ : List Int} {x y : Int} (e f : R), x = rd ζ e -> true = rck [] [] e f -> rd ζ f = y -> x = y := fun e f h1 h2 h3 => h1.trans ((rin (ζ := _) (hs := []) (e := e) (f := f) [] h2 : rd _ e = rd _ f).trans h3)
 rcases hu with ⟨a, b, rfl⟩ | ⟨a, b, e, rfl⟩ <;> rcases hv with ⟨c, d, rfl⟩ | ⟨c, d, f, rfl⟩
 ·exact fin (ζ := [a, b, c, d]) (detR 2 [[.var 1, .var 0], [.var 3, .var 2]]) (.sub (.mul (.var 1) (.var 2)) (.mul (.var 0) (.var 3))) (by kernel_rfl) (by kernel_rfl) (by kernel_rfl)
 ·exact fin (ζ := [a, b, c, d, f]) (detR 3 [[.var 1, .var 0, .num 0], [.num 0, .var 1, .var 0], [.var 4, .var 3, .var 2]]) (.add (.mul (.var 1) (.sub (.mul (.var 1) (.var 2)) (.mul (.var 0) (.var 3)))) (.mul (.var 0) (.mul (.var 0) (.var 4)))) (by kernel_rfl) (by kernel_rfl) (by kernel_rfl)
 ·exact fin (ζ := [a, b, e, c, d]) (detR 3 [[.var 2, .var 1, .var 0], [.var 4, .var 3, .num 0], [.num 0, .var 4, .var 3]]) (.add (.sub (.mul (.var 2) (.mul (.var 3) (.var 3))) (.mul (.var 1) (.mul (.var 4) (.var 3)))) (.mul (.var 0) (.mul (.var 4) (.var 4)))) (by kernel_rfl) (by kernel_rfl) (by kernel_rfl)
 ·exact fin (ζ := [a, b, e, c, d, f]) (detR 4 [[.var 2, .var 1, .var 0, .num 0], [.num 0, .var 2, .var 1, .var 0], [.var 5, .var 4, .var 3, .num 0], [.num 0, .var 5, .var 4, .var 3]])
   (.add (.mul (.sub (.mul (.var 5) (.var 0)) (.mul (.var 2) (.var 3))) (.sub (.mul (.var 5) (.var 0)) (.mul (.var 2) (.var 3)))) (.mul (.sub (.mul (.var 5) (.var 1)) (.mul (.var 2) (.var 4))) (.sub (.mul (.var 1) (.var 3)) (.mul (.var 0) (.var 4))))) (by kernel_rfl) (by kernel_rfl) (by kernel_rfl)
theorem z8t (m : Nat) {u v : List Int} (hu : Dr u) (hv : Dr v) : phi prog (m + 6) 47 [li u, li v] = some (.int (res u v)) := by
 have lu := hu.sh.len
 have lv := hv.sh.len
 obtain ⟨w, hw⟩ : ∃ w, w = u.length + v.length - 2 := ⟨_, rfl⟩
 refine z3p.eq (z0f (d := z4i) (ρ0 := [some (li u), some (li v), none, none, none, none, none]) rfl rfl rfl ?_)
 rw [q5q]
 have hwI : (u.length : Int) + v.length - 2 = w := by exact o381 lu.1 hw
 refine z0d.seq (ρ1 := reE u v (some (.int w)) [] none none none) (z0w (cvo [true, true, false, true] (.c (y5z (op := .sub) (congrArg some hwI)) (.c z0h (.c z0h .n))) rfl) rfl) ?_
 obtain ⟨o6, e1⟩ := re_in (phi prog (m + 5)) z5y u v u v w [] none (by exact o382 hwI lv.1) (by exact o383 hwI lu.2 lv.2) (by exact o384 lv.1) (by simp)
 obtain ⟨o6', e2⟩ := re_in (phi prog (m + 5)) z5y u v v u w ([] ++ z1p u w (v.length - 1)) o6 (by exact o385 hwI lu.1) (by exact o386 hw lu.2 lv.2) (by exact o384 lu.1) (by simp [z1p]; exact o387 lv.2)
 rw [List.nil_append] at e1 e2
 refine z0d.seq (ρ1 := reE u v (some (.int w)) (z1p u w (v.length - 1) ++ z1p v w (u.length - 1)) (some (li v)) (some (li u)) o6') ?_ ?_
 ·have hv0 : ev (phi prog (m + 5)) (reE u v (some (.int w)) [] none none none) (.tup (.cons (.tup (.cons (.var 0) (.cons (.var 1) .nil))) (.cons (.tup (.cons (.var 1) (.cons (.var 0) .nil))) .nil))) [] = some (.tup [.tup [li u, li v], .tup [li v, li u]]) := rfl
  rw [xs, hv0]
  simp only [z7d, y2p]
  rw [show z2k [4, 5] true (.tup [li u, li v]) (reE u v (some (.int w)) [] none none none) = some (reE u v (some (.int w)) [] (some (li u)) (some (li v)) none) from rfl]
  simp only [e1]
  rw [show z2k [4, 5] true (.tup [li v, li u]) (reE u v (some (.int w)) (z1p u w (v.length - 1)) (some (li u)) (some (li v)) o6) = some (reE u v (some (.int w)) (z1p u w (v.length - 1)) (some (li v)) (some (li u)) o6) from rfl]
  simp only [e2]
 ·have hR : ∀ r ∈ z1p u w (v.length - 1) ++ z1p v w (u.length - 1), Rw r := fun r hr => by
   rcases List.mem_append.mp hr with q | q
   ·exact y6d hu (by exact o388 lv.1 hw) (by exact o389 lv.1) (by exact o386 hw lu.2 lv.2) r q
   ·exact y6d hv (by exact o390 lu.1 hw) (by exact o389 lu.1) (by exact o386 hw lu.2 lv.2) r q
  have e3 := q5x (m + 5 - w - 1) w (z1p u w (v.length - 1) ++ z1p v w (u.length - 1)) (by exact o386 hw lu.2 lv.2) (by simp [z1p]; exact o391 hwI lu.1 lv.1) hR
  rw [show m + 5 - w - 1 + w + 1 = m + 5 by exact o392 hwI lu.2 lv.2] at e3
  have e4 := q6y hu.sh hv.sh
  rw [<- hw] at e4
  rw [e4] at e3
  exact z0d.here (z0d.ret (v := .int (res u v)) (cvo [true] (.c (z0c e3) .n) rfl) rfl)
end Mine
end
section
namespace Mine
theorem y0b (l r : List Int) : eqL (l.map D.int) (r.map D.int) = some (l == r) := by
 simp [eqL, z8w]
theorem q6u (l : List Int) : eqL (l.map D.int) [] = some (l == []) := y0b l []
theorem v_eqL {Φ : Nat -> List D -> Option D} {ρ : List (Option D)} {l : List Int} : ev Φ ρ (.cmp .eq (.cvar 0) (.cvar 1)) [li l, li l] = some (.bool true) := z8i ((y0b l l).trans (congrArg some (beq_self_eq_true l)))
theorem v_neL {Φ : Nat -> List D -> Option D} {ρ : List (Option D)} {l : List Int} : ev Φ ρ (.cmp .ne (.cvar 0) (.cvar 1)) [li l, li l] = some (.bool false) := z8i (congrArg (Option.map (!·)) ((y0b l l).trans (congrArg some (beq_self_eq_true l))))
theorem q7h {l : List Int} (h : l ≠ []) : (l == []) = false := by
 cases l with
 | nil => exact absurd rfl h
 | cons a r => rfl
theorem q4s {Φ : Nat -> List D -> Option D} {ρ : List (Option D)} {l : List Int} (h : l ≠ []) : ev Φ ρ (.cmp .ne (.cvar 0) (.cvar 1)) [li l, .list []] = some (.bool true) := z8i (congrArg (Option.map (!·)) ((q6u l).trans (congrArg some (q7h h))))
theorem y5n (l : List Int) (i : Nat) : co l.dropLast i = if i < l.length - 1 then co l i else 0 := by
 rw [List.dropLast_eq_take, y5m]
set_option tactic.hygienic true in
theorem z7o (n : Nat) (l : List Int) (p : Int) (hp : 0 < p) (hl : l.length <= 1000) : phi prog (n + 1) 48 [li l, .int p] = some (li (rs p l)) := by
 refine z3p.eq (z0f (d := y4d) (ρ0 := [some (li l), some (.int p), none]) rfl rfl rfl ?_)
 have e := z3a (Φ := phi prog n) (ρ := [some (li l), some (.int p), none]) (κ := []) (elt := .bin .mod (.cvar 0) (.var 1)) (it := .var 0) (l := l) (g := fun x => x % p) rfl (fun x hx => by
  have : p ≠ 0 := by exact o135 hp
  exact cvo [true] (.c (z4a this (by exact q6b hp)) .n) rfl)
 refine z0d.seq (z0g e) ?_
 refine z0d.seqP (P := fun ρ => ρ = [some (li l), some (.int p), some (li (rs p l))]) (z0e.whl (fun k ρ => ∃ r : List Int, ρ = [some (li l), some (.int p), some (li r)] /\ (∀ i, co r i = co l i % p) /\ r.length = k) l.length ⟨_, rfl, fun i => z3s (f := fun x => x % p) (by simp) l i, by simp⟩ (by rw [z3t]; exact Nat.lt_of_le_of_lt hl (by decide)) ?_) ?_
 ·rintro k ρ ⟨r, rfl, hr, rfl⟩
  have fin : z2h r -> r = rs p l := fun h => z7u h (z4b _) fun i => by rw [hr]; exact (q7b p l i).symm
  by_cases h0 : r = []
  ·refine .inl ⟨?_, by rw [fin (.inl h0)]⟩
   subst h0
   exact cvo [false] .n rfl
  ·have e1 := z2a h0
   have hrl := z1e h0
   by_cases h1 : co r (r.length - 1) = 0
   ·refine .inr ⟨?_, z0e.seq (ρ1 := [some (li l), some (.int p), some (li r.dropLast)]) ?_ (z0e.skip ⟨r.length - 1, by exact o394 hrl, r.dropLast, rfl, fun i => ?_, by simp⟩)⟩
    ·exact cvo [true, false, true, true] (.c (y7n h1) (.c (z2i e1) (.c (q4s h0) .n))) rfl
    ·have : ¬ r = [] := h0
     simp [xs, li, this, List.map_dropLast]
    ·rw [y5n, <- hr]
     split
     ·rfl
     ·rename_i q
      by_cases hi : i = r.length - 1
      ·rw [hi, h1]
      ·rw [z0y (show r.length <= i from o624 q hi)]
   ·refine .inl ⟨?_, by rw [fin (.inr h1)]⟩
    exact cvo [true, false, true, true] (.c (y2c h1) (.c (z2i e1) (.c (q4s h0) .n))) rfl
 ·rintro ρ rfl
  exact z0d.here (z0d.ret (v := li (rs p l)) rfl rfl)
theorem z5o {c f : List D -> Option D} {g : Int -> Bool} : ∀ {l : List Int}, (∀ x ∈ l, c [.int x] = some (.bool (g x)) /\ f [.int x] = some (.int x)) -> z3n (z0u 1 false) c f (l.map .int) = some ((l.filter g).map .int)
 | [], _ => rfl
 | x :: r, h => by
  obtain ⟨h1, h2⟩ := h x List.mem_cons_self
  have ih := z5o (l := r) fun y hy => h y (List.mem_cons_of_mem _ hy)
  simp only [List.map_cons, z3n, z0u, h1]
  cases hg : g x with
  | true => simp only [h2, ih, List.filter_cons, hg]; rfl
  | false => simp only [ih, List.filter_cons, hg]; rfl
noncomputable def q7i (v : Nat) : ME := .idx (.comp (.cvar 0) 1 (.range (.var 2)) (.cmp .eq (.bin .mod (.bin .mul (.cvar 0) (.idx (.var v) (.neg (.int 1)))) (.var 2)) (.int 1))) (.int 0)
theorem q0v {Φ : Nat -> List D -> Option D} {ρ : z3y} {p : Int} (P : z1g p) (hp : p <= 1000) {v : Nat} {y : List Int} (h2 : ρ[2]? = some (some (.int p))) (hv : ρ[v]? = some (some (li y))) (hy : z9c p y) (y0 : y ≠ []) :
  ∃ t, A4 (ev Φ ρ (q7i v) [] = some (.int t)) (0 <= t) (t < p) (p ∣ co y (y.length - 1) * t - 1) := by
 have p2 := P.two
 have hB : (1000 : Int) <= BB := by decide +kernel
 obtain ⟨_, _, i, _, i0, i1, i2⟩ := z2z 0 (co y (y.length - 1)) p p2 (by exact o395 hB hp) (P.cop _ (hy.lead y0 (by exact z7f p2)))
 obtain ⟨z, hz⟩ : ∃ z, z = co y (y.length - 1) := ⟨_, rfl⟩
 have zr := hy.rng.co (show 0 < p by exact z7f p2) (y.length - 1)
 rw [<- hz] at zr i2
 have e1 := z2a y0
 rw [<- hz] at e1
 have pn : p ≠ 0 := by exact q3p p2
 have hpt : p = (p.toNat : Int) := by exact o397 p2
 have er := y6r (Φ := Φ) (ρ := ρ) (κ := []) (a := .var 2) (n := p.toNat) (by simp only [ev, h2]; rw [<- hpt]) (by exact o398 hp)
 have cg := z5o (c := fun ks => ev Φ ρ (.cmp .eq (.bin .mod (.bin .mul (.cvar 0) (.idx (.var v) (.neg (.int 1)))) (.var 2)) (.int 1)) ks) (f := fun ks => ev Φ ρ (.cvar 0) ks) (g := fun x => x * z % p == 1) (l := (List.range p.toNat).map (fun (i : Nat) => (i : Int))) fun x hx => by
  obtain ⟨k, hk, rfl⟩ := List.mem_map.mp hx
  have := List.mem_range.mp hk
  have s1 : small (k : Int) = true := z0v (by exact Int.natCast_nonneg _) (by exact o399 this hp)
  have s2 : small z = true := z0v (by exact y4y zr.1) (by exact y6i zr.2 hp)
  refine ⟨?_, rfl⟩
  simp only [ev, hv, h2]
  simp [li, z7d, e1, y3f, z9b, s1, s2, pn, y5o, eqD, Int.fmod_eq_emod_of_nonneg _ (show 0 <= p by exact q2n p2)]
 obtain ⟨F, hF⟩ : ∃ F, F = ((List.range p.toNat).map (fun (i : Nat) => (i : Int))).filter (fun x => x * z % p == 1) := ⟨_, rfl⟩
 rw [<- hF] at cg
 have hi : i ∈ F := by
  rw [hF]
  refine List.mem_filter.mpr ⟨List.mem_map.mpr ⟨i.toNat, List.mem_range.mpr (by exact o402 p2 i1), by exact o403 i0⟩, ?_⟩
  rw [beq_iff_eq]
  have e : i * z = 1 + (z * i - 1) := by rw [Int.mul_comm]; exact o404
  rw [e, Int.add_emod, Int.emod_eq_zero_of_dvd i2, Int.add_zero, Int.emod_emod, Int.emod_eq_of_lt (by decide) (by exact o405 p2)]
 obtain ⟨t, T, hT⟩ : ∃ t T, F = t :: T := by
  cases F with
  | nil => cases hi
  | cons t T => exact ⟨t, T, rfl⟩
 have ht : t ∈ F := by rw [hT]; exact List.mem_cons_self
 rw [hF] at ht
 obtain ⟨m1, m2⟩ := List.mem_filter.mp ht
 obtain ⟨k, hk, rfl⟩ := List.mem_map.mp m1
 have := List.mem_range.mp hk
 rw [beq_iff_eq] at m2
 refine ⟨k, ?_, by exact Int.natCast_nonneg _, by exact o406 this, ?_⟩
 ·have ecomp : ev Φ ρ (.comp (.cvar 0) 1 (.range (.var 2)) (.cmp .eq (.bin .mod (.bin .mul (.cvar 0) (.idx (.var v) (.neg (.int 1)))) (.var 2)) (.int 1))) [] = some (li F) := y0q er rfl cg
  rw [hT] at ecomp
  exact cvo [true, false] (.c ecomp .n) rfl
 ·rw [<- hz]
  have := z1f ((k : Int) * z) p
  rw [m2, Int.mul_comm] at this
  exact this
noncomputable def coE (x y : List Int) (p c : Int) (o4 o5 o6 : Option D) : z3y := [some (li x), some (li y), some (.int p), some (.int c), o4, o5, o6]
noncomputable def coI : MS := .seq (.asgT [5, 6] (.tup (.cons (.bin .sub (.len (.var 0)) (.len (.var 1))) (.cons (.bin .mul (.idx (.var 0) (.neg (.int 1))) (.var 4)) .nil)))) (.seq (.asg 0 (.call 48 (.cons (.comp (.bin .sub (.cvar 1) (.ite (.cmp .ge (.cvar 0) (.var 5)) (.bin .mul (.var 6) (.idx (.var 1) (.bin .sub (.cvar 0) (.var 5)))) (.int 0))) 2 (.enum (.var 0)) (.bool true)) (.cons (.var 2) .nil)))) .skip)
noncomputable def coB : MS := .seq (.asg 4 (q7i 1)) (.seq (.whl (.cmp .ge (.len (.var 0)) (.len (.var 1))) coI) (.seq (.asgT [0, 1] (.tup (.cons (.var 1) (.cons (.var 0) .nil)))) .skip))
theorem q7c : z6q.body = .seq (.asgT [0, 1] (.tup (.cons (.call 48 (.cons (.var 0) (.cons (.var 2) .nil))) (.cons (.call 48 (.cons (.var 1) (.cons (.var 2) .nil))) .nil)))) (.seq (.whl (.cmp .ne (.var 1) (.list .nil)) coB) (.seq (.asg 4 (q7i 0)) (.seq (.ret (.comp (.bin .mod (.bin .mul (.bin .mul (.cvar 0) (.var 4)) (.var 3)) (.var 2)) 1 (.var 0) (.bool true))) .skip))) := rfl
theorem q7a (n : Nat) {p c back : Int} (P : z1g p) (hp : p <= 1000) {x y : List Int} (hx : z9c p x) (hy : z9c p y) (y0 : y ≠ []) (lx : x.length <= 100) (hxy : y.length <= x.length) (b0 : 0 <= back) (b1 : back < p) (b2 : p ∣ co y (y.length - 1) * back - 1) (o5 o6 : Option D) :
  E3 fun x' o5' o6' => A4 (xs (phi prog (n + 1)) z5y coI (coE x y p c (some (.int back)) o5 o6) = some (.next, coE x' y p c (some (.int back)) o5' o6')) (z9c p x') (x'.length < x.length) (∃ q k : List Int, ∀ t, pe x t = pe y t * pe q t + pe x' t + p * pe k t) := by
 have p2 := P.two
 have yl := z1e y0
 have x0 : x ≠ [] := fun q => yl (Nat.le_zero.mp (by rw [q] at hxy; exact hxy))
 obtain ⟨z, hz⟩ : ∃ z, z = co x (x.length - 1) := ⟨_, rfl⟩
 have zr := hx.rng.co (show 0 < p by exact o407 b0 b1) (x.length - 1)
 rw [<- hz] at zr
 have e1 := z2a x0
 rw [<- hz] at e1
 obtain ⟨s, hs⟩ : ∃ s : Nat, s = x.length - y.length := ⟨_, rfl⟩
 obtain ⟨tm, htm⟩ : ∃ tm, tm = z * back := ⟨_, rfl⟩
 have tb := z0b (A := 1000) (B := 1000) (a := z) (b := back) (by exact o408 zr.1) (by exact o409 zr.2 hp) (by exact o408 b0) (by exact o409 b1 hp)
 rw [<- htm] at tb
 have sz : small z = true := z0v (by exact y4y zr.1) (by exact y6i zr.2 hp)
 have sb : small back = true := z0v (by exact y4y b0) (by exact y6i b1 hp)
 have st : small tm = true := z0v (by exact o410 tb.1) (by exact o411 tb.2)
 have hsub : (x.length : Int) - y.length = s := by exact o412 hs hxy
 obtain ⟨l, el, hll, hR⟩ := y0w (opn := z0u 2 true) (c := fun ks => ev (phi prog (n + 1)) (coE x y p c (some (.int back)) (some (.int s)) (some (.int tm))) (.bool true) ks) (f := fun ks => ev (phi prog (n + 1)) (coE x y p c (some (.int back)) (some (.int s)) (some (.int tm))) (.bin .sub (.cvar 1) (.ite (.cmp .ge (.cvar 0) (.var 5)) (.bin .mul (.var 6) (.idx (.var 1) (.bin .sub (.cvar 0) (.var 5)))) (.int 0))) ks)
  (R := fun i v => v = co x i - (if i < s then 0 else tm * co y (i - s))) (items := z2r 0 (x.map D.int)) 0 (fun i d hd => by
   have hi : i < x.length := by
    have := (List.getElem?_eq_some_iff.mp hd).1
    rwa [z1n, List.length_map] at this
   obtain ⟨w, hw, rfl⟩ := z3f _ _ _ _ hd
   rw [z9l hi] at hw
   cases hw
   rw [Nat.zero_add]
   refine ⟨[.int (i : Int), .int (co x i)], co x i - (if i < s then 0 else tm * co y (i - s)), rfl, rfl, ?_, rfl⟩
   by_cases h : i < s
   ·have h' : ¬ (s : Int) <= i := by exact o66 h
    rw [if_pos h]
    exact cvo [true, false] (.c (q1s h') .n) rfl
   ·have h' : (s : Int) <= i := by exact o67 h
    have e2 := z9k (l := y) (i := (i : Int) - s) (by exact o413 h) (by exact o414 hsub hi)
    rw [show ((i : Int) - s).toNat = i - s by exact o415] at e2
    have yr := hy.rng.co (show 0 < p by exact o407 b0 b1) (i - s)
    have sy : small (co y (i - s)) = true := z0v (by exact y4y yr.1) (by exact y6i yr.2 hp)
    rw [if_neg h]
    exact cvo [true, false, true, true, false] (.c (z3z st sy) (.c (z2i e2) (.c (y8r h') .n))) rfl)
 rw [z1n, List.length_map] at hll
 have hco : ∀ i, co l i = co x i - (if i < s then 0 else tm * co y (i - s)) := fun i => by
  by_cases hi : i < l.length
  ·have := hR i hi
   rwa [Nat.zero_add] at this
  ·rw [z0y (by exact o102 hi), z0y (l := x) (by exact o103 hll hi)]
   split
   ·rfl
   ·rw [z0y (l := y) (by exact o416 hsub hll hi)]; simp
 have ecut := z7o n l p (by exact o407 b0 b1) (by exact o417 hll lx)
 have hrl : (rs p l).length < x.length := by
  have h1 := y3o p l
  refine Nat.not_le.mp fun q => ?_
  have hn : rs p l ≠ [] := fun z => by rw [z] at q; simp at q; exact x0 q
  have h2 := (z9e (by exact o407 b0 b1) l).lead hn (by exact o407 b0 b1)
  refine h2 ?_
  have h3 : (rs p l).length - 1 = x.length - 1 := by exact o418 hll q h1
  rw [h3]
  have h4 : p ∣ co l (x.length - 1) := by
   rw [hco, if_neg (by exact o205 hs yl), show x.length - 1 - s = y.length - 1 by exact o206 hsub, <- hz, htm]
   have : z - z * back * co y (y.length - 1) = -(z * (co y (y.length - 1) * back - 1)) := by exact r77
   rw [this]
   exact Int.dvd_neg.mpr (Int.dvd_trans b2 (Int.dvd_mul_left _ _))
  have h5 := y2g p l (x.length - 1)
  rw [show co (rs p l) (x.length - 1) = co l (x.length - 1) - (co l (x.length - 1) - co (rs p l) (x.length - 1)) by exact o153]
  exact Int.dvd_sub h4 h5
 obtain ⟨k, hk⟩ := z4r (y2g p l)
 refine ⟨rs p l, some (.int s), some (.int tm), ?_, z9e (by exact o407 b0 b1) l, hrl, psh s [tm], k, fun t => ?_⟩
 ·refine z0q (ρ1 := coE x y p c (some (.int back)) (some (.int s)) (some (.int tm))) ?_ (z0q (ρ1 := coE (rs p l) y p c (some (.int back)) (some (.int s)) (some (.int tm))) ?_ z0l)
  ·subst htm
   exact z0w (cvo [true, true, true, false, true, true] (.c (z3z sz sb) (.c (z2i e1) (.c (y5z (op := .sub) (congrArg some hsub)) (.c z0h (.c z0h .n))))) rfl) rfl
  ·have ecomp : ev (phi prog (n + 1)) (coE x y p c (some (.int back)) (some (.int s)) (some (.int tm))) (.comp (.bin .sub (.cvar 1) (.ite (.cmp .ge (.cvar 0) (.var 5)) (.bin .mul (.var 6) (.idx (.var 1) (.bin .sub (.cvar 0) (.var 5)))) (.int 0))) 2 (.enum (.var 0)) (.bool true)) [] = some (li l) := by
    exact y0q (x := .list (z2r 0 (x.map D.int))) (cvo [false] .n rfl) rfl el
   refine z0g (ρ := coE x y p c (some (.int back)) (some (.int s)) (some (.int tm))) (x := 0) (d := li (rs p l)) ?_
   exact cvo [true, true] (.c (z0c ecut) (.c ecomp .n)) rfl
 ·have h1 : pe l t = pe x t - pe y t * (tm * t ^ s) := by
   have e2 : ∀ i, co l i = co (z3m x (psc (-tm) (psh s y))) i := fun i => by
    rw [hco, z2g, z0p, y4h]
    split
    ·exact o419
    ·rw [Int.neg_mul]; exact rfl
   rw [z4o e2, z2c, z0n, z7e]; exact r78
  have h2 := hk t
  rw [z7e]
  simp only [pe]
  rw [h1] at h2
  exact r79 h2
theorem y1i (n : Nat) {p c : Int} (P : z1g p) (hp : p <= 1000) (a b : List Int) (h0 : (∃ i, ¬ p ∣ co a i) \/ (∃ i, ¬ p ∣ co b i)) (la : a.length <= 100) (lb : b.length <= 100) (c0 : 0 <= c) (c1 : c <= 1000) (hc : ¬ p ∣ c) :
  z3p (n + 2) 49 [li a, li b, .int p, .int c] fun v => ∃ d, v = li (im p c d) /\ y3h p a b d := by
 have p2 := P.two
 refine z0f (d := z6q) (ρ0 := coE a b p c none none none) rfl rfl rfl ?_
 rw [q7c]
 have ca := z7o n a p (by exact z7f p2) (by exact o420 la)
 have cb := z7o n b p (by exact z7f p2) (by exact o420 lb)
 obtain ⟨A, hA⟩ : ∃ A, A = rs p a := ⟨_, rfl⟩
 obtain ⟨B, hB⟩ : ∃ B, B = rs p b := ⟨_, rfl⟩
 have rA : z9c p A := hA ▸ z9e (by exact z7f p2) a
 have rB : z9c p B := hB ▸ z9e (by exact z7f p2) b
 have lA : A.length <= 100 := by have := y3o p a; rw [hA]; exact o421 la this
 have lB : B.length <= 100 := by have := y3o p b; rw [hB]; exact o421 lb this
 have hAB : A ≠ [] \/ B ≠ [] := by rw [hA, hB]; exact h0.imp (fun ⟨i, q⟩ => y7r q) fun ⟨i, q⟩ => y7r q
 rw [<- hA] at ca
 rw [<- hB] at cb
 refine z0d.seq (ρ1 := coE A B p c none none none) (z0w (cvo [true, true] (.c (z0c cb) (.c (z0c ca) .n)) rfl) rfl) ?_
 refine z0d.seqP (P := fun ρ => E4 fun (x : List Int) (o4 o5 o6 : Option D) => A7 (ρ = coE x [] p c o4 o5 o6) (z9c p x) (x ≠ []) (x.length <= 100) (Idl p (pe x) (pe []) (pe A)) (Idl p (pe x) (pe []) (pe B)) (Idl p (pe A) (pe B) (pe x)))
  (z0e.whl (fun k ρ => E5 fun (x y : List Int) (o4 o5 o6 : Option D) => A11 (ρ = coE x y p c o4 o5 o6) (z9c p x) (z9c p y) ((x ≠ [] \/ y ≠ [])) (x.length <= 100) (y.length <= 100) (Idl p (pe x) (pe y) (pe A)) (Idl p (pe x) (pe y) (pe B)) (Idl p (pe A) (pe B) (pe x)) (Idl p (pe A) (pe B) (pe y)) (y.length = k)) B.length
   ⟨A, B, none, none, none, rfl, rA, rB, hAB, lA, lB, Idl.left, Idl.right, Idl.left, Idl.right, rfl⟩ (by rw [z3t]; exact o422 lB) ?_) ?_
 ·rintro k ρ ⟨x, y, o4, o5, o6, rfl, hx, hy, hxy, lx, ly, i1, i2, i3, i4, rfl⟩
  by_cases hy0 : y = []
  ·subst hy0
   exact .inl ⟨cvo [false] .n rfl, x, o4, o5, o6, rfl, hx, hxy.resolve_right (by simp), lx, i1, i2, i3⟩
  ·obtain ⟨t, ht, t0, t1, t2⟩ := q0v (Φ := phi prog (n + 1)) (ρ := coE x y p c o4 o5 o6) P hp (v := 1) rfl rfl hy hy0
   refine .inr ⟨cvo [true] (.c (q4s hy0) .n) rfl, ?_⟩
   refine z0e.seq (ρ1 := coE x y p c (some (.int t)) o5 o6) (z0g ht) ?_
   refine z0e.seqP (P' := fun ρ => E3 fun (x' : List Int) (o5 o6 : Option D) => A5 (ρ = coE x' y p c (some (.int t)) o5 o6) (z9c p x') (x'.length < y.length) (Idl p (pe x') (pe y) (pe x)) (Idl p (pe x) (pe y) (pe x')))
    (z0e.whl (fun k ρ => E3 fun (x' : List Int) (o5 o6 : Option D) => A6 (ρ = coE x' y p c (some (.int t)) o5 o6) (z9c p x') (x'.length <= 100) (Idl p (pe x') (pe y) (pe x)) (Idl p (pe x) (pe y) (pe x')) (x'.length = k)) x.length ⟨x, o5, o6, rfl, hx, lx, Idl.left, Idl.left, rfl⟩ (by rw [z3t]; exact o422 lx) ?_) ?_
   ·rintro k ρ ⟨x', o5, o6, rfl, hx', lx', j1, j2, rfl⟩
    by_cases hl : x'.length < y.length
    ·have : ¬ (y.length : Int) <= x'.length := by exact o66 hl
     exact .inl ⟨cvo [true, true, true] (.c (q1s this) (.c z0h (.c z0h .n))) rfl, x', o5, o6, rfl, hx', hl, j1, j2⟩
    ·have : (y.length : Int) <= x'.length := by exact o67 hl
     obtain ⟨x2, o5', o6', e, hx2, hl2, q, k, hq⟩ := q7a n (c := c) P hp hx' hy hy0 lx' (by exact o102 hl) t0 t1 t2 o5 o6
     refine .inr ⟨cvo [true, true, true] (.c (y8r this) (.c z0h (.c z0h .n))) rfl, z0e.of e ⟨x2.length, hl2, x2, o5', o6', rfl, hx2, by exact o423 hl2 lx', ?_, ?_, rfl⟩⟩
     ·refine j1.trans ⟨_, _, _, Pol.const 1, Pol.pe q, Pol.pe k, fun t => by rw [hq t]; exact r80⟩ Idl.right
     ·exact Idl.trans (X := pe x') (Y := pe y) ⟨_, _, _, Pol.const 1, (Pol.pe q).neg, (Pol.pe k).neg, fun t => by have := hq t; simp only [this]; exact r81⟩ j2 Idl.right
   ·rintro ρ ⟨x', o5, o6, rfl, hx', hl, j1, j2⟩
    have sw : ∀ {F : Int -> Int}, Idl p (pe x') (pe y) F -> Idl p (pe y) (pe x') F := fun h => h.trans Idl.right Idl.left
    refine z0e.seq (ρ1 := coE y x' p c (some (.int t)) o5 o6) (z0w (cvo [] .n rfl) rfl) (z0e.skip ⟨x'.length, hl, y, x', _, _, _, rfl, hy, hx', .inl hy0, ly, by exact o423 hl ly, sw (i1.trans j1 Idl.right), sw (i2.trans j1 Idl.right), i4, j2.trans i3 i4, rfl⟩)
 ·rintro ρ ⟨x, o4, o5, o6, rfl, hx, hx0, lx, i1, i2, i3⟩
  obtain ⟨t, ht, t0, t1, t2⟩ := q0v (Φ := phi prog (n + 1)) (ρ := coE x [] p c o4 o5 o6) P hp (v := 0) rfl rfl hx hx0
  refine z0d.seq (ρ1 := coE x [] p c (some (.int t)) o5 o6) (z0g ht) ?_
  have hxl := z1e hx0
  have z0 : (fun x => x * t % p) (0 : Int) = 0 := by simp
  obtain ⟨d, hd⟩ : ∃ d, d = x.map (fun x => x * t % p) := ⟨_, rfl⟩
  have dl : d.length = x.length := by rw [hd]; simp
  have dco : ∀ i, co d i = co x i * t % p := fun i => by rw [hd, z3s z0]
  have dm : co d (d.length - 1) = 1 := by
   rw [dl, dco]
   have e : co x (x.length - 1) * t = 1 + (co x (x.length - 1) * t - 1) := by exact o404
   rw [e, Int.add_emod, Int.emod_eq_zero_of_dvd t2, Int.add_zero, Int.emod_emod, Int.emod_eq_of_lt (by decide) (by exact o405 p2)]
  have d0 : d ≠ [] := fun q => by rw [q] at dl; simp at dl; exact q3r dl hxl
  have rd : z9c p d := ⟨z4w fun i => by rw [dco]; exact z4q (by exact z7f p2), .inr (by rw [dm]; decide)⟩
  obtain ⟨k, hk⟩ : ∃ k : List Int, ∀ z, pe d z = t * pe x z + p * pe k z := by
   obtain ⟨k, hk⟩ := z4r (p := p) (u := d) (v := psc t x) fun i => by
    rw [z0p, dco]
    have := z1f (co x i * t) p
    rw [show co x i * t % p - t * co x i = -(co x i * t - co x i * t % p) by rw [Int.mul_comm t]; exact o121]
    exact Int.dvd_neg.mpr this
   exact ⟨k, fun z => by rw [hk, z0n]⟩
  obtain ⟨w, hw⟩ := t2
  have hxd : Dv p (pe d) (pe x) := by
   refine ⟨_, _, Pol.const (co x (x.length - 1)), ((Pol.pe k).smul (-(co x (x.length - 1)))).add ((Pol.pe x).smul (-w)), fun z => ?_⟩
   rw [hk]
   have e : co x (x.length - 1) * t = 1 + p * w := by exact o424 hw
   exact r82 hw
  have ze : Dv p (pe d) (pe []) := ⟨_, _, Pol.const 0, Pol.const 0, fun t => by simp [pe]⟩
  have g : y3h p A B d := by
   refine ⟨rd, d0, dm, Dv.of_idl i1 hxd ze, Dv.of_idl i2 hxd ze, ?_⟩
   exact ((i3.mul (Pol.const t)).add (Idl.pk (Pol.pe k))).congr fun z => by rw [hk]; exact r83
  have g' : y3h p a b d := g.congr (fun i => by rw [hA]; exact y2g p a i) (fun i => by rw [hB]; exact y2g p b i)
  have e : ev (phi prog (n + 1)) (coE x [] p c (some (.int t)) o5 o6) (.comp (.bin .mod (.bin .mul (.bin .mul (.cvar 0) (.var 4)) (.var 3)) (.var 2)) 1 (.var 0) (.bool true)) [] = some (li (x.map fun v => v * t * c % p)) := z3a (l := x) rfl fun v hv => by
   have hv := hx.rng v hv
   have s1 : small v = true := z0v (by exact y4y hv.1) (by exact y6i hv.2 hp)
   have s2 : small t = true := z0v (by exact y4y t0) (by exact y6i t1 hp)
   have m1 := z0b (A := 1000) (B := 1000) (a := v) (b := t) (by exact o408 hv.1) (by exact o409 hv.2 hp) (by exact o408 t0) (by exact o409 t1 hp)
   have s3 : small (v * t) = true := z0v (by exact o410 m1.1) (by exact o411 m1.2)
   have s4 : small c = true := z0v (by exact y4y c0) (by exact o425 c1)
   have pn : p ≠ 0 := by exact q3p p2
   exact cvo [true, true, true] (.c (z4a pn (by exact q2n p2)) (.c (z3z s3 s4) (.c (z3z s1 s2) .n))) rfl
  refine z0d.here (z0d.ret e ⟨d, ?_, g'⟩)
  congr 1
  obtain ⟨il, _⟩ := y3x P d0 dm hc
  refine z2d (by rw [il, dl]; simp) fun i => ?_
  rw [q3a, dco, z3s (f := fun v => v * t * c % p) (by simp), Int.mul_emod (co x i * t % p), Int.emod_emod, Int.emod_emod, <- Int.mul_emod]
end Mine
end
section
namespace Mine
noncomputable def P6 : List Int := [2, 3, 5, 7, 11, 13]
theorem q2l {p : Int} (h : p ∈ P6) : z1g p /\ p <= 13 := by
 unfold P6 at h
 simp only [List.mem_cons, List.not_mem_nil, or_false] at h
 rcases h with h | h | h | h | h | h <;> subst h
 ·exact ⟨z3v (p := 2) (by decide), by decide⟩
 ·exact ⟨z3v (p := 3) (by decide), by decide⟩
 ·exact ⟨z3v (p := 5) (by decide), by decide⟩
 ·exact ⟨z3v (p := 7) (by decide), by decide⟩
 ·exact ⟨z3v (p := 11) (by decide), by decide⟩
 ·exact ⟨z3v (p := 13) (by decide), by decide⟩
theorem inv_ex {p : Int} (P : z1g p) (hp : p <= 13) {c : Int} (hc : ¬ p ∣ c) : ∃ i, p ∣ c * i - 1 := by
 have hB : (13 : Int) <= BB := by decide +kernel
 obtain ⟨_, _, i, _, i0, i1, i2⟩ := z2z 0 c p P.two (by exact o426 hB hp) (P.cop _ hc)
 exact ⟨i, i2⟩
theorem q1o {p : Int} (P : z1g p) (hp : p <= 13) {s u v d : List Int} (hs : Dr s) (hu : Dr u) (hv : Dr v) (ns : ¬ p ∣ zl s) (nu : ¬ p ∣ zl u) (nv : ¬ p ∣ zl v) (hd : y3h p (z0j s u) (z0j s v) d) :
  s.length <= d.length /\ (s.length < d.length <-> p ∣ res u v) := by
 have ls := hs.sh.len
 have p2 := P.two
 have n1 : ¬ p ∣ 1 := fun q => by
  have := Int.le_of_dvd (by decide) q; exact o112 p2 this
 refine ⟨hd.len_le P (m := s.length - 1) (by exact q6c ls.1) ns (y8i (y3a s u)) (y8i (y3a s v)), fun hl => ?_, fun hr => ?_⟩
 ·obtain ⟨X, Y, hXY⟩ := y9j hu.sh hv.sh
  have b : Idl 0 (pe (z0j s u)) (pe (z0j s v)) (fun t => res u v * pe s t) := ⟨_, _, _, Pol.pe X, Pol.pe Y, Pol.const 0, fun t => by rw [z0m, z0m, hXY t]; exact r103⟩
  have h1 : Dv p (pe d) (pe (psc (res u v) s)) := (Dv.of_idl (q4a b) hd.dva hd.dvb).congr fun t => z0n (res u v) t s
  have h3 := h1.small P.pp (m := d.length - 1) (by exact o96 hl) (fun z => by rw [hd.monic] at z; exact n1 z) (fun j hj => by rw [z0y (by rw [z1a]; exact o97 hj hl)]; exact Int.dvd_zero p) (s.length - 1)
  rw [z0p] at h3
  exact (P.pp _ _ h3).resolve_right ns
 ·obtain ⟨h, c⟩ := com_of P.pp hu.sh hv.sh nu nv hr
  have l2 := c.l2
  have key : ∀ w : List Int, (E3 fun (c : Int) (q k : List Int) => ¬ p ∣ c /\ ∀ x, c * pe w x = pe h x * pe q x + p * pe k x) -> Dv p (pe (z0j s h)) (pe (z0j s w)) := fun w ⟨c, q, k, hc, e⟩ => by
   obtain ⟨i, z, hz⟩ := inv_ex P hp hc
   refine ⟨_, _, (Pol.pe q).smul i, (((Pol.pe s).mul (Pol.pe k)).smul i).add (((Pol.pe s).mul (Pol.pe w)).smul (-z)), fun t => ?_⟩
   have h1 := e t
   have h2 : pe s t * pe w t = pe s t * (i * (c * pe w t)) - p * z * (pe s t * pe w t) := by
    have : c * i = 1 + p * z := by exact o424 hz
    exact r84 hz
   rw [h1] at h2
   rw [z0m, z0m]
   exact r85 hz h1
  have e1 := z5k s h (s.length - 1) (h.length - 1) (by exact q6c ls.1) (by exact q6c l2)
  have e2 := z4j s h (s.length - 1) (h.length - 1) (by exact q6c ls.1) (by exact q6c l2)
  have := hd.len_le P (e := z0j s h) (m := s.length - 1 + (h.length - 1)) e1 (fun z => by
   rw [e2] at z
   rcases P.pp _ _ z with y | y
   ·exact ns y
   ·exact c.lead y) (key u c.du) (key v c.dv)
  exact o427 l2 e1 this
noncomputable def bpE (f g : List Int) (sz w : Int) (last found : List Int) (o6 o7 : Option D) : z3y := [some (li f), some (li g), some (.int sz), some (.int w), some (li last), some (li found), o6, o7]
noncomputable def bpL : ME := .ite (.cmp .gt (.var 6) (.int 2)) (.int 2) (.int 1)
noncomputable def bpC : ME := .and (.cmp .ne (.bin .mod (.idx (.var 0) (.neg (.int 1))) (.var 6)) (.int 0)) (.cmp .ne (.bin .mod (.idx (.var 1) (.neg (.int 1))) (.var 6)) (.int 0))
noncomputable def bpC1 : ME := .or (.cmp .ne (.call 32 (.cons (.var 0) (.cons (.var 1) (.cons bpL (.cons (.var 6) .nil))))) (.var 7)) (.cmp .lt (.len (.var 7)) (.var 2))
noncomputable def bpC2 : ME := .or (.cmp .ne (.cmp .gt (.len (.var 7)) (.var 2)) (.cmp .eq (.bin .mod (.var 3) (.var 6)) (.int 0))) (.and (.cmp .gt (.len (.var 7)) (.var 2)) (.cmp .ne (.bin .mod (.idx (.var 4) (.neg (.int 1))) (.var 6)) (.int 0)))
noncomputable def bpI : MS := .seq (.asg 7 (.call 49 (.cons (.var 0) (.cons (.var 1) (.cons (.var 6) (.cons bpL .nil)))))) (.seq (.ifs bpC1 (.seq (.ret .none) .skip) .skip) (.seq (.ifs bpC2 (.seq (.ret .none) .skip) .skip) (.seq (.ifs (.cmp .gt (.len (.var 7)) (.var 2)) (.seq (.app 5 (.var 6)) .skip) .skip) .skip)))
theorem q7g : z3r.body = .seq (.asg 5 (.list .nil)) (.seq (.fors [6] false .primes (.seq (.ifs bpC bpI .skip) .skip)) (.seq (.ret (.var 5)) .skip)) := rfl
set_option tactic.hygienic true in
theorem q5y (n : Nat) {s u v : List Int} (hs : Dr s) (hu : Dr u) (hv : Dr v) {k : Int} (k0 : k ≠ 0) (hk : ∀ p, PP p -> p ∣ res u v -> p ∣ k) :
  z3p (n + 7) 50 [li (z0j s u), li (z0j s v), .int s.length, .int (res u v), li (psc k s)] fun w => ∃ l, w = li l /\ ∀ x ∈ l, x ∈ P6 := by
 obtain ⟨a1, a2, a3, a4, a5⟩ := z0z hs hu
 obtain ⟨b1, b2, b3, b4, b5⟩ := z0z hs hv
 have ls := hs.sh.len
 have lu := hu.sh.len
 have lv := hv.sh.len
 have i1 := z2a a2
 have i2 := z2a b2
 rw [show co (z0j s u) ((z0j s u).length - 1) = zl s * zl u from a4] at i1
 rw [show co (z0j s v) ((z0j s v).length - 1) = zl s * zl v from b4] at i2
 obtain ⟨f, hf⟩ : ∃ f, f = z0j s u := ⟨_, rfl⟩
 obtain ⟨g, hg⟩ : ∃ g, g = z0j s v := ⟨_, rfl⟩
 obtain ⟨w, hw⟩ : ∃ w, w = res u v := ⟨_, rfl⟩
 obtain ⟨la, hla⟩ : ∃ la, la = psc k s := ⟨_, rfl⟩
 rw [<- hf] at i1 a2 a3
 rw [<- hg] at i2 b2 b3
 rw [<- hf, <- hg, <- hw, <- hla]
 have la0 : la ≠ [] := by rw [hla]; exact fun z => hs.ne (z6f.mp z)
 have i3 := z2a la0
 have ela : co la (la.length - 1) = k * zl s := by rw [hla, z0p, z1a]; rfl
 rw [ela] at i3
 refine z0f (d := z3r) (ρ0 := [some (li f), some (li g), some (.int s.length), some (.int w), some (li la), none, none, none]) rfl rfl rfl ?_
 rw [q7g]
 refine z0d.seq (ρ1 := bpE f g s.length w la [] none none) rfl ?_
 refine z0d.seqP (P := fun ρ => E3 fun l o6 o7 => A3 (ρ = bpE f g s.length w la l o6 o7) (l.length <= 6) (∀ x ∈ l, x ∈ P6)) (z0e.fors (x := .tup (P6.map D.int)) (items := P6.map D.int) (fun i ρ => E3 fun l o6 o7 => A3 (ρ = bpE f g s.length w la l o6 o7) (l.length <= i) (∀ x ∈ l, x ∈ P6)) rfl rfl ⟨[], none, none, rfl, by simp, by simp⟩ ?_) ?_
 ·rintro i d ρ hd ⟨l, o6, o7, rfl, hl, hm⟩
  have hi6 : i < 6 := by
   have := (List.getElem?_eq_some_iff.mp hd).1
   simpa [P6] using this
  obtain ⟨p, hp, rfl⟩ := y5a hd
  have hpm : p ∈ P6 := List.mem_of_getElem? hp
  obtain ⟨P, hp13⟩ := q2l hpm
  have p2 := P.two
  have pn : p ≠ 0 := by exact q3p p2
  have p0 : 0 <= p := by exact q2n p2
  refine ⟨bpE f g s.length w la l (some (.int p)) o7, rfl, ?_⟩
  by_cases hc : p ∣ zl s * zl u \/ p ∣ zl s * zl v
  ·refine z0e.seq (ρ1 := bpE f g s.length w la l (some (.int p)) o7) (z1o ?_ z0l) (z0e.skip ⟨l, _, _, rfl, by exact o183 hl, hm⟩)
   by_cases h1 : p ∣ zl s * zl u
   ·have z1 := Int.emod_eq_zero_of_dvd h1
    exact cvo [false, true, true, true] (.c (y7l z1) (.c (z4a pn p0) (.c (z2i i1) .n))) rfl
   ·have h2 := hc.resolve_left h1
    have z1 : zl s * zl u % p ≠ 0 := fun z => h1 (Int.dvd_of_emod_eq_zero z)
    have z2 := Int.emod_eq_zero_of_dvd h2
    exact cvo [false, true, true, true, false, true, true, true] (.c (y7l z2) (.c (z4a pn p0) (.c (z2i i2) (.c (y1h z1) (.c (z4a pn p0) (.c (z2i i1) .n)))))) rfl
  ·have h1 : ¬ p ∣ zl s * zl u := fun z => hc (.inl z)
   have h2 : ¬ p ∣ zl s * zl v := fun z => hc (.inr z)
   have z1 : zl s * zl u % p ≠ 0 := fun z => h1 (Int.dvd_of_emod_eq_zero z)
   have z2 : zl s * zl v % p ≠ 0 := fun z => h2 (Int.dvd_of_emod_eq_zero z)
   have ct : ev (phi prog (n + 6)) (bpE f g s.length w la l (some (.int p)) o7) bpC [] = some (.bool true) :=
    cvo [false, true, true, true, false, true, true, true] (.c (y1h z2) (.c (z4a pn p0) (.c (z2i i2) (.c (y1h z1) (.c (z4a pn p0) (.c (z2i i1) .n)))))) rfl
   obtain ⟨ld, hld⟩ : ∃ ld : Int, ld = if 2 < p then 2 else 1 := ⟨_, rfl⟩
   have ld0 : 0 <= ld /\ ld <= 1000 := by rw [hld]; split <;> (first | exact o428 | exact o429)
   have hldp : ¬ p ∣ ld := fun z => by
    have h3 := Int.le_of_dvd (by rw [hld]; split <;> (first | exact o430 | exact o431)) z
    rw [hld] at h3
    split at h3
    ·rename_i q; exact absurd h3 (Int.not_le.mpr q)
    ·exact o112 p2 h3
   have nd0 : ∃ i, ¬ p ∣ co f i := ⟨f.length - 1, by rw [hf]; rw [show co (z0j s u) ((z0j s u).length - 1) = zl s * zl u from a4]; exact h1⟩
   obtain ⟨_, e1, d, rfl, gd⟩ := y1i (n + 4) (c := ld) P (by exact o432 hp13) f g (.inl nd0) (by exact o433 a3 ls.2 lu.2) (by exact o433 b3 ls.2 lv.2) ld0.1 ld0.2 hldp
   obtain ⟨_, e2, d', rfl, gd'⟩ := y3q n p P (by exact o432 hp13) f g ld (.inl nd0) (by exact o433 a3 ls.2 lu.2) (by exact o433 b3 ls.2 lv.2)
   have edd := gd'.unique P gd
   rw [edd] at e2
   obtain ⟨il, _⟩ := y3x P gd.ne gd.monic hldp
   obtain ⟨due, hdue⟩ : ∃ due, due = im p ld d := ⟨_, rfl⟩
   rw [<- hdue] at e1 e2 il
   have ns : ¬ p ∣ zl s := fun z => h1 (Int.dvd_trans z (Int.dvd_mul_right _ _))
   obtain ⟨f1, f2⟩ := q1o P hp13 hs hu hv ns (fun z => h1 (Int.dvd_trans z (Int.dvd_mul_left _ _))) (fun z => h2 (Int.dvd_trans z (Int.dvd_mul_left _ _))) (hf ▸ hg ▸ gd)
   rw [<- hw] at f2
   have eL : ∀ o7, ev (phi prog (n + 6)) (bpE f g s.length w la l (some (.int p)) o7) bpL [] = some (.int ld) := fun o7 => by
    rw [hld]
    by_cases h : 2 < p <;> simp [bpL, ev, bpE, y5o, h]
   have s1 : xs (phi prog (n + 6)) z5y (.asg 7 (.call 49 (.cons (.var 0) (.cons (.var 1) (.cons (.var 6) (.cons bpL .nil)))))) (bpE f g s.length w la l (some (.int p)) o7) = some (.next, bpE f g s.length w la l (some (.int p)) (some (li due))) := by
    refine z0g (ρ := bpE f g s.length w la l (some (.int p)) o7) (x := 7) ?_
    simp only [ev, eL]
    exact e1
   have c1 : ev (phi prog (n + 6)) (bpE f g s.length w la l (some (.int p)) (some (li due))) bpC1 [] = some (.bool false) := by
    have h3 : ¬ (due.length : Int) < s.length := by exact o434 il f1
    have e3 : ev (phi prog (n + 6)) (bpE f g s.length w la l (some (.int p)) (some (li due))) (.call 32 (.cons (.var 0) (.cons (.var 1) (.cons bpL (.cons (.var 6) .nil))))) [] = some (li due) := by
     simp only [ev, eL]
     exact e2
    have e4 : ev (phi prog (n + 6)) (bpE f g s.length w la l (some (.int p)) (some (li due))) (.cmp .ne (.call 32 (.cons (.var 0) (.cons (.var 1) (.cons bpL (.cons (.var 6) .nil))))) (.var 7)) [] = some (.bool false) := by
     rw [ev, e3]
     simp [ev, bpE, y5o, li, eqD, y0b]
    unfold bpC1
    rw [ev, e4]
    simp [ev, bpE, y5o, li, h3]
   have hlt : ((s.length : Int) < due.length) <-> p ∣ w := by rw [<- f2, Int.ofNat_lt, il]
   have c2 : ev (phi prog (n + 6)) (bpE f g s.length w la l (some (.int p)) (some (li due))) bpC2 [] = some (.bool false) := by
    by_cases hb : p ∣ w
    ·have h3 := hlt.mpr hb
     have z3 := Int.emod_eq_zero_of_dvd hb
     have z4 : k * zl s % p = 0 := Int.emod_eq_zero_of_dvd (Int.dvd_trans (hk p P.pp (hw ▸ hb)) (Int.dvd_mul_right _ _))
     exact cvo [true, true, true, true, false, true, true, false, true, true, true] (.c (y7l z4) (.c (z4a pn p0) (.c (z2i i3) (.c (z5z h3) (.c z0h (.c (y7n z3) (.c (z4a pn p0) (.c (z5z h3) (.c z0h .n))))))))) rfl
    ·have h3 : ¬ (s.length : Int) < due.length := fun z => hb (hlt.mp z)
     have z3 : w % p ≠ 0 := fun z => hb (Int.dvd_of_emod_eq_zero z)
     exact cvo [true, true, true, true, false, true, true] (.c (y7m h3) (.c z0h (.c (y2c z3) (.c (z4a pn p0) (.c (y7m h3) (.c z0h .n)))))) rfl
   by_cases hb : (s.length : Int) < due.length
   ·refine z0e.seq (ρ1 := bpE f g s.length w la (l ++ [p]) (some (.int p)) (some (li due))) (z7s ct (z0q s1 (z0q (z1o c1 z0l) (z0q (z1o c2 z0l) (z0q (z7s (cvo [true, true] (.c (z5z hb) (.c z0h .n)) rfl) (z0q ?_ z0l)) z0l))))) (z0e.skip ⟨l ++ [p], _, _, rfl, by simp; exact o436 hl, fun x hx => ?_⟩)
    ·have h9 : l.length < LEN := by
      have : (200 : Nat) <= LEN := by decide +kernel
      exact o437 this hi6 hl
     exact q2q (cvo [] .n rfl) rfl h9
    ·rcases List.mem_append.mp hx with q | q
     ·exact hm x q
     ·rw [List.mem_singleton.mp q]; exact hpm
   ·refine z0e.seq (ρ1 := bpE f g s.length w la l (some (.int p)) (some (li due))) (z7s ct (z0q s1 (z0q (z1o c1 z0l) (z0q (z1o c2 z0l) (z0q (z1o (cvo [true, true] (.c (y7m hb) (.c z0h .n)) rfl) z0l) z0l))))) (z0e.skip ⟨l, _, _, rfl, by exact o183 hl, hm⟩)
 ·rintro ρ ⟨l, o6, o7, rfl, hl, hm⟩
  exact z0d.here (z0d.ret (v := li l) rfl ⟨l, rfl, hm⟩)
end Mine
end
section
namespace Mine
theorem p6_PL {p : Int} (h : p ∈ P6) : E2 fun (j q : Nat) => A3 (j < 6) (PL[j]? = some q) (p = q) := by
 unfold P6 at h
 simp only [List.mem_cons, List.not_mem_nil, or_false] at h
 rcases h with h | h | h | h | h | h <;> subst h
 ·exact ⟨0, 2, by decide, rfl, rfl⟩
 ·exact ⟨1, 3, by decide, rfl, rfl⟩
 ·exact ⟨2, 5, by decide, rfl, rfl⟩
 ·exact ⟨3, 7, by decide, rfl, rfl⟩
 ·exact ⟨4, 11, by decide, rfl, rfl⟩
 ·exact ⟨5, 13, by decide, rfl, rfl⟩
noncomputable def laE (s u v f g : List Int) (w p : Int) (o9 o10 o11 : Option D) : z3y := [none, none, some (li s), some (li u), some (li v), some (li f), some (li g), some (.int w), some (.int p), o9, o10, o11]
noncomputable def lawC0 : ME := .cmp .eq (.var 7) (.int 0)
noncomputable def lawR0 : ME := .and (.cmp .eq (.call 37 (.cons (.var 5) (.cons (.var 6) (.cons (.var 8) .nil)))) (.call 40 (.cons (.var 5) (.cons (.var 6) .nil)))) (.cmp .gt (.len (.call 40 (.cons (.var 5) (.cons (.var 6) .nil)))) (.len (.var 2)))
noncomputable def lawE9 : ME := .call 50 (.cons (.var 5) (.cons (.var 6) (.cons (.len (.var 2)) (.cons (.var 7) (.cons (.idx (.call 39 (.cons (.var 5) (.cons (.var 6) .nil))) (.neg (.int 1))) .nil)))))
noncomputable def lawE10 : ME := .call 44 (.cons (.list (.cons (.call 44 (.cons (.var 5) .nil)) (.cons (.call 44 (.cons (.var 6) .nil)) .nil))) .nil)
noncomputable def q3x : ME := .comp (.bin .mul (.var 10) (.cvar 0)) 1 (.call 45 (.cons (.var 2) .nil)) (.bool true)
noncomputable def q3y : ME := .cmp .ne (.call 37 (.cons (.var 5) (.cons (.var 6) (.cons (.cvar 0) .nil)))) (.var 11)
theorem q6k : lawB = .seq (.ifs lawC0 (.seq (.ret lawR0) .skip) .skip) (.seq (.asg 9 lawE9) (.seq (.ifs (.isN (.var 9)) (.seq (.ret (.bool false)) .skip) .skip) (.seq (.asg 10 lawE10) (.seq (.asg 11 q3x) (.seq (.ifs (.cmp .ne (.call 40 (.cons (.var 5) (.cons (.var 6) .nil))) (.var 11)) (.seq (.ret (.bool false)) .skip) .skip)
 (.seq (.ret (.cmp .eq (.comp (.cvar 0) 1 (.bin .add (.upTo (.var 9) (.int 2)) (.list (.cons (.var 8) .nil))) q3y) (.list .nil))) .skip)))))) := rfl
theorem law_dr (s u v : List Int) (p : Int) (hs : Dr s) (hu : Dr u) (hv : Dr v) (hp : p ∈ P6) :
  ∃ ρ1 r, xs (phi prog 30) z5y lawA [none, none, some (li s), some (li u), some (li v), none, none, none, none, none, none, none] = some (.next, ρ1) /\ xs (phi prog 30) z5y lawB (ρ1.set 8 (some (.int p))) = some (.ret (.bool true), r) := by
 have e1 := z6i 29 hs hu
 have e2 := z6i 29 hs hv
 have e3 := z8t 24 hu hv
 obtain ⟨a1, a2, a3, a4, a5⟩ := z0z hs hu
 obtain ⟨b1, b2, b3, b4, b5⟩ := z0z hs hv
 obtain ⟨dS, pS⟩ := y5l hs
 obtain ⟨dU, pU⟩ := y5l hu
 obtain ⟨dV, pV⟩ := y5l hv
 have pf := y6g hs.trim hu.trim hs.ne hu.ne
 have pg := y6g hs.trim hv.trim hs.ne hv.ne
 obtain ⟨S', R, w', G, g1, g2, zg⟩ := q2h a1 b1 a2 b2 (a5.mono (by decide)) (b5.mono (by decide)) dS dU dV pS pU pV pf pg
 have zm : ∀ q ∈ P6, phi prog 30 37 [li (z0j s u), li (z0j s v), .int q] = some (li (psc (Nat.gcd (z0t (z0j s u)) (z0t (z0j s v)) : Int) S')) := fun q hq => by
  obtain ⟨j, q', hj, hq', rfl⟩ := p6_PL hq
  exact z9t a1 b1 a2 b2 (a5.mono (by decide)) (b5.mono (by decide)) G hj hq'
 have hres : res u v = 0 <-> res (z2o u) (z2o v) = 0 := by
  have eu : u = psc (sg u) (z2o u) := z2d (by rw [z1a, z3i]) fun i => by rw [z0p]; exact y9h hu.trim hu.ne i
  have ev' : v = psc (sg v) (z2o v) := z2d (by rw [z1a, z3i]) fun i => by rw [z0p]; exact y9h hv.trim hv.ne i
  obtain ⟨m, m0, hm⟩ := q5p dU.sh dV.sh (y3n hu.trim hu.ne) (y3n hv.trim hv.ne)
  rw [<- eu, <- ev'] at hm
  rw [hm]
  refine ⟨fun q => (Int.mul_eq_zero.mp q).resolve_left m0, fun q => by rw [q]; simp⟩
 obtain ⟨N, hN⟩ : ∃ N : Nat, N = Nat.gcd (z0t (z0j s u)) (z0t (z0j s v)) := ⟨_, rfl⟩
 rw [<- hN] at zg zm
 obtain ⟨w, hw⟩ : ∃ w, w = res u v := ⟨_, rfl⟩
 have hBB : (27 : Int) <= BB := by decide +kernel
 have cf := z2y 29 (z0j s u) (a5.inB hBB)
 have cg := z2y 29 (z0j s v) (b5.inB hBB)
 have kf := z1w (B := 27) (l := z0j s u) fun x hx => by
  obtain ⟨i, _, rfl⟩ := z5b hx
  have := a5 i; exact o439 this.1 this.2
 have kg := z1w (B := 27) (l := z0j s v) fun x hx => by
  obtain ⟨i, _, rfl⟩ := z5b hx
  have := b5 i; exact o439 this.1 this.2
 have cfg := z2y 29 [(z0t (z0j s u) : Int), (z0t (z0j s v) : Int)] fun x hx => by
  simp only [List.mem_cons, List.not_mem_nil, or_false] at hx
  rcases hx with q | q <;> rw [q] <;> (first | exact o440 hBB kf | exact o440 hBB kg)
 have e0 : z0t [(z0t (z0j s u) : Int), (z0t (z0j s v) : Int)] = N := by
  rw [hN]; simp [z0t]
 rw [e0] at cfg
 have nN : N ≠ 0 := fun q => z2s a1 a2 (by rw [hN] at q; exact (Nat.gcd_eq_zero_iff.mp q).1)
 have nle : N <= 27 := by
  rw [hN]
  exact Nat.le_trans (Nat.gcd_le_left _ (Nat.pos_of_ne_zero (z2s a1 a2))) kf
 have sN : small (N : Int) = true := z0v (by exact Int.natCast_nonneg _) (by exact o441 nle)
 rw [<- hw] at e3
 have hA : xs (phi prog 30) z5y lawA [none, none, some (li s), some (li u), some (li v), none, none, none, none, none, none, none] = some (.next, [none, none, some (li s), some (li u), some (li v), some (li (z0j s u)), some (li (z0j s v)), some (.int w), none, none, none, none]) := by
  exact z0w (cvo [true, true, true] (.c (z0c e3) (.c (z0c e2) (.c (z0c e1) .n))) rfl) rfl
 obtain ⟨f, hf⟩ : ∃ f, f = z0j s u := ⟨_, rfl⟩
 obtain ⟨g, hg⟩ : ∃ g, g = z0j s v := ⟨_, rfl⟩
 have sub := z4z 24 hs hu hv
 have bad := fun (k : Int) => q5y (k := k) 23 hs hu hv
 simp only [<- hf, <- hg] at hA sub cf cg cfg zg zm
 have hB : z0d (phi prog 30) z5y lawB (laE s u v f g w p none none none) (· = .bool true) := by
  rw [q6k]
  have ls := z3i s
  by_cases hw0 : w = 0
  ·have h1 := g2 (hres.mp (hw ▸ hw0))
   have h2 : (s.length : Int) < (psc (N : Int) S').length := by rw [z1a]; exact o442 h1 ls
   refine z0d.here (z0d.iteT (cvo [true] (.c (y7n hw0) .n) rfl) (z0d.here (z0d.ret (v := .bool true) ?_ rfl)))
   exact cvo [true, true, true, true, true, true, true] (.c (z5z h2) (.c z0h (.c z0h (.c (z0c zg) (.c v_eqL (.c (z0c zg) (.c (z0c (zm p hp)) .n))))))) rfl
  ·have hr0 : res u v ≠ 0 := hw ▸ hw0
   have hS := g1 fun q => hr0 (hres.mpr q)
   rw [hS] at zg zm
   obtain ⟨_, hsub, rows, last, rfl, hlast, sp⟩ := sub
   rcases sp with ⟨_, k, k0, rfl, _, hk⟩ | ⟨h0, _⟩
   rotate_left
   ·exact absurd h0 hr0
   obtain ⟨_, hbad, l, rfl, hl⟩ := bad k k0 hk
   rw [<- hf, <- hg, <- hw] at hbad
   refine z0d.seq (ρ1 := laE s u v f g w p none none none) (z1o (cvo [true] (.c (y2c hw0) .n) rfl) z0l) ?_
   refine z0d.seq (ρ1 := laE s u v f g w p (some (li l)) none none) (z0g (cvo [true, true, false, true, true] (.c (z0c hbad) (.c (z2i hlast) (.c (z0c hsub) (.c z0h .n)))) rfl)) ?_
   refine z0d.seq (ρ1 := laE s u v f g w p (some (li l)) none none) (z1o (cvo [false] .n rfl) z0l) ?_
   refine z0d.seq (ρ1 := laE s u v f g w p (some (li l)) (some (.int N)) none) (z0g (cvo [true, true, true] (.c (z0c cfg) (.c (z0c cg) (.c (z0c cf) .n))) rfl)) ?_
   have hBs := hs.bnd
   have cp := y2l 28 s (hBs.inB (by exact o443 hBB)) hs.ne (z2s hs.trim hs.ne)
   have c11 : ev (phi prog 30) (laE s u v f g w p (some (li l)) (some (.int N)) none) q3x [] = some (li (psc (N : Int) (z2o s))) := by
    refine z3a (l := z2o s) (g := fun x => (N : Int) * x) ?_ fun x hx => ?_
    ·exact cvo [true] (.c (z0c cp) .n) rfl
    ·obtain ⟨i, _, rfl⟩ := z5b hx
     have := dS.bnd i
     have sx : small (co (z2o s) i) = true := z0v (by exact o360 this.1) (by exact o361 this.2)
     exact cvo [true] (.c (z3z sN sx) .n) rfl
   obtain ⟨due, hdue⟩ : ∃ due, due = psc (N : Int) (z2o s) := ⟨_, rfl⟩
   rw [<- hdue] at c11 zg zm
   refine z0d.seq (ρ1 := laE s u v f g w p (some (li l)) (some (.int N)) (some (li due))) (z0g c11) ?_
   refine z0d.seq (ρ1 := laE s u v f g w p (some (li l)) (some (.int N)) (some (li due))) (z1o ?_ z0l) ?_
   ·exact cvo [true, true] (.c v_neL (.c (z0c zg) .n)) rfl
   ·refine z0d.here (z0d.ret (v := .bool true) ?_ rfl)
    have cl : ev (phi prog 30) (laE s u v f g w p (some (li l)) (some (.int N)) (some (li due))) (.bin .add (.upTo (.var 9) (.int 2)) (.list (.cons (.var 8) .nil))) [] = some (li (l.take 2 ++ [p])) := by
     have hL : (200 : Nat) <= LEN := by decide +kernel
     have h1 : min 2 l.length + 1 <= LEN := by exact o444 hL
     exact cvo [true, true] (.c (y8s (k := [p]) (by rw [List.length_take]; exact h1)) (.c (v_up (by decide)) .n)) rfl
    have cc := z5o (c := fun ks => ev (phi prog 30) (laE s u v f g w p (some (li l)) (some (.int N)) (some (li due))) q3y ks) (f := fun ks => ev (phi prog 30) (laE s u v f g w p (some (li l)) (some (.int N)) (some (li due))) (.cvar 0) ks) (g := fun _ => false) (l := l.take 2 ++ [p]) fun x hx => by
     refine ⟨?_, rfl⟩
     have hx6 : x ∈ P6 := by
      rcases List.mem_append.mp hx with q | q
      ·exact hl x (List.mem_of_mem_take q)
      ·rw [List.mem_singleton.mp q]; exact hp
     exact cvo [true, true] (.c v_neL (.c (z0c (zm x hx6)) .n)) rfl
    have cf0 : (l.take 2 ++ [p]).filter (fun _ => false) = [] := by simp
    rw [cf0] at cc
    exact cvo [true, false] (.c (y0q cl rfl cc) .n) rfl
 obtain ⟨_, r, h1, rfl⟩ := hB
 exact ⟨_, r, hA, h1⟩
end Mine
end
section
open PySem PySem.W PyProof.Rows
namespace Mine
theorem q5c : (recsOf vw).map (fun e => (⟨e.name, e.params, e.body, e.scope⟩ : z0r)) = z2l PW := by kernel_rfl
theorem biFree : ∀ x ∈ (["abs", "len", "max", "list", "range", "enumerate"] : List String), (Str.ofString x) ∉ startupNames /\ (Str.ofString x) ∉ looseW vw [] /\ (Str.ofString x) ∉ (recsOf vw).map (fun x => x.name) /\ (Str.ofString x) ∉ (litsOf vw).map (fun x => x.1) /\ (Str.ofString x) ∉ (clssOf vw (looseW vw [])).map (fun x => x.name) /\ (Str.ofString x) ≠ Str.ofString "__name__" := by decide +kernel
theorem biBoot : bootBuiltins "abs" = some (.builtin "abs") /\ bootBuiltins "len" = some (.builtin "len") /\ bootBuiltins "max" = some (.builtin "max") /\ bootBuiltins "list" = some (.type "list") /\ bootBuiltins "range" = some (.type "range") /\ bootBuiltins "enumerate" = some (.type "enumerate") := by decide +kernel
theorem mg_pr {h : Heap} {mg : Str -> Option Value} (e : h.nsMap mainGlobals prN = some (.ref 306)) (G : h.Ns mainGlobals mg) : mg prN = some (.ref 306) := by
 obtain ⟨o, es, ep, ho, hd, _, hf⟩ := G
 unfold Heap.nsMap at e
 rw [ho] at e
 simp only [hd] at e
 rw [<- hf]; exact e
set_option tactic.hygienic true in
theorem gi_of {mean : ExcName -> Option Value} {mg mb : Str -> Option Value} {h : Heap} {w : World} (T : Top vw (looseW vw []) mean mg mb h) (K : hk.says w h) : GI mg mb (z2l PW) 306 h := by
 refine ⟨T.g, T.b, T.nolimit, fun x v hx => ?_, fun d hd' => ?_, mg_pr K.1 T.g, _, _, K.2, ?_, fun Y => ?_⟩
 ·have key : ∀ y ∈ (["abs", "len", "max", "list", "range", "enumerate"] : List String), mg (Str.ofString y) = none /\ mb (Str.ofString y) = bootBuiltins (Str.ofString y) := fun y hy => by
   obtain ⟨h1, h2, h3, h4, h5, h6⟩ := biFree y hy
   exact ⟨T.free _ h1 h2 h3 h4 h5, T.builtins _ h6⟩
  obtain ⟨b1, b2, b3, b4, b5, b6⟩ := biBoot
  unfold q1n at hx
  have go : ∀ (y : String), y ∈ (["abs", "len", "max", "list", "range", "enumerate"] : List String) -> bootBuiltins (Str.ofString y) = some v -> (x == Str.ofString y) = true -> mg x = none /\ mb x = some v := fun y hy hb hxy => by
   have := beq_iff_eq.mp hxy
   subst this
   exact ⟨(key y hy).1, (key y hy).2.trans hb⟩
  split at hx
  ·rename_i q; cases hx; exact go "abs" (by decide) b1 q
  ·split at hx
   ·rename_i q; cases hx; exact go "len" (by decide) b2 q
   ·split at hx
    ·rename_i q; cases hx; exact go "max" (by decide) b3 q
    ·split at hx
     ·rename_i q; cases hx; exact go "list" (by decide) b4 q
     ·split at hx
      ·rename_i q; cases hx; exact go "range" (by decide) b5 q
      ·split at hx
       ·rename_i q; cases hx; exact go "enumerate" (by decide) b6 q
       ·cases hx
 ·rw [<- q5c] at hd'
  obtain ⟨e, he, rfl⟩ := List.mem_map.mp hd'
  obtain ⟨a, o, pm, cd, doc, h1, h2, h3, h4⟩ := T.fn e he
  exact ⟨a, o, pm, cd, doc, h1, h2, h3, h4⟩
 ·have := z2v
  simp
  omega
 ·exact .int (.int (.int (.int (.int (.int .nil)))))
noncomputable def LawEV : Prop := ∀ (w : World) (mg mb : Str -> Option Value) (A : Around) (s : Shared) (fa a : Addr) (vs : List Value) (ns : List Int), z3o 40 A -> GI mg mb (z2l PW) 306 s.heap -> mg "law" = some (.ref fa) ->
 s.heap.IsList a vs.toArray -> IntsAre vs ns -> ns.length <= 63 -> EV (model PW w) A (call (.ref fa) [.ref a]) s (fun v h => v = .bool true)
set_option tactic.hygienic true in
theorem q2t (L : LawEV) : PySem.Challenge.rw_pq0217_01.Holds := by
 refine hd2 ?_
 intro w s₀ s₁ mg mb G Y fa o pm cd doc dV kV ho hd' hcd hD hmg hg args vals as hpre hlay hrd hwl hlo
 refine Ground.open G ?_
 intro T B D TE TW
 have GG := gi_of T Y
 wrow_args hpre hlay hrd hwl hlo
 rename_i ns _ _ _ _ _ _ _ a vs _ hL _ _ _ hI _ hc _
 have hlen : ns.length <= 63 := by omega
 have hroom : z3o 40 callerA := ⟨rfl, by decide, by decide⟩
 refine L w mg mb callerA s₁ fa a vs ns hroom GG hmg hL hI hlen _ _ fun v h tk hx hv => ?_
 subst hv
 refine GoodW.toG ⟨.inl ⟨_, .bool true, [], rfl, fun _ => rfl, .bool true, by first | rfl | with_unfolding_all rfl | kernel_rfl, unshared_nil⟩, hx, rfl, hg⟩
theorem holds_of_pure (L : y5u) : PySem.Challenge.rw_pq0217_01.Holds :=
 q2t fun w mg mb A s fa a vs ns R G hfa hL hI hlen => q6j L R G hfa hL hI hlen
end Mine
end
section
namespace Mine
theorem q6x {l : List Int} (h : y2b l) : Dr l := by
 obtain ⟨i, h1, h2⟩ := h.lead
 have l0 : l ≠ [] := fun q => by rw [q] at h1; simp at h1
 have hl := z1e l0
 have e1 : co l (l.length - 1) = i := by
  rw [List.getLast?_eq_getElem?] at h1
  simp only [co, List.getD_eq_getElem?_getD, h1, Option.getD_some]
 refine ⟨sh_of h.len, fun j => ?_, by omega⟩
 by_cases hj : j < l.length
 ·by_cases hj2 : j = l.length - 1
  ·rw [hj2, e1]; omega
  ·have : co l j ∈ l.dropLast := by
    rw [List.dropLast_eq_take]
    rw [z9q hj]
    exact List.mem_take_iff_getElem.mpr ⟨j, by omega, rfl⟩
   exact h.low _ this
 ·rw [z0y (by omega)]; omega
theorem law_pure : y5u := fun s u v p hs hu hv hp => law_dr s u v p (q6x hs) (q6x hu) (q6x hv) (by
 unfold P6
 rcases hp with q | q | q | q | q | q <;> subst q <;> decide)
end Mine
end
open PySem PySem.W
theorem PySem.Challenge.cw_pq0217_01_holds : PySem.Challenge.rw_pq0217_01.Holds :=
 Mine.holds_of_pure Mine.law_pure
