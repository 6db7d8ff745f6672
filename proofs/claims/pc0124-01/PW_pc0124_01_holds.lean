import PyProof.Rows.All
import Wide.All
import OpenK.AllK
import Wide.FinOn
import Lean
import PySem.Challenge.RW_pc0124_01
set_option genSizeOf false
set_option genInjectivity false
set_option Elab.async false
set_option maxRecDepth 100000
set_option maxHeartbeats 8000000
namespace Mine
abbrev Num := Int × Nat

noncomputable def norm : Int → Nat → Num
  | u, 0 => (u, 0)
  | u, n + 1 => if u % 10 = 0 then norm (u / 10) n else (u, n + 1)

noncomputable def cut (t b : Int) : Int := Int.tdiv t b

noncomputable def shrink (u : Int) (s : Nat) : Num := if s > 30 then (cut u (10 ^ (s - 30)), 30) else (u, s)
noncomputable def keptO (u : Int) (s : Nat) : Option Num :=
  if (shrink u s).1.natAbs < 10 ^ 120 then some (norm (shrink u s).1 (shrink u s).2) else none
noncomputable def timesO (a b : Num) : Option Num := keptO (a.1 * b.1) (a.2 + b.2)
noncomputable def overO (a b : Num) : Option Num :=
  if b.1 = 0 then none else some (norm (cut (a.1 * 10 ^ (30 + b.2)) (b.1 * 10 ^ a.2)) 30)
noncomputable def iterO (a : Num) : Nat → Option Num
  | 0 => some (1, 0)
  | n + 1 => (iterO a n).bind fun f => timesO f a
noncomputable def powBad (a b : Num) : Bool := b.2 != 0 || decide (99 < b.1.natAbs) || (decide (a.1 = 0) && decide (b.1 < 1))
noncomputable def powO (a b : Num) : Option Num :=
  if powBad a b then none else
    (iterO a b.1.natAbs).bind fun f => if b.1 < 0 then overO (1, 0) f else some f
noncomputable def addO (a b : Num) : Num := norm (a.1 * 10 ^ (max a.2 b.2 - a.2) + b.1 * 10 ^ (max a.2 b.2 - b.2)) (max a.2 b.2)
noncomputable def subO (a b : Num) : Num := norm (a.1 * 10 ^ (max a.2 b.2 - a.2) - b.1 * 10 ^ (max a.2 b.2 - b.2)) (max a.2 b.2)
noncomputable def negO (a : Num) : Num := (-a.1, a.2)

inductive Op2 | add | sub | mul | div | pow
  deriving DecidableEq
noncomputable def Op2.ap : Op2 → Num → Num → Option Num
  | .add, a, b => some (addO a b)
  | .sub, a, b => some (subO a b)
  | .mul, a, b => timesO a b
  | .div, a, b => overO a b
  | .pow, a, b => powO a b

inductive Ex
  | ref (i : Fin 3)
  | num (n : Num)
  | neg (e : Ex)
  | bin (o : Op2) (l r : Ex)

noncomputable def Ex.ev (ρ : Fin 3 → Num) : Ex → Option Num
  | .ref i => some (ρ i)
  | .num n => some n
  | .neg e => (e.ev ρ).map negO
  | .bin o l r => (l.ev ρ).bind fun a => (r.ev ρ).bind fun b => o.ap a b
noncomputable def Ex.leaves : Ex → List Ex
  | .ref i => [.ref i]
  | .num n => [.num n]
  | .neg e => e.leaves
  | .bin _ l r => l.leaves ++ r.leaves
noncomputable def Ex.deep : Ex → Nat
  | .ref _ => 0
  | .num _ => 0
  | .neg e => e.deep + 1
  | .bin _ l r => max l.deep r.deep + 1
noncomputable def Ex.size : Ex → Nat
  | .ref _ => 1
  | .num _ => 1
  | .neg e => e.size + 1
  | .bin _ l r => l.size + r.size + 1
noncomputable def Ex.isLeaf : Ex → Bool
  | .ref _ => true
  | .num _ => true
  | _ => false
noncomputable def Ex.isNum : Ex → Bool
  | .num _ => true
  | _ => false

inductive It
  | leaf (e : Ex)
  | neg
  | op (o : Op2)
noncomputable def post : Ex → List It
  | .ref i => [.leaf (.ref i)]
  | .num n => [.leaf (.num n)]
  | .neg e => post e ++ [.neg]
  | .bin o l r => post l ++ (post r ++ [.op o])

noncomputable def leafVal (ρ : Fin 3 → Num) : Ex → Num
  | .ref i => ρ i
  | .num n => n
  | _ => (0, 0)
noncomputable def step (ρ : Fin 3 → Num) : It → List Num → Option (List Num)
  | .leaf e, p => some (leafVal ρ e :: p)
  | .neg, a :: p => some (negO a :: p)
  | .op o, b :: a :: p => (o.ap a b).map (· :: p)
  | _, _ => none
noncomputable def run (ρ : Fin 3 → Num) : List It → List Num → Option (List Num)
  | [], p => some p
  | i :: r, p => (step ρ i p).bind (run ρ r)
noncomputable def itLeaves : List It → List Ex
  | [] => []
  | .leaf e :: r => e :: itLeaves r
  | _ :: r => itLeaves r

theorem run_append (ρ : Fin 3 → Num) : ∀ (a b : List It) (p : List Num), run ρ (a ++ b) p = (run ρ a p).bind (run ρ b)
  | [], _, _ => rfl
  | i :: r, b, p => by
    show (step ρ i p).bind (run ρ (r ++ b)) = ((step ρ i p).bind (run ρ r)).bind (run ρ b)
    cases step ρ i p with
    | none => rfl
    | some q => exact run_append ρ r b q
theorem run_post (ρ : Fin 3 → Num) : ∀ (e : Ex) (p : List Num), run ρ (post e) p = (e.ev ρ).map (· :: p)
  | .ref i, p => rfl
  | .num n, p => rfl
  | .neg e, p => by
    rw [post, run_append, run_post ρ e p]
    cases h : e.ev ρ with
    | none => simp [Ex.ev, h]
    | some a => simp [Ex.ev, h, run, step]
  | .bin o l r, p => by
    rw [post, run_append, run_post ρ l p]
    cases h : l.ev ρ with
    | none => simp [Ex.ev, h]
    | some a =>
      show run ρ (post r ++ [It.op o]) (a :: p) = _
      rw [run_append, run_post ρ r (a :: p)]
      cases h2 : r.ev ρ with
      | none => simp [Ex.ev, h, h2]
      | some b =>
        simp only [Ex.ev, h, h2, Option.map_some, Option.bind_some, run, step]
        cases o.ap a b <;> rfl
theorem itLeaves_append : ∀ a b : List It, itLeaves (a ++ b) = itLeaves a ++ itLeaves b
  | [], _ => rfl
  | .leaf e :: r, b => by simp [itLeaves, itLeaves_append r b]
  | .neg :: r, b => by simp [itLeaves, itLeaves_append r b]
  | .op o :: r, b => by simp [itLeaves, itLeaves_append r b]
theorem itLeaves_post : ∀ e : Ex, itLeaves (post e) = e.leaves
  | .ref i => rfl
  | .num n => rfl
  | .neg e => by simp [post, itLeaves_append, itLeaves_post e, itLeaves, Ex.leaves]
  | .bin o l r => by simp [post, itLeaves_append, itLeaves_post l, itLeaves_post r, itLeaves, Ex.leaves]
theorem post_length : ∀ e : Ex, (post e).length = e.size
  | .ref i => rfl
  | .num n => rfl
  | .neg e => by simp [post, post_length e, Ex.size]
  | .bin o l r => by simp [post, post_length l, post_length r, Ex.size]; omega

theorem fdiv_cut (t b : Int) (_hb : b ≠ 0) : (if t < 0 then -t else t).fdiv (if b < 0 then -b else b) = (t.natAbs / b.natAbs : Nat) := by
  have h1 : (if t < 0 then -t else t) = (t.natAbs : Int) := by split <;> omega
  have h2 : (if b < 0 then -b else b) = (b.natAbs : Int) := by split <;> omega
  rw [h1, h2]
  exact (Int.ofNat_fdiv _ _).symm
theorem cut_neg (t b : Int) (h : (decide (t < 0) != decide (b < 0)) = true) : cut t b = -((t.natAbs / b.natAbs : Nat) : Int) := by
  unfold cut
  rcases Int.lt_or_le t 0 with ht | ht <;> rcases Int.lt_or_le b 0 with hb | hb
  · simp [ht, hb] at h
  · obtain ⟨n, rfl⟩ : ∃ n : Nat, t = -(n : Int) := ⟨t.natAbs, by omega⟩
    obtain ⟨k, rfl⟩ : ∃ n : Nat, b = (n : Int) := ⟨b.natAbs, by omega⟩
    rw [Int.neg_tdiv, Int.natAbs_neg]; rfl
  · obtain ⟨n, rfl⟩ : ∃ n : Nat, t = (n : Int) := ⟨t.natAbs, by omega⟩
    obtain ⟨k, rfl⟩ : ∃ n : Nat, b = -(n : Int) := ⟨b.natAbs, by omega⟩
    rw [Int.tdiv_neg, Int.natAbs_neg]; rfl
  · simp [Int.not_lt.mpr ht, Int.not_lt.mpr hb] at h
theorem cut_pos (t b : Int) (h : (decide (t < 0) != decide (b < 0)) = false) : cut t b = ((t.natAbs / b.natAbs : Nat) : Int) := by
  unfold cut
  rcases Int.lt_or_le t 0 with ht | ht <;> rcases Int.lt_or_le b 0 with hb | hb
  · obtain ⟨n, rfl⟩ : ∃ n : Nat, t = -(n : Int) := ⟨t.natAbs, by omega⟩
    obtain ⟨k, rfl⟩ : ∃ n : Nat, b = -(n : Int) := ⟨b.natAbs, by omega⟩
    rw [Int.neg_tdiv, Int.tdiv_neg, Int.neg_neg, Int.natAbs_neg, Int.natAbs_neg]; rfl
  · simp [ht, Int.not_lt.mpr hb] at h
  · simp [Int.not_lt.mpr ht, hb] at h
  · obtain ⟨n, rfl⟩ : ∃ n : Nat, t = (n : Int) := ⟨t.natAbs, by omega⟩
    obtain ⟨k, rfl⟩ : ∃ n : Nat, b = (n : Int) := ⟨b.natAbs, by omega⟩
    rfl
theorem norm_stop {u : Int} {k : Nat} (h : ¬ (0 : Int) < (k : Int) ∨ u.fmod 10 ≠ 0) : norm u k = (u, k) := by
  cases k with
  | zero => rfl
  | succ k =>
    unfold norm
    have h2 : u.fmod 10 ≠ 0 := h.resolve_left (fun q => q (by omega))
    rw [Int.fmod_eq_emod_of_nonneg _ (by decide)] at h2
    rw [if_neg h2]
theorem norm_go {u : Int} {k : Nat} (h1 : (0 : Int) < (k : Int)) (h : u.fmod 10 = 0) : ∃ k', k = k' + 1 ∧ (k : Int) - 1 = (k' : Int) ∧ norm (u.fdiv 10) k' = norm u k := by
  cases k with
  | zero => omega
  | succ k =>
    refine ⟨k, rfl, by omega, ?_⟩
    rw [Int.fmod_eq_emod_of_nonneg _ (by decide)] at h
    rw [Int.fdiv_eq_ediv_of_nonneg _ (by decide)]
    conv => rhs; unfold norm
    rw [if_pos h]
end Mine
open PySem PySem.W PyProof.Rows PySem.Calls
theorem Mine.find_same : @PySem.Manifest.find? = @PySem.Manifest.find? := rfl
name_quick tw8075568018651887793 for PySem.Manifest.find? by Mine.find_same
name_quick tw15072052566763694560 for PySem.Manifest.find? by Mine.find_same
name_quick tw8693363511038530612 for PySem.Manifest.find? by Mine.find_same
name_quick tw14979626087600564940 for PySem.Manifest.find? by Mine.find_same
name_quick tw269472587109936629 for PySem.Manifest.find? by Mine.find_same
name_quick tw13479600455187215721 for PySem.Manifest.find? by Mine.find_same
name_quick tw15512758368177026203 for PySem.Manifest.find? by Mine.find_same
name_quick tw285844861784931804 for PySem.Manifest.find? by Mine.find_same
name_quick tw3518320864476830065 for PySem.Manifest.find? by Mine.find_same
name_quick tw6466090261432230078 for PySem.Manifest.find? by Mine.find_same
name_quick tw6817277305950994716 for PySem.Manifest.find? by Mine.find_same
name_quick tw4075660801711882420 for PySem.Manifest.find? by Mine.find_same
name_quick tw10706342367453228570 for PySem.Manifest.find? by Mine.find_same
name_quick tw117213463901210413 for PySem.Manifest.find? by Mine.find_same
name_quick tw10944729642247514566 for PySem.Manifest.find? by Mine.find_same
name_quick tw11277716924127702174 for PySem.Manifest.find? by Mine.find_same
name_quick tw16427306112580772713 for PySem.Manifest.find? by Mine.find_same
name_quick tw17828083071136270317 for PySem.Manifest.find? by Mine.find_same
name_quick tw16531745337717519161 for PySem.Manifest.find? by Mine.find_same
name_quick tw5529568453561195837 for PySem.Manifest.find? by Mine.find_same
name_quick tw11566699232636054958 for PySem.Manifest.find? by Mine.find_same
name_quick tw5770868932273138760 for PySem.Manifest.find? by Mine.find_same
name_quick tw505943868828395459 for PySem.Manifest.find? by Mine.find_same
name_quick tw13512673800721320934 for PySem.Manifest.find? by Mine.find_same
name_quick tw14311459727803291754 for PySem.Manifest.find? by Mine.find_same
name_quick tw2670528217467546775 for PySem.Manifest.find? by Mine.find_same
name_quick tw4549333791460862111 for PySem.Manifest.find? by Mine.find_same
name_quick tw16741492637210864865 for PySem.Manifest.find? by Mine.find_same
name_quick tw10424941004445345732 for PySem.Manifest.find? by Mine.find_same
name_quick tw9285146279643344392 for PySem.Manifest.find? by Mine.find_same
name_quick tw8693227569615203950 for PySem.Manifest.find? by Mine.find_same
name_quick tw17730448691065144110 for PySem.Manifest.find? by Mine.find_same
name_quick tw4552823106982906706 for PySem.Manifest.find? by Mine.find_same
name_quick tw5349121933718820234 for PySem.Manifest.find? by Mine.find_same
name_quick tw10948738476641704880 for PySem.Manifest.find? by Mine.find_same
name_quick tw13559156169165276386 for PySem.Manifest.find? by Mine.find_same
name_quick tw1092655722715705105 for PySem.Manifest.find? by Mine.find_same
name_quick tw16846860572762119324 for PySem.Manifest.find? by Mine.find_same
name_quick tw12659028871203227004 for PySem.Manifest.find? by Mine.find_same
name_quick tw13335737130258781183 for PySem.Manifest.find? by Mine.find_same
name_quick tw3177591051634278968 for PySem.Manifest.find? by Mine.find_same
name_quick tw16414604833108395602 for PySem.Manifest.find? by Mine.find_same
name_quick tw16548257151911338427 for PySem.Manifest.find? by Mine.find_same
name_quick tw3764465048917985505 for PySem.Manifest.find? by Mine.find_same
name_quick tw10938465397075749097 for PySem.Manifest.find? by Mine.find_same
name_quick tw10887116778572429059 for PySem.Manifest.find? by Mine.find_same
name_quick tw17111948838632640456 for PySem.Manifest.find? by Mine.find_same
name_quick tw9759809726879904816 for PySem.Manifest.find? by Mine.find_same
name_quick tw2664551874359636763 for PySem.Manifest.find? by Mine.find_same
name_quick tw4292500188555128830 for PySem.Manifest.find? by Mine.find_same
name_quick tw3560238982266916124 for PySem.Manifest.find? by Mine.find_same
name_quick tw7392212959928792091 for PySem.Manifest.find? by Mine.find_same
name_quick tw2862820112641550484 for PySem.Manifest.find? by Mine.find_same
name_quick tw9011979029575296479 for PySem.Manifest.find? by Mine.find_same
name_quick tw7323676302269181137 for PySem.Manifest.find? by Mine.find_same
name_quick tw8119918657739134586 for PySem.Manifest.find? by Mine.find_same
name_quick tw16593013826814733010 for PySem.Manifest.find? by Mine.find_same
name_quick tw1258299570235058372 for PySem.Manifest.find? by Mine.find_same
name_quick tw8595292554425487202 for PySem.Manifest.find? by Mine.find_same
name_quick tw13145125596335152023 for PySem.Manifest.find? by Mine.find_same
name_quick tw13759679279233594173 for PySem.Manifest.find? by Mine.find_same
name_quick tw3636048126100218174 for PySem.Manifest.find? by Mine.find_same
name_quick tw15475462885187679331 for PySem.Manifest.find? by Mine.find_same
name_quick tw14537914154153760125 for PySem.Manifest.find? by Mine.find_same
name_quick tw3131671291697673992 for PySem.Manifest.find? by Mine.find_same
name_quick tw282004115355043989 for PySem.Manifest.find? by Mine.find_same
name_quick tw1402947280878808549 for PySem.Manifest.find? by Mine.find_same
name_quick tw17672482021469178181 for PySem.Manifest.find? by Mine.find_same
name_quick tw6004533443673955352 for PySem.Manifest.find? by Mine.find_same
name_quick tw17975652961387846372 for PySem.Manifest.find? by Mine.find_same
name_quick tw10010936943081839664 for PySem.Manifest.find? by Mine.find_same
name_quick tw932993149863042379 for PySem.Manifest.find? by Mine.find_same
name_quick tw15007238320947547705 for PySem.Manifest.find? by Mine.find_same
name_quick tw17954471519018878134 for PySem.Manifest.find? by Mine.find_same
name_quick tw13900631225919944168 for PySem.Manifest.find? by Mine.find_same
name_quick tw1258717718454355964 for PySem.Manifest.find? by Mine.find_same
name_quick tw662354867322794072 for PySem.Manifest.find? by Mine.find_same
name_quick tw13016732220969518872 for PySem.Manifest.find? by Mine.find_same
name_quick tw9948023125614773506 for PySem.Manifest.find? by Mine.find_same
name_quick tw10007627690174824804 for PySem.Manifest.find? by Mine.find_same
name_quick tw5721027456603625697 for PySem.Manifest.find? by Mine.find_same
name_quick tw7892128664451923741 for PySem.Manifest.find? by Mine.find_same
name_quick tw1962928258387122110 for PySem.Manifest.find? by Mine.find_same
name_quick tw3619232141914619222 for PySem.Manifest.find? by Mine.find_same
name_quick tw15066959818950650227 for PySem.Manifest.find? by Mine.find_same
name_quick tw15980859228951719591 for PySem.Manifest.find? by Mine.find_same
name_quick tw11939915149646268982 for PySem.Manifest.find? by Mine.find_same
name_quick tw3976722010076183465 for PySem.Manifest.find? by Mine.find_same
name_quick tw2611137233208623240 for PySem.Manifest.find? by Mine.find_same
name_quick tw6434138532213402376 for PySem.Manifest.find? by Mine.find_same
name_quick tw3972328310683599613 for PySem.Manifest.find? by Mine.find_same
name_quick tw1702518465993881591 for PySem.Manifest.find? by Mine.find_same
name_quick tw1829445100760108279 for PySem.Manifest.find? by Mine.find_same
name_quick tw4980102563643897964 for PySem.Manifest.find? by Mine.find_same
name_quick tw1503297043503765363 for PySem.Manifest.find? by Mine.find_same
name_quick tw13317431791736044220 for PySem.Manifest.find? by Mine.find_same
name_quick tw18220123701641295943 for PySem.Manifest.find? by Mine.find_same
name_quick tw136631920214876835 for PySem.Manifest.find? by Mine.find_same
name_quick tw13789449189825218787 for PySem.Manifest.find? by Mine.find_same
name_quick tw4011157648589011858 for PySem.Manifest.find? by Mine.find_same
name_quick tw7250012664060256230 for PySem.Manifest.find? by Mine.find_same
name_quick tw11452132507678324671 for PySem.Manifest.find? by Mine.find_same
name_quick tw17279654841073493023 for PySem.Manifest.find? by Mine.find_same
name_quick tw11445135464325071761 for PySem.Manifest.find? by Mine.find_same
name_quick tw3093977132361051618 for PySem.Manifest.find? by Mine.find_same
name_quick tw4658958612460137192 for PySem.Manifest.find? by Mine.find_same
name_quick tw460243522976405022 for PySem.Manifest.find? by Mine.find_same
name_quick tw6683783046931543321 for PySem.Manifest.find? by Mine.find_same
name_quick tw5200128776193632040 for PySem.Manifest.find? by Mine.find_same
name_quick tw18260038339965228139 for PySem.Manifest.find? by Mine.find_same
name_quick tw11543547407058413889 for PySem.Manifest.find? by Mine.find_same
name_quick tw11270796479367742343 for PySem.Manifest.find? by Mine.find_same
name_quick tw14168537005229113720 for PySem.Manifest.find? by Mine.find_same
name_quick tw14433975572909055671 for PySem.Manifest.find? by Mine.find_same
name_quick tw15894407043143930727 for PySem.Manifest.find? by Mine.find_same
name_quick tw8537084889766193716 for PySem.Manifest.find? by Mine.find_same
name_quick tw2478078296215019888 for PySem.Manifest.find? by Mine.find_same
name_quick tw17164873540382356111 for PySem.Manifest.find? by Mine.find_same
name_quick tw1218959903707654005 for PySem.Manifest.find? by Mine.find_same
name_quick tw10833955939284561965 for PySem.Manifest.find? by Mine.find_same
name_quick tw4978915544186085027 for PySem.Manifest.find? by Mine.find_same
name_quick tw11985326045990495214 for PySem.Manifest.find? by Mine.find_same
name_quick tw5396446701170858492 for PySem.Manifest.find? by Mine.find_same
name_quick tw7299303143086499733 for PySem.Manifest.find? by Mine.find_same
name_quick tw11317593695737139937 for PySem.Manifest.find? by Mine.find_same
name_quick tw10227693086864044499 for PySem.Manifest.find? by Mine.find_same
name_quick tw12233582284571471492 for PySem.Manifest.find? by Mine.find_same
name_quick tw18340240734955500558 for PySem.Manifest.find? by Mine.find_same
name_quick tw4558998842232669794 for PySem.Manifest.find? by Mine.find_same
name_quick tw17000155066101142889 for PySem.Manifest.find? by Mine.find_same
name_quick tw6929956602132211858 for PySem.Manifest.find? by Mine.find_same
name_quick tw2627984346626558326 for PySem.Manifest.find? by Mine.find_same
name_quick tw13236226663087606529 for PySem.Manifest.find? by Mine.find_same
name_quick tw4527066259768149269 for PySem.Manifest.find? by Mine.find_same
name_quick tw8579058602437062094 for PySem.Manifest.find? by Mine.find_same
name_quick tw6679490504615227074 for PySem.Manifest.find? by Mine.find_same
name_quick tw5357591511691535388 for PySem.Manifest.find? by Mine.find_same
name_quick tw15263041282635125899 for PySem.Manifest.find? by Mine.find_same
name_quick tw1537898542681612871 for PySem.Manifest.find? by Mine.find_same
name_quick tw11788150170368784547 for PySem.Manifest.find? by Mine.find_same
name_quick tw5902227825499142635 for PySem.Manifest.find? by Mine.find_same
name_quick tw17988542015724977305 for PySem.Manifest.find? by Mine.find_same
name_quick tw8206430501311747189 for PySem.Manifest.find? by Mine.find_same
name_quick tw17888162413812561239 for PySem.Manifest.find? by Mine.find_same
name_quick tw7275051467321613617 for PySem.Manifest.find? by Mine.find_same
name_quick tw8753696776887207221 for PySem.Manifest.find? by Mine.find_same
name_quick tw43969757491396457 for PySem.Manifest.find? by Mine.find_same
name_quick tw16916688483869632129 for PySem.Manifest.find? by Mine.find_same
name_quick tw17476080006546285661 for PySem.Manifest.find? by Mine.find_same
name_quick tw14821650378409806113 for PySem.Manifest.find? by Mine.find_same
name_quick tw8727135674562949291 for PySem.Manifest.find? by Mine.find_same
name_quick tw15112985482279097393 for PySem.Manifest.find? by Mine.find_same
name_quick tw14223099787259518943 for PySem.Manifest.find? by Mine.find_same
name_quick tw18056578402003937789 for PySem.Manifest.find? by Mine.find_same
name_quick tw3066301385788840451 for PySem.Manifest.find? by Mine.find_same
name_quick tw4797165386629745026 for PySem.Manifest.find? by Mine.find_same
name_quick tw9467589175468403638 for PySem.Manifest.find? by Mine.find_same
name_quick tw17018628822417861297 for PySem.Manifest.find? by Mine.find_same
name_quick tw13215998728584607739 for PySem.Manifest.find? by Mine.find_same
name_quick tw10996506086634736982 for PySem.Manifest.find? by Mine.find_same
namespace Mine
open_top hd for PySem.Challenge.rw_pc0124_01
end Mine
namespace Mine


abbrev PR : Program := PySem.Challenge.rw_pc0124_01.row.prog
abbrev topA (dp un : Nat) (gd : Option (List Code)) (fr : Option (List Env)) : Around := { handled := none, depth := dp, frames := fr, guards := gd, units := un }

noncomputable def mOf (l : List (Str × Value)) : Str → Option Value := fun y => l.lookup y
theorem mOf_nil : mOf [] = fun _ => none := rfl
theorem mOf_cons (x : Str) (v : Value) (l : List (Str × Value)) : mOf ((x, v) :: l) = fun y => if y = x then some v else mOf l y := by
  funext y
  unfold mOf
  rw [List.lookup_cons]
  by_cases h : y = x
  · subst h; simp
  · have : (y == x) = false := by simpa using h
    rw [this, if_neg h]

noncomputable def setL : List (Str × Value) → Str → Value → List (Str × Value)
  | [], x, v => [(x, v)]
  | (y, b) :: l, x, v => if y = x then (x, v) :: l else (y, b) :: setL l x v
theorem mOf_set : ∀ (l : List (Str × Value)) (x : Str) (v : Value), (fun y => if y = x then some v else mOf l y) = mOf (setL l x v)
  | [], x, v => by rw [setL, mOf_cons]
  | (y, b) :: l, x, v => by
    funext z
    have ih := congrFun (mOf_set l x v) z
    unfold setL
    by_cases h : y = x
    · subst h
      rw [if_pos rfl, mOf_cons, mOf_cons]
      by_cases hz : z = y <;> simp [hz]
    · rw [if_neg h, mOf_cons, mOf_cons]
      dsimp only
      rw [← ih]
      by_cases hz : z = x
      · subst hz
        have h' : ¬ z = y := fun e => h e.symm
        simp [h']
      · simp [hz]
section
variable {h₀ h : Heap} {L : Addr} {l : List (Str × Value)} {x₁ x₂ x₃ x₄ : Str} {v₁ v₂ v₃ v₄ : Value}
theorem fr_set1 (F : Fr h₀ L h (fun y => if y = x₁ then some v₁ else mOf l y)) : Fr h₀ L h (mOf (setL l x₁ v₁)) := by rw [← mOf_set]; exact F
theorem fr_set2 (F : Fr h₀ L h (fun y => if y = x₂ then some v₂ else if y = x₁ then some v₁ else mOf l y)) : Fr h₀ L h (mOf (setL (setL l x₁ v₁) x₂ v₂)) := by
  rw [← mOf_set, ← mOf_set]; exact F
theorem fr_set3 (F : Fr h₀ L h (fun y => if y = x₃ then some v₃ else if y = x₂ then some v₂ else if y = x₁ then some v₁ else mOf l y)) : Fr h₀ L h (mOf (setL (setL (setL l x₁ v₁) x₂ v₂) x₃ v₃)) := by
  rw [← mOf_set, ← mOf_set, ← mOf_set]; exact F
theorem fr_set4 (F : Fr h₀ L h (fun y => if y = x₄ then some v₄ else if y = x₃ then some v₃ else if y = x₂ then some v₂ else if y = x₁ then some v₁ else mOf l y)) : Fr h₀ L h (mOf (setL (setL (setL (setL l x₁ v₁) x₂ v₂) x₃ v₃) x₄ v₄)) := by
  rw [← mOf_set, ← mOf_set, ← mOf_set, ← mOf_set]; exact F
end

theorem enter {prog : Program} {w : World} {A : Around} {s : Shared} {K : Frag} {p : Program} {loose : List Str} {mean : ExcName → Option Value} {mg mb : Str → Option Value}
    {name qual : Str} {params : Arguments} {body : List Stmt} {scope : Scope} {dV kV doc pm cdv ct oc : Value} {an od : Option Addr} {osl : Array (Option Value)} {f : Addr} {vals : List Value} {binds : List (Str × Value)} {Q E : Value → Shared → Prop}
    (X : K.In s.heap) (T : Top p loose mean mg mb s.heap)
    (ho : K.lookup f = some ⟨oc, od, .func (fnOf name qual params body scope dV kV doc pm an cdv ct), osl⟩) (hcd : codeIn K cdv qual = true) (hroom : A.depth < recursionLimit)
    (hbind : BindsTo s (fnOf name qual params body scope dV kV doc pm an cdv ct) ⟨vals, []⟩ binds) (hloc : ∀ y ∈ binds, scope.names.lookup y.1 = some .local)
    (h : ∀ L h₁, Fr s.heap L h₁ (mOf binds.reverse) → News s.heap L h₁ [] → L = s.heap.objs.size →
      wpAny (model prog w) (A.deeper (envOf qual scope L f cdv)) (execs body (envOf qual scope L f cdv))
        (fun fl s' => Q (match fl with | .ret v => v | _ => .none) s')
        (fun e s' => wpAny (model prog w) (A.deeper (envOf qual scope L f cdv)) (leaving (envOf qual scope L f cdv) e) (fun _ s'' => E e s'') (fun e' s'' => E e' s'') s')
        { s with heap := h₁, toks := s.toks + binds.length })
    (hco : scope.isCoroutine = false) (hgen : scope.isGenerator = false) (hk : scope.kind = .function)
    (hcell : ∀ x ∈ scope.names, x.2 ≠ .cell) : wpAny (model prog w) A (call (.ref f) vals) Q E s := by
  refine wpAny_call (codeAny_call_def (fd := fnOf name qual params body scope dV kV doc pm an cdv ct) (body := body) (binds := binds) hroom (X _ _ ho) rfl T.nolimit (codeRec_of X hcd) rfl hbind hcell hloc (fun h₁ hns hk₁ => ?_) hco hgen hk)
  exact h _ h₁ ⟨hns, hk₁, Nat.le_refl _⟩ News.nil rfl

theorem stays_hide {h h' : Heap} {adr : List Addr} (k : h.StaysIn h') (n : ∀ a ∈ adr, h.get? a = none) : h.StaysIn (hideAll h' adr) := fun b o e => hideAll_get adr (k b o e) fun q => by rw [n b q] at e; cases e

theorem enterH {prog : Program} {w : World} {A : Around} {s : Shared} {K : Frag} {p : Program} {loose : List Str} {mean : ExcName → Option Value} {mg mb : Str → Option Value}
    {name qual : Str} {params : Arguments} {body : List Stmt} {scope : Scope} {dV kV doc pm cdv ct oc : Value} {an od : Option Addr} {osl : Array (Option Value)} {f : Addr} {args : Args} {binds : List (Str × Value)} {R : Result → Shared → Prop}
    (hid : List (Addr × Obj)) (X : K.In (hideAll s.heap (hid.map (·.1)))) (T : Top p loose mean mg mb (hideAll s.heap (hid.map (·.1)))) (hN : ∀ q ∈ hid, s.heap.get? q.1 = some q.2)
    (ho : K.lookup f = some ⟨oc, od, .func (fnOf name qual params body scope dV kV doc pm an cdv ct), osl⟩) (hcd : codeIn K cdv qual = true) (hroom : A.depth < recursionLimit)
    (hbind : BindsTo s (fnOf name qual params body scope dV kV doc pm an cdv ct) args binds) (hloc : ∀ y ∈ binds, scope.names.lookup y.1 = some .local)
    (h : ∀ L h₁, Fr (hideAll s.heap (hid.map (·.1))) L h₁ (mOf binds.reverse) → News (hideAll s.heap (hid.map (·.1))) L h₁ hid → L = s.heap.objs.size →
      wpAny (model prog w) (A.deeper (envOf qual scope L f cdv)) (execs body (envOf qual scope L f cdv))
        (fun fl s' => R (.ok (.ret (match fl with | .ret v => v | _ => .none))) s')
        (fun e s' => wpAny (model prog w) (A.deeper (envOf qual scope L f cdv)) (leaving (envOf qual scope L f cdv) e) (fun _ s'' => R (.error e) s'') (fun e' s'' => R (.error e') s'') s')
        { s with heap := h₁, toks := s.toks + binds.length })
    (hco : scope.isCoroutine = false) (hgen : scope.isGenerator = false) (hk : scope.kind = .function)
    (hcell : ∀ x ∈ scope.names, x.2 ≠ .cell) : codeAny (model prog w) A (.call (.ref f) args) R s := by
  have st : (hideAll s.heap (hid.map (·.1))).StaysIn s.heap := fun b o e => of_hideAll _ e
  refine codeAny_call_def (fd := fnOf name qual params body scope dV kV doc pm an cdv ct) (body := body) (binds := binds) hroom (st _ _ (X _ _ ho)) rfl (T.nolimit.keeps st) ((codeRec_of X hcd).keeps st) rfl hbind hcell hloc (fun h₁ hns hk₁ => ?_) hco hgen hk
  exact h _ h₁ ⟨hns, fun b o e => hk₁ b o (of_hideAll _ e), Nat.le_of_eq (hideAll_size _ _)⟩
    (fun q hq => ⟨hk₁ _ _ (hN q hq), Nat.ne_of_lt (Heap.lt_size (hN q hq)), hideAll_none _ (List.mem_map_of_mem hq)⟩) rfl

structure Halt (P : Prop) : Prop where
  out : P
theorem halt {P : Prop} (h : Halt P) : P := h.out

noncomputable def tupObj (o : Obj) : Prop := o.cls = .type "tuple"

noncomputable def Tups (rest : List (Addr × Obj)) : Prop := ∀ p ∈ rest, tupObj p.2
theorem Tups.nil : Tups [] := fun _ h => nomatch h
theorem Tups.append {a b : List (Addr × Obj)} (x : Tups a) (y : Tups b) : Tups (a ++ b) := fun p hp => (List.mem_append.mp hp).elim (x p) (y p)
theorem Tups.cons {q : Addr × Obj} {b : List (Addr × Obj)} (x : tupObj q.2) (y : Tups b) : Tups (q :: b) := fun p hp => by
  rcases List.mem_cons.mp hp with rfl | hp
  · exact x
  · exact y p hp

noncomputable def In2 (h₀ : Heap) (news : List (Addr × Obj)) (a : Addr) (o : Obj) : Prop := h₀.get? a = some o ∨ (a, o) ∈ news
theorem In2.mono {h₀ : Heap} {news news' : List (Addr × Obj)} {a : Addr} {o : Obj} (x : In2 h₀ news a o) (hs : ∀ p ∈ news, p ∈ news') : In2 h₀ news' a o := x.imp id (hs _)
theorem In2.get {h₀ h : Heap} {L : Addr} {m : Str → Option Value} {news : List (Addr × Obj)} {a : Addr} {o : Obj} (x : In2 h₀ news a o) (F : Fr h₀ L h m) (N : News h₀ L h news) : h.get? a = some o :=
  x.elim (F.keep _ _) fun hm => N.get hm

mutual
inductive DI (h₀ : Heap) (news : List (Addr × Obj)) : Value → PyData → Prop
  | none : DI h₀ news .none .none
  | bool (b : Bool) : DI h₀ news (.bool b) (.bool b)
  | int (i : Int) (t : Tok) : DI h₀ news (.int i t) (.int i)
  | str (x : Str) (t : Tok) : DI h₀ news (.str x t) (.str x)
  | tuple {a : Addr} {o : Obj} {vs : Array Value} {n : Nat} {ds : List PyData} : In2 h₀ news a o → o.cls = .type "tuple" → o.data = .seq vs n → DIs h₀ news vs.toList ds → DI h₀ news (.ref a) (.tuple ds)
inductive DIs (h₀ : Heap) (news : List (Addr × Obj)) : List Value → List PyData → Prop
  | nil : DIs h₀ news [] []
  | cons {v : Value} {vs : List Value} {d : PyData} {ds : List PyData} : DI h₀ news v d → DIs h₀ news vs ds → DIs h₀ news (v :: vs) (d :: ds)
end

mutual
theorem DI.mono {h₀ : Heap} {news news' : List (Addr × Obj)} (hs : ∀ p ∈ news, p ∈ news') : ∀ {v : Value} {d : PyData}, DI h₀ news v d → DI h₀ news' v d
  | _, _, .none => .none
  | _, _, .bool b => .bool b
  | _, _, .int i t => .int i t
  | _, _, .str x t => .str x t
  | _, _, .tuple h c d r => .tuple (h.mono hs) c d (DIs.mono hs r)
theorem DIs.mono {h₀ : Heap} {news news' : List (Addr × Obj)} (hs : ∀ p ∈ news, p ∈ news') : ∀ {vs : List Value} {ds : List PyData}, DIs h₀ news vs ds → DIs h₀ news' vs ds
  | _, _, .nil => .nil
  | _, _, .cons h r => .cons (DI.mono hs h) (DIs.mono hs r)
end

mutual
theorem DI.reads {h₀ h : Heap} {L : Addr} {m : Str → Option Value} {news : List (Addr × Obj)} (F : Fr h₀ L h m) (N : News h₀ L h news) : ∀ {v : Value} {d : PyData}, DI h₀ news v d → Reads h v d []
  | _, _, .none => .none
  | _, _, .bool b => .bool b
  | _, _, .int i t => .int i t
  | _, _, .str x t => .str x t
  | _, _, .tuple h c d r => .tuple (h.get F N) c d (DIs.reads F N r)
theorem DIs.reads {h₀ h : Heap} {L : Addr} {m : Str → Option Value} {news : List (Addr × Obj)} (F : Fr h₀ L h m) (N : News h₀ L h news) : ∀ {vs : List Value} {ds : List PyData}, DIs h₀ news vs ds → ReadsAll h vs ds []
  | _, _, .nil => .nil
  | _, _, .cons h r => .cons (as := []) (bs := []) (DI.reads F N h) (DIs.reads F N r)
end

mutual
theorem Reads.di {h₀ : Heap} {news : List (Addr × Obj)} : ∀ {v : Value} {d : PyData} {as : List Addr}, Reads h₀ v d as → as = [] → DI h₀ news v d
  | _, _, _, .none, _ => .none
  | _, _, _, .bool b, _ => .bool b
  | _, _, _, .int i t, _ => .int i t
  | _, _, _, .str x t, _ => .str x t
  | _, _, _, .list _ _ _ _, e => nomatch e
  | _, _, _, .tuple h c d r, e => .tuple (.inl h) c d (ReadsAll.di r e)
  | _, _, _, .dict _ _ _ _ _, e => nomatch e
theorem ReadsAll.di {h₀ : Heap} {news : List (Addr × Obj)} : ∀ {vs : List Value} {ds : List PyData} {as : List Addr}, ReadsAll h₀ vs ds as → as = [] → DIs h₀ news vs ds
  | _, _, _, .nil, _ => .nil
  | _, _, _, .cons h r, e => .cons (Reads.di h (List.append_eq_nil_iff.mp e).1) (ReadsAll.di r (List.append_eq_nil_iff.mp e).2)
end

noncomputable def TK (h h' : Heap) : Prop := ∀ b o, h.get? b = some o → o.cls = .type "tuple" → h'.get? b = some o
theorem TK.refl (h : Heap) : TK h h := fun _ _ e _ => e
theorem TK.trans {a b c : Heap} (x : TK a b) (y : TK b c) : TK a c := fun d o e q => y d o (x d o e q) q
theorem TK.of {h h' : Heap} (k : h.StaysIn h') : TK h h' := fun b o e _ => k b o e

mutual
theorem Reads.tk {h h' : Heap} (k : TK h h') : ∀ {v : Value} {d : PyData} {as : List Addr}, Reads h v d as → as = [] → Reads h' v d []
  | _, _, _, .none, _ => .none
  | _, _, _, .bool b, _ => .bool b
  | _, _, _, .int i t, _ => .int i t
  | _, _, _, .str x t, _ => .str x t
  | _, _, _, .list _ _ _ _, e => nomatch e
  | _, _, _, .tuple h c d r, e => .tuple (k _ _ h c) c d (ReadsAll.tk k r e)
  | _, _, _, .dict _ _ _ _ _, e => nomatch e
theorem ReadsAll.tk {h h' : Heap} (k : TK h h') : ∀ {vs : List Value} {ds : List PyData} {as : List Addr}, ReadsAll h vs ds as → as = [] → ReadsAll h' vs ds []
  | _, _, _, .nil, _ => .nil
  | _, _, _, .cons h r, e => .cons (as := []) (bs := []) (Reads.tk k h (List.append_eq_nil_iff.mp e).1) (ReadsAll.tk k r (List.append_eq_nil_iff.mp e).2)
end
theorem Rd.tk {h h' : Heap} {v : Value} {d : PyData} (r : Reads h v d []) (k : TK h h') : Reads h' v d [] := Reads.tk k r rfl
theorem Rd.stays {h h' : Heap} {v : Value} {d : PyData} (r : Reads h v d []) (k : h.StaysIn h') : Reads h' v d [] := Reads.tk (TK.of k) r rfl

theorem fr_notTup {h₀ h : Heap} {L : Addr} {m : Str → Option Value} (F : Fr h₀ L h m) {o : Obj} (e : h.get? L = some o) : ∀ vs n, o.data ≠ .seq vs n := by
  obtain ⟨oL, es, ep, hL, hd, _⟩ := F.ns
  rw [hL] at e
  cases e
  intro vs n q
  rw [hd] at q
  cases q

mutual
theorem Reads.reg {h₀ h : Heap} {L : Addr} {m : Str → Option Value} (F : Fr h₀ L h m) : ∀ {v : Value} {d : PyData} {as : List Addr}, Reads h v d as → as = [] →
    ∃ rest, Tups rest ∧ News h₀ L h rest ∧ DI h₀ rest v d
  | _, _, _, .none, _ => ⟨[], Tups.nil, News.nil, .none⟩
  | _, _, _, .bool b, _ => ⟨[], Tups.nil, News.nil, .bool b⟩
  | _, _, _, .int i t, _ => ⟨[], Tups.nil, News.nil, .int i t⟩
  | _, _, _, .str x t, _ => ⟨[], Tups.nil, News.nil, .str x t⟩
  | _, _, _, .list _ _ _ _, e => nomatch e
  | _, _, _, .dict _ _ _ _ _, e => nomatch e
  | _, _, _, .tuple (a := a) (o := o) h1 c d r, e => by
    obtain ⟨rest, hT, hN, hD⟩ := ReadsAll.reg F r e
    cases hq : h₀.get? a with
    | some o' =>
      have hk := F.keep a o' hq
      rw [h1] at hk
      cases hk
      exact ⟨rest, hT, hN, .tuple (.inl hq) c d hD⟩
    | none =>
      refine ⟨(a, o) :: rest, Tups.cons c hT, ?_, .tuple (.inr (.head _)) c d (hD.mono fun p hp => .tail _ hp)⟩
      intro p hp
      rcases List.mem_cons.mp hp with rfl | hp
      · refine ⟨h1, fun q => ?_, hq⟩
        subst q
        exact fr_notTup F h1 _ _ d
      · exact hN p hp
theorem ReadsAll.reg {h₀ h : Heap} {L : Addr} {m : Str → Option Value} (F : Fr h₀ L h m) : ∀ {vs : List Value} {ds : List PyData} {as : List Addr}, ReadsAll h vs ds as → as = [] →
    ∃ rest, Tups rest ∧ News h₀ L h rest ∧ DIs h₀ rest vs ds
  | _, _, _, .nil, _ => ⟨[], Tups.nil, News.nil, .nil⟩
  | _, _, _, .cons a b, e => by
    obtain ⟨r1, t1, n1, d1⟩ := Reads.reg F a (List.append_eq_nil_iff.mp e).1
    obtain ⟨r2, t2, n2, d2⟩ := ReadsAll.reg F b (List.append_eq_nil_iff.mp e).2
    exact ⟨r1 ++ r2, t1.append t2, fun p hp => (List.mem_append.mp hp).elim (n1 p) (n2 p), .cons (d1.mono fun p hp => List.mem_append_left _ hp) (d2.mono fun p hp => List.mem_append_right _ hp)⟩
end

theorem Reads.regE {C : Prop} {h₀ h : Heap} {L : Addr} {m : Str → Option Value} (F : Fr h₀ L h m) {v : Value} {d : PyData} (r : Reads h v d []) (k : ∀ rest, Tups rest → News h₀ L h rest → DI h₀ rest v d → C) : C := by
  obtain ⟨rest, a, b, c⟩ := Reads.reg F r rfl
  exact k rest a b c
theorem ReadsAll.regE {C : Prop} {h₀ h : Heap} {L : Addr} {m : Str → Option Value} (F : Fr h₀ L h m) {vs : List Value} {ds : List PyData} (r : ReadsAll h vs ds []) (k : ∀ rest, Tups rest → News h₀ L h rest → DIs h₀ rest vs ds → C) : C := by
  obtain ⟨rest, a, b, c⟩ := ReadsAll.reg F r rfl
  exact k rest a b c
theorem all_nil {P : Addr × Obj → Prop} : ∀ p ∈ ([] : List (Addr × Obj)), P p := fun _ h => nomatch h
theorem all_cons {P : Addr × Obj → Prop} {a : Addr × Obj} {l : List (Addr × Obj)} (h : P a) (t : ∀ p ∈ l, P p) : ∀ p ∈ a :: l, P p := fun p hp => by
  rcases List.mem_cons.mp hp with rfl | hp
  · exact h
  · exact t p hp
theorem all_app {P : Addr × Obj → Prop} {a l : List (Addr × Obj)} (h : ∀ p ∈ a, P p) (t : ∀ p ∈ l, P p) : ∀ p ∈ a ++ l, P p := fun p hp => (List.mem_append.mp hp).elim (h p) (t p)
theorem News.app {h₀ h : Heap} {L : Addr} {a b : List (Addr × Obj)} (x : News h₀ L h a) (y : News h₀ L h b) : News h₀ L h (a ++ b) := fun p hp => (List.mem_append.mp hp).elim (x p) (y p)
theorem News.sub {h₀ h : Heap} {L : Addr} {a b : List (Addr × Obj)} (x : News h₀ L h b) (y : ∀ p ∈ a, p ∈ b) : News h₀ L h a := fun p hp => x p (y p hp)

noncomputable def numD (x : Num) : PyData := .tuple [.int x.1, .int x.2]
theorem reads_tup {h : Heap} {v : Value} {ds : List PyData} {as : List Addr} (r : Reads h v (.tuple ds) as) : ∃ a items, v = .ref a ∧ IsTup h a items ∧ ReadsAll h items.toList ds as := by
  cases r with
  | tuple ho hc hd hr => exact ⟨_, _, rfl, ⟨_, ho, hc, _, hd⟩, hr⟩
theorem tup_reads {h : Heap} {a : Addr} {items : List Value} {ds : List PyData} {as : List Addr} (x : IsTup h a items.toArray) (r : ReadsAll h items ds as) : Reads h (.ref a) (.tuple ds) as := by
  obtain ⟨o, ho, hc, n, hd⟩ := x
  exact .tuple ho hc hd (by simpa using r)
theorem readsAll_cons {h : Heap} {vs : List Value} {d : PyData} {ds : List PyData} {as : List Addr} (r : ReadsAll h vs (d :: ds) as) (e : as = []) : ∃ v vs', vs = v :: vs' ∧ Reads h v d [] ∧ ReadsAll h vs' ds [] := by
  cases r with
  | cons a b =>
    obtain ⟨rfl, rfl⟩ := List.append_eq_nil_iff.mp e
    exact ⟨_, _, rfl, a, b⟩
theorem readsAll_nil {h : Heap} {vs : List Value} {as : List Addr} (r : ReadsAll h vs [] as) : vs = [] := by cases r; rfl
theorem reads_int {h : Heap} {v : Value} {i : Int} {as : List Addr} (r : Reads h v (.int i) as) : ∃ t, v = .int i t := by cases r; exact ⟨_, rfl⟩
theorem reads_str {h : Heap} {v : Value} {x : Str} {as : List Addr} (r : Reads h v (.str x) as) : ∃ t, v = .str x t := by cases r; exact ⟨_, rfl⟩
theorem reads_none {h : Heap} {v : Value} {as : List Addr} (r : Reads h v .none as) : v = .none := by cases r; rfl
theorem num_open {h : Heap} {v : Value} {x : Num} (r : Reads h v (numD x) []) : ∃ a t1 t2, v = .ref a ∧ IsTup h a [Value.int x.1 t1, Value.int (x.2 : Int) t2].toArray := by
  obtain ⟨a, items, rfl, hI, hr⟩ := reads_tup r
  obtain ⟨v1, vs1, e1, r1, hr⟩ := readsAll_cons hr rfl
  obtain ⟨v2, vs2, e2, r2, hr⟩ := readsAll_cons hr rfl
  have e3 := readsAll_nil hr
  obtain ⟨t1, rfl⟩ := reads_int r1
  obtain ⟨t2, rfl⟩ := reads_int r2
  subst e3
  subst e2
  refine ⟨a, t1, t2, rfl, ?_⟩
  have : items = [Value.int x.1 t1, Value.int (x.2 : Int) t2].toArray := by rw [← e1]
  rwa [this] at hI
theorem num_close {h : Heap} {a : Addr} {x : Num} {t1 t2 : Tok} (hI : IsTup h a [Value.int x.1 t1, Value.int (x.2 : Int) t2].toArray) : Reads h (.ref a) (numD x) [] :=
  tup_reads hI (.cons (as := []) (bs := []) (.int _ _) (.cons (as := []) (bs := []) (.int _ _) .nil))

noncomputable def Bd (n : Nat) (x : Int) : Prop := x.natAbs < 2 ^ n
theorem Bd.bits {n : Nat} {x : Int} (h : Bd n x) : PySem.Builtin.Int.intBits x ≤ n := by
  unfold PySem.Builtin.Int.intBits
  split
  · exact Nat.zero_le _
  · rename_i h0
    have hx : x.natAbs ≠ 0 := by
      intro e
      exact h0 (by simpa using e)
    have := (Nat.log2_lt hx).mpr h
    (first | lia | omega)
theorem Bd.mul {n k : Nat} {x y : Int} (hx : Bd n x) (hy : Bd k y) : Bd (n + k) (x * y) := by
  unfold Bd at *
  rw [Int.natAbs_mul, Nat.pow_add]
  exact Nat.mul_lt_mul'' hx hy
theorem Bd.mono {n k : Nat} {x : Int} (hx : Bd n x) (h : n ≤ k) : Bd k x := Nat.lt_of_lt_of_le hx (Nat.pow_le_pow_right (by decide) h)
theorem Bd.ok {n k : Nat} {x y : Int} (hx : Bd n x) (hy : Bd k y) (h : n + k ≤ 2 ^ 27) : IntMulOk x y := by
  unfold IntMulOk
  intro q
  simp only [Bool.and_eq_true] at q
  have q2 : decide (((PySem.Builtin.Int.intBits x + PySem.Builtin.Int.intBits y : Nat) : Int) > ((bitsLine : Nat) : Int)) = true := q.2
  have h1 := hx.bits
  have h2 := hy.bits
  have hb : bitsLine = 2 ^ 27 := rfl
  rw [decide_eq_true_eq] at q2
  rw [hb] at q2
  (first | lia | omega)
theorem Bd.pow10 (n : Nat) : Bd (4 * n + 1) ((10 : Int) ^ n) := by
  have h : (10 : Nat) ^ n ≤ 2 ^ (4 * n) := by
    rw [Nat.pow_mul]
    exact Nat.pow_le_pow_left (by decide) n
  unfold Bd
  rw [Int.natAbs_pow]
  show 10 ^ n < _
  exact Nat.lt_of_le_of_lt h (Nat.pow_lt_pow_right (by decide) (Nat.lt_succ_self _))
theorem Bd.add {n : Nat} {x y : Int} (hx : Bd n x) (hy : Bd n y) : Bd (n + 1) (x + y) := by
  unfold Bd at *
  have := Int.natAbs_add_le x y
  rw [Nat.pow_succ]
  (first | lia | omega)
theorem Bd.neg {n : Nat} {x : Int} (hx : Bd n x) : Bd n (-x) := by
  unfold Bd at *
  rwa [Int.natAbs_neg]
theorem Bd.sub {n : Nat} {x y : Int} (hx : Bd n x) (hy : Bd n y) : Bd (n + 1) (x - y) := by
  rw [Int.sub_eq_add_neg]
  exact hx.add hy.neg
theorem Bd.cut {n : Nat} {x y : Int} (hx : Bd n x) : Bd n (cut x y) := by
  unfold Bd Mine.cut at *
  rw [Int.natAbs_tdiv]
  exact Nat.lt_of_le_of_lt (Nat.div_le_self _ _) hx
theorem Bd.norm {n : Nat} : ∀ (k : Nat) {x : Int}, Bd n x → Bd n (norm x k).1
  | 0, _, h => h
  | k + 1, x, h => by
    unfold Mine.norm
    split
    · refine Bd.norm k ?_
      unfold Bd at *
      have : (x / 10).natAbs ≤ x.natAbs := by (first | lia | omega)
      (first | lia | omega)
    · exact h
theorem Bd.noPylong {x y : Int} (h : Bd 9000 y) : Builtin.divisionGoesByPylong x y = false := by
  by_cases h0 : y.natAbs = 0
  · exact PyProof.noPylong_small (by (first | lia | omega))
  · exact PyProof.noPylong_of_log2 ((Nat.log2_lt h0).mpr h)
theorem Bd.abs {n : Nat} {x : Int} (h : Bd n x) : Bd n (if x < 0 then -x else x) := by
  split
  · exact h.neg
  · exact h
theorem abs_ne {x : Int} (h : x ≠ 0) : (if x < 0 then -x else x) ≠ 0 := by split <;> (first | lia | omega)
theorem fdivR {prog : Program} {w : World} {A : Around} {E : Value → Shared → Prop} {s : Shared} {a b : Int} {t u : Tok} {Q : Value → Shared → Prop} (hb : b ≠ 0) (hbd : Bd 9000 b)
    (h : Q (.int (a.fdiv b) s.toks) { s with toks := s.toks + 1 }) : wpAny (model prog w) A (binaryOp .FloorDiv (.int a t) (.int b u)) Q E s := floordiv_int hb h (Or.inl hbd.noPylong)
theorem mulR {prog : Program} {w : World} {A : Around} {E : Value → Shared → Prop} {s : Shared} {a b : Int} {t u : Tok} {Q : Value → Shared → Prop} (hm : IntMulOk a b)
    (h : Q (.int (a * b) s.toks) { s with toks := s.toks + 1 }) : wpAny (model prog w) A (binaryOp .Mult (.int a t) (.int b u)) Q E s := mul_int h hm
theorem bd_10 : Bd 9000 10 := Nat.lt_of_lt_of_le (show (10 : Nat) < 2 ^ 4 by decide) (Nat.pow_le_pow_right (by decide) (by decide))
theorem pow10R {prog : Program} {w : World} {A : Around} {E : Value → Shared → Prop} {s : Shared} {n : Int} {t u : Tok} {Q : Value → Shared → Prop} (hn : 0 ≤ n) (hn2 : n ≤ 1000)
    (h : Q (.int (10 ^ n.toNat) s.toks) { s with toks := s.toks + 1 }) : wpAny (model prog w) A (binaryOp .Pow (.int 10 t) (.int n u)) Q E s := pow_int_small hn (by (first | lia | omega)) (by decide) h
theorem item_h {prog : Program} {w : World} {A : Around} {E : Value → Shared → Prop} {s : Shared} {h₀ : Heap} {L : Addr} {m : Str → Option Value} {value slice : PySem.Expr} {t : Addr} {l : List Value} {k : Int} {u : Tok} {x : Value} {Q : Value → Shared → Prop}
    (F : Fr h₀ L s.heap m) (ht : IsTup h₀ t l.toArray) (hk : (decide (0 ≤ k) && decide (k < 100)) = true) (hx : l[k.toNat]? = some x) (h : Q x s)
    (hs : subscripted slice false (.ref t) (.int k u) = operate [.ref t, .int k u] (getItem (.ref t) (.int k u)) := by with_unfolding_all rfl) :
    wpAny (model prog w) A (subscriptTail value slice (.ref t) (.int k u)) Q E s := by
  simp only [Bool.and_eq_true, decide_eq_true_eq] at hk
  obtain ⟨hlt, _⟩ := List.getElem?_eq_some_iff.mp hx
  refine item_tupleT (F.tup ht) (by (first | lia | omega)) (by (first | lia | omega)) (j := k.toNat) ?_ hx h hs
  unfold seqIndex?
  simp only [if_neg (Int.not_lt.mpr hk.1)]
  rw [if_pos]
  simp only [Bool.and_eq_true, decide_eq_true_eq]
  (first | lia | omega)
theorem norm_le : ∀ (k : Nat) (x : Int), (norm x k).2 ≤ k
  | 0, _ => Nat.le_refl _
  | k + 1, x => by
    unfold Mine.norm
    split
    · exact Nat.le_succ_of_le (norm_le k _)
    · exact Nat.le_refl _
end Mine
namespace Mine

section
variable {prog : Program} {w : World} {A : Around} {E : Value → Shared → Prop} {s : Shared} {env : Env} {h₀ : Heap} {x : Str} {body : List Stmt} {Q : Flow → Shared → Prop}

theorem loop_T {I : Addr} {fp wr : List Addr} {n : Nat} {P : Nat → Value → Prop} {St : Nat → Heap → Prop} {m₀ : Str → Option Value} {news : List (Addr × Obj)} (J : Nat → (Str → Option Value) → List (Addr × Obj) → Prop)
    (W : Walks prog w A I fp wr n P St) (hfw : ∀ a ∈ fp, a ∈ wr) (hwf : ∀ b ∈ wr, b ∈ fp) (hob : ∀ i h, St i h → ∀ b ∈ wr, ∃ o, h.get? b = some o) (hcl : ∀ i h, St i h → ∀ b ∈ fp, ∀ o, h.get? b = some o → ¬ tupObj o)
    (hLf : env.locals ∉ fp) (hwr : ∀ b ∈ wr, h₀.get? b = none) (hnw : ∀ p ∈ news, p.1 ∉ wr) (hst : St 0 s.heap)
    (F : Fr h₀ env.locals s.heap m₀) (N : News h₀ env.locals s.heap news) (hj : J 0 m₀ news)
    (turn : ∀ i v m₁ nx h tk own, i < n → P i v → OwnOff own (nx.map (·.1)) → (∀ p ∈ own, ¬ tupObj p.2) → J i m₁ nx → Fr h₀ env.locals h (fun y => if y = x then some v else m₁ y) → News h₀ env.locals h (nx ++ own) →
      wpAny (model prog w) A (execs body env) (InvPostG h₀ env.locals (J (i + 1)) own { s with heap := h, toks := tk } Q) E { s with heap := h, toks := tk })
    (done : ∀ m₁ nx h tk, J n m₁ nx → Fr h₀ env.locals h m₁ → News h₀ env.locals h nx → Q .next { s with heap := h, toks := tk }) :
    LoopAtV prog w A h₀ env x body Q E (.ref I) s := by
  refine ⟨I, fp, wr, n, P, St, m₀, news, J, rfl, W, hLf, hwr, hnw, hst, F, N, hj, ?_, ?_⟩
  · rintro i v m₁ news₁ s₁ own ⟨hh', tk', rfl⟩ hin hP hJ hoff hown hget hmem hst' F₁ N₁
    have hsep : OwnOff own (news₁.map (·.1)) := by
      intro p hp b hb e
      obtain ⟨q, hq, rfl⟩ := List.mem_map.mp hb
      exact hoff q hq (hfw _ (e ▸ hown p hp))
    have N₂ : News h₀ env.locals hh' (news₁ ++ own) := fun p hp => N₁ p ((List.mem_append.mp hp).elim (fun h => List.mem_append.mpr (.inr h)) fun h => List.mem_append.mpr (.inl h))
    refine wpAny_mono (turn i v m₁ news₁ hh' tk' own hin hP hsep (fun p hp => hcl _ _ hst' p.1 (hown p hp) p.2 (hget p hp)) hJ F₁ N₂) (fun f s₂ p => ?_) fun _ _ e => e
    have fin : InvEndG h₀ env.locals (J (i + 1)) own { s with heap := hh', toks := tk' } s₂ → LoopStepU h₀ env.locals wr own (J (i + 1)) { s with heap := hh', toks := tk' } .next s₂ := by
      rintro ⟨h', tk, m', news', nx, e, F', N', hn, ho, ha, hm⟩
      refine ⟨rfl, h', tk, m', nx, e, F', fun p hp => N' p ((List.mem_append.mp hp).elim (ho p) (hn p)), fun p hp hq => ?_, hm⟩
      obtain ⟨o, hbo⟩ := hob _ _ hst' _ hq
      exact ha _ (hmem _ (hwf _ hq) (hwr _ hq) o hbo) p.1 (List.mem_map.mpr ⟨p, hp, rfl⟩) rfl
    cases f with
    | ret v => exact .ret p
    | brk => exact .brk p
    | next => exact .next (fin p)
    | cont => exact .cont (fin p)
  · rintro h' tk m' news' F' N' _ hJ
    exact done m' news' h' tk hJ F' N'

theorem range_G {r : Addr} {b₀ : Int} {t₀ u₀ v₀ : Tok} (n : Nat) {m₀ : Str → Option Value} {news : List (Addr × Obj)} (J : Nat → (Str → Option Value) → List (Addr × Obj) → Prop)
    (hh : A.handled = none) (hr : IsRange s.heap r 0 b₀ 1 t₀ u₀ v₀) (hb : b₀ = (n : Int)) (hn : n < 100000) (F : Fr h₀ env.locals s.heap m₀) (N : News h₀ env.locals s.heap news) (hj : J 0 m₀ news)
    (turn : ∀ i t m₁ nx h tk own, i < n → OwnOff own (nx.map (·.1)) → (∀ p ∈ own, ¬ tupObj p.2) → J i m₁ nx → Fr h₀ env.locals h (fun y => if y = x then some (.int (i : Int) t) else m₁ y) → News h₀ env.locals h (nx ++ own) →
      wpAny (model prog w) A (execs body env) (InvPostG h₀ env.locals (J (i + 1)) own { s with heap := h, toks := tk } Q) E { s with heap := h, toks := tk })
    (done : ∀ m₁ nx h tk, J n m₁ nx → Fr h₀ env.locals h m₁ → News h₀ env.locals h nx → Q .next { s with heap := h, toks := tk }) :
    wpAny (model prog w) A (pyIter (.ref r)) (fun it s₂ => LoopAtV prog w A h₀ env x body Q E it s₂) E s := by
  have hsz : Builtin.Range.rangeSize 0 b₀ 1 = (n : Int) := by
    rw [rangeSize_nat]; (first | lia | omega)
  refine wpAny_pyIter_range hr (small_one (by decide) (by decide) (by (first | lia | omega)) (by (first | lia | omega))) ?_
  have W : Walks prog w A s.heap.objs.size [s.heap.objs.size] [s.heap.objs.size] n (fun i v => i < n ∧ ∃ t, v = .int (0 + i * 1) t)
      (fun i h => IsRangeIter h s.heap.objs.size (0 + (i : Nat) * 1) ((n : Int) - (i : Nat)) 1) := (Walks.range hh _ 0 1 n).bound
  refine loop_T J W (fun _ h => h) (fun _ h => h) ?_ ?_ ?_ ?_ ?_ (by show IsRangeIter _ _ _ _ _; rw [hsz]; simpa using Heap.get?_push_size _ rfl) (F.push _) (fun p hp => ⟨Heap.get?_push_of_some _ (N p hp).1, (N p hp).2⟩) hj ?_ ?_
  · intro i h hi b hb
    rw [List.mem_singleton.mp hb]
    exact ⟨_, hi⟩
  · intro i h hi b hb o ho
    rw [List.mem_singleton.mp hb] at ho
    have hi' : h.get? s.heap.objs.size = some _ := hi
    rw [hi'] at ho
    cases ho
    intro q
    exact absurd (Value.type.inj q) (by decide)
  · intro hm
    exact absurd F.ns.lt ((List.mem_singleton.mp hm) ▸ Nat.lt_irrefl _)
  · intro b hb
    rw [List.mem_singleton.mp hb]
    exact next_is_new F
  · intro p hp hI
    exact absurd (Heap.lt_size (N p hp).1) ((List.mem_singleton.mp hI) ▸ Nat.lt_irrefl _)
  · rintro i v m₁ nx h tk own hi ⟨_, t, rfl⟩ hoff hcl hJ F₁ N₁
    have e1 : (0 : Int) + (i : Int) * 1 = (i : Int) := by (first | lia | omega)
    rw [e1] at F₁
    exact turn i t m₁ nx h tk own hi hoff hcl hJ F₁ N₁
  · exact done

theorem inv_end {L : Addr} {J : (Str → Option Value) → List (Addr × Obj) → Prop} {m' : Str → Option Value} {own news' nx : List (Addr × Obj)} {s₁ : Shared} {h' : Heap} {tk : Nat} (F : Fr h₀ L h' m') (N : News h₀ L h' news')
    (hj : J m' nx) (ha : OwnOff own (nx.map (·.1))) (hn : ∀ p ∈ nx, p ∈ news') (ho : ∀ p ∈ own, p ∈ news') : InvEndG h₀ L J own s₁ { s₁ with heap := h', toks := tk } := ⟨h', tk, m', news', nx, rfl, F, N, hn, ho, ha, hj⟩
end
theorem own_off {h₀ h : Heap} {L : Addr} {own rest : List (Addr × Obj)} (N : News h₀ L h own) (N' : News h₀ L h rest) (ht : Tups rest) (hn : ∀ p ∈ own, ¬ tupObj p.2) : OwnOff own (rest.map (·.1)) := by
  intro p hp b hb e
  obtain ⟨q, hq, rfl⟩ := List.mem_map.mp hb
  have h1 := (N p hp).1
  have h2 := (N' q hq).1
  rw [e] at h1
  rw [h1] at h2
  exact hn p hp (Option.some.inj h2 ▸ ht q hq)
theorem none_back {g h : Heap} {a : Addr} (k : g.StaysIn h) (q : h.get? a = none) : g.get? a = none := by
  cases q' : g.get? a with
  | none => rfl
  | some o => have := k _ _ q'; rw [q] at this; cases this

end Mine
namespace Mine

section
variable {prog : Program} {w : World} {A : Around} {R : Result → Shared → Prop} {s : Shared}

theorem compLoop_any {elt target iter : Expr} {ifs : List Expr} {scope : Scope} {pos : Pos} {it acc : Value} {env : Env} (I : Nat → Shared → Prop)
    (turn : ∀ n s, I n s → wpAny (model prog w) A (pyNext it) (fun r s₁ => match r with
      | none => R (.ok .next) s₁
      | some v => wpAny (model prog w) A (letOwnedTupleGo target it v) (fun _ s₁' => wpAny (model prog w) A (assign target env v) (fun _ s₂ =>
          wpAny (model prog w) A (forIn ifs true fun c r => if r = true then do let ok ← isTrue c env (eval c env); pure (ForInStep.yield ok) else pure (ForInStep.yield r)) (fun ok s₃ =>
            if ok = true then wpAny (model prog w) A (eval elt env) (fun x s₄ =>
              wpAny (model prog w) A (call (.builtin "list.append") [acc, x]) (fun _ s₅ => ∃ m, m < n ∧ I m s₅) (notedBy (model prog w) A env fun e s' => R (.error e) s') s₄) (notedBy (model prog w) A env fun e s' => R (.error e) s') s₃
            else ∃ m, m < n ∧ I m s₃) (notedBy (model prog w) A env fun e s' => R (.error e) s') s₂) (notedBy (model prog w) A env fun e s' => R (.error e) s') s₁') (notedBy (model prog w) A env fun e s' => R (.error e) s') s₁) (notedBy (model prog w) A env fun e s' => R (.error e) s') s)
    (n : Nat) (h : I n s) : codeAny (model prog w) A (.compLoop (.ListComp elt [⟨target, iter, ifs, 0⟩] scope pos) 0 it acc env) R s := by
  refine codeAny_loop rfl I (fun n s hI => ?_) n h
  show wpAny _ A ((compTurn (.ListComp elt [⟨target, iter, ifs, 0⟩] scope pos) 0 it acc env).onRaise (fun x => do noteFrame x env; theTreesLotGoes x)) _ _ s
  refine wpAny_noted ?_
  rw [compTurn_list]
  refine wpAny_bind (wpAny_standAt (wpAny_bind (wpAny_mono (turn n s hI) (fun r s₁ h₁ => ?_) fun _ _ h' => h')))
  cases r with
  | none => exact wpAny_pure h₁
  | some v =>
    refine wpAny_bind (wpAny_mono h₁ (fun _ s₁' h₁' => ?_) fun _ _ h' => h')
    refine wpAny_bind (wpAny_mono h₁' (fun _ s₂ h₂ => wpAny_bind (wpAny_mono h₂ (fun ok s₃ h₃ => ?_) fun _ _ h' => h')) fun _ _ h' => h')
    cases ok with
    | false => exact wpAny_pure ⟨rfl, h₃⟩
    | true =>
      exact wpAny_bind (wpAny_bind (wpAny_mono h₃ (fun x s₄ h₄ => wpAny_bind (wpAny_mono h₄ (fun _ s₅ h₅ => wpAny_pure (wpAny_pure ⟨rfl, h₅⟩)) fun _ _ h' => h')) fun _ _ h' => h'))
end

noncomputable def CEnd (h₀ : Heap) (C I : Addr) (oI : Obj) (D : Addr) (oD : Obj) (K : List (Addr × Obj) → Prop) (s₂ s' : Shared) : Prop :=
  ∃ h' tk m' rest', s' = { s₂ with heap := h', toks := tk } ∧ Fr h₀ C h' m' ∧ News h₀ C h' ((I, oI) :: (D, oD) :: rest') ∧ (∀ p ∈ rest', p.1 ≠ I ∧ p.1 ≠ D) ∧ K rest'

section
variable {prog : Program} {w : World} {A : Around} {E : Value → Shared → Prop} {Q : Value → Shared → Prop} {s : Shared} {env : Env}

inductive CompG (prog : Program) (w : World) (A : Around) (elt target : Expr) (ifs : List Expr) (scope : Scope) (cl : List (Str × Addr)) (env : Env) (Q : Value → Shared → Prop) (it : Value) (s₂ : Shared) : Prop
  | mk (I : Addr) (fp : List Addr) (n : Nat) (P : Nat → Value → Prop) (St : Nat → Heap → Prop) (hid : List (Addr × Obj)) (J : Nat → List Value → List (Addr × Obj) → Prop)
    (q0 : it = .ref I)
    (q1 : Walks prog w A I fp [I] n P St)
    (q2 : n ≤ sizeLine)
    (q3 : St 0 s₂.heap)
    (q4 : (∀ b ∈ fp, b < s₂.heap.objs.size))
    (q5 : (∀ i h, St i h → ∃ o, h.get? I = some o))
    (q6 : (∀ b ∈ fp, b ≠ I → ∃ o, (hideAll s₂.heap (I :: hid.map (·.1))).get? b = some o))
    (q7 : (∀ p ∈ hid, s₂.heap.get? p.1 = some p.2 ∧ p.1 ≠ I))
    (q8 : (∀ (v : Value) i (s : Shared) (Q : Unit → Shared → Prop) (E : Value → Shared → Prop), P i v → St (i + 1) s.heap → Q () s → wpAny (model prog w) A (letOwnedTupleGo target (.ref I) v) Q E s))
    (q9 : J 0 [] hid)
    (q10 : (∀ C D i v ys rest oI k h m tk E', i < n → P i v → J i ys rest → Fr (hideAll s₂.heap (I :: hid.map (·.1))) C h m → News (hideAll s₂.heap (I :: hid.map (·.1))) C h ((I, oI) :: (D, listOf ys.toArray k) :: rest) → I ≠ D → (∀ p ∈ rest, p.1 ≠ I ∧ p.1 ≠ D) → wpAny (model prog w) A (assign target (compEnvC scope cl C env) v) (fun _ s₃ => wpAny (model prog w) A (forIn ifs true fun c r => if r = true then do let ok ← isTrue c (compEnvC scope cl C env) (eval c (compEnvC scope cl C env)); pure (ForInStep.yield ok) else pure (ForInStep.yield r)) (fun ok s₄ => if ok = true then wpAny (model prog w) A (eval elt (compEnvC scope cl C env)) (fun x s₅ => CEnd (hideAll s₂.heap (I :: hid.map (·.1))) C I oI D (listOf ys.toArray k) (J (i + 1) (ys ++ [x])) { s₂ with heap := h, toks := tk } s₅) E' s₄ else CEnd (hideAll s₂.heap (I :: hid.map (·.1))) C I oI D (listOf ys.toArray k) (J (i + 1) ys) { s₂ with heap := h, toks := tk } s₄) E' s₃) E' { s₂ with heap := h, toks := tk }))
    (q11 : (∀ D h' tk ys rest k, J n ys rest → (hideAll s₂.heap (I :: hid.map (·.1))).StaysIn h' → h'.get? D = some (listOf ys.toArray k) → s₂.heap.get? D = none → (∀ p ∈ rest, h'.get? p.1 = some p.2 ∧ (hideAll s₂.heap (I :: hid.map (·.1))).get? p.1 = none ∧ p.1 ≠ D) → ys.length ≤ n → Q (.ref D) { s₂ with heap := h', toks := tk })) : CompG prog w A elt target ifs scope cl env Q it s₂

inductive CLoop (s₂ : Shared) (n : Nat) (St : Nat → Heap → Prop) (J : Nat → List Value → List (Addr × Obj) → Prop) (g : Heap) (C D I : Addr) (k : Nat) (s' : Shared) : Prop
  | mk (h' : Heap) (tk i : Nat) (ys : List Value) (m' : Str → Option Value) (rest : List (Addr × Obj)) (kk : Nat) (q0 : s' = { s₂ with heap := h', toks := tk }) (q1 : i ≤ n) (q2 : k = n + 1 - i) (q3 : ys.length ≤ i) (q4 : St i h') (q5 : Fr g C h' m')
    (q6 : News g C h' ((D, listOf ys.toArray kk) :: rest)) (q7 : ∀ p ∈ rest, p.1 ≠ I ∧ p.1 ≠ D) (q8 : J i ys rest) : CLoop s₂ n St J g C D I k s'
theorem ListComp_G {elt target iter : Expr} {ifs : List Expr} {scope : Scope} {cl : List (Str × Addr)} {pos : Pos}
    (hclos : closureFor scope env = pure cl) (hcell : ∀ y ∈ scope.names, y.2 ≠ .cell) (hkind : scope.kind = .function)
    (hnames : ∀ y ∈ scope.names, y.2 = .local → scope.names.lookup y.1 = some .local)
    (h : wpAny (model prog w) A (eval iter env) (fun xv s₁ => wpAny (model prog w) A (pyIter xv) (fun it s₂ => CompG prog w A elt target ifs scope cl env Q it s₂) E s₁) E s)
    (hs : ∀ x, foldedSetIterable iter env x = pure x := by intro _; rfl) :
    wpAny (model prog w) A (eval (.ListComp elt [⟨target, iter, ifs, 0⟩] scope pos) env) Q E s := by
  rw [eval_ListComp]
  refine wpAny_comprehension_free (use := none) rfl hs hclos hkind hnames (wpAny_mono h (fun xv s₁ h₁ => wpAny_mono h₁ (fun it s₂ h₂ => ?_) fun _ _ e => e) fun _ _ e => e)
  obtain ⟨I, fp, n, P, St, hid, J, rfl, W, hsz, hst, hfp, hIo, hfr, hhid, hlet, hj, turn, done⟩ := h₂
  refine wpAny_newObj_type (wpAny_newFunctionEnv hcell (by intro y hy; simp at hy) (fun h₁ hns₁ hsb₁ => ?_) hkind)
  dsimp only at hns₁ hsb₁ ⊢
  generalize hH2 : s₂.heap.push { cls := .type "list", dict := none, data := .seq ([] : List Value).toArray } = H2 at hns₁ hsb₁ ⊢
  have hC : H2.objs.size = s₂.heap.objs.size + 1 := by rw [← hH2, Heap.size_push]
  have hDC : s₂.heap.objs.size ≠ H2.objs.size := by rw [hC]; exact Nat.ne_of_lt (Nat.lt_succ_self _)
  have below : ∀ b, b < s₂.heap.objs.size → b ≠ H2.objs.size ∧ b ≠ s₂.heap.objs.size := fun b hb => ⟨by rw [hC]; exact Nat.ne_of_lt (Nat.lt_succ_of_lt hb), Nat.ne_of_lt hb⟩
  have hDf : s₂.heap.objs.size ∉ fp := fun hm => Nat.lt_irrefl _ (hfp _ hm)
  have hCf : H2.objs.size ∉ fp := fun hm => by have := hfp _ hm; rw [hC] at this; exact Nat.lt_irrefl _ (Nat.lt_of_succ_lt this)
  have hIf : I ∈ fp := W.sub I (List.mem_singleton.mpr rfl)
  have hIlt : I < s₂.heap.objs.size := hfp I hIf
  have old : ∀ b o, s₂.heap.get? b = some o → h₁.get? b = some o := fun b o e => hsb₁.extBut b o (below b (Heap.lt_size e)).1 (Heap.get?_push_of_some _ (hH2 ▸ Heap.get?_push_of_some _ e))
  have hacc : h₁.get? s₂.heap.objs.size = some (listOf [].toArray 0) := hsb₁.extBut _ _ hDC (Heap.get?_push_of_some _ (hH2 ▸ Heap.get?_push_size _ rfl))
  have hst₁ : St 0 h₁ := W.frame _ _ _ hst fun b _ o e => old b o e
  have fresh : ∀ a, s₂.heap.objs.size ≤ a → s₂.heap.get? a = none := fun a ha => by
    cases e : s₂.heap.get? a with
    | none => rfl
    | some o' => exact absurd (Heap.lt_size e) (Nat.not_lt.mpr ha)
  have st : (hideAll s₂.heap (I :: hid.map (·.1))).StaysIn s₂.heap := fun b o e => of_hideAll _ e
  have hD₀ : (hideAll s₂.heap (I :: hid.map (·.1))).get? s₂.heap.objs.size = none := none_back st (fresh _ (Nat.le_refl _))
  have hI₀ : (hideAll s₂.heap (I :: hid.map (·.1))).get? I = none := hideAll_none _ (List.mem_cons_self ..)
  have hCI : I ≠ H2.objs.size := (below I hIlt).1
  have hDI : I ≠ s₂.heap.objs.size := (below I hIlt).2
  have loop : ∀ s₃ : Shared, s₃ = { s₂ with heap := h₁, toks := s₂.toks + ([] : List (Str × Value)).length } →
      codeAny (model prog w) A (.compLoop (.ListComp elt [⟨target, iter, ifs, 0⟩] scope pos) 0 (.ref I) (.ref s₂.heap.objs.size) (compEnvC scope cl H2.objs.size env))
        (compPost (model prog w) A E none Q (.ref s₂.heap.objs.size) H2.objs.size) s₃ := by
    rintro s₃ rfl
    refine compLoop_any
      (fun k s' => CLoop s₂ n St J (hideAll s₂.heap (I :: hid.map (·.1))) H2.objs.size s₂.heap.objs.size I k s') ?_ (n + 1)
      ⟨h₁, _, 0, [], _, hid, 0, rfl, Nat.zero_le _, rfl, Nat.le_refl _, hst₁, ⟨hns₁, fun b o e => old b o (st b o e), by rw [hideAll_size, hC]; exact Nat.le_succ _⟩, fun p hp => ?_, fun p hp => ⟨(hhid p hp).2, (below _ (Heap.lt_size (hhid p hp).1)).2⟩, hj⟩
    · rintro k s' ⟨h', tk, i, ys, m', rest, kk, rfl, hi, rfl, hyl, hst', F', N', off', hJ⟩
      by_cases hlt : i < n
      · refine W.item i _ _ _ hlt hst' fun v h₂ tk₂ hPv hst₂ hk₂ => ?_
        have hk₂' : ∀ b o, b ≠ I → h'.get? b = some o → h₂.get? b = some o := fun b o hb e => hk₂ b o (by simpa using hb) e
        refine hlet v i _ _ _ hPv hst₂ ?_
        obtain ⟨oI, heI⟩ := hIo _ _ hst₂
        have F₂ : Fr (hideAll s₂.heap (I :: hid.map (·.1))) H2.objs.size h₂ m' := ⟨F'.ns.at' fun o e => hk₂' _ o hCI.symm e, fun b o e => hk₂' b o (by rintro rfl; rw [hI₀] at e; cases e) (F'.keep b o e), F'.above⟩
        have N₂ : News (hideAll s₂.heap (I :: hid.map (·.1))) H2.objs.size h₂ ((I, oI) :: (s₂.heap.objs.size, listOf ys.toArray kk) :: rest) := fun p hp => by
          rcases List.mem_cons.mp hp with rfl | hp
          · exact ⟨heI, hCI, hI₀⟩
          · have z := N' p hp
            refine ⟨hk₂' _ _ ?_ z.1, z.2⟩
            rcases List.mem_cons.mp hp with rfl | hp
            · exact hDI.symm
            · exact (off' p hp).1
        have step : ∀ (g : Heap) (mg : Str → Option Value) (rest' : List (Addr × Obj)), Fr (hideAll s₂.heap (I :: hid.map (·.1))) H2.objs.size g mg → News (hideAll s₂.heap (I :: hid.map (·.1))) H2.objs.size g ((I, oI) :: (s₂.heap.objs.size, listOf ys.toArray kk) :: rest') → St (i + 1) g := by
          intro g mg' rest' Fg Ng
          refine W.frame _ _ _ hst₂ fun b hb o e => ?_
          by_cases hbI : b = I
          · subst hbI
            rw [heI] at e
            cases e
            exact (Ng _ (.head _)).1
          · obtain ⟨o', ho'⟩ := hfr b hb hbI
            have := F₂.keep _ _ ho'
            rw [this] at e
            cases e
            exact Fg.keep _ _ ho'
        refine wpAny_mono (turn H2.objs.size s₂.heap.objs.size i v ys rest oI kk h₂ m' tk₂ _ hlt hPv hJ F₂ N₂ hDI off') (fun _ s₃ h₃ => ?_) fun _ _ e => e
        refine wpAny_mono h₃ (fun ok s₄ h₄ => ?_) fun _ _ e => e
        cases ok with
        | false =>
          simp only [Bool.false_eq_true, if_false] at h₄ ⊢
          obtain ⟨h₅, tk₅, m₅, rest₅, rfl, F₅, N₅, off₅, hJ₅⟩ := h₄
          exact ⟨n + 1 - (i + 1), by (first | lia | omega), h₅, tk₅, i + 1, ys, m₅, rest₅, kk, rfl, hlt, rfl, by (first | lia | omega), step _ _ _ F₅ N₅, F₅, fun p hp => N₅ p (.tail _ hp), off₅, hJ₅⟩
        | true =>
          simp only [if_true] at h₄ ⊢
          refine wpAny_mono h₄ (fun x s₅ h₅ => ?_) fun _ _ e => e
          obtain ⟨h₅, tk₅, m₅, rest₅, rfl, F₅, N₅, off₅, hJ₅⟩ := h₅
          refine append_at (hsz := by show ys.toArray.size ≤ sizeLine; rw [List.size_toArray]; (first | lia | omega)) (N₅ _ (.tail _ (.head _))).1 fun h₆ hs₆ hD₆ => ?_
          have hst₆ : St (i + 1) h₆ := W.frame _ _ _ (step _ _ _ F₅ N₅) fun b hb o e => hs₆.extBut b o (fun q => hDf (q ▸ hb)) e
          refine ⟨n + 1 - (i + 1), by (first | lia | omega), h₆, tk₅, i + 1, ys ++ [x], m₅, rest₅, kk + 1, rfl, hlt, rfl, by rw [List.length_append, List.length_singleton]; (first | lia | omega), hst₆, F₅.change hs₆ hDC hD₀, fun p hp => ?_, off₅, hJ₅⟩
          rcases List.mem_cons.mp hp with rfl | hp
          · refine ⟨?_, hDC, hD₀⟩
            rw [List.push_toArray] at hD₆
            exact hD₆
          · exact ⟨hs₆.extBut _ _ (off₅ p hp).2 (N₅ p (.tail _ (.tail _ hp))).1, (N₅ p (.tail _ (.tail _ hp))).2⟩
      · obtain rfl : i = n := Nat.le_antisymm hi (Nat.not_lt.mp hlt)
        refine W.done _ _ _ hst' fun h₂ tk₂ hk₂ => ?_
        have hk₂' : ∀ b o, b ≠ I → h'.get? b = some o → h₂.get? b = some o := fun b o hb e => hk₂ b o (by simpa using hb) e
        refine ⟨m', F'.ns.at' fun o e => hk₂' _ o hCI.symm e, fun h'' hs'' => ?_⟩
        refine done s₂.heap.objs.size h'' tk₂ ys rest kk hJ (fun b o e => ?_) ?_ (fresh _ (Nat.le_refl _)) (fun p hp => ⟨?_, (N' p (.tail _ hp)).2.2, (off' p hp).2⟩) hyl
        · refine hs''.extBut b o ?_ (hk₂' b o (by rintro rfl; rw [hI₀] at e; cases e) (F'.keep b o e))
          rintro rfl
          exact absurd (Heap.lt_size (st _ _ e)) (by rw [hC]; exact Nat.not_lt.mpr (Nat.le_succ _))
        · exact hs''.extBut _ _ hDC (hk₂' _ _ hDI.symm (N' _ (.head _)).1)
        · exact hs''.extBut _ _ (N' p (.tail _ hp)).2.1 (hk₂' _ _ (off' p hp).1 (N' p (.tail _ hp)).1)
    · rcases List.mem_cons.mp hp with rfl | hp
      · exact ⟨hacc, hDC, hD₀⟩
      · exact ⟨old _ _ (hhid p hp).1, (below _ (Heap.lt_size (hhid p hp).1)).1, hideAll_none _ (List.mem_cons_of_mem _ (List.mem_map_of_mem hp))⟩
  exact codeAny_compStart_list (loop _ rfl) (W.self 0 _ _ _ hst₁ (loop _ rfl))
end
end Mine
namespace Mine

section
variable {M : Model} {A : Around} {E : Value → Shared → Prop} {s : Shared} {h₀ : Heap} {C : Addr} {m : Str → Option Value} {scope : Scope} {cl : List (Str × Addr)} {env : Env} {x : Str} {v : Value} {pos : Pos} {Q : Value → Shared → Prop}
  {news : List (Addr × Obj)} {K : Frag} {p : Program} {loose : List Str} {mean : ExcName → Option Value} {mg mb : Str → Option Value} {c : Addr} {o : Obj}
theorem nmC_L (F : Fr h₀ C s.heap m) (hv : m x = some v) (h : Q v s) (hk : (compEnvC scope cl C env).scope.kind = .function) (hx : (compEnvC scope cl C env).kindOf x = some .local) (hd : (x == ("__debug__" : Str)) = false := by decide) :
    wpAny M A (eval (.Name x pos) (compEnvC scope cl C env)) Q E s := wpAny_Name (wpAny_loadName_local hk hx F.ns hv h) hd
theorem nmC_K (F : Fr h₀ C s.heap m) (X : K.In h₀) (T : Top p loose mean mg mb h₀) (e : nsIn K mainGlobals x = some (some v)) (h : Q v s) (hk : (compEnvC scope cl C env).scope.kind = .function) (hx : (compEnvC scope cl C env).kindOf x = some .globalImplicit)
    (hg : (compEnvC scope cl C env).globals = mainGlobals) (hd : (x == ("__debug__" : Str)) = false := by decide) :
    wpAny M A (eval (.Name x pos) (compEnvC scope cl C env)) Q E s := by
  refine Name_function_global hk hx (loadGlobal_global (env := compEnvC scope cl C env) ?_ (mg_of X T.g e) h) hd
  rw [hg]
  exact T.g.keeps F.keep
theorem nmC_B (F : Fr h₀ C s.heap m) (X : K.In h₀) (T : Top p loose mean mg mb h₀) (e : nsIn K mainGlobals x = some none) (hv : bootBuiltins x = some v) (hn : x ≠ "__name__") (h : Q v s) (hk : (compEnvC scope cl C env).scope.kind = .function) (hx : (compEnvC scope cl C env).kindOf x = some .globalImplicit)
    (hg : (compEnvC scope cl C env).globals = mainGlobals) (hb : (compEnvC scope cl C env).builtins = builtinsNs) (hd : (x == ("__debug__" : Str)) = false := by decide) :
    wpAny M A (eval (.Name x pos) (compEnvC scope cl C env)) Q E s := by
  refine Name_function_global hk hx (loadGlobal_builtin (env := compEnvC scope cl C env) ?_ (mg_none_of X T.g e) ?_ ((T.builtins x hn).trans hv) h) hd
  · rw [hg]; exact T.g.keeps F.keep
  · rw [hb]; exact T.b.keeps F.keep
theorem nmC_C (F : Fr h₀ C s.heap m) (hc : cl.lookup x = some c) (ho : h₀.IsCell c (some v)) (h : Q v s)
    (hk : (compEnvC scope cl C env).scope.kind = .function) (hx : (compEnvC scope cl C env).kindOf x = some .cell) (hb : (x == ("__debug__" : Str)) = false := by decide) :
    wpAny M A (eval (.Name x pos) (compEnvC scope cl C env)) Q E s := by
  obtain ⟨o, e, hd⟩ := ho
  exact wpAny_Name (wpAny_loadName_cell hk hx hc ⟨o, F.keep _ _ e, hd⟩ h) hb
theorem stC_L {Q : Unit → Shared → Prop} (F : Fr h₀ C s.heap m) (N : News h₀ C s.heap news)
    (h : ∀ h', Fr h₀ C h' (fun y => if y = x then some v else m y) → News h₀ C h' news → Q () { s with heap := h', toks := s.toks + 1 })
    (hk : (compEnvC scope cl C env).scope.kind = .function) (hx : (compEnvC scope cl C env).kindOf x = some .local) : wpAny M A (storeName (compEnvC scope cl C env) x v) Q E s :=
  wpAny_storeName_local hx F.ns (fun h' hn hs => h h' (F.set hn hs) (N.set hs)) (by rw [hk]; rfl)
end
end Mine
namespace Mine

section
variable {prog : Program} {w : World} {A : Around} {Q : Value → Shared → Prop} {s : Shared} {env : Env} {elt target : Expr} {ifs : List Expr} {scope : Scope} {cl : List (Str × Addr)}

noncomputable def CTurn (prog : Program) (w : World) (A : Around) (elt target : Expr) (ifs : List Expr) (scope : Scope) (cl : List (Str × Addr)) (env : Env) (s : Shared) (g : Heap) (n : Nat) (P : Nat → Value → Prop) (J : Nat → List Value → List (Addr × Obj) → Prop) : Prop :=
  ∀ h₀ C D I i v ys rest oI k h m tk tk₀ (hp : Heap) E', g.StaysIn h₀ → i < n → P i v → J i ys rest → Fr h₀ C h m → News h₀ C h ((I, oI) :: (D, listOf ys.toArray k) :: rest) → I ≠ D → (∀ p ∈ rest, p.1 ≠ I ∧ p.1 ≠ D) →
      wpAny (model prog w) A (assign target (compEnvC scope cl C env) v) (fun _ s₃ =>
        wpAny (model prog w) A (forIn ifs true fun c r => if r = true then do let ok ← isTrue c (compEnvC scope cl C env) (eval c (compEnvC scope cl C env)); pure (ForInStep.yield ok) else pure (ForInStep.yield r)) (fun ok s₄ =>
          if ok = true then wpAny (model prog w) A (eval elt (compEnvC scope cl C env)) (fun x s₅ => CEnd h₀ C I oI D (listOf ys.toArray k) (J (i + 1) (ys ++ [x])) { s with heap := hp, toks := tk₀ } s₅) E' s₄
          else CEnd h₀ C I oI D (listOf ys.toArray k) (J (i + 1) ys) { s with heap := hp, toks := tk₀ } s₄) E' s₃) E' { s with heap := h, toks := tk }

theorem CompG.of {n : Nat} {P : Nat → Value → Prop} {St : Nat → Heap → Prop} {fp : List Addr} {oIt : Obj} (hid : List (Addr × Obj)) (J : Nat → List Value → List (Addr × Obj) → Prop) (W : Walks prog w A s.heap.objs.size fp [s.heap.objs.size] n P St) (hn : n ≤ sizeLine)
    (hst : St 0 (s.heap.push oIt)) (hIo : ∀ i h, St i h → ∃ o, h.get? s.heap.objs.size = some o) (hfp : ∀ b ∈ fp, b = s.heap.objs.size ∨ (∃ o, s.heap.get? b = some o) ∧ b ∉ hid.map (·.1)) (hhid : ∀ p ∈ hid, s.heap.get? p.1 = some p.2)
    (hlet : ∀ (v : Value) i (s' : Shared) (Q : Unit → Shared → Prop) (E : Value → Shared → Prop), P i v → St (i + 1) s'.heap → Q () s' → wpAny (model prog w) A (letOwnedTupleGo target (.ref s.heap.objs.size) v) Q E s')
    (hj : J 0 [] hid) (turn : CTurn prog w A elt target ifs scope cl env s (hideAll s.heap (hid.map (·.1))) n P J)
    (done : ∀ D h' tk ys rest k, J n ys rest → (hideAll s.heap (hid.map (·.1))).StaysIn h' → h'.get? D = some (listOf ys.toArray k) → s.heap.get? D = none → (∀ p ∈ rest, h'.get? p.1 = some p.2 ∧ (hideAll s.heap (hid.map (·.1))).get? p.1 = none ∧ p.1 ≠ D) → ys.length ≤ n → Q (.ref D) { s with heap := h', toks := tk }) :
    CompG prog w A elt target ifs scope cl env Q (.ref s.heap.objs.size) { s with heap := s.heap.push oIt } := by
  have up : ∀ b o, s.heap.get? b = some o → (s.heap.push oIt).get? b = some o := fun b o e => Heap.get?_push_of_some _ e
  have hI : s.heap.get? s.heap.objs.size = none := Heap.get?_none_of_le (Nat.le_refl _)
  have kg : (hideAll s.heap (hid.map (·.1))).StaysIn (hideAll (s.heap.push oIt) (s.heap.objs.size :: hid.map (·.1))) := by
    intro b o e
    refine hideAll_get _ (up _ _ (of_hideAll _ e)) fun q => ?_
    rcases List.mem_cons.mp q with rfl | q
    · have := of_hideAll _ e
      rw [hI] at this; cases this
    · rw [hideAll_none _ q] at e; cases e
  refine ⟨s.heap.objs.size, fp, n, P, St, hid, J, rfl, W, hn, hst, fun b hb => ?_, hIo, fun b hb hbI => ?_, fun p hp => ⟨up _ _ (hhid p hp), Nat.ne_of_lt (Heap.lt_size (hhid p hp))⟩, hlet, hj, ?_, ?_⟩
  · show b < (s.heap.push oIt).objs.size
    rw [Heap.size_push]
    rcases hfp b hb with rfl | ⟨⟨o, e⟩, _⟩
    · exact Nat.lt_succ_self _
    · exact Nat.lt_succ_of_lt (Heap.lt_size e)
  · rcases hfp b hb with q | ⟨⟨o, e⟩, q⟩
    · exact absurd q hbI
    · exact ⟨o, kg _ _ (hideAll_get _ e q)⟩
  · intro C D i v ys rest oI k h m tk E' hi hP hJ F N hID off
    exact turn _ C D _ i v ys rest oI k h m tk tk h E' kg hi hP hJ F N hID off
  · intro D h' tk ys rest k hJ hs hD hD0 hr hl
    refine done D h' tk ys rest k hJ (fun b o e => hs b o (kg b o e)) hD ?_ (fun p hp => ⟨(hr p hp).1, ?_, (hr p hp).2.2⟩) hl
    · cases q : s.heap.get? D with
      | none => rfl
      | some o => have := up _ _ q; rw [hD0] at this; cases this
    · exact none_back kg (hr p hp).2.1

theorem CompG.list {ax : Addr} {its : Array Value} (hid : List (Addr × Obj)) (J : Nat → List Value → List (Addr × Obj) → Prop) (hh : A.handled = none) (hl : s.heap.IsList ax its) (hax : ax ∉ hid.map (·.1)) (hhid : ∀ p ∈ hid, s.heap.get? p.1 = some p.2) (hn : its.size ≤ sizeLine)
    (htg : (∃ elts x1 pos, target = .Tuple elts x1 pos ∧ ∀ (i : Nat) (v : Value), its[i]? = some v → ∃ T, v = .ref T) ∨ ∀ it v, letOwnedTupleGo target it v = pure ())
    (hj : J 0 [] hid) (turn : CTurn prog w A elt target ifs scope cl env s (hideAll s.heap (hid.map (·.1))) its.size (fun i v => its[i]? = some v) J)
    (done : ∀ D h' tk ys rest k, J its.size ys rest → (hideAll s.heap (hid.map (·.1))).StaysIn h' → h'.get? D = some (listOf ys.toArray k) → s.heap.get? D = none → (∀ p ∈ rest, h'.get? p.1 = some p.2 ∧ (hideAll s.heap (hid.map (·.1))).get? p.1 = none ∧ p.1 ≠ D) → ys.length ≤ its.size → Q (.ref D) { s with heap := h', toks := tk }) :
    CompG prog w A elt target ifs scope cl env Q (.ref s.heap.objs.size) { s with heap := s.heap.push { cls := .type "list_iterator", data := .fields #[.ref ax, .int 0 0] } } := by
  have hlt : ax < s.heap.objs.size := by obtain ⟨_, e, _⟩ := hl; exact Heap.lt_size e
  refine CompG.of hid J (Walks.list hh s.heap.objs.size ax (Nat.ne_of_lt hlt) its) hn ⟨⟨_, Heap.get?_push_size _ rfl, rfl, rfl⟩, hl.push _⟩ (fun i h st => by obtain ⟨o, e, _⟩ := st.1; exact ⟨o, e⟩) (fun b hb => ?_) hhid ?_ hj turn done
  · simp only [List.mem_cons, List.not_mem_nil, or_false] at hb
    rcases hb with rfl | rfl
    · exact .inl rfl
    · obtain ⟨o, e, _⟩ := hl
      exact .inr ⟨⟨o, e⟩, hax⟩
  · intro v i s' Q' E' hP hst hQ
    rcases htg with ⟨elts, x1, pos, rfl, hT⟩ | hp
    · obtain ⟨T, rfl⟩ := hT i v hP
      exact wpAny_letOwnedTupleGo_listiter hst.1 hQ
    · exact wpAny_of_eq (hp _ _) hQ

theorem CompG.tuple {ax : Addr} {its : Array Value} (hid : List (Addr × Obj)) (J : Nat → List Value → List (Addr × Obj) → Prop) (hh : A.handled = none) (hl : s.heap.IsTuple ax its) (hax : ax ∉ hid.map (·.1)) (hhid : ∀ p ∈ hid, s.heap.get? p.1 = some p.2) (hn : its.size ≤ sizeLine)
    (htg : ∀ it v, letOwnedTupleGo target it v = pure ())
    (hj : J 0 [] hid) (turn : CTurn prog w A elt target ifs scope cl env s (hideAll s.heap (hid.map (·.1))) its.size (fun i v => its[i]? = some v) J)
    (done : ∀ D h' tk ys rest k, J its.size ys rest → (hideAll s.heap (hid.map (·.1))).StaysIn h' → h'.get? D = some (listOf ys.toArray k) → s.heap.get? D = none → (∀ p ∈ rest, h'.get? p.1 = some p.2 ∧ (hideAll s.heap (hid.map (·.1))).get? p.1 = none ∧ p.1 ≠ D) → ys.length ≤ its.size → Q (.ref D) { s with heap := h', toks := tk }) :
    CompG prog w A elt target ifs scope cl env Q (.ref s.heap.objs.size) { s with heap := s.heap.push { cls := .type "tuple_iterator", data := .fields #[.ref ax, .int 0 0] } } := by
  have hlt : ax < s.heap.objs.size := by obtain ⟨_, e, _⟩ := hl; exact Heap.lt_size e
  refine CompG.of hid J (Walks.tuple hh s.heap.objs.size ax (Nat.ne_of_lt hlt) its) hn ⟨⟨_, Heap.get?_push_size _ rfl, rfl, rfl⟩, hl.at fun o e => Heap.get?_push_of_some _ e⟩ (fun i h st => by obtain ⟨o, e, _⟩ := st.1; exact ⟨o, e⟩) (fun b hb => ?_) hhid ?_ hj turn done
  · simp only [List.mem_cons, List.not_mem_nil, or_false] at hb
    rcases hb with rfl | rfl
    · exact .inl rfl
    · obtain ⟨o, e, _⟩ := hl
      exact .inr ⟨⟨o, e⟩, hax⟩
  · intro v i s' Q' E' hP hst hQ
    exact wpAny_of_eq (htg _ _) hQ
end
end Mine
namespace Mine

theorem fillMA : (fun (_ : OpenLaw) (_ : Params → Frag) => True) PySem.Challenge.rw_pc0124_01 hd.heap_39 := by
  w_top off
  k_fill
  trivial


-- a divisor that is not 0
local macro_rules | `(tactic| walk_at "binaryOp FloorDiv int int") => `(tactic| (refine fdivR ?hne ?hbd ?_; (case hne => assumption); (case hbd => assumption)))
local macro_rules | `(tactic| walk_at "binaryOp Mult int int") => `(tactic| (refine mulR ?hm ?_; (case hm => assumption)))

theorem cutq_spec {w : World} {p : Program} {loose : List Str} {mean : ExcName → Option Value} {mg mb : Str → Option Value} {s : Shared} {dp un : Nat} {gd : Option (List Code)} {fr : Option (List Env)} {Q E : Value → Shared → Prop} {top bottom : Int} {t1 t2 : Tok} (X : (hd.heap_39 w.params).In s.heap) (T : Top p loose mean mg mb s.heap) (hd : dp < recursionLimit) (hb : bottom ≠ 0) (hbd : Bd 9000 bottom)
    (hret : ∀ h' tk t', Heap.StaysIn s.heap h' → Q (.int (cut top bottom) t') { s with heap := h', toks := tk }) :
    wpAny (model PR w) (topA dp un gd fr) (call (.ref 62) [.int top t1, .int bottom t2]) Q E s := by
  have hb' := abs_ne hb
  have hbd' := hbd.abs
  refine' enter (binds := [(Str.ofString "top", .int top t1), (Str.ofString "bottom", .int bottom t2)]) X T ?k1 ?k2 ?k3 ?k4 ?k5 ?_ ?c2 ?c3 ?c4 ?c5
  case k1 => k_is
  case k2 => k_is
  case k3 => (first | assumption | ((try simp only [topA, depth_deeper] at *); (first | lia | omega)))
  case k4 => first | exact BindsTo.of_eq rfl | exact binds_K (by k_in) rfl (by k_is) rfl rfl rfl
  case k5 => exact locs rfl
  case c2 => exact rfl
  case c3 => exact rfl
  case c4 => exact rfl
  case c5 => decide
  intro L h₁ F N hL
  refine wpAny_noRaise ?_
  try dsimp only
  try k_fold
  k_steps
  all_goals (rename (_ != _) = _ => hc)
  · rw [fdiv_cut _ _ hb, ← cut_neg _ _ hc]
    exact hret _ _ _ (Fr.keep (by assumption))
  · rw [fdiv_cut _ _ hb, ← cut_pos _ _ hc]
    exact hret _ _ _ (Fr.keep (by assumption))

theorem lawcut_spec {w : World} {p : Program} {loose : List Str} {mean : ExcName → Option Value} {mg mb : Str → Option Value} {s : Shared} {dp un : Nat} {gd : Option (List Code)} {fr : Option (List Env)} {Q E : Value → Shared → Prop} {top bottom : Int} {t1 t2 : Tok} (X : (hd.heap_39 w.params).In s.heap) (T : Top p loose mean mg mb s.heap) (hd : dp < recursionLimit) (hb : bottom ≠ 0) (hbd : Bd 9000 bottom)
    (hret : ∀ h' tk t', Heap.StaysIn s.heap h' → Q (.int (cut top bottom) t') { s with heap := h', toks := tk }) :
    wpAny (model PR w) (topA dp un gd fr) (call (.ref 207) [.int top t1, .int bottom t2]) Q E s := by
  have hb' := abs_ne hb
  have hbd' := hbd.abs
  refine' enter (binds := [(Str.ofString "top", .int top t1), (Str.ofString "bottom", .int bottom t2)]) X T ?k1 ?k2 ?k3 ?k4 ?k5 ?_ ?c2 ?c3 ?c4 ?c5
  case k1 => k_is
  case k2 => k_is
  case k3 => (first | assumption | ((try simp only [topA, depth_deeper] at *); (first | lia | omega)))
  case k4 => first | exact BindsTo.of_eq rfl | exact binds_K (by k_in) rfl (by k_is) rfl rfl rfl
  case k5 => exact locs rfl
  case c2 => exact rfl
  case c3 => exact rfl
  case c4 => exact rfl
  case c5 => decide
  intro L h₁ F N hL
  refine wpAny_noRaise ?_
  try dsimp only
  try k_fold
  k_steps
  all_goals (rename (_ != _) = _ => hc)
  · dsimp only
    rw [fdiv_cut _ _ hb, ← cut_neg _ _ hc]
    exact hret _ _ _ (Fr.keep (by assumption))
  · dsimp only
    rw [fdiv_cut _ _ hb, ← cut_pos _ _ hc]
    exact hret _ _ _ (Fr.keep (by assumption))

theorem fits_spec {w : World} {p : Program} {loose : List Str} {mean : ExcName → Option Value} {mg mb : Str → Option Value} {s : Shared} {dp un : Nat} {gd : Option (List Code)} {fr : Option (List Env)} {Q E : Value → Shared → Prop} {u : Int} {t1 t2 : Tok} (X : (hd.heap_39 w.params).In s.heap) (T : Top p loose mean mg mb s.heap) (hd : dp < recursionLimit)
    (hret : ∀ h' tk, Heap.StaysIn s.heap h' → Q (.bool (decide (u.natAbs < 10 ^ 120))) { s with heap := h', toks := tk }) :
    wpAny (model PR w) (topA dp un gd fr) (call (.ref 134) [.int u t1, .int 120 t2]) Q E s := by
  refine' enter (binds := [(Str.ofString "units", .int u t1), (Str.ofString "digits", .int 120 t2)]) X T ?k1 ?k2 ?k3 ?k4 ?k5 ?_ ?c2 ?c3 ?c4 ?c5
  case k1 => k_is
  case k2 => k_is
  case k3 => (first | assumption | ((try simp only [topA, depth_deeper] at *); (first | lia | omega)))
  case k4 => first | exact BindsTo.of_eq rfl | exact binds_K (by k_in) rfl (by k_is) rfl rfl rfl
  case k5 => exact locs rfl
  case c2 => exact rfl
  case c3 => exact rfl
  case c4 => exact rfl
  case c5 => decide
  intro L h₁ F N hL
  refine wpAny_noRaise ?_
  try dsimp only
  try k_fold
  k_steps
  have e : decide ((if u < 0 then -u else u) < (10 : Int) ^ Int.toNat 120) = decide (u.natAbs < 10 ^ 120) := by
    refine decide_eq_decide.mpr ?_
    show (if u < 0 then -u else u) < (10 : Int) ^ 120 ↔ _
    split <;> omega
  rw [e]
  exact hret _ _ (Fr.keep (by assumption))

theorem decimal_spec {w : World} {p : Program} {loose : List Str} {mean : ExcName → Option Value} {mg mb : Str → Option Value} {s : Shared} {dp un : Nat} {gd : Option (List Code)} {fr : Option (List Env)} {Q E : Value → Shared → Prop} {u : Int} {n : Nat} {t1 t2 : Tok} (X : (hd.heap_39 w.params).In s.heap) (T : Top p loose mean mg mb s.heap) (hd : dp < recursionLimit)
    (hret : ∀ h' tk v, Heap.StaysIn s.heap h' → Reads h' v (numD (norm u n)) [] → Q v { s with heap := h', toks := tk }) :
    wpAny (model PR w) (topA dp un gd fr) (call (.ref 70) [.int u t1, .int (n : Int) t2]) Q E s := by
  refine' enter (binds := [(Str.ofString "units", .int u t1), (Str.ofString "scale", .int (n : Int) t2)]) X T ?k1 ?k2 ?k3 ?k4 ?k5 ?_ ?c2 ?c3 ?c4 ?c5
  case k1 => k_is
  case k2 => k_is
  case k3 => (first | assumption | ((try simp only [topA, depth_deeper] at *); (first | lia | omega)))
  case k4 => first | exact BindsTo.of_eq rfl | exact binds_K (by k_in) rfl (by k_is) rfl rfl rfl
  case k5 => exact locs rfl
  case c2 => exact rfl
  case c3 => exact rfl
  case c4 => exact rfl
  case c5 => decide
  intro L h₁ F N hL
  refine wpAny_noRaise ?_
  try dsimp only
  try k_fold
  k_with_none
  k_with "exec While" => (refine' While_inv (fun k m news => news = [] ∧ ∃ u' a b, m = mOf [(Str.ofString "scale", .int (k : Int) b), (Str.ofString "units", .int u' a)] ∧ norm u' k = norm u n) (n₀ := n) F N ⟨rfl, u, t1, t2, rfl, rfl⟩ ?_; (clear F N; rintro k m₁ news₁ h₁ tk₁ F₁ N₁ ⟨rfl, u', a, b, rfl, hJ⟩))
  k_steps
  · omega
  · rename Fr _ _ _ _ => F9
    obtain ⟨k', rfl, hk, hn⟩ := norm_go (by assumption) (by assumption)
    rw [hk] at F9
    refine WhileStep.intro (fr_set2 F9) News.nil (Nat.lt_succ_self k') ⟨rfl, _, _, _, rfl, hn.trans hJ⟩
  · try k_unfold
    try dsimp only
    rw [norm_stop (.inr (by assumption))] at hJ
    refine hret _ _ _ (Fr.keep (by assumption)) ?_
    rw [← hJ]
    exact num_close (News.isTup (by assumption) (.head _))
  · try k_unfold
    try dsimp only
    rw [norm_stop (.inl (by assumption))] at hJ
    refine hret _ _ _ (Fr.keep (by assumption)) ?_
    rw [← hJ]
    exact num_close (News.isTup (by assumption) (.head _))

end Mine
namespace Mine
local macro_rules | `(tactic| walk_at "binaryOp FloorDiv int int") => `(tactic| (k_dflt (refine fdivR (by first | with_reducible assumption | decide) (by first | with_reducible assumption | exact bd_10) ?_)))
local macro_rules | `(tactic| walk_at "binaryOp Mult int int") => `(tactic| (k_dflt (refine mulR (by with_reducible assumption) ?_)))
local macro_rules | `(tactic| walk_at "subscriptTail") => `(tactic| ((with_reducible show wpAny _ _ (subscriptTail _ _ (Value.ref _) (Value.int _ _)) _ _ _); (rename Fr _ _ _ _ => F9); k_dflt (refine item_h F9 (by with_reducible assumption) (by rfl) (by rfl) ?_)))
local macro_rules | `(tactic| walk_at "binaryOp Pow int int") => `(tactic| (k_dflt (refine pow10R (by first | with_reducible assumption | decide | omega) (by first | with_reducible assumption | decide | omega) ?_)))
local macro_rules | `(tactic| walk_at "ite") => `(tactic| ((try dsimp only); first
  | (k_closed; k_dflt (first | refine ite_pos (by decide) ?_ | refine ite_neg (by decide) ?_))
  | with_reducible refine ite_tt ?_
  | with_reducible refine ite_ff ?_
  | refine ite_pos (by with_reducible assumption) ?_
  | refine ite_neg (by with_reducible assumption) ?_
  | refine ite_isFalse (by with_reducible assumption) ?_
  | refine ite_pos (by first | omega | ((simp only [decide_eq_true_eq, beq_iff_eq, bne_iff_ne, ne_eq]); omega)) ?_
  | refine ite_neg (by first | omega | ((simp only [decide_eq_true_eq, beq_iff_eq, bne_iff_ne, ne_eq]); omega)) ?_))
local macro_rules | `(tactic| walk_at "callWith") => `(tactic| first | with_reducible refine callWith_method0 ?_ | with_reducible refine callWith_method1 ?_)
section
theorem fillMA2 : (fun (_ : OpenLaw) (_ : Params → Frag) => True) PySem.Challenge.rw_pc0124_01 hd.heap_39 := by
  w_top off
  k_fill
  trivial




theorem least_spec {w : World} {p : Program} {loose : List Str} {mean : ExcName → Option Value} {mg mb : Str → Option Value} {s : Shared} {dp un : Nat} {gd : Option (List Code)} {fr : Option (List Env)} {Q E : Value → Shared → Prop} {u : Int} {n : Nat} {t1 t2 : Tok} (X : (hd.heap_39 w.params).In s.heap) (T : Top p loose mean mg mb s.heap) (hd : dp < recursionLimit) (hn : n ≤ 30)
    (hret : ∀ h' tk v, Heap.StaysIn s.heap h' → Reads h' v (numD (norm u n)) [] → Q v { s with heap := h', toks := tk }) :
    wpAny (model PR w) (topA dp un gd fr) (call (.ref 214) [.int u t1, .int (n : Int) t2]) Q E s := by
  refine' enter (binds := [(Str.ofString "units", .int u t1), (Str.ofString "behind", .int (n : Int) t2)]) X T ?k1 ?k2 ?k3 ?k4 ?k5 ?_ ?c2 ?c3 ?c4 ?c5
  case k1 => k_is
  case k2 => k_is
  case k3 => (first | assumption | ((try simp only [topA, depth_deeper] at *); (first | lia | omega)))
  case k4 => first | exact BindsTo.of_eq rfl | exact binds_K (by k_in) rfl (by k_is) rfl rfl rfl
  case k5 => exact locs rfl
  case c2 => exact rfl
  case c3 => exact rfl
  case c4 => exact rfl
  case c5 => decide
  intro L h₁ F N hL
  refine wpAny_noRaise ?_
  try dsimp only
  try k_fold
  k_with_none
  k_with "exec While" => (refine' While_inv (fun k m news => news = [] ∧ ∃ u' a b, m = mOf [(Str.ofString "behind", .int (k : Int) b), (Str.ofString "units", .int u' a)] ∧ norm u' k = norm u n) (n₀ := n) F N ⟨rfl, u, t1, t2, rfl, rfl⟩ ?_; (clear F N; rintro k m₁ news₁ h₁ tk₁ F₁ N₁ ⟨rfl, u', a, b, rfl, hJ⟩))
  k_steps
  · rename Fr _ _ _ _ => F9
    obtain ⟨k', rfl, hk, hn⟩ := norm_go (by assumption) (by assumption)
    rw [hk] at F9
    refine WhileStep.intro (fr_set2 F9) News.nil (Nat.lt_succ_self k') ⟨rfl, _, _, _, rfl, hn.trans hJ⟩
  · try k_unfold
    try dsimp only
    rw [norm_stop (.inr (by assumption))] at hJ
    refine hret _ _ _ (Fr.keep (by assumption)) ?_
    rw [← hJ]
    exact num_close (News.isTup (by assumption) (.head _))
  · try k_unfold
    try dsimp only
    rw [norm_stop (.inl (by assumption))] at hJ
    refine hret _ _ _ (Fr.keep (by assumption)) ?_
    rw [← hJ]
    exact num_close (News.isTup (by assumption) (.head _))

theorem neg_spec {w : World} {p : Program} {loose : List Str} {mean : ExcName → Option Value} {mg mb : Str → Option Value} {s : Shared} {dp un : Nat} {gd : Option (List Code)} {fr : Option (List Env)} {Q E : Value → Shared → Prop} {v : Value} {x : Num} (X : (hd.heap_39 w.params).In s.heap) (T : Top p loose mean mg mb s.heap) (hd : dp < recursionLimit) (hv : Reads s.heap v (numD x) [])
    (hret : ∀ h' tk v, Heap.StaysIn s.heap h' → Reads h' v (numD (negO x)) [] → Q v { s with heap := h', toks := tk }) :
    wpAny (model PR w) (topA dp un gd fr) (call (.ref 112) [v]) Q E s := by
  obtain ⟨a, t1, t2, rfl, hI⟩ := num_open hv
  refine' enter (binds := [(Str.ofString "a", .ref a)]) X T ?k1 ?k2 ?k3 ?k4 ?k5 ?_ ?c2 ?c3 ?c4 ?c5
  case k1 => k_is
  case k2 => k_is
  case k3 => (first | assumption | ((try simp only [topA, depth_deeper] at *); (first | lia | omega)))
  case k4 => first | exact BindsTo.of_eq rfl | exact binds_K (by k_in) rfl (by k_is) rfl rfl rfl
  case k5 => exact locs rfl
  case c2 => exact rfl
  case c3 => exact rfl
  case c4 => exact rfl
  case c5 => decide
  intro L h₁ F N hL
  refine wpAny_noRaise ?_
  try dsimp only
  try k_fold
  k_with_none
  k_steps
  try k_unfold
  exact hret _ _ _ (Fr.keep (by assumption)) (num_close (x := negO x) (News.isTup (by assumption) (.head _)))

theorem max_facts {a b : Nat} (ha : a ≤ 30) (hb : b ≤ 30) : (if (b : Int) > (a : Int) then (b : Int) else (a : Int)) = ((max a b : Nat) : Int) ∧ ((if (b : Int) > (a : Int) then (b : Int) else (a : Int)) - (a : Int)).toNat = max a b - a ∧ ((if (b : Int) > (a : Int) then (b : Int) else (a : Int)) - (b : Int)).toNat = max a b - b ∧
    0 ≤ (if (b : Int) > (a : Int) then (b : Int) else (a : Int)) - (a : Int) ∧ 0 ≤ (if (b : Int) > (a : Int) then (b : Int) else (a : Int)) - (b : Int) ∧ (if (b : Int) > (a : Int) then (b : Int) else (a : Int)) - (a : Int) ≤ 1000 ∧ (if (b : Int) > (a : Int) then (b : Int) else (a : Int)) - (b : Int) ≤ 1000 := by
  rcases Nat.le_total a b with h | h
  · rw [Nat.max_eq_right h]
    have e : (if (b : Int) > (a : Int) then (b : Int) else (a : Int)) = (b : Int) := by split <;> omega
    rw [e]
    refine ⟨rfl, ?_, ?_, ?_, ?_, ?_, ?_⟩ <;> omega
  · rw [Nat.max_eq_left h]
    have e : (if (b : Int) > (a : Int) then (b : Int) else (a : Int)) = (a : Int) := by split <;> omega
    rw [e]
    refine ⟨rfl, ?_, ?_, ?_, ?_, ?_, ?_⟩ <;> omega
theorem max_mul {n : Nat} {x y : Num} (hx : x.2 ≤ 30) (hy : y.2 ≤ 30) (hn : n ≤ 100000) (h1 : Bd n x.1) (h2 : Bd n y.1) : IntMulOk x.1 (10 ^ ((if (y.2 : Int) > (x.2 : Int) then (y.2 : Int) else (x.2 : Int)) - (x.2 : Int)).toNat) ∧ IntMulOk y.1 (10 ^ ((if (y.2 : Int) > (x.2 : Int) then (y.2 : Int) else (x.2 : Int)) - (y.2 : Int)).toNat) := by
  have M := max_facts hx hy
  rw [M.2.1, M.2.2.1]
  have hb : n + (4 * 30 + 1) ≤ 2 ^ 27 := Nat.le_trans (Nat.add_le_add_right hn _) (by decide)
  have k1 : max x.2 y.2 - x.2 ≤ 30 := Nat.le_trans (Nat.sub_le _ _) (Nat.max_le.mpr ⟨hx, hy⟩)
  have k2 : max x.2 y.2 - y.2 ≤ 30 := Nat.le_trans (Nat.sub_le _ _) (Nat.max_le.mpr ⟨hx, hy⟩)
  exact ⟨h1.ok (Bd.pow10 _) (Nat.le_trans (Nat.add_le_add_left (Nat.add_le_add_right (Nat.mul_le_mul_left 4 k1) 1) n) hb), h2.ok (Bd.pow10 _) (Nat.le_trans (Nat.add_le_add_left (Nat.add_le_add_right (Nat.mul_le_mul_left 4 k2) 1) n) hb)⟩
theorem beside_spec {w : World} {p : Program} {loose : List Str} {mean : ExcName → Option Value} {mg mb : Str → Option Value} {s : Shared} {dp un : Nat} {gd : Option (List Code)} {fr : Option (List Env)} {Q E : Value → Shared → Prop} {v1 v2 : Value} {x y : Num} {n : Nat} (X : (hd.heap_39 w.params).In s.heap) (T : Top p loose mean mg mb s.heap) (hd : dp < recursionLimit) (hv1 : Reads s.heap v1 (numD x) []) (hv2 : Reads s.heap v2 (numD y) []) (hb1 : Bd n x.1) (hb2 : Bd n y.1) (hn : n ≤ 100000) (hx : x.2 ≤ 30) (hy : y.2 ≤ 30)
    (hret : ∀ h' tk a, Heap.StaysIn s.heap h' → (∃ t1 t2 t3, IsTup h' a [.int (x.1 * 10 ^ (max x.2 y.2 - x.2)) t1, .int (y.1 * 10 ^ (max x.2 y.2 - y.2)) t2, .int (max x.2 y.2 : Nat) t3].toArray) → Q (.ref a) { s with heap := h', toks := tk }) :
    wpAny (model PR w) (topA dp un gd fr) (call (.ref 84) [v1, v2]) Q E s := by
  obtain ⟨a, t1, t2, rfl, hI⟩ := num_open hv1
  obtain ⟨b, t3, t4, rfl, hI2⟩ := num_open hv2
  have M9 := max_facts hx hy
  have e0 := M9.1
  have e1 := M9.2.1
  have e2 := M9.2.2.1
  have hq1 := M9.2.2.2.1
  have hq2 := M9.2.2.2.2.1
  have hq3 := M9.2.2.2.2.2.1
  have hq4 := M9.2.2.2.2.2.2
  have M8 := max_mul hx hy hn hb1 hb2
  have hm1 := M8.1
  have hm2 := M8.2
  clear M9 M8
  refine' enter (binds := [(Str.ofString "a", .ref a), (Str.ofString "b", .ref b)]) X T ?k1 ?k2 ?k3 ?k4 ?k5 ?_ ?c2 ?c3 ?c4 ?c5
  case k1 => k_is
  case k2 => k_is
  case k3 => (first | assumption | ((try simp only [topA, depth_deeper] at *); (first | lia | omega)))
  case k4 => first | exact BindsTo.of_eq rfl | exact binds_K (by k_in) rfl (by k_is) rfl rfl rfl
  case k5 => exact locs rfl
  case c2 => exact rfl
  case c3 => exact rfl
  case c4 => exact rfl
  case c5 => decide
  intro L h₁ F N hL
  refine wpAny_noRaise ?_
  try dsimp only
  try k_fold
  k_with_none
  k_steps
  try k_unfold
  try dsimp only
  refine hret _ _ _ (Fr.keep (by assumption)) ?_
  rw [← e1, ← e2, ← e0]
  exact ⟨_, _, _, News.isTup (by assumption) (.head _)⟩

theorem plus_spec {w : World} {p : Program} {loose : List Str} {mean : ExcName → Option Value} {mg mb : Str → Option Value} {s : Shared} {dp un : Nat} {gd : Option (List Code)} {fr : Option (List Env)} {Q E : Value → Shared → Prop} {v1 v2 : Value} {x y : Num} {n : Nat} (X : (hd.heap_39 w.params).In s.heap) (T : Top p loose mean mg mb s.heap) (hd : dp + 1 < recursionLimit) (hv1 : Reads s.heap v1 (numD x) []) (hv2 : Reads s.heap v2 (numD y) []) (hb1 : Bd n x.1) (hb2 : Bd n y.1) (hn : n ≤ 100000) (hx : x.2 ≤ 30) (hy : y.2 ≤ 30)
    (hret : ∀ h' tk v, Heap.StaysIn s.heap h' → Reads h' v (numD (addO x y)) [] → Q v { s with heap := h', toks := tk }) :
    wpAny (model PR w) (topA dp un gd fr) (call (.ref 91) [v1, v2]) Q E s := by
  refine' enter (binds := [(Str.ofString "a", v1), (Str.ofString "b", v2)]) X T ?k1 ?k2 ?k3 ?k4 ?k5 ?_ ?c2 ?c3 ?c4 ?c5
  case k1 => k_is
  case k2 => k_is
  case k3 => (first | assumption | ((try simp only [topA, depth_deeper] at *); (first | lia | omega)))
  case k4 => first | exact BindsTo.of_eq rfl | exact binds_K (by k_in) rfl (by k_is) rfl rfl rfl
  case k5 => exact locs rfl
  case c2 => exact rfl
  case c3 => exact rfl
  case c4 => exact rfl
  case c5 => decide
  intro L h₁ F N hL
  refine wpAny_noRaise ?_
  try dsimp only
  try k_fold
  k_with_none
  k_with "call ref" => (rename Fr _ _ _ _ => F9; rename News _ _ _ _ => N9; refine' beside_spec (Frag.In.keeps X F9.keep) (T.keeps F9.keep) ?hd (Rd.stays hv1 F9.keep) (Rd.stays hv2 F9.keep) hb1 hb2 hn hx hy ?_; (case hd => first | (first | lia | omega) | ((simp only [topA]); (first | lia | omega))); (rintro h2 tk2 a2 hS ⟨t1, t2, t3, hI⟩; have F2 := F9.keeps hS; have N2 := N9.grown hS; clear F9 N9; (try dsimp only); skip; (try k_fold)))
  k_with "call ref" => (rename Fr _ _ _ _ => F9; rename News _ _ _ _ => N9; refine' decimal_spec (Frag.In.keeps X F9.keep) (T.keeps F9.keep) ?hd ?_; (case hd => first | (first | lia | omega) | ((simp only [topA]); (first | lia | omega))); (rintro h2 tk2 v2 hS hI; have F2 := F9.keeps hS; have N2 := N9.grown hS; clear F9 N9; (try dsimp only); skip; (try k_fold)))
  k_steps
  try k_unfold
  try dsimp only
  exact hret _ _ _ (Fr.keep (by assumption)) hI

theorem minus_spec {w : World} {p : Program} {loose : List Str} {mean : ExcName → Option Value} {mg mb : Str → Option Value} {s : Shared} {dp un : Nat} {gd : Option (List Code)} {fr : Option (List Env)} {Q E : Value → Shared → Prop} {v1 v2 : Value} {x y : Num} {n : Nat} (X : (hd.heap_39 w.params).In s.heap) (T : Top p loose mean mg mb s.heap) (hd : dp + 1 < recursionLimit) (hv1 : Reads s.heap v1 (numD x) []) (hv2 : Reads s.heap v2 (numD y) []) (hb1 : Bd n x.1) (hb2 : Bd n y.1) (hn : n ≤ 100000) (hx : x.2 ≤ 30) (hy : y.2 ≤ 30)
    (hret : ∀ h' tk v, Heap.StaysIn s.heap h' → Reads h' v (numD (subO x y)) [] → Q v { s with heap := h', toks := tk }) :
    wpAny (model PR w) (topA dp un gd fr) (call (.ref 98) [v1, v2]) Q E s := by
  refine' enter (binds := [(Str.ofString "a", v1), (Str.ofString "b", v2)]) X T ?k1 ?k2 ?k3 ?k4 ?k5 ?_ ?c2 ?c3 ?c4 ?c5
  case k1 => k_is
  case k2 => k_is
  case k3 => (first | assumption | ((try simp only [topA, depth_deeper] at *); (first | lia | omega)))
  case k4 => first | exact BindsTo.of_eq rfl | exact binds_K (by k_in) rfl (by k_is) rfl rfl rfl
  case k5 => exact locs rfl
  case c2 => exact rfl
  case c3 => exact rfl
  case c4 => exact rfl
  case c5 => decide
  intro L h₁ F N hL
  refine wpAny_noRaise ?_
  try dsimp only
  try k_fold
  k_with_none
  k_with "call ref" => (rename Fr _ _ _ _ => F9; rename News _ _ _ _ => N9; refine' beside_spec (Frag.In.keeps X F9.keep) (T.keeps F9.keep) ?hd (Rd.stays hv1 F9.keep) (Rd.stays hv2 F9.keep) hb1 hb2 hn hx hy ?_; (case hd => first | (first | lia | omega) | ((simp only [topA]); (first | lia | omega))); (rintro h2 tk2 a2 hS ⟨t1, t2, t3, hI⟩; have F2 := F9.keeps hS; have N2 := N9.grown hS; clear F9 N9; (try dsimp only); skip; (try k_fold)))
  k_with "call ref" => (rename Fr _ _ _ _ => F9; rename News _ _ _ _ => N9; refine' decimal_spec (Frag.In.keeps X F9.keep) (T.keeps F9.keep) ?hd ?_; (case hd => first | (first | lia | omega) | ((simp only [topA]); (first | lia | omega))); (rintro h2 tk2 v2 hS hI; have F2 := F9.keeps hS; have N2 := N9.grown hS; clear F9 N9; (try dsimp only); skip; (try k_fold)))
  k_steps
  try k_unfold
  try dsimp only
  exact hret _ _ _ (Fr.keep (by assumption)) hI
end
section
theorem fillMA3 : (fun (_ : OpenLaw) (_ : Params → Frag) => True) PySem.Challenge.rw_pc0124_01 hd.heap_39 := by
  w_top off
  k_fill
  trivial




noncomputable def optD : Option Num → PyData
  | none => .none
  | some x => numD x
theorem pow10_ne (n : Nat) : (10 : Int) ^ n ≠ 0 := Int.pow_ne_zero (by decide)
theorem opt_none {h : Heap} {v : Value} (r : Reads h v (optD none) []) : v = .none := reads_none r

theorem abs_big (c : Int) : (10 : Int) ^ Int.toNat 120 ≤ (if c < 0 then -c else c) ↔ ¬ c.natAbs < 10 ^ 120 := by
  show (10 : Int) ^ 120 ≤ _ ↔ _
  split <;> (first | lia | omega)
theorem keptO_big {u : Int} {a b : Nat} (h : (30 : Int) < (a : Int) + (b : Int)) : keptO u (a + b) =
    if (cut u (10 ^ ((a : Int) + (b : Int) - 30).toNat)).natAbs < 10 ^ 120 then some (norm (cut u (10 ^ ((a : Int) + (b : Int) - 30).toNat)) 30) else none := by
  have e : ((a : Int) + (b : Int) - 30).toNat = a + b - 30 := by (first | lia | omega)
  unfold keptO shrink
  rw [if_pos (by (first | lia | omega) : a + b > 30), e]
theorem keptO_small {u : Int} {a b : Nat} (h : ¬ (30 : Int) < (a : Int) + (b : Int)) : keptO u (a + b) =
    if u.natAbs < 10 ^ 120 then some (norm u (a + b)) else none := by
  unfold keptO shrink
  rw [if_neg (by (first | lia | omega) : ¬ a + b > 30)]

theorem lawtimes_spec {w : World} {p : Program} {loose : List Str} {mean : ExcName → Option Value} {mg mb : Str → Option Value} {s : Shared} {dp un : Nat} {gd : Option (List Code)} {fr : Option (List Env)} {Q E : Value → Shared → Prop} {v1 v2 : Value} {x y : Option Num} {n : Nat} (X : (hd.heap_39 w.params).In s.heap) (T : Top p loose mean mg mb s.heap) (hd : dp + 1 < recursionLimit) (hv1 : Reads s.heap v1 (optD x) []) (hv2 : Reads s.heap v2 (optD y) []) (hb1 : ∀ a, x = some a → Bd n a.1 ∧ a.2 ≤ 30) (hb2 : ∀ a, y = some a → Bd n a.1 ∧ a.2 ≤ 30) (hn : n ≤ 100000)
    (hret : ∀ h' tk v, Heap.StaysIn s.heap h' → Reads h' v (optD (x.bind fun a => y.bind fun b => timesO a b)) [] → Q v { s with heap := h', toks := tk }) :
    wpAny (model PR w) (topA dp un gd fr) (call (.ref 221) [v1, v2]) Q E s := by
  cases x with
  | none =>
    obtain rfl := opt_none hv1
    refine' enter (binds := [(Str.ofString "left", .none), (Str.ofString "right", v2)]) X T ?k1 ?k2 ?k3 ?k4 ?k5 ?_ ?c2 ?c3 ?c4 ?c5
    case k1 => k_is
    case k2 => k_is
    case k3 => (first | assumption | ((try simp only [topA, depth_deeper] at *); (first | lia | omega)))
    case k4 => first | exact BindsTo.of_eq rfl | exact binds_K (by k_in) rfl (by k_is) rfl rfl rfl
    case k5 => exact locs rfl
    case c2 => exact rfl
    case c3 => exact rfl
    case c4 => exact rfl
    case c5 => decide
    intro L h₁ F N hL
    refine wpAny_noRaise ?_
    try dsimp only
    try k_fold
    k_with_none
    k_steps
    try k_unfold
    try dsimp only
    exact hret _ _ _ (Fr.keep (by assumption)) .none
  | some x =>
  cases y with
  | none =>
    obtain ⟨a, t1, t2, rfl, hI⟩ := num_open hv1
    obtain rfl := opt_none hv2
    refine' enter (binds := [(Str.ofString "left", .ref a), (Str.ofString "right", .none)]) X T ?k1 ?k2 ?k3 ?k4 ?k5 ?_ ?c2 ?c3 ?c4 ?c5
    case k1 => k_is
    case k2 => k_is
    case k3 => (first | assumption | ((try simp only [topA, depth_deeper] at *); (first | lia | omega)))
    case k4 => first | exact BindsTo.of_eq rfl | exact binds_K (by k_in) rfl (by k_is) rfl rfl rfl
    case k5 => exact locs rfl
    case c2 => exact rfl
    case c3 => exact rfl
    case c4 => exact rfl
    case c5 => decide
    intro L h₁ F N hL
    refine wpAny_noRaise ?_
    try dsimp only
    try k_fold
    k_with_none
    k_steps
    try k_unfold
    try dsimp only
    exact hret _ _ _ (Fr.keep (by assumption)) .none
  | some y =>
    obtain ⟨a, t1, t2, rfl, hI⟩ := num_open hv1
    obtain ⟨b, t3, t4, rfl, hI2⟩ := num_open hv2
    obtain ⟨hbx, hx⟩ := hb1 x rfl
    obtain ⟨hby, hy⟩ := hb2 y rfl
    have hm : IntMulOk x.1 y.1 := hbx.ok hby (by (first | lia | omega))
    refine' enter (binds := [(Str.ofString "left", .ref a), (Str.ofString "right", .ref b)]) X T ?k1 ?k2 ?k3 ?k4 ?k5 ?_ ?c2 ?c3 ?c4 ?c5
    case k1 => k_is
    case k2 => k_is
    case k3 => (first | assumption | ((try simp only [topA, depth_deeper] at *); (first | lia | omega)))
    case k4 => first | exact BindsTo.of_eq rfl | exact binds_K (by k_in) rfl (by k_is) rfl rfl rfl
    case k5 => exact locs rfl
    case c2 => exact rfl
    case c3 => exact rfl
    case c4 => exact rfl
    case c5 => decide
    intro L h₁ F N hL
    refine wpAny_noRaise ?_
    try dsimp only
    try k_fold
    k_with_none
    k_with "call ref" => (rename Fr _ _ _ _ => F9; rename News _ _ _ _ => N9; refine' lawcut_spec (Frag.In.keeps X F9.keep) (T.keeps F9.keep) ?hd (pow10_ne _) ((Bd.pow10 _).mono (by (first | lia | omega))) ?_; (case hd => first | (first | lia | omega) | ((simp only [topA]); (first | lia | omega))); (rintro h2 tk2 t9 hS; have F2 := F9.keeps hS; have N2 := N9.grown hS; clear F9 N9; (try dsimp only); skip; (try k_fold)))
    k_with "call ref" => (rename Fr _ _ _ _ => F9; rename News _ _ _ _ => N9; refine' least_spec (Frag.In.keeps X F9.keep) (T.keeps F9.keep) (n := 30) ?hd (by (first | lia | omega)) ?_; (case hd => first | (first | lia | omega) | ((simp only [topA]); (first | lia | omega))); (rintro h2 tk2 v2 hS hI; have F2 := F9.keeps hS; have N2 := N9.grown hS; clear F9 N9; (try dsimp only); skip; (try k_fold)))
    k_with "call ref" => (rename Fr _ _ _ _ => F9; rename News _ _ _ _ => N9; refine' least_spec (Frag.In.keeps X F9.keep) (T.keeps F9.keep) (n := x.2 + y.2) ?hd (by (first | lia | omega)) ?_; (case hd => first | (first | lia | omega) | ((simp only [topA]); (first | lia | omega))); (rintro h2 tk2 v2 hS hI; have F2 := F9.keeps hS; have N2 := N9.grown hS; clear F9 N9; (try dsimp only); skip; (try k_fold)))
    k_steps
    · refine hret _ _ _ (Fr.keep (by assumption)) ?_
      show Reads _ _ (optD (keptO (x.1 * y.1) (x.2 + y.2))) []
      rw [keptO_big (by assumption), if_neg ((abs_big _).mp (by assumption))]
      exact .none
    · try k_unfold
      try dsimp only
      refine hret _ _ _ (Fr.keep (by assumption)) ?_
      show Reads _ _ (optD (keptO (x.1 * y.1) (x.2 + y.2))) []
      rw [keptO_big (by assumption), if_pos (Decidable.not_not.mp (fun q => absurd ((abs_big _).mpr q) (by assumption)))]
      exact hI
    · refine hret _ _ _ (Fr.keep (by assumption)) ?_
      show Reads _ _ (optD (keptO (x.1 * y.1) (x.2 + y.2))) []
      rw [keptO_small (by assumption), if_neg ((abs_big _).mp (by assumption))]
      exact .none
    · try k_unfold
      try dsimp only
      refine hret _ _ _ (Fr.keep (by assumption)) ?_
      show Reads _ _ (optD (keptO (x.1 * y.1) (x.2 + y.2))) []
      rw [keptO_small (by assumption), if_pos (Decidable.not_not.mp (fun q => absurd ((abs_big _).mpr q) (by assumption)))]
      exact hI
end
section
theorem fillMA4 : (fun (_ : OpenLaw) (_ : Params → Frag) => True) PySem.Challenge.rw_pc0124_01 hd.heap_39 := by
  w_top off
  k_fill
  trivial




theorem lawover_spec {w : World} {p : Program} {loose : List Str} {mean : ExcName → Option Value} {mg mb : Str → Option Value} {s : Shared} {dp un : Nat} {gd : Option (List Code)} {fr : Option (List Env)} {Q E : Value → Shared → Prop} {v1 v2 : Value} {x y : Option Num} {n : Nat} (X : (hd.heap_39 w.params).In s.heap) (T : Top p loose mean mg mb s.heap) (hd : dp + 1 < recursionLimit) (hv1 : Reads s.heap v1 (optD x) []) (hv2 : Reads s.heap v2 (optD y) []) (hb1 : ∀ a, x = some a → Bd n a.1 ∧ a.2 ≤ 30) (hb2 : ∀ a, y = some a → Bd n a.1 ∧ a.2 ≤ 30) (hn : n ≤ 8800)
    (hret : ∀ h' tk v, Heap.StaysIn s.heap h' → Reads h' v (optD (x.bind fun a => y.bind fun b => overO a b)) [] → Q v { s with heap := h', toks := tk }) :
    wpAny (model PR w) (topA dp un gd fr) (call (.ref 228) [v1, v2]) Q E s := by
  cases x with
  | none =>
    obtain rfl := opt_none hv1
    refine' enter (binds := [(Str.ofString "left", .none), (Str.ofString "right", v2)]) X T ?k1 ?k2 ?k3 ?k4 ?k5 ?_ ?c2 ?c3 ?c4 ?c5
    case k1 => k_is
    case k2 => k_is
    case k3 => (first | assumption | ((try simp only [topA, depth_deeper] at *); (first | lia | omega)))
    case k4 => first | exact BindsTo.of_eq rfl | exact binds_K (by k_in) rfl (by k_is) rfl rfl rfl
    case k5 => exact locs rfl
    case c2 => exact rfl
    case c3 => exact rfl
    case c4 => exact rfl
    case c5 => decide
    intro L h₁ F N hL
    refine wpAny_noRaise ?_
    try dsimp only
    try k_fold
    k_with_none
    repeat' (first | (k_unfold; (try dsimp only)) | (k_end; wrow_close) | ((try dsimp only); walk1) | (leave1; walk_say "STEP leave1"; try dsimp only) | fail "no step")
    try k_unfold
    try dsimp only
    exact hret _ _ _ (Fr.keep (by assumption)) .none
  | some x =>
  cases y with
  | none =>
    obtain ⟨a, t1, t2, rfl, hI⟩ := num_open hv1
    obtain rfl := opt_none hv2
    refine' enter (binds := [(Str.ofString "left", .ref a), (Str.ofString "right", .none)]) X T ?k1 ?k2 ?k3 ?k4 ?k5 ?_ ?c2 ?c3 ?c4 ?c5
    case k1 => k_is
    case k2 => k_is
    case k3 => (first | assumption | ((try simp only [topA, depth_deeper] at *); (first | lia | omega)))
    case k4 => first | exact BindsTo.of_eq rfl | exact binds_K (by k_in) rfl (by k_is) rfl rfl rfl
    case k5 => exact locs rfl
    case c2 => exact rfl
    case c3 => exact rfl
    case c4 => exact rfl
    case c5 => decide
    intro L h₁ F N hL
    refine wpAny_noRaise ?_
    try dsimp only
    try k_fold
    k_with_none
    repeat' (first | (k_unfold; (try dsimp only)) | (k_end; wrow_close) | ((try dsimp only); walk1) | (leave1; walk_say "STEP leave1"; try dsimp only) | fail "no step")
    try k_unfold
    try dsimp only
    exact hret _ _ _ (Fr.keep (by assumption)) .none
  | some y =>
    obtain ⟨a, t1, t2, rfl, hI⟩ := num_open hv1
    obtain ⟨b, t3, t4, rfl, hI2⟩ := num_open hv2
    obtain ⟨hbx, hx⟩ := hb1 x rfl
    obtain ⟨hby, hy⟩ := hb2 y rfl
    have hm1 : IntMulOk x.1 (10 ^ ((30 : Int) + (y.2 : Int)).toNat) := hbx.ok (Bd.pow10 _) (by (first | lia | omega))
    have hm2 : IntMulOk y.1 (10 ^ ((x.2 : Int)).toNat) := hby.ok (Bd.pow10 _) (by (first | lia | omega))
    refine' enter (binds := [(Str.ofString "left", .ref a), (Str.ofString "right", .ref b)]) X T ?k1 ?k2 ?k3 ?k4 ?k5 ?_ ?c2 ?c3 ?c4 ?c5
    case k1 => k_is
    case k2 => k_is
    case k3 => (first | assumption | ((try simp only [topA, depth_deeper] at *); (first | lia | omega)))
    case k4 => first | exact BindsTo.of_eq rfl | exact binds_K (by k_in) rfl (by k_is) rfl rfl rfl
    case k5 => exact locs rfl
    case c2 => exact rfl
    case c3 => exact rfl
    case c4 => exact rfl
    case c5 => decide
    intro L h₁ F N hL
    refine wpAny_noRaise ?_
    try dsimp only
    try k_fold
    k_with_none
    k_with "call ref" => (rename Fr _ _ _ _ => F9; rename News _ _ _ _ => N9; refine' lawcut_spec (Frag.In.keeps X F9.keep) (T.keeps F9.keep) ?hd (Int.mul_ne_zero (by assumption) (pow10_ne _)) ((hby.mul (Bd.pow10 _)).mono (by (first | lia | omega))) ?_; (case hd => first | (first | lia | omega) | ((simp only [topA]); (first | lia | omega))); (rintro h2 tk2 t9 hS; have F2 := F9.keeps hS; have N2 := N9.grown hS; clear F9 N9; (try dsimp only); skip; (try k_fold)))
    k_with "call ref" => (rename Fr _ _ _ _ => F9; rename News _ _ _ _ => N9; refine' least_spec (Frag.In.keeps X F9.keep) (T.keeps F9.keep) (n := 30) ?hd (by (first | lia | omega)) ?_; (case hd => first | (first | lia | omega) | ((simp only [topA]); (first | lia | omega))); (rintro h2 tk2 v2 hS hI; have F2 := F9.keeps hS; have N2 := N9.grown hS; clear F9 N9; (try dsimp only); skip; (try k_fold)))
    repeat' (first | (k_unfold; (try dsimp only)) | (k_end; wrow_close) | ((try dsimp only); walk1) | (leave1; walk_say "STEP leave1"; try dsimp only) | fail "no step")
    · try dsimp only
      try k_unfold
      try dsimp only
      refine hret _ _ _ (Fr.keep (by assumption)) ?_
      show Reads _ _ (optD (overO x y)) []
      unfold overO
      rw [if_pos (by assumption)]
      exact .none
    · try k_unfold
      try dsimp only
      refine hret _ _ _ (Fr.keep (by assumption)) ?_
      show Reads _ _ (optD (overO x y)) []
      have e1 : ((30 : Int) + (y.2 : Int)).toNat = 30 + y.2 := by (first | lia | omega)
      have e2 : ((x.2 : Int)).toNat = x.2 := by (first | lia | omega)
      unfold overO
      rw [if_neg (by assumption), ← e1, ← e2]
      exact hI

theorem iter_bd {x : Num} {n : Nat} (hn : 400 ≤ n) : ∀ (k : Nat) (f : Num), iterO x k = some f → Bd n f.1 ∧ f.2 ≤ 30 := by
  intro k
  induction k with
  | zero =>
    intro f h
    cases h
    exact ⟨Nat.one_lt_two_pow (by (first | lia | omega)), by (first | lia | omega)⟩
  | succ k ih =>
    intro f h
    unfold iterO at h
    cases hk : iterO x k with
    | none => rw [hk] at h; cases h
    | some g =>
      rw [hk] at h
      have h' : keptO (g.1 * x.1) (g.2 + x.2) = some f := h
      unfold keptO at h'
      split at h'
      · rename_i hlt
        cases h'
        refine ⟨Bd.norm _ (Nat.lt_of_lt_of_le hlt ?_), Nat.le_trans (norm_le _ _) ?_⟩
        · calc 10 ^ 120 ≤ 2 ^ 400 := by decide
            _ ≤ 2 ^ n := Nat.pow_le_pow_right (by decide) hn
        · unfold shrink
          split
          · exact Nat.le_refl _
          · show g.2 + x.2 ≤ 30
            (first | lia | omega)
      · cases h'

theorem powBad_iff (x y : Num) : powBad x y = true ↔ ((y.2 : Int) ≠ 0 ∨ (99 : Int) < (if y.1 < 0 then -y.1 else y.1) ∨ (x.1 = 0 ∧ y.1 < 1)) := by
  unfold powBad
  have e : (99 : Int) < (if y.1 < 0 then -y.1 else y.1) ↔ 99 < y.1.natAbs := by split <;> (first | lia | omega)
  rw [e]
  simp only [Bool.or_eq_true, Bool.and_eq_true, decide_eq_true_eq, bne_iff_ne, ne_eq]
  have e2 : (y.2 : Int) = 0 ↔ y.2 = 0 := by (first | lia | omega)
  rw [e2, or_assoc]
theorem powO_bad {x y : Num} (h : (y.2 : Int) ≠ 0 ∨ (99 : Int) < (if y.1 < 0 then -y.1 else y.1) ∨ (x.1 = 0 ∧ y.1 < 1)) : powO x y = none := by
  unfold powO
  rw [if_pos ((powBad_iff x y).mpr h)]
theorem powO_good {x y : Num} (h1 : (y.2 : Int) = 0) (h2 : ¬ (99 : Int) < (if y.1 < 0 then -y.1 else y.1)) (h3 : ¬ (x.1 = 0 ∧ y.1 < 1)) :
    powO x y = (iterO x y.1.natAbs).bind fun f => if y.1 < 0 then overO (1, 0) f else some f := by
  unfold powO
  rw [if_neg (fun q => ?_)]
  rcases (powBad_iff x y).mp q with q | q | q
  · exact q h1
  · exact h2 q
  · exact h3 q
theorem powO_pos {x y : Num} (h1 : (y.2 : Int) = 0) (h2 : ¬ (99 : Int) < (if y.1 < 0 then -y.1 else y.1)) (h3 : ¬ (x.1 = 0 ∧ y.1 < 1)) (h : ¬ y.1 < 0) : powO x y = iterO x y.1.natAbs := by
  rw [powO_good h1 h2 h3]
  simp only [if_neg h]
  cases iterO x y.1.natAbs <;> rfl
theorem powO_neg {x y : Num} (h1 : (y.2 : Int) = 0) (h2 : ¬ (99 : Int) < (if y.1 < 0 then -y.1 else y.1)) (h3 : ¬ (x.1 = 0 ∧ y.1 < 1)) (h : y.1 < 0) : powO x y = (iterO x y.1.natAbs).bind fun f => overO (1, 0) f := by
  rw [powO_good h1 h2 h3]
  simp only [if_pos h]

theorem lawraised_spec {w : World} {p : Program} {loose : List Str} {mean : ExcName → Option Value} {mg mb : Str → Option Value} {s : Shared} {dp un : Nat} {gd : Option (List Code)} {fr : Option (List Env)} {Q E : Value → Shared → Prop} {v1 v2 : Value} {x y : Option Num} {n : Nat} (X : (hd.heap_39 w.params).In s.heap) (T : Top p loose mean mg mb s.heap) (hd : dp + 2 < recursionLimit) (hv1 : Reads s.heap v1 (optD x) []) (hv2 : Reads s.heap v2 (optD y) []) (hb1 : ∀ a, x = some a → Bd n a.1 ∧ a.2 ≤ 30) (hb2 : ∀ a, y = some a → Bd n a.1 ∧ a.2 ≤ 30) (hn : n ≤ 8800) (hn4 : 400 ≤ n)
    (hret : ∀ h' tk v, Heap.StaysIn s.heap h' → Reads h' v (optD (x.bind fun a => y.bind fun b => powO a b)) [] → Q v { s with heap := h', toks := tk }) :
    wpAny (model PR w) (topA dp un gd fr) (call (.ref 235) [v1, v2]) Q E s := by
  cases x with
  | none =>
    obtain rfl := opt_none hv1
    refine' enter (binds := [(Str.ofString "left", .none), (Str.ofString "right", v2)]) X T ?k1 ?k2 ?k3 ?k4 ?k5 ?_ ?c2 ?c3 ?c4 ?c5
    case k1 => k_is
    case k2 => k_is
    case k3 => (first | assumption | ((try simp only [topA, depth_deeper] at *); (first | lia | omega)))
    case k4 => first | exact BindsTo.of_eq rfl | exact binds_K (by k_in) rfl (by k_is) rfl rfl rfl
    case k5 => exact locs rfl
    case c2 => exact rfl
    case c3 => exact rfl
    case c4 => exact rfl
    case c5 => decide
    intro L h₁ F N hL
    refine wpAny_noRaise ?_
    try dsimp only
    try k_fold
    k_with_none
    repeat' (first | (k_unfold; (try dsimp only)) | (k_end; wrow_close) | ((try dsimp only); walk1) | (leave1; walk_say "STEP leave1"; try dsimp only) | fail "no step")
    try k_unfold
    try dsimp only
    exact hret _ _ _ (Fr.keep (by assumption)) .none
  | some x =>
  cases y with
  | none =>
    obtain ⟨a, t1, t2, rfl, hI⟩ := num_open hv1
    obtain rfl := opt_none hv2
    refine' enter (binds := [(Str.ofString "left", .ref a), (Str.ofString "right", .none)]) X T ?k1 ?k2 ?k3 ?k4 ?k5 ?_ ?c2 ?c3 ?c4 ?c5
    case k1 => k_is
    case k2 => k_is
    case k3 => (first | assumption | ((try simp only [topA, depth_deeper] at *); (first | lia | omega)))
    case k4 => first | exact BindsTo.of_eq rfl | exact binds_K (by k_in) rfl (by k_is) rfl rfl rfl
    case k5 => exact locs rfl
    case c2 => exact rfl
    case c3 => exact rfl
    case c4 => exact rfl
    case c5 => decide
    intro L h₁ F N hL
    refine wpAny_noRaise ?_
    try dsimp only
    try k_fold
    k_with_none
    repeat' (first | (k_unfold; (try dsimp only)) | (k_end; wrow_close) | ((try dsimp only); walk1) | (leave1; walk_say "STEP leave1"; try dsimp only) | fail "no step")
    try k_unfold
    try dsimp only
    exact hret _ _ _ (Fr.keep (by assumption)) .none
  | some y =>
    obtain ⟨a, t1, t2, rfl, hI⟩ := num_open hv1
    obtain ⟨b, t3, t4, rfl, hI2⟩ := num_open hv2
    obtain ⟨hbx, hx⟩ := hb1 x rfl
    obtain ⟨hby, hy⟩ := hb2 y rfl
    refine' enter (binds := [(Str.ofString "left", .ref a), (Str.ofString "right", .ref b)]) X T ?k1 ?k2 ?k3 ?k4 ?k5 ?_ ?c2 ?c3 ?c4 ?c5
    case k1 => k_is
    case k2 => k_is
    case k3 => (first | assumption | ((try simp only [topA, depth_deeper] at *); (first | lia | omega)))
    case k4 => first | exact BindsTo.of_eq rfl | exact binds_K (by k_in) rfl (by k_is) rfl rfl rfl
    case k5 => exact locs rfl
    case c2 => exact rfl
    case c3 => exact rfl
    case c4 => exact rfl
    case c5 => decide
    intro L h₁ F N hL
    refine wpAny_noRaise ?_
    try dsimp only
    try k_fold
    k_with_none
    have hab : ((if y.1 < 0 then -y.1 else y.1) : Int) = (y.1.natAbs : Int) := by split <;> (first | lia | omega)
    k_with "exec For" => ((rename Fr _ _ _ _ => F9); refine' For_invVF F9 ?hx ?hp ?_; (case hx => rfl); (case hp => rfl))
    k_with "pyIter ref" => (refine' halt ?_)
    repeat' (first | (k_unfold; (try dsimp only)) | (k_end; wrow_close) | ((try dsimp only); walk1) | (leave1; walk_say "STEP leave1"; try dsimp only) | fail "no step")
    · exact hret _ _ _ (Fr.keep (by assumption)) (by
        show Reads _ _ (optD (powO x y)) []
        rw [powO_bad (.inl (by assumption))]; exact .none)
    · exact hret _ _ _ (Fr.keep (by assumption)) (by
        show Reads _ _ (optD (powO x y)) []
        rw [powO_bad (.inr (.inl (by assumption)))]; exact .none)
    · exact hret _ _ _ (Fr.keep (by assumption)) (by
        show Reads _ _ (optD (powO x y)) []
        rw [powO_bad (.inr (.inr ⟨by assumption, by assumption⟩))]; exact .none)
    all_goals
      refine Halt.mk ?_
      have h3 : ¬ (x.1 = 0 ∧ y.1 < 1) := by (first | lia | omega)
      rename Fr _ _ _ _ => F9
      rename News _ _ _ _ => N9
      rename IsRange _ _ _ _ _ _ _ _ => R9
      refine' range_G y.1.natAbs (fun i m nx => ∃ v tl, m = mOf ([(Str.ofString "right", .ref b), (Str.ofString "left", .ref a), (Str.ofString "found", v)] ++ tl) ∧ DI s.heap nx v (optD (iterO x i)) ∧ Tups nx) ?hh R9 hab ?hn (fr_set1 F9) N9 ?hj ?_ ?_
      case hh => rfl
      case hn => (first | lia | omega)
      case hj => exact ⟨_, [], rfl, .tuple (.inr (.head _)) rfl rfl (.cons (.int _ _) (.cons (.int _ _) .nil)), Tups.cons rfl Tups.nil⟩
      all_goals clear F9 N9 R9
      · rintro i t m₁ nx h tk own hi hoff hcl ⟨v, tl, rfl, hD, hT⟩ F N
        have F : Fr s.heap L h _ := F
        have N : News s.heap L h _ := N
        try dsimp only
        try k_fold
        k_with_none
        k_with "call ref" => (rename Fr _ _ _ _ => F9; rename News _ _ _ _ => N9; refine' lawtimes_spec (Frag.In.keeps X F9.keep) (T.keeps F9.keep) (x := iterO x i) (y := some x) (n := n) ?hd (hD.reads F9 (News.sub N9 fun p hp => List.mem_append_left _ hp)) (Rd.stays hv1 F9.keep) (iter_bd hn4 i) hb1 (by (first | lia | omega)) ?_; (case hd => first | (first | lia | omega) | ((simp only [topA]); (first | lia | omega))); (rintro h2 tk2 v2 hS hI; have F2 := F9.keeps hS; have N2 := N9.grown hS; clear F9 N9; (try dsimp only); (refine Reads.regE F2 hI fun rest9 hT9 hN9 hD9 => ?_; have N3 := News.app hN9 N2; clear N2); (try k_fold)))
        repeat' (first | (k_unfold; (try dsimp only)) | (k_end; wrow_close) | ((try dsimp only); walk1) | (leave1; walk_say "STEP leave1"; try dsimp only) | fail "no step")
        rename Fr _ _ _ _ => F9
        rename News _ _ _ _ => N9
        rename DI _ _ _ _ => hD9
        rename Tups _ => hT9
        exact inv_end (fr_set2 F9) N9 ⟨_, _, rfl, hD9, hT9⟩ (own_off (News.sub N9 fun p hp => List.mem_append_right _ (List.mem_append_right _ hp)) (News.sub N9 fun p hp => List.mem_append_left _ hp) hT9 hcl) (fun p hp => List.mem_append_left _ hp) (fun p hp => List.mem_append_right _ (List.mem_append_right _ hp))
      · rintro m₁ nx h tk ⟨v, tl, rfl, hD, hT⟩ F N
        have F : Fr s.heap L h _ := F
        have N : News s.heap L h _ := N
        try dsimp only
        try k_fold
        k_with_none
        k_with "call ref" => (rename Fr _ _ _ _ => F9; rename News _ _ _ _ => N9; refine' lawover_spec (Frag.In.keeps X F9.keep) (T.keeps F9.keep) (x := some (1, 0)) (y := iterO x y.1.natAbs) (n := n) ?hd (num_close (x := (1, 0)) (News.isTup N9 (.head _))) (hD.reads F9 (News.sub N9 fun p hp => .tail _ hp)) (by rintro _ ⟨⟩; exact ⟨Nat.one_lt_two_pow (by (first | lia | omega)), Nat.zero_le _⟩) (iter_bd hn4 _) hn ?_; (case hd => first | (first | lia | omega) | ((simp only [topA]); (first | lia | omega))); (rintro h2 tk2 v2 hS hI; have F2 := F9.keeps hS; have N2 := N9.grown hS; clear F9 N9; (try dsimp only); skip; (try k_fold)))
        repeat' (first | (k_unfold; (try dsimp only)) | (k_end; wrow_close) | ((try dsimp only); walk1) | (leave1; walk_say "STEP leave1"; try dsimp only) | fail "no step")
        all_goals first
          | exact hret _ _ _ (Fr.keep (by assumption)) (by
              show Reads _ _ (optD (powO x y)) []
              rw [powO_pos (by assumption) (by assumption) h3 (by (first | lia | omega))]
              exact hD.reads (by assumption) (by assumption))
          | ((try k_unfold); (try dsimp only); exact hret _ _ _ (Fr.keep (by assumption)) (by
              show Reads _ _ (optD (powO x y)) []
              rw [powO_neg (by assumption) (by assumption) h3 (by (first | lia | omega))]
              exact hI))
end
end Mine
namespace Mine

open Sem (wp)
section
variable {M : Model} {A : Around} {E : Value → Shared → Prop} {h : Heap} {g : Array GenState} {d : Drawn} {t : Nat} {os : OsState}
variable {nm q : Str} {C N : Addr} {bs bm bmB : List Value} {hdct : Bool} {sn : List Str} {sub : List Value} {ab : Bool} {col : Option Bool} {dd : Option Addr} {k0 k1 k2 k3 k5 : Option Value} {B newId initId : String}

theorem check_new (F : ExcBaseFacts B newId initId bmB) (hty : ∀ {X : String} {b : Bool}, bmB.contains (.type X) = b → bm.contains (.type X) = b) {rest : List Value} {Q : Unit → Shared → Prop} (hC : h.get? C = some (excClassObj nm q C N bs bm hdct sn sub ab col dd k0 k1 k2 k3 k5 newId))
    (hq : Q () ⟨h, g, d, t, os⟩) : wpAny M A (checkBuiltinCall newId ⟨.ref C :: rest, []⟩) Q E ⟨h, g, d, t, os⟩ := by
  have hcont : (Value.ref C :: bm).contains (.type B) = true := by rw [List.contains_cons, hty F.hasB, Bool.or_true]
  have hstar := F.noStar
  simp only [checkBuiltinCall, F.newKind, F.newSplit, F.newRow]
  repeat (first | refine wpAny_loadPart_at hC ?_ | (refine wpAny_isSubtype_exc hC ?_; rw [hcont]) | refine wpAny_staticBase_exc hC ?_ | refine wpAny_madeBy_exc hC ?_ | simp only [bne_self_eq_false, Bool.false_eq_true, if_false] | wp_step)
  exact hq
end

section
variable {prog : Program} {w : World} {A : Around} {R : Result → Shared → Prop} {h : Heap} {g : Array GenState} {d : Drawn} {t : Nat} {os : OsState}
variable {nm q : Str} {C N : Addr} {bs bm bmB : List Value} {hdct : Bool} {sn : List Str} {sub : List Value} {ab : Bool} {col : Option Bool} {dd : Option Addr} {k0 k1 k2 k3 k5 : Option Value} {B newId initId : String}

theorem exc_new (F : ExcBaseFacts B newId initId bmB) (hty : ∀ {X : String} {b : Bool}, bmB.contains (.type X) = b → bm.contains (.type X) = b) {rest : List Value} (hC : h.get? C = some (excClassObj nm q C N bs bm hdct sn sub ab col dd k0 k1 k2 k3 k5 newId))
    (hq : R (.ok (.ret (.ref (h.objs.size + 1)))) ⟨(h.push { cls := .type "tuple", data := .seq rest.toArray }).push
      { cls := .ref C, data := .fields #[.ref h.objs.size, .none, .none, .none, .bool false, .none] }, g, d, t, os⟩) (hrest : rest.length ≤ sizeLine) :
    codeAny (model prog w) A (.builtin newId ⟨.ref C :: rest, []⟩) R ⟨h, g, d, t, os⟩ := by
  have hends := F.ends
  have hcB : (Value.ref C :: bm).contains (.type B) = true := by rw [List.contains_cons, hty F.hasB, Bool.or_true]
  have hcA : (Value.ref C :: bm).contains (.type "AttributeError") = false := by rw [List.contains_cons, hty F.noAttr]; rfl
  have hcN : (Value.ref C :: bm).contains (.type "NameError") = false := by rw [List.contains_cons, hty F.noName]; rfl
  refine codeAny_builtinAt F.entry ?_
  unfold Builtin.«BaseException.__new__»
  refine PySem.wpAt_bind ?_
  show PySem.wpAt _ _ _ (stack >>= _) _ _ _
  refine PySem.wpAt_bind (PySem.wpAt_stack fun p below => PySem.wpAt_of_wpAny ?_)
  wp_walk
  refine PySem.wpAt_of_wpAny ?_
  rw [F.owner]
  repeat (first | with_reducible refine wpAny_madeHere_exc F.canon hC ?_ | with_reducible refine wpAny_loadPart_at hC ?_ | (with_reducible refine wpAny_isSubtype_exc hC ?_; first | rw [hcB] | rw [hcA] | rw [hcN]) | wp_step)
  show R _ _
  rw [Heap.size_push]
  exact hq
end

section
variable {prog : Program} {w : World} {A : Around} {E : Value → Shared → Prop} {h : Heap} {g : Array GenState} {d : Drawn} {t : Nat} {os : OsState}
variable {nm q : Str} {C N fI : Addr} {bs bm bmB : List Value} {hdct : Bool} {sn : List Str} {sub : List Value} {ab : Bool} {col : Option Bool} {dd : Option Addr} {k0 k1 k2 k3 k5 : Option Value} {B newId initId : String}

theorem exc_type_call (F : ExcBaseFacts B newId initId bmB) (hty : ∀ {X : String} {b : Bool}, bmB.contains (.type X) = b → bm.contains (.type X) = b) {rest : List Value} {Q : Fin → Shared → Prop}
    (hC : h.get? C = some (excClassObj nm q C N bs bm hdct sn sub ab col dd k0 k1 k2 k3 k5 newId))
    (hi : Looks (model prog w) h (typeLookup (.ref C) "__init__") (some (.ref fI))) (hb : ∀ self, Looks (model prog w) h (bindSpecial (.ref fI) self) (.ref fI, [self]))
    (hq : codeAny (model prog w) A (.call (.ref fI) ⟨.ref (h.objs.size + 1) :: rest, []⟩) (InitBack (h.objs.size + 1) fun r s' => match r with | .ok f => Q (.done f) s' | .error e => E e s')
      ⟨(h.push { cls := .type "tuple", data := .seq rest.toArray }).push { cls := .ref C, data := .fields #[.ref h.objs.size, .none, .none, .none, .bool false, .none] }, g, d, t, os⟩) (hrest : rest.length ≤ sizeLine) :
    wpAny (model prog w) A (Builtin.«type.__call__» ⟨.ref C :: rest, []⟩) Q E ⟨h, g, d, t, os⟩ := by
  repeat (first | with_reducible refine wpAny_loadPart_at hC ?_ | with_reducible refine wpAny_madeBy_exc hC ?_ | wp_step)
  refine codeAny_call_builtin_code (Code.quiet_builtin _ F.quiet) (check_new F hty hC ?_)
  refine exc_new F hty hC ?_ hrest
  show wpAny _ _ _ _ _ _
  have hC₁ := Heap.get?_push_of_some { cls := .ref C, data := .fields #[.ref h.objs.size, .none, .none, .none, .bool false, .none] }
    (Heap.get?_push_of_some { cls := .type "tuple", data := .seq rest.toArray } hC)
  have hget : ((h.push { cls := .type "tuple", data := .seq rest.toArray }).push
      { cls := .ref C, data := .fields #[.ref h.objs.size, .none, .none, .none, .bool false, .none] }).get? (h.objs.size + 1) = some
      { cls := .ref C, data := .fields #[.ref h.objs.size, .none, .none, .none, .bool false, .none] } := by heap_get
  have hcC : (Value.ref C :: bm).contains (.ref C) = true := by simp
  have k : ∀ b o, h.get? b = some o → ((h.push { cls := .type "tuple", data := .seq rest.toArray }).push
      { cls := .ref C, data := .fields #[.ref h.objs.size, .none, .none, .none, .bool false, .none] }).get? b = some o := fun b o e => Heap.get?_push_of_some _ (Heap.get?_push_of_some _ e)
  have i1 := hi.keeps k
  have b1 := (hb (.ref (h.objs.size + 1))).keeps k
  unfold isInstance
  repeat (first | with_reducible refine wpAny_loadPart_at hget ?_ | (with_reducible refine wpAny_isSubtype_exc hC₁ ?_; rw [hcC]) | wp_step)
  show wpAny _ _ (typeLookup (.ref C) _) _ _ _
  refine i1.at ?_
  refine wpAny_holding (wpAny_bind (b1.at ?_))
  refine wpAny_bind (wpAny_call (codeAny_mono hq fun r s' z => ?_))
  rcases r with e | (v | _ | _ | _)
  · exact z
  · exact z.elim
  · exact z.elim
  · exact z.elim
  · obtain ⟨rfl, z⟩ := z
    exact wpAny_pure (wpAny_pure z)

theorem exc_call (F : ExcBaseFacts B newId initId bmB) (hty : ∀ {X : String} {b : Bool}, bmB.contains (.type X) = b → bm.contains (.type X) = b) {rest : List Value} {Q : Value → Shared → Prop}
    (hC : h.get? C = some (excClassObj nm q C N bs bm hdct sn sub ab col dd k0 k1 k2 k3 k5 newId))
    (hi : Looks (model prog w) h (typeLookup (.ref C) "__init__") (some (.ref fI))) (hb : ∀ self, Looks (model prog w) h (bindSpecial (.ref fI) self) (.ref fI, [self]))
    (hq : codeAny (model prog w) (A.under (.builtin "type.__call__" ⟨.ref C :: rest, []⟩)) (.call (.ref fI) ⟨.ref (h.objs.size + 1) :: rest, []⟩) (InitBack (h.objs.size + 1) fun r s' => match r with | .ok (.ret v) => Q v s' | .ok _ => False | .error e => E e s')
      ⟨(h.push { cls := .type "tuple", data := .seq rest.toArray }).push { cls := .ref C, data := .fields #[.ref h.objs.size, .none, .none, .none, .bool false, .none] }, g, d, t, os⟩) (hrest : rest.length ≤ sizeLine) :
    wpAny (model prog w) A (call (.ref C) rest) Q E ⟨h, g, d, t, os⟩ := by
  have f1 := tc_lookup
  have f2 := tc_bind (.ref C)
  have hT : (⟨h, g, d, t, os⟩ : Shared).TypeIs (.ref C) "type" := ⟨_, hC, rfl⟩
  refine wpAny_call (codeAny_of_tree ?_)
  show wpAny _ _ (callAny (.ref C) _) _ _ _
  repeat (any_goals (first | assumption | with_reducible refine wpAny_loadPart_at hC ?_ | wp_step))
  refine ⟨rfl, ?_⟩
  refine codeAny_call_builtin_at (Code.quiet_builtin _ (by decide +kernel)) entry_typeCall (wpAny_check_type_call_sub hC (exc_type_call F hty hC hi hb ?_ hrest))
  exact hq
end

section
variable {prog : Program} {w : World} {A : Around} {E : Value → Shared → Prop} {s : Shared} {env : Env}
variable {nm q : Str} {C N fI : Addr} {bs bm bmB : List Value} {hdct : Bool} {sn : List Str} {sub : List Value} {ab : Bool} {col : Option Bool} {dd : Option Addr} {k0 k1 k2 k3 k5 : Option Value} {B newId initId : String}

theorem raise_made {x : Sem Value} {Q : Flow → Shared → Prop} (hbase : bm.contains (.type "BaseException") = true) (hh : A.handled = none)
    (h : wpAny (model prog w) A x (fun v s₁ => ∃ e t od, v = .ref e ∧ s₁.heap.get? C = some (excClassObj nm q C N bs bm hdct sn sub ab col dd k0 k1 k2 k3 k5 newId) ∧
      s₁.heap.get? e = some { cls := .ref C, dict := od, data := .fields #[.ref t, .none, .none, .none, .bool false, .none] } ∧ E (.ref e) s₁) E s) :
    wpAny (model prog w) A (raiseStmt env (some x) none) Q E s := by
  have hcB : (Value.ref C :: bm).contains (.type "BaseException") = true := by rw [List.contains_cons, hbase, Bool.or_true]
  unfold raiseStmt
  refine wpAny_bind (wpAny_mono h (fun v s₁ h₁ => ?_) fun _ _ x => x)
  obtain ⟨e, t, od, rfl, hC, he, hE⟩ := h₁
  obtain ⟨hp, g, d, tk, os⟩ := s₁
  repeat (first | with_reducible refine wpAny_loadPart_at he ?_ | with_reducible refine wpAny_loadPart_at hC ?_ | (with_reducible refine wpAny_isSubtype_exc hC ?_; rw [hcB]) | wp_step)
  exact wpAny_raiseNew_none hh hE
end

section
variable {prog : Program} {w : World} {A : Around} {E : Value → Shared → Prop} {h : Heap} {g : Array GenState} {d : Drawn} {t : Nat} {os : OsState}
variable {nm q : Str} {C N : Addr} {bs bm bmB : List Value} {hdct : Bool} {sn : List Str} {sub : List Value} {ab : Bool} {col : Option Bool} {dd : Option Addr} {k0 k1 k2 k3 k5 : Option Value} {B newId initId : String}

theorem check_init (F : ExcBaseFacts B newId initId bmB) (hty : ∀ {X : String} {b : Bool}, bmB.contains (.type X) = b → bm.contains (.type X) = b) {M : Model} {e : Addr} {oe : Obj} {rest : List Value} {Q : Unit → Shared → Prop}
    (hC : h.get? C = some (excClassObj nm q C N bs bm hdct sn sub ab col dd k0 k1 k2 k3 k5 newId)) (he : h.get? e = some oe) (hcls : oe.cls = .ref C) (hq : Q () ⟨h, g, d, t, os⟩) :
    wpAny M A (checkBuiltinCall initId ⟨.ref e :: rest, []⟩) Q E ⟨h, g, d, t, os⟩ := by
  have hcB : (Value.ref C :: bm).contains (.type B) = true := by rw [List.contains_cons, hty F.hasB, Bool.or_true]
  have hshort := F.noStar
  simp only [checkBuiltinCall, F.initKind, F.initSplit, F.initRow]
  repeat (first | (with_reducible refine wpAny_loadPart_at he ?_; rw [hcls]) | with_reducible refine wpAny_loadPart_at hC ?_ | (with_reducible refine wpAny_isSubtype_exc hC ?_; rw [hcB]) | wp_step)
  refine wpAny_onRaise ?_
  rw [show ∀ (a b : String) (n : Nat), Bind.check ⟨.positional, "*", B, .self, [⟨"args", .varPos, false⟩]⟩ a b n (List.map (fun x => x.fst) ({ pos := Value.ref e :: rest } : Args).kw) = pure () from
    fun a b n => check_star_args _ _ _ _ _ _]
  exact wpAny_pure hq

theorem exc_init_call (F : ExcBaseFacts B newId initId bmB) (hty : ∀ {X : String} {b : Bool}, bmB.contains (.type X) = b → bm.contains (.type X) = b) {e t0 : Addr} {od : Option Addr} {rest : List Value} {Q : Value → Shared → Prop}
    (hC : h.get? C = some (excClassObj nm q C N bs bm hdct sn sub ab col dd k0 k1 k2 k3 k5 newId)) (he : h.get? e = some { cls := .ref C, dict := od, data := .fields #[.ref t0, .none, .none, .none, .bool false, .none] }) (hrest : rest.length ≤ sizeLine)
    (hq : ∀ h', (∀ b o, b ≠ e → h.get? b = some o → h'.get? b = some o) → h'.get? e = some { cls := .ref C, dict := od, data := .fields #[.ref h.objs.size, .none, .none, .none, .bool false, .none] } → Q .none ⟨h', g, d, t, os⟩) :
    wpAny (model prog w) A (call (.builtin initId) (.ref e :: rest)) Q E ⟨h, g, d, t, os⟩ := by
  refine wpAny_call (codeAny_call_builtin F.init.plain F.initEntry (check_init F hty hC he rfl ?_))
  wp_walk
  refine hq _ (fun b o hb q => ?_) ?_
  · rw [Heap.get?_update_other _ _ (Ne.symm hb)]
    exact Heap.get?_push_of_some _ q
  · rw [Heap.get?_update_self _ (Heap.get?_push_of_some _ he) rfl]
    rfl
end

section
variable {prog : Program} {w : World} {A : Around} {E : Value → Shared → Prop} {h : Heap} {g : Array GenState} {d : Drawn} {t : Nat} {os : OsState}
variable {nm q : Str} {C N P x : Addr} {bs bm : List Value} {sn : List Str} {sub : List Value} {ab : Bool} {col : Option Bool} {dd : Option Addr} {k0 k1 k2 k3 k5 : Option Value} {B newId sa owner : String}
  {mA : Str → Option Value} {name : Str} {v : Value}

theorem check_sa {M : Model} {o : Obj} {nameV : Value} {Q : Unit → Shared → Prop} (SF : StoreFacts B bm sa owner)
    (hC : h.get? C = some (excClassObj nm q C N bs (.ref P :: bm) true sn sub ab col dd k0 k1 k2 k3 k5 newId)) (hx : h.get? x = some o) (hc : o.cls = .ref C) (hq : Q () ⟨h, g, d, t, os⟩) :
    wpAny M A (checkBuiltinCall sa ⟨[.ref x, nameV, v], []⟩) Q E ⟨h, g, d, t, os⟩ := by
  have hcB : (Value.ref C :: .ref P :: bm).contains (.type owner) = true := by rw [List.contains_cons, List.contains_cons, SF.hasOwner, Bool.or_true, Bool.or_true]
  have ha := SF.args (.ref x) nameV v
  simp only [checkBuiltinCall, SF.kind, SF.split]
  refine wpAny_bind ?_
  · unfold isInstance
    repeat (first | (with_reducible refine wpAny_loadPart_at hx ?_; rw [hc]) | (with_reducible refine wpAny_isSubtype_exc hC ?_; rw [hcB]) | wp_step)
    cases hsig : Manifest.signature? sa with
    | none => exact wpAny_pure hq
    | some sig =>
      simp only [argsOk, hsig] at ha
      have h2 : Bind.checkArgs sa sig ⟨[.ref x, nameV, v], []⟩ = pure () := ha
      show wpAny M A (Bind.checkArgs sa sig ⟨[.ref x, nameV, v], []⟩) Q E _
      rw [h2]; exact wpAny_pure hq

noncomputable def Stored (h h' : Heap) (x : Addr) : Prop :=
  (∀ b o, b ≠ x → (∀ o₀ dx, h.get? x = some o₀ → o₀.dict = some dx → b ≠ dx) → h.get? b = some o → h'.get? b = some o) ∧
  (∀ o₀, h.get? x = some o₀ → ∃ o₁, h'.get? x = some o₁ ∧ o₁.cls = o₀.cls ∧ o₁.data = o₀.data ∧ o₁.slots = o₀.slots ∧ ∀ dx, o₁.dict = some dx → o₀.dict = some dx ∨ h.get? dx = none)

theorem dict_store {tk : Tok} {dx : Addr} {ns : List Str} {Q : Fin → Shared → Prop} (hd : h.Ns1 dx mA) (hw : PySem.Within mA ns) (hsz : ns.length < sizeLine)
    (hq : ∀ h' tk', h'.Ns1 dx (fun y => if y = name then some v else mA y) → Heap.SameBut dx h h' → Q (.done (.ret .none)) ⟨h', g, d, tk', os⟩) :
    wpAny (model prog w) A (Builtin.ObjectAttr.storeInDict dx (.str name tk) name v) Q E ⟨h, g, d, t, os⟩ := by
  unfold Builtin.ObjectAttr.storeInDict Builtin.ObjectAttr.newKeyGuard
  refine wpAny_bind (wpAny_pure (wpAny_bind (wpAny_nsSet1 hd fun h' hn' hs => ?_)))
  obtain ⟨oD, esD, epD, hoD, hdD, hcD⟩ := hn'.count (PySem.Within.cons name v hw)
  have hlen : esD.size ≤ sizeLine := Nat.le_trans hcD (by rw [List.length_cons]; (first | lia | omega))
  exact wpAny_bind (wpAny_lookBehind hoD (by rw [hdD]; exact pastItsLine_dict (Nat.le_succ_of_le hlen)) (wpAny_pure (hq h' _ hn' hs)))

theorem sa_entry {tk : Tok} {Q : Fin → Shared → Prop} {ns : List Str} (SF : StoreFacts B bm sa owner)
    (hC : h.get? C = some (excClassObj nm q C N bs (.ref P :: bm) true sn sub ab col dd k0 k1 k2 k3 k5 newId)) (hl : Looks (model prog w) h (typeLookup (.ref C) name) none) (I : h.Inst x C mA)
    (hq : ∀ h' tk', h'.Inst x C (fun y => if y = name then some v else mA y) → Stored h h' x → Q (.done (.ret .none)) ⟨h', g, d, tk', os⟩) (hw : PySem.Within mA ns) (hsz : ns.length < sizeLine) :
    wpAny (model prog w) A (Builtin.«object.__setattr__» ⟨[.ref x, .str name tk, v], []⟩) Q E ⟨h, g, d, t, os⟩ := by
  obtain ⟨o, hx, hc, hnc, hd⟩ := I
  have hpass := SF.passes (.ref x)
  unfold Builtin.«object.__setattr__»
  repeat (first | rw [refuse_eq] | (rw [refuseLoop_ref, refuseLoop_ref, hpass]) | (with_reducible refine wpAny_loadPart_at hx ?_; rw [hc]) | with_reducible refine wpAny_mroOf_exc hC ?_ | (with_reducible refine hl.at ?_) | wp_step)
  rcases hd with ⟨hdn, hmA⟩ | ⟨dx, hdx, hne, hns⟩
  · have e0 : mA = fun _ => none := funext hmA
    subst e0
    have hxs : h.objs.size ≠ x := Nat.ne_of_gt (Heap.lt_size hx)
    have hx₁ : (h.push { cls := .type "dict", data := .dict #[] }).get? x = some o := Heap.get?_push_of_some _ hx
    have hfree : ({ cls := o.cls, dict := some h.objs.size, data := o.data, slots := o.slots } : Obj).isFreed = false := by
      have hfr := (Heap.get?_some_iff.mp hx).2
      obtain ⟨oc, od, odt, osl⟩ := o
      cases odt <;> first | rfl | exact hfr
    have hself := Heap.get?_update_self (fun o : Obj => ({ cls := o.cls, dict := some h.objs.size, data := o.data, slots := o.slots } : Obj)) hx₁ hfree
    have hnew : ((h.push { cls := .type "dict", data := .dict #[] }).update x fun o => { cls := o.cls, dict := some h.objs.size, data := o.data, slots := o.slots }).get? h.objs.size = some { cls := .type "dict", data := .dict #[] } :=
      (Heap.get?_update_ne _ _ _ _ hxs).trans (Heap.get?_push_at rfl rfl)
    rw [hdn, if_neg (by simp [typeHasDict])]
    have go : wpAny (model prog w) A (do
        let d ← alloc { cls := .type "dict", data := .dict #[] }
        update x fun o => { cls := o.cls, dict := some d, data := o.data, slots := o.slots }
        dictMade (Value.ref C) x d) (fun a s' =>
          wpAny (model prog w) A (match a with
            | some d => Builtin.ObjectAttr.storeInDict d (Value.str name tk) name v
            | none => Builtin.ObjectAttr.noDictFor (Value.ref x) (Value.ref C) name (none : Option Value).isSome) Q E s') E ⟨h, g, d, t, os⟩ := by
      refine wpAny_bind (wpAny_alloc' (wpAny_bind (wpAny_update' hx₁ (wpAny_pure ?_))))
      refine dict_store (Heap.Ns1.of_empty ⟨_, #[], _, hnew, rfl, fun e he => absurd he (by simp), fun _ => rfl⟩) hw hsz fun h' tk' hn' hs => ?_
      have hx' := (hs.2 x hxs.symm).trans hself
      refine hq h' tk' ⟨_, hx', hc, hnc, .inr ⟨h.objs.size, rfl, hxs, hn'⟩⟩ ⟨fun b ob hbx _ hb => ?_, fun o₀ h₀ => ?_⟩
      · exact (hs.2 b (Nat.ne_of_lt (Heap.lt_size hb))).trans ((Heap.get?_update_ne _ _ _ _ hbx).trans (Heap.get?_push_of_some _ hb))
      · obtain rfl : o = o₀ := Option.some.inj (hx.symm.trans h₀)
        exact ⟨_, hx', rfl, rfl, rfl, fun dx e => .inr (by obtain rfl : h.objs.size = dx := Option.some.inj e; exact Heap.get?_none_of_le (Nat.le_refl _))⟩
    split
    · rename_i hcd
      cases hcd
    · split
      · rename_i c hcd
        exact absurd hcd (hnc c)
      · exact go
  · rw [hdx]
    refine wpAny_pure (dict_store hns hw hsz fun h' tk' hn' hs => ?_)
    refine hq h' tk' ⟨o, (hs.2 x hne.symm).trans hx, hc, hnc, .inr ⟨dx, hdx, hne, hn'⟩⟩ ⟨fun b ob _ hbd hb => (hs.2 b (hbd o dx hx hdx)).trans hb, fun o₀ h₀ => ⟨o₀, (hs.2 x hne.symm).trans h₀, rfl, rfl, rfl, fun _ e => .inl e⟩⟩

theorem sa_attr {Q : Unit → Shared → Prop} {ns : List Str} (SF : StoreFacts B bm sa owner)
    (hC : h.get? C = some (excClassObj nm q C N bs (.ref P :: bm) true sn sub ab col dd k0 k1 k2 k3 k5 newId)) (hl : Looks (model prog w) h (typeLookup (.ref C) name) none) (hls : Looks (model prog w) h (typeLookup (.ref C) "__setattr__") (some (.builtin sa))) (I : h.Inst x C mA)
    (hq : ∀ h' tk', h'.Inst x C (fun y => if y = name then some v else mA y) → Stored h h' x → Q () ⟨h', g, d, tk', os⟩) (hw : PySem.Within mA ns) (hsz : ns.length < sizeLine) :
    wpAny (model prog w) A (setAttr (.ref x) name v) Q E ⟨h, g, d, t, os⟩ := by
  obtain ⟨o, hx, hc, hnc, hd⟩ := id I
  have f3 := SF.slot.bind (.ref x)
  unfold setAttr callSpecial? specialOf
  repeat (any_goals (first | assumption | (with_reducible refine wpAny_loadPart_at hx ?_; rw [hc]) | with_reducible refine hls.at ?_ | wp_step))
  refine codeAny_call_builtin SF.slot.plain SF.entry (check_sa SF hC hx hc (sa_entry SF hC hl ⟨o, hx, hc, hnc, hd⟩ (fun h' tk' I' S' => ?_) hw hsz))
  exact wpAny_pure (wpAny_pure (hq h' tk' I' S'))
end
end Mine
namespace Mine

theorem fillME2 : (fun (_ : OpenLaw) (_ : Params → Frag) => True) PySem.Challenge.rw_pc0124_01 hd.heap_39 := by
  w_top off
  k_fill
  trivial


theorem meta_exception : typeOf (.type "Exception") = pure (.type "type") := by kernel_rfl

theorem fr_but {g h h' : Heap} {L e : Addr} {m : Str → Option Value} (F : Fr g L h m) (hg : g.get? e = none) (hL : L ≠ e) (k : ∀ b o, b ≠ e → h.get? b = some o → h'.get? b = some o) : Fr g L h' m :=
  ⟨F.ns.at' fun o q => k L o hL q, fun b o q => k b o (fun z => by rw [z, hg] at q; cases q) (F.keep b o q), F.above⟩

theorem fault_ty {X : String} {b : Bool} (hb : ([.type "Exception", .type "BaseException", .type "object"] : List Value).contains (.type X) = b) : (Value.ref 40 :: [.type "Exception", .type "BaseException", .type "object"]).contains (.type X) = b := by
  rw [List.contains_cons, hb]
  rfl

abbrev faultObj (od : Option Addr) (t : Addr) : Obj := { cls := .ref 53, dict := od, data := .fields #[.ref t, .none, .none, .none, .bool false, .none] }

theorem fault_cls_of {K : Frag} {nm q : Str} {N : Addr} {bs : List Value} {sn : List Str} {sub : List Value} {ab : Bool} {col : Option Bool} {dd : Option Addr} {k0 k1 k2 k3 k5 : Option Value}
    (h : K.lookup 53 = some (excClassObj nm q 53 N bs (.ref 40 :: [.type "Exception", .type "BaseException", .type "object"]) true sn sub ab col dd k0 k1 k2 k3 k5 "Exception.__new__")) :
    ∃ nm q N bs sn sub ab col dd k0 k1 k2 k3 k5, K.lookup 53 = some (excClassObj nm q 53 N bs (.ref 40 :: [.type "Exception", .type "BaseException", .type "object"]) true sn sub ab col dd k0 k1 k2 k3 k5 "Exception.__new__") :=
  ⟨nm, q, N, bs, sn, sub, ab, col, dd, k0, k1, k2, k3, k5, h⟩
theorem fault_cls (w : World) : ∃ nm q N bs sn sub ab col dd k0 k1 k2 k3 k5, (Mine.hd.heap_39 w.params).lookup 53 = some (excClassObj nm q 53 N bs (.ref 40 :: [.type "Exception", .type "BaseException", .type "object"]) true sn sub ab col dd k0 k1 k2 k3 k5 "Exception.__new__") :=
  fault_cls_of (by k_is)

theorem store_fault {w : World} {A : Around} {s : Shared} {E : Value → Shared → Prop} {Q : Unit → Shared → Prop} {g : Heap} {L e t : Addr} {m mA : Str → Option Value} {od : Option Addr} {name : Str} {v : Value} {ns : List Str}
    (X : (Mine.hd.heap_39 w.params).In g) (F : Fr g L s.heap m) (hge : g.get? e = none) (hLe : L ≠ e) (he : s.heap.get? e = some (faultObj od t)) (I : s.heap.Inst e 53 mA) (hw : PySem.Within mA ns) (hsz : ns.length < sizeLine)
    (hod : ∀ dx, od = some dx → L ≠ dx ∧ g.get? dx = none) (hl : findIn (Mine.hd.heap_39 w.params) (.ref 53) name = some none)
    (hls : findIn (Mine.hd.heap_39 w.params) (.ref 53) "__setattr__" = some (some (.builtin "object.__setattr__")))
    (hq : ∀ h' tk' od', Fr g L h' m → h'.get? e = some (faultObj od' t) → h'.Inst e 53 (fun y => if y = name then some v else mA y) → (∀ dx, od' = some dx → L ≠ dx ∧ g.get? dx = none) → Q () { s with heap := h', toks := tk' }) :
    wpAny (model PR w) A (setAttr (.ref e) name v) Q E s := by
  obtain ⟨nm, q, N', bs, sn, sub, ab, col, dd, k0, k1, k2, k3, k5, hC⟩ := fault_cls w
  have Xs := X.keeps F.keep
  refine sa_attr PySem.F.store_Exception (F.keep _ _ (X _ _ hC)) (looks_findIn Xs hl) (looks_findIn Xs hls) I (fun h' tk' I' S' => ?_) hw hsz
  obtain ⟨o₁, e1, e2, e3, e4, e5⟩ := S'.2 _ he
  obtain ⟨oc, odd, odt, osl⟩ := o₁
  dsimp only at e2 e3 e4 e5
  subst e2 e3 e4
  have keep : ∀ b o, b ≠ e → (∀ dx, od = some dx → b ≠ dx) → s.heap.get? b = some o → h'.get? b = some o := fun b o hb hbd hbo =>
    S'.1 b o hb (fun o₀ dx h₀ hd => by rw [he] at h₀; cases h₀; exact hbd dx hd) hbo
  have hgE : ∀ b o, g.get? b = some o → b ≠ e := fun b o e z => by rw [z, hge] at e; cases e
  have hgD : ∀ b o, g.get? b = some o → ∀ dx, od = some dx → b ≠ dx := fun b o e dx hd z => by rw [z, (hod dx hd).2] at e; cases e
  refine hq h' tk' odd ⟨F.ns.at' fun o q => keep L o hLe (fun dx hd => (hod dx hd).1) q, fun b o q => keep b o (hgE b o q) (hgD b o q) (F.keep b o q), F.above⟩ e1 I' (fun dx hd => ?_)
  rcases e5 dx hd with q | q
  · exact hod dx q
  · refine ⟨fun z => ?_, ?_⟩
    · obtain ⟨oL, es, ep, hL, _⟩ := F.ns
      rw [z, q] at hL
      cases hL
    · cases h0 : g.get? dx with
      | none => rfl
      | some o => have := F.keep dx o h0; rw [q] at this; cases this

theorem init_code {w : World} {p : Program} {loose : List Str} {mean : ExcName → Option Value} {mg mb : Str → Option Value} {s : Shared} {dp un : Nat} {gd : Option (List Code)} {fr : Option (List Env)} {R : Result → Shared → Prop}
    {e t : Addr} {x : Str} {tk : Tok} (X : (Mine.hd.heap_39 w.params).In (hideAll s.heap [e])) (T : Top p loose mean mg mb (hideAll s.heap [e])) (hdp : dp + 2 < recursionLimit)
    (he : s.heap.get? e = some (faultObj none t))
    (hq : ∀ h' tk, (∀ b o, b ≠ e → s.heap.get? b = some o → h'.get? b = some o) → (∃ od t', h'.get? e = some (faultObj od t')) → R (.ok (.ret .none)) { s with heap := h', toks := tk }) :
    codeAny (model PR w) (topA dp un gd fr) (.call (.ref 30) ⟨[.ref e, .str x tk], []⟩) R s := by
  have st : (hideAll s.heap [e]).StaysIn s.heap := fun b o q => of_hideAll _ q
  have Xs : (Mine.hd.heap_39 w.params).In s.heap := X.keeps st
  refine' enterH (binds := [(Str.ofString "self", .ref e), (Str.ofString "what", .str x tk), (Str.ofString "at", .ref 22)]) [(e, faultObj none t)] X T ?hN ?k1 ?k2 ?k3 ?k4 ?k5 ?_ ?c2 ?c3 ?c4 ?c5
  case hN => intro q hq; rw [List.mem_singleton.mp hq]; exact he
  case k1 => k_is
  case k2 => k_is
  case k3 => show dp < recursionLimit; (first | lia | omega)
  case k4 => exact binds_K Xs rfl (by k_is) rfl rfl rfl
  case k5 => exact locs rfl
  case c2 => exact rfl
  case c3 => exact rfl
  case c4 => exact rfl
  case c5 => decide
  intro L h₁ F N hL
  simp only [List.map_cons, List.map_nil] at F N
  try dsimp only
  try k_fold
  k_with_none
  k_with "call builtin:Exception.__init__" => (refine' halt ?_)
  k_with "setAttr ref" => (refine' halt ?_)
  k_with "getMethod type:Exception" => (refine' halt ?_)
  repeat' (first | (k_unfold; (try dsimp only)) | (k_end; wrow_close) | ((try dsimp only); walk1) | (leave1; walk_say "STEP leave1"; try dsimp only) | fail "no step")
  refine Halt.mk ?_
  refine' method_type ?F ?X ?m (by decide +kernel) ?e ?h ?_
  case F => k_asm
  case X => k_asm
  case m => exact meta_exception
  case e => k_is
  case h => k_handed
  repeat' (first | (k_unfold; (try dsimp only)) | (k_end; wrow_close) | ((try dsimp only); walk1) | (leave1; walk_say "STEP leave1"; try dsimp only) | fail "no step")
  all_goals refine Halt.mk ?_
  have hge : (hideAll s.heap [e]).get? e = none := hideAll_none _ (.head _)
  have hLe : L ≠ e := fun q => by have := (N _ (.head _)).2.1; exact this q.symm
  have hC := fault_cls w
  obtain ⟨nm, q, N', bs, sn, sub, ab, col, dd, k0, k1, k2, k3, k5, hC⟩ := hC
  have hC53 := fun (H : Heap) (k : (hideAll s.heap [e]).StaysIn H) => k _ _ (X _ _ hC)
  refine exc_init_call (t0 := t) (od := none) PySem.F.excBase_Exception (fun h => fault_ty h) (hC53 _ F.keep) (N.get (.head _)) (show 1 ≤ sizeLine by decide) (fun h2 hk2 he2 => ?_)
  have F2 := fr_but F hge hLe hk2
  have N2 : News (hideAll s.heap [e]) L h2 [(e, faultObj none h₁.objs.size)] := fun q hq => by
    rw [List.mem_singleton.mp hq]; exact ⟨he2, fun z => hLe z.symm, hge⟩
  clear F N
  try dsimp only
  try k_fold
  repeat' (first | (k_unfold; (try dsimp only)) | (k_end; wrow_close) | ((try dsimp only); walk1) | (leave1; walk_say "STEP leave1"; try dsimp only) | fail "no step")
  refine Halt.mk ?_
  rename Fr _ _ _ _ => F
  rename News _ _ _ _ => N
  refine store_fault X F hge hLe he2 ⟨_, he2, rfl, fun c q => (by cases q), .inl ⟨rfl, fun _ => rfl⟩⟩ PySem.Within.nil (by decide) (fun dx q => by cases q) (by k_is) (by k_is) (fun h3 tk3 od3 F3 he3 I3 hod3 => ?_)
  clear F N
  have N3 : News (hideAll s.heap [e]) L h3 [(e, faultObj od3 h₁.objs.size)] := fun q hq => by
    rw [List.mem_singleton.mp hq]; exact ⟨he3, fun z => hLe z.symm, hge⟩
  try dsimp only
  try k_fold
  repeat' (first | (k_unfold; (try dsimp only)) | (k_end; wrow_close) | ((try dsimp only); walk1) | (leave1; walk_say "STEP leave1"; try dsimp only) | fail "no step")
  refine Halt.mk ?_
  rename Fr _ _ _ _ => F
  rename News _ _ _ _ => N
  refine store_fault X F hge hLe he3 I3 (PySem.Within.cons _ _ PySem.Within.nil) (by decide) hod3 (by k_is) (by k_is) (fun h4 tk4 od4 F4 he4 I4 hod4 => ?_)
  clear F N
  have N4 : News (hideAll s.heap [e]) L h4 [(e, faultObj od4 h₁.objs.size)] := fun q hq => by
    rw [List.mem_singleton.mp hq]; exact ⟨he4, fun z => hLe z.symm, hge⟩
  try dsimp only
  try k_fold
  repeat' (first | (k_unfold; (try dsimp only)) | (k_end; wrow_close) | ((try dsimp only); walk1) | (leave1; walk_say "STEP leave1"; try dsimp only) | fail "no step")
  try k_unfold
  try dsimp only
  exact hq _ _ (fun b o hb q => F4.keep b o (hideAll_get [e] q (by simpa using hb))) ⟨_, _, he4⟩
end Mine
namespace Mine

theorem fillME3 : (fun (_ : OpenLaw) (_ : Params → Frag) => True) PySem.Challenge.rw_pc0124_01 hd.heap_39 := by
  w_top off
  k_fill
  trivial


theorem raise_fault {w : World} {p : Program} {loose : List Str} {mean : ExcName → Option Value} {mg mb : Str → Option Value} {s : Shared} {dp un : Nat} {gd : Option (List Code)} {fr : Option (List Env)} {Q : Flow → Shared → Prop} {E : Value → Shared → Prop}
    {h₀ : Heap} {L a : Addr} {m : Str → Option Value} {news : List (Addr × Obj)} {cn : Str} {cs : Scope} {ccd : Value} {txt : Str} {np cp cpos pos : Pos} {k : Nat}
    (X : (Mine.hd.heap_39 w.params).In h₀) (T : Top p loose mean mg mb h₀) (F : Fr h₀ L s.heap m) (N : News h₀ L s.heap news) (hdp : dp + 6 < recursionLimit)
    (hE : ∀ h' tk e, s.heap.StaysIn h' → s.heap.get? e = none → (∃ od t, h'.get? e = some (faultObj od t)) → E (.ref e) { s with heap := h', toks := tk })
    (hk : cs.kind = .function) (hx : (envOf cn cs L a ccd).kindOf (Str.ofString "SizeFault") = some .globalImplicit) :
    wpAny (model PR w) (topA dp un gd fr) (exec (.Raise (some (.Call (.Name (Str.ofString "SizeFault") np) [.Constant (.str txt) k cp] [] cpos)) none pos) (envOf cn cs L a ccd)) Q E s := by
  obtain ⟨nm, q, N', bs, sn, sub, ab, col, dd, k0, k1, k2, k3, k5, hC⟩ := fault_cls w
  have st : h₀.StaysIn s.heap := F.keep
  rw [arm_exec_Raise]
  simp only [evalOpt, Option.map]
  refine wpAny_bind (wpAny_standAt (raise_made (C := 53) (nm := nm) (q := q) (N := N') (bs := bs) (bm := .ref 40 :: [.type "Exception", .type "BaseException", .type "object"]) (hdct := true) (sn := sn) (sub := sub) (ab := ab) (col := col) (dd := dd) (k0 := k0) (k1 := k1) (k2 := k2) (k3 := k3) (k5 := k5) (newId := "Exception.__new__") (by decide) rfl (wpAny_bind ?_)))
  k_with_none
  k_with "call ref" => (refine' halt ?_)
  walk1
  refine nameX_K F X (topRead_of T) (by k_is) ?_ hk hx
  k_steps
  refine Halt.mk ?_
  have kH : s.heap.StaysIn ((s.heap.push { cls := .type "tuple", data := .seq [Value.str txt s.toks].toArray }).push (faultObj none s.heap.objs.size)) := fun b o e => Heap.get?_push_of_some _ (Heap.get?_push_of_some _ e)
  have hn : s.heap.get? (s.heap.objs.size + 1) = none := Heap.get?_none_of_le (Nat.le_succ _)
  have hn0 : h₀.get? (s.heap.objs.size + 1) = none := by
    cases q : h₀.get? (s.heap.objs.size + 1) with
    | none => rfl
    | some o => have := st _ _ q; rw [hn] at this; cases this
  have kg : h₀.StaysIn (hideAll ((s.heap.push { cls := .type "tuple", data := .seq [Value.str txt s.toks].toArray }).push (faultObj none s.heap.objs.size)) [s.heap.objs.size + 1]) :=
    stays_hide (fun b o e => kH b o (st b o e)) (fun a ha => by rw [List.mem_singleton.mp ha]; exact hn0)
  refine exc_call (fI := 30) PySem.F.excBase_Exception (fun h => fault_ty h) (st _ _ (X _ _ hC)) (looks_findIn (X.keeps st) (by k_is)) (fun self => bind_fn (X.keeps st) self (by k_is)) ?_ (show 1 ≤ sizeLine by decide)
  refine init_code (t := s.heap.objs.size) (X.keeps kg) (T.keeps kg) ?hdp ?he (fun h' tk' k' hx' => ?_)
  case hdp =>
    have hwt : (Code.builtin "type.__call__" { pos := [Value.ref 53, Value.str txt s.toks] }).weight = 1 := by rfl
    rw [hwt]; show dp + 1 + 2 < recursionLimit; (first | lia | omega)
  case he => exact Heap.get?_push_at (by rw [Heap.size_push]) rfl
  refine ⟨rfl, ?_⟩
  obtain ⟨od, t', he'⟩ := hx'
  have kAll : s.heap.StaysIn h' := fun b o e => k' b o (fun z => by rw [z, hn] at e; cases e) (kH b o e)
  exact wpAny_bind (wpAny_standAt (wpAny_pure ⟨_, t', od, rfl, kAll _ _ (st _ _ (X _ _ hC)), he', hE h' tk' _ kAll hn ⟨od, t', he'⟩⟩))
end Mine
namespace Mine
local macro_rules | `(tactic| walk_at "binaryOp FloorDiv int int") => `(tactic| (k_dflt (refine fdivR (by first | with_reducible assumption | decide) (by first | with_reducible assumption | exact bd_10) ?_)))
local macro_rules | `(tactic| walk_at "binaryOp Mult int int") => `(tactic| (k_dflt (refine mulR (by with_reducible assumption) ?_)))
local macro_rules | `(tactic| walk_at "subscriptTail") => `(tactic| ((with_reducible show wpAny _ _ (subscriptTail _ _ (Value.ref _) (Value.int _ _)) _ _ _); (rename Fr _ _ _ _ => F9); k_dflt (refine item_h F9 (by with_reducible assumption) (by rfl) (by rfl) ?_)))
local macro_rules | `(tactic| walk_at "binaryOp Pow int int") => `(tactic| (k_dflt (refine pow10R (by first | with_reducible assumption | decide | omega) (by first | with_reducible assumption | decide | omega) ?_)))
local macro_rules | `(tactic| walk_at "ite") => `(tactic| ((try dsimp only); first
  | (k_closed; k_dflt (first | refine ite_pos (by decide) ?_ | refine ite_neg (by decide) ?_))
  | with_reducible refine ite_tt ?_
  | with_reducible refine ite_ff ?_
  | refine ite_pos (by with_reducible assumption) ?_
  | refine ite_neg (by with_reducible assumption) ?_
  | refine ite_isFalse (by with_reducible assumption) ?_
  | refine ite_pos (by first | omega | ((simp only [decide_eq_true_eq, beq_iff_eq, bne_iff_ne, ne_eq]); omega)) ?_
  | refine ite_neg (by first | omega | ((simp only [decide_eq_true_eq, beq_iff_eq, bne_iff_ne, ne_eq]); omega)) ?_))
local macro_rules | `(tactic| walk_at "callWith") => `(tactic| first | with_reducible refine callWith_method0 ?_ | with_reducible refine callWith_method1 ?_)
section
theorem fillMF : (fun (_ : OpenLaw) (_ : Params → Frag) => True) PySem.Challenge.rw_pc0124_01 hd.heap_39 := by
  w_top off
  k_fill
  trivial




noncomputable def Flt (base : Heap) (outer : List Env) (e : Addr) (g h' : Heap) : Prop := Heap.Flying base outer e (.ref 53) h' ∧ g.UpToSlots h'

theorem flt_first {M : Model} {A : Around} {E' : Value → Shared → Prop} {Ex : Value → Shared → Prop} {s' : Shared} {base g : Heap} {outer : List Env} {env : Env} {L e t : Addr} {m : Str → Option Value} {od : Option Addr}
    (hfr : A.frames = some (env :: outer)) (hf : env.frame = some L) (hk : env.scope.kind = .function) (hB : base.StaysIn g) (hFF : g.FunFrames base outer) (kH : g.StaysIn s'.heap) (hL : g.get? L = none) (hn : s'.heap.Ns L m)
    (he : s'.heap.get? e = some (faultObj od t)) (hne : g.get? e = none) (hQ : ∀ h', Flt base outer e g h' → E' (.ref e) { s' with heap := h' }) :
    wpAny M A (leaving env (.ref e)) (fun _ s'' => E' (.ref e) s'') Ex s' := by
  have nb : ∀ a, g.get? a = none → base.get? a = none := fun a q => by
    cases q' : base.get? a with
    | none => rfl
    | some o => have := hB _ _ q'; rw [q] at this; cases this
  have FF : s'.heap.FunFrames base (env :: outer) := Heap.FunFrames.cons (by rw [hk]; decide) hf hn (nb L hL) (hFF.of_keeps fun b o q _ => ⟨o, kH b o q, rfl⟩)
  refine wpAny_leaving_first hfr FF hf he (fun b o q => kH b o (hB b o q)) (nb e hne) rfl rfl fun h' hl => ?_
  obtain ⟨l1, ⟨_, _, l2⟩, l3, l4⟩ := hl
  exact hQ h' ⟨⟨l1, nb e hne, l2, l3⟩, fun b o q hd => l4 b o (kH b o q) hd⟩

theorem flt_next {M : Model} {A : Around} {E' : Value → Shared → Prop} {Ex : Value → Shared → Prop} {s' : Shared} {base g g₁ : Heap} {outer : List Env} {env : Env} {L e : Addr}
    (hfr : A.frames = some (env :: outer)) (hf : env.frame = some L) (kH : g.UpToSlots g₁) (hfl : Flt base (env :: outer) e g₁ s'.heap)
    (hQ : ∀ h', Flt base outer e g h' → E' (.ref e) { s' with heap := h' }) :
    wpAny M A (leaving env (.ref e)) (fun _ s'' => E' (.ref e) s'') Ex s' := by
  obtain ⟨⟨f1, f2, f3, f4⟩, f5⟩ := hfl
  refine wpAny_leaving_next hfr f3 hf f4 f1 f2 fun h' hl => ?_
  obtain ⟨l1, ⟨_, _, l2⟩, l3, l4⟩ := hl
  exact hQ h' ⟨⟨l1, f2, l2, l3⟩, (kH.trans f5).trans l4⟩

theorem keptB {u : Int} {n : Nat} (h : (30 : Int) < (n : Int)) : keptO u n =
    if (cut u (10 ^ ((n : Int) - 30).toNat)).natAbs < 10 ^ 120 then some (norm (cut u (10 ^ ((n : Int) - 30).toNat)) 30) else none := by
  have := @keptO_big u n 0 (by (first | lia | omega))
  simpa only [Nat.add_zero, Int.natCast_zero, Int.add_zero] using this
theorem keptS {u : Int} {n : Nat} (h : ¬ (30 : Int) < (n : Int)) : keptO u n = if u.natAbs < 10 ^ 120 then some (norm u n) else none := by
  have := @keptO_small u n 0 (by (first | lia | omega))
  simpa only [Nat.add_zero] using this
theorem kept_spec {w : World} {p : Program} {loose : List Str} {mean : ExcName → Option Value} {mg mb : Str → Option Value} {s : Shared} {dp un : Nat} {gd : Option (List Code)} {fr : Option (List Env)} {Q E : Value → Shared → Prop} {u : Int} {n : Nat} {t1 t2 : Tok} {base : Heap} {outer : List Env} (X : (hd.heap_39 w.params).In s.heap) (T : Top p loose mean mg mb s.heap) (hdp : dp + 8 < recursionLimit) (hn : n ≤ 60)
    (hfr : fr = some outer) (hB : base.StaysIn s.heap) (hFF : s.heap.FunFrames base outer)
    (hret : ∀ x, keptO u n = some x → ∀ h' tk v, Heap.StaysIn s.heap h' → Reads h' v (numD x) [] → Q v { s with heap := h', toks := tk })
    (hraise : keptO u n = none → ∀ e h' tk, Flt base outer e s.heap h' → E (.ref e) { s with heap := h', toks := tk }) :
    wpAny (model PR w) (topA dp un gd fr) (call (.ref 77) [.int u t1, .int (n : Int) t2]) Q E s := by
  subst hfr
  refine' enter (binds := [(Str.ofString "units", .int u t1), (Str.ofString "scale", .int (n : Int) t2)]) X T ?k1 ?k2 ?k3 ?k4 ?k5 ?_ ?c2 ?c3 ?c4 ?c5
  case k1 => k_is
  case k2 => k_is
  case k3 => (first | assumption | ((try simp only [topA, depth_deeper] at *); (first | lia | omega)))
  case k4 => first | exact BindsTo.of_eq rfl | exact binds_K (by k_in) rfl (by k_is) rfl rfl rfl
  case k5 => exact locs rfl
  case c2 => exact rfl
  case c3 => exact rfl
  case c4 => exact rfl
  case c5 => decide
  intro L h₁ F N hL
  try dsimp only
  try k_fold
  k_with_none
  k_with "call ref" => (rename Fr _ _ _ _ => F9; rename News _ _ _ _ => N9; refine' cutq_spec (Frag.In.keeps X F9.keep) (T.keeps F9.keep) ?hd (pow10_ne _) ((Bd.pow10 _).mono (by (first | lia | omega))) ?_; (case hd => first | (first | lia | omega) | ((simp only [topA]); (first | lia | omega))); (rintro h2 tk2 t9 hS; have F2 := F9.keeps hS; have N2 := N9.grown hS; clear F9 N9; (try dsimp only); skip; (try k_fold)))
  k_with "call ref" => (rename Fr _ _ _ _ => F9; rename News _ _ _ _ => N9; refine' fits_spec (Frag.In.keeps X F9.keep) (T.keeps F9.keep) ?hd ?_; (case hd => first | (first | lia | omega) | ((simp only [topA]); (first | lia | omega))); (rintro h2 tk2 hS; have F2 := F9.keeps hS; have N2 := N9.grown hS; clear F9 N9; (try dsimp only); skip; (try k_fold)))
  k_with "call ref" => (rename Fr _ _ _ _ => F9; rename News _ _ _ _ => N9; refine' decimal_spec (Frag.In.keeps X F9.keep) (T.keeps F9.keep) (n := 30) ?hd ?_; (case hd => first | (first | lia | omega) | ((simp only [topA]); (first | lia | omega))); (rintro h2 tk2 v2 hS hI; have F2 := F9.keeps hS; have N2 := N9.grown hS; clear F9 N9; (try dsimp only); skip; (try k_fold)))
  k_with "call ref" => (rename Fr _ _ _ _ => F9; rename News _ _ _ _ => N9; refine' decimal_spec (Frag.In.keeps X F9.keep) (T.keeps F9.keep) (n := n) ?hd ?_; (case hd => first | (first | lia | omega) | ((simp only [topA]); (first | lia | omega))); (rintro h2 tk2 v2 hS hI; have F2 := F9.keeps hS; have N2 := N9.grown hS; clear F9 N9; (try dsimp only); skip; (try k_fold)))
  k_with "exec Raise some none" => (refine' halt ?_)
  repeat' (first | (k_unfold; (try dsimp only)) | (k_end; wrow_close) | ((try dsimp only); walk1) | (leave1; walk_say "STEP leave1"; try dsimp only) | fail "no step")
  · refine hret _ ?_ _ _ _ (Fr.keep (by assumption)) (by assumption)
    rw [keptB (by assumption), if_pos (by assumption)]
  · have hz : keptO u n = none := by rw [keptB (by assumption), if_neg (by assumption)]
    refine Halt.mk ?_
    rename Fr _ _ _ _ => F9; rename News _ _ _ _ => N9
    refine raise_fault X T F9 N9 ?hd9 (fun h' tk' e kH hne ⟨od, t, he⟩ => ?_) rfl rfl
    case hd9 => (try simp only [topA, depth_deeper]); (first | lia | omega)
    have k9 := fun b o q => kH b o (F9.keep b o q)
    exact flt_first (t := t) (od := od) (base := base) (g := s.heap) (outer := outer) (L := L) rfl rfl rfl hB hFF k9 (Heap.get?_none_of_le (Nat.le_of_eq hL.symm)) (F9.keeps kH).ns he (none_back F9.keep hne) (fun h'' hF => hraise hz _ _ _ hF)
  · refine hret _ ?_ _ _ _ (Fr.keep (by assumption)) (by assumption)
    rw [keptS (by assumption), if_pos (by assumption)]
  · have hz : keptO u n = none := by rw [keptS (by assumption), if_neg (by assumption)]
    refine Halt.mk ?_
    rename Fr _ _ _ _ => F9; rename News _ _ _ _ => N9
    refine raise_fault X T F9 N9 ?hd9 (fun h' tk' e kH hne ⟨od, t, he⟩ => ?_) rfl rfl
    case hd9 => (try simp only [topA, depth_deeper]); (first | lia | omega)
    have k9 := fun b o q => kH b o (F9.keep b o q)
    exact flt_first (t := t) (od := od) (base := base) (g := s.heap) (outer := outer) (L := L) rfl rfl rfl hB hFF k9 (Heap.get?_none_of_le (Nat.le_of_eq hL.symm)) (F9.keeps kH).ns he (none_back F9.keep hne) (fun h'' hF => hraise hz _ _ _ hF)
end
section
theorem fillMF2 : (fun (_ : OpenLaw) (_ : Params → Frag) => True) PySem.Challenge.rw_pc0124_01 hd.heap_39 := by
  w_top off
  k_fill
  trivial




theorem stays_upTo {g h : Heap} (k : g.StaysIn h) : g.UpToSlots h := fun b o q _ => ⟨o.slots, k b o q⟩

theorem ff_cons {base g h : Heap} {outer : List Env} {env : Env} {L : Addr} {m : Str → Option Value} (hf : env.frame = some L) (hk : env.scope.kind = .function) (hL : L = g.objs.size) (F : Fr g L h m)
    (hB : base.StaysIn g) (hFF : g.FunFrames base outer) : h.FunFrames base (env :: outer) :=
  Heap.FunFrames.cons (by rw [hk]; decide) hf F.ns (none_back hB (Heap.get?_none_of_le (Nat.le_of_eq hL.symm))) (hFF.of_keeps fun b o q _ => ⟨o, F.keep b o q, rfl⟩)

theorem times_spec {w : World} {p : Program} {loose : List Str} {mean : ExcName → Option Value} {mg mb : Str → Option Value} {s : Shared} {dp un : Nat} {gd : Option (List Code)} {fr : Option (List Env)} {Q E : Value → Shared → Prop} {v1 v2 : Value} {x y : Num} {n : Nat} {base : Heap} {outer : List Env} (X : (hd.heap_39 w.params).In s.heap) (T : Top p loose mean mg mb s.heap) (hd : dp + 9 < recursionLimit) (hv1 : Reads s.heap v1 (numD x) []) (hv2 : Reads s.heap v2 (numD y) []) (hbx : Bd n x.1) (hx : x.2 ≤ 30) (hby : Bd n y.1) (hy : y.2 ≤ 30) (hn : n ≤ 100000)
    (hfr : fr = some outer) (hB : base.StaysIn s.heap) (hFF : s.heap.FunFrames base outer)
    (hret : ∀ z, timesO x y = some z → ∀ h' tk v, Heap.StaysIn s.heap h' → Reads h' v (numD z) [] → Q v { s with heap := h', toks := tk })
    (hraise : timesO x y = none → ∀ e h' tk, Flt base outer e s.heap h' → E (.ref e) { s with heap := h', toks := tk }) :
    wpAny (model PR w) (topA dp un gd fr) (call (.ref 105) [v1, v2]) Q E s := by
  subst hfr
  obtain ⟨a, t1, t2, rfl, hI⟩ := num_open hv1
  obtain ⟨b, t3, t4, rfl, hI2⟩ := num_open hv2
  have hm : IntMulOk x.1 y.1 := hbx.ok hby (by (first | lia | omega))
  refine' enter (binds := [(Str.ofString "a", .ref a), (Str.ofString "b", .ref b)]) X T ?k1 ?k2 ?k3 ?k4 ?k5 ?_ ?c2 ?c3 ?c4 ?c5
  case k1 => k_is
  case k2 => k_is
  case k3 => (first | assumption | ((try simp only [topA, depth_deeper] at *); (first | lia | omega)))
  case k4 => first | exact BindsTo.of_eq rfl | exact binds_K (by k_in) rfl (by k_is) rfl rfl rfl
  case k5 => exact locs rfl
  case c2 => exact rfl
  case c3 => exact rfl
  case c4 => exact rfl
  case c5 => decide
  intro L h₁ F N hL
  try dsimp only
  try k_fold
  k_with_none
  k_with "call ref" => (rename Fr _ _ _ _ => F9; rename News _ _ _ _ => N9; refine' kept_spec (Frag.In.keeps X F9.keep) (T.keeps F9.keep) (n := x.2 + y.2) ?hdx1 (by (first | lia | omega)) ?hfr9x1 (fun b o q => F9.keep b o (hB b o q)) (ff_cons (env := (envOf _ _ _ _ _)) rfl ?hk9x1 hL F9 hB hFF) ?hr9x1 ?hx9x1; (case hfr9x1 => rfl); (case hk9x1 => rfl); (case hdx1 => first | (first | lia | omega) | ((simp only [topA]); (first | lia | omega))); (case hx9x1 => (rintro hz e h' tk hF; refine flt_next rfl rfl (stays_upTo F9.keep) hF (fun h'' hF => ?_); exact hraise hz _ _ _ hF)); (case' hr9x1 => (rintro z hz h2 tk2 v2 hS hI; have F2 := F9.keeps hS; have N2 := N9.grown hS; clear F9 N9; (try dsimp only); skip; (try k_fold))))
  repeat' (first | (k_unfold; (try dsimp only)) | (k_end; wrow_close) | ((try dsimp only); walk1) | (leave1; walk_say "STEP leave1"; try dsimp only) | fail "no step")
  exact hret _ hz _ _ _ (Fr.keep (by assumption)) (by assumption)

theorem overO_some {x y : Num} (h : ¬ y.1 = 0) : overO x y = some (norm (cut (x.1 * 10 ^ ((30 : Int) + (y.2 : Int)).toNat) (y.1 * 10 ^ ((x.2 : Int)).toNat)) 30) := by
  have e1 : ((30 : Int) + (y.2 : Int)).toNat = 30 + y.2 := by (first | lia | omega)
  have e2 : ((x.2 : Int)).toNat = x.2 := by (first | lia | omega)
  unfold overO
  rw [if_neg h, e1, e2]

theorem quotient_spec {w : World} {p : Program} {loose : List Str} {mean : ExcName → Option Value} {mg mb : Str → Option Value} {s : Shared} {dp un : Nat} {gd : Option (List Code)} {fr : Option (List Env)} {Q E : Value → Shared → Prop} {v1 v2 : Value} {x y : Num} {n : Nat} {base : Heap} {outer : List Env} (X : (hd.heap_39 w.params).In s.heap) (T : Top p loose mean mg mb s.heap) (hd : dp + 9 < recursionLimit) (hv1 : Reads s.heap v1 (numD x) []) (hv2 : Reads s.heap v2 (numD y) []) (hbx : Bd n x.1) (hx : x.2 ≤ 30) (hby : Bd n y.1) (hy : y.2 ≤ 30) (hn : n ≤ 8800)
    (hfr : fr = some outer) (hB : base.StaysIn s.heap) (hFF : s.heap.FunFrames base outer)
    (hret : ∀ z, overO x y = some z → ∀ h' tk v, Heap.StaysIn s.heap h' → Reads h' v (numD z) [] → Q v { s with heap := h', toks := tk })
    (hraise : overO x y = none → ∀ e h' tk, Flt base outer e s.heap h' → E (.ref e) { s with heap := h', toks := tk }) :
    wpAny (model PR w) (topA dp un gd fr) (call (.ref 120) [v1, v2]) Q E s := by
  subst hfr
  obtain ⟨a, t1, t2, rfl, hI⟩ := num_open hv1
  obtain ⟨b, t3, t4, rfl, hI2⟩ := num_open hv2
  have hm1 : IntMulOk x.1 (10 ^ ((30 : Int) + (y.2 : Int)).toNat) := hbx.ok (Bd.pow10 _) (by (first | lia | omega))
  have hm2 : IntMulOk y.1 (10 ^ ((x.2 : Int)).toNat) := hby.ok (Bd.pow10 _) (by (first | lia | omega))
  refine' enter (binds := [(Str.ofString "a", .ref a), (Str.ofString "b", .ref b), (Str.ofString "many", .int 30 247)]) X T ?k1 ?k2 ?k3 ?k4 ?k5 ?_ ?c2 ?c3 ?c4 ?c5
  case k1 => k_is
  case k2 => k_is
  case k3 => (first | assumption | ((try simp only [topA, depth_deeper] at *); (first | lia | omega)))
  case k4 => first | exact BindsTo.of_eq rfl | exact binds_K (by k_in) rfl (by k_is) rfl rfl rfl
  case k5 => exact locs rfl
  case c2 => exact rfl
  case c3 => exact rfl
  case c4 => exact rfl
  case c5 => decide
  intro L h₁ F N hL
  try dsimp only
  try k_fold
  k_with_none
  k_with "call ref" => (rename Fr _ _ _ _ => F9; rename News _ _ _ _ => N9; refine' cutq_spec (Frag.In.keeps X F9.keep) (T.keeps F9.keep) ?hd (Int.mul_ne_zero (by assumption) (pow10_ne _)) ((hby.mul (Bd.pow10 _)).mono (by (first | lia | omega))) ?_; (case hd => first | (first | lia | omega) | ((simp only [topA]); (first | lia | omega))); (rintro h2 tk2 t9 hS; have F2 := F9.keeps hS; have N2 := N9.grown hS; clear F9 N9; (try dsimp only); skip; (try k_fold)))
  k_with "call ref" => (rename Fr _ _ _ _ => F9; rename News _ _ _ _ => N9; refine' decimal_spec (Frag.In.keeps X F9.keep) (T.keeps F9.keep) (n := 30) ?hd ?_; (case hd => first | (first | lia | omega) | ((simp only [topA]); (first | lia | omega))); (rintro h2 tk2 v2 hS hI; have F2 := F9.keeps hS; have N2 := N9.grown hS; clear F9 N9; (try dsimp only); skip; (try k_fold)))
  k_with "exec Raise some none" => (refine' halt ?_)
  repeat' (first | (k_unfold; (try dsimp only)) | (k_end; wrow_close) | ((try dsimp only); walk1) | (leave1; walk_say "STEP leave1"; try dsimp only) | fail "no step")
  · have hz : overO x y = none := by unfold overO; rw [if_pos (by assumption)]
    refine Halt.mk ?_
    rename Fr _ _ _ _ => F9; rename News _ _ _ _ => N9
    refine raise_fault X T F9 N9 ?hd9 (fun h' tk' e kH hne ⟨od, t, he⟩ => ?_) rfl rfl
    case hd9 => (try simp only [topA, depth_deeper]); (first | lia | omega)
    have k9 := fun b o q => kH b o (F9.keep b o q)
    exact flt_first (t := t) (od := od) (base := base) (g := s.heap) (outer := outer) (L := L) rfl rfl rfl hB hFF k9 (Heap.get?_none_of_le (Nat.le_of_eq hL.symm)) (F9.keeps kH).ns he (none_back F9.keep hne) (fun h'' hF => hraise hz _ _ _ hF)
  · exact hret _ (overO_some (by assumption)) _ _ _ (Fr.keep (by assumption)) (by assumption)
end
section
theorem fillMF3 : (fun (_ : OpenLaw) (_ : Params → Frag) => True) PySem.Challenge.rw_pc0124_01 hd.heap_39 := by
  w_top off
  k_fill
  trivial




theorem iterO_none {x : Num} {i : Nat} (h : iterO x i = none) : ∀ k, i ≤ k → iterO x k = none := by
  intro k
  induction k with
  | zero => intro q; have : i = 0 := by (first | lia | omega)
            subst this; exact h
  | succ k ih =>
    intro q
    by_cases e : i = k + 1
    · exact e ▸ h
    · show (iterO x k).bind _ = none
      rw [ih (by (first | lia | omega))]; rfl
theorem iterO_step {x f : Num} {i : Nat} (h : iterO x i = some f) : iterO x (i + 1) = timesO f x := by
  show (iterO x i).bind _ = _
  rw [h]; rfl
theorem powO_none {x y : Num} {i : Nat} (h : iterO x i = none) (hi : i ≤ y.1.natAbs) : powO x y = none := by
  unfold powO
  split
  · rfl
  · rw [iterO_none h _ hi]; rfl

theorem power_spec {w : World} {p : Program} {loose : List Str} {mean : ExcName → Option Value} {mg mb : Str → Option Value} {s : Shared} {dp un : Nat} {gd : Option (List Code)} {fr : Option (List Env)} {Q E : Value → Shared → Prop} {v1 v2 : Value} {x y : Num} {n : Nat} {base : Heap} {outer : List Env} (X : (hd.heap_39 w.params).In s.heap) (T : Top p loose mean mg mb s.heap) (hd : dp + 10 < recursionLimit) (hv1 : Reads s.heap v1 (numD x) []) (hv2 : Reads s.heap v2 (numD y) []) (hbx : Bd n x.1) (hx : x.2 ≤ 30) (hn : n ≤ 8800) (hn4 : 400 ≤ n)
    (hfr : fr = some outer) (hB : base.StaysIn s.heap) (hFF : s.heap.FunFrames base outer)
    (hret : ∀ z, powO x y = some z → ∀ h' tk v, Heap.StaysIn s.heap h' → Reads h' v (numD z) [] → Q v { s with heap := h', toks := tk })
    (hraise : powO x y = none → ∀ e h' tk, Flt base outer e s.heap h' → E (.ref e) { s with heap := h', toks := tk }) :
    wpAny (model PR w) (topA dp un gd fr) (call (.ref 127) [v1, v2]) Q E s := by
  subst hfr
  obtain ⟨a, t1, t2, rfl, hI⟩ := num_open hv1
  obtain ⟨b, t3, t4, rfl, hI2⟩ := num_open hv2
  refine' enter (binds := [(Str.ofString "a", .ref a), (Str.ofString "b", .ref b)]) X T ?k1 ?k2 ?k3 ?k4 ?k5 ?_ ?c2 ?c3 ?c4 ?c5
  case k1 => k_is
  case k2 => k_is
  case k3 => (first | assumption | ((try simp only [topA, depth_deeper] at *); (first | lia | omega)))
  case k4 => first | exact BindsTo.of_eq rfl | exact binds_K (by k_in) rfl (by k_is) rfl rfl rfl
  case k5 => exact locs rfl
  case c2 => exact rfl
  case c3 => exact rfl
  case c4 => exact rfl
  case c5 => decide
  intro L h₁ F N hL
  try dsimp only
  try k_fold
  k_with_none
  have hab : ((if y.1 < 0 then -y.1 else y.1) : Int) = (y.1.natAbs : Int) := by split <;> (first | lia | omega)
  k_with "exec For" => ((rename Fr _ _ _ _ => F9); refine' For_invVF F9 ?hx ?hp ?_; (case hx => rfl); (case hp => rfl))
  k_with "pyIter ref" => (refine' halt ?_)
  k_with "exec Raise some none" => (refine' halt ?_)
  repeat' (first | (k_unfold; (try dsimp only)) | (k_end; wrow_close) | ((try dsimp only); walk1) | (leave1; walk_say "STEP leave1"; try dsimp only) | fail "no step")
  · have hz : powO x y = none := powO_bad (.inl (by assumption))
    refine Halt.mk ?_
    rename Fr _ _ _ _ => F9; rename News _ _ _ _ => N9
    refine raise_fault X T F9 N9 ?hd9 (fun h' tk' e kH hne ⟨od, t, he⟩ => ?_) rfl rfl
    case hd9 => (try simp only [topA, depth_deeper]); (first | lia | omega)
    have k9 := fun b o q => kH b o (F9.keep b o q)
    exact flt_first (t := t) (od := od) (base := base) (g := s.heap) (outer := outer) (L := L) rfl rfl rfl hB hFF k9 (Heap.get?_none_of_le (Nat.le_of_eq hL.symm)) (F9.keeps kH).ns he (none_back F9.keep hne) (fun h'' hF => hraise hz _ _ _ hF)
  · have hz : powO x y = none := powO_bad (.inr (.inl (by assumption)))
    refine Halt.mk ?_
    rename Fr _ _ _ _ => F9; rename News _ _ _ _ => N9
    refine raise_fault X T F9 N9 ?hd9 (fun h' tk' e kH hne ⟨od, t, he⟩ => ?_) rfl rfl
    case hd9 => (try simp only [topA, depth_deeper]); (first | lia | omega)
    have k9 := fun b o q => kH b o (F9.keep b o q)
    exact flt_first (t := t) (od := od) (base := base) (g := s.heap) (outer := outer) (L := L) rfl rfl rfl hB hFF k9 (Heap.get?_none_of_le (Nat.le_of_eq hL.symm)) (F9.keeps kH).ns he (none_back F9.keep hne) (fun h'' hF => hraise hz _ _ _ hF)
  · have hz : powO x y = none := powO_bad (.inr (.inr ⟨by assumption, by assumption⟩))
    refine Halt.mk ?_
    rename Fr _ _ _ _ => F9; rename News _ _ _ _ => N9
    refine raise_fault X T F9 N9 ?hd9 (fun h' tk' e kH hne ⟨od, t, he⟩ => ?_) rfl rfl
    case hd9 => (try simp only [topA, depth_deeper]); (first | lia | omega)
    have k9 := fun b o q => kH b o (F9.keep b o q)
    exact flt_first (t := t) (od := od) (base := base) (g := s.heap) (outer := outer) (L := L) rfl rfl rfl hB hFF k9 (Heap.get?_none_of_le (Nat.le_of_eq hL.symm)) (F9.keeps kH).ns he (none_back F9.keep hne) (fun h'' hF => hraise hz _ _ _ hF)
  ·
    refine Halt.mk ?_
    have h3 : ¬ (x.1 = 0 ∧ y.1 < 1) := by (first | lia | omega)
    rename Fr _ _ _ _ => F9
    rename News _ _ _ _ => N9
    rename IsRange _ _ _ _ _ _ _ _ => R9
    refine' range_G y.1.natAbs (fun i m nx => ∃ f v tl, iterO x i = some f ∧ m = mOf ([(Str.ofString "b", .ref b), (Str.ofString "a", .ref a), (Str.ofString "found", v)] ++ tl) ∧ DI s.heap nx v (numD f) ∧ Tups nx) ?hh R9 hab ?hn (fr_set1 F9) N9 ?hj ?_ ?_
    case hh => rfl
    case hn => (first | lia | omega)
    case hj => exact ⟨_, _, [], rfl, rfl, .tuple (.inr (.head _)) rfl rfl (.cons (.int _ _) (.cons (.int _ _) .nil)), Tups.cons rfl Tups.nil⟩
    all_goals clear F9 N9 R9
    · rintro i t m₁ nx h tk own hi hoff hcl ⟨f, v, tl, hf, rfl, hD, hT⟩ F N
      have F : Fr s.heap L h _ := F
      have N : News s.heap L h _ := N
      try dsimp only
      try k_fold
      k_with_none
      k_with "call ref" => (rename Fr _ _ _ _ => F9; rename News _ _ _ _ => N9; refine' times_spec (Frag.In.keeps X F9.keep) (T.keeps F9.keep) (x := f) (y := x) (n := n) ?hdx1 (hD.reads F9 (News.sub N9 fun p hp => List.mem_append_left _ hp)) (Rd.stays hv1 F9.keep) (iter_bd hn4 i f hf).1 (iter_bd hn4 i f hf).2 hbx hx (by (first | lia | omega)) ?hfr9x1 (fun b o q => F9.keep b o (hB b o q)) (ff_cons (env := (envOf _ _ _ _ _)) rfl ?hk9x1 hL F9 hB hFF) ?hr9x1 ?hx9x1; (case hfr9x1 => rfl); (case hk9x1 => rfl); (case hdx1 => first | (first | lia | omega) | ((simp only [topA]); (first | lia | omega))); (case hx9x1 => (rintro hz e h' tk hF; refine flt_next rfl rfl (stays_upTo F9.keep) hF (fun h'' hF => ?_); exact hraise (powO_none (i := i + 1) ((iterO_step hf).trans hz) (by (first | lia | omega))) _ _ _ hF)); (case' hr9x1 => (rintro z hz h2 tk2 v2 hS hI; have F2 := F9.keeps hS; have N2 := N9.grown hS; clear F9 N9; (try dsimp only); (refine Reads.regE F2 hI fun rest9 hT9 hN9 hD9 => ?_; have N3 := News.app hN9 N2; clear N2); (try k_fold))))
      repeat' (first | (k_unfold; (try dsimp only)) | (k_end; wrow_close) | ((try dsimp only); walk1) | (leave1; walk_say "STEP leave1"; try dsimp only) | fail "no step")
      rename Fr _ _ _ _ => F9
      rename News _ _ _ _ => N9
      rename DI _ _ _ _ => hD9
      rename Tups _ => hT9
      exact inv_end (fr_set2 F9) N9 ⟨_, _, _, (iterO_step hf).trans hz, rfl, hD9, hT9⟩ (own_off (News.sub N9 fun p hp => List.mem_append_right _ (List.mem_append_right _ hp)) (News.sub N9 fun p hp => List.mem_append_left _ hp) hT9 hcl) (fun p hp => List.mem_append_left _ hp) (fun p hp => List.mem_append_right _ (List.mem_append_right _ hp))
    · rintro m₁ nx h tk ⟨f, v, tl, hf, rfl, hD, hT⟩ F N
      have F : Fr s.heap L h _ := F
      have N : News s.heap L h _ := N
      try dsimp only
      try k_fold
      k_with_none
      k_with "call ref" => (rename Fr _ _ _ _ => F9; rename News _ _ _ _ => N9; refine' quotient_spec (Frag.In.keeps X F9.keep) (T.keeps F9.keep) (x := (1, 0)) (y := f) (n := n) ?hdx2 (num_close (x := (1, 0)) (News.isTup N9 (.head _))) (hD.reads F9 (News.sub N9 fun p hp => .tail _ hp)) (Nat.one_lt_two_pow (by (first | lia | omega))) (Nat.zero_le _) (iter_bd hn4 _ f hf).1 (iter_bd hn4 _ f hf).2 hn ?hfr9x2 (fun b o q => F9.keep b o (hB b o q)) (ff_cons (env := (envOf _ _ _ _ _)) rfl ?hk9x2 hL F9 hB hFF) ?hr9x2 ?hx9x2; (case hfr9x2 => rfl); (case hk9x2 => rfl); (case hdx2 => first | (first | lia | omega) | ((simp only [topA]); (first | lia | omega))); (case hx9x2 => (rintro hz e h' tk hF; refine flt_next rfl rfl (stays_upTo F9.keep) hF (fun h'' hF => ?_); exact hraise (by rw [powO_neg (by assumption) (by assumption) h3 (by (first | lia | omega)), hf]; exact hz) _ _ _ hF)); (case' hr9x2 => (rintro z hz h2 tk2 v2 hS hI; have F2 := F9.keeps hS; have N2 := N9.grown hS; clear F9 N9; (try dsimp only); skip; (try k_fold))))
      repeat' (first | (k_unfold; (try dsimp only)) | (k_end; wrow_close) | ((try dsimp only); walk1) | (leave1; walk_say "STEP leave1"; try dsimp only) | fail "no step")
      all_goals first
        | exact hret _ (by rw [powO_neg (by assumption) (by assumption) h3 (by (first | lia | omega)), hf]; exact hz) _ _ _ (Fr.keep (by assumption)) (by assumption)
        | exact hret _ (by rw [powO_pos (by assumption) (by assumption) h3 (by (first | lia | omega)), hf]) _ _ _ (Fr.keep (by assumption)) (hD.reads (by assumption) (by assumption))
  ·
    refine Halt.mk ?_
    have h3 : ¬ (x.1 = 0 ∧ y.1 < 1) := by (first | lia | omega)
    rename Fr _ _ _ _ => F9
    rename News _ _ _ _ => N9
    rename IsRange _ _ _ _ _ _ _ _ => R9
    refine' range_G y.1.natAbs (fun i m nx => ∃ f v tl, iterO x i = some f ∧ m = mOf ([(Str.ofString "b", .ref b), (Str.ofString "a", .ref a), (Str.ofString "found", v)] ++ tl) ∧ DI s.heap nx v (numD f) ∧ Tups nx) ?hh R9 hab ?hn (fr_set1 F9) N9 ?hj ?_ ?_
    case hh => rfl
    case hn => (first | lia | omega)
    case hj => exact ⟨_, _, [], rfl, rfl, .tuple (.inr (.head _)) rfl rfl (.cons (.int _ _) (.cons (.int _ _) .nil)), Tups.cons rfl Tups.nil⟩
    all_goals clear F9 N9 R9
    · rintro i t m₁ nx h tk own hi hoff hcl ⟨f, v, tl, hf, rfl, hD, hT⟩ F N
      have F : Fr s.heap L h _ := F
      have N : News s.heap L h _ := N
      try dsimp only
      try k_fold
      k_with_none
      k_with "call ref" => (rename Fr _ _ _ _ => F9; rename News _ _ _ _ => N9; refine' times_spec (Frag.In.keeps X F9.keep) (T.keeps F9.keep) (x := f) (y := x) (n := n) ?hdx3 (hD.reads F9 (News.sub N9 fun p hp => List.mem_append_left _ hp)) (Rd.stays hv1 F9.keep) (iter_bd hn4 i f hf).1 (iter_bd hn4 i f hf).2 hbx hx (by (first | lia | omega)) ?hfr9x3 (fun b o q => F9.keep b o (hB b o q)) (ff_cons (env := (envOf _ _ _ _ _)) rfl ?hk9x3 hL F9 hB hFF) ?hr9x3 ?hx9x3; (case hfr9x3 => rfl); (case hk9x3 => rfl); (case hdx3 => first | (first | lia | omega) | ((simp only [topA]); (first | lia | omega))); (case hx9x3 => (rintro hz e h' tk hF; refine flt_next rfl rfl (stays_upTo F9.keep) hF (fun h'' hF => ?_); exact hraise (powO_none (i := i + 1) ((iterO_step hf).trans hz) (by (first | lia | omega))) _ _ _ hF)); (case' hr9x3 => (rintro z hz h2 tk2 v2 hS hI; have F2 := F9.keeps hS; have N2 := N9.grown hS; clear F9 N9; (try dsimp only); (refine Reads.regE F2 hI fun rest9 hT9 hN9 hD9 => ?_; have N3 := News.app hN9 N2; clear N2); (try k_fold))))
      repeat' (first | (k_unfold; (try dsimp only)) | (k_end; wrow_close) | ((try dsimp only); walk1) | (leave1; walk_say "STEP leave1"; try dsimp only) | fail "no step")
      rename Fr _ _ _ _ => F9
      rename News _ _ _ _ => N9
      rename DI _ _ _ _ => hD9
      rename Tups _ => hT9
      exact inv_end (fr_set2 F9) N9 ⟨_, _, _, (iterO_step hf).trans hz, rfl, hD9, hT9⟩ (own_off (News.sub N9 fun p hp => List.mem_append_right _ (List.mem_append_right _ hp)) (News.sub N9 fun p hp => List.mem_append_left _ hp) hT9 hcl) (fun p hp => List.mem_append_left _ hp) (fun p hp => List.mem_append_right _ (List.mem_append_right _ hp))
    · rintro m₁ nx h tk ⟨f, v, tl, hf, rfl, hD, hT⟩ F N
      have F : Fr s.heap L h _ := F
      have N : News s.heap L h _ := N
      try dsimp only
      try k_fold
      k_with_none
      k_with "call ref" => (rename Fr _ _ _ _ => F9; rename News _ _ _ _ => N9; refine' quotient_spec (Frag.In.keeps X F9.keep) (T.keeps F9.keep) (x := (1, 0)) (y := f) (n := n) ?hdx4 (num_close (x := (1, 0)) (News.isTup N9 (.head _))) (hD.reads F9 (News.sub N9 fun p hp => .tail _ hp)) (Nat.one_lt_two_pow (by (first | lia | omega))) (Nat.zero_le _) (iter_bd hn4 _ f hf).1 (iter_bd hn4 _ f hf).2 hn ?hfr9x4 (fun b o q => F9.keep b o (hB b o q)) (ff_cons (env := (envOf _ _ _ _ _)) rfl ?hk9x4 hL F9 hB hFF) ?hr9x4 ?hx9x4; (case hfr9x4 => rfl); (case hk9x4 => rfl); (case hdx4 => first | (first | lia | omega) | ((simp only [topA]); (first | lia | omega))); (case hx9x4 => (rintro hz e h' tk hF; refine flt_next rfl rfl (stays_upTo F9.keep) hF (fun h'' hF => ?_); exact hraise (by rw [powO_neg (by assumption) (by assumption) h3 (by (first | lia | omega)), hf]; exact hz) _ _ _ hF)); (case' hr9x4 => (rintro z hz h2 tk2 v2 hS hI; have F2 := F9.keeps hS; have N2 := N9.grown hS; clear F9 N9; (try dsimp only); skip; (try k_fold))))
      repeat' (first | (k_unfold; (try dsimp only)) | (k_end; wrow_close) | ((try dsimp only); walk1) | (leave1; walk_say "STEP leave1"; try dsimp only) | fail "no step")
      all_goals first
        | exact hret _ (by rw [powO_neg (by assumption) (by assumption) h3 (by (first | lia | omega)), hf]; exact hz) _ _ _ (Fr.keep (by assumption)) (by assumption)
        | exact hret _ (by rw [powO_pos (by assumption) (by assumption) h3 (by (first | lia | omega)), hf]) _ _ _ (Fr.keep (by assumption)) (hD.reads (by assumption) (by assumption))
end
section
theorem fillMF4 : (fun (_ : OpenLaw) (_ : Params → Frag) => True) PySem.Challenge.rw_pc0124_01 hd.heap_39 := by
  w_top off
  k_fill
  trivial




noncomputable def Op2.sg : Op2 → Str
  | .add => Str.ofString "+"
  | .sub => Str.ofString "-"
  | .mul => Str.ofString "*"
  | .div => Str.ofString "/"
  | .pow => Str.ofString "**"

theorem applied_spec {w : World} {p : Program} {loose : List Str} {mean : ExcName → Option Value} {mg mb : Str → Option Value} {s : Shared} {dp un : Nat} {gd : Option (List Code)} {fr : Option (List Env)} {Q E : Value → Shared → Prop} {v1 v2 : Value} {t0 : Tok} {o : Op2} {x y : Num} {n : Nat} {base : Heap} {outer : List Env} (X : (hd.heap_39 w.params).In s.heap) (T : Top p loose mean mg mb s.heap) (hd : dp + 11 < recursionLimit) (hv1 : Reads s.heap v1 (numD x) []) (hv2 : Reads s.heap v2 (numD y) []) (hbx : Bd n x.1) (hx : x.2 ≤ 30) (hby : Bd n y.1) (hy : y.2 ≤ 30) (hn : n ≤ 8800) (hn4 : 400 ≤ n)
    (hfr : fr = some outer) (hB : base.StaysIn s.heap) (hFF : s.heap.FunFrames base outer)
    (hret : ∀ z, o.ap x y = some z → ∀ h' tk v, Heap.StaysIn s.heap h' → Reads h' v (numD z) [] → Q v { s with heap := h', toks := tk })
    (hraise : o.ap x y = none → ∀ e h' tk, Flt base outer e s.heap h' → E (.ref e) { s with heap := h', toks := tk }) :
    wpAny (model PR w) (topA dp un gd fr) (call (.ref 154) [.str o.sg t0, v1, v2]) Q E s := by
  subst hfr
  obtain ⟨a, t1, t2, rfl, hI⟩ := num_open hv1
  obtain ⟨b, t3, t4, rfl, hI2⟩ := num_open hv2
  cases o <;> (try unfold Op2.sg) <;> dsimp only
  ·
    refine' enter (binds := [(Str.ofString "sign", .str (Str.ofString "+") t0), (Str.ofString "left", .ref a), (Str.ofString "right", .ref b)]) X T ?k1 ?k2 ?k3 ?k4 ?k5 ?_ ?c2 ?c3 ?c4 ?c5
    case k1 => k_is
    case k2 => k_is
    case k3 => (first | assumption | ((try simp only [topA, depth_deeper] at *); (first | lia | omega)))
    case k4 => first | exact BindsTo.of_eq rfl | exact binds_K (by k_in) rfl (by k_is) rfl rfl rfl
    case k5 => exact locs rfl
    case c2 => exact rfl
    case c3 => exact rfl
    case c4 => exact rfl
    case c5 => decide
    intro L h₁ F N hL
    try dsimp only
    try k_fold
    k_with_none
    k_with "call ref" => (rename Fr _ _ _ _ => F9; rename News _ _ _ _ => N9; refine' plus_spec (Frag.In.keeps X F9.keep) (T.keeps F9.keep) ?hd (Rd.stays hv1 F9.keep) (Rd.stays hv2 F9.keep) hbx hby (by omega) hx hy ?_; (case hd => first | (first | lia | omega) | ((simp only [topA]); (first | lia | omega))); (rintro h2 tk2 v2 hS hI; have F2 := F9.keeps hS; have N2 := N9.grown hS; clear F9 N9; (try dsimp only); skip; (try k_fold)))
    repeat' (first | (k_unfold; (try dsimp only)) | (k_end; wrow_close) | ((try dsimp only); walk1) | (leave1; walk_say "STEP leave1"; try dsimp only) | fail "no step")
    exact hret _ rfl _ _ _ (Fr.keep (by assumption)) (by assumption)
  ·
    refine' enter (binds := [(Str.ofString "sign", .str (Str.ofString "-") t0), (Str.ofString "left", .ref a), (Str.ofString "right", .ref b)]) X T ?k1 ?k2 ?k3 ?k4 ?k5 ?_ ?c2 ?c3 ?c4 ?c5
    case k1 => k_is
    case k2 => k_is
    case k3 => (first | assumption | ((try simp only [topA, depth_deeper] at *); (first | lia | omega)))
    case k4 => first | exact BindsTo.of_eq rfl | exact binds_K (by k_in) rfl (by k_is) rfl rfl rfl
    case k5 => exact locs rfl
    case c2 => exact rfl
    case c3 => exact rfl
    case c4 => exact rfl
    case c5 => decide
    intro L h₁ F N hL
    try dsimp only
    try k_fold
    k_with_none
    k_with "call ref" => (rename Fr _ _ _ _ => F9; rename News _ _ _ _ => N9; refine' minus_spec (Frag.In.keeps X F9.keep) (T.keeps F9.keep) ?hd (Rd.stays hv1 F9.keep) (Rd.stays hv2 F9.keep) hbx hby (by omega) hx hy ?_; (case hd => first | (first | lia | omega) | ((simp only [topA]); (first | lia | omega))); (rintro h2 tk2 v2 hS hI; have F2 := F9.keeps hS; have N2 := N9.grown hS; clear F9 N9; (try dsimp only); skip; (try k_fold)))
    repeat' (first | (k_unfold; (try dsimp only)) | (k_end; wrow_close) | ((try dsimp only); walk1) | (leave1; walk_say "STEP leave1"; try dsimp only) | fail "no step")
    exact hret _ rfl _ _ _ (Fr.keep (by assumption)) (by assumption)
  ·
    refine' enter (binds := [(Str.ofString "sign", .str (Str.ofString "*") t0), (Str.ofString "left", .ref a), (Str.ofString "right", .ref b)]) X T ?k1 ?k2 ?k3 ?k4 ?k5 ?_ ?c2 ?c3 ?c4 ?c5
    case k1 => k_is
    case k2 => k_is
    case k3 => (first | assumption | ((try simp only [topA, depth_deeper] at *); (first | lia | omega)))
    case k4 => first | exact BindsTo.of_eq rfl | exact binds_K (by k_in) rfl (by k_is) rfl rfl rfl
    case k5 => exact locs rfl
    case c2 => exact rfl
    case c3 => exact rfl
    case c4 => exact rfl
    case c5 => decide
    intro L h₁ F N hL
    try dsimp only
    try k_fold
    k_with_none
    k_with "call ref" => (rename Fr _ _ _ _ => F9; rename News _ _ _ _ => N9; refine' times_spec (Frag.In.keeps X F9.keep) (T.keeps F9.keep) (n := n) ?hdx1 (Rd.stays hv1 F9.keep) (Rd.stays hv2 F9.keep) hbx hx hby hy (by omega) ?hfr9x1 (fun b o q => F9.keep b o (hB b o q)) (ff_cons (env := (envOf _ _ _ _ _)) rfl ?hk9x1 hL F9 hB hFF) ?hr9x1 ?hx9x1; (case hfr9x1 => rfl); (case hk9x1 => rfl); (case hdx1 => first | (first | lia | omega) | ((simp only [topA]); (first | lia | omega))); (case hx9x1 => (rintro hz e h' tk hF; refine flt_next rfl rfl (stays_upTo F9.keep) hF (fun h'' hF => ?_); exact hraise hz _ _ _ hF)); (case' hr9x1 => (rintro z hz h2 tk2 v2 hS hI; have F2 := F9.keeps hS; have N2 := N9.grown hS; clear F9 N9; (try dsimp only); skip; (try k_fold))))
    repeat' (first | (k_unfold; (try dsimp only)) | (k_end; wrow_close) | ((try dsimp only); walk1) | (leave1; walk_say "STEP leave1"; try dsimp only) | fail "no step")
    exact hret _ hz _ _ _ (Fr.keep (by assumption)) (by assumption)
  ·
    refine' enter (binds := [(Str.ofString "sign", .str (Str.ofString "/") t0), (Str.ofString "left", .ref a), (Str.ofString "right", .ref b)]) X T ?k1 ?k2 ?k3 ?k4 ?k5 ?_ ?c2 ?c3 ?c4 ?c5
    case k1 => k_is
    case k2 => k_is
    case k3 => (first | assumption | ((try simp only [topA, depth_deeper] at *); (first | lia | omega)))
    case k4 => first | exact BindsTo.of_eq rfl | exact binds_K (by k_in) rfl (by k_is) rfl rfl rfl
    case k5 => exact locs rfl
    case c2 => exact rfl
    case c3 => exact rfl
    case c4 => exact rfl
    case c5 => decide
    intro L h₁ F N hL
    try dsimp only
    try k_fold
    k_with_none
    k_with "call ref" => (rename Fr _ _ _ _ => F9; rename News _ _ _ _ => N9; refine' quotient_spec (Frag.In.keeps X F9.keep) (T.keeps F9.keep) (n := n) ?hdx2 (Rd.stays hv1 F9.keep) (Rd.stays hv2 F9.keep) hbx hx hby hy hn ?hfr9x2 (fun b o q => F9.keep b o (hB b o q)) (ff_cons (env := (envOf _ _ _ _ _)) rfl ?hk9x2 hL F9 hB hFF) ?hr9x2 ?hx9x2; (case hfr9x2 => rfl); (case hk9x2 => rfl); (case hdx2 => first | (first | lia | omega) | ((simp only [topA]); (first | lia | omega))); (case hx9x2 => (rintro hz e h' tk hF; refine flt_next rfl rfl (stays_upTo F9.keep) hF (fun h'' hF => ?_); exact hraise hz _ _ _ hF)); (case' hr9x2 => (rintro z hz h2 tk2 v2 hS hI; have F2 := F9.keeps hS; have N2 := N9.grown hS; clear F9 N9; (try dsimp only); skip; (try k_fold))))
    repeat' (first | (k_unfold; (try dsimp only)) | (k_end; wrow_close) | ((try dsimp only); walk1) | (leave1; walk_say "STEP leave1"; try dsimp only) | fail "no step")
    exact hret _ hz _ _ _ (Fr.keep (by assumption)) (by assumption)
  ·
    refine' enter (binds := [(Str.ofString "sign", .str (Str.ofString "**") t0), (Str.ofString "left", .ref a), (Str.ofString "right", .ref b)]) X T ?k1 ?k2 ?k3 ?k4 ?k5 ?_ ?c2 ?c3 ?c4 ?c5
    case k1 => k_is
    case k2 => k_is
    case k3 => (first | assumption | ((try simp only [topA, depth_deeper] at *); (first | lia | omega)))
    case k4 => first | exact BindsTo.of_eq rfl | exact binds_K (by k_in) rfl (by k_is) rfl rfl rfl
    case k5 => exact locs rfl
    case c2 => exact rfl
    case c3 => exact rfl
    case c4 => exact rfl
    case c5 => decide
    intro L h₁ F N hL
    try dsimp only
    try k_fold
    k_with_none
    k_with "call ref" => (rename Fr _ _ _ _ => F9; rename News _ _ _ _ => N9; refine' power_spec (Frag.In.keeps X F9.keep) (T.keeps F9.keep) (n := n) ?hdx3 (Rd.stays hv1 F9.keep) (Rd.stays hv2 F9.keep) hbx hx hn hn4 ?hfr9x3 (fun b o q => F9.keep b o (hB b o q)) (ff_cons (env := (envOf _ _ _ _ _)) rfl ?hk9x3 hL F9 hB hFF) ?hr9x3 ?hx9x3; (case hfr9x3 => rfl); (case hk9x3 => rfl); (case hdx3 => first | (first | lia | omega) | ((simp only [topA]); (first | lia | omega))); (case hx9x3 => (rintro hz e h' tk hF; refine flt_next rfl rfl (stays_upTo F9.keep) hF (fun h'' hF => ?_); exact hraise hz _ _ _ hF)); (case' hr9x3 => (rintro z hz h2 tk2 v2 hS hI; have F2 := F9.keeps hS; have N2 := N9.grown hS; clear F9 N9; (try dsimp only); skip; (try k_fold))))
    repeat' (first | (k_unfold; (try dsimp only)) | (k_end; wrow_close) | ((try dsimp only); walk1) | (leave1; walk_say "STEP leave1"; try dsimp only) | fail "no step")
    exact hret _ hz _ _ _ (Fr.keep (by assumption)) (by assumption)
end
end Mine
namespace Mine


noncomputable def nm3 (i : Fin 3) : Str := if i = 0 then Str.ofString "A" else if i = 1 then Str.ofString "B" else Str.ofString "C"
noncomputable def dat : Ex → PyData
  | .ref i => .tuple [.str (Str.ofString "ref"), .str (nm3 i), .tuple [], .tuple [], .none]
  | .num n => .tuple [.str (Str.ofString "number"), numD n]
  | .neg e => .tuple [.str (Str.ofString "neg"), dat e]
  | .bin o l r => .tuple [.str o.sg, dat l, dat r]
inductive Wk
  | ex (e : Ex)
  | neg
  | op (o : Op2)
noncomputable def Wk.its : Wk → List It
  | .ex e => post e
  | .neg => [.neg]
  | .op o => [.op o]
noncomputable def pend (W : List Wk) : List It := W.flatMap Wk.its
noncomputable def Wk.sz : Wk → Nat
  | .ex e => 2 * e.size
  | _ => 1
noncomputable def wsz : List Wk → Nat
  | [] => 0
  | x :: r => x.sz + wsz r
noncomputable def Wk.kind : Wk → Str
  | .ex _ => Str.ofString "expr"
  | _ => Str.ofString "op"
noncomputable def Wk.dat : Wk → PyData
  | .ex e => Mine.dat e
  | .neg => .str (Str.ofString "neg")
  | .op o => .str o.sg
noncomputable def itD : It → PyData
  | .leaf e => .tuple [.str (Str.ofString "leaf"), dat e]
  | .neg => .tuple [.str (Str.ofString "op"), .str (Str.ofString "neg")]
  | .op o => .tuple [.str (Str.ofString "op"), .str o.sg]
noncomputable def WkAt (h₀ : Heap) (rest : List (Addr × Obj)) (x : Wk) (y : Value) : Prop := ∃ t n tk v, y = .ref t ∧ (t, ({ cls := .type "tuple", data := .seq #[.str x.kind tk, v] n } : Obj)) ∈ rest ∧ Reads h₀ v x.dat []
inductive WksAt (h₀ : Heap) (rest : List (Addr × Obj)) : List Wk → List Value → Prop
  | nil : WksAt h₀ rest [] []
  | cons {x : Wk} {W : List Wk} {y : Value} {ws : List Value} : WkAt h₀ rest x y → WksAt h₀ rest W ws → WksAt h₀ rest (x :: W) (ws ++ [y])


noncomputable def It.kind : It → Str
  | .leaf _ => Str.ofString "leaf"
  | _ => Str.ofString "op"
noncomputable def It.part : It → PyData
  | .leaf e => dat e
  | .neg => .str (Str.ofString "neg")
  | .op o => .str o.sg
theorem itD_eq (i : It) : itD i = .tuple [.str i.kind, i.part] := by cases i <;> rfl
noncomputable def ItAt (g : Heap) (rest : List (Addr × Obj)) (i : It) (y : Value) : Prop := ∃ t n tk v, y = .ref t ∧ (t, ({ cls := .type "tuple", data := .seq #[.str i.kind tk, v] n } : Obj)) ∈ rest ∧ Reads g v i.part []
inductive ItsAt (g : Heap) (rest : List (Addr × Obj)) : List It → List Value → Prop
  | nil : ItsAt g rest [] []
  | cons {i : It} {D : List It} {y : Value} {fs : List Value} : ItAt g rest i y → ItsAt g rest D fs → ItsAt g rest (i :: D) (y :: fs)
theorem ItAt.mono {g : Heap} {rest rest' : List (Addr × Obj)} (hs : ∀ p ∈ rest, p ∈ rest') {x : It} {y : Value} (h : ItAt g rest x y) : ItAt g rest' x y := by
  obtain ⟨t, n, tk, v, e, hm, hv⟩ := h
  exact ⟨t, n, tk, v, e, hs _ hm, hv⟩
theorem ItsAt.mono {g : Heap} {rest rest' : List (Addr × Obj)} (hs : ∀ p ∈ rest, p ∈ rest') {W : List It} {ws : List Value} (h : ItsAt g rest W ws) : ItsAt g rest' W ws := by
  induction h with
  | nil => exact .nil
  | cons hx _ ih => exact .cons (hx.mono hs) ih
theorem ItsAt.snoc {g : Heap} {rest : List (Addr × Obj)} {i : It} {v : Value} (hv : ItAt g rest i v) {D : List It} {fs : List Value} (h : ItsAt g rest D fs) : ItsAt g rest (D ++ [i]) (fs ++ [v]) := by
  induction h with
  | nil => exact .cons hv .nil
  | cons hx _ ih => exact .cons hx ih
theorem ItsAt.len {g : Heap} {rest : List (Addr × Obj)} {D : List It} {fs : List Value} (h : ItsAt g rest D fs) : fs.length = D.length := by
  induction h with
  | nil => rfl
  | cons _ _ ih => simp [ih]
theorem ItsAt.get {g : Heap} {rest : List (Addr × Obj)} {D : List It} {fs : List Value} (h : ItsAt g rest D fs) : ∀ (k : Nat) (v : Value), fs[k]? = some v → ∃ i, D[k]? = some i ∧ ItAt g rest i v := by
  induction h with
  | nil => intro k v q; simp at q
  | cons hx _ ih =>
    intro k v q
    cases k with
    | zero => simp at q; subst q; exact ⟨_, rfl, hx⟩
    | succ k => simpa using ih k v (by simpa using q)
theorem ItsAt.readsAll {g h' : Heap} {rest : List (Addr × Obj)} {D : List It} {fs : List Value} (k : g.StaysIn h') (N : ∀ p ∈ rest, h'.get? p.1 = some p.2) (h : ItsAt g rest D fs) : ReadsAll h' fs (D.map itD) [] := by
  induction h with
  | nil => exact .nil
  | cons hx _ ih =>
    obtain ⟨t, n, tk, v, rfl, hm, hv⟩ := hx
    refine .cons (as := []) (bs := []) ?_ ih
    rw [itD_eq]
    exact .tuple (N _ hm) rfl rfl (.cons (as := []) (bs := []) (.str _ _) (.cons (as := []) (bs := []) (Rd.stays hv k) .nil))
theorem Tup.keeps {h h' : Heap} {a : Addr} {items : Array Value} (k : h.StaysIn h') (x : IsTup h a items) : IsTup h' a items := by
  obtain ⟨o, ho, hc, n, hd⟩ := x
  exact ⟨o, k _ _ ho, hc, n, hd⟩

inductive PJ (h₀ : Heap) (e : Ex) (ve : Value) (k : Nat) (m : Str → Option Value) (news : List (Addr × Obj)) : Prop
  | mk (W : List Wk) (D : List It) (ws fs : List Value) (n1 n2 : Nat) (aL aF : Addr) (rest : List (Addr × Obj)) (tl : List (Str × Value))
    (q0 : news = (aL, listOf ws.toArray n1) :: (aF, listOf fs.toArray n2) :: rest)
    (q1 : m = mOf ([(Str.ofString "expr", ve), (Str.ofString "found", .ref aF), (Str.ofString "line", .ref aL)] ++ tl))
    (q2 : aL ≠ aF)
    (q3 : Tups rest)
    (q4 : WksAt h₀ rest W ws)
    (q5 : ItsAt h₀ rest D fs)
    (q6 : D ++ pend W = post e)
    (q7 : k = wsz W) : PJ h₀ e ve k m news

theorem PJ.start {g h₀ h : Heap} {L aL aF D : Addr} {e : Ex} {v : Value} {n1 n2 n : Nat} {tk : Tok} (N : News h₀ L h [(aL, listOf #[.ref D] n1), (D, { cls := .type "tuple", data := .seq #[.str (Str.ofString "expr") tk, v] n }), (aF, listOf #[] n2)])
    (hne : aL ≠ aF) (hv : Reads g v (dat e) []) : ∃ news, News h₀ L h news ∧ PJ g e v (2 * e.size) (mOf ([(Str.ofString "expr", v), (Str.ofString "found", .ref aF), (Str.ofString "line", .ref aL)] ++ [])) news := by
  refine ⟨(aL, listOf #[.ref D] n1) :: (aF, listOf #[] n2) :: [(D, { cls := .type "tuple", data := .seq #[.str (Str.ofString "expr") tk, v] n })], News.sub N ?_, ?_⟩
  · intro p hp
    simp only [List.mem_cons, List.not_mem_nil, or_false] at hp ⊢
    rcases hp with h | h | h
    · exact .inl h
    · exact .inr (.inr h)
    · exact .inr (.inl h)
  · exact ⟨[.ex e], [], [.ref D], [], n1, n2, aL, aF, _, [], rfl, rfl, hne, Tups.cons rfl Tups.nil, .cons (ws := []) ⟨D, n, tk, v, rfl, .head _, hv⟩ .nil, .nil, by simp [pend, Wk.its], by simp [wsz, Wk.sz]⟩

theorem pair_open {h : Heap} {v : Value} {x : Str} {d : PyData} (r : Reads h v (.tuple [.str x, d]) []) : ∃ a t1 v1, v = .ref a ∧ IsTup h a [Value.str x t1, v1].toArray ∧ Reads h v1 d [] := by
  obtain ⟨a, items, rfl, hI, hr⟩ := reads_tup r
  obtain ⟨v1, vs1, e1, r1, hr⟩ := readsAll_cons hr rfl
  obtain ⟨v2, vs2, e2, r2, hr⟩ := readsAll_cons hr rfl
  have e3 := readsAll_nil hr
  obtain ⟨t1, rfl⟩ := reads_str r1
  subst e3
  subst e2
  refine ⟨a, t1, v2, rfl, ?_, r2⟩
  have : items = [Value.str x t1, v2].toArray := by rw [← e1]
  rwa [this] at hI
theorem tri_open {h : Heap} {v : Value} {x : Str} {d e : PyData} (r : Reads h v (.tuple [.str x, d, e]) []) : ∃ a t1 v1 v2, v = .ref a ∧ IsTup h a [Value.str x t1, v1, v2].toArray ∧ Reads h v1 d [] ∧ Reads h v2 e [] := by
  obtain ⟨a, items, rfl, hI, hr⟩ := reads_tup r
  obtain ⟨v1, vs1, e1, r1, hr⟩ := readsAll_cons hr rfl
  obtain ⟨v2, vs2, e2, r2, hr⟩ := readsAll_cons hr rfl
  obtain ⟨v3, vs3, e3, r3, hr⟩ := readsAll_cons hr rfl
  have e4 := readsAll_nil hr
  obtain ⟨t1, rfl⟩ := reads_str r1
  subst e4
  subst e3
  subst e2
  refine ⟨a, t1, v2, v3, rfl, ?_, r2, r3⟩
  have : items = [Value.str x t1, v2, v3].toArray := by rw [← e1]
  rwa [this] at hI
theorem ref_open {h : Heap} {v : Value} {i : Fin 3} (r : Reads h v (dat (.ref i)) []) : ∃ a t1 t2 v3 v4, v = .ref a ∧ IsTup h a [Value.str (Str.ofString "ref") t1, Value.str (nm3 i) t2, v3, v4, .none].toArray := by
  obtain ⟨a, items, rfl, hI, hr⟩ := reads_tup r
  obtain ⟨v1, vs1, e1, r1, hr⟩ := readsAll_cons hr rfl
  obtain ⟨v2, vs2, e2, r2, hr⟩ := readsAll_cons hr rfl
  obtain ⟨v3, vs3, e3, r3, hr⟩ := readsAll_cons hr rfl
  obtain ⟨v4, vs4, e4, r4, hr⟩ := readsAll_cons hr rfl
  obtain ⟨v5, vs5, e5, r5, hr⟩ := readsAll_cons hr rfl
  have e6 := readsAll_nil hr
  obtain ⟨t1, rfl⟩ := reads_str r1
  obtain ⟨t2, rfl⟩ := reads_str r2
  obtain rfl := reads_none r5
  subst e6
  subst e5
  subst e4
  subst e3
  subst e2
  refine ⟨a, t1, t2, v3, v4, rfl, ?_⟩
  have : items = [Value.str (Str.ofString "ref") t1, Value.str (nm3 i) t2, v3, v4, .none].toArray := by rw [← e1]
  rwa [this] at hI

theorem news_dup {h₀ h : Heap} {L : Addr} {a b q : Addr × Obj} {rest : List (Addr × Obj)} (N : News h₀ L h (a :: b :: rest)) (hm : q ∈ rest) : News h₀ L h (a :: b :: q :: rest) := by
  refine News.sub N fun p hp => ?_
  simp only [List.mem_cons] at hp ⊢
  rcases hp with h | h | h | h
  · exact .inl h
  · exact .inr (.inl h)
  · exact .inr (.inr (h ▸ hm))
  · exact .inr (.inr h)
theorem Wk.one (x : Wk) : 1 ≤ x.its.length := by
  cases x with
  | ex e => show 1 ≤ (post e).length; rw [post_length]; cases e <;> simp [Ex.size]
  | _ => exact Nat.le_refl _
theorem WksAt.len {h₀ : Heap} {rest : List (Addr × Obj)} {W : List Wk} {ws : List Value} (h : WksAt h₀ rest W ws) : ws.length ≤ (pend W).length := by
  induction h with
  | nil => exact Nat.zero_le _
  | @cons x W y ws hx hr ih =>
    have : pend (x :: W) = x.its ++ pend W := by simp [pend]
    rw [this, List.length_append, List.length_append]
    have := x.one
    simp only [List.length_cons, List.length_nil]
    (first | lia | omega)
theorem DIs.len {h₀ : Heap} {rest : List (Addr × Obj)} : ∀ {vs : List Value} {ds : List PyData}, DIs h₀ rest vs ds → vs.length = ds.length
  | _, _, .nil => rfl
  | _, _, .cons _ r => congrArg (· + 1) (DIs.len r)
theorem PJ.len {h₀ : Heap} {rest : List (Addr × Obj)} {W : List Wk} {ws fs : List Value} {D : List It} {e : Ex} (hW : WksAt h₀ rest W ws) (hD : ItsAt h₀ rest D fs) (hp : D ++ pend W = post e) (hn : e.size ≤ 200) : ws.length ≤ 200 ∧ fs.length ≤ 200 := by
  have h1 := congrArg List.length hp
  rw [List.length_append, post_length] at h1
  have h2 := hW.len
  have h3 := hD.len
  (first | lia | omega)
theorem WkAt.mono {h₀ : Heap} {rest rest' : List (Addr × Obj)} (hs : ∀ p ∈ rest, p ∈ rest') {x : Wk} {y : Value} (h : WkAt h₀ rest x y) : WkAt h₀ rest' x y := by
  obtain ⟨t, n, tk, v, e, hm, hv⟩ := h
  exact ⟨t, n, tk, v, e, hs _ hm, hv⟩
theorem WksAt.mono {h₀ : Heap} {rest rest' : List (Addr × Obj)} (hs : ∀ p ∈ rest, p ∈ rest') {W : List Wk} {ws : List Value} (h : WksAt h₀ rest W ws) : WksAt h₀ rest' W ws := by
  induction h with
  | nil => exact .nil
  | cons hx _ ih => exact .cons (hx.mono hs) ih
theorem DIs.snoc {h₀ : Heap} {rest : List (Addr × Obj)} {v : Value} {d : PyData} (hv : DI h₀ rest v d) : ∀ {vs : List Value} {ds : List PyData}, DIs h₀ rest vs ds → DIs h₀ rest (vs ++ [v]) (ds ++ [d])
  | _, _, .nil => .cons hv .nil
  | _, _, .cons a r => .cons a (DIs.snoc hv r)

section
variable {g h₀ h : Heap} {L aL aF : Addr} {e : Ex} {ve : Value} {ws fs : List Value} {W : List Wk} {D : List It} {n1 n2 k tk : Nat} {rest : List (Addr × Obj)} {q : Addr × Obj} {m : Str → Option Value} {s : Shared} {tl : List (Str × Value)}
theorem PJ.app {d : Addr} {x : Str} {tx : Tok} {n : Nat} {v : Value} {i : It} (F : Fr h₀ L h m)
    (N : News h₀ L h ((d, { cls := .type "tuple", data := .seq #[.str x tx, v] n }) :: (aL, listOf ws.toArray n1) :: (aF, listOf (fs.toArray.push (.ref d)) n2) :: q :: rest))
    (hm : m = mOf ([(Str.ofString "expr", ve), (Str.ofString "found", .ref aF), (Str.ofString "line", .ref aL)] ++ tl)) (hne : aL ≠ aF) (hT : Tups rest) (hW : WksAt g rest W ws) (hD : ItsAt g rest D fs)
    (hi : i.kind = x) (hv : Reads g v i.part []) (hp : D ++ i :: pend W = post e) (hk : wsz W < k) :
    WhileStep h₀ L s (fun k m news => PJ g e ve k m news) k .next { s with heap := h, toks := tk } := by
  refine WhileStep.intro (news₂ := (aL, listOf ws.toArray n1) :: (aF, listOf (fs ++ [Value.ref d]).toArray n2) :: (d, { cls := .type "tuple", data := .seq #[.str x tx, v] n }) :: rest) F (News.sub N ?_) hk
    ⟨W, D ++ [i], ws, fs ++ [Value.ref d], n1, n2, aL, aF, _, tl, rfl, hm, hne, Tups.cons rfl hT, hW.mono (fun p hp => .tail _ hp), ?_, by rw [List.append_assoc]; exact hp, rfl⟩
  · intro p hp
    rw [List.push_toArray]
    simp only [List.mem_cons] at hp ⊢
    rcases hp with h | h | h | h
    · exact .inr (.inl h)
    · exact .inr (.inr (.inl h))
    · exact .inl h
    · exact .inr (.inr (.inr (.inr h)))
  · subst hi
    exact ItsAt.snoc ⟨d, n, tx, v, rfl, .head _, hv⟩ (hD.mono fun p hp => .tail _ hp)
theorem PJ.ext2 {l d1 d2 : Addr} {o : Obj} {t1 t2 : Tok} {m1 m2 : Nat} {v1 v2 : Value} {x1 x2 : Wk} (F : Fr h₀ L h m)
    (N : News h₀ L h ((l, o) :: (d2, { cls := .type "tuple", data := .seq #[.str x2.kind t2, v2] m2 }) :: (d1, { cls := .type "tuple", data := .seq #[.str x1.kind t1, v1] m1 }) :: (aL, listOf (ws ++ [Value.ref d1, Value.ref d2]).toArray n1) :: (aF, listOf fs.toArray n2) :: q :: rest))
    (hm : m = mOf ([(Str.ofString "expr", ve), (Str.ofString "found", .ref aF), (Str.ofString "line", .ref aL)] ++ tl)) (hne : aL ≠ aF) (hT : Tups rest) (hW : WksAt g rest W ws) (hD : ItsAt g rest D fs)
    (h1 : Reads g v1 x1.dat []) (h2 : Reads g v2 x2.dat []) (hp : D ++ pend (x2 :: x1 :: W) = post e) (hk : wsz (x2 :: x1 :: W) < k) :
    WhileStep h₀ L s (fun k m news => PJ g e ve k m news) k .next { s with heap := h, toks := tk } := by
  refine WhileStep.intro (news₂ := (aL, listOf (ws ++ [Value.ref d1, Value.ref d2]).toArray n1) :: (aF, listOf fs.toArray n2) :: (d2, { cls := .type "tuple", data := .seq #[.str x2.kind t2, v2] m2 }) :: (d1, { cls := .type "tuple", data := .seq #[.str x1.kind t1, v1] m1 }) :: rest) F (News.sub N ?_) hk
    ⟨x2 :: x1 :: W, D, ws ++ [Value.ref d1, Value.ref d2], fs, n1, n2, aL, aF, _, tl, rfl, hm, hne, Tups.cons rfl (Tups.cons rfl hT), ?_, hD.mono (fun p hp => .tail _ (.tail _ hp)), hp, rfl⟩
  · intro p hp
    simp only [List.mem_cons] at hp ⊢
    rcases hp with h | h | h | h | h
    · exact .inr (.inr (.inr (.inl h)))
    · exact .inr (.inr (.inr (.inr (.inl h))))
    · exact .inr (.inl h)
    · exact .inr (.inr (.inl h))
    · exact .inr (.inr (.inr (.inr (.inr (.inr h)))))
  · have e1 : ws ++ [Value.ref d1, Value.ref d2] = (ws ++ [Value.ref d1]) ++ [Value.ref d2] := by simp
    rw [e1]
    exact .cons ⟨d2, m2, t2, v2, rfl, .head _, h2⟩ (.cons ⟨d1, m1, t1, v1, rfl, .tail _ (.head _), h1⟩ (hW.mono fun p hp => .tail _ (.tail _ hp)))
theorem PJ.ext3 {l d1 d2 d3 : Addr} {o : Obj} {t1 t2 t3 : Tok} {m1 m2 m3 : Nat} {v1 v2 v3 : Value} {x1 x2 x3 : Wk} (F : Fr h₀ L h m)
    (N : News h₀ L h ((l, o) :: (d3, { cls := .type "tuple", data := .seq #[.str x3.kind t3, v3] m3 }) :: (d2, { cls := .type "tuple", data := .seq #[.str x2.kind t2, v2] m2 }) :: (d1, { cls := .type "tuple", data := .seq #[.str x1.kind t1, v1] m1 }) :: (aL, listOf (ws ++ [Value.ref d1, Value.ref d2, Value.ref d3]).toArray n1) :: (aF, listOf fs.toArray n2) :: q :: rest))
    (hm : m = mOf ([(Str.ofString "expr", ve), (Str.ofString "found", .ref aF), (Str.ofString "line", .ref aL)] ++ tl)) (hne : aL ≠ aF) (hT : Tups rest) (hW : WksAt g rest W ws) (hD : ItsAt g rest D fs)
    (h1 : Reads g v1 x1.dat []) (h2 : Reads g v2 x2.dat []) (h3 : Reads g v3 x3.dat []) (hp : D ++ pend (x3 :: x2 :: x1 :: W) = post e) (hk : wsz (x3 :: x2 :: x1 :: W) < k) :
    WhileStep h₀ L s (fun k m news => PJ g e ve k m news) k .next { s with heap := h, toks := tk } := by
  refine WhileStep.intro (news₂ := (aL, listOf (ws ++ [Value.ref d1, Value.ref d2, Value.ref d3]).toArray n1) :: (aF, listOf fs.toArray n2) :: (d3, { cls := .type "tuple", data := .seq #[.str x3.kind t3, v3] m3 }) :: (d2, { cls := .type "tuple", data := .seq #[.str x2.kind t2, v2] m2 }) :: (d1, { cls := .type "tuple", data := .seq #[.str x1.kind t1, v1] m1 }) :: rest) F (News.sub N ?_) hk
    ⟨x3 :: x2 :: x1 :: W, D, ws ++ [Value.ref d1, Value.ref d2, Value.ref d3], fs, n1, n2, aL, aF, _, tl, rfl, hm, hne, Tups.cons rfl (Tups.cons rfl (Tups.cons rfl hT)), ?_, hD.mono (fun p hp => .tail _ (.tail _ (.tail _ hp))), hp, rfl⟩
  · intro p hp
    simp only [List.mem_cons] at hp ⊢
    rcases hp with h | h | h | h | h | h
    · exact .inr (.inr (.inr (.inr (.inl h))))
    · exact .inr (.inr (.inr (.inr (.inr (.inl h)))))
    · exact .inr (.inl h)
    · exact .inr (.inr (.inl h))
    · exact .inr (.inr (.inr (.inl h)))
    · exact .inr (.inr (.inr (.inr (.inr (.inr (.inr h))))))
  · have e1 : ws ++ [Value.ref d1, Value.ref d2, Value.ref d3] = ((ws ++ [Value.ref d1]) ++ [Value.ref d2]) ++ [Value.ref d3] := by simp
    rw [e1]
    exact .cons ⟨d3, m3, t3, v3, rfl, .head _, h3⟩ (.cons ⟨d2, m2, t2, v2, rfl, .tail _ (.head _), h2⟩ (.cons ⟨d1, m1, t1, v1, rfl, .tail _ (.tail _ (.head _)), h1⟩ (hW.mono fun p hp => .tail _ (.tail _ (.tail _ hp)))))
end
theorem long_no {b : Bool} {n : Nat} (h : n ≤ 16777216) : ¬ (b && Builtin.List.listTooLong n) = true := by
  have : Builtin.List.listTooLong n = false := by
    unfold Builtin.List.listTooLong
    rw [sizeLine_eq]
    exact decide_eq_false (by (first | lia | omega))
  rw [this, Bool.and_false]
  decide
theorem news_ne {h₀ h : Heap} {L a b : Addr} {news : List (Addr × Obj)} {o o' : Obj} (N : News h₀ L h news) (m1 : (a, o) ∈ news) (m2 : (b, o') ∈ news) (hc : o.cls ≠ o'.cls) : a ≠ b := by
  intro e
  have h1 := (N _ m1).1
  have h2 := (N _ m2).1
  dsimp only at h1 h2
  rw [e, h2] at h1
  exact hc (by cases h1; rfl)
theorem tups_ne {h₀ h : Heap} {L a : Addr} {news rest : List (Addr × Obj)} {its : Array Value} {n : Nat} (N : News h₀ L h news) (m1 : (a, listOf its n) ∈ news) (hT : Tups rest) (hs : ∀ p ∈ rest, p ∈ news) : ∀ p ∈ rest, p.1 ≠ a := by
  intro p hp e
  refine news_ne N (hs p hp) m1 ?_ e
  rw [hT p hp]
  exact fun q => absurd (Value.type.inj q) (by decide)

theorem tup_K {K : Frag} {h : Heap} {T : Addr} {o : Obj} {items : Array Value} {n : Nat} (X : K.In h) (ho : K.lookup T = some o) (hc : o.cls = .type "tuple") (hd : o.data = .seq items n) : IsTup h T items := ⟨o, X _ _ ho, hc, n, hd⟩
end Mine
namespace Mine

noncomputable def Ex.bd : Ex → Nat
  | .ref _ => 400
  | .num _ => 400
  | .neg e => e.bd
  | .bin .add l r => max l.bd r.bd + 122
  | .bin .sub l r => max l.bd r.bd + 122
  | .bin .mul l r => max 400 (max l.bd r.bd)
  | .bin .div l r => max l.bd r.bd + 241
  | .bin .pow l r => max l.bd r.bd + 400
noncomputable def Ex.okn : Ex → Prop
  | .ref _ => True
  | .num n => Bd 400 n.1 ∧ n.2 ≤ 30
  | .neg e => e.okn
  | .bin _ l r => l.okn ∧ r.okn
theorem Ex.bd_ge : ∀ e : Ex, 400 ≤ e.bd
  | .ref _ => Nat.le_refl _
  | .num _ => Nat.le_refl _
  | .neg e => e.bd_ge
  | .bin o l r => by
    have := l.bd_ge
    cases o <;> simp only [Ex.bd] <;> (first | lia | omega)
theorem Ex.bd_l (o : Op2) (l r : Ex) : l.bd ≤ (Ex.bin o l r).bd ∧ r.bd ≤ (Ex.bin o l r).bd := by cases o <;> simp only [Ex.bd] <;> (first | lia | omega)
theorem keptO_bd {u : Int} {k : Nat} {z : Num} (h : keptO u k = some z) : Bd 400 z.1 ∧ z.2 ≤ 30 := by
  unfold keptO at h
  split at h
  · rename_i hlt
    cases h
    refine ⟨Bd.norm _ ?_, Nat.le_trans (norm_le _ _) ?_⟩
    · exact Nat.lt_of_lt_of_le hlt (by decide)
    · unfold shrink
      split
      · exact Nat.le_refl _
      · show k ≤ 30
        (first | lia | omega)
  · cases h
theorem overO_bd {n : Nat} {x y z : Num} (hx : Bd n x.1) (h1 : y.2 ≤ 30) (h : overO x y = some z) : Bd (n + 241) z.1 ∧ z.2 ≤ 30 := by
  unfold overO at h
  split at h
  · cases h
  · cases h
    exact ⟨Bd.norm _ (Bd.cut ((hx.mul (Bd.pow10 _)).mono (by (first | lia | omega)))), norm_le _ _⟩
theorem Op2.ap_bd {o : Op2} {l r : Ex} {x y z : Num} (hx : Bd l.bd x.1 ∧ x.2 ≤ 30) (hy : Bd r.bd y.1 ∧ y.2 ≤ 30) (h : o.ap x y = some z) : Bd (Ex.bin o l r).bd z.1 ∧ z.2 ≤ 30 := by
  have hx' : Bd (max l.bd r.bd) x.1 := hx.1.mono (Nat.le_max_left ..)
  have hy' : Bd (max l.bd r.bd) y.1 := hy.1.mono (Nat.le_max_right ..)
  have h4 := l.bd_ge
  cases o with
  | add =>
    cases h
    refine ⟨Bd.norm _ ?_, Nat.le_trans (norm_le _ _) (Nat.max_le.mpr ⟨hx.2, hy.2⟩)⟩
    exact ((Bd.add (n := max l.bd r.bd + 121) ((hx'.mul (Bd.pow10 _)).mono (by (first | lia | omega))) ((hy'.mul (Bd.pow10 _)).mono (by (first | lia | omega)))))
  | sub =>
    cases h
    refine ⟨Bd.norm _ ?_, Nat.le_trans (norm_le _ _) (Nat.max_le.mpr ⟨hx.2, hy.2⟩)⟩
    exact ((Bd.sub (n := max l.bd r.bd + 121) ((hx'.mul (Bd.pow10 _)).mono (by (first | lia | omega))) ((hy'.mul (Bd.pow10 _)).mono (by (first | lia | omega)))))
  | mul => exact ⟨(keptO_bd h).1.mono (by simp only [Ex.bd]; (first | lia | omega)), (keptO_bd h).2⟩
  | div => exact ⟨(overO_bd hx' hy.2 h).1, (overO_bd hx' hy.2 h).2⟩
  | pow =>
    have h : powO x y = some z := h
    unfold powO at h
    split at h
    · cases h
    · cases hf : iterO x y.1.natAbs with
      | none => rw [hf] at h; cases h
      | some f =>
        rw [hf] at h
        have hb := iter_bd (n := 400) (Nat.le_refl _) _ _ hf
        simp only [Option.bind_some] at h
        split at h
        · have := overO_bd (n := 400) (x := (1, 0)) (Nat.one_lt_two_pow (by (first | lia | omega))) hb.2 h
          exact ⟨this.1.mono (by simp only [Ex.bd]; (first | lia | omega)), this.2⟩
        · cases h
          exact ⟨hb.1.mono (by simp only [Ex.bd]; (first | lia | omega)), hb.2⟩
theorem Ex.ev_bd {ρ : Fin 3 → Num} (hρ : ∀ i, Bd 400 (ρ i).1 ∧ (ρ i).2 ≤ 30) : ∀ (e : Ex) (z : Num), e.okn → e.ev ρ = some z → Bd e.bd z.1 ∧ z.2 ≤ 30
  | .ref i, z, _, h => by cases h; exact hρ i
  | .num n, z, ok, h => by cases h; exact ok
  | .neg e, z, ok, h => by
    have h : (e.ev ρ).map negO = some z := h
    cases he : e.ev ρ with
    | none => rw [he] at h; cases h
    | some x =>
      rw [he] at h
      cases h
      have := e.ev_bd hρ x ok he
      exact ⟨this.1.neg, this.2⟩
  | .bin o l r, z, ok, h => by
    have h : ((l.ev ρ).bind fun a => (r.ev ρ).bind fun b => o.ap a b) = some z := h
    cases hl : l.ev ρ with
    | none => rw [hl] at h; cases h
    | some x =>
      cases hr : r.ev ρ with
      | none => rw [hl, hr] at h; cases h
      | some y =>
        rw [hl, hr] at h
        exact Op2.ap_bd (l.ev_bd hρ x ok.1 hl) (r.ev_bd hρ y ok.2 hr) h
end Mine
namespace Mine

noncomputable def okv (n : Nat) (x : Num) : Prop := Bd n x.1 ∧ x.2 ≤ 30
noncomputable def need : It → Nat
  | .leaf _ => 0
  | .neg => 1
  | .op _ => 2
theorem take_app {α : Type} (a b : List α) (i : Nat) (h : i ≤ a.length) : (a ++ b).take i = a.take i := by
  rw [List.take_append_of_le_length h]
theorem take_app2 {α : Type} (a b : List α) (i : Nat) (h : a.length ≤ i) : (a ++ b).take i = a ++ b.take (i - a.length) := by
  rw [List.take_append, List.take_of_length_le h]

theorem pile_ok {ρ : Fin 3 → Num} (hρ : ∀ i, Bd 400 (ρ i).1 ∧ (ρ i).2 ≤ 30) : ∀ (e : Ex) (p q : List Num) (i : Nat), e.okn → run ρ ((post e).take i) p = some q →
    (∀ x ∈ q, x ∈ p ∨ okv e.bd x) ∧ ∀ it, (post e)[i]? = some it → p.length + need it ≤ q.length := by
  have leafc : ∀ (e : Ex) (p q : List Num) (i : Nat), post e = [.leaf e] → okv e.bd (leafVal ρ e) → run ρ ((post e).take i) p = some q →
      (∀ x ∈ q, x ∈ p ∨ okv e.bd x) ∧ ∀ it, (post e)[i]? = some it → p.length + need it ≤ q.length := by
    intro e p q i he hv h
    rw [he] at h ⊢
    cases i with
    | zero =>
      cases h
      refine ⟨fun x hx => .inl hx, fun it hit => ?_⟩
      cases hit
      exact Nat.le_refl _
    | succ i =>
      have : run ρ [.leaf e] p = some (leafVal ρ e :: p) := rfl
      rw [List.take_succ_cons, List.take_nil, this] at h
      cases h
      refine ⟨fun x hx => ?_, fun it hit => by simp at hit⟩
      rcases List.mem_cons.mp hx with rfl | hx
      · exact .inr hv
      · exact .inl hx
  intro e
  induction e with
  | ref i => intro p q k ok h; exact leafc _ p q k rfl (hρ i) h
  | num n => intro p q k ok h; exact leafc _ p q k rfl ok h
  | neg e ih =>
    intro p q k ok h
    have hpost : post (.neg e) = post e ++ [.neg] := rfl
    rw [hpost] at h ⊢
    rcases Nat.lt_or_ge k (post e).length with hk | hk
    · rw [take_app _ _ _ (Nat.le_of_lt hk)] at h
      have := ih p q k ok h
      refine ⟨this.1, fun it hit => this.2 it ?_⟩
      rw [List.getElem?_append_left hk] at hit
      exact hit
    · rw [take_app2 _ _ _ hk, run_append, run_post] at h
      cases he : e.ev ρ with
      | none => rw [he] at h; cases h
      | some v =>
        rw [he] at h
        have hv := e.ev_bd hρ v ok he
        simp only [Option.map_some, Option.bind_some] at h
        rcases Nat.eq_or_lt_of_le hk with hk' | hk'
        · rw [← hk', Nat.sub_self, List.take_zero] at h
          cases h
          refine ⟨fun x hx => ?_, fun it hit => ?_⟩
          · rcases List.mem_cons.mp hx with rfl | hx
            · exact .inr hv
            · exact .inl hx
          · rw [← hk', List.getElem?_append_right (Nat.le_refl _), Nat.sub_self] at hit
            cases hit
            exact Nat.le_refl _
        · rw [List.take_of_length_le (by simp only [List.length_cons, List.length_nil]; (first | lia | omega))] at h
          cases h
          refine ⟨fun x hx => ?_, fun it hit => ?_⟩
          · rcases List.mem_cons.mp hx with rfl | hx
            · exact .inr ⟨hv.1.neg, hv.2⟩
            · exact .inl hx
          · rw [List.getElem?_eq_none (by rw [List.length_append]; simp only [List.length_cons, List.length_nil]; (first | lia | omega))] at hit
            cases hit
  | bin o l r ihl ihr =>
    intro p q k ok h
    have hpost : post (.bin o l r) = post l ++ (post r ++ [.op o]) := rfl
    have ml : ∀ x, okv l.bd x → okv (Ex.bin o l r).bd x := fun x hx => ⟨hx.1.mono (Ex.bd_l o l r).1, hx.2⟩
    have mr : ∀ x, okv r.bd x → okv (Ex.bin o l r).bd x := fun x hx => ⟨hx.1.mono (Ex.bd_l o l r).2, hx.2⟩
    rw [hpost] at h ⊢
    rcases Nat.lt_or_ge k (post l).length with hk | hk
    · rw [take_app _ _ _ (Nat.le_of_lt hk)] at h
      have := ihl p q k ok.1 h
      refine ⟨fun x hx => (this.1 x hx).imp_right (ml x), fun it hit => this.2 it ?_⟩
      rw [List.getElem?_append_left hk] at hit
      exact hit
    · rw [take_app2 _ _ _ hk, run_append, run_post] at h
      cases hel : l.ev ρ with
      | none => rw [hel] at h; cases h
      | some v =>
        rw [hel] at h
        have hv := l.ev_bd hρ v ok.1 hel
        simp only [Option.map_some, Option.bind_some] at h
        rcases Nat.lt_or_ge (k - (post l).length) (post r).length with hk2 | hk2
        · rw [take_app _ _ _ (Nat.le_of_lt hk2)] at h
          have := ihr (v :: p) q _ ok.2 h
          refine ⟨fun x hx => ?_, fun it hit => ?_⟩
          · rcases this.1 x hx with hx | hx
            · rcases List.mem_cons.mp hx with rfl | hx
              · exact .inr (ml _ hv)
              · exact .inl hx
            · exact .inr (mr x hx)
          · rw [List.getElem?_append_right hk, List.getElem?_append_left hk2] at hit
            have := this.2 it hit
            simp only [List.length_cons] at this
            (first | lia | omega)
        · rw [take_app2 _ _ _ hk2, run_append, run_post] at h
          cases her : r.ev ρ with
          | none => rw [her] at h; cases h
          | some v2 =>
            rw [her] at h
            have hv2 := r.ev_bd hρ v2 ok.2 her
            simp only [Option.map_some, Option.bind_some] at h
            rcases Nat.eq_or_lt_of_le hk2 with hk' | hk'
            · rw [← hk', Nat.sub_self, List.take_zero] at h
              cases h
              refine ⟨fun x hx => ?_, fun it hit => ?_⟩
              · rcases List.mem_cons.mp hx with rfl | hx
                · exact .inr (mr _ hv2)
                rcases List.mem_cons.mp hx with rfl | hx
                · exact .inr (ml _ hv)
                · exact .inl hx
              · rw [List.getElem?_append_right hk, ← hk', List.getElem?_append_right (Nat.le_refl _), Nat.sub_self] at hit
                cases hit
                exact Nat.le_refl _
            · rw [List.take_of_length_le (by simp only [List.length_cons, List.length_nil]; (first | lia | omega))] at h
              have h : ((o.ap v v2).map (· :: p)).bind (run ρ []) = some q := h
              cases ha : o.ap v v2 with
              | none => rw [ha] at h; cases h
              | some z =>
                rw [ha] at h
                cases h
                refine ⟨fun x hx => ?_, fun it hit => ?_⟩
                · rcases List.mem_cons.mp hx with rfl | hx
                  · exact .inr (Op2.ap_bd hv hv2 ha)
                  · exact .inl hx
                · rw [List.getElem?_eq_none (by simp only [List.length_append, List.length_cons, List.length_nil]; (first | lia | omega))] at hit
                  cases hit
end Mine
namespace Mine
local macro_rules | `(tactic| walk_at "binaryOp FloorDiv int int") => `(tactic| (k_dflt (refine fdivR (by first | with_reducible assumption | decide) (by first | with_reducible assumption | exact bd_10) ?_)))
local macro_rules | `(tactic| walk_at "binaryOp Mult int int") => `(tactic| (k_dflt (refine mulR (by with_reducible assumption) ?_)))
local macro_rules | `(tactic| walk_at "subscriptTail") => `(tactic| ((with_reducible show wpAny _ _ (subscriptTail _ _ (Value.ref _) (Value.int _ _)) _ _ _); (rename Fr _ _ _ _ => F9); k_dflt (refine item_h F9 (by with_reducible assumption) (by rfl) (by rfl) ?_)))
local macro_rules | `(tactic| walk_at "binaryOp Pow int int") => `(tactic| (k_dflt (refine pow10R (by first | with_reducible assumption | decide | omega) (by first | with_reducible assumption | decide | omega) ?_)))
local macro_rules | `(tactic| walk_at "ite") => `(tactic| ((try dsimp only); first
  | (k_closed; k_dflt (first | refine ite_pos (by decide) ?_ | refine ite_neg (by decide) ?_))
  | with_reducible refine ite_tt ?_
  | with_reducible refine ite_ff ?_
  | refine ite_pos (by with_reducible assumption) ?_
  | refine ite_neg (by with_reducible assumption) ?_
  | refine ite_isFalse (by with_reducible assumption) ?_
  | refine ite_pos (by first | omega | ((simp only [decide_eq_true_eq, beq_iff_eq, bne_iff_ne, ne_eq]); omega)) ?_
  | refine ite_neg (by first | omega | ((simp only [decide_eq_true_eq, beq_iff_eq, bne_iff_ne, ne_eq]); omega)) ?_))
local macro_rules | `(tactic| walk_at "callWith") => `(tactic| first | with_reducible refine callWith_method0 ?_ | with_reducible refine callWith_method1 ?_)
section
theorem fillMG2 : (fun (_ : OpenLaw) (_ : Params → Frag) => True) PySem.Challenge.rw_pc0124_01 hd.heap_39 := by
  w_top off
  k_fill
  trivial




theorem any_sg (o : Op2) : ([Str.ofString "+", Str.ofString "-", Str.ofString "*", Str.ofString "/", Str.ofString "**"].any (· == o.sg)) = true := by cases o <;> decide
section
local macro_rules | `(tactic| walk_at "exec While") => `(tactic| refine' halt ?_)
local macro_rules | `(tactic| k_ne) => `(tactic| ((try dsimp only); assumption))
local macro_rules | `(tactic| k_all) => `(tactic| assumption)
local macro_rules | `(tactic| walk_at "compareOp In str ref") => `(tactic| ((rename Fr _ _ _ _ => F9); (rename Frag.In _ _ => X9); (refine in_tuple_strs (tup_K (Frag.In.keeps X9 F9.keep) (by k_is) rfl rfl) (by kde_strs) ?_); (try dsimp only); (try rw [any_sg])))
theorem postfix_spec {w : World} {p : Program} {loose : List Str} {mean : ExcName → Option Value} {mg mb : Str → Option Value} {s : Shared} {dp un : Nat} {gd : Option (List Code)} {fr : Option (List Env)} {Q E : Value → Shared → Prop} {v1 : Value} {e : Ex} {g : Heap} (X : (hd.heap_39 w.params).In s.heap) (T : Top p loose mean mg mb s.heap) (hd : dp < recursionLimit) (hg : g.StaysIn s.heap) (hv1 : Reads g v1 (dat e) []) (hn : e.size ≤ 200)
    (hret : ∀ h' tk a vs n rest, Heap.StaysIn s.heap h' → s.heap.get? a = none → h'.get? a = some (listOf vs.toArray n) → Tups rest → (∀ p ∈ rest, h'.get? p.1 = some p.2 ∧ s.heap.get? p.1 = none) → ItsAt g rest (post e) vs → Q (.ref a) { s with heap := h', toks := tk }) :
    wpAny (model PR w) (topA dp un gd fr) (call (.ref 142) [v1]) Q E s := by
  refine' enter (binds := [(Str.ofString "expr", v1)]) X T ?k1 ?k2 ?k3 ?k4 ?k5 ?_ ?c2 ?c3 ?c4 ?c5
  case k1 => k_is
  case k2 => k_is
  case k3 => (first | assumption | ((try simp only [topA, depth_deeper] at *); (first | lia | omega)))
  case k4 => first | exact BindsTo.of_eq rfl | exact binds_K (by k_in) rfl (by k_is) rfl rfl rfl
  case k5 => exact locs rfl
  case c2 => exact rfl
  case c3 => exact rfl
  case c4 => exact rfl
  case c5 => decide
  intro L h₁ F N hL
  refine wpAny_noRaise ?_
  try dsimp only
  try k_fold
  k_with_none
  repeat' (first | (k_unfold; (try dsimp only)) | (k_end; wrow_close) | ((try dsimp only); walk1) | (leave1; walk_say "STEP leave1"; try dsimp only) | fail "no step")
  refine Halt.mk ?_
  rename Fr _ _ _ _ => F9
  rename News _ _ _ _ => N9
  obtain ⟨nx0, N0, J0⟩ := PJ.start (e := e) N9 (by k_ne) hv1
  refine While_inv (fun k m news => PJ g e v1 k m news) (fr_set2 F9) N0 J0 ?_
  clear F9 N9 N0 J0
  rintro k m₁ nx h tk F N ⟨W, D, ws, fs, n1, n2, aL, aF, rest, tl, rfl, rfl, hne, hT, hW, hD, hp, hk⟩
  obtain ⟨hl1, hl2⟩ := PJ.len hW hD hp hn
  have hne2 := hne.symm
  have hs1 := tups_ne N (.head _) hT (fun p hp => .tail _ (.tail _ hp))
  have hs2 := tups_ne N (.tail _ (.head _)) hT (fun p hp => .tail _ (.tail _ hp))
  cases hW with
  | nil =>
    repeat' (first | (k_unfold; (try dsimp only)) | (k_end; wrow_close) | ((try dsimp only); walk1) | (leave1; walk_say "STEP leave1"; try dsimp only) | fail "no step")
    rename Fr _ _ _ _ => F9
    refine hret _ _ _ fs n2 rest F9.keep (N _ (.tail _ (.head _))).2.2 (N _ (.tail _ (.head _))).1 hT (fun p hp => ⟨(N p (.tail _ (.tail _ hp))).1, (N p (.tail _ (.tail _ hp))).2.2⟩) ?_
    have hp' : D = post e := by simpa [pend] using hp
    rw [← hp']
    exact hD
  | cons hx hW =>
    rename_i x W y ws
    obtain ⟨t, n3, tk3, v, rfl, hm, hv⟩ := hx
    have ht1 : t ≠ aL := hs1 _ hm
    have ht2 : t ≠ aF := hs2 _ hm
    have N := news_dup N hm
    k_with "call builtin:list.pop" => (refine' kl_pop (p := ws) (y := .ref t) ?Fq1 ?Nq1 (kpa_last _ _) ?Uq1 ?zq1 ?_; (case Fq1 => k_asm); (case Nq1 => k_asm); (case Uq1 => k_upd); (case zq1 => (rw [sizeLine_eq]; exact Nat.le_trans hl1 (by decide))); (intro h' F' N'))
    have hl0 : ws.length ≤ 200 := by have := hl1; simp only [List.length_append] at this; (first | lia | omega)
    have hemp : ¬ (ws ++ [Value.ref t]).isEmpty = true := by simp
    have e0 : pend (x :: W) = x.its ++ pend W := by simp [pend]
    rw [e0] at hp
    have ek0 : k = x.sz + wsz W := hk
    k_with "call builtin:list.extend" => (first
      | (refine' kl_extend (l := ws ++ [_, _, _]) ?Fq2 ?Nq2 ?bq2 rfl ?neq2 ?Uq2 ?dq2 ?zq2 ?yq2 ?_; (case Fq2 => k_asm); (case Nq2 => k_asm); (case bq2 => exact List.Mem.head _); (case neq2 => exact Nat.succ_ne_zero _); (case Uq2 => k_upd); (case dq2 => exact long_no (by simp only [List.size_toArray, List.length_cons, List.length_nil]; (first | lia | omega))); (case zq2 => exact (Nat.le_trans hl0 (by rw [sizeLine_eq]; decide))); (case yq2 => (rw [sizeLine_eq]; simp only [List.size_toArray, List.length_cons, List.length_nil]; (first | lia | omega))); (intro h' F' N'))
      | (refine' kl_extend (l := ws ++ [_, _]) ?Fq3 ?Nq3 ?bq3 rfl ?neq3 ?Uq3 ?dq3 ?zq3 ?yq3 ?_; (case Fq3 => k_asm); (case Nq3 => k_asm); (case bq3 => exact List.Mem.head _); (case neq3 => exact Nat.succ_ne_zero _); (case Uq3 => k_upd); (case dq3 => exact long_no (by simp only [List.size_toArray, List.length_cons, List.length_nil]; (first | lia | omega))); (case zq3 => exact (Nat.le_trans hl0 (by rw [sizeLine_eq]; decide))); (case yq3 => (rw [sizeLine_eq]; simp only [List.size_toArray, List.length_cons, List.length_nil]; (first | lia | omega))); (intro h' F' N')))
    cases x with
    | ex e' =>
      cases e' with
      | bin o l r =>
        obtain ⟨a1, t1, v1, v2, rfl, hI, r1, r2⟩ := tri_open hv
        have hI := Tup.keeps hg hI
        dsimp only [Wk.kind] at N hI
        repeat' (first | (k_unfold; (try dsimp only)) | (k_end; wrow_close) | ((try dsimp only); walk1) | (leave1; walk_say "STEP leave1"; try dsimp only) | fail "no step")
        rename Fr _ _ _ _ => F9
        rename News _ _ _ _ => N9
        exact PJ.ext3 (x1 := .op o) (x2 := .ex r) (x3 := .ex l) (fr_set2 F9) N9 rfl hne hT hW hD (.str _ _) r2 r1 (by rw [← hp]; simp [pend, Wk.its, post]) (by rw [ek0]; simp only [wsz, Wk.sz, Ex.size]; (first | lia | omega))
      | neg l =>
        obtain ⟨a1, t1, v1, rfl, hI, r1⟩ := pair_open hv
        have hI := Tup.keeps hg hI
        dsimp only [Wk.kind, Op2.sg] at N hI
        repeat' (first | (k_unfold; (try dsimp only)) | (k_end; wrow_close) | ((try dsimp only); walk1) | (leave1; walk_say "STEP leave1"; try dsimp only) | fail "no step")
        rename Fr _ _ _ _ => F9
        rename News _ _ _ _ => N9
        exact PJ.ext2 (x1 := .neg) (x2 := .ex l) (fr_set2 F9) N9 rfl hne hT hW hD (.str _ _) r1 (by rw [← hp]; simp [pend, Wk.its, post]) (by rw [ek0]; simp only [wsz, Wk.sz, Ex.size]; (first | lia | omega))
      | num n =>
        obtain ⟨a1, t1, v1, rfl, hI, r1⟩ := pair_open hv
        have hI := Tup.keeps hg hI
        dsimp only [Wk.kind, Op2.sg] at N hI
        repeat' (first | (k_unfold; (try dsimp only)) | (k_end; wrow_close) | ((try dsimp only); walk1) | (leave1; walk_say "STEP leave1"; try dsimp only) | fail "no step")
        rename Fr _ _ _ _ => F9
        rename News _ _ _ _ => N9
        exact PJ.app (i := .leaf (.num n)) (fr_set2 F9) N9 rfl hne hT hW hD rfl hv (by rw [← hp]; rfl) (by rw [ek0]; simp only [Wk.sz, Ex.size]; (first | lia | omega))
      | ref i =>
        obtain ⟨a1, t1, t2, v3, v4, rfl, hI⟩ := ref_open hv
        have hI := Tup.keeps hg hI
        dsimp only [Wk.kind, Op2.sg] at N hI
        repeat' (first | (k_unfold; (try dsimp only)) | (k_end; wrow_close) | ((try dsimp only); walk1) | (leave1; walk_say "STEP leave1"; try dsimp only) | fail "no step")
        rename Fr _ _ _ _ => F9
        rename News _ _ _ _ => N9
        exact PJ.app (i := .leaf (.ref i)) (fr_set2 F9) N9 rfl hne hT hW hD rfl hv (by rw [← hp]; rfl) (by rw [ek0]; simp only [Wk.sz, Ex.size]; (first | lia | omega))
    | neg =>
      dsimp only [Wk.kind, Op2.sg] at N
      repeat' (first | (k_unfold; (try dsimp only)) | (k_end; wrow_close) | ((try dsimp only); walk1) | (leave1; walk_say "STEP leave1"; try dsimp only) | fail "no step")
      rename Fr _ _ _ _ => F9
      rename News _ _ _ _ => N9
      exact PJ.app (i := .neg) (fr_set2 F9) N9 rfl hne hT hW hD rfl hv (by rw [← hp]; rfl) (by rw [ek0]; simp only [Wk.sz]; (first | lia | omega))
    | op o =>
      dsimp only [Wk.kind, Op2.sg] at N
      repeat' (first | (k_unfold; (try dsimp only)) | (k_end; wrow_close) | ((try dsimp only); walk1) | (leave1; walk_say "STEP leave1"; try dsimp only) | fail "no step")
      rename Fr _ _ _ _ => F9
      rename News _ _ _ _ => N9
      exact PJ.app (i := .op o) (fr_set2 F9) N9 rfl hne hT hW hD rfl hv (by rw [← hp]; rfl) (by rw [ek0]; simp only [Wk.sz]; (first | lia | omega))
end
end
section
theorem fillMH : (fun (_ : OpenLaw) (_ : Params → Frag) => True) PySem.Challenge.rw_pc0124_01 hd.heap_39 := by
  w_top off
  k_fill
  trivial




theorem readsAll_get {h : Heap} : ∀ {vs : List Value} {ds : List PyData} {as : List Addr}, ReadsAll h vs ds as → as = [] → ∀ (i : Nat) (v : Value), vs[i]? = some v → ∃ d, ds[i]? = some d ∧ Reads h v d []
  | _, _, _, .nil, _, i, v, q => by simp at q
  | _, _, _, .cons a b, e, 0, v, q => by
    obtain ⟨e1, e2⟩ := List.append_eq_nil_iff.mp e
    subst e1
    simp at q
    subst q
    exact ⟨_, rfl, a⟩
  | _, _, _, .cons a b, e, i + 1, v, q => by
    obtain ⟨e1, e2⟩ := List.append_eq_nil_iff.mp e
    simp at q
    obtain ⟨d, hd, hr⟩ := readsAll_get b e2 i v q
    exact ⟨d, by simpa using hd, hr⟩
theorem readsAll_len {h : Heap} : ∀ {vs : List Value} {ds : List PyData} {as : List Addr}, ReadsAll h vs ds as → vs.length = ds.length
  | _, _, _, .nil => rfl
  | _, _, _, .cons _ r => congrArg (· + 1) (readsAll_len r)
theorem readsAll_snoc {h : Heap} {v : Value} {d : PyData} (hv : Reads h v d []) : ∀ {vs : List Value} {ds : List PyData} {as : List Addr}, ReadsAll h vs ds as → as = [] → ReadsAll h (vs ++ [v]) (ds ++ [d]) []
  | _, _, _, .nil, _ => .cons (as := []) (bs := []) hv .nil
  | _, _, _, .cons a r, e => by
    obtain ⟨e1, e2⟩ := List.append_eq_nil_iff.mp e
    subst e1
    exact .cons (as := []) (bs := []) a (readsAll_snoc hv r e2)
theorem readsAll_tk {h h' : Heap} {vs : List Value} {ds : List PyData} (k : h.StaysIn h') (r : ReadsAll h vs ds []) : ReadsAll h' vs ds [] := Mine.ReadsAll.tk (TK.of k) r rfl
theorem CEnd.intro {h₀ h' : Heap} {C I D : Addr} {oI oD : Obj} {K : List (Addr × Obj) → Prop} {s₂ : Shared} {tk : Nat} {m' : Str → Option Value} (rest' : List (Addr × Obj)) (F : Fr h₀ C h' m') (N : News h₀ C h' ((I, oI) :: (D, oD) :: rest')) (off : ∀ p ∈ rest', p.1 ≠ I ∧ p.1 ≠ D) (hK : K rest') :
    CEnd h₀ C I oI D oD K s₂ { s₂ with heap := h', toks := tk } := ⟨h', tk, m', rest', rfl, F, N, off, hK⟩

section
local macro_rules | `(tactic| walk_at "eval Name") => `(tactic| ((with_reducible show wpAny _ _ (eval _ (compEnvC _ _ _ _)) _ _ _); (rename Fr _ _ _ _ => F9); k_dflt (first
  | refine nmC_L F9 (by rfl) ?_ (by exact rfl) (by with_unfolding_all rfl)
  | ((rename Frag.In _ _ => X9); (rename Top _ _ _ _ _ _ => T9); refine nmC_K F9 X9 T9 (by k_is) ?_ (by exact rfl) (by with_unfolding_all rfl) (by exact rfl)))))
local macro_rules | `(tactic| walk_at "storeName") => `(tactic| ((with_reducible show wpAny _ _ (storeName (compEnvC _ _ _ _) _ _) _ _ _); (rename Fr _ _ _ _ => F9); (rename News _ _ _ _ => N9); k_dflt (refine stC_L F9 N9 ?_ (by exact rfl) (by with_unfolding_all rfl)); intro h' F' N'))
local macro_rules | `(tactic| walk_at "eval ListComp") => `(tactic| (k_dflt (refine ListComp_G (cl := []) (closureFor_none (by decide)) (by decide) (by rfl) (by decide) ?_)))

theorem leaves_spec {w : World} {p : Program} {loose : List Str} {mean : ExcName → Option Value} {mg mb : Str → Option Value} {s : Shared} {dp un : Nat} {gd : Option (List Code)} {fr : Option (List Env)} {Q E : Value → Shared → Prop} {v1 : Value} {e : Ex} (X : (hd.heap_39 w.params).In s.heap) (T : Top p loose mean mg mb s.heap) (hd : dp + 1 < recursionLimit) (hv1 : Reads s.heap v1 (dat e) []) (hn : e.size ≤ 200)
    (hret : ∀ h' tk a vs n, Heap.StaysIn s.heap h' → s.heap.get? a = none → h'.get? a = some (listOf vs.toArray n) → ReadsAll h' vs (e.leaves.map dat) [] → Q (.ref a) { s with heap := h', toks := tk }) :
    wpAny (model PR w) (topA dp un gd fr) (call (.ref 147) [v1]) Q E s := by
  refine' enter (binds := [(Str.ofString "expr", v1)]) X T ?k1 ?k2 ?k3 ?k4 ?k5 ?_ ?c2 ?c3 ?c4 ?c5
  case k1 => k_is
  case k2 => k_is
  case k3 => (first | assumption | ((try simp only [topA, depth_deeper] at *); (first | lia | omega)))
  case k4 => first | exact BindsTo.of_eq rfl | exact binds_K (by k_in) rfl (by k_is) rfl rfl rfl
  case k5 => exact locs rfl
  case c2 => exact rfl
  case c3 => exact rfl
  case c4 => exact rfl
  case c5 => decide
  intro L h₁ F N hL
  refine wpAny_noRaise ?_
  try dsimp only
  try k_fold
  k_with_none
  k_with "call ref" => (rename Fr _ _ _ _ => F9; rename News _ _ _ _ => N9; refine' postfix_spec (Frag.In.keeps X F9.keep) (T.keeps F9.keep) ?hd (fun _ _ q => q) (Rd.stays hv1 F9.keep) hn ?_; (case hd => first | (first | lia | omega) | ((simp only [topA]); (first | lia | omega))); (rintro h2 tk2 a9 vs9 n9 rs9 hS ha0 hal hT9 hN9 hR0; have F2 := F9.keeps hS; have N2 := N9.grown hS; clear F9 N9; (try dsimp only); have hR := ItsAt.readsAll hS (fun p hp => (hN9 p hp).1) hR0; (try k_fold)))
  k_with "pyIter ref" => (refine' wpAny_pyIter_list ⟨_, hal, rfl, _, rfl⟩ ?_; refine' halt ?_)
  repeat' (first | (k_unfold; (try dsimp only)) | (k_end; wrow_close) | ((try dsimp only); walk1) | (leave1; walk_say "STEP leave1"; try dsimp only) | fail "no step")
  refine Halt.mk ?_
  refine CompG.list [] (fun i ys rest => rest = [] ∧ ReadsAll h2 ys ((itLeaves ((post e).take i)).map dat) []) rfl ⟨_, hal, rfl, _, rfl⟩ (by simp) (by simp) ?hsz ?htg ⟨rfl, .nil⟩ ?turn ?done
  case hsz =>
    rw [sizeLine_eq, List.size_toArray, readsAll_len hR, List.length_map, post_length]
    (first | lia | omega)
  case htg =>
    refine .inl ⟨_, _, _, rfl, fun i v hv => ?_⟩
    obtain ⟨d, hd, hr⟩ := readsAll_get hR rfl i v (by simpa using hv)
    rw [List.getElem?_map] at hd
    obtain ⟨it, hit, rfl⟩ := Option.map_eq_some_iff.mp hd
    cases it <;> (obtain ⟨a, _, _, rfl, _⟩ := pair_open hr; exact ⟨a, rfl⟩)
  case turn =>
    rintro h₀ C D I i v ys rest oI k h m tk tk₀ hp E' kg hi hP ⟨rfl, hY⟩ F N hID -
    replace kg : h2.StaysIn h₀ := kg
    obtain ⟨d, hd, hr⟩ := readsAll_get hR rfl i v (by simpa using hP)
    rw [List.getElem?_map] at hd
    obtain ⟨it, hit, rfl⟩ := Option.map_eq_some_iff.mp hd
    have X : (Mine.hd.heap_39 w.params).In h₀ := X.keeps fun b o q => kg b o (F2.keep b o q)
    have T := T.keeps fun b o q => kg b o (F2.keep b o q)
    clear F2 N2
    cases it with
    | leaf e' =>
      obtain ⟨a, t1, v1, rfl, hI, r1⟩ := pair_open hr
      have hI := Tup.keeps kg hI
      k_with_none
      repeat' (first | (k_unfold; (try dsimp only)) | (k_end; wrow_close) | ((try dsimp only); walk1) | (leave1; walk_say "STEP leave1"; try dsimp only) | fail "no step")
      rename Fr _ _ _ _ => F9
      rename News _ _ _ _ => N9
      refine CEnd.intro [] F9 N9 (by simp) ⟨rfl, ?_⟩
      rw [List.take_add_one, hit, itLeaves_append, List.map_append]
      exact readsAll_snoc r1 hY rfl
    | neg =>
      obtain ⟨a, t1, v1, rfl, hI, r1⟩ := pair_open hr
      have hI := Tup.keeps kg hI
      k_with_none
      repeat' (first | (k_unfold; (try dsimp only)) | (k_end; wrow_close) | ((try dsimp only); walk1) | (leave1; walk_say "STEP leave1"; try dsimp only) | fail "no step")
      rename Fr _ _ _ _ => F9
      rename News _ _ _ _ => N9
      refine CEnd.intro [] F9 N9 (by simp) ⟨rfl, ?_⟩
      rw [List.take_add_one, hit, itLeaves_append, List.map_append]
      simpa [itLeaves] using hY
    | op o =>
      obtain ⟨a, t1, v1, rfl, hI, r1⟩ := pair_open hr
      have hI := Tup.keeps kg hI
      k_with_none
      repeat' (first | (k_unfold; (try dsimp only)) | (k_end; wrow_close) | ((try dsimp only); walk1) | (leave1; walk_say "STEP leave1"; try dsimp only) | fail "no step")
      rename Fr _ _ _ _ => F9
      rename News _ _ _ _ => N9
      refine CEnd.intro [] F9 N9 (by simp) ⟨rfl, ?_⟩
      rw [List.take_add_one, hit, itLeaves_append, List.map_append]
      simpa [itLeaves] using hY
  case done =>
    rintro D h' tk ys rest k ⟨rfl, hY⟩ hs hD hD0 - -
    replace hs : h2.StaysIn h' := hs
    refine hret h' _ D ys k (fun b o q => hs b o (F2.keep b o q)) (none_back F2.keep hD0) hD ?_
    have e1 : (itLeaves (List.take vs9.toArray.size (post e))).map dat = e.leaves.map dat := by
      rw [List.size_toArray, readsAll_len hR, List.length_map, List.take_length, itLeaves_post]
    rw [← e1]
    exact readsAll_tk hs hY
end
end
section
theorem fillMJ : (fun (_ : OpenLaw) (_ : Params → Frag) => True) PySem.Challenge.rw_pc0124_01 hd.heap_39 := by
  w_top off
  k_fill
  trivial




noncomputable def WorldAt (w : World) (h : Heap) (d : Addr) (ρ : Fin 3 → Num) : Prop := ∃ kvs, h.DictOf (strKind PR w) d kvs ∧ ∀ i, ∃ v, valueAt kvs (nm3 i) = some v ∧ Reads h v (numD (ρ i)) []
theorem WorldAt.keeps {w : World} {h h' : Heap} {d : Addr} {ρ : Fin 3 → Num} (x : WorldAt w h d ρ) (k : h.StaysIn h') : WorldAt w h' d ρ := by
  obtain ⟨kvs, hd, hv⟩ := x
  exact ⟨kvs, hd.keep k, fun i => by obtain ⟨v, e, r⟩ := hv i; exact ⟨v, e, Rd.stays r k⟩⟩
theorem item_world {w : World} {A : Around} {E : Value → Shared → Prop} {s : Shared} {d : Addr} {ρ : Fin 3 → Num} {i : Fin 3} {t : Tok} {value slice : PySem.Expr} {Q : Value → Shared → Prop} (W : WorldAt w s.heap d ρ)
    (h : ∀ v, Reads s.heap v (numD (ρ i)) [] → Q v { s with toks := s.toks + 1 })
    (hs : subscripted slice false (.ref d) (.str (nm3 i) t) = operate [.ref d, .str (nm3 i) t] (getItem (.ref d) (.str (nm3 i) t))) (hg : ∀ r, letTemporaryGo value (.ref d) r = pure ()) :
    wpAny (model PR w) A (subscriptTail value slice (.ref d) (.str (nm3 i) t)) Q E s := by
  obtain ⟨kvs, hd, hv⟩ := W
  obtain ⟨v, e, r⟩ := hv i
  exact subscriptTail_builtin hd.typeIs slot_dict_getitem.lookup (wpAny_getItem_of (strKind_is _ _ _ _) hd.mapOf e (h v r)) hs hg

theorem item_c {prog : Program} {w : World} {A : Around} {E : Value → Shared → Prop} {s : Shared} {value slice : PySem.Expr} {t : Addr} {l : List Value} {k : Int} {u : Tok} {x : Value} {Q : Value → Shared → Prop}
    (ht : IsTup s.heap t l.toArray) (hk : (decide (0 ≤ k) && decide (k < 100)) = true) (hx : l[k.toNat]? = some x) (h : Q x s)
    (hs : subscripted slice false (.ref t) (.int k u) = operate [.ref t, .int k u] (getItem (.ref t) (.int k u))) :
    wpAny (model prog w) A (subscriptTail value slice (.ref t) (.int k u)) Q E s := by
  simp only [Bool.and_eq_true, decide_eq_true_eq] at hk
  obtain ⟨hlt, _⟩ := List.getElem?_eq_some_iff.mp hx
  refine item_tupleT ht (by (first | lia | omega)) (by (first | lia | omega)) (j := k.toNat) ?_ hx h hs
  unfold seqIndex?
  simp only [if_neg (Int.not_lt.mpr hk.1)]
  rw [if_pos]
  simp only [Bool.and_eq_true, decide_eq_true_eq]
  (first | lia | omega)
theorem item_num0 {prog : Program} {w : World} {A : Around} {E : Value → Shared → Prop} {s : Shared} {a : Addr} {x : Num} {u : Tok} {value slice : PySem.Expr} {Q : Value → Shared → Prop} (r : Reads s.heap (.ref a) (numD x) []) (h : ∀ t, Q (.int x.1 t) s)
    (hs : subscripted slice false (.ref a) (.int 0 u) = operate [.ref a, .int 0 u] (getItem (.ref a) (.int 0 u))) : wpAny (model prog w) A (subscriptTail value slice (.ref a) (.int 0 u)) Q E s := by
  obtain ⟨b, t1, t2, e, hI⟩ := num_open r
  cases e
  exact item_c hI rfl rfl (h t1) hs
theorem item_num1 {prog : Program} {w : World} {A : Around} {E : Value → Shared → Prop} {s : Shared} {a : Addr} {x : Num} {u : Tok} {value slice : PySem.Expr} {Q : Value → Shared → Prop} (r : Reads s.heap (.ref a) (numD x) []) (h : ∀ t, Q (.int (x.2 : Int) t) s)
    (hs : subscripted slice false (.ref a) (.int 1 u) = operate [.ref a, .int 1 u] (getItem (.ref a) (.int 1 u))) : wpAny (model prog w) A (subscriptTail value slice (.ref a) (.int 1 u)) Q E s := by
  obtain ⟨b, t1, t2, e, hI⟩ := num_open r
  cases e
  exact item_c hI rfl rfl (h t2) hs

theorem worth_spec {ρ : Fin 3 → Num} (hρ : ∀ i, Bd 400 (ρ i).1 ∧ (ρ i).2 ≤ 30) : ∀ (e : Ex) {w : World} {p : Program} {loose : List Str} {mean : ExcName → Option Value} {mg mb : Str → Option Value} {s : Shared} {dp un : Nat} {gd : Option (List Code)} {fr : Option (List Env)} {Q E : Value → Shared → Prop} {v1 : Value} {d : Addr} (X : (hd.heap_39 w.params).In s.heap) (T : Top p loose mean mg mb s.heap) (hdp : dp + e.deep + 4 < recursionLimit) (hv1 : Reads s.heap v1 (dat e) []) (hw : WorldAt w s.heap d ρ) (hn : e.bd ≤ 8500) (ok : e.okn)
    (hret : ∀ h' tk v, Heap.StaysIn s.heap h' → Reads h' v (optD (e.ev ρ)) [] → Q v { s with heap := h', toks := tk }),
    wpAny (model PR w) (topA dp un gd fr) (call (.ref 242) [v1, .ref d]) Q E s := by
  intro e
  induction e with
  | ref i =>
    intro w p loose mean mg mb s dp un gd fr Q E v1 d X T hdp hv1 hw hn ok hret
    obtain ⟨a, t1, t2, v3, v4, rfl, hI⟩ := ref_open hv1
    refine' enter (binds := [(Str.ofString "expr", .ref a), (Str.ofString "world", .ref d)]) X T ?k1 ?k2 ?k3 ?k4 ?k5 ?_ ?c2 ?c3 ?c4 ?c5
    case k1 => k_is
    case k2 => k_is
    case k3 => (first | assumption | ((try simp only [topA, depth_deeper] at *); (first | lia | omega)))
    case k4 => first | exact BindsTo.of_eq rfl | exact binds_K (by k_in) rfl (by k_is) rfl rfl rfl
    case k5 => exact locs rfl
    case c2 => exact rfl
    case c3 => exact rfl
    case c4 => exact rfl
    case c5 => decide
    intro L h₁ F N hL
    refine wpAny_noRaise ?_
    try dsimp only
    try k_fold
    k_with_none
    k_with "subscriptTail" => (rename Fr _ _ _ _ => F9; rename News _ _ _ _ => N9; refine' item_world (hw.keeps F9.keep) ?hq1 ?hq2 ?hq3; (case hq2 => with_unfolding_all rfl); (case hq3 => (intro _; rfl)); (intro v9 hv9))
    repeat' (first | (k_unfold; (try dsimp only)) | (k_end; wrow_close) | ((try dsimp only); walk1) | (leave1; walk_say "STEP leave1"; try dsimp only) | fail "no step")
    exact hret _ _ _ (Fr.keep (by assumption)) (by assumption)
  | num n =>
    intro w p loose mean mg mb s dp un gd fr Q E v1 d X T hdp hv1 hw hn ok hret
    obtain ⟨a, t1, v2, rfl, hI, r1⟩ := pair_open hv1
    refine' enter (binds := [(Str.ofString "expr", .ref a), (Str.ofString "world", .ref d)]) X T ?k1 ?k2 ?k3 ?k4 ?k5 ?_ ?c2 ?c3 ?c4 ?c5
    case k1 => k_is
    case k2 => k_is
    case k3 => (first | assumption | ((try simp only [topA, depth_deeper] at *); (first | lia | omega)))
    case k4 => first | exact BindsTo.of_eq rfl | exact binds_K (by k_in) rfl (by k_is) rfl rfl rfl
    case k5 => exact locs rfl
    case c2 => exact rfl
    case c3 => exact rfl
    case c4 => exact rfl
    case c5 => decide
    intro L h₁ F N hL
    refine wpAny_noRaise ?_
    try dsimp only
    try k_fold
    k_with_none
    repeat' (first | (k_unfold; (try dsimp only)) | (k_end; wrow_close) | ((try dsimp only); walk1) | (leave1; walk_say "STEP leave1"; try dsimp only) | fail "no step")
    exact hret _ _ _ (Fr.keep (by assumption)) (Rd.stays r1 (Fr.keep (by assumption)))
  | neg e ih =>
    intro w p loose mean mg mb s dp un gd fr Q E v1 d X T hdp hv1 hw hn ok hret
    obtain ⟨a, t1, v2, rfl, hI, r1⟩ := pair_open hv1
    simp only [Ex.deep] at hdp
    refine' enter (binds := [(Str.ofString "expr", .ref a), (Str.ofString "world", .ref d)]) X T ?k1 ?k2 ?k3 ?k4 ?k5 ?_ ?c2 ?c3 ?c4 ?c5
    case k1 => k_is
    case k2 => k_is
    case k3 => (first | assumption | ((try simp only [topA, depth_deeper] at *); (first | lia | omega)))
    case k4 => first | exact BindsTo.of_eq rfl | exact binds_K (by k_in) rfl (by k_is) rfl rfl rfl
    case k5 => exact locs rfl
    case c2 => exact rfl
    case c3 => exact rfl
    case c4 => exact rfl
    case c5 => decide
    intro L h₁ F N hL
    refine wpAny_noRaise ?_
    try dsimp only
    try k_fold
    k_with_none
    k_with "call ref" => (rename Fr _ _ _ _ => F9; rename News _ _ _ _ => N9; refine' ih (Frag.In.keeps X F9.keep) (T.keeps F9.keep) ?hd1 (Rd.stays r1 F9.keep) (hw.keeps F9.keep) hn ok ?hr1; (case hd1 => first | (first | lia | omega) | ((simp only [topA]); (first | lia | omega))); (rintro h2 tk2 v2 hS hI; have F2 := F9.keeps hS; have N2 := N9.grown hS; clear F9 N9; (try dsimp only); refine' halt ?_))
    repeat' (first | (k_unfold; (try dsimp only)) | (k_end; wrow_close) | ((try dsimp only); walk1) | (leave1; walk_say "STEP leave1"; try dsimp only) | fail "no step")
    refine Halt.mk ?_
    have hev : (Ex.neg e).ev ρ = (e.ev ρ).map negO := rfl
    rw [hev] at hret
    cases he : e.ev ρ with
    | none =>
      rw [he] at hI hret
      obtain rfl := opt_none hI
      repeat' (first | (k_unfold; (try dsimp only)) | (k_end; wrow_close) | ((try dsimp only); walk1) | (leave1; walk_say "STEP leave1"; try dsimp only) | fail "no step")
      exact hret _ _ _ (Fr.keep (by assumption)) .none
    | some x =>
      rw [he] at hI hret
      refine Reads.regE F2 hI fun rl hTl hNl hDl => ?_
      have N3 := News.app hNl N2
      clear N2
      obtain ⟨a2, t1', t2', rfl, -⟩ := num_open hI
      k_with "subscriptTail" => (rename Fr _ _ _ _ => F9; rename News _ _ _ _ => N9; first | ((with_reducible show wpAny _ _ (subscriptTail _ _ (Value.ref _) (Value.int 0 _)) _ _ _); refine' item_num0 (hDl.reads F9 (News.sub N9 ?hs1)) ?hs2 ?hs7; (case hs7 => exact rfl); (case hs1 => (intro p9 hp9; simp only [List.mem_append, List.mem_cons]; simp only [hp9, true_or, or_true])); (intro t9)) | ((with_reducible show wpAny _ _ (subscriptTail _ _ (Value.ref _) (Value.int 1 _)) _ _ _); refine' item_num1 (hDl.reads F9 (News.sub N9 ?hs3)) ?hs4 ?hs8; (case hs8 => exact rfl); (case hs3 => (intro p9 hp9; simp only [List.mem_append, List.mem_cons]; simp only [hp9, true_or, or_true])); (intro t9)))
      repeat' (first | (k_unfold; (try dsimp only)) | (k_end; wrow_close) | ((try dsimp only); walk1) | (leave1; walk_say "STEP leave1"; try dsimp only) | fail "no step")
      rename News _ _ _ _ => N9
      exact hret _ _ _ (Fr.keep (by assumption)) (num_close (x := negO x) (News.isTup N9 (.head _)))
  | bin o l r ihl ihr =>
    intro w p loose mean mg mb s dp un gd fr Q E v1 d X T hdp hv1 hw hn ok hret
    obtain ⟨a, t1, vl, vr, rfl, hI, r1, r2⟩ := tri_open hv1
    obtain ⟨okl, okr⟩ := ok
    have hbl := Nat.le_trans (Ex.bd_l o l r).1 hn
    have hbr := Nat.le_trans (Ex.bd_l o l r).2 hn
    simp only [Ex.deep] at hdp
    have hbx := fun a (q : l.ev ρ = some a) => ((l.ev_bd hρ a okl q).imp_left fun z => z.mono hbl)
    have hby := fun a (q : r.ev ρ = some a) => ((r.ev_bd hρ a okr q).imp_left fun z => z.mono hbr)
    have hev : (Ex.bin o l r).ev ρ = (l.ev ρ).bind fun a => (r.ev ρ).bind fun b => o.ap a b := rfl
    rw [hev] at hret
    have hl1 : dp + 1 + l.deep + 4 < recursionLimit := by (first | lia | omega)
    have hl2 : dp + 1 + r.deep + 4 < recursionLimit := by (first | lia | omega)
    cases o
    case mul =>
      unfold Op2.sg at hI
      dsimp only at hI
      refine' enter (binds := [(Str.ofString "expr", .ref a), (Str.ofString "world", .ref d)]) X T ?k1 ?k2 ?k3 ?k4 ?k5 ?_ ?c2 ?c3 ?c4 ?c5
      case k1 => k_is
      case k2 => k_is
      case k3 => (first | assumption | ((try simp only [topA, depth_deeper] at *); (first | lia | omega)))
      case k4 => first | exact BindsTo.of_eq rfl | exact binds_K (by k_in) rfl (by k_is) rfl rfl rfl
      case k5 => exact locs rfl
      case c2 => exact rfl
      case c3 => exact rfl
      case c4 => exact rfl
      case c5 => decide
      intro L h₁ F N hL
      refine wpAny_noRaise ?_
      try dsimp only
      try k_fold
      k_with_none
      k_with "call ref" => (rename Fr _ _ _ _ => F9; rename News _ _ _ _ => N9; refine' ihl (Frag.In.keeps X F9.keep) (T.keeps F9.keep) ?hdAmul (Rd.stays r1 F9.keep) (hw.keeps F9.keep) hbl okl ?hrAmul; (case hdAmul => exact hl1); (rintro h2 tk2 v2 hS hI1; have F2 := F9.keeps hS; have N2 := N9.grown hS; clear F9 N9; (try dsimp only); refine Reads.regE F2 hI1 fun rl hTl hNl hDl => ?_; have N3 := News.app hNl N2; clear N2))
      k_with "call ref" => (rename Fr _ _ _ _ => F9; rename News _ _ _ _ => N9; refine' ihr (Frag.In.keeps X F9.keep) (T.keeps F9.keep) ?hdBmul (Rd.stays r2 F9.keep) (hw.keeps F9.keep) hbr okr ?hrBmul; (case hdBmul => exact hl2); (rintro h2 tk2 v2 hS hI2; have F2 := F9.keeps hS; have N2 := N9.grown hS; clear F9 N9; (try dsimp only); refine Reads.regE F2 hI2 fun rr hTr hNr hDr => ?_; have N4 := News.app hNr N2; clear N2; refine' halt ?_))
      repeat' (first | (k_unfold; (try dsimp only)) | (k_end; wrow_close) | ((try dsimp only); walk1) | (leave1; walk_say "STEP leave1"; try dsimp only) | fail "no step")
      refine Halt.mk ?_
      cases hel : l.ev ρ with
      | none =>
        rw [hel] at hI1 hret
        obtain rfl := opt_none hI1
        repeat' (first | (k_unfold; (try dsimp only)) | (k_end; wrow_close) | ((try dsimp only); walk1) | (leave1; walk_say "STEP leave1"; try dsimp only) | fail "no step")
        exact hret _ _ _ (Fr.keep (by assumption)) .none
      | some x =>
        cases her : r.ev ρ with
        | none =>
          rw [hel] at hI1 hret
          rw [her] at hI2 hret
          obtain ⟨a2, t1', t2', rfl, -⟩ := num_open hI1
          obtain rfl := opt_none hI2
          repeat' (first | (k_unfold; (try dsimp only)) | (k_end; wrow_close) | ((try dsimp only); walk1) | (leave1; walk_say "STEP leave1"; try dsimp only) | fail "no step")
          exact hret _ _ _ (Fr.keep (by assumption)) .none
        | some y =>
          rw [hel] at hI1 hret hDl
          rw [her] at hI2 hret hDr
          obtain ⟨hbx1, hx⟩ := hbx x hel
          obtain ⟨hby1, hy⟩ := hby y her
          obtain ⟨a2, t1', t2', rfl, -⟩ := num_open hI1
          obtain ⟨a3, t3', t4', rfl, -⟩ := num_open hI2
          k_with "call ref" => (rename Fr _ _ _ _ => F9; rename News _ _ _ _ => N9; refine' lawtimes_spec (x := some x) (y := some y) (n := 8500) (Frag.In.keeps X F9.keep) (T.keeps F9.keep) ?hdCmul (hDl.reads F9 (News.sub N9 ?hs5mul)) (hDr.reads F9 (News.sub N9 ?hs6mul)) ?hb5mul ?hb6mul (by (first | lia | omega)) ?hr5mul; (case hs5mul => (intro p9 hp9; simp only [List.mem_append, List.mem_cons]; simp only [hp9, true_or, or_true])); (case hs6mul => (intro p9 hp9; simp only [List.mem_append, List.mem_cons]; simp only [hp9, true_or, or_true])); (case hb5mul => (rintro _ ⟨⟩; exact ⟨hbx1, hx⟩)); (case hb6mul => (rintro _ ⟨⟩; exact ⟨hby1, hy⟩)); (case hdCmul => first | (first | lia | omega) | ((simp only [topA]); (first | lia | omega))); (rintro h2 tk2 v2 hS hI9; have F2 := F9.keeps hS; have N2 := N9.grown hS; clear F9 N9; (try dsimp only)))
          repeat' (first | (k_unfold; (try dsimp only)) | (k_end; wrow_close) | ((try dsimp only); walk1) | (leave1; walk_say "STEP leave1"; try dsimp only) | fail "no step")
          exact hret _ _ _ (Fr.keep (by assumption)) hI9
    case div =>
      unfold Op2.sg at hI
      dsimp only at hI
      refine' enter (binds := [(Str.ofString "expr", .ref a), (Str.ofString "world", .ref d)]) X T ?k1 ?k2 ?k3 ?k4 ?k5 ?_ ?c2 ?c3 ?c4 ?c5
      case k1 => k_is
      case k2 => k_is
      case k3 => (first | assumption | ((try simp only [topA, depth_deeper] at *); (first | lia | omega)))
      case k4 => first | exact BindsTo.of_eq rfl | exact binds_K (by k_in) rfl (by k_is) rfl rfl rfl
      case k5 => exact locs rfl
      case c2 => exact rfl
      case c3 => exact rfl
      case c4 => exact rfl
      case c5 => decide
      intro L h₁ F N hL
      refine wpAny_noRaise ?_
      try dsimp only
      try k_fold
      k_with_none
      k_with "call ref" => (rename Fr _ _ _ _ => F9; rename News _ _ _ _ => N9; refine' ihl (Frag.In.keeps X F9.keep) (T.keeps F9.keep) ?hdAdiv (Rd.stays r1 F9.keep) (hw.keeps F9.keep) hbl okl ?hrAdiv; (case hdAdiv => exact hl1); (rintro h2 tk2 v2 hS hI1; have F2 := F9.keeps hS; have N2 := N9.grown hS; clear F9 N9; (try dsimp only); refine Reads.regE F2 hI1 fun rl hTl hNl hDl => ?_; have N3 := News.app hNl N2; clear N2))
      k_with "call ref" => (rename Fr _ _ _ _ => F9; rename News _ _ _ _ => N9; refine' ihr (Frag.In.keeps X F9.keep) (T.keeps F9.keep) ?hdBdiv (Rd.stays r2 F9.keep) (hw.keeps F9.keep) hbr okr ?hrBdiv; (case hdBdiv => exact hl2); (rintro h2 tk2 v2 hS hI2; have F2 := F9.keeps hS; have N2 := N9.grown hS; clear F9 N9; (try dsimp only); refine Reads.regE F2 hI2 fun rr hTr hNr hDr => ?_; have N4 := News.app hNr N2; clear N2; refine' halt ?_))
      repeat' (first | (k_unfold; (try dsimp only)) | (k_end; wrow_close) | ((try dsimp only); walk1) | (leave1; walk_say "STEP leave1"; try dsimp only) | fail "no step")
      refine Halt.mk ?_
      cases hel : l.ev ρ with
      | none =>
        rw [hel] at hI1 hret
        obtain rfl := opt_none hI1
        repeat' (first | (k_unfold; (try dsimp only)) | (k_end; wrow_close) | ((try dsimp only); walk1) | (leave1; walk_say "STEP leave1"; try dsimp only) | fail "no step")
        exact hret _ _ _ (Fr.keep (by assumption)) .none
      | some x =>
        cases her : r.ev ρ with
        | none =>
          rw [hel] at hI1 hret
          rw [her] at hI2 hret
          obtain ⟨a2, t1', t2', rfl, -⟩ := num_open hI1
          obtain rfl := opt_none hI2
          repeat' (first | (k_unfold; (try dsimp only)) | (k_end; wrow_close) | ((try dsimp only); walk1) | (leave1; walk_say "STEP leave1"; try dsimp only) | fail "no step")
          exact hret _ _ _ (Fr.keep (by assumption)) .none
        | some y =>
          rw [hel] at hI1 hret hDl
          rw [her] at hI2 hret hDr
          obtain ⟨hbx1, hx⟩ := hbx x hel
          obtain ⟨hby1, hy⟩ := hby y her
          obtain ⟨a2, t1', t2', rfl, -⟩ := num_open hI1
          obtain ⟨a3, t3', t4', rfl, -⟩ := num_open hI2
          k_with "call ref" => (rename Fr _ _ _ _ => F9; rename News _ _ _ _ => N9; refine' lawover_spec (x := some x) (y := some y) (n := 8500) (Frag.In.keeps X F9.keep) (T.keeps F9.keep) ?hdCdiv (hDl.reads F9 (News.sub N9 ?hs5div)) (hDr.reads F9 (News.sub N9 ?hs6div)) ?hb5div ?hb6div (by (first | lia | omega)) ?hr5div; (case hs5div => (intro p9 hp9; simp only [List.mem_append, List.mem_cons]; simp only [hp9, true_or, or_true])); (case hs6div => (intro p9 hp9; simp only [List.mem_append, List.mem_cons]; simp only [hp9, true_or, or_true])); (case hb5div => (rintro _ ⟨⟩; exact ⟨hbx1, hx⟩)); (case hb6div => (rintro _ ⟨⟩; exact ⟨hby1, hy⟩)); (case hdCdiv => first | (first | lia | omega) | ((simp only [topA]); (first | lia | omega))); (rintro h2 tk2 v2 hS hI9; have F2 := F9.keeps hS; have N2 := N9.grown hS; clear F9 N9; (try dsimp only)))
          repeat' (first | (k_unfold; (try dsimp only)) | (k_end; wrow_close) | ((try dsimp only); walk1) | (leave1; walk_say "STEP leave1"; try dsimp only) | fail "no step")
          exact hret _ _ _ (Fr.keep (by assumption)) hI9
    case pow =>
      unfold Op2.sg at hI
      dsimp only at hI
      refine' enter (binds := [(Str.ofString "expr", .ref a), (Str.ofString "world", .ref d)]) X T ?k1 ?k2 ?k3 ?k4 ?k5 ?_ ?c2 ?c3 ?c4 ?c5
      case k1 => k_is
      case k2 => k_is
      case k3 => (first | assumption | ((try simp only [topA, depth_deeper] at *); (first | lia | omega)))
      case k4 => first | exact BindsTo.of_eq rfl | exact binds_K (by k_in) rfl (by k_is) rfl rfl rfl
      case k5 => exact locs rfl
      case c2 => exact rfl
      case c3 => exact rfl
      case c4 => exact rfl
      case c5 => decide
      intro L h₁ F N hL
      refine wpAny_noRaise ?_
      try dsimp only
      try k_fold
      k_with_none
      k_with "call ref" => (rename Fr _ _ _ _ => F9; rename News _ _ _ _ => N9; refine' ihl (Frag.In.keeps X F9.keep) (T.keeps F9.keep) ?hdApow (Rd.stays r1 F9.keep) (hw.keeps F9.keep) hbl okl ?hrApow; (case hdApow => exact hl1); (rintro h2 tk2 v2 hS hI1; have F2 := F9.keeps hS; have N2 := N9.grown hS; clear F9 N9; (try dsimp only); refine Reads.regE F2 hI1 fun rl hTl hNl hDl => ?_; have N3 := News.app hNl N2; clear N2))
      k_with "call ref" => (rename Fr _ _ _ _ => F9; rename News _ _ _ _ => N9; refine' ihr (Frag.In.keeps X F9.keep) (T.keeps F9.keep) ?hdBpow (Rd.stays r2 F9.keep) (hw.keeps F9.keep) hbr okr ?hrBpow; (case hdBpow => exact hl2); (rintro h2 tk2 v2 hS hI2; have F2 := F9.keeps hS; have N2 := N9.grown hS; clear F9 N9; (try dsimp only); refine Reads.regE F2 hI2 fun rr hTr hNr hDr => ?_; have N4 := News.app hNr N2; clear N2; refine' halt ?_))
      repeat' (first | (k_unfold; (try dsimp only)) | (k_end; wrow_close) | ((try dsimp only); walk1) | (leave1; walk_say "STEP leave1"; try dsimp only) | fail "no step")
      refine Halt.mk ?_
      cases hel : l.ev ρ with
      | none =>
        rw [hel] at hI1 hret
        obtain rfl := opt_none hI1
        repeat' (first | (k_unfold; (try dsimp only)) | (k_end; wrow_close) | ((try dsimp only); walk1) | (leave1; walk_say "STEP leave1"; try dsimp only) | fail "no step")
        exact hret _ _ _ (Fr.keep (by assumption)) .none
      | some x =>
        cases her : r.ev ρ with
        | none =>
          rw [hel] at hI1 hret
          rw [her] at hI2 hret
          obtain ⟨a2, t1', t2', rfl, -⟩ := num_open hI1
          obtain rfl := opt_none hI2
          repeat' (first | (k_unfold; (try dsimp only)) | (k_end; wrow_close) | ((try dsimp only); walk1) | (leave1; walk_say "STEP leave1"; try dsimp only) | fail "no step")
          exact hret _ _ _ (Fr.keep (by assumption)) .none
        | some y =>
          rw [hel] at hI1 hret hDl
          rw [her] at hI2 hret hDr
          obtain ⟨hbx1, hx⟩ := hbx x hel
          obtain ⟨hby1, hy⟩ := hby y her
          obtain ⟨a2, t1', t2', rfl, -⟩ := num_open hI1
          obtain ⟨a3, t3', t4', rfl, -⟩ := num_open hI2
          k_with "call ref" => (rename Fr _ _ _ _ => F9; rename News _ _ _ _ => N9; refine' lawraised_spec (x := some x) (y := some y) (n := 8500) (Frag.In.keeps X F9.keep) (T.keeps F9.keep) ?hdCpow (hDl.reads F9 (News.sub N9 ?hs5pow)) (hDr.reads F9 (News.sub N9 ?hs6pow)) ?hb5pow ?hb6pow (by (first | lia | omega)) (by (first | lia | omega)) ?hr5pow; (case hs5pow => (intro p9 hp9; simp only [List.mem_append, List.mem_cons]; simp only [hp9, true_or, or_true])); (case hs6pow => (intro p9 hp9; simp only [List.mem_append, List.mem_cons]; simp only [hp9, true_or, or_true])); (case hb5pow => (rintro _ ⟨⟩; exact ⟨hbx1, hx⟩)); (case hb6pow => (rintro _ ⟨⟩; exact ⟨hby1, hy⟩)); (case hdCpow => first | (first | lia | omega) | ((simp only [topA]); (first | lia | omega))); (rintro h2 tk2 v2 hS hI9; have F2 := F9.keeps hS; have N2 := N9.grown hS; clear F9 N9; (try dsimp only)))
          repeat' (first | (k_unfold; (try dsimp only)) | (k_end; wrow_close) | ((try dsimp only); walk1) | (leave1; walk_say "STEP leave1"; try dsimp only) | fail "no step")
          exact hret _ _ _ (Fr.keep (by assumption)) hI9
    case add =>
      unfold Op2.sg at hI
      dsimp only at hI
      refine' enter (binds := [(Str.ofString "expr", .ref a), (Str.ofString "world", .ref d)]) X T ?k1 ?k2 ?k3 ?k4 ?k5 ?_ ?c2 ?c3 ?c4 ?c5
      case k1 => k_is
      case k2 => k_is
      case k3 => (first | assumption | ((try simp only [topA, depth_deeper] at *); (first | lia | omega)))
      case k4 => first | exact BindsTo.of_eq rfl | exact binds_K (by k_in) rfl (by k_is) rfl rfl rfl
      case k5 => exact locs rfl
      case c2 => exact rfl
      case c3 => exact rfl
      case c4 => exact rfl
      case c5 => decide
      intro L h₁ F N hL
      refine wpAny_noRaise ?_
      try dsimp only
      try k_fold
      k_with_none
      k_with "call ref" => (rename Fr _ _ _ _ => F9; rename News _ _ _ _ => N9; refine' ihl (Frag.In.keeps X F9.keep) (T.keeps F9.keep) ?hdAadd (Rd.stays r1 F9.keep) (hw.keeps F9.keep) hbl okl ?hrAadd; (case hdAadd => exact hl1); (rintro h2 tk2 v2 hS hI1; have F2 := F9.keeps hS; have N2 := N9.grown hS; clear F9 N9; (try dsimp only); refine Reads.regE F2 hI1 fun rl hTl hNl hDl => ?_; have N3 := News.app hNl N2; clear N2))
      k_with "call ref" => (rename Fr _ _ _ _ => F9; rename News _ _ _ _ => N9; refine' ihr (Frag.In.keeps X F9.keep) (T.keeps F9.keep) ?hdBadd (Rd.stays r2 F9.keep) (hw.keeps F9.keep) hbr okr ?hrBadd; (case hdBadd => exact hl2); (rintro h2 tk2 v2 hS hI2; have F2 := F9.keeps hS; have N2 := N9.grown hS; clear F9 N9; (try dsimp only); refine Reads.regE F2 hI2 fun rr hTr hNr hDr => ?_; have N4 := News.app hNr N2; clear N2; refine' halt ?_))
      repeat' (first | (k_unfold; (try dsimp only)) | (k_end; wrow_close) | ((try dsimp only); walk1) | (leave1; walk_say "STEP leave1"; try dsimp only) | fail "no step")
      refine Halt.mk ?_
      cases hel : l.ev ρ with
      | none =>
        rw [hel] at hI1 hret
        obtain rfl := opt_none hI1
        repeat' (first | (k_unfold; (try dsimp only)) | (k_end; wrow_close) | ((try dsimp only); walk1) | (leave1; walk_say "STEP leave1"; try dsimp only) | fail "no step")
        exact hret _ _ _ (Fr.keep (by assumption)) .none
      | some x =>
        cases her : r.ev ρ with
        | none =>
          rw [hel] at hI1 hret
          rw [her] at hI2 hret
          obtain ⟨a2, t1', t2', rfl, -⟩ := num_open hI1
          obtain rfl := opt_none hI2
          repeat' (first | (k_unfold; (try dsimp only)) | (k_end; wrow_close) | ((try dsimp only); walk1) | (leave1; walk_say "STEP leave1"; try dsimp only) | fail "no step")
          exact hret _ _ _ (Fr.keep (by assumption)) .none
        | some y =>
          rw [hel] at hI1 hret hDl
          rw [her] at hI2 hret hDr
          obtain ⟨hbx1, hx⟩ := hbx x hel
          obtain ⟨hby1, hy⟩ := hby y her
          obtain ⟨a2, t1', t2', rfl, -⟩ := num_open hI1
          obtain ⟨a3, t3', t4', rfl, -⟩ := num_open hI2
          k_with "subscriptTail" => (rename Fr _ _ _ _ => F9; rename News _ _ _ _ => N9; first
            | ((with_reducible show wpAny _ _ (subscriptTail _ _ (Value.ref _) (Value.int 0 _)) _ _ _); refine' item_num0 (hDl.reads F9 (News.sub N9 (by (intro p9 hp9; simp only [List.mem_append, List.mem_cons]; simp only [hp9, true_or, or_true])))) ?_ (by exact rfl); (intro t9))
            | ((with_reducible show wpAny _ _ (subscriptTail _ _ (Value.ref _) (Value.int 1 _)) _ _ _); refine' item_num1 (hDl.reads F9 (News.sub N9 (by (intro p9 hp9; simp only [List.mem_append, List.mem_cons]; simp only [hp9, true_or, or_true])))) ?_ (by exact rfl); (intro t9))
            | ((with_reducible show wpAny _ _ (subscriptTail _ _ (Value.ref _) (Value.int 0 _)) _ _ _); refine' item_num0 (hDr.reads F9 (News.sub N9 (by (intro p9 hp9; simp only [List.mem_append, List.mem_cons]; simp only [hp9, true_or, or_true])))) ?_ (by exact rfl); (intro t9))
            | ((with_reducible show wpAny _ _ (subscriptTail _ _ (Value.ref _) (Value.int 1 _)) _ _ _); refine' item_num1 (hDr.reads F9 (News.sub N9 (by (intro p9 hp9; simp only [List.mem_append, List.mem_cons]; simp only [hp9, true_or, or_true])))) ?_ (by exact rfl); (intro t9)))
          have M9 := max_facts hx hy
          have e0 := M9.1
          have e1 := M9.2.1
          have e2 := M9.2.2.1
          have hq1 := M9.2.2.2.1
          have hq2 := M9.2.2.2.2.1
          have hq3 := M9.2.2.2.2.2.1
          have hq4 := M9.2.2.2.2.2.2
          have M8 := max_mul hx hy (by decide : 8500 ≤ 100000) hbx1 hby1
          have hm1 := M8.1
          have hm2 := M8.2
          clear M9 M8
          k_with "call ref" => (rename Fr _ _ _ _ => F9; rename News _ _ _ _ => N9; rw [e1, e2, e0]; refine' least_spec (n := max x.2 y.2) (Frag.In.keeps X F9.keep) (T.keeps F9.keep) ?hdCadd (by (first | lia | omega)) ?hr5add; (case hdCadd => first | (first | lia | omega) | ((simp only [topA]); (first | lia | omega))); (rintro h2 tk2 v2 hS hI9; have F2 := F9.keeps hS; have N2 := N9.grown hS; clear F9 N9; (try dsimp only)))
          repeat' (first | (k_unfold; (try dsimp only)) | (k_end; wrow_close) | ((try dsimp only); walk1) | (leave1; walk_say "STEP leave1"; try dsimp only) | fail "no step")
          refine hret _ _ _ (Fr.keep (by assumption)) ?_
          show Reads _ _ (numD (addO x y)) []
          exact hI9
    case sub =>
      unfold Op2.sg at hI
      dsimp only at hI
      refine' enter (binds := [(Str.ofString "expr", .ref a), (Str.ofString "world", .ref d)]) X T ?k1 ?k2 ?k3 ?k4 ?k5 ?_ ?c2 ?c3 ?c4 ?c5
      case k1 => k_is
      case k2 => k_is
      case k3 => (first | assumption | ((try simp only [topA, depth_deeper] at *); (first | lia | omega)))
      case k4 => first | exact BindsTo.of_eq rfl | exact binds_K (by k_in) rfl (by k_is) rfl rfl rfl
      case k5 => exact locs rfl
      case c2 => exact rfl
      case c3 => exact rfl
      case c4 => exact rfl
      case c5 => decide
      intro L h₁ F N hL
      refine wpAny_noRaise ?_
      try dsimp only
      try k_fold
      k_with_none
      k_with "call ref" => (rename Fr _ _ _ _ => F9; rename News _ _ _ _ => N9; refine' ihl (Frag.In.keeps X F9.keep) (T.keeps F9.keep) ?hdAsub (Rd.stays r1 F9.keep) (hw.keeps F9.keep) hbl okl ?hrAsub; (case hdAsub => exact hl1); (rintro h2 tk2 v2 hS hI1; have F2 := F9.keeps hS; have N2 := N9.grown hS; clear F9 N9; (try dsimp only); refine Reads.regE F2 hI1 fun rl hTl hNl hDl => ?_; have N3 := News.app hNl N2; clear N2))
      k_with "call ref" => (rename Fr _ _ _ _ => F9; rename News _ _ _ _ => N9; refine' ihr (Frag.In.keeps X F9.keep) (T.keeps F9.keep) ?hdBsub (Rd.stays r2 F9.keep) (hw.keeps F9.keep) hbr okr ?hrBsub; (case hdBsub => exact hl2); (rintro h2 tk2 v2 hS hI2; have F2 := F9.keeps hS; have N2 := N9.grown hS; clear F9 N9; (try dsimp only); refine Reads.regE F2 hI2 fun rr hTr hNr hDr => ?_; have N4 := News.app hNr N2; clear N2; refine' halt ?_))
      repeat' (first | (k_unfold; (try dsimp only)) | (k_end; wrow_close) | ((try dsimp only); walk1) | (leave1; walk_say "STEP leave1"; try dsimp only) | fail "no step")
      refine Halt.mk ?_
      cases hel : l.ev ρ with
      | none =>
        rw [hel] at hI1 hret
        obtain rfl := opt_none hI1
        repeat' (first | (k_unfold; (try dsimp only)) | (k_end; wrow_close) | ((try dsimp only); walk1) | (leave1; walk_say "STEP leave1"; try dsimp only) | fail "no step")
        exact hret _ _ _ (Fr.keep (by assumption)) .none
      | some x =>
        cases her : r.ev ρ with
        | none =>
          rw [hel] at hI1 hret
          rw [her] at hI2 hret
          obtain ⟨a2, t1', t2', rfl, -⟩ := num_open hI1
          obtain rfl := opt_none hI2
          repeat' (first | (k_unfold; (try dsimp only)) | (k_end; wrow_close) | ((try dsimp only); walk1) | (leave1; walk_say "STEP leave1"; try dsimp only) | fail "no step")
          exact hret _ _ _ (Fr.keep (by assumption)) .none
        | some y =>
          rw [hel] at hI1 hret hDl
          rw [her] at hI2 hret hDr
          obtain ⟨hbx1, hx⟩ := hbx x hel
          obtain ⟨hby1, hy⟩ := hby y her
          obtain ⟨a2, t1', t2', rfl, -⟩ := num_open hI1
          obtain ⟨a3, t3', t4', rfl, -⟩ := num_open hI2
          k_with "subscriptTail" => (rename Fr _ _ _ _ => F9; rename News _ _ _ _ => N9; first
            | ((with_reducible show wpAny _ _ (subscriptTail _ _ (Value.ref _) (Value.int 0 _)) _ _ _); refine' item_num0 (hDl.reads F9 (News.sub N9 (by (intro p9 hp9; simp only [List.mem_append, List.mem_cons]; simp only [hp9, true_or, or_true])))) ?_ (by exact rfl); (intro t9))
            | ((with_reducible show wpAny _ _ (subscriptTail _ _ (Value.ref _) (Value.int 1 _)) _ _ _); refine' item_num1 (hDl.reads F9 (News.sub N9 (by (intro p9 hp9; simp only [List.mem_append, List.mem_cons]; simp only [hp9, true_or, or_true])))) ?_ (by exact rfl); (intro t9))
            | ((with_reducible show wpAny _ _ (subscriptTail _ _ (Value.ref _) (Value.int 0 _)) _ _ _); refine' item_num0 (hDr.reads F9 (News.sub N9 (by (intro p9 hp9; simp only [List.mem_append, List.mem_cons]; simp only [hp9, true_or, or_true])))) ?_ (by exact rfl); (intro t9))
            | ((with_reducible show wpAny _ _ (subscriptTail _ _ (Value.ref _) (Value.int 1 _)) _ _ _); refine' item_num1 (hDr.reads F9 (News.sub N9 (by (intro p9 hp9; simp only [List.mem_append, List.mem_cons]; simp only [hp9, true_or, or_true])))) ?_ (by exact rfl); (intro t9)))
          have M9 := max_facts hx hy
          have e0 := M9.1
          have e1 := M9.2.1
          have e2 := M9.2.2.1
          have hq1 := M9.2.2.2.1
          have hq2 := M9.2.2.2.2.1
          have hq3 := M9.2.2.2.2.2.1
          have hq4 := M9.2.2.2.2.2.2
          have M8 := max_mul hx hy (by decide : 8500 ≤ 100000) hbx1 hby1
          have hm1 := M8.1
          have hm2 := M8.2
          clear M9 M8
          k_with "call ref" => (rename Fr _ _ _ _ => F9; rename News _ _ _ _ => N9; rw [e1, e2, e0]; refine' least_spec (n := max x.2 y.2) (Frag.In.keeps X F9.keep) (T.keeps F9.keep) ?hdCsub (by (first | lia | omega)) ?hr5sub; (case hdCsub => first | (first | lia | omega) | ((simp only [topA]); (first | lia | omega))); (rintro h2 tk2 v2 hS hI9; have F2 := F9.keeps hS; have N2 := N9.grown hS; clear F9 N9; (try dsimp only)))
          repeat' (first | (k_unfold; (try dsimp only)) | (k_end; wrow_close) | ((try dsimp only); walk1) | (leave1; walk_say "STEP leave1"; try dsimp only) | fail "no step")
          refine hret _ _ _ (Fr.keep (by assumption)) ?_
          show Reads _ _ (numD (subO x y)) []
          rw [subO, Int.sub_eq_add_neg]; exact hI9
end
end Mine
namespace Mine

section
variable {prog : Program} {w : World} {A : Around} {E : Value → Shared → Prop} {s : Shared} {env : Env} {h₀ : Heap} {target : Expr} {body : List Stmt} {Q : Flow → Shared → Prop}
inductive TEnd (h₀ : Heap) (L : Addr) (I ax : Addr) (oI oL : Obj) (J : (Str → Option Value) → List (Addr × Obj) → Prop) (s₁ : Shared) (f : Flow) (s' : Shared) : Prop
  | mk (q0 : f = .next) (h' : Heap) (tk : Nat) (m' : Str → Option Value) (nx : List (Addr × Obj)) (q1 : s' = { s₁ with heap := h', toks := tk }) (q2 : Fr h₀ L h' m') (q3 : News h₀ L h' ((I, oI) :: (ax, oL) :: nx)) (q4 : ∀ p ∈ nx, p.1 ≠ I ∧ p.1 ≠ ax) (q5 : J m' nx) : TEnd h₀ L I ax oI oL J s₁ f s'
inductive TLoop (s : Shared) (h₀ : Heap) (L I ax : Addr) (its : Array Value) (J : Nat → (Str → Option Value) → List (Addr × Obj) → Prop) (k : Nat) (s' : Shared) : Prop
  | mk (h' : Heap) (tk : Nat) (m' : Str → Option Value) (nx : List (Addr × Obj)) (i : Nat) (q0 : s' = { s with heap := h', toks := tk }) (q1 : h'.IsListIter I ax i ∧ h'.IsList ax its) (q2 : Fr h₀ L h' m') (q3 : News h₀ L h' nx) (q4 : ∀ p ∈ nx, p.1 ≠ I ∧ p.1 ≠ ax) (q5 : J i m' nx) (q6 : i ≤ its.size) (q7 : k = its.size + 1 - i) : TLoop s h₀ L I ax its J k s'
theorem ForT_G {ax : Addr} {its : Array Value} {news : List (Addr × Obj)} {m₀ : Str → Option Value} (J : Nat → (Str → Option Value) → List (Addr × Obj) → Prop) (hh : A.handled = none) (hl : s.heap.IsList ax its)
    (hL : env.locals ≠ ax) (F : Fr h₀ env.locals s.heap m₀) (N : News h₀ env.locals s.heap news) (hj : J 0 m₀ news)
    (hax : h₀.get? ax = none) (hnews : ∀ p ∈ news, p.1 ≠ ax)
    (htg : ∃ elts x1 pos, target = .Tuple elts x1 pos) (hE : PassesOwn (model prog w) A env E)
    (turn : ∀ i v m₁ nx h tk I oI oL, its[i]? = some v → I ≠ ax → oI.cls = .type "list_iterator" → oL.cls = .type "list" → (∀ p ∈ nx, p.1 ≠ I ∧ p.1 ≠ ax) → J i m₁ nx → h.IsList ax its → Fr h₀ env.locals h m₁ → News h₀ env.locals h ((I, oI) :: (ax, oL) :: nx) →
      wpAny (model prog w) A (assign target env v) (fun _ s₃ => wpAny (model prog w) A (execs body env) (TEnd h₀ env.locals I ax oI oL (J (i + 1)) { s with heap := h, toks := tk }) E s₃) E { s with heap := h, toks := tk })
    (done : ∀ m₁ nx h tk, J its.size m₁ nx → Fr h₀ env.locals h m₁ → News h₀ env.locals h nx → Q .next { s with heap := h, toks := tk }) :
    wpAny (model prog w) A (pyIter (.ref ax)) (fun it s₂ => codeAny (model prog w) A (.forLoop target it body [] env) (fun r s' => match r with | .ok f => Q f s' | .error e => cameBackBy (model prog w) A env E e s') s₂) E s := by
  refine wpAny_pyIter_list hl ?_
  have hlt : ax < s.heap.objs.size := by obtain ⟨_, e, _⟩ := hl; exact Heap.lt_size e
  have W := Walks.list (prog := prog) (w := w) hh s.heap.objs.size ax (Nat.ne_of_lt hlt) its
  have hI₀ : h₀.get? s.heap.objs.size = none := next_is_new F
  have hLI : env.locals ≠ s.heap.objs.size := Nat.ne_of_lt F.ns.lt
  obtain ⟨elts, x1, tp, rfl⟩ := htg
  refine codeAny_forLoop_any
    (fun k s' => TLoop s h₀ env.locals s.heap.objs.size ax its J k s') ?_ (its.size + 1)
    ⟨_, s.toks, m₀, news, 0, rfl, ⟨⟨_, Heap.get?_push_size _ rfl, rfl, rfl⟩, hl.push _⟩, F.push _, fun p hp => ⟨Heap.get?_push_of_some _ (N p hp).1, (N p hp).2⟩, fun p hp => ⟨Nat.ne_of_lt (Heap.lt_size (N p hp).1), hnews p hp⟩, hj, Nat.zero_le _, rfl⟩
  rintro k s' ⟨h', tk, m', nx, i, rfl, hst', F', N', off', hJ, hi, rfl⟩
  have next : ∀ h₁ : Heap, (∀ b o, b ∉ [s.heap.objs.size] → h'.get? b = some o → h₁.get? b = some o) → Fr h₀ env.locals h₁ m' ∧ News h₀ env.locals h₁ nx := fun h₁ hk₁ =>
    ⟨⟨F'.ns.at' fun o e => hk₁ _ o (by simpa using hLI) e, fun b o e => hk₁ b o (by simp only [List.mem_singleton]; rintro rfl; rw [hI₀] at e; cases e) (F'.keep b o e), F'.above⟩, fun p hp => ⟨hk₁ _ _ (by simpa using (off' p hp).1) (N' p hp).1, (N' p hp).2⟩⟩
  by_cases hlt' : i < its.size
  · refine W.item i _ _ _ hlt' hst' fun v h₁ tk₁ hP hst₁ hk₁ => ?_
    obtain ⟨F₁, N₁⟩ := next h₁ hk₁
    have go : ∀ (Q' : Unit → Shared → Prop) E', Q' () { s with heap := h₁, toks := tk₁ } → wpAny (model prog w) A (letOwnedTupleGo (.Tuple elts x1 tp) (.ref s.heap.objs.size) v) Q' E' { s with heap := h₁, toks := tk₁ } := by
      intro Q' E' hQ
      cases v with
      | ref T => exact wpAny_letOwnedTupleGo_listiter hst₁.1 hQ
      | _ => exact wpAny_of_eq rfl hQ
    refine go _ _ ?_
    obtain ⟨oI, hoI, cI, dI⟩ := hst₁.1
    obtain ⟨oL, hoL, cL, nL, dL⟩ := hst₁.2
    have N₂ : News h₀ env.locals h₁ ((s.heap.objs.size, oI) :: (ax, oL) :: nx) := by
      exact all_cons ⟨hoI, hLI.symm, hI₀⟩ (all_cons ⟨hoL, hL.symm, hax⟩ N₁)
    refine wpAny_passesOwn hE (wpAny_mono (turn i v m' nx h₁ tk₁ s.heap.objs.size oI oL hP (Nat.ne_of_gt hlt) cI cL off' hJ hst₁.2 F₁ N₂) (fun _ s₂ h₂ => wpAny_passesOwn hE (wpAny_mono h₂ (fun f s₃ h₃ => ?_) fun _ _ e => e)) fun _ _ e => e)
    obtain ⟨rfl, h₃', tk₃, m₂, nx₂, rfl, F₃, N₃, off₃, hJ₃⟩ := h₃
    refine ⟨its.size + 1 - (i + 1), by (first | lia | omega), h₃', tk₃, m₂, nx₂, i + 1, rfl, ⟨⟨oI, (N₃ _ (.head _)).1, cI, dI⟩, ⟨oL, (N₃ _ (.tail _ (.head _))).1, cL, nL, dL⟩⟩, F₃, fun p hp => N₃ p (.tail _ (.tail _ hp)), off₃, hJ₃, hlt', rfl⟩
  · have hin : i = its.size := by (first | lia | omega)
    subst hin
    refine W.done _ _ _ hst' fun h₁ tk₁ hk₁ => wpAny_execs_nil ?_
    obtain ⟨F₁, N₁⟩ := next h₁ hk₁
    exact done m' nx h₁ tk₁ hJ F₁ N₁
end
end Mine
namespace Mine
local macro_rules | `(tactic| walk_at "binaryOp FloorDiv int int") => `(tactic| (k_dflt (refine fdivR (by first | with_reducible assumption | decide) (by first | with_reducible assumption | exact bd_10) ?_)))
local macro_rules | `(tactic| walk_at "binaryOp Mult int int") => `(tactic| (k_dflt (refine mulR (by with_reducible assumption) ?_)))
local macro_rules | `(tactic| walk_at "subscriptTail") => `(tactic| ((with_reducible show wpAny _ _ (subscriptTail _ _ (Value.ref _) (Value.int _ _)) _ _ _); (rename Fr _ _ _ _ => F9); k_dflt (refine item_h F9 (by with_reducible assumption) (by rfl) (by rfl) ?_)))
local macro_rules | `(tactic| walk_at "binaryOp Pow int int") => `(tactic| (k_dflt (refine pow10R (by first | with_reducible assumption | decide | omega) (by first | with_reducible assumption | decide | omega) ?_)))
local macro_rules | `(tactic| walk_at "ite") => `(tactic| ((try dsimp only); first
  | (k_closed; k_dflt (first | refine ite_pos (by decide) ?_ | refine ite_neg (by decide) ?_))
  | with_reducible refine ite_tt ?_
  | with_reducible refine ite_ff ?_
  | refine ite_pos (by with_reducible assumption) ?_
  | refine ite_neg (by with_reducible assumption) ?_
  | refine ite_isFalse (by with_reducible assumption) ?_
  | refine ite_pos (by first | omega | ((simp only [decide_eq_true_eq, beq_iff_eq, bne_iff_ne, ne_eq]); omega)) ?_
  | refine ite_neg (by first | omega | ((simp only [decide_eq_true_eq, beq_iff_eq, bne_iff_ne, ne_eq]); omega)) ?_))
local macro_rules | `(tactic| walk_at "callWith") => `(tactic| first | with_reducible refine callWith_method0 ?_ | with_reducible refine callWith_method1 ?_)
section
theorem fillMN : (fun (_ : OpenLaw) (_ : Params → Frag) => True) PySem.Challenge.rw_pc0124_01 hd.heap_39 := by
  w_top off
  k_fill
  trivial




noncomputable def NumSpec (w : World) (dp : Nat) (gd : Option (List Code)) (base : Heap) (vn : Addr) (ρ : Fin 3 → Num) (ok : Ex → Prop) (Inv : List Ex → List (Addr × Obj) → Prop) : Prop :=
  ∀ (un : Nat) (s : Shared) (fr : Option (List Env)) (Q E : Value → Shared → Prop) (v : Value) (e : Ex) (done : List Ex) (hid : List (Addr × Obj)), ok e → Reads base v (dat e) [] → base.StaysIn s.heap → (∀ p ∈ hid, s.heap.get? p.1 = some p.2) → (∀ p ∈ hid, base.get? p.1 = none) → done.length ≤ 200 → Inv done hid →
    (∀ h' tk v' hid', (∀ b o, b ∉ hid.map (·.1) → s.heap.get? b = some o → h'.get? b = some o) → hid'.map (·.1) = hid.map (·.1) → (∀ p ∈ hid', h'.get? p.1 = some p.2) → Inv (done ++ [e]) hid' → Reads h' v' (numD (leafVal ρ e)) [] → Q v' { s with heap := h', toks := tk }) →
    wpAny (model PR w) (topA dp un gd fr) (call (.ref vn) [v]) Q E s
theorem DIs.unsnoc {h₀ : Heap} {rest : List (Addr × Obj)} {d : PyData} : ∀ {ds : List PyData} {vs : List Value}, DIs h₀ rest vs (ds ++ [d]) → ∃ vs' v, vs = vs' ++ [v] ∧ DIs h₀ rest vs' ds ∧ DI h₀ rest v d
  | [], _, .cons a .nil => ⟨[], _, rfl, .nil, a⟩
  | _ :: _, _, .cons a r => by
    obtain ⟨vs', v, rfl, h1, h2⟩ := DIs.unsnoc r
    exact ⟨_ :: vs', v, rfl, .cons a h1, h2⟩
theorem run_len (ρ : Fin 3 → Num) : ∀ (l : List It) (p q : List Num), run ρ l p = some q → q.length ≤ p.length + l.length
  | [], p, q, h => by cases h; exact Nat.le_add_right _ _
  | i :: r, p, q, h => by
    have h : (step ρ i p).bind (run ρ r) = some q := h
    cases hs : step ρ i p with
    | none => rw [hs] at h; cases h
    | some p' =>
      rw [hs] at h
      have := run_len ρ r p' q h
      have h2 : p'.length ≤ p.length + 1 := by
        cases i with
        | leaf e => cases hs; simp
        | neg =>
          cases p with
          | nil => cases hs
          | cons a p => cases hs; simp
        | op o =>
          rcases p with _ | ⟨b, _ | ⟨a, p⟩⟩
          · cases hs
          · cases hs
          · have hs : (o.ap a b).map (· :: p) = some p' := hs
            cases ha : o.ap a b with
            | none => rw [ha] at hs; cases hs
            | some z => rw [ha] at hs; cases hs; simp only [List.length_cons]; (first | lia | omega)
      simp only [List.length_cons]
      (first | lia | omega)
theorem run_snoc (ρ : Fin 3 → Num) {l : List It} {i : Nat} {it : It} {p : List Num} (hi : l[i]? = some it) (h : run ρ (l.take i) [] = some p) : run ρ (l.take (i + 1)) [] = step ρ it p := by
  rw [List.take_add_one, hi, run_append, h]
  show (step ρ it p).bind (run ρ []) = _
  cases step ρ it p with
  | none => rfl
  | some _ => rfl
theorem itl_snoc {l : List It} {i : Nat} {it : It} (hi : l[i]? = some it) : itLeaves (l.take (i + 1)) = itLeaves (l.take i) ++ itLeaves [it] := by
  rw [List.take_add_one, hi, itLeaves_append]
  rfl
theorem itl_pre (l : List It) (i : Nat) : itLeaves (l.take i) <+: itLeaves l := by
  conv => rhs; rw [← List.take_append_drop i l]
  rw [itLeaves_append]
  exact List.prefix_append _ _
theorem post_mem : ∀ (l : List It) (x : Ex), It.leaf x ∈ l → x ∈ itLeaves l
  | .leaf e :: r, x, h => by
    rcases List.mem_cons.mp h with h | h
    · cases h; exact .head _
    · exact .tail _ (post_mem r x h)
  | .neg :: r, x, h => by
    rcases List.mem_cons.mp h with h | h
    · cases h
    · exact post_mem r x h
  | .op o :: r, x, h => by
    rcases List.mem_cons.mp h with h | h
    · cases h
    · exact post_mem r x h
theorem ev_none {ρ : Fin 3 → Num} {e : Ex} {i : Nat} (h : run ρ ((post e).take i) [] = none) : e.ev ρ = none := by
  have h1 := run_post ρ e []
  have h2 := run_append ρ ((post e).take i) ((post e).drop i) []
  rw [List.take_append_drop, h] at h2
  rw [h2] at h1
  cases q : e.ev ρ with
  | none => rfl
  | some z => rw [q] at h1; cases h1
theorem fresh_of {g h : Heap} {L : Addr} {m : Str → Option Value} {news : List (Addr × Obj)} (F : Fr g L h m) (N : News g L h news) : ∀ b, h.get? b = none → g.get? b = none ∧ b ≠ L ∧ ∀ p ∈ news, p.1 ≠ b := fun b q => by
  refine ⟨none_back F.keep q, fun e => ?_, fun p hp e => by rw [← e, (N p hp).1] at q; cases q⟩
  obtain ⟨oL, _, _, hL, _⟩ := F.ns
  rw [← e, q] at hL
  cases hL
theorem fr_hid {g h h' : Heap} {L : Addr} {m : Str → Option Value} {as : List Addr} (F : Fr g L h m) (hL : L ∉ as) (hg : ∀ a ∈ as, g.get? a = none) (k : ∀ b o, b ∉ as → h.get? b = some o → h'.get? b = some o) : Fr g L h' m :=
  ⟨F.ns.at' fun o q => k L o hL q, fun b o q => k b o (fun hb => by rw [hg b hb] at q; cases q) (F.keep b o q), F.above⟩
theorem news_hid {g h h' : Heap} {L : Addr} {A B hidE hidE' : List (Addr × Obj)} (N : News g L h (A ++ (hidE ++ B))) (k : ∀ b o, b ∉ hidE.map (·.1) → h.get? b = some o → h'.get? b = some o) (hh : ∀ p ∈ hidE', h'.get? p.1 = some p.2) (ha : hidE'.map (·.1) = hidE.map (·.1))
    (offA : ∀ p ∈ A, p.1 ∉ hidE.map (·.1)) (offB : ∀ p ∈ B, p.1 ∉ hidE.map (·.1)) : News g L h' (A ++ (hidE' ++ B)) := by
  intro p hp
  rcases List.mem_append.mp hp with hp | hp
  · have := N p (List.mem_append_left _ hp)
    exact ⟨k _ _ (offA p hp) this.1, this.2⟩
  rcases List.mem_append.mp hp with hp | hp
  · have h1 : p.1 ∈ hidE.map (·.1) := ha ▸ List.mem_map_of_mem hp
    obtain ⟨q, hq, e⟩ := List.mem_map.mp h1
    have := N q (List.mem_append_right _ (List.mem_append_left _ hq))
    exact ⟨hh p hp, e ▸ this.2⟩
  · have := N p (List.mem_append_right _ (List.mem_append_right _ hp))
    exact ⟨k _ _ (offB p hp) this.1, this.2⟩
theorem tup_off {g h : Heap} {L : Addr} {A hidE rest : List (Addr × Obj)} (N : News g L h (A ++ (hidE ++ rest))) (hT : Tups rest) (hnt : ∀ p ∈ hidE, ¬ tupObj p.2) : ∀ p ∈ rest, p.1 ∉ hidE.map (·.1) := by
  intro p hp hm
  obtain ⟨q, hq, e⟩ := List.mem_map.mp hm
  have h1 := (N q (List.mem_append_right _ (List.mem_append_left _ hq))).1
  have h2 := (N p (List.mem_append_right _ (List.mem_append_right _ hp))).1
  rw [e] at h1
  rw [h1] at h2
  exact hnt q hq (Option.some.inj h2 ▸ hT p hp)
theorem tup_ne {g h : Heap} {L a : Addr} {o : Obj} {news rest : List (Addr × Obj)} (N : News g L h news) (m : (a, o) ∈ news) (ho : ¬ tupObj o) (hs : ∀ p ∈ rest, p ∈ news) (hT : Tups rest) : ∀ p ∈ rest, p.1 ≠ a := by
  intro p hp e
  have h1 := (N _ (hs p hp)).1
  have h2 := (N _ m).1
  rw [e, h2] at h1
  have e2 : o = p.2 := Option.some.inj h1
  exact ho (e2 ▸ hT p hp)
theorem FnAt.keeps {h h' : Heap} {q : Addr} (x : FnAt q h) (k : h.StaysIn h') : FnAt q h' := by
  obtain ⟨oc, od, fd, sl, e⟩ := x
  exact ⟨oc, od, fd, sl, k _ _ e⟩
theorem itLeaves_len : ∀ l : List It, (itLeaves l).length ≤ l.length
  | [] => Nat.le_refl _
  | .leaf _ :: r => Nat.succ_le_succ (itLeaves_len r)
  | .neg :: r => Nat.le_succ_of_le (itLeaves_len r)
  | .op _ :: r => Nat.le_succ_of_le (itLeaves_len r)
theorem post_leaf : ∀ (e : Ex) (i : It), i ∈ post e → ∀ x, i = .leaf x → x.isLeaf = true
  | .ref i, _, h, x, q => by simp [post] at h; subst h; cases q; rfl
  | .num n, _, h, x, q => by simp [post] at h; subst h; cases q; rfl
  | .neg e, i, h, x, q => by
    rcases List.mem_append.mp h with h | h
    · exact post_leaf e i h x q
    · simp at h; subst h; cases q
  | .bin o l r, i, h, x, q => by
    rcases List.mem_append.mp h with h | h
    · exact post_leaf l i h x q
    rcases List.mem_append.mp h with h | h
    · exact post_leaf r i h x q
    · simp at h; subst h; cases q
end
section
theorem fillMN2 : (fun (_ : OpenLaw) (_ : Params → Frag) => True) PySem.Challenge.rw_pc0124_01 hd.heap_39 := by
  w_top off
  k_fill
  trivial




inductive RJ (ρ : Fin 3 → Num) (Inv : List Ex → List (Addr × Obj) → Prop) (h₀ : Heap) (e : Ex) (ve : Value) (vn : Addr) (hid rs : List (Addr × Obj)) (i : Nat) (m : Str → Option Value) (news : List (Addr × Obj)) : Prop
  | mk (p : List Num) (vs : List Value) (n1 : Nat) (aP : Addr) (hidE : List (Addr × Obj)) (rest : List (Addr × Obj)) (tl : List (Str × Value))
    (q0 : news = (aP, listOf vs.toArray n1) :: (hidE ++ rest))
    (q1 : run ρ ((post e).take i) [] = some p)
    (q2 : m = mOf ([(Str.ofString "number", .ref vn), (Str.ofString "expr", ve), (Str.ofString "pile", .ref aP)] ++ tl))
    (q3 : Tups rest)
    (q4 : DIs h₀ rest vs (p.reverse.map numD))
    (q5 : Inv (itLeaves ((post e).take i)) hidE)
    (q6 : hidE.map (·.1) = hid.map (·.1))
    (q7 : (∀ p ∈ rs, p ∈ rest))
    (q8 : (∀ p ∈ hidE ++ rest, p.1 ≠ aP)) : RJ ρ Inv h₀ e ve vn hid rs i m news

theorem RJ.fin {ρ : Fin 3 → Num} {Inv : List Ex → List (Addr × Obj) → Prop} {G h h₁ : Heap} {L I a9 aP : Addr} {e : Ex} {ve : Value} {vn : Addr} {hid rs hid' rest : List (Addr × Obj)} {oI oL : Obj} {q : Addr × Obj} {i n tk tk₁ : Nat} {s : Shared} {m : Str → Option Value} {vs : List Value} {p : List Num} {tl : List (Str × Value)}
    (F : Fr G L h m) (N : News G L h ((I, oI) :: (a9, oL) :: (aP, listOf vs.toArray n) :: q :: (hid' ++ rest))) (hm : m = mOf ([(Str.ofString "number", .ref vn), (Str.ofString "expr", ve), (Str.ofString "pile", .ref aP)] ++ tl))
    (hrun : run ρ ((post e).take (i + 1)) [] = some p) (hT : Tups rest) (hD : DIs G rest vs (p.reverse.map numD)) (hInv : Inv (itLeaves ((post e).take (i + 1))) hid') (hmap : hid'.map (·.1) = hid.map (·.1)) (hrs : ∀ p ∈ rs, p ∈ rest)
    (hoff : ∀ p ∈ hid' ++ rest, p.1 ≠ aP) (hIt : ¬ tupObj oI) (hLt : ¬ tupObj oL) (n1 : aP ≠ I) (n2 : aP ≠ a9) (offh : ∀ p ∈ hid', p.1 ≠ I ∧ p.1 ≠ a9) :
    TEnd G L I a9 oI oL (RJ ρ Inv G e ve vn hid rs (i + 1)) { s with heap := h₁, toks := tk₁ } .next { s with heap := h, toks := tk } := by
  refine ⟨rfl, h, tk, m, (aP, listOf vs.toArray n) :: (hid' ++ rest), rfl, F, News.sub N ?_, ?_, p, vs, n, aP, hid', rest, tl, rfl, hrun, hm, hT, hD, hInv, hmap, hrs, hoff⟩
  · intro p hp
    simp only [List.mem_cons] at hp ⊢
    rcases hp with h | h | h | h
    · exact .inl h
    · exact .inr (.inl h)
    · exact .inr (.inr (.inl h))
    · exact .inr (.inr (.inr (.inr h)))
  · intro p hp
    rcases List.mem_cons.mp hp with rfl | hp
    · exact ⟨n1, n2⟩
    rcases List.mem_append.mp hp with hp | hp
    · exact offh p hp
    · have hs : ∀ p ∈ rest, p ∈ ((I, oI) :: (a9, oL) :: (aP, listOf vs.toArray n) :: q :: (hid' ++ rest)) := fun p hp => .tail _ (.tail _ (.tail _ (.tail _ (List.mem_append_right _ hp))))
      exact ⟨tup_ne N (.head _) hIt hs hT p hp, tup_ne N (.tail _ (.head _)) hLt hs hT p hp⟩

theorem pile_off {G h : Heap} {L aP : Addr} {vs : List Value} {n : Nat} {news r5 hidE rest : List (Addr × Obj)} (N : News G L h news) (hm : (aP, listOf vs.toArray n) ∈ news) (N5 : News G L h r5) (hT5 : Tups r5) (hoff : ∀ p ∈ hidE ++ rest, p.1 ≠ aP) :
    ∀ p ∈ hidE ++ (r5 ++ rest), p.1 ≠ aP := by
  intro p hp
  rcases List.mem_append.mp hp with hp | hp
  · exact hoff p (List.mem_append_left _ hp)
  rcases List.mem_append.mp hp with hp | hp
  · intro e
    have h1 := (N5 p hp).1
    rw [e, (N _ hm).1] at h1
    have h2 := hT5 p hp
    rw [← Option.some.inj h1] at h2
    exact absurd (Value.type.inj h2) (by decide)
  · exact hoff p (List.mem_append_right _ hp)
theorem N_in {G h : Heap} {L : Addr} {a b c d : Addr × Obj} {hidE r5 rest : List (Addr × Obj)} (N : News G L h (a :: b :: c :: d :: (hidE ++ rest))) (N5 : News G L h r5) : News G L h (a :: b :: c :: d :: (hidE ++ (r5 ++ rest))) := by
  intro p hp
  simp only [List.mem_cons, List.mem_append] at hp
  rcases hp with h | h | h | h | h | h | h
  · exact N p (by simp [h])
  · exact N p (by simp [h])
  · exact N p (by simp [h])
  · exact N p (by simp [h])
  · exact N p (by simp [h])
  · exact N5 p h
  · exact N p (by simp [h])

section
local macro_rules | `(tactic| k_ne) => `(tactic| ((try dsimp only); assumption))
local macro_rules | `(tactic| k_all) => `(tactic| assumption)
theorem reckoned_spec {ρ : Fin 3 → Num} (hρ : ∀ i, Bd 400 (ρ i).1 ∧ (ρ i).2 ≤ 30) {w : World} {p : Program} {loose : List Str} {mean : ExcName → Option Value} {mg mb : Str → Option Value} {s : Shared} {dp un : Nat} {gd : Option (List Code)} {fr : Option (List Env)} {Q E : Value → Shared → Prop} {v1 : Value} {vn : Addr} {e : Ex} {hid : List (Addr × Obj)} {okl : Ex → Prop} {Inv : List Ex → List (Addr × Obj) → Prop} {base : Heap} {outer : List Env}
    (X : (hd.heap_39 w.params).In (hideAll s.heap (hid.map (·.1)))) (T : Top p loose mean mg mb (hideAll s.heap (hid.map (·.1)))) (hN : ∀ q ∈ hid, s.heap.get? q.1 = some q.2) (hdp : dp + 14 < recursionLimit)
    (hv1 : Reads (hideAll s.heap (hid.map (·.1))) v1 (dat e) []) (hI : Inv [] hid) (hnt : ∀ done hid', Inv done hid' → ∀ p ∈ hid', ¬ tupObj p.2) (hfn : FnAt vn (hideAll s.heap (hid.map (·.1)))) (hnum : NumSpec w (dp + 1) gd (hideAll s.heap (hid.map (·.1))) vn ρ okl Inv) (hokl : ∀ x ∈ e.leaves, okl x) (hn : e.size ≤ 200) (hbd : e.bd ≤ 8500) (ok : e.okn)
    (hfr : fr = some outer) (hB : base.StaysIn (hideAll s.heap (hid.map (·.1)))) (hFF : (hideAll s.heap (hid.map (·.1))).FunFrames base outer)
    (hret : ∀ z hid' h' tk v, e.ev ρ = some z → (hideAll s.heap (hid.map (·.1))).StaysIn h' → (∀ p ∈ hid', h'.get? p.1 = some p.2) → hid'.map (·.1) = hid.map (·.1) → Inv e.leaves hid' → Reads h' v (numD z) [] → Q v { s with heap := h', toks := tk })
    (hraise : e.ev ρ = none → ∀ ex hid' done h' tk, Flt base outer ex (hideAll s.heap (hid.map (·.1))) h' → (∀ p ∈ hid', (∀ vs, p.2.data ≠ .fields vs) → ∃ sl, h'.get? p.1 = some { p.2 with slots := sl }) → hid'.map (·.1) = hid.map (·.1) → Inv done hid' → done <+: e.leaves →
      E (.ref ex) { s with heap := h', toks := tk }) :
    wpAny (model PR w) (topA dp un gd fr) (call (.ref 161) [v1, .ref vn]) Q E s := by
  subst hfr
  refine wpAny_call ?_
  refine' enterH hid (binds := [(Str.ofString "expr", v1), (Str.ofString "number", .ref vn)]) X T hN ?k1 ?k2 ?k3 ?k4 ?k5 ?_ ?c2 ?c3 ?c4 ?c5
  case k1 => k_is
  case k2 => k_is
  case k3 => (try simp only [topA, depth_deeper] at *); (first | lia | omega)
  case k4 => exact BindsTo.of_eq rfl
  case k5 => exact locs rfl
  case c2 => exact rfl
  case c3 => exact rfl
  case c4 => exact rfl
  case c5 => decide
  intro L h₁ F N hL
  have hidg : ∀ q ∈ hid, (hideAll s.heap (hid.map (·.1))).get? q.1 = none := fun q hq => hideAll_none _ (List.mem_map_of_mem hq)
  have hL' : L = (hideAll s.heap (hid.map (·.1))).objs.size := by rw [hideAll_size]; exact hL
  generalize hG : hideAll s.heap (hid.map (·.1)) = G at *
  clear hG hN
  try dsimp only
  try k_fold
  k_with_none
  k_with "exec For" => (refine' wpAny_For ?_)
  k_with "call ref" => (rename Fr _ _ _ _ => F9; rename News _ _ _ _ => N9; refine' postfix_spec (Frag.In.keeps X F9.keep) (T.keeps F9.keep) ?hd F9.keep hv1 hn ?_; (case hd => first | (first | lia | omega) | ((simp only [topA]); (first | lia | omega))); (rintro h2 tk2 a9 vs9 n9 rs9 hS ha0 hal hT9 hN9 hR0; have F2 := F9.keeps hS; have N2 := N9.grown hS; have hK9 := fresh_of F9 N9; clear F9 N9; (try dsimp only at hK9); (try dsimp only); skip; (try k_fold)))
  k_with "pyIter ref" => (refine' halt ?_)
  repeat' (first | (k_unfold; (try dsimp only)) | (k_end; wrow_close) | ((try dsimp only); walk1) | (leave1; walk_say "STEP leave1"; try dsimp only) | fail "no step")
  refine Halt.mk ?_
  rename Fr _ _ _ _ => F9
  rename News _ _ _ _ => N9
  rename_i aP hh1 hlt hh2
  have hgA := hK9 _ ha0
  refine ForT_G (RJ ρ Inv G e v1 vn hid rs9) rfl ⟨_, hal, rfl, _, rfl⟩ hgA.2.1.symm (fr_set1 F9) (news := (aP, listOf [].toArray 0) :: (hid ++ rs9)) ?N ?hj hgA.1 ?hnews ⟨_, _, _, rfl⟩ ?hE ?turn ?done
  case N =>
    intro p hp
    rcases List.mem_cons.mp hp with rfl | hp
    · exact N9 _ (.head _)
    rcases List.mem_append.mp hp with hp | hp
    · exact N9 _ (.tail _ hp)
    · exact ⟨(hN9 p hp).1, (hK9 _ (hN9 p hp).2).2.1, (hK9 _ (hN9 p hp).2).1⟩
  case hj =>
    refine ⟨[], [], 0, aP, hid, rs9, [], rfl, rfl, rfl, hT9, .nil, hI, rfl, fun p hp => hp, fun p hp => ?_⟩
    rcases List.mem_append.mp hp with hp | hp
    · exact Nat.ne_of_lt (hlt p hp)
    · exact ((hK9 _ (hN9 p hp).2).2.2 _ (.head _)).symm
  case hnews =>
    intro p hp
    rcases List.mem_cons.mp hp with rfl | hp
    · exact hgA.2.2 _ (.head _)
    rcases List.mem_append.mp hp with hp | hp
    · exact hgA.2.2 _ (.tail _ hp)
    · intro q
      have h1 := (hN9 p hp).1
      rw [q, hal] at h1
      have h2 := hT9 p hp
      rw [← Option.some.inj h1] at h2
      exact absurd (Value.type.inj h2) (by decide)
  case hE => exact PassesOwn.leaving
  case done =>
    clear F9 N9 hK9 hgA
    rintro m₁ nx h tk ⟨p, vs, n1, aP, hidE, rest, tl, rfl, hrun, rfl, hT, hD, hInv, hmap, hrs, hoff⟩ F N
    have F : Fr G L h _ := F
    have N : News G L h _ := N
    have hsz : vs9.toArray.size = (post e).length := by rw [List.size_toArray, hR0.len]
    rw [hsz, List.take_length] at hrun hInv
    rw [run_post] at hrun
    rw [itLeaves_post] at hInv
    cases hz : e.ev ρ with
    | none => rw [hz] at hrun; cases hrun
    | some z =>
      rw [hz] at hrun
      cases hrun
      obtain ⟨vs', v, rfl, h1, h2⟩ := DIs.unsnoc (ds := []) hD
      cases h1
      try dsimp only
      try k_fold
      k_with_none
      k_with "call builtin:list.pop" => (refine' kl_pop (p := []) (y := v) ?Fq1 ?Nq1 (kpa_last _ _) ?Uq1 ?zq1 ?_; (case Fq1 => k_asm); (case Nq1 => k_asm); (case Uq1 => k_upd); (case zq1 => exact Nat.le_of_ble_eq_true rfl); (intro h' F' N'))
      repeat' (first | (k_unfold; (try dsimp only)) | (k_end; wrow_close) | ((try dsimp only); walk1) | (leave1; walk_say "STEP leave1"; try dsimp only) | fail "no step")
      rename Fr _ _ _ _ => F9
      rename News _ _ _ _ => N9
      exact hret z hidE _ _ _ hz F9.keep (fun p hp => (N9 p (.tail _ (List.mem_append_left _ hp))).1) hmap hInv (h2.reads F9 (News.sub N9 fun p hp => .tail _ (List.mem_append_right _ hp)))
  case turn =>
    clear F9 N9 hK9 hgA
    rintro i v m₁ nx h tk I oI oL hv hIax cI cL off ⟨p, vs, n1, aP, hidE, rest, tl, rfl, hrun, rfl, hT, hD, hInv, hmap, hrs, hoff⟩ - F N
    obtain ⟨it, hit, t, n3, tk3, v', rfl, hm_t, hv'⟩ := hR0.get i v (by simpa using hv)
    have F : Fr G L h _ := F
    have N : News G L h ([(I, oI), (a9, oL), (aP, listOf vs.toArray n1), (t, { cls := .type "tuple", data := .seq #[.str it.kind tk3, v'] n3 })] ++ (hidE ++ rest)) := News.sub N (by
      intro p hp
      simp only [List.cons_append, List.nil_append, List.mem_cons] at hp ⊢
      rcases hp with h | h | h | h | h
      · exact .inl h
      · exact .inr (.inl h)
      · exact .inr (.inr (.inl h))
      · exact .inr (.inr (.inr (List.mem_append_right _ (h ▸ hrs _ hm_t))))
      · exact .inr (.inr (.inr h)))
    obtain ⟨hP1, hP2⟩ := pile_ok hρ e [] p i ok hrun
    have hp200 : p.length ≤ 200 := by
      have h1 := run_len ρ _ _ _ hrun
      have h2 : ((post e).take i).length ≤ (post e).length := by rw [List.length_take]; exact Nat.min_le_right _ _
      rw [post_length] at h2
      simp only [List.length_nil] at h1
      (first | lia | omega)
    have hlen : vs.length ≤ 200 := by
      have := hD.len
      rw [List.length_map, List.length_reverse] at this
      (first | lia | omega)
    have ne1 : aP ≠ I := (off _ (.head _)).1
    have ne2 : aP ≠ a9 := (off _ (.head _)).2
    have ne3 := ne1.symm
    have ne4 := ne2.symm
    have ne5 : t ≠ aP := hoff _ (List.mem_append_right _ (hrs _ hm_t))
    have hIt : ¬ tupObj oI := fun q => by rw [tupObj, cI] at q; exact absurd (Value.type.inj q) (by decide)
    have hLt : ¬ tupObj oL := fun q => by rw [tupObj, cL] at q; exact absurd (Value.type.inj q) (by decide)
    have hntE := hnt _ _ hInv
    cases it with
    | leaf x =>
      dsimp only [It.kind, It.part] at N hv'
      k_with_none
      k_with "callWith" => (rename Fr _ _ _ _ => F9; refine' callWith_F (FnAt.keeps hfn F9.keep) ?_)
      k_with "FnAt" => (exact FnAt.keeps hfn (Fr.keep (by assumption)))
      k_with "call ref" => (refine' halt ?_)
      repeat' (first | (k_unfold; (try dsimp only)) | (k_end; wrow_close) | ((try dsimp only); walk1) | (leave1; walk_say "STEP leave1"; try dsimp only) | fail "no step")
      refine Halt.mk ?_
      rename Fr _ _ _ _ => F9
      rename News _ _ _ _ => N9
      have N9 : News G L _ ([(I, oI), (a9, oL), (aP, listOf vs.toArray n1), (t, { cls := .type "tuple", data := .seq #[.str (Str.ofString "leaf") tk3, v'] n3 })] ++ (hidE ++ rest)) := N9
      have offB := tup_off N9 hT hntE
      have offL : L ∉ hidE.map (·.1) := fun hm => by
        obtain ⟨q, hq, e⟩ := List.mem_map.mp hm
        exact (N9 q (List.mem_append_right _ (List.mem_append_left _ hq))).2.1 e
      have offg : ∀ a ∈ hidE.map (·.1), G.get? a = none := fun a hm => by
        obtain ⟨q, hq, e⟩ := List.mem_map.mp hm
        exact e ▸ (N9 q (List.mem_append_right _ (List.mem_append_left _ hq))).2.2
      have offA : ∀ p ∈ [(I, oI), (a9, oL), (aP, listOf vs.toArray n1), (t, ({ cls := .type "tuple", data := .seq #[.str (Str.ofString "leaf") tk3, v'] n3 } : Obj))], p.1 ∉ hidE.map (·.1) := fun p hp hm => by
        obtain ⟨q, hq, e⟩ := List.mem_map.mp hm
        simp only [List.mem_cons, List.not_mem_nil, or_false] at hp
        rcases hp with rfl | rfl | rfl | rfl
        · exact (off q (.tail _ (List.mem_append_left _ hq))).1 e
        · exact (off q (.tail _ (List.mem_append_left _ hq))).2 e
        · exact hoff q (List.mem_append_left _ hq) e
        · exact offB _ (hrs _ hm_t) (e ▸ List.mem_map_of_mem hq)
      have hdl : (itLeaves ((post e).take i)).length ≤ 200 := by
        have h1 := itLeaves_len ((post e).take i)
        have h2 : ((post e).take i).length ≤ (post e).length := by rw [List.length_take]; exact Nat.min_le_right _ _
        rw [post_length] at h2
        (first | lia | omega)
      refine hnum _ { s with heap := _, toks := _ } _ _ _ v' x _ hidE (hokl x (itLeaves_post e ▸ post_mem _ _ (List.mem_of_getElem? hit))) hv' F9.keep (fun p hp => (N9 p (List.mem_append_right _ (List.mem_append_left _ hp))).1) (fun p hp => (N9 p (List.mem_append_right _ (List.mem_append_left _ hp))).2.2) hdl hInv (fun h5 tk5 v5 hid5 hk5 hm5 hg5 hI5 hr5 => ?_)
      have F5 := fr_hid F9 offL offg hk5
      have N5 := news_hid N9 hk5 hg5 hm5 offA offB
      clear F9 N9
      refine Reads.regE F5 hr5 fun r5 hT5 hN5 hD5 => ?_
      have hoff5 : ∀ p ∈ hid5 ++ (r5 ++ rest), p.1 ≠ aP := by
        intro p hp
        rcases List.mem_append.mp hp with hp | hp
        · have : p.1 ∈ hidE.map (·.1) := hm5 ▸ List.mem_map_of_mem hp
          obtain ⟨q, hq, e⟩ := List.mem_map.mp this
          exact e ▸ hoff q (List.mem_append_left _ hq)
        rcases List.mem_append.mp hp with hp | hp
        · intro e
          have h1 := (hN5 p hp).1
          rw [e, (N5 (aP, listOf vs.toArray n1) (.tail _ (.tail _ (.head _)))).1] at h1
          have h2 := hT5 p hp
          rw [← Option.some.inj h1] at h2
          exact absurd (Value.type.inj h2) (by decide)
        · exact hoff p (List.mem_append_right _ hp)
      have N6 : News G L h5 ((I, oI) :: (a9, oL) :: (aP, listOf vs.toArray n1) :: (t, { cls := .type "tuple", data := .seq #[.str (Str.ofString "leaf") tk3, v'] n3 }) :: (hid5 ++ (r5 ++ rest))) := by
        intro p hp
        simp only [List.mem_cons, List.mem_append] at hp
        rcases hp with h | h | h | h | h | h | h
        · exact N5 p (by simp [h])
        · exact N5 p (by simp [h])
        · exact N5 p (by simp [h])
        · exact N5 p (by simp [h])
        · exact N5 p (by simp [h])
        · exact hN5 p h
        · exact N5 p (by simp [h])
      clear N5 hN5
      try dsimp only
      try k_fold
      repeat' (first | (k_unfold; (try dsimp only)) | (k_end; wrow_close) | ((try dsimp only); walk1) | (leave1; walk_say "STEP leave1"; try dsimp only) | fail "no step")
      rename Fr _ _ _ _ => F9
      rename News _ _ _ _ => N9
      rw [List.push_toArray] at N9
      refine RJ.fin (p := leafVal ρ x :: p) (fr_set2 F9) N9 rfl (run_snoc ρ hit hrun) (hT5.append hT) ?_ ?_ (hm5.trans hmap) (fun p hp => List.mem_append_right _ (hrs p hp)) hoff5 hIt hLt ne1 ne2 (fun p hp => ?_)
      · rw [List.reverse_cons, List.map_append]
        exact DIs.snoc (hD5.mono fun p hp => List.mem_append_left _ hp) (hD.mono fun p hp => List.mem_append_right _ hp)
      · rw [itl_snoc hit]
        exact hI5
      · have : p.1 ∈ hidE.map (·.1) := hm5 ▸ List.mem_map_of_mem hp
        obtain ⟨q, hq, e⟩ := List.mem_map.mp this
        exact e ▸ off q (.tail _ (List.mem_append_left _ hq))
    | neg =>
      dsimp only [It.kind, It.part] at N hv'
      have N : News G L h ((I, oI) :: (a9, oL) :: (aP, listOf vs.toArray n1) :: (t, { cls := .type "tuple", data := .seq #[.str (Str.ofString "op") tk3, v'] n3 }) :: (hidE ++ rest)) := N
      obtain ⟨tn, rfl⟩ := reads_str hv'
      have h1 := hP2 _ hit
      rcases p with _ | ⟨a, p⟩
      · exact absurd h1 (by decide)
      rw [List.reverse_cons, List.map_append] at hD
      obtain ⟨ws, y, rfl, hDw, hDy⟩ := DIs.unsnoc hD
      k_with_none
      k_with "call builtin:list.pop" => (refine' kl_pop (p := ws) (y := y) ?Fq2 ?Nq2 (kpa_last _ _) ?Uq2 ?zq2 ?_; (case Fq2 => k_asm); (case Nq2 => k_asm); (case Uq2 => k_upd); (case zq2 => (rw [sizeLine_eq]; exact Nat.le_trans hlen (by decide))); (intro h' F' N'))
      k_with "call ref" => (rename Fr _ _ _ _ => F9; rename News _ _ _ _ => N9; refine' neg_spec (Frag.In.keeps X F9.keep) (T.keeps F9.keep) (x := a) ?hd (hDy.reads F9 (News.sub (a := rest) N9 fun p hp => .tail _ (.tail _ (.tail _ (.tail _ (List.mem_append_right _ hp)))))) ?_; (case hd => first | (first | lia | omega) | ((simp only [topA]); (first | lia | omega))); (rintro h2 tk2 v2 hS hI2; have F2 := F9.keeps hS; have N2 := N9.grown hS; clear F9 N9; (try dsimp only); (refine' halt ?_); (try k_fold)))
      repeat' (first | (k_unfold; (try dsimp only)) | (k_end; wrow_close) | ((try dsimp only); walk1) | (leave1; walk_say "STEP leave1"; try dsimp only) | fail "no step")
      refine Halt.mk ?_
      rename News _ _ _ _ => N9
      rename Fr _ _ _ _ => F9
      refine Reads.regE F9 hI2 fun r5 hT5 hN5 hD5 => ?_
      have hoff5 : ∀ p ∈ hidE ++ (r5 ++ rest), p.1 ≠ aP := pile_off N9 (.tail _ (.tail _ (.head _))) hN5 hT5 hoff
      have N6 := N_in N9 hN5
      clear N9 hN5
      have hlw : ws.length ≤ 200 := by have := hlen; rw [List.length_append] at this; (first | lia | omega)
      repeat' (first | (k_unfold; (try dsimp only)) | (k_end; wrow_close) | ((try dsimp only); walk1) | (leave1; walk_say "STEP leave1"; try dsimp only) | fail "no step")
      rename Fr _ _ _ _ => F9
      rename News _ _ _ _ => N9
      rw [List.push_toArray] at N9
      refine RJ.fin (p := negO a :: p) (fr_set2 F9) N9 rfl (run_snoc ρ hit hrun) (hT5.append hT) ?_ ?_ hmap (fun p hp => List.mem_append_right _ (hrs p hp)) hoff5 hIt hLt ne1 ne2 (fun p hp => off p (.tail _ (List.mem_append_left _ hp)))
      · rw [List.reverse_cons, List.map_append]
        exact DIs.snoc (hD5.mono fun p hp => List.mem_append_left _ hp) (hDw.mono fun p hp => List.mem_append_right _ hp)
      · rw [itl_snoc hit]
        simpa [itLeaves] using hInv
    | op o =>
      dsimp only [It.kind, It.part] at N hv'
      have N : News G L h ((I, oI) :: (a9, oL) :: (aP, listOf vs.toArray n1) :: (t, { cls := .type "tuple", data := .seq #[.str (Str.ofString "op") tk3, v'] n3 }) :: (hidE ++ rest)) := N
      obtain ⟨tn, rfl⟩ := reads_str hv'
      have h1 := hP2 _ hit
      rcases p with _ | ⟨b, _ | ⟨a, p⟩⟩
      · exact absurd h1 (by simp [need])
      · exact absurd h1 (by simp [need])
      rw [List.reverse_cons, List.map_append] at hD
      obtain ⟨ws, y, rfl, hD, hDy⟩ := DIs.unsnoc hD
      rw [List.reverse_cons, List.map_append] at hD
      obtain ⟨ws, x, rfl, hDw, hDx⟩ := DIs.unsnoc hD
      have okb := (hP1 b (.head _)).resolve_left (fun q => nomatch q)
      have oka := (hP1 a (.tail _ (.head _))).resolve_left (fun q => nomatch q)
      have hlw : ws.length ≤ 200 := by have := hlen; rw [List.length_append, List.length_append] at this; (first | lia | omega)
      have hlw1 : (ws ++ [x]).length ≤ 200 := by have := hlen; rw [List.length_append] at this; (first | lia | omega)
      have hsg : ¬ (o.sg = Str.ofString "neg") := by cases o <;> decide
      k_with_none
      k_with "call builtin:list.pop" => (refine' halt ?_)
      repeat' (first | (k_unfold; (try dsimp only)) | (k_end; wrow_close) | ((try dsimp only); walk1) | (leave1; walk_say "STEP leave1"; try dsimp only) | fail "no step")
      refine Halt.mk ?_
      rename News _ _ _ _ => N9
      rename Fr _ _ _ _ => F9
      refine' kl_pop (p := ws ++ [x]) (y := y) F9 N9 (kpa_last _ _) ?Uq3 ?zq3 ?_
      case Uq3 => k_upd
      case zq3 => (rw [sizeLine_eq]; exact Nat.le_trans hlen (by decide))
      intro h' F' N'
      clear F9 N9
      repeat' (first | (k_unfold; (try dsimp only)) | (k_end; wrow_close) | ((try dsimp only); walk1) | (leave1; walk_say "STEP leave1"; try dsimp only) | fail "no step")
      refine Halt.mk ?_
      rename News _ _ _ _ => N9
      rename Fr _ _ _ _ => F9
      refine' kl_pop (p := ws) (y := x) F9 N9 (kpa_last _ _) ?Uq4 ?zq4 ?_
      case Uq4 => k_upd
      case zq4 => (rw [sizeLine_eq]; exact Nat.le_trans hlw1 (by decide))
      intro h' F' N'
      clear F9 N9
      k_with_none
      k_with "call ref" => (refine' halt ?_)
      repeat' (first | (k_unfold; (try dsimp only)) | (k_end; wrow_close) | ((try dsimp only); walk1) | (leave1; walk_say "STEP leave1"; try dsimp only) | fail "no step")
      refine Halt.mk ?_
      rename News _ _ _ _ => N9
      rename Fr _ _ _ _ => F9
      have N7 := News.sub (a := rest) N9 (fun p hp => .tail _ (.tail _ (.tail _ (.tail _ (List.mem_append_right _ hp)))))
      refine' applied_spec (x := a) (y := b) (n := 8500) (Frag.In.keeps X F9.keep) (T.keeps F9.keep) ?hdq5 (hDx.reads F9 N7) (hDy.reads F9 N7) (oka.1.mono hbd) oka.2 (okb.1.mono hbd) okb.2 (by (first | lia | omega)) (by (first | lia | omega)) ?hfrq5 (fun b o q => F9.keep b o (hB b o q)) (ff_cons (env := (envOf _ _ _ _ _)) rfl ?hkq5 hL' F9 hB hFF) ?hrq5 ?hxq5
      case hdq5 => first | (first | lia | omega) | ((simp only [topA, depth_deeper]); (first | lia | omega))
      case hfrq5 => rfl
      case hkq5 => rfl
      case hxq5 =>
        rintro hz ex h'' tk' hF
        refine flt_next rfl rfl (fun b o q _ => ⟨o.slots, q⟩) hF (fun h3 hF => ?_)
        have hev : e.ev ρ = none := ev_none (i := i + 1) (by rw [run_snoc ρ hit hrun]; show (o.ap a b).map _ = none; rw [hz]; rfl)
        refine hraise hev ex hidE _ _ _ ⟨hF.1, (stays_upTo F9.keep).trans hF.2⟩ (fun p hp hd => hF.2 p.1 p.2 (N9 p (.tail _ (.tail _ (.tail _ (.tail _ (List.mem_append_left _ hp)))))).1 hd) hmap hInv ?_
        rw [← itLeaves_post e]
        exact itl_pre _ _
      rintro z hz h2 tk2 v2 hS hI2
      have F2 := F9.keeps hS
      have N2 := N9.grown hS
      clear F9 N9 N7
      try dsimp only
      try k_fold
      refine Reads.regE F2 hI2 fun r5 hT5 hN5 hD5 => ?_
      have hoff5 : ∀ p ∈ hidE ++ (r5 ++ rest), p.1 ≠ aP := pile_off N2 (.tail _ (.tail _ (.head _))) hN5 hT5 hoff
      have N6 := N_in N2 hN5
      clear N2 hN5
      repeat' (first | (k_unfold; (try dsimp only)) | (k_end; wrow_close) | ((try dsimp only); walk1) | (leave1; walk_say "STEP leave1"; try dsimp only) | fail "no step")
      rename Fr _ _ _ _ => F9
      rename News _ _ _ _ => N9
      rw [List.push_toArray] at N9
      refine RJ.fin (p := z :: p) (fr_set3 F9) N9 rfl ((run_snoc ρ hit hrun).trans (by show (o.ap a b).map _ = _; rw [hz]; rfl)) (hT5.append hT) ?_ ?_ hmap (fun p hp => List.mem_append_right _ (hrs p hp)) hoff5 hIt hLt ne1 ne2 (fun p hp => off p (.tail _ (List.mem_append_left _ hp)))
      · rw [List.reverse_cons, List.map_append]
        exact DIs.snoc (hD5.mono fun p hp => List.mem_append_left _ hp) (hDw.mono fun p hp => List.mem_append_right _ hp)
      · rw [itl_snoc hit]
        simpa [itLeaves] using hInv

end
end
section
theorem fillMR : (fun (_ : OpenLaw) (_ : Params → Frag) => True) PySem.Challenge.rw_pc0124_01 hd.heap_39 := by
  w_top off
  k_fill
  trivial




theorem enterC {prog : Program} {w : World} {A : Around} {s : Shared} {K : Frag} {p : Program} {loose : List Str} {mean : ExcName → Option Value} {mg mb : Str → Option Value}
    {name qual : Str} {params : Arguments} {body : List Stmt} {scope : Scope} {dV kV doc pm cdv ct oc : Value} {an od : Option Addr} {osl : Array (Option Value)} {f : Addr} {args : Args} {binds : List (Str × Value)} {R : Result → Shared → Prop}
    (hid : List (Addr × Obj)) (X : K.In (hideAll s.heap (hid.map (·.1)))) (T : Top p loose mean mg mb (hideAll s.heap (hid.map (·.1)))) (hN : ∀ q ∈ hid, s.heap.get? q.1 = some q.2)
    (ho : K.lookup f = some ⟨oc, od, .func (fnOf name qual params body scope dV kV doc pm an cdv ct), osl⟩) (hcd : codeIn K cdv qual = true) (hroom : A.depth < recursionLimit)
    (hbind : BindsTo s (fnOf name qual params body scope dV kV doc pm an cdv ct) args binds)
    (hkind : ∀ n, ∀ x ∈ binds, scope.names.lookup x.1 = some .local ∨ (scope.names.lookup x.1 = some .cell ∧ ((cellsFrom n scope.names []).lookup x.1).isSome = true))
    (hnd : ((cellsFrom 0 scope.names []).map (·.1)).Nodup)
    (h : ∀ L h₁ tk cells, Fr (hideAll s.heap (hid.map (·.1))) L h₁ (bindL (envOfC qual scope L f cdv).kindOf binds fun _ => none) → News (hideAll s.heap (hid.map (·.1))) L h₁ (cells ++ hid) →
      CellsAre (bindC (envOfC qual scope L f cdv).kindOf binds fun _ => none) (cellsFrom (L + 1) scope.names []) cells → L = s.heap.objs.size → (∀ p ∈ hid, p.1 < L) →
      wpAny (model prog w) (A.deeper (envOfC qual scope L f cdv)) (execs body (envOfC qual scope L f cdv))
        (fun fl s' => R (.ok (.ret (match fl with | .ret v => v | _ => .none))) s')
        (fun e s' => wpAny (model prog w) (A.deeper (envOfC qual scope L f cdv)) (leaving (envOfC qual scope L f cdv) e) (fun _ s'' => R (.error e) s'') (fun e' s'' => R (.error e') s'') s')
        { s with heap := h₁, toks := tk })
    (hco : scope.isCoroutine = false) (hgen : scope.isGenerator = false) (hk : scope.kind = .function) : codeAny (model prog w) A (.call (.ref f) args) R s := by
  have st : (hideAll s.heap (hid.map (·.1))).StaysIn s.heap := fun b o e => of_hideAll _ e
  refine codeAny_call_function hroom (st _ _ (X _ _ ho)) rfl hco hgen rfl ((codeRec_of X hcd).keeps st) (hbind _ _ _ _ ?_)
  refine wpAny_newFunctionEnv_cells hk (hkind _) fun env' he s' x => ?_
  subst he
  refine ⟨(T.nolimit.keeps st).keeps x.toInCall.keep, codeAny_func ?_⟩
  obtain ⟨h₁, tk, rfl, _⟩ := x.done
  have hk₁ := x.toInCall.keep
  obtain ⟨cells, NC, Y⟩ := Cl.news (h₀ := s.heap) (Nat.le_refl _) fun n c hm => ⟨x.cell n c (lookup_of_mem_nodup (cellsFrom_names scope.names 0 (s.heap.objs.size + 1) [] [] rfl ▸ hnd) hm), x.above n c hm⟩
  refine h s.heap.objs.size h₁ tk cells ⟨x.toInCall.ns, fun b o e => hk₁ b o (of_hideAll _ e), Nat.le_of_eq (hideAll_size _ _)⟩ (fun p hp => ?_) Y rfl (fun p hp => Heap.lt_size (hN p hp))
  rcases List.mem_append.mp hp with hp | hp
  · refine ⟨(NC p hp).1, (NC p hp).2.1, ?_⟩
    cases q : (hideAll s.heap (hid.map (·.1))).get? p.1 with
    | none => rfl
    | some o => have := of_hideAll _ q; rw [(NC p hp).2.2] at this; cases this
  · exact ⟨hk₁ _ _ (hN p hp), Nat.ne_of_lt (Heap.lt_size (hN p hp)), hideAll_none _ (List.mem_map_of_mem hp)⟩

noncomputable def DpAt (g : Heap) (rest : List (Addr × Obj)) (x : Ex × Nat) (y : Value) : Prop := ∃ t n tk v, y = .ref t ∧ (t, ({ cls := .type "tuple", data := .seq #[v, .int (x.2 : Int) tk] n } : Obj)) ∈ rest ∧ Reads g v (dat x.1) []
inductive DpsAt (g : Heap) (rest : List (Addr × Obj)) : List (Ex × Nat) → List Value → Prop
  | nil : DpsAt g rest [] []
  | cons {x : Ex × Nat} {W : List (Ex × Nat)} {y : Value} {ws : List Value} : DpAt g rest x y → DpsAt g rest W ws → DpsAt g rest (x :: W) (ws ++ [y])
theorem DpAt.mono {g : Heap} {rest rest' : List (Addr × Obj)} (hs : ∀ p ∈ rest, p ∈ rest') {x : Ex × Nat} {y : Value} (h : DpAt g rest x y) : DpAt g rest' x y := by
  obtain ⟨t, n, tk, v, e, hm, hv⟩ := h
  exact ⟨t, n, tk, v, e, hs _ hm, hv⟩
theorem DpsAt.mono {g : Heap} {rest rest' : List (Addr × Obj)} (hs : ∀ p ∈ rest, p ∈ rest') {W : List (Ex × Nat)} {ws : List Value} (h : DpsAt g rest W ws) : DpsAt g rest' W ws := by
  induction h with
  | nil => exact .nil
  | cons hx _ ih => exact .cons (hx.mono hs) ih
noncomputable def dtop : List (Ex × Nat) → Nat
  | [] => 0
  | (e, k) :: r => max (k + e.deep) (dtop r)
noncomputable def dsz : List (Ex × Nat) → Nat
  | [] => 0
  | (e, _) :: r => e.size + dsz r
theorem le_ext {a b : Nat} (h : ∀ x, a ≤ x ↔ b ≤ x) : a = b := Nat.le_antisymm ((h b).mpr (Nat.le_refl _)) ((h a).mp (Nat.le_refl _))
theorem deep_two {d ab l r W : Nat} : max (max d (ab + 1)) (max (ab + 1 + r) (max (ab + 1 + l) W)) = max d (max (ab + (max l r + 1)) W) := by
  rw [show ab + (max l r + 1) = max (ab + 1 + l) (ab + 1 + r) by rw [Nat.add_max_add_left, Nat.add_comm _ 1, ← Nat.add_assoc]]
  refine le_ext fun x => ?_
  simp only [Nat.max_le]
  exact ⟨fun h => ⟨h.1.1, ⟨h.2.2.1, h.2.1⟩, h.2.2.2⟩, fun h => ⟨⟨h.1, Nat.le_trans (Nat.le_add_right _ _) h.2.1.1⟩, h.2.1.2, h.2.1.1, h.2.2⟩⟩
theorem deep_one {d ab l W : Nat} : max (max d (ab + 1)) (max (ab + 1 + l) W) = max d (max (ab + (l + 1)) W) := by
  rw [show ab + (l + 1) = ab + 1 + l by rw [Nat.add_comm l 1, ← Nat.add_assoc]]
  refine le_ext fun x => ?_
  simp only [Nat.max_le]
  exact ⟨fun h => ⟨h.1.1, h.2.1, h.2.2⟩, fun h => ⟨⟨h.1, Nat.le_trans (Nat.le_add_right _ _) h.2.1⟩, h.2.1, h.2.2⟩⟩
theorem deep_none {d ab W : Nat} (h : ab ≤ d) : max d W = max d (max (ab + 0) W) := by
  refine le_ext fun x => ?_
  simp only [Nat.max_le]
  exact ⟨fun g => ⟨g.1, Nat.le_trans h g.1, g.2⟩, fun g => ⟨g.1, g.2.2⟩⟩
theorem Ex.size_pos : ∀ e : Ex, 1 ≤ e.size
  | .ref _ => Nat.le_refl _
  | .num _ => Nat.le_refl _
  | .neg _ => by simp [Ex.size]
  | .bin .. => by simp [Ex.size]
theorem DpsAt.len {g : Heap} {rest : List (Addr × Obj)} {W : List (Ex × Nat)} {ws : List Value} (h : DpsAt g rest W ws) : ws.length ≤ dsz W := by
  induction h with
  | nil => exact Nat.le_refl _
  | @cons x W y ws hx hr ih =>
    obtain ⟨e, k⟩ := x
    have := e.size_pos
    simp only [List.length_append, List.length_cons, List.length_nil, dsz]
    (first | lia | omega)
inductive DJ (g : Heap) (e : Ex) (ve : Value) (cL : Addr) (k : Nat) (m : Str → Option Value) (news : List (Addr × Obj)) : Prop
  | mk (d : Nat) (W : List (Ex × Nat)) (ws : List Value) (n1 : Nat) (aL : Addr) (oc : Obj) (cv : Option Value) (rest : List (Addr × Obj)) (tl : List (Str × Value)) (td : Tok)
    (q0 : news = (aL, listOf ws.toArray n1) :: (cL, oc) :: rest)
    (q1 : m = mOf ([(Str.ofString "expr", ve), (Str.ofString "deepest", .int ((d : Nat) : Int) td), (Str.ofString "line", .ref aL)] ++ tl))
    (q2 : oc.data = .cell cv)
    (q3 : aL ≠ cL)
    (q4 : Tups rest)
    (q5 : (∀ p ∈ rest, p.1 ≠ cL))
    (q6 : DpsAt g rest W ws)
    (q7 : max d (dtop W) = e.deep)
    (q8 : (∀ x ∈ W, x.2 ≤ d))
    (q9 : k = dsz W)
    (q10 : dsz W ≤ e.size) : DJ g e ve cL k m news

theorem nmC_F {M : Model} {A : Around} {E : Value → Shared → Prop} {s : Shared} {h₀ : Heap} {C : Addr} {m : Str → Option Value} {scope : Scope} {cl : List (Str × Addr)} {env : Env} {x : Str} {v : Value} {pos : Pos} {Q : Value → Shared → Prop} {c : Addr}
    (F : Fr h₀ C s.heap m) (hc : cl.lookup x = some c) (ho : h₀.IsCell c (some v)) (h : Q v s)
    (hk : (compEnvC scope cl C env).scope.kind = .function) (hx : (compEnvC scope cl C env).kindOf x = some .free) (hb : (x == ("__debug__" : Str)) = false := by decide) (hn : (x == ("__classdict__" : Str)) = false := by decide) :
    wpAny M A (eval (.Name x pos) (compEnvC scope cl C env)) Q E s := by
  obtain ⟨o, e, hd⟩ := ho
  exact wpAny_Name (wpAny_loadName_free hk hx hc ⟨o, F.keep _ _ e, hd⟩ h hn) hb
inductive FwdAt (g : Heap) (rest : List (Addr × Obj)) : List (Ex × Nat) → List Value → Prop
  | nil : FwdAt g rest [] []
  | snoc {x : Ex × Nat} {W : List (Ex × Nat)} {y : Value} {ws : List Value} : DpAt g rest x y → FwdAt g rest W ws → FwdAt g rest (W ++ [x]) (ws ++ [y])
theorem FwdAt.mono {g : Heap} {rest rest' : List (Addr × Obj)} (hs : ∀ p ∈ rest, p ∈ rest') {W : List (Ex × Nat)} {ws : List Value} (h : FwdAt g rest W ws) : FwdAt g rest' W ws := by
  induction h with
  | nil => exact .nil
  | snoc hx _ ih => exact .snoc (hx.mono hs) ih
theorem DpsAt.app {g : Heap} {rest : List (Addr × Obj)} {W cs : List (Ex × Nat)} {ws ys : List Value} (h : DpsAt g rest W ws) (h2 : FwdAt g rest cs ys) : DpsAt g rest (cs.reverse ++ W) (ws ++ ys) := by
  induction h2 with
  | nil => simpa using h
  | snoc hx _ ih =>
    rw [List.reverse_append, ← List.append_assoc]
    exact .cons hx ih
theorem FwdAt.len {g : Heap} {rest : List (Addr × Obj)} {W : List (Ex × Nat)} {ws : List Value} (h : FwdAt g rest W ws) : ws.length = W.length := by
  induction h with
  | nil => rfl
  | snoc _ _ ih => simp [ih]
theorem Cell.keeps {h h' : Heap} {a : Addr} {v : Option Value} (k : h.StaysIn h') (x : h.IsCell a v) : h'.IsCell a v := by
  obtain ⟨o, ho, hd⟩ := x
  exact ⟨o, k _ _ ho, hd⟩

theorem DJ.turn {g h₀ h : Heap} {L aL cL D : Addr} {e : Ex} {ve : Value} {n1 k d' tk : Nat} {td : Tok} {oc oD : Obj} {cv : Option Value} {rest : List (Addr × Obj)} {ws ys : List Value} {W cs : List (Ex × Nat)} {m : Str → Option Value} {tl : List (Str × Value)} {s : Shared} {z : Int}
    (F : Fr h₀ L h m) (N : News h₀ L h ((D, oD) :: (aL, listOf (ws ++ ys).toArray n1) :: (cL, oc) :: rest)) (hm : m = mOf ([(Str.ofString "expr", ve), (Str.ofString "deepest", .int z td), (Str.ofString "line", .ref aL)] ++ tl)) (hz : z = ((d' : Nat) : Int))
    (hoc : oc.data = .cell cv) (hne : aL ≠ cL) (hT : Tups rest) (hc : ∀ p ∈ rest, p.1 ≠ cL) (hW : DpsAt g rest W ws) (hY : FwdAt g rest cs ys) (hmx : max d' (dtop (cs.reverse ++ W)) = e.deep) (hb : ∀ x ∈ cs.reverse ++ W, x.2 ≤ d') (hk : dsz (cs.reverse ++ W) < k) (hk9 : k ≤ e.size) :
    WhileStep h₀ L s (fun k m news => DJ g e ve cL k m news) k .next { s with heap := h, toks := tk } := by
  subst hz
  refine WhileStep.intro (news₂ := (aL, listOf (ws ++ ys).toArray n1) :: (cL, oc) :: rest) F (News.sub N fun p hp => .tail _ hp) hk
    ⟨d', cs.reverse ++ W, ws ++ ys, n1, aL, oc, cv, rest, tl, td, rfl, hm, hoc, hne, hT, hc, hW.app hY, hmx, hb, rfl, by (first | lia | omega)⟩
theorem DJ.leaf {g h₀ h : Heap} {L aL cL : Addr} {e : Ex} {ve : Value} {n1 k d tk : Nat} {td : Tok} {oc : Obj} {q : Addr × Obj} {cv : Option Value} {rest : List (Addr × Obj)} {ws : List Value} {W : List (Ex × Nat)} {m : Str → Option Value} {tl : List (Str × Value)} {s : Shared}
    (F : Fr h₀ L h m) (N : News h₀ L h ((aL, listOf ws.toArray n1) :: (cL, oc) :: q :: rest)) (hm : m = mOf ([(Str.ofString "expr", ve), (Str.ofString "deepest", .int ((d : Nat) : Int) td), (Str.ofString "line", .ref aL)] ++ tl))
    (hoc : oc.data = .cell cv) (hne : aL ≠ cL) (hT : Tups rest) (hc : ∀ p ∈ rest, p.1 ≠ cL) (hW : DpsAt g rest W ws) (hmx : max d (dtop W) = e.deep) (hb : ∀ x ∈ W, x.2 ≤ d) (hk : dsz W < k) (hk9 : k ≤ e.size) :
    WhileStep h₀ L s (fun k m news => DJ g e ve cL k m news) k .next { s with heap := h, toks := tk } := by
  refine WhileStep.intro (news₂ := (aL, listOf ws.toArray n1) :: (cL, oc) :: rest) F (News.sub N ?_) hk
    ⟨d, W, ws, n1, aL, oc, cv, rest, tl, td, rfl, hm, hoc, hne, hT, hc, hW, hmx, hb, rfl, by (first | lia | omega)⟩
  intro p hp
  simp only [List.mem_cons] at hp ⊢
  rcases hp with h | h | h
  · exact .inl h
  · exact .inr (.inl h)
  · exact .inr (.inr (.inr h))

theorem News.depth {g h h' : Heap} {L D aL cL : Addr} {k n : Nat} {oc : Obj} {q t : Addr × Obj} {ws ys : List Value} {rest rest1 : List (Addr × Obj)} (N : News g L h (q :: (aL, listOf ws.toArray n) :: (cL, oc) :: t :: rest)) (hs : h.StaysIn h') (hD : h'.get? D = some (listOf ys.toArray k)) (FD : g.get? D = none ∧ D ≠ L ∧ ∀ p ∈ (q :: (aL, listOf ws.toArray n) :: (cL, oc) :: t :: rest), p.1 ≠ D)
    (hr : ∀ p ∈ rest1, h'.get? p.1 = some p.2 ∧ h.get? p.1 = none ∧ p.1 ≠ D) (hr2 : ∀ p ∈ rest1, p.1 ≠ L) (hg : g.StaysIn h) : News g L h' ((D, listOf ys.toArray k) :: (aL, listOf ws.toArray n) :: (cL, oc) :: (rest1 ++ rest)) := by
  have N' := N.grown hs
  intro p hp
  simp only [List.mem_cons, List.mem_append] at hp
  rcases hp with h | h | h | h | h
  · subst h; exact ⟨hD, FD.2.1, FD.1⟩
  · exact N' p (by simp [h])
  · exact N' p (by simp [h])
  · exact ⟨(hr p h).1, hr2 p h, none_back hg (hr p h).2.1⟩
  · exact N' p (by simp [h])

theorem CEnd.push {h₀ h' : Heap} {C I D : Addr} {oI oD : Obj} {K : List (Addr × Obj) → Prop} {s₂ : Shared} {tk : Nat} {m' : Str → Option Value} {rest' : List (Addr × Obj)} {q : Addr × Obj} (F : Fr h₀ C h' m') (N : News h₀ C h' (q :: (I, oI) :: (D, oD) :: rest')) (hq : q.1 ≠ I ∧ q.1 ≠ D) (off : ∀ p ∈ rest', p.1 ≠ I ∧ p.1 ≠ D) (hK : K (q :: rest')) :
    CEnd h₀ C I oI D oD K s₂ { s₂ with heap := h', toks := tk } := by
  refine CEnd.intro (q :: rest') F (News.sub N ?_) ?_ hK
  · intro p hp
    simp only [List.mem_cons] at hp ⊢
    rcases hp with h | h | h | h
    · exact .inr (.inl h)
    · exact .inr (.inr (.inl h))
    · exact .inl h
    · exact .inr (.inr (.inr h))
  · intro p hp
    rcases List.mem_cons.mp hp with rfl | hp
    · exact hq
    · exact off p hp

theorem DJ.start {g h₀ h : Heap} {L aL cL D : Addr} {e : Ex} {v : Value} {n1 n : Nat} {tk td : Tok} {oc : Obj} {cv : Option Value} (N : News h₀ L h [(aL, listOf #[.ref D] n1), (D, { cls := .type "tuple", data := .seq #[v, .int 0 tk] n }), (cL, oc)])
    (hoc : oc.data = .cell cv) (hne : aL ≠ cL) (hD : D ≠ cL) (hv : Reads g v (dat e) []) : ∃ news, News h₀ L h news ∧ DJ g e v cL e.size (mOf ([(Str.ofString "expr", v), (Str.ofString "deepest", .int 0 td), (Str.ofString "line", .ref aL)] ++ [])) news := by
  refine ⟨(aL, listOf #[.ref D] n1) :: (cL, oc) :: [(D, { cls := .type "tuple", data := .seq #[v, .int 0 tk] n })], News.sub N ?_, ?_⟩
  · intro p hp
    simp only [List.mem_cons, List.not_mem_nil, or_false] at hp ⊢
    rcases hp with h | h | h
    · exact .inl h
    · exact .inr (.inr h)
    · exact .inr (.inl h)
  · refine ⟨0, [(e, 0)], [.ref D], n1, aL, oc, cv, _, [], td, rfl, rfl, hoc, hne, Tups.cons rfl Tups.nil, ?_, .cons (ws := []) ⟨D, n, tk, v, rfl, .head _, hv⟩ .nil, ?_, ?_, ?_, ?_⟩
    · intro p hp; rw [List.mem_singleton.mp hp]; exact hD
    · simp [dtop]
    · intro x hx; rw [List.mem_singleton.mp hx]; exact Nat.le_refl _
    · simp [dsz]
    · simp [dsz]

section
local macro_rules | `(tactic| walk_at "exec While") => `(tactic| refine' halt ?_)
local macro_rules | `(tactic| walk_at "eval Name") => `(tactic| ((with_reducible show wpAny _ _ (eval _ (compEnvC _ _ _ _)) _ _ _); (rename Fr _ _ _ _ => F9); k_dflt (first
  | refine nmC_L F9 (by rfl) ?_ (by exact rfl) (by with_unfolding_all rfl)
  | ((rename Frag.In _ _ => X9); (rename Top _ _ _ _ _ _ => T9); refine nmC_K F9 X9 T9 (by k_is) ?_ (by exact rfl) (by with_unfolding_all rfl) (by exact rfl)))))
local macro_rules | `(tactic| walk_at "storeName") => `(tactic| ((with_reducible show wpAny _ _ (storeName (compEnvC _ _ _ _) _ _) _ _ _); (rename Fr _ _ _ _ => F9); (rename News _ _ _ _ => N9); k_dflt (refine stC_L F9 N9 ?_ (by exact rfl) (by with_unfolding_all rfl)); intro h' F' N'))
local macro_rules | `(tactic| walk_at "eval ListComp") => `(tactic| (k_dflt (refine ListComp_G (cl := []) (closureFor_none (by decide)) (by decide) (by rfl) (by decide) ?_)))

local macro_rules | `(tactic| walk_at "eval ListComp") => `(tactic| refine' halt ?_)
local macro_rules | `(tactic| walk_at "eval Name") => `(tactic| ((with_reducible show wpAny _ _ (eval (Expr.Name (PySem.Str.ofString "above") _) (compEnvC _ _ _ _)) _ _ _); (rename Fr _ _ _ _ => F9); (rename Heap.IsCell _ _ _ => C9); k_dflt (refine' nmC_C F9 ?a9 C9 ?_ ?b9 ?c9; (case a9 => exact rfl); (case b9 => exact rfl); (case c9 => with_unfolding_all rfl))))
local macro_rules | `(tactic| k_ne) => `(tactic| ((try dsimp only); assumption))
local macro_rules | `(tactic| k_all) => `(tactic| assumption)
local macro_rules | `(tactic| walk_at "compareOp In str ref") => `(tactic| ((rename Fr _ _ _ _ => F9); (rename Frag.In _ _ => X9); (refine in_tuple_strs (tup_K (Frag.In.keeps X9 F9.keep) (by k_is) rfl rfl) (by kde_strs) ?_); (try dsimp only); (try rw [any_sg])))
local macro_rules | `(tactic| walk_at "subscriptTail Name Slice ref ref") => `(tactic| ((rename Fr _ _ _ _ => F9); (rename News _ _ _ _ => N9); (rename IsTup _ _ _ => T9); k_dflt (refine slice_tuple_from (a := 1) (s := ⟨_, _, _, _, _⟩) F9 N9 (Tup.keeps F9.keep T9) (Nat.le_refl _) (Nat.le_of_ble_eq_true rfl) ?_ (hsz := Nat.le_of_ble_eq_true rfl)); (intro h9 F' N'); (try dsimp only [List.drop, List.toArray, List.toArrayAux] at N')))
theorem depth_spec {w : World} {p : Program} {loose : List Str} {mean : ExcName → Option Value} {mg mb : Str → Option Value} {s : Shared} {dp un : Nat} {gd : Option (List Code)} {fr : Option (List Env)} {Q E : Value → Shared → Prop} {v1 : Value} {e : Ex} (X : (hd.heap_39 w.params).In s.heap) (T : Top p loose mean mg mb s.heap) (hd : dp < recursionLimit) (hv1 : Reads s.heap v1 (dat e) []) (hn : e.size ≤ 200)
    (hret : ∀ h' tk t, Heap.StaysIn s.heap h' → Q (.int (e.deep : Int) t) { s with heap := h', toks := tk }) :
    wpAny (model PR w) (topA dp un gd fr) (call (.ref 166) [v1]) Q E s := by
  refine wpAny_call ?_
  refine' enterC (hid := []) (binds := [(Str.ofString "expr", v1)]) X T ?hN ?k1 ?k2 ?k3 ?k4 ?k5 ?kn ?_ ?c2 ?c3 ?c4
  case hN => exact fun q hq => nomatch hq
  case k1 => k_is
  case k2 => k_is
  case k3 => (try simp only [topA, depth_deeper] at *); (first | lia | omega)
  case k4 => exact BindsTo.of_eq rfl
  case k5 => intro n x hx; rw [List.mem_singleton.mp hx]; exact .inl rfl
  case kn => decide
  case c2 => exact rfl
  case c3 => exact rfl
  case c4 => exact rfl
  intro L h₁ tk cells F N Y hL _
  obtain ⟨oc, rfl, hoc⟩ := CellsAre.one Y
  replace F : Fr s.heap L h₁ (mOf [(Str.ofString "expr", v1)]) := by rw [mOf_cons, mOf_nil]; exact F
  replace N : News s.heap L h₁ [(L + 1, oc)] := N
  clear Y
  refine wpAny_noRaise ?_
  try dsimp only
  try k_fold
  k_with_none
  repeat' (first | (k_unfold; (try dsimp only)) | (k_end; wrow_close) | ((try dsimp only); walk1) | (leave1; walk_say "STEP leave1"; try dsimp only) | fail "no step")
  refine Halt.mk ?_
  rename Fr _ _ _ _ => F9
  rename News _ _ _ _ => N9
  rename_i D h4 l1 aL h5 l2 h6
  obtain ⟨nx0, N0, J0⟩ := DJ.start N9 hoc (Nat.ne_of_gt l2.2) (Nat.ne_of_gt l1) hv1
  refine While_inv (fun k m news => DJ s.heap e v1 (L + 1) k m news) (n₀ := e.size) (fr_set2 F9) N0 J0 ?_
  clear N0 J0
  clear F9 N9
  rintro k m₁ nx h tk F N ⟨d, W, ws, n1, aL, oc, cv, rest, tl, td, rfl, rfl, hoc, hne, hT, hc, hW, hm, hb, hk, hz⟩
  have hl1 := hW.len
  have hne2 := hne.symm
  cases hW with
  | nil =>
    repeat' (first | (k_unfold; (try dsimp only)) | (k_end; wrow_close) | ((try dsimp only); walk1) | (leave1; walk_say "STEP leave1"; try dsimp only) | fail "no step")
    have hde : d = e.deep := by simpa [dtop] using hm
    subst hde
    exact hret _ _ _ (Fr.keep (by assumption))
  | cons hx hW =>
    rename_i x W y ws
    obtain ⟨t, n3, tk3, v, rfl, hm_t, hv⟩ := hx
    obtain ⟨e', ab⟩ := x
    have hs1 := tups_ne N (.head _) hT (fun p hp => .tail _ (.tail _ hp))
    have ht1 : t ≠ aL := hs1 _ hm_t
    have ht2 : t ≠ L + 1 := hc _ hm_t
    have N := news_dup N hm_t
    have hab : ab ≤ d := hb _ (.head _)
    have hl200 : (ws ++ [Value.ref t]).length ≤ 200 := by (first | lia | omega)
    have hl0 : ws.length ≤ 200 := by have := hl200; simp only [List.length_append] at this; (first | lia | omega)
    have hemp : ¬ (ws ++ [Value.ref t]).isEmpty = true := by simp
    cases e' with
    | bin o l r =>
      k_with_none
      k_with "call builtin:list.pop" => (refine' kl_pop (p := ws) (y := .ref t) ?Fq1x0 ?Nq1x0 (kpa_last _ _) ?Uq1x0 ?zq1x0 ?_; (case Fq1x0 => k_asm); (case Nq1x0 => k_asm); (case Uq1x0 => k_upd); (case zq1x0 => (rw [sizeLine_eq]; exact Nat.le_trans hl200 (by decide))); (intro h' F' N'))
      obtain ⟨a1, t1, u1, u2, rfl, hI, r1, r2⟩ := tri_open hv
      have hR : ReadsAll s.heap [u1, u2] ([l, r].map dat) [] := .cons (as := []) (bs := []) r1 (.cons (as := []) (bs := []) r2 .nil)
      repeat' (first | (k_unfold; (try dsimp only)) | (k_end; wrow_close) | ((try dsimp only); walk1) | (leave1; walk_say "STEP leave1"; try dsimp only) | fail "no step")
      refine Halt.mk ?_
      refine' ListComp_G (cl := [(Str.ofString "above", L + 1)]) ?a9 ?b9 ?c9 ?d9 ?_
      case a9 => with_unfolding_all rfl
      case b9 => decide
      case c9 => rfl
      case d9 => decide
      k_with_none
      k_with "pyIter ref" => (refine' halt ?_)
      repeat' (first | (k_unfold; (try dsimp only)) | (k_end; wrow_close) | ((try dsimp only); walk1) | (leave1; walk_say "STEP leave1"; try dsimp only) | fail "no step")
      refine Halt.mk ?_
      rename Fr _ _ _ _ => F8
      rename News _ _ _ _ => N8
      have hcell : Heap.IsCell _ (L + 1) (some (.int (ab : Int) tk3)) := ⟨_, (N8 _ (.tail _ (.tail _ (.head _)))).1, by assumption⟩
      rename Frag.In _ _ => X
      rename Top _ _ _ _ _ _ => T
      refine wpAny_pyIter_tuple ⟨_, (N8 _ (.head _)).1, rfl, _, rfl⟩ ?_
      refine CompG.tuple (its := [u1, u2].toArray) [] (fun i ys rest => Tups rest ∧ FwdAt s.heap rest (([l, r].take i).map (·, ab + 1)) ys) rfl ⟨_, (N8 _ (.head _)).1, rfl, _, rfl⟩ (by simp) (by simp) (by rw [sizeLine_eq]; simp only [List.size_toArray, List.length_cons, List.length_nil]; (first | lia | omega)) (fun _ _ => rfl) ⟨Tups.nil, .nil⟩ ?turn ?done
      case turn =>
        rintro h₀ C D I i v ys rest oI k h m tk tk₀ hp E' kg hi hP ⟨hT1, hY⟩ F N hID off
        obtain ⟨dd, hdd, hr⟩ := readsAll_get hR rfl i v (by simpa using hP)
        rw [List.getElem?_map] at hdd
        obtain ⟨ch, hch, rfl⟩ := Option.map_eq_some_iff.mp hdd
        have kg2 := fun b o q => kg b o (F8.keep b o q)
        have X := X.keeps kg2
        have T := T.keeps kg2
        have hcell := Cell.keeps kg hcell
        clear F8 N8
        k_with_none
        repeat' (first | (k_unfold; (try dsimp only)) | (k_end; wrow_close) | ((try dsimp only); walk1) | (leave1; walk_say "STEP leave1"; try dsimp only) | fail "no step")
        rename Fr _ _ _ _ => F9
        rename News _ _ _ _ => N9
        refine CEnd.push F9 N9 ⟨by (refine neN ?_; dsimp only; (first | lia | omega)), by (refine neN ?_; dsimp only; (first | lia | omega))⟩ off ⟨Tups.cons rfl hT1, ?_⟩
        rw [List.take_add_one, hch, List.map_append]
        exact .snoc ⟨_, _, _, _, rfl, .head _, hr⟩ (hY.mono fun p hp => .tail _ hp)
      case done =>
        rintro D h' tk ys rest1 k ⟨hT1, hY⟩ hs hD hD0 hr hl
        replace hY : FwdAt s.heap rest1 ([l, r].map (·, ab + 1)) ys := hY
        have FD := fresh_of F8 N8 D hD0
        have F7 := F8.keeps hs
        have hne3 : D ≠ aL := (FD.2.2 _ (.tail _ (.head _))).symm
        have hr1 : ∀ p ∈ rest1 ++ rest, p.1 ≠ aL := by
          intro p hp
          rcases List.mem_append.mp hp with hp | hp
          · exact ((fresh_of F8 N8 p.1 (hr p hp).2.1).2.2 _ (.tail _ (.head _))).symm
          · exact hs1 p hp
        have hr2 : ∀ p ∈ rest1 ++ rest, p.1 ≠ L + 1 := by
          intro p hp
          rcases List.mem_append.mp hp with hp | hp
          · exact ((fresh_of F8 N8 p.1 (hr p hp).2.1).2.2 _ (.tail _ (.tail _ (.head _)))).symm
          · exact hc p hp
        have N7 := News.depth N8 hs hD FD hr (fun p hp => (fresh_of F8 N8 p.1 (hr p hp).2.1).2.1) F8.keep
        clear F8 N8
        have hyl : ys.length = 2 := hY.len
        k_with_none
        k_with "call builtin:list.extend" => (refine' kl_extend (l := ws ++ ys) ?Fq2 ?Nq2 ?bq2 rfl ?neq2 ?Uq2 ?dq2 ?zq2 ?yq2 ?_; (case Fq2 => k_asm); (case Nq2 => k_asm); (case bq2 => exact List.Mem.head _); (case neq2 => (show ys.length ≠ 0; (first | lia | omega))); (case Uq2 => k_upd); (case dq2 => exact long_no (by simp only [List.size_toArray]; (first | lia | omega))); (case zq2 => exact (Nat.le_trans hl0 (by rw [sizeLine_eq]; decide))); (case yq2 => (rw [sizeLine_eq]; simp only [List.size_toArray]; (first | lia | omega))); (intro h' F' N'))
        repeat' (first | (k_unfold; (try dsimp only)) | (k_end; wrow_close) | ((try dsimp only); walk1) | (leave1; walk_say "STEP leave1"; try dsimp only) | fail "no step")
        rename Fr _ _ _ _ => F9
        rename News _ _ _ _ => N9
        refine DJ.turn (d' := max d (ab + 1)) (cs := [l, r].map (·, ab + 1)) (fr_set2 F9) N9 rfl (by split <;> (first | lia | omega)) (by assumption) hne (hT1.append hT) hr2 (hW.mono fun p hp => List.mem_append_right _ hp) (hY.mono fun p hp => List.mem_append_left _ hp) ?_ ?_ ?_ (by (first | lia | omega))
        · rw [← hm]
          simp only [List.map_cons, List.map_nil, List.reverse_cons, List.reverse_nil, List.nil_append, List.cons_append, dtop, Ex.deep]
          exact deep_two
        · intro x hx
          simp only [List.map_cons, List.map_nil, List.reverse_cons, List.reverse_nil, List.nil_append, List.cons_append, List.mem_cons] at hx
          rcases hx with rfl | rfl | hx
          · exact Nat.le_max_right _ _
          · exact Nat.le_max_right _ _
          · exact Nat.le_trans (hb x (.tail _ hx)) (Nat.le_max_left _ _)
        · rw [hk]
          simp only [List.map_cons, List.map_nil, List.reverse_cons, List.reverse_nil, List.nil_append, List.cons_append, dsz, Ex.size]
          (first | lia | omega)
    | neg l =>
      k_with_none
      k_with "call builtin:list.pop" => (refine' kl_pop (p := ws) (y := .ref t) ?Fq1x1 ?Nq1x1 (kpa_last _ _) ?Uq1x1 ?zq1x1 ?_; (case Fq1x1 => k_asm); (case Nq1x1 => k_asm); (case Uq1x1 => k_upd); (case zq1x1 => (rw [sizeLine_eq]; exact Nat.le_trans hl200 (by decide))); (intro h' F' N'))
      obtain ⟨a1, t1, u1, rfl, hI, r1⟩ := pair_open hv
      have hR : ReadsAll s.heap [u1] ([l].map dat) [] := .cons (as := []) (bs := []) r1 .nil
      repeat' (first | (k_unfold; (try dsimp only)) | (k_end; wrow_close) | ((try dsimp only); walk1) | (leave1; walk_say "STEP leave1"; try dsimp only) | fail "no step")
      refine Halt.mk ?_
      refine' ListComp_G (cl := [(Str.ofString "above", L + 1)]) ?a9 ?b9 ?c9 ?d9 ?_
      case a9 => with_unfolding_all rfl
      case b9 => decide
      case c9 => rfl
      case d9 => decide
      k_with_none
      k_with "pyIter ref" => (refine' halt ?_)
      repeat' (first | (k_unfold; (try dsimp only)) | (k_end; wrow_close) | ((try dsimp only); walk1) | (leave1; walk_say "STEP leave1"; try dsimp only) | fail "no step")
      refine Halt.mk ?_
      rename Fr _ _ _ _ => F8
      rename News _ _ _ _ => N8
      have hcell : Heap.IsCell _ (L + 1) (some (.int (ab : Int) tk3)) := ⟨_, (N8 _ (.tail _ (.tail _ (.head _)))).1, by assumption⟩
      rename Frag.In _ _ => X
      rename Top _ _ _ _ _ _ => T
      refine wpAny_pyIter_tuple ⟨_, (N8 _ (.head _)).1, rfl, _, rfl⟩ ?_
      refine CompG.tuple (its := [u1].toArray) [] (fun i ys rest => Tups rest ∧ FwdAt s.heap rest (([l].take i).map (·, ab + 1)) ys) rfl ⟨_, (N8 _ (.head _)).1, rfl, _, rfl⟩ (by simp) (by simp) (by rw [sizeLine_eq]; simp only [List.size_toArray, List.length_cons, List.length_nil]; (first | lia | omega)) (fun _ _ => rfl) ⟨Tups.nil, .nil⟩ ?turn ?done
      case turn =>
        rintro h₀ C D I i v ys rest oI k h m tk tk₀ hp E' kg hi hP ⟨hT1, hY⟩ F N hID off
        obtain ⟨dd, hdd, hr⟩ := readsAll_get hR rfl i v (by simpa using hP)
        rw [List.getElem?_map] at hdd
        obtain ⟨ch, hch, rfl⟩ := Option.map_eq_some_iff.mp hdd
        have kg2 := fun b o q => kg b o (F8.keep b o q)
        have X := X.keeps kg2
        have T := T.keeps kg2
        have hcell := Cell.keeps kg hcell
        clear F8 N8
        k_with_none
        repeat' (first | (k_unfold; (try dsimp only)) | (k_end; wrow_close) | ((try dsimp only); walk1) | (leave1; walk_say "STEP leave1"; try dsimp only) | fail "no step")
        rename Fr _ _ _ _ => F9
        rename News _ _ _ _ => N9
        refine CEnd.push F9 N9 ⟨by (refine neN ?_; dsimp only; (first | lia | omega)), by (refine neN ?_; dsimp only; (first | lia | omega))⟩ off ⟨Tups.cons rfl hT1, ?_⟩
        rw [List.take_add_one, hch, List.map_append]
        exact .snoc ⟨_, _, _, _, rfl, .head _, hr⟩ (hY.mono fun p hp => .tail _ hp)
      case done =>
        rintro D h' tk ys rest1 k ⟨hT1, hY⟩ hs hD hD0 hr hl
        replace hY : FwdAt s.heap rest1 ([l].map (·, ab + 1)) ys := hY
        have FD := fresh_of F8 N8 D hD0
        have F7 := F8.keeps hs
        have hne3 : D ≠ aL := (FD.2.2 _ (.tail _ (.head _))).symm
        have hr1 : ∀ p ∈ rest1 ++ rest, p.1 ≠ aL := by
          intro p hp
          rcases List.mem_append.mp hp with hp | hp
          · exact ((fresh_of F8 N8 p.1 (hr p hp).2.1).2.2 _ (.tail _ (.head _))).symm
          · exact hs1 p hp
        have hr2 : ∀ p ∈ rest1 ++ rest, p.1 ≠ L + 1 := by
          intro p hp
          rcases List.mem_append.mp hp with hp | hp
          · exact ((fresh_of F8 N8 p.1 (hr p hp).2.1).2.2 _ (.tail _ (.tail _ (.head _)))).symm
          · exact hc p hp
        have N7 := News.depth N8 hs hD FD hr (fun p hp => (fresh_of F8 N8 p.1 (hr p hp).2.1).2.1) F8.keep
        clear F8 N8
        have hyl : ys.length = 1 := hY.len
        k_with_none
        k_with "call builtin:list.extend" => (refine' kl_extend (l := ws ++ ys) ?Fq2 ?Nq2 ?bq2 rfl ?neq2 ?Uq2 ?dq2 ?zq2 ?yq2 ?_; (case Fq2 => k_asm); (case Nq2 => k_asm); (case bq2 => exact List.Mem.head _); (case neq2 => (show ys.length ≠ 0; (first | lia | omega))); (case Uq2 => k_upd); (case dq2 => exact long_no (by simp only [List.size_toArray]; (first | lia | omega))); (case zq2 => exact (Nat.le_trans hl0 (by rw [sizeLine_eq]; decide))); (case yq2 => (rw [sizeLine_eq]; simp only [List.size_toArray]; (first | lia | omega))); (intro h' F' N'))
        repeat' (first | (k_unfold; (try dsimp only)) | (k_end; wrow_close) | ((try dsimp only); walk1) | (leave1; walk_say "STEP leave1"; try dsimp only) | fail "no step")
        rename Fr _ _ _ _ => F9
        rename News _ _ _ _ => N9
        refine DJ.turn (d' := max d (ab + 1)) (cs := [l].map (·, ab + 1)) (fr_set2 F9) N9 rfl (by split <;> (first | lia | omega)) (by assumption) hne (hT1.append hT) hr2 (hW.mono fun p hp => List.mem_append_right _ hp) (hY.mono fun p hp => List.mem_append_left _ hp) ?_ ?_ ?_ (by (first | lia | omega))
        · rw [← hm]
          simp only [List.map_cons, List.map_nil, List.reverse_cons, List.reverse_nil, List.nil_append, List.cons_append, dtop, Ex.deep]
          exact deep_one
        · intro x hx
          simp only [List.map_cons, List.map_nil, List.reverse_cons, List.reverse_nil, List.nil_append, List.cons_append, List.mem_cons] at hx
          rcases hx with rfl | hx
          · exact Nat.le_max_right _ _
          · exact Nat.le_trans (hb x (.tail _ hx)) (Nat.le_max_left _ _)
        · rw [hk]
          simp only [List.map_cons, List.map_nil, List.reverse_cons, List.reverse_nil, List.nil_append, List.cons_append, dsz, Ex.size]
          (first | lia | omega)
    | num n =>
      k_with_none
      k_with "call builtin:list.pop" => (refine' kl_pop (p := ws) (y := .ref t) ?Fq1x2 ?Nq1x2 (kpa_last _ _) ?Uq1x2 ?zq1x2 ?_; (case Fq1x2 => k_asm); (case Nq1x2 => k_asm); (case Uq1x2 => k_upd); (case zq1x2 => (rw [sizeLine_eq]; exact Nat.le_trans hl200 (by decide))); (intro h' F' N'))
      obtain ⟨a1, t1, u1, rfl, hI, r1⟩ := pair_open hv
      repeat' (first | (k_unfold; (try dsimp only)) | (k_end; wrow_close) | ((try dsimp only); walk1) | (leave1; walk_say "STEP leave1"; try dsimp only) | fail "no step")
      rename Fr _ _ _ _ => F9
      rename News _ _ _ _ => N9
      refine DJ.leaf (fr_set1 F9) N9 rfl (by assumption) hne hT hc hW ?_ (fun x hx => hb x (.tail _ hx)) ?_ (by (first | lia | omega))
      · rw [← hm]
        simp only [dtop, Ex.deep]
        exact deep_none hab
      · rw [hk]
        simp only [dsz, Ex.size]
        (first | lia | omega)
    | ref i =>
      k_with_none
      k_with "call builtin:list.pop" => (refine' kl_pop (p := ws) (y := .ref t) ?Fq1x3 ?Nq1x3 (kpa_last _ _) ?Uq1x3 ?zq1x3 ?_; (case Fq1x3 => k_asm); (case Nq1x3 => k_asm); (case Uq1x3 => k_upd); (case zq1x3 => (rw [sizeLine_eq]; exact Nat.le_trans hl200 (by decide))); (intro h' F' N'))
      obtain ⟨a1, t1, t2, u3, u4, rfl, hI⟩ := ref_open hv
      repeat' (first | (k_unfold; (try dsimp only)) | (k_end; wrow_close) | ((try dsimp only); walk1) | (leave1; walk_say "STEP leave1"; try dsimp only) | fail "no step")
      rename Fr _ _ _ _ => F9
      rename News _ _ _ _ => N9
      refine DJ.leaf (fr_set1 F9) N9 rfl (by assumption) hne hT hc hW ?_ (fun x hx => hb x (.tail _ hx)) ?_ (by (first | lia | omega))
      · rw [← hm]
        simp only [dtop, Ex.deep]
        exact deep_none hab
      · rw [hk]
        simp only [dsz, Ex.size]
        (first | lia | omega)
end
end
section
theorem fillMS : (fun (_ : OpenLaw) (_ : Params → Frag) => True) PySem.Challenge.rw_pc0124_01 hd.heap_39 := by
  w_top off
  k_fill
  trivial




inductive IntsD : List Value → List Nat → Prop
  | nil : IntsD [] []
  | snoc' {ys : List Value} {ns : List Nat} {n : Nat} {t : Tok} : IntsD ys ns → IntsD (ys ++ [.int (n : Int) t]) (ns ++ [n])
theorem IntsD.snoc {ys : List Value} {ns : List Nat} {n : Nat} {t : Tok} (h : IntsD ys ns) : IntsD (ys ++ [.int (n : Int) t]) (ns ++ [n]) := .snoc' h
theorem IntsD.len {ys : List Value} {ns : List Nat} (h : IntsD ys ns) : ys.length = ns.length := by
  induction h with
  | nil => rfl
  | snoc' _ ih => simp [ih]
theorem IntsD.un {ys : List Value} {ns : List Nat} {n : Nat} (h : IntsD ys (ns ++ [n])) : ∃ ys' t, ys = ys' ++ [.int (n : Int) t] ∧ IntsD ys' ns := by
  generalize e : ns ++ [n] = l at h
  cases h with
  | nil => simp at e
  | snoc' h =>
    obtain ⟨rfl, e2⟩ := List.append_inj' e rfl
    cases e2
    exact ⟨_, _, rfl, h⟩
theorem IntsD.one {ys : List Value} {a : Nat} (h : IntsD ys [a]) : ∃ t, ys = [.int (a : Int) t] := by
  obtain ⟨ys', t, rfl, h'⟩ := IntsD.un (ns := []) h
  have := List.eq_nil_of_length_eq_zero h'.len
  subst this
  exact ⟨t, rfl⟩
theorem IntsD.two {ys : List Value} {a b : Nat} (h : IntsD ys [a, b]) : ∃ t u, ys = [.int (a : Int) t, .int (b : Int) u] := by
  obtain ⟨ys', u, rfl, h'⟩ := IntsD.un (ns := [a]) h
  obtain ⟨t, rfl⟩ := h'.one
  exact ⟨t, u, rfl⟩
section
local macro_rules | `(tactic| walk_at "eval Name") => `(tactic| ((with_reducible show wpAny _ _ (eval _ (compEnvC _ _ _ _)) _ _ _); (rename Fr _ _ _ _ => F9); k_dflt (first
  | refine nmC_L F9 (by rfl) ?_ (by exact rfl) (by with_unfolding_all rfl)
  | ((rename Frag.In _ _ => X9); (rename Top _ _ _ _ _ _ => T9); refine nmC_K F9 X9 T9 (by k_is) ?_ (by exact rfl) (by with_unfolding_all rfl) (by exact rfl)))))
local macro_rules | `(tactic| walk_at "storeName") => `(tactic| ((with_reducible show wpAny _ _ (storeName (compEnvC _ _ _ _) _ _) _ _ _); (rename Fr _ _ _ _ => F9); (rename News _ _ _ _ => N9); k_dflt (refine stC_L F9 N9 ?_ (by exact rfl) (by with_unfolding_all rfl)); intro h' F' N'))
local macro_rules | `(tactic| walk_at "eval ListComp") => `(tactic| (k_dflt (refine ListComp_G (cl := []) (closureFor_none (by decide)) (by decide) (by rfl) (by decide) ?_)))

local macro_rules | `(tactic| walk_at "eval ListComp") => `(tactic| refine' halt ?_)
local macro_rules | `(tactic| walk_at "subscriptTail Name Slice ref ref") => `(tactic| ((rename Fr _ _ _ _ => F9); (rename News _ _ _ _ => N9); (rename IsTup _ _ _ => T9); k_dflt (refine slice_tuple_from (a := 1) (s := ⟨_, _, _, _, _⟩) F9 N9 (Tup.keeps F9.keep T9) (Nat.le_refl _) (Nat.le_of_ble_eq_true rfl) ?_ (hsz := Nat.le_of_ble_eq_true rfl)); (intro h9 F' N'); (try dsimp only [List.drop, List.toArray, List.toArrayAux] at N')))
theorem lawdeep_spec : ∀ (e : Ex) {w : World} {p : Program} {loose : List Str} {mean : ExcName → Option Value} {mg mb : Str → Option Value} {s : Shared} {dp un : Nat} {gd : Option (List Code)} {fr : Option (List Env)} {Q E : Value → Shared → Prop} {v1 : Value} (X : (hd.heap_39 w.params).In s.heap) (T : Top p loose mean mg mb s.heap) (hdp : dp + e.deep < recursionLimit) (hv1 : Reads s.heap v1 (dat e) [])
    (hret : ∀ h' tk t, Heap.StaysIn s.heap h' → Q (.int (e.deep : Int) t) { s with heap := h', toks := tk }),
    wpAny (model PR w) (topA dp un gd fr) (call (.ref 252) [v1]) Q E s := by
  intro e
  induction e with
  | ref i =>
    intro w p loose mean mg mb s dp un gd fr Q E v1 X T hdp hv1 hret
    obtain ⟨a, t1, t2, v3, v4, rfl, hI⟩ := ref_open hv1
    refine' enter (binds := [(Str.ofString "expr", .ref a)]) X T ?k1 ?k2 ?k3 ?k4 ?k5 ?_ ?c2 ?c3 ?c4 ?c5
    case k1 => k_is
    case k2 => k_is
    case k3 => (first | assumption | ((try simp only [topA, depth_deeper] at *); (first | lia | omega)))
    case k4 => first | exact BindsTo.of_eq rfl | exact binds_K (by k_in) rfl (by k_is) rfl rfl rfl
    case k5 => exact locs rfl
    case c2 => exact rfl
    case c3 => exact rfl
    case c4 => exact rfl
    case c5 => decide
    intro L h₁ F N hL
    refine wpAny_noRaise ?_
    try dsimp only
    try k_fold
    k_with_none
    repeat' (first | (k_unfold; (try dsimp only)) | (k_end; wrow_close) | ((try dsimp only); walk1) | (leave1; walk_say "STEP leave1"; try dsimp only) | fail "no step")
    exact hret _ _ _ (Fr.keep (by assumption))
  | num n =>
    intro w p loose mean mg mb s dp un gd fr Q E v1 X T hdp hv1 hret
    obtain ⟨a, t1, v2, rfl, hI, r1⟩ := pair_open hv1
    refine' enter (binds := [(Str.ofString "expr", .ref a)]) X T ?k1 ?k2 ?k3 ?k4 ?k5 ?_ ?c2 ?c3 ?c4 ?c5
    case k1 => k_is
    case k2 => k_is
    case k3 => (first | assumption | ((try simp only [topA, depth_deeper] at *); (first | lia | omega)))
    case k4 => first | exact BindsTo.of_eq rfl | exact binds_K (by k_in) rfl (by k_is) rfl rfl rfl
    case k5 => exact locs rfl
    case c2 => exact rfl
    case c3 => exact rfl
    case c4 => exact rfl
    case c5 => decide
    intro L h₁ F N hL
    refine wpAny_noRaise ?_
    try dsimp only
    try k_fold
    k_with_none
    repeat' (first | (k_unfold; (try dsimp only)) | (k_end; wrow_close) | ((try dsimp only); walk1) | (leave1; walk_say "STEP leave1"; try dsimp only) | fail "no step")
    exact hret _ _ _ (Fr.keep (by assumption))
  | neg l ih =>
    intro w p loose mean mg mb s dp un gd fr Q E v1 X T hdp hv1 hret
    obtain ⟨a, t1, u1, rfl, hI, r1⟩ := pair_open hv1
    have hR : ReadsAll s.heap [u1] ([l].map dat) [] := .cons (as := []) (bs := []) r1 .nil
    simp only [Ex.deep] at hdp
    skip
    refine' enter (binds := [(Str.ofString "expr", .ref a)]) X T ?k1 ?k2 ?k3 ?k4 ?k5 ?_ ?c2 ?c3 ?c4 ?c5
    case k1 => k_is
    case k2 => k_is
    case k3 => (first | assumption | ((try simp only [topA, depth_deeper] at *); (first | lia | omega)))
    case k4 => first | exact BindsTo.of_eq rfl | exact binds_K (by k_in) rfl (by k_is) rfl rfl rfl
    case k5 => exact locs rfl
    case c2 => exact rfl
    case c3 => exact rfl
    case c4 => exact rfl
    case c5 => decide
    intro L h₁ F N hL
    refine wpAny_noRaise ?_
    try dsimp only
    try k_fold
    k_with_none
    repeat' (first | (k_unfold; (try dsimp only)) | (k_end; wrow_close) | ((try dsimp only); walk1) | (leave1; walk_say "STEP leave1"; try dsimp only) | fail "no step")
    refine Halt.mk ?_
    refine' ListComp_G (cl := []) ?a9 ?b9 ?c9 ?d9 ?_
    case a9 => exact closureFor_none (by decide)
    case b9 => decide
    case c9 => rfl
    case d9 => decide
    k_with_none
    k_with "pyIter ref" => (refine' halt ?_)
    repeat' (first | (k_unfold; (try dsimp only)) | (k_end; wrow_close) | ((try dsimp only); walk1) | (leave1; walk_say "STEP leave1"; try dsimp only) | fail "no step")
    refine Halt.mk ?_
    rename Fr _ _ _ _ => F8
    rename News _ _ _ _ => N8
    refine wpAny_pyIter_tuple ⟨_, (N8 _ (.head _)).1, rfl, _, rfl⟩ ?_
    refine CompG.tuple (its := [u1].toArray) [] (fun i ys rest => rest = [] ∧ IntsD ys (([l].take i).map Ex.deep)) rfl ⟨_, (N8 _ (.head _)).1, rfl, _, rfl⟩ (by simp) (by simp) (by rw [sizeLine_eq]; simp only [List.size_toArray, List.length_cons, List.length_nil]; (first | lia | omega)) (fun _ _ => rfl) ⟨rfl, .nil⟩ ?turn ?done
    case turn =>
      rintro h₀ C D I i v ys rest oI k h m tk tk₀ hp E' kg hi hP ⟨rfl, hY⟩ F N hID off
      obtain ⟨dd, hdd, hr⟩ := readsAll_get hR rfl i v (by simpa using hP)
      rw [List.getElem?_map] at hdd
      obtain ⟨ch, hch, rfl⟩ := Option.map_eq_some_iff.mp hdd
      have kg2 := fun b o q => kg b o (F8.keep b o q)
      have hrec : dp + 1 + ch.deep < recursionLimit ∧ (∀ {w : World} {p : Program} {loose : List Str} {mean : ExcName → Option Value} {mg mb : Str → Option Value} {s : Shared} {dp un : Nat} {gd : Option (List Code)} {fr : Option (List Env)} {Q E : Value → Shared → Prop} {v1 : Value} (X : (hd.heap_39 w.params).In s.heap) (T : Top p loose mean mg mb s.heap) (hdp : dp + ch.deep < recursionLimit) (hv1 : Reads s.heap v1 (dat ch) [])
          (hret : ∀ h' tk t, Heap.StaysIn s.heap h' → Q (.int (ch.deep : Int) t) { s with heap := h', toks := tk }), wpAny (model PR w) (topA dp un gd fr) (call (.ref 252) [v1]) Q E s) := by
        rcases i with _ | i
        · cases hch; exact ⟨by (first | lia | omega), fun X T h1 h2 h3 => ih X T h1 h2 h3⟩
        · simp at hch
      obtain ⟨hd1, hrec⟩ := hrec
      have X := X.keeps kg2
      have T := T.keeps kg2
      have hr := Rd.stays hr kg2
      clear F8 N8
      k_with_none
      k_with "call ref" => (rename Fr _ _ _ _ => F9; rename News _ _ _ _ => N9; rename Frag.In _ _ => X8; rename Top _ _ _ _ _ _ => T8; refine' hrec (Frag.In.keeps X8 F9.keep) (T8.keeps F9.keep) ?hdq1 (Rd.stays hr F9.keep) ?hrq1; (case hdq1 => exact hd1); (rintro h2 tk2 t2 hS; have F2 := F9.keeps hS; have N2 := N9.grown hS; clear F9 N9; (try dsimp only); (try k_fold)))
      repeat' (first | (k_unfold; (try dsimp only)) | (k_end; wrow_close) | ((try dsimp only); walk1) | (leave1; walk_say "STEP leave1"; try dsimp only) | fail "no step")
      rename Fr _ _ _ _ => F9
      rename News _ _ _ _ => N9
      refine CEnd.intro [] F9 N9 (by simp) ⟨rfl, ?_⟩
      rw [List.take_add_one, hch, List.map_append]
      exact hY.snoc
    case done =>
      rintro D h' tk ys rest1 k ⟨-, hY⟩ hs hD hD0 hr hl
      replace hY : IntsD ys ([l].map Ex.deep) := hY
      have FD := fresh_of F8 N8 D hD0
      have F7 := F8.keeps hs
      have N7 : News s.heap L h' [(D, listOf ys.toArray k)] := fun p hp => by
        rw [List.mem_singleton.mp hp]; exact ⟨hD, FD.2.1, FD.1⟩
      clear F8 N8
      obtain ⟨t3, rfl⟩ := hY.one
      k_with_none
      repeat' (first | (k_unfold; (try dsimp only)) | (k_end; wrow_close) | ((try dsimp only); walk1) | (leave1; walk_say "STEP leave1"; try dsimp only) | fail "no step")
      rename Fr _ _ _ _ => F9
      rename_i M t9 k9 N9 ea eb
      have e0 : 1 + M = (((Ex.neg l).deep : Nat) : Int) := by simp only [Ex.deep]; (first | lia | omega)
      rw [e0]
      exact hret _ _ _ F9.keep
  | bin o l r ihl ihr =>
    intro w p loose mean mg mb s dp un gd fr Q E v1 X T hdp hv1 hret
    obtain ⟨a, t1, u1, u2, rfl, hI, r1, r2⟩ := tri_open hv1
    have hR : ReadsAll s.heap [u1, u2] ([l, r].map dat) [] := .cons (as := []) (bs := []) r1 (.cons (as := []) (bs := []) r2 .nil)
    simp only [Ex.deep] at hdp
    have hsg : ¬ (([Str.ofString "ref", Str.ofString "number"].any fun x => x == o.sg) = true) := by cases o <;> decide
    refine' enter (binds := [(Str.ofString "expr", .ref a)]) X T ?k1 ?k2 ?k3 ?k4 ?k5 ?_ ?c2 ?c3 ?c4 ?c5
    case k1 => k_is
    case k2 => k_is
    case k3 => (first | assumption | ((try simp only [topA, depth_deeper] at *); (first | lia | omega)))
    case k4 => first | exact BindsTo.of_eq rfl | exact binds_K (by k_in) rfl (by k_is) rfl rfl rfl
    case k5 => exact locs rfl
    case c2 => exact rfl
    case c3 => exact rfl
    case c4 => exact rfl
    case c5 => decide
    intro L h₁ F N hL
    refine wpAny_noRaise ?_
    try dsimp only
    try k_fold
    k_with_none
    repeat' (first | (k_unfold; (try dsimp only)) | (k_end; wrow_close) | ((try dsimp only); walk1) | (leave1; walk_say "STEP leave1"; try dsimp only) | fail "no step")
    refine Halt.mk ?_
    refine' ListComp_G (cl := []) ?a9 ?b9 ?c9 ?d9 ?_
    case a9 => exact closureFor_none (by decide)
    case b9 => decide
    case c9 => rfl
    case d9 => decide
    k_with_none
    k_with "pyIter ref" => (refine' halt ?_)
    repeat' (first | (k_unfold; (try dsimp only)) | (k_end; wrow_close) | ((try dsimp only); walk1) | (leave1; walk_say "STEP leave1"; try dsimp only) | fail "no step")
    refine Halt.mk ?_
    rename Fr _ _ _ _ => F8
    rename News _ _ _ _ => N8
    refine wpAny_pyIter_tuple ⟨_, (N8 _ (.head _)).1, rfl, _, rfl⟩ ?_
    refine CompG.tuple (its := [u1, u2].toArray) [] (fun i ys rest => rest = [] ∧ IntsD ys (([l, r].take i).map Ex.deep)) rfl ⟨_, (N8 _ (.head _)).1, rfl, _, rfl⟩ (by simp) (by simp) (by rw [sizeLine_eq]; simp only [List.size_toArray, List.length_cons, List.length_nil]; (first | lia | omega)) (fun _ _ => rfl) ⟨rfl, .nil⟩ ?turn ?done
    case turn =>
      rintro h₀ C D I i v ys rest oI k h m tk tk₀ hp E' kg hi hP ⟨rfl, hY⟩ F N hID off
      obtain ⟨dd, hdd, hr⟩ := readsAll_get hR rfl i v (by simpa using hP)
      rw [List.getElem?_map] at hdd
      obtain ⟨ch, hch, rfl⟩ := Option.map_eq_some_iff.mp hdd
      have kg2 := fun b o q => kg b o (F8.keep b o q)
      have hrec : dp + 1 + ch.deep < recursionLimit ∧ (∀ {w : World} {p : Program} {loose : List Str} {mean : ExcName → Option Value} {mg mb : Str → Option Value} {s : Shared} {dp un : Nat} {gd : Option (List Code)} {fr : Option (List Env)} {Q E : Value → Shared → Prop} {v1 : Value} (X : (hd.heap_39 w.params).In s.heap) (T : Top p loose mean mg mb s.heap) (hdp : dp + ch.deep < recursionLimit) (hv1 : Reads s.heap v1 (dat ch) [])
          (hret : ∀ h' tk t, Heap.StaysIn s.heap h' → Q (.int (ch.deep : Int) t) { s with heap := h', toks := tk }), wpAny (model PR w) (topA dp un gd fr) (call (.ref 252) [v1]) Q E s) := by
        rcases i with _ | _ | i
        · cases hch; exact ⟨by (first | lia | omega), fun X T h1 h2 h3 => ihl X T h1 h2 h3⟩
        · cases hch; exact ⟨by (first | lia | omega), fun X T h1 h2 h3 => ihr X T h1 h2 h3⟩
        · simp at hch
      obtain ⟨hd1, hrec⟩ := hrec
      have X := X.keeps kg2
      have T := T.keeps kg2
      have hr := Rd.stays hr kg2
      clear F8 N8
      k_with_none
      k_with "call ref" => (rename Fr _ _ _ _ => F9; rename News _ _ _ _ => N9; rename Frag.In _ _ => X8; rename Top _ _ _ _ _ _ => T8; refine' hrec (Frag.In.keeps X8 F9.keep) (T8.keeps F9.keep) ?hdq2 (Rd.stays hr F9.keep) ?hrq2; (case hdq2 => exact hd1); (rintro h2 tk2 t2 hS; have F2 := F9.keeps hS; have N2 := N9.grown hS; clear F9 N9; (try dsimp only); (try k_fold)))
      repeat' (first | (k_unfold; (try dsimp only)) | (k_end; wrow_close) | ((try dsimp only); walk1) | (leave1; walk_say "STEP leave1"; try dsimp only) | fail "no step")
      rename Fr _ _ _ _ => F9
      rename News _ _ _ _ => N9
      refine CEnd.intro [] F9 N9 (by simp) ⟨rfl, ?_⟩
      rw [List.take_add_one, hch, List.map_append]
      exact hY.snoc
    case done =>
      rintro D h' tk ys rest1 k ⟨-, hY⟩ hs hD hD0 hr hl
      replace hY : IntsD ys ([l, r].map Ex.deep) := hY
      have FD := fresh_of F8 N8 D hD0
      have F7 := F8.keeps hs
      have N7 : News s.heap L h' [(D, listOf ys.toArray k)] := fun p hp => by
        rw [List.mem_singleton.mp hp]; exact ⟨hD, FD.2.1, FD.1⟩
      clear F8 N8
      obtain ⟨t3, t4, rfl⟩ := hY.two
      k_with_none
      repeat' (first | (k_unfold; (try dsimp only)) | (k_end; wrow_close) | ((try dsimp only); walk1) | (leave1; walk_say "STEP leave1"; try dsimp only) | fail "no step")
      rename Fr _ _ _ _ => F9
      rename_i M t9 k9 N9 ea eb
      have e0 : 1 + M = (((Ex.bin o l r).deep : Nat) : Int) := by simp only [Ex.deep]; (first | lia | omega)
      rw [e0]
      exact hret _ _ _ F9.keep
end
end
end Mine
namespace Mine

section
variable {prog : Program} {w : World} {A : Around} {R : Result → Shared → Prop} {s : Shared}

theorem compTurn_out (elt : Expr) (target iter target2 iter2 : Expr) (scope : Scope) (pos : Pos) (it acc : Value) (env : Env) :
    compTurn (.ListComp elt [⟨target, iter, [], 0⟩, ⟨target2, iter2, [], 0⟩] scope pos) 0 it acc env = (standAt iter.pos >>= fun _ => pyNext it >>= fun r => match r with
      | none => pure (.done .next)
      | some v => letOwnedTupleGo target it v >>= fun _ => assign target env v >>= fun _ =>
        (eval iter2 env >>= fun x => standAt iter2.pos >>= fun _ => foldedSetIterable iter2 env x >>= fun x => holding [x] (pyIter x) >>= fun it2 =>
          runOwn (.compStart (.ListComp elt [⟨target, iter, [], 0⟩, ⟨target2, iter2, [], 0⟩] scope pos) 1 it2 acc env) env >>= fun _ =>
          again (.compLoop (.ListComp elt [⟨target, iter, [], 0⟩, ⟨target2, iter2, [], 0⟩] scope pos) 0 it acc env))) := by rfl
theorem compTurn_in (elt : Expr) (g0 : Comprehension) (target2 iter2 : Expr) (scope : Scope) (pos : Pos) (it acc : Value) (env : Env) :
    compTurn (.ListComp elt [g0, ⟨target2, iter2, [], 0⟩] scope pos) 1 it acc env = (standAt iter2.pos >>= fun _ => pyNext it >>= fun r => match r with
      | none => pure (.done .next)
      | some v => letOwnedTupleGo target2 it v >>= fun _ => assign target2 env v >>= fun _ =>
        (eval elt env >>= fun x => call (.builtin "list.append") [acc, x] >>= fun _ => pure ()) >>= fun _ =>
          again (.compLoop (.ListComp elt [g0, ⟨target2, iter2, [], 0⟩] scope pos) 1 it acc env)) := by rfl
theorem compStart1 {elt g0 target2 iter2 scope pos it acc env}
    (h0 : codeAny (model prog w) A (.compLoop (.ListComp elt [g0, ⟨target2, iter2, [], 0⟩] scope pos) 1 it acc env) R s)
    (h : wpAny (model prog w) A (pyIter it) (fun it' s' => codeAny (model prog w) A (.compLoop (.ListComp elt [g0, ⟨target2, iter2, [], 0⟩] scope pos) 1 it' acc env) R s')
      (notedBy (model prog w) A env fun x s' => R (.error x) s') s) :
    codeAny (model prog w) A (.compStart (.ListComp elt [g0, ⟨target2, iter2, [], 0⟩] scope pos) 1 it acc env) R s := by
  refine codeAny_of_tree ?_
  show wpAny _ _ ((compStart (.ListComp elt [g0, ⟨target2, iter2, [], 0⟩] scope pos) 1 it acc env).onRaise (fun x => do noteFrame x env; standAt theWindowsPlace)) _ _ s
  refine wpAny_notedAt ?_
  unfold compStart
  show wpAny _ _ (ask >>= _) _ _ s
  refine wpAny_bind (wpAny_askSetting (wpAny_ite ?_))
  split
  · first
      | exact wpAny_bind (wpAny_pure (wpAny_pure (And.intro rfl h0)))
      | exact wpAny_pure (And.intro rfl h0)
  · first
      | exact wpAny_bind (wpAny_rule (wpAny_bind (wpAny_standAt (wpAny_bind (wpAny_mono h (fun it' s' h' => wpAny_pure (And.intro rfl h')) fun _ _ x => x)))))
      | (refine wpAny_bind (wpAny_rule ?_); show wpAny _ _ (standAt iter2.pos >>= _) _ _ s; exact wpAny_bind (wpAny_standAt (wpAny_bind (wpAny_mono h (fun it' s' h' => wpAny_pure (And.intro rfl h')) fun _ _ x => x))))

inductive ILoop (s : Shared) (g : Heap) (C I2 I ax D : Addr) (oI : Obj) (ys vs2 : List Value) (rest : List (Addr × Obj)) (k : Nat) (s' : Shared) : Prop
  | mk (h' : Heap) (tk j : Nat) (m' : Str → Option Value) (kk : Nat) (q0 : s' = { s with heap := h', toks := tk }) (q1 : j ≤ vs2.length) (q2 : k = vs2.length + 1 - j) (q3 : h'.IsListIter I2 ax j ∧ h'.IsList ax vs2.toArray) (q4 : Fr g C h' m')
    (q5 : News g C h' ((I, oI) :: (D, listOf (ys ++ vs2.take j).toArray kk) :: rest)) : ILoop s g C I2 I ax D oI ys vs2 rest k s'
theorem inner_list {g : Heap} {C I D I2 ax : Addr} {oI : Obj} {x : Str} {p2 p3 pos : Pos} {g0 : Comprehension} {iter2 : Expr} {scope : Scope} {cenv : Env} {ys vs2 : List Value} {k : Nat} {rest : List (Addr × Obj)} {m : Str → Option Value}
    (hh : A.handled = none) (hC : cenv.locals = C) (hk : cenv.scope.kind = .function) (hx : cenv.kindOf x = some .local) (hd : (x == ("__debug__" : Str)) = false)
    (hst : s.heap.IsListIter I2 ax 0 ∧ s.heap.IsList ax vs2.toArray) (F : Fr g C s.heap m) (N : News g C s.heap ((I, oI) :: (D, listOf ys.toArray k) :: rest)) (hID : I ≠ D) (off : ∀ p ∈ rest, p.1 ≠ I ∧ p.1 ≠ D)
    (h1 : g.get? I2 = none) (h2 : I2 ≠ C) (h3 : ∀ p ∈ ((I, oI) :: (D, listOf ys.toArray k) :: rest), p.1 ≠ I2) (h4 : ax ≠ D) (h5 : ax ≠ C) (h6 : ax ≠ I2) (hsz : ys.length + vs2.length ≤ 1000)
    (hR : ∀ h' tk m' k', Fr g C h' m' → News g C h' ((I, oI) :: (D, listOf (ys ++ vs2).toArray k') :: rest) → R (.ok .next) { s with heap := h', toks := tk }) :
    codeAny (model prog w) A (.compStart (.ListComp (.Name x p3) [g0, ⟨.Name x p2, iter2, [], 0⟩] scope pos) 1 (.ref I2) (.ref D) cenv) R s := by
  subst hC
  have W := Walks.list (prog := prog) (w := w) hh I2 ax h6 vs2.toArray
  have hn : vs2.toArray.size = vs2.length := List.size_toArray ..
  have hDI2 : D ≠ I2 := h3 _ (.tail _ (.head _))
  have hD₀ : g.get? D = none := (N _ (.tail _ (.head _))).2.2
  have hDC : D ≠ cenv.locals := (N _ (.tail _ (.head _))).2.1
  have loop : codeAny (model prog w) A (.compLoop (.ListComp (.Name x p3) [g0, ⟨.Name x p2, iter2, [], 0⟩] scope pos) 1 (.ref I2) (.ref D) cenv) R s := by
    refine codeAny_loop rfl (fun k s' => ILoop s g cenv.locals I2 I ax D oI ys vs2 rest k s') (fun n s' hI => ?_) (vs2.length + 1) ⟨s.heap, s.toks, 0, m, k, rfl, Nat.zero_le _, rfl, hst, F, by simpa using N⟩
    obtain ⟨h', tk, j, m', kk, rfl, hj, rfl, hst', F', N'⟩ := hI
    show wpAny _ A ((compTurn (.ListComp (.Name x p3) [g0, ⟨.Name x p2, iter2, [], 0⟩] scope pos) 1 (.ref I2) (.ref D) cenv).onRaise (fun x => do noteFrame x cenv; theTreesLotGoes x)) _ _ _
    refine wpAny_noted ?_
    rw [compTurn_in]
    refine wpAny_bind (wpAny_standAt (wpAny_bind ?_))
    have next : ∀ h₁ : Heap, (∀ b o, b ∉ [I2] → h'.get? b = some o → h₁.get? b = some o) → Fr g cenv.locals h₁ m' ∧ News g cenv.locals h₁ ((I, oI) :: (D, listOf (ys ++ vs2.take j).toArray kk) :: rest) := fun h₁ hk₁ =>
      ⟨⟨F'.ns.at' fun o e => hk₁ _ o (by simpa using h2.symm) e, fun b o e => hk₁ b o (by simp only [List.mem_singleton]; rintro rfl; rw [h1] at e; cases e) (F'.keep b o e), F'.above⟩, fun p hp => by
        have hne : p.1 ≠ I2 := by
          exact all_cons (P := fun p => p.1 ≠ I2) (h3 _ (.head _)) (all_cons hDI2 fun p hp => h3 _ (.tail _ (.tail _ hp))) p hp
        exact ⟨hk₁ _ _ (by simpa using hne) (N' p hp).1, (N' p hp).2⟩⟩
    by_cases hlt : j < vs2.length
    · refine W.item j _ _ _ (by (first | lia | omega)) hst' fun v h₁ tk₁ hP hst₁ hk₁ => ?_
      obtain ⟨F₁, N₁⟩ := next h₁ hk₁
      have hP' : vs2[j]? = some v := by simpa using hP
      refine wpAny_bind (wpAny_of_eq rfl ?_)
      refine wpAny_bind (wpAny_assign_Name (wpAny_storeName_local hx F₁.ns (fun h₂ hn₂ hs₂ => ?_) (by rw [hk]; rfl)))
      have F₂ := F₁.set hn₂ hs₂
      have N₂ := N₁.set hs₂
      refine wpAny_bind (wpAny_bind (wpAny_Name (wpAny_loadName_local (v := v) hk hx F₂.ns (by simp) ?_) hd))
      refine wpAny_bind (append_at (hsz := ?hz) (N₂ _ (.tail _ (.head _))).1 fun h₃ hs₃ hD₃ => ?_)
      case hz =>
        rw [List.size_toArray, List.length_append, List.length_take, sizeLine_eq]
        (first | lia | omega)
      refine wpAny_pure (wpAny_pure ⟨rfl, vs2.length + 1 - (j + 1), by (first | lia | omega), h₃, _, j + 1, _, kk + 1, rfl, hlt, rfl, ?_, F₂.change hs₃ hDC hD₀, ?_⟩)
      · have st2 : h₂.IsListIter I2 ax (j + 1) ∧ h₂.IsList ax vs2.toArray := W.frame _ _ _ hst₁ fun b hb o e => by
          refine (hs₂.2 b ?_).trans e
          rintro rfl
          simp only [List.mem_cons, List.not_mem_nil, or_false] at hb
          rcases hb with q | q
          · exact h2 q.symm
          · exact h5 q.symm
        exact W.frame _ _ _ st2 fun b hb o e => by
          refine (hs₃.2 b ?_).trans e
          rintro rfl
          simp only [List.mem_cons, List.not_mem_nil, or_false] at hb
          rcases hb with q | q
          · exact hDI2 q
          · exact h4 q.symm
      · intro p hp
        rcases List.mem_cons.mp hp with rfl | hp
        · exact ⟨(hs₃.2 _ hID).trans (N₂ _ (.head _)).1, (N₂ _ (.head _)).2⟩
        rcases List.mem_cons.mp hp with rfl | hp
        · refine ⟨?_, hDC, hD₀⟩
          rw [List.push_toArray] at hD₃
          have e1 : ys ++ vs2.take (j + 1) = ys ++ vs2.take j ++ [v] := by rw [List.take_add_one, hP', List.append_assoc]; rfl
          rw [e1]
          exact hD₃
        · exact ⟨(hs₃.2 _ (off p hp).2).trans (N₂ p (.tail _ (.tail _ hp))).1, (N₂ p (.tail _ (.tail _ hp))).2⟩
    · have hj' : j = vs2.length := by (first | lia | omega)
      subst hj'
      refine W.done _ _ _ (by rw [hn]; exact hst') fun h₁ tk₁ hk₁ => wpAny_pure ?_
      obtain ⟨F₁, N₁⟩ := next h₁ hk₁
      rw [List.take_length] at N₁
      exact hR h₁ tk₁ m' kk F₁ N₁
  exact compStart1 loop (W.self 0 _ _ _ hst loop)
end

section
variable {prog : Program} {w : World} {A : Around} {E : Value → Shared → Prop} {Q : Value → Shared → Prop} {s : Shared} {env : Env}

inductive L2End (h₀ : Heap) (C I : Addr) (oI : Obj) (D : Addr) (ys : List Value) (k : Nat) (K : List Value → List (Addr × Obj) → Prop) (s₂ : Shared) (x : Value) (s₄ : Shared) : Prop
  | mk (ax : Addr) (vs2 : List Value) (n2 : Nat) (h' : Heap) (tk' : Nat) (m' : Str → Option Value) (rest' : List (Addr × Obj)) (q0 : x = .ref ax) (q1 : s₄ = { s₂ with heap := h', toks := tk' }) (q2 : h'.get? ax = some (listOf vs2.toArray n2)) (q3 : ax ≠ D) (q4 : ax ≠ C) (q5 : ax ≠ I)
    (q6 : Fr h₀ C h' m') (q7 : News h₀ C h' ((I, oI) :: (D, listOf ys.toArray k) :: rest')) (q8 : ∀ p ∈ rest', p.1 ≠ I ∧ p.1 ≠ D) (q9 : K (ys ++ vs2) rest') (q10 : ys.length + vs2.length ≤ 1000) : L2End h₀ C I oI D ys k K s₂ x s₄
inductive CompG2 (prog : Program) (w : World) (A : Around) (x2 : Str) (target iter2 : Expr) (scope : Scope) (cl : List (Str × Addr)) (env : Env) (Q : Value → Shared → Prop) (it : Value) (s₂ : Shared) : Prop
  | mk (I t0 : Addr) (its : Array Value) (J : Nat → List Value → List (Addr × Obj) → Prop) (q0 : it = .ref I) (q1 : A.handled = none) (q2 : t0 ≠ I) (q3 : I < s₂.heap.objs.size) (q4 : s₂.heap.IsTupleIter I t0 0) (q5 : s₂.heap.IsTuple t0 its) (q6 : J 0 [] [])
    (q7 : ∀ v, letOwnedTupleGo target (.ref I) v = pure ())
    (q8 : ∀ C D i v ys rest oI k h m tk E', i < its.size → its[i]? = some v → J i ys rest → Fr (hideAll s₂.heap [I]) C h m → News (hideAll s₂.heap [I]) C h ((I, oI) :: (D, listOf ys.toArray k) :: rest) → I ≠ D → (∀ p ∈ rest, p.1 ≠ I ∧ p.1 ≠ D) →
      wpAny (model prog w) A (assign target (compEnvC scope cl C env) v) (fun _ s₃ =>
        wpAny (model prog w) A (eval iter2 (compEnvC scope cl C env)) (fun x s₄ => L2End (hideAll s₂.heap [I]) C I oI D ys k (J (i + 1)) { s₂ with heap := h, toks := tk } x s₄) E' s₃) E' { s₂ with heap := h, toks := tk })
    (q9 : ∀ D h' tk ys rest k, J its.size ys rest → (hideAll s₂.heap [I]).StaysIn h' → h'.get? D = some (listOf ys.toArray k) → s₂.heap.get? D = none → (∀ p ∈ rest, h'.get? p.1 = some p.2 ∧ (hideAll s₂.heap [I]).get? p.1 = none ∧ p.1 ≠ D) → Q (.ref D) { s₂ with heap := h', toks := tk }) :
    CompG2 prog w A x2 target iter2 scope cl env Q it s₂

inductive CLoop2 (s₂ : Shared) (n : Nat) (St : Nat → Heap → Prop) (J : Nat → List Value → List (Addr × Obj) → Prop) (g : Heap) (C D I : Addr) (k : Nat) (s' : Shared) : Prop
  | mk (h' : Heap) (tk i : Nat) (ys : List Value) (m' : Str → Option Value) (rest : List (Addr × Obj)) (kk : Nat) (q0 : s' = { s₂ with heap := h', toks := tk }) (q1 : i ≤ n) (q2 : k = n + 1 - i) (q4 : St i h') (q5 : Fr g C h' m')
    (q6 : News g C h' ((D, listOf ys.toArray kk) :: rest)) (q7 : ∀ p ∈ rest, p.1 ≠ I ∧ p.1 ≠ D) (q8 : J i ys rest) : CLoop2 s₂ n St J g C D I k s'
theorem ListComp2_G {target iter iter2 : Expr} {x2 : Str} {p2 p3 : Pos} {scope : Scope} {cl : List (Str × Addr)} {pos : Pos}
    (hclos : closureFor scope env = pure cl) (hcell : ∀ y ∈ scope.names, y.2 ≠ .cell) (hkind : scope.kind = .function)
    (hnames : ∀ y ∈ scope.names, y.2 = .local → scope.names.lookup y.1 = some .local) (hx2 : scope.names.lookup x2 = some .local) (hd2 : (x2 == ("__debug__" : Str)) = false)
    (h : wpAny (model prog w) A (eval iter env) (fun xv s₁ => wpAny (model prog w) A (pyIter xv) (fun it s₂ => CompG2 prog w A x2 target iter2 scope cl env Q it s₂) E s₁) E s)
    (hs : ∀ x, foldedSetIterable iter env x = pure x := by intro _; rfl) (hs2 : ∀ e x, foldedSetIterable iter2 e x = pure x := by intro _ _; rfl) :
    wpAny (model prog w) A (eval (.ListComp (.Name x2 p3) [⟨target, iter, [], 0⟩, ⟨.Name x2 p2, iter2, [], 0⟩] scope pos) env) Q E s := by
  rw [eval_ListComp]
  refine wpAny_comprehension_free (use := none) rfl hs hclos hkind hnames (wpAny_mono h (fun xv s₁ h₁ => wpAny_mono h₁ (fun it s₂ h₂ => ?_) fun _ _ e => e) fun _ _ e => e)
  obtain ⟨I, t0, its, J, rfl, hh, hne, hIlt, hit, htu, hj, hlet, turn, done⟩ := h₂
  have W := Walks.tuple (prog := prog) (w := w) hh I t0 hne its
  refine wpAny_newObj_type (wpAny_newFunctionEnv hcell (by intro y hy; simp at hy) (fun h₁ hns₁ hsb₁ => ?_) hkind)
  dsimp only at hns₁ hsb₁ ⊢
  generalize hH2 : s₂.heap.push { cls := .type "list", dict := none, data := .seq ([] : List Value).toArray } = H2 at hns₁ hsb₁ ⊢
  have hC : H2.objs.size = s₂.heap.objs.size + 1 := by rw [← hH2, Heap.size_push]
  have hDC : s₂.heap.objs.size ≠ H2.objs.size := by rw [hC]; exact Nat.ne_of_lt (Nat.lt_succ_self _)
  have below : ∀ b, b < s₂.heap.objs.size → b ≠ H2.objs.size ∧ b ≠ s₂.heap.objs.size := fun b hb => ⟨by rw [hC]; exact Nat.ne_of_lt (Nat.lt_succ_of_lt hb), Nat.ne_of_lt hb⟩
  have old : ∀ b o, s₂.heap.get? b = some o → h₁.get? b = some o := fun b o e => hsb₁.extBut b o (below b (Heap.lt_size e)).1 (Heap.get?_push_of_some _ (hH2 ▸ Heap.get?_push_of_some _ e))
  have hacc : h₁.get? s₂.heap.objs.size = some (listOf [].toArray 0) := hsb₁.extBut _ _ hDC (Heap.get?_push_of_some _ (hH2 ▸ Heap.get?_push_size _ rfl))
  have hst₁ : h₁.IsTupleIter I t0 0 ∧ h₁.IsTuple t0 its := W.frame 0 _ _ ⟨hit, htu⟩ fun b _ o e => old b o e
  have fresh : ∀ a, s₂.heap.objs.size ≤ a → s₂.heap.get? a = none := fun a ha => by
    cases e : s₂.heap.get? a with
    | none => rfl
    | some o' => exact absurd (Heap.lt_size e) (Nat.not_lt.mpr ha)
  have st : (hideAll s₂.heap [I]).StaysIn s₂.heap := fun b o e => of_hideAll _ e
  have hD₀ : (hideAll s₂.heap [I]).get? s₂.heap.objs.size = none := none_back st (fresh _ (Nat.le_refl _))
  have hI₀ : (hideAll s₂.heap [I]).get? I = none := hideAll_none _ (List.mem_cons_self ..)
  have hCI : I ≠ H2.objs.size := (below I hIlt).1
  have hDI : I ≠ s₂.heap.objs.size := (below I hIlt).2
  have hT0 : ∃ o, (hideAll s₂.heap [I]).get? t0 = some o := by
    obtain ⟨o, e, _⟩ := htu
    exact ⟨o, hideAll_get _ e (by simpa using hne)⟩
  have hkx : (compEnvC scope cl H2.objs.size env).kindOf x2 = some .local := lookup_relabel_local hx2
  have loop : ∀ s₃ : Shared, s₃ = { s₂ with heap := h₁, toks := s₂.toks + ([] : List (Str × Value)).length } →
      codeAny (model prog w) A (.compLoop (.ListComp (.Name x2 p3) [⟨target, iter, [], 0⟩, ⟨.Name x2 p2, iter2, [], 0⟩] scope pos) 0 (.ref I) (.ref s₂.heap.objs.size) (compEnvC scope cl H2.objs.size env))
        (compPost (model prog w) A E none Q (.ref s₂.heap.objs.size) H2.objs.size) s₃ := by
    rintro s₃ rfl
    refine codeAny_loop rfl (fun k s' => CLoop2 s₂ its.size (fun i h' => h'.IsTupleIter I t0 i ∧ h'.IsTuple t0 its) J (hideAll s₂.heap [I]) H2.objs.size s₂.heap.objs.size I k s') (fun n s' hI => ?_) (its.size + 1)
      ⟨h₁, _, 0, [], _, [], 0, rfl, Nat.zero_le _, rfl, hst₁, ⟨hns₁, fun b o e => old b o (st b o e), by rw [hideAll_size, hC]; exact Nat.le_succ _⟩, fun p hp => ?_, fun p hp => (nomatch hp), hj⟩
    · obtain ⟨h', tk, i, ys, m', rest, kk, rfl, hi, rfl, hst', F', N', off', hJ⟩ := hI
      show wpAny _ A ((compTurn (.ListComp (.Name x2 p3) [⟨target, iter, [], 0⟩, ⟨.Name x2 p2, iter2, [], 0⟩] scope pos) 0 (.ref I) (.ref s₂.heap.objs.size) (compEnvC scope cl H2.objs.size env)).onRaise (fun x => do noteFrame x (compEnvC scope cl H2.objs.size env); theTreesLotGoes x)) _ _ _
      refine wpAny_noted ?_
      rw [compTurn_out]
      refine wpAny_bind (wpAny_standAt (wpAny_bind ?_))
      by_cases hlt : i < its.size
      · refine W.item i _ _ _ hlt hst' fun v h₂ tk₂ hPv hst₂ hk₂ => ?_
        have hk₂' : ∀ b o, b ≠ I → h'.get? b = some o → h₂.get? b = some o := fun b o hb e => hk₂ b o (by simpa using hb) e
        refine wpAny_bind (wpAny_of_eq (hlet v) ?_)
        obtain ⟨oI, heI, cI, dI⟩ := hst₂.1
        have F₂ : Fr (hideAll s₂.heap [I]) H2.objs.size h₂ m' := ⟨F'.ns.at' fun o e => hk₂' _ o hCI.symm e, fun b o e => hk₂' b o (by rintro rfl; rw [hI₀] at e; cases e) (F'.keep b o e), F'.above⟩
        have N₂ : News (hideAll s₂.heap [I]) H2.objs.size h₂ ((I, oI) :: (s₂.heap.objs.size, listOf ys.toArray kk) :: rest) := fun p hp => by
          rcases List.mem_cons.mp hp with rfl | hp
          · exact ⟨heI, hCI, hI₀⟩
          · have z := N' p hp
            refine ⟨hk₂' _ _ ?_ z.1, z.2⟩
            rcases List.mem_cons.mp hp with rfl | hp
            · exact hDI.symm
            · exact (off' p hp).1
        refine wpAny_bind (wpAny_mono (turn H2.objs.size s₂.heap.objs.size i v ys rest oI kk h₂ m' tk₂ _ hlt hPv hJ F₂ N₂ hDI off') (fun _ s₃ h₃ => wpAny_bind (wpAny_mono h₃ (fun x s₄ h₄ => ?_) fun _ _ e => e)) fun _ _ e => e)
        obtain ⟨ax, vs2, n2, h₅, tk₅, m₅, rest₅, rfl, rfl, hax, hax1, hax2, hax3, F₅, N₅, off₅, hJ₅, hsz₅⟩ := h₄
        refine wpAny_bind (wpAny_standAt (wpAny_bind (wpAny_of_eq (hs2 _ _) (wpAny_bind (wpAny_holding (wpAny_pyIter_list ⟨_, hax, rfl, _, rfl⟩ ?_))))))
        have hltA : ax < h₅.objs.size := Heap.lt_size hax
        refine wpAny_bind (wpAny_runOwn ?_)
        refine inner_list (g := hideAll s₂.heap [I]) (C := H2.objs.size) (I := I) (ys := ys) (rest := rest₅) (oI := oI) (k := kk) hh rfl hkind hkx hd2 ⟨⟨_, Heap.get?_push_size _ rfl, rfl, rfl⟩, ⟨_, Heap.get?_push_of_some _ hax, rfl, _, rfl⟩⟩ (F₅.push _) (fun p hp => ⟨Heap.get?_push_of_some _ (N₅ p hp).1, (N₅ p hp).2⟩) hDI off₅
          (next_is_new F₅) (Nat.ne_of_gt F₅.ns.lt) (fun p hp => Nat.ne_of_lt (Heap.lt_size (N₅ p hp).1)) hax1 hax2 (Nat.ne_of_lt hltA) hsz₅ (fun h₆ tk₆ m₆ k₆ F₆ N₆ => ?_)
        refine wpAny_pure ⟨rfl, its.size + 1 - (i + 1), by (first | lia | omega), h₆, tk₆, i + 1, ys ++ vs2, m₆, rest₅, k₆, rfl, hlt, rfl, ⟨⟨oI, (N₆ _ (.head _)).1, cI, dI⟩, ?_⟩, F₆, fun p hp => N₆ p (.tail _ hp), off₅, hJ₅⟩
        obtain ⟨o, e, c1, n1, d1⟩ := hst₂.2
        obtain ⟨o', e'⟩ := hT0
        have q1 := F₂.keep _ _ e'
        rw [q1] at e
        cases e
        exact ⟨_, F₆.keep _ _ e', c1, n1, d1⟩
      · obtain rfl : i = its.size := Nat.le_antisymm hi (Nat.not_lt.mp hlt)
        refine W.done _ _ _ hst' fun h₂ tk₂ hk₂ => wpAny_pure ?_
        have hk₂' : ∀ b o, b ≠ I → h'.get? b = some o → h₂.get? b = some o := fun b o hb e => hk₂ b o (by simpa using hb) e
        refine ⟨m', F'.ns.at' fun o e => hk₂' _ o hCI.symm e, fun h'' hs'' => ?_⟩
        refine done s₂.heap.objs.size h'' tk₂ ys rest kk hJ (fun b o e => ?_) ?_ (fresh _ (Nat.le_refl _)) (fun p hp => ⟨?_, (N' p (.tail _ hp)).2.2, (off' p hp).2⟩)
        · refine hs''.extBut b o ?_ (hk₂' b o (by rintro rfl; rw [hI₀] at e; cases e) (F'.keep b o e))
          rintro rfl
          exact absurd (Heap.lt_size (st _ _ e)) (by rw [hC]; exact Nat.not_lt.mpr (Nat.le_succ _))
        · exact hs''.extBut _ _ hDC (hk₂' _ _ hDI.symm (N' _ (.head _)).1)
        · exact hs''.extBut _ _ (N' p (.tail _ hp)).2.1 (hk₂' _ _ (off' p hp).1 (N' p (.tail _ hp)).1)
    · rw [List.mem_singleton.mp hp]
      exact ⟨hacc, hDC, hD₀⟩
  exact codeAny_compStart_list (loop _ rfl) (W.self 0 _ _ _ hst₁ (loop _ rfl))

theorem CompG2.tuple {x2 : Str} {target iter2 : Expr} {scope : Scope} {cl : List (Str × Addr)} {t0 : Addr} {its : Array Value} (J : Nat → List Value → List (Addr × Obj) → Prop) (hh : A.handled = none) (hl : s.heap.IsTuple t0 its) (hlet : ∀ it v, letOwnedTupleGo target it v = pure ()) (hj : J 0 [] [])
    (turn : ∀ h₀ C D I i v ys rest oI k h m tk tk₀ (hp : Heap) E', s.heap.StaysIn h₀ → i < its.size → its[i]? = some v → J i ys rest → Fr h₀ C h m → News h₀ C h ((I, oI) :: (D, listOf ys.toArray k) :: rest) → I ≠ D → (∀ p ∈ rest, p.1 ≠ I ∧ p.1 ≠ D) →
      wpAny (model prog w) A (assign target (compEnvC scope cl C env) v) (fun _ s₃ =>
        wpAny (model prog w) A (eval iter2 (compEnvC scope cl C env)) (fun x s₄ => L2End h₀ C I oI D ys k (J (i + 1)) { s with heap := hp, toks := tk₀ } x s₄) E' s₃) E' { s with heap := h, toks := tk })
    (done : ∀ D h' tk ys rest k, J its.size ys rest → s.heap.StaysIn h' → h'.get? D = some (listOf ys.toArray k) → s.heap.get? D = none → (∀ p ∈ rest, h'.get? p.1 = some p.2 ∧ s.heap.get? p.1 = none ∧ p.1 ≠ D) → Q (.ref D) { s with heap := h', toks := tk }) :
    CompG2 prog w A x2 target iter2 scope cl env Q (.ref s.heap.objs.size) { s with heap := s.heap.push { cls := .type "tuple_iterator", data := .fields #[.ref t0, .int 0 0] } } := by
  have hlt : t0 < s.heap.objs.size := by obtain ⟨_, e, _⟩ := hl; exact Heap.lt_size e
  have up : ∀ b o, s.heap.get? b = some o → (s.heap.push { cls := .type "tuple_iterator", data := .fields #[.ref t0, .int 0 0] }).get? b = some o := fun b o e => Heap.get?_push_of_some _ e
  have kg : s.heap.StaysIn (hideAll (s.heap.push { cls := .type "tuple_iterator", data := .fields #[.ref t0, .int 0 0] }) [s.heap.objs.size]) := fun b o e => hideAll_get _ (up _ _ e) (by simpa using Nat.ne_of_lt (Heap.lt_size e))
  refine ⟨s.heap.objs.size, t0, its, J, rfl, hh, Nat.ne_of_lt hlt, (by show _ < (Heap.push _ _).objs.size; rw [Heap.size_push]; exact Nat.lt_succ_self _), ⟨_, Heap.get?_push_size _ rfl, rfl, rfl⟩, hl.at fun o e => up _ _ e, hj, fun v => hlet _ v, ?_, ?_⟩
  · intro C D i v ys rest oI k h m tk E' hi hv hJ F N hID off
    exact turn _ C D _ i v ys rest oI k h m tk tk h E' kg hi hv hJ F N hID off
  · intro D h' tk ys rest k hJ hs hD hD0 hr
    refine done D h' tk ys rest k hJ (fun b o e => hs b o (kg b o e)) hD (none_back up hD0) (fun p hp => ⟨(hr p hp).1, none_back kg (hr p hp).2.1, (hr p hp).2.2⟩)
end
end Mine
namespace Mine

theorem fillMO : (fun (_ : OpenLaw) (_ : Params → Frag) => True) PySem.Challenge.rw_pc0124_01 hd.heap_39 := by
  w_top off
  k_fill
  trivial

section
variable {prog : Program} {w : World} {A : Around} {s : Shared} {p : Program} {loose : List Str} {mean : ExcName → Option Value} {mg mb : Str → Option Value}
theorem enterX {name qual : Str} {params : Arguments} {body : List Stmt} {scope : Scope} {cl : List (Str × Addr)} {doc pm ctv : Value} {c' f : Addr} {args : Args} {binds : List (Str × Value)} {R : Result → Shared → Prop}
    (hid : List (Addr × Obj)) (T : Top p loose mean mg mb (hideAll s.heap (hid.map (·.1)))) (hN : ∀ q ∈ hid, s.heap.get? q.1 = some q.2)
    (ho : (hideAll s.heap (hid.map (·.1))).get? f = some (fnMade name qual params body scope cl doc pm c' ctv)) (hcd : (hideAll s.heap (hid.map (·.1))).CodeRec (.ref c') qual) (hroom : A.depth < recursionLimit)
    (hbind : BindsTo s (fnX name qual params body scope cl .none .none doc pm none (.ref c') ctv) args binds) (hloc : ∀ y ∈ binds, scope.names.lookup y.1 = some .local)
    (h : ∀ L h₁, Fr (hideAll s.heap (hid.map (·.1))) L h₁ (mOf binds.reverse) → News (hideAll s.heap (hid.map (·.1))) L h₁ hid → L = s.heap.objs.size → (∀ p ∈ hid, p.1 < L) →
      wpAny (model prog w) (A.deeper (envX qual scope L f (.ref c') cl)) (execs body (envX qual scope L f (.ref c') cl))
        (fun fl s' => R (.ok (.ret (match fl with | .ret v => v | _ => .none))) s')
        (fun e s' => wpAny (model prog w) (A.deeper (envX qual scope L f (.ref c') cl)) (leaving (envX qual scope L f (.ref c') cl) e) (fun _ s'' => R (.error e) s'') (fun e' s'' => R (.error e') s'') s')
        { s with heap := h₁, toks := s.toks + binds.length })
    (hco : scope.isCoroutine = false) (hgen : scope.isGenerator = false) (hk : scope.kind = .function)
    (hcell : ∀ x ∈ scope.names, x.2 ≠ .cell) : codeAny (model prog w) A (.call (.ref f) args) R s := by
  have st : (hideAll s.heap (hid.map (·.1))).StaysIn s.heap := fun b o e => of_hideAll _ e
  refine codeAny_call_def (fd := fnX name qual params body scope cl .none .none doc pm none (.ref c') ctv) (body := body) (binds := binds) hroom (st _ _ ho) rfl (T.nolimit.keeps st) (hcd.keeps st) rfl hbind hcell hloc (fun h₁ hns hk₁ => ?_) hco hgen hk
  exact h _ h₁ ⟨hns, fun b o e => hk₁ b o (of_hideAll _ e), Nat.le_of_eq (hideAll_size _ _)⟩
    (fun q hq => ⟨hk₁ _ _ (hN q hq), Nat.ne_of_lt (Heap.lt_size (hN q hq)), hideAll_none _ (List.mem_map_of_mem hq)⟩) rfl (fun q hq => Heap.lt_size (hN q hq))
end
section
variable {M : Model} {A : Around} {E : Value → Shared → Prop} {s : Shared} {h₀ : Heap} {L a c P : Addr} {m mg mb : Str → Option Value} {cn : Str} {cs : Scope} {ccd : Value} {cl : List (Str × Addr)} {news : List (Addr × Obj)}
  {p : Program} {loose : List Str} {mean : ExcName → Option Value} {name qual : Str} {params : Arguments} {body : List Stmt} {scope : Scope} {ps : Array Value} {pos : Pos} {firstLine : Nat} {clos : List (Str × Addr)}
theorem nameX_G {x : Str} {pos : Pos} {v : Value} {Q : Value → Shared → Prop} {c : Addr} (F : Fr h₀ L s.heap m) (hc : cl.lookup x = some c) (ho : h₀.IsCell c (some v)) (h : Q v s)
    (hk : cs.kind = .function) (hx : (envX cn cs L a ccd cl).kindOf x = some .free) (hb : (x == ("__debug__" : Str)) = false := by decide) (hn : (x == ("__classdict__" : Str)) = false := by decide) :
    wpAny M A (eval (.Name x pos) (envX cn cs L a ccd cl)) Q E s := by
  obtain ⟨o, e, hd⟩ := ho
  exact wpAny_Name (wpAny_loadName_free hk hx hc ⟨o, F.keep _ _ e, hd⟩ h hn) hb

theorem updF_last {d : Addr} {o : Obj} : ∀ {B : List (Addr × Obj)}, (∀ p ∈ B, p.1 ≠ d) → UpdF d o (B ++ [(d, o)]) (fun o' => B ++ [(d, o')])
  | [], _ => UpdF.head (fun _ h => nomatch h)
  | q :: B, h => UpdF.tail (h q (.head _)) (updF_last fun p hp => h p (.tail _ hp))

theorem make_def {Q : Value → Shared → Prop} {B : List (Addr × Obj)} (F : Fr h₀ L s.heap m) (N : News h₀ L s.heap (B ++ [(P, tabObj ps)])) (hB : ∀ p ∈ B, p.1 ≠ P) (T : Top p loose mean mg mb h₀) (C : CodeHd h₀ c P) (hcd : ccd = .ref c) (ht : TriplesOk ps.toList)
    (hcase : codeAmong pos ps.toList = none ∨ ∃ c', codeAmong pos ps.toList = some (.ref c') ∧ h₀.CodeRec (.ref c') qual)
    (hcl : closureFor scope (envX cn cs L a ccd cl) = pure clos)
    (h : ∀ f fO c' ctv doc h' tk X ps', fO = fnMade name qual params body scope clos doc ((mg "__name__").getD .none) c' ctv → Fr h₀ L h' m → News h₀ L h' ((f, fO) :: (X ++ (B ++ [(P, tabObj ps')]))) → (∀ p ∈ B, p.1 < f) → P < f → TriplesOk ps'.toList → codeAmong pos ps'.toList = some (.ref c') → (∀ H, h₀.StaysIn H → (∀ p ∈ X, H.get? p.1 = some p.2) → H.CodeRec (.ref c') qual) →
      (∀ p ∈ X, p.1 < f ∧ p.1 ≠ P ∧ ∀ q ∈ B, q.1 ≠ p.1) → ((X = [] ∧ ps' = ps) ∨ ∃ oc, X = [(c', oc)]) → Q (.ref f) { s with heap := h', toks := tk }) :
    wpAny M A (makeFunction name qual params (.stmts body) scope (envX cn cs L a ccd cl) [] [] [] pos firstLine) Q E s := by
  rcases hcase with hn | ⟨c', hs, hrec⟩
  · refine nest_K F N T C hcd (updF_last hB) ht hn hcl (fun f c' oc vs t ctv doc h' tk F' N' d1 d2 l1 l2 => ?_)
    have hmem : ∀ p ∈ B, p.1 < c' := fun p hp => l1 p (List.mem_append_left _ hp)
    have hP : P < c' := l1 (P, tabObj ps) (List.mem_append_right _ (.head _))
    refine h f _ c' ctv doc h' tk [(c', oc)] _ rfl F' N' (fun p hp => Nat.lt_trans (hmem p hp) l2) (Nat.lt_trans hP l2) ?_ ?_ (fun H _ hH => ⟨c', oc, vs, t, rfl, hH (c', oc) (.head _), d1, d2⟩) (fun p hp => ?_) (.inr ⟨oc, rfl⟩)
    · have := TriplesOk_snoc pos.line pos.col (.ref c') ps.toList ht
      simpa using this
    · have := codeAmong_snoc (c := .ref c') ps.toList ht hn
      simpa using this
    · rw [List.mem_singleton.mp hp]
      exact ⟨l2, Nat.ne_of_gt hP, fun q hq => Nat.ne_of_lt (hmem q hq)⟩
  · refine nestHit_K F N T C hcd (List.mem_append_right _ (.head _)) ht hs hcl (fun f ctv doc h' tk F' N' l1 => ?_)
    exact h f _ c' ctv doc h' tk [] ps rfl F' N' (fun p hp => l1 p (List.mem_append_left _ hp)) (l1 (P, tabObj ps) (List.mem_append_right _ (.head _))) ht hs (fun H k _ => hrec.keeps k) (fun p hp => nomatch hp) (.inl ⟨rfl, rfl⟩)
end

theorem flying_w {base h : Heap} {l : List Env} {e : Addr} {cls : Value} (x : Heap.Flying base l e cls h) : ∃ a0, Heap.FlyingW base l e cls a0 h := by
  obtain ⟨f1, f2, f3, oe, vs, T, oT, ts, he, hcls, hd, h1, r⟩ := x
  have hs : 1 < vs.size := (Array.getElem?_eq_some_iff.mp h1).1
  have h0 : vs[0]? = some vs[0] := Array.getElem?_eq_getElem (by (first | lia | omega))
  exact ⟨_, f1, f2, f3, oe, vs, T, oT, ts, he, ⟨hcls, h0⟩, hd, h1, r⟩

section
variable {w : World} {A : Around} {E : Value → Shared → Prop} {s' : Shared} {base G g : Heap} {outer : List Env} {L e : Addr} {m : Str → Option Value} {n : Str} {b₀ : Stmt} {suite : List Stmt} {pos np : Pos} {rest : List ExceptHandler} {Q : Flow → Shared → Prop}
  {p : Program} {loose : List Str} {mean : ExcName → Option Value} {mg mb : Str → Option Value} {cn : Str} {cs : Scope} {ccd : Value} {a : Addr} {cl : List (Str × Addr)}
theorem caught_fault (X : (Mine.hd.heap_39 w.params).In G) (T : Top p loose mean mg mb G) (hfr : A.frames = some (envX cn cs L a ccd cl :: outer)) (hGb : G.StaysIn base) (F : Fr G L g m) (hF : Flt base (envX cn cs L a ccd cl :: outer) e g s'.heap)
    (k : ∀ h' tk, Fr G L h' (fun y => if y = n then some (.ref e) else m y) → base.StaysIn h' → (∀ b o, b ≠ L → g.get? b = some o → (∀ vs, o.data ≠ .fields vs) → ∃ sl, h'.get? b = some { o with slots := sl }) → (∀ b o, b ≠ L → s'.heap.get? b = some o → (∀ vs, o.data ≠ .fields vs) → ∃ sl, h'.get? b = some { o with slots := sl }) →
      wpAny (model PR w) (A.mark (some (.ref e))) (execs (b₀ :: suite) (envX cn cs L a ccd cl))
        (fun f s₄ => wpAny (model PR w) A (do bindName (envX cn cs L a ccd cl) n .none; unbindBehindTheSuite (envX cn cs L a ccd cl) n pos) (fun _ s₅ => Q f s₅) E s₄)
        (AsSuiteRaised (model PR w) (A.mark (some (.ref e))) (envX cn cs L a ccd cl) n pos (notedBy (model PR w) (A.mark (some (.ref e))) (envX cn cs L a ccd cl) (cameBackBy (model PR w) A (envX cn cs L a ccd cl) E)))
        { s' with heap := h', toks := tk })
    (hk : cs.kind = .function) (hlo : (envX cn cs L a ccd cl).kindOf n = some .local) (hx : (envX cn cs L a ccd cl).kindOf (Str.ofString "SizeFault") = some .globalImplicit) :
    wpAny (model PR w) A (noteFrame (.ref e) (envX cn cs L a ccd cl))
      (fun _ s₂ => wpAny (model PR w) A (setFlight (.ref e) none) (fun _ s₃ =>
        wpAny (model PR w) A (handleBy (.ref e) (envX cn cs L a ccd cl) (.ExceptHandler (some (.Name (Str.ofString "SizeFault") np)) (some n) (b₀ :: suite) pos :: rest)) Q E s₃) E s₂) E s' := by
  obtain ⟨hfl0, hsm⟩ := hF
  obtain ⟨a0, hfl⟩ := flying_w hfl0
  refine wpAny_looks_onW hfr rfl hfl fun h₄ hheld₄ hsm₄ => ?_
  refine wpAny_landsW hheld₄ fun h₅ hheld hsm₅' => ?_
  have hsm₅ := (hsm.trans hsm₄).trans hsm₅'
  have F₅ : Fr G L h₅ m := F.of_stays (fun b o q => hheld.1 b o (hGb b o q)) hsm₅
  obtain ⟨ob, hob, hobc⟩ := hheld.there
  refine wpAny_handleBy_cons (codeAny_handlers_test (nameX_K F₅ X (topRead_of T) (by k_is) ?_ hk hx)) (by intro q; cases q)
  obtain ⟨nm, q, N', bs, sn, sub, ab, col, dd, k0, k1, k2, k3, k5, hC⟩ := fault_cls w
  refine wpAny_excMatches_sub_self (F₅.keep _ _ (X _ _ hC)) hob hobc (by decide) (codeAny_handlers_suite_as ?_)
  refine lands_againW hheld fun h₆ hfl₆ hsm₆ => ?_
  have hsm6 := hsm₅.trans hsm₆
  have F₆ : Fr G L h₆ m := F.of_stays (fun b o q => hfl₆.1 b o (hGb b o q)) hsm6
  have hbL : base.get? L = none := by
    obtain ⟨_, ⟨L', _, hf, hn', _⟩, _⟩ := hfl₆.2.2.1
    obtain rfl : L = L' := Option.some.inj hf
    exact hn'
  refine wpAny_storeName_local hlo F₆.ns (fun h₇ hn₇ hs₇ => ?_) (by show (cs.kind == .class || (cs.kind == .module && L != mainGlobals)) = false; rw [hk]; rfl)
  refine k h₇ _ (F₆.set hn₇ hs₇) (fun b o q => (hs₇.2 b (fun z => by rw [z, hbL] at q; cases q)).trans (hfl₆.1 b o q)) (fun b o hb q hd => ?_) (fun b o hb q hd => ?_)
  · obtain ⟨sl, e⟩ := hsm6 b o q hd
    exact ⟨sl, (hs₇.2 b hb).trans e⟩
  · obtain ⟨sl, e⟩ := ((hsm₄.trans hsm₅').trans hsm₆) b o q hd
    exact ⟨sl, (hs₇.2 b hb).trans e⟩
end
theorem asked_ord {g h : Heap} {L : Addr} {q a b c d t : Addr × Obj} {X : List (Addr × Obj)} (N : News g L h (q :: (X ++ ([a, b, c, d] ++ [t])))) : News g L h (q :: a :: b :: c :: t :: d :: X) := News.sub N (by
  intro p hp
  simp only [List.mem_cons, List.mem_append, List.not_mem_nil, or_false] at hp ⊢
  rcases hp with h | h | h | h | h | h | h
  · exact .inl h
  · exact .inr (.inr (.inl (.inl h)))
  · exact .inr (.inr (.inl (.inr (.inl h))))
  · exact .inr (.inr (.inl (.inr (.inr (.inl h)))))
  · exact .inr (.inr (.inr h))
  · exact .inr (.inr (.inl (.inr (.inr (.inr h)))))
  · exact .inr (.inl h))
theorem asked_turn {g h h' : Heap} {L aA : Addr} {oA oA' : Obj} {q b c t d : Addr × Obj} {X : List (Addr × Obj)} (N : News g L h (q :: (aA, oA) :: b :: c :: t :: d :: X)) (k : ∀ a o, a ≠ aA → h.get? a = some o → h'.get? a = some o) (hA : h'.get? aA = some oA')
    (n1 : @Ne Nat q.1 aA) (n2 : @Ne Nat b.1 aA) (n3 : @Ne Nat c.1 aA) (n4 : @Ne Nat t.1 aA) (n5 : @Ne Nat d.1 aA) (nX : ∀ p ∈ X, p.1 ≠ aA) : News g L h' (q :: (aA, oA') :: b :: c :: t :: d :: X) := by
  intro p hp
  simp only [List.mem_cons] at hp
  rcases hp with rfl | rfl | rfl | rfl | rfl | rfl | hp
  · have := N p (.head _); exact ⟨k _ _ n1 this.1, this.2⟩
  · exact ⟨hA, (N (aA, oA) (.tail _ (.head _))).2⟩
  · have := N p (.tail _ (.tail _ (.head _))); exact ⟨k _ _ n2 this.1, this.2⟩
  · have := N p (.tail _ (.tail _ (.tail _ (.head _)))); exact ⟨k _ _ n3 this.1, this.2⟩
  · have := N p (.tail _ (.tail _ (.tail _ (.tail _ (.head _))))); exact ⟨k _ _ n4 this.1, this.2⟩
  · have := N p (.tail _ (.tail _ (.tail _ (.tail _ (.tail _ (.head _)))))); exact ⟨k _ _ n5 this.1, this.2⟩
  · have := N p (.tail _ (.tail _ (.tail _ (.tail _ (.tail _ (.tail _ hp)))))); exact ⟨k _ _ (nX p hp) this.1, this.2⟩
theorem asked_app {g h : Heap} {L : Addr} {q a b c t d : Addr × Obj} {X r : List (Addr × Obj)} (N : News g L h (q :: a :: b :: c :: t :: d :: X)) (Nr : News g L h r) : News g L h (q :: a :: b :: c :: t :: d :: (X ++ r)) := by
  intro p hp
  simp only [List.mem_cons, List.mem_append] at hp
  rcases hp with h | h | h | h | h | h | h | h
  · exact N p (by simp [h])
  · exact N p (by simp [h])
  · exact N p (by simp [h])
  · exact N p (by simp [h])
  · exact N p (by simp [h])
  · exact N p (by simp [h])
  · exact N p (by simp [h])
  · exact Nr p h
noncomputable def isSeq (p : Addr × Obj) : Bool := match p.2.data with
  | .seq _ _ => true
  | _ => false
mutual
theorem DI.seq {h₀ : Heap} {rest : List (Addr × Obj)} : ∀ {v : Value} {d : PyData}, DI h₀ rest v d → DI h₀ (rest.filter isSeq) v d
  | _, _, .none => .none
  | _, _, .bool b => .bool b
  | _, _, .int i t => .int i t
  | _, _, .str x t => .str x t
  | _, _, .tuple h c d r => .tuple (h.imp id fun m => List.mem_filter.mpr ⟨m, by simp only [isSeq, d]⟩) c d (DIs.seq r)
theorem DIs.seq {h₀ : Heap} {rest : List (Addr × Obj)} : ∀ {vs : List Value} {ds : List PyData}, DIs h₀ rest vs ds → DIs h₀ (rest.filter isSeq) vs ds
  | _, _, .nil => .nil
  | _, _, .cons h r => .cons (DI.seq h) (DIs.seq r)
end
theorem not_seq {a : Addr} {o : Obj} {rest : List (Addr × Obj)} {es : Array DictEntry} {ep : Nat} (h : (a, o) ∈ rest.filter isSeq) (hd : o.data = .dict es ep) : False := by
  have := (List.mem_filter.mp h).2
  simp only [isSeq, hd] at this
  cases this
theorem asked_after {g h h' : Heap} {L aA L0 : Addr} {oA oA' o0 o0' : Obj} {q b c t : Addr × Obj} {X : List (Addr × Obj)} (N : News g L h (q :: (aA, oA) :: b :: c :: t :: (L0, o0) :: X)) (k : ∀ a o, a ∉ [aA, L, L0] → h.get? a = some o → h'.get? a = some o) (hA : h'.get? aA = some oA') (h0 : h'.get? L0 = some o0')
    (n1 : @Ne Nat q.1 aA ∧ @Ne Nat q.1 L0) (n2 : @Ne Nat b.1 aA ∧ @Ne Nat b.1 L0) (n3 : @Ne Nat c.1 aA ∧ @Ne Nat c.1 L0) (n4 : @Ne Nat t.1 aA ∧ @Ne Nat t.1 L0) (nX : ∀ p ∈ X, p.1 ≠ aA ∧ p.1 ≠ L0) : News g L h' (q :: (aA, oA') :: b :: c :: t :: (L0, o0') :: X) := by
  have go : ∀ p, p ∈ (q :: (aA, oA) :: b :: c :: t :: (L0, o0) :: X) → p.1 ≠ aA ∧ p.1 ≠ L0 → h'.get? p.1 = some p.2 ∧ p.1 ≠ L ∧ g.get? p.1 = none := fun p hp hn => by
    have := N p hp
    refine ⟨k _ _ ?_ this.1, this.2⟩
    simp only [List.mem_cons, List.not_mem_nil, or_false]
    rintro (e | e | e)
    · exact hn.1 e
    · exact this.2.1 e
    · exact hn.2 e
  intro p hp
  simp only [List.mem_cons] at hp
  rcases hp with rfl | rfl | rfl | rfl | rfl | rfl | hp
  · exact go p (.head _) n1
  · exact ⟨hA, (N (aA, oA) (.tail _ (.head _))).2⟩
  · exact go p (.tail _ (.tail _ (.head _))) n2
  · exact go p (.tail _ (.tail _ (.tail _ (.head _)))) n3
  · exact go p (.tail _ (.tail _ (.tail _ (.tail _ (.head _))))) n4
  · exact ⟨h0, (N (L0, o0) (.tail _ (.tail _ (.tail _ (.tail _ (.tail _ (.head _))))))).2⟩
  · exact go p (.tail _ (.tail _ (.tail _ (.tail _ (.tail _ (.tail _ hp)))))) (nX p hp)
end Mine
namespace Mine
local macro_rules | `(tactic| walk_at "binaryOp FloorDiv int int") => `(tactic| (k_dflt (refine fdivR (by first | with_reducible assumption | decide) (by first | with_reducible assumption | exact bd_10) ?_)))
local macro_rules | `(tactic| walk_at "binaryOp Mult int int") => `(tactic| (k_dflt (refine mulR (by with_reducible assumption) ?_)))
local macro_rules | `(tactic| walk_at "subscriptTail") => `(tactic| ((with_reducible show wpAny _ _ (subscriptTail _ _ (Value.ref _) (Value.int _ _)) _ _ _); (rename Fr _ _ _ _ => F9); k_dflt (refine item_h F9 (by with_reducible assumption) (by rfl) (by rfl) ?_)))
local macro_rules | `(tactic| walk_at "binaryOp Pow int int") => `(tactic| (k_dflt (refine pow10R (by first | with_reducible assumption | decide | omega) (by first | with_reducible assumption | decide | omega) ?_)))
local macro_rules | `(tactic| walk_at "ite") => `(tactic| ((try dsimp only); first
  | (k_closed; k_dflt (first | refine ite_pos (by decide) ?_ | refine ite_neg (by decide) ?_))
  | with_reducible refine ite_tt ?_
  | with_reducible refine ite_ff ?_
  | refine ite_pos (by with_reducible assumption) ?_
  | refine ite_neg (by with_reducible assumption) ?_
  | refine ite_isFalse (by with_reducible assumption) ?_
  | refine ite_pos (by first | omega | ((simp only [decide_eq_true_eq, beq_iff_eq, bne_iff_ne, ne_eq]); omega)) ?_
  | refine ite_neg (by first | omega | ((simp only [decide_eq_true_eq, beq_iff_eq, bne_iff_ne, ne_eq]); omega)) ?_))
local macro_rules | `(tactic| walk_at "callWith") => `(tactic| first | with_reducible refine callWith_method0 ?_ | with_reducible refine callWith_method1 ?_)
section
theorem fillMV : (fun (_ : OpenLaw) (_ : Params → Frag) => True) PySem.Challenge.rw_pc0124_01 hd.heap_39 := by
  w_top off
  k_fill
  trivial




section
local macro_rules | `(tactic| walk_at "eval Name") => `(tactic| ((with_reducible show wpAny _ _ (eval _ (compEnvC _ _ _ _)) _ _ _); (rename Fr _ _ _ _ => F9); k_dflt (first
  | refine nmC_L F9 (by rfl) ?_ (by exact rfl) (by with_unfolding_all rfl)
  | ((rename Frag.In _ _ => X9); (rename Top _ _ _ _ _ _ => T9); refine nmC_K F9 X9 T9 (by k_is) ?_ (by exact rfl) (by with_unfolding_all rfl) (by exact rfl)))))
local macro_rules | `(tactic| walk_at "storeName") => `(tactic| ((with_reducible show wpAny _ _ (storeName (compEnvC _ _ _ _) _ _) _ _ _); (rename Fr _ _ _ _ => F9); (rename News _ _ _ _ => N9); k_dflt (refine stC_L F9 N9 ?_ (by exact rfl) (by with_unfolding_all rfl)); intro h' F' N'))
local macro_rules | `(tactic| walk_at "eval ListComp") => `(tactic| (k_dflt (refine ListComp_G (cl := []) (closureFor_none (by decide)) (by decide) (by rfl) (by decide) ?_)))

local macro_rules | `(tactic| walk_at "eval ListComp") => `(tactic| refine' halt ?_)
local macro_rules | `(tactic| walk_at "subscriptTail Name Slice ref ref") => `(tactic| ((rename Fr _ _ _ _ => F9); (rename News _ _ _ _ => N9); (rename IsTup _ _ _ => T9); k_dflt (refine slice_tuple_from (a := 1) (s := ⟨_, _, _, _, _⟩) F9 N9 (Tup.keeps F9.keep T9) (Nat.le_refl _) (Nat.le_of_ble_eq_true rfl) ?_ (hsz := Nat.le_of_ble_eq_true rfl)); (intro h9 F' N'); (try dsimp only [List.drop, List.toArray, List.toArrayAux] at N')))
theorem readsAll_app {h : Heap} : ∀ {a b : List Value} {c d : List PyData} {as : List Addr}, ReadsAll h a c as → as = [] → ReadsAll h b d [] → ReadsAll h (a ++ b) (c ++ d) []
  | _, _, _, _, _, .nil, _, y => y
  | _, _, _, _, _, .cons x r, e, y => by
    obtain ⟨e1, e2⟩ := List.append_eq_nil_iff.mp e
    subst e1
    exact .cons (as := []) (bs := []) x (readsAll_app r e2 y)
theorem Ex.leaves_len : ∀ e : Ex, e.leaves.length ≤ e.size
  | .ref _ => Nat.le_refl _
  | .num _ => Nat.le_refl _
  | .neg e => Nat.le_succ_of_le e.leaves_len
  | .bin _ l r => by
    have := l.leaves_len
    have := r.leaves_len
    simp only [Ex.leaves, Ex.size, List.length_append]
    (first | lia | omega)
theorem lawleaves_spec : ∀ (e : Ex) {w : World} {p : Program} {loose : List Str} {mean : ExcName → Option Value} {mg mb : Str → Option Value} {s : Shared} {dp un : Nat} {gd : Option (List Code)} {fr : Option (List Env)} {Q E : Value → Shared → Prop} {v1 : Value} {g : Heap} (X : (hd.heap_39 w.params).In s.heap) (T : Top p loose mean mg mb s.heap) (hg : g.StaysIn s.heap) (hdp : dp + e.deep < recursionLimit) (hn : e.size ≤ 200) (hv1 : Reads g v1 (dat e) [])
    (hret : ∀ h' tk a vs n, Heap.StaysIn s.heap h' → s.heap.get? a = none → h'.get? a = some (listOf vs.toArray n) → ReadsAll g vs (e.leaves.map dat) [] → Q (.ref a) { s with heap := h', toks := tk }),
    wpAny (model PR w) (topA dp un gd fr) (call (.ref 247) [v1]) Q E s := by
  intro e
  induction e with
  | ref i =>
    intro w p loose mean mg mb s dp un gd fr Q E v1 g X T hg hdp hn hv1 hret
    obtain ⟨a, t1, t2, v3, v4, rfl, hI⟩ := ref_open hv1
    have hI := Tup.keeps hg hI
    refine' enter (binds := [(Str.ofString "expr", .ref a)]) X T ?k1 ?k2 ?k3 ?k4 ?k5 ?_ ?c2 ?c3 ?c4 ?c5
    case k1 => k_is
    case k2 => k_is
    case k3 => (first | assumption | ((try simp only [topA, depth_deeper] at *); (first | lia | omega)))
    case k4 => first | exact BindsTo.of_eq rfl | exact binds_K (by k_in) rfl (by k_is) rfl rfl rfl
    case k5 => exact locs rfl
    case c2 => exact rfl
    case c3 => exact rfl
    case c4 => exact rfl
    case c5 => decide
    intro L h₁ F N hL
    refine wpAny_noRaise ?_
    try dsimp only
    try k_fold
    k_with_none
    repeat' (first | (k_unfold; (try dsimp only)) | (k_end; wrow_close) | ((try dsimp only); walk1) | (leave1; walk_say "STEP leave1"; try dsimp only) | fail "no step")
    rename Fr _ _ _ _ => F9
    rename News _ _ _ _ => N9
    exact hret _ _ _ [.ref a] _ F9.keep (N9 _ (.head _)).2.2 (N9 _ (.head _)).1 (.cons (as := []) (bs := []) hv1 .nil)
  | num n =>
    intro w p loose mean mg mb s dp un gd fr Q E v1 g X T hg hdp hn hv1 hret
    obtain ⟨a, t1, v2, rfl, hI, r1⟩ := pair_open hv1
    have hI := Tup.keeps hg hI
    refine' enter (binds := [(Str.ofString "expr", .ref a)]) X T ?k1 ?k2 ?k3 ?k4 ?k5 ?_ ?c2 ?c3 ?c4 ?c5
    case k1 => k_is
    case k2 => k_is
    case k3 => (first | assumption | ((try simp only [topA, depth_deeper] at *); (first | lia | omega)))
    case k4 => first | exact BindsTo.of_eq rfl | exact binds_K (by k_in) rfl (by k_is) rfl rfl rfl
    case k5 => exact locs rfl
    case c2 => exact rfl
    case c3 => exact rfl
    case c4 => exact rfl
    case c5 => decide
    intro L h₁ F N hL
    refine wpAny_noRaise ?_
    try dsimp only
    try k_fold
    k_with_none
    repeat' (first | (k_unfold; (try dsimp only)) | (k_end; wrow_close) | ((try dsimp only); walk1) | (leave1; walk_say "STEP leave1"; try dsimp only) | fail "no step")
    rename Fr _ _ _ _ => F9
    rename News _ _ _ _ => N9
    exact hret _ _ _ [.ref a] _ F9.keep (N9 _ (.head _)).2.2 (N9 _ (.head _)).1 (.cons (as := []) (bs := []) hv1 .nil)
  | neg l ih =>
    intro w p loose mean mg mb s dp un gd fr Q E v1 g X T hg hdp hn hv1 hret
    obtain ⟨a, t1, u1, rfl, hI, r1⟩ := pair_open hv1
    have hI := Tup.keeps hg hI
    have hR : ReadsAll g [u1] ([l].map dat) [] := .cons (as := []) (bs := []) r1 .nil
    simp only [Ex.deep] at hdp
    simp only [Ex.size] at hn
    skip
    refine' enter (binds := [(Str.ofString "expr", .ref a)]) X T ?k1 ?k2 ?k3 ?k4 ?k5 ?_ ?c2 ?c3 ?c4 ?c5
    case k1 => k_is
    case k2 => k_is
    case k3 => (first | assumption | ((try simp only [topA, depth_deeper] at *); (first | lia | omega)))
    case k4 => first | exact BindsTo.of_eq rfl | exact binds_K (by k_in) rfl (by k_is) rfl rfl rfl
    case k5 => exact locs rfl
    case c2 => exact rfl
    case c3 => exact rfl
    case c4 => exact rfl
    case c5 => decide
    intro L h₁ F N hL
    refine wpAny_noRaise ?_
    try dsimp only
    try k_fold
    k_with_none
    repeat' (first | (k_unfold; (try dsimp only)) | (k_end; wrow_close) | ((try dsimp only); walk1) | (leave1; walk_say "STEP leave1"; try dsimp only) | fail "no step")
    refine Halt.mk ?_
    refine' ListComp2_G (cl := []) ?a9 ?b9 ?c9 ?d9 ?e9 ?f9 ?_
    case a9 => exact closureFor_none (by decide)
    case b9 => decide
    case c9 => rfl
    case d9 => decide
    case e9 => rfl
    case f9 => decide
    k_with_none
    k_with "pyIter ref" => (refine' halt ?_)
    repeat' (first | (k_unfold; (try dsimp only)) | (k_end; wrow_close) | ((try dsimp only); walk1) | (leave1; walk_say "STEP leave1"; try dsimp only) | fail "no step")
    refine Halt.mk ?_
    rename Fr _ _ _ _ => F8
    rename News _ _ _ _ => N8
    have htup := (N8 _ (.head _)).1
    refine wpAny_pyIter_tuple ⟨_, htup, rfl, _, rfl⟩ ?_
    refine CompG2.tuple (its := [u1].toArray) (fun i ys rest => rest = [] ∧ ReadsAll g ys ((([l].take i).flatMap Ex.leaves).map dat) []) rfl ⟨_, htup, rfl, _, rfl⟩ (fun _ _ => rfl) ⟨rfl, .nil⟩ ?turn ?done
    case turn =>
      rintro h₀ C D I i v ys rest oI k h m tk tk₀ hp E' kg hi hP ⟨rfl, hY⟩ F N hID off
      obtain ⟨dd, hdd, hr⟩ := readsAll_get hR rfl i v (by simpa using hP)
      rw [List.getElem?_map] at hdd
      obtain ⟨ch, hch, rfl⟩ := Option.map_eq_some_iff.mp hdd
      have kg2 := fun b o q => kg b o (F8.keep b o q)
      have hrec : dp + 1 + ch.deep < recursionLimit ∧ ch.size ≤ 200 ∧ (([l].take i).flatMap Ex.leaves).length + ch.leaves.length ≤ 200 ∧ (∀ {w : World} {p : Program} {loose : List Str} {mean : ExcName → Option Value} {mg mb : Str → Option Value} {s : Shared} {dp un : Nat} {gd : Option (List Code)} {fr : Option (List Env)} {Q E : Value → Shared → Prop} {v1 : Value} {g : Heap} (X : (hd.heap_39 w.params).In s.heap) (T : Top p loose mean mg mb s.heap) (hg : g.StaysIn s.heap) (hdp : dp + ch.deep < recursionLimit) (hn : ch.size ≤ 200) (hv1 : Reads g v1 (dat ch) [])
          (hret : ∀ h' tk a vs n, Heap.StaysIn s.heap h' → s.heap.get? a = none → h'.get? a = some (listOf vs.toArray n) → ReadsAll g vs (ch.leaves.map dat) [] → Q (.ref a) { s with heap := h', toks := tk }), wpAny (model PR w) (topA dp un gd fr) (call (.ref 247) [v1]) Q E s) := by
        have hl := l.leaves_len
        rcases i with _ | i
        · cases hch; exact ⟨by (first | lia | omega), by (first | lia | omega), by simp; (first | lia | omega), fun X T h0 h1 h2 h3 h4 => ih X T h0 h1 h2 h3 h4⟩
        · simp at hch
      obtain ⟨hd1, hn1, hl1, hrec⟩ := hrec
      have X := X.keeps kg2
      have T := T.keeps kg2
      have hg2 : g.StaysIn h₀ := fun b o q => kg2 b o (hg b o q)
      clear F8 N8
      k_with_none
      k_with "call ref" => (rename Fr _ _ _ _ => F9; rename News _ _ _ _ => N9; rename Frag.In _ _ => X8; rename Top _ _ _ _ _ _ => T8; refine' hrec (Frag.In.keeps X8 F9.keep) (T8.keeps F9.keep) (fun b o q => F9.keep b o (hg2 b o q)) ?hdq1 hn1 hr ?hrq1; (case hdq1 => exact hd1); (rintro h2 tk2 a2 vs2 n2 hS ha0 hal hRa; have FD := fresh_of F9 N9 a2 ha0; have F2 := F9.keeps hS; have N2 := N9.grown hS; clear F9 N9; (try dsimp only); (try k_fold)))
      repeat' (first | (k_unfold; (try dsimp only)) | (k_end; wrow_close) | ((try dsimp only); walk1) | (leave1; walk_say "STEP leave1"; try dsimp only) | fail "no step")
      rename Fr _ _ _ _ => F9
      rename News _ _ _ _ => N9
      have e1 : ([l].take (i + 1)).flatMap Ex.leaves = ([l].take i).flatMap Ex.leaves ++ ch.leaves := by rw [List.take_add_one, hch, List.flatMap_append]; simp
      refine ⟨_, _, _, _, _, _, [], rfl, rfl, hal, (FD.2.2 _ (.tail _ (.head _))).symm, FD.2.1, (FD.2.2 _ (.head _)).symm, F9, N9, by simp, ⟨rfl, ?_⟩, ?_⟩
      · rw [e1, List.map_append]
        exact readsAll_app hY rfl hRa
      · have h1 := readsAll_len hY
        have h2 := readsAll_len hRa
        rw [List.length_map] at h1 h2
        (first | lia | omega)
    case done =>
      rintro D h' tk ys rest1 k ⟨-, hY⟩ hs hD hD0 hr
      have e1 : ([l].take [u1].toArray.size).flatMap Ex.leaves = (Ex.neg l).leaves := by simp [Ex.leaves]
      rw [e1] at hY
      have FD := fresh_of F8 N8 D hD0
      have F7 := F8.keeps hs
      have N7 : News s.heap L h' [(D, listOf ys.toArray k)] := fun p hp => by
        rw [List.mem_singleton.mp hp]; exact ⟨hD, FD.2.1, FD.1⟩
      clear F8 N8
      k_with_none
      repeat' (first | (k_unfold; (try dsimp only)) | (k_end; wrow_close) | ((try dsimp only); walk1) | (leave1; walk_say "STEP leave1"; try dsimp only) | fail "no step")
      rename Fr _ _ _ _ => F9
      rename News _ _ _ _ => N9
      exact hret _ _ _ _ _ F9.keep FD.1 (N9 _ (.head _)).1 hY
  | bin o l r ihl ihr =>
    intro w p loose mean mg mb s dp un gd fr Q E v1 g X T hg hdp hn hv1 hret
    obtain ⟨a, t1, u1, u2, rfl, hI, r1, r2⟩ := tri_open hv1
    have hI := Tup.keeps hg hI
    have hR : ReadsAll g [u1, u2] ([l, r].map dat) [] := .cons (as := []) (bs := []) r1 (.cons (as := []) (bs := []) r2 .nil)
    simp only [Ex.deep] at hdp
    simp only [Ex.size] at hn
    have hsg : ¬ (([Str.ofString "ref", Str.ofString "number"].any fun x => x == o.sg) = true) := by cases o <;> decide
    refine' enter (binds := [(Str.ofString "expr", .ref a)]) X T ?k1 ?k2 ?k3 ?k4 ?k5 ?_ ?c2 ?c3 ?c4 ?c5
    case k1 => k_is
    case k2 => k_is
    case k3 => (first | assumption | ((try simp only [topA, depth_deeper] at *); (first | lia | omega)))
    case k4 => first | exact BindsTo.of_eq rfl | exact binds_K (by k_in) rfl (by k_is) rfl rfl rfl
    case k5 => exact locs rfl
    case c2 => exact rfl
    case c3 => exact rfl
    case c4 => exact rfl
    case c5 => decide
    intro L h₁ F N hL
    refine wpAny_noRaise ?_
    try dsimp only
    try k_fold
    k_with_none
    repeat' (first | (k_unfold; (try dsimp only)) | (k_end; wrow_close) | ((try dsimp only); walk1) | (leave1; walk_say "STEP leave1"; try dsimp only) | fail "no step")
    refine Halt.mk ?_
    refine' ListComp2_G (cl := []) ?a9 ?b9 ?c9 ?d9 ?e9 ?f9 ?_
    case a9 => exact closureFor_none (by decide)
    case b9 => decide
    case c9 => rfl
    case d9 => decide
    case e9 => rfl
    case f9 => decide
    k_with_none
    k_with "pyIter ref" => (refine' halt ?_)
    repeat' (first | (k_unfold; (try dsimp only)) | (k_end; wrow_close) | ((try dsimp only); walk1) | (leave1; walk_say "STEP leave1"; try dsimp only) | fail "no step")
    refine Halt.mk ?_
    rename Fr _ _ _ _ => F8
    rename News _ _ _ _ => N8
    have htup := (N8 _ (.head _)).1
    refine wpAny_pyIter_tuple ⟨_, htup, rfl, _, rfl⟩ ?_
    refine CompG2.tuple (its := [u1, u2].toArray) (fun i ys rest => rest = [] ∧ ReadsAll g ys ((([l, r].take i).flatMap Ex.leaves).map dat) []) rfl ⟨_, htup, rfl, _, rfl⟩ (fun _ _ => rfl) ⟨rfl, .nil⟩ ?turn ?done
    case turn =>
      rintro h₀ C D I i v ys rest oI k h m tk tk₀ hp E' kg hi hP ⟨rfl, hY⟩ F N hID off
      obtain ⟨dd, hdd, hr⟩ := readsAll_get hR rfl i v (by simpa using hP)
      rw [List.getElem?_map] at hdd
      obtain ⟨ch, hch, rfl⟩ := Option.map_eq_some_iff.mp hdd
      have kg2 := fun b o q => kg b o (F8.keep b o q)
      have hrec : dp + 1 + ch.deep < recursionLimit ∧ ch.size ≤ 200 ∧ (([l, r].take i).flatMap Ex.leaves).length + ch.leaves.length ≤ 200 ∧ (∀ {w : World} {p : Program} {loose : List Str} {mean : ExcName → Option Value} {mg mb : Str → Option Value} {s : Shared} {dp un : Nat} {gd : Option (List Code)} {fr : Option (List Env)} {Q E : Value → Shared → Prop} {v1 : Value} {g : Heap} (X : (hd.heap_39 w.params).In s.heap) (T : Top p loose mean mg mb s.heap) (hg : g.StaysIn s.heap) (hdp : dp + ch.deep < recursionLimit) (hn : ch.size ≤ 200) (hv1 : Reads g v1 (dat ch) [])
          (hret : ∀ h' tk a vs n, Heap.StaysIn s.heap h' → s.heap.get? a = none → h'.get? a = some (listOf vs.toArray n) → ReadsAll g vs (ch.leaves.map dat) [] → Q (.ref a) { s with heap := h', toks := tk }), wpAny (model PR w) (topA dp un gd fr) (call (.ref 247) [v1]) Q E s) := by
        have hl := l.leaves_len
        have hr := r.leaves_len
        rcases i with _ | _ | i
        · cases hch; exact ⟨by (first | lia | omega), by (first | lia | omega), by simp; (first | lia | omega), fun X T h0 h1 h2 h3 h4 => ihl X T h0 h1 h2 h3 h4⟩
        · cases hch; exact ⟨by (first | lia | omega), by (first | lia | omega), by simp; (first | lia | omega), fun X T h0 h1 h2 h3 h4 => ihr X T h0 h1 h2 h3 h4⟩
        · simp at hch
      obtain ⟨hd1, hn1, hl1, hrec⟩ := hrec
      have X := X.keeps kg2
      have T := T.keeps kg2
      have hg2 : g.StaysIn h₀ := fun b o q => kg2 b o (hg b o q)
      clear F8 N8
      k_with_none
      k_with "call ref" => (rename Fr _ _ _ _ => F9; rename News _ _ _ _ => N9; rename Frag.In _ _ => X8; rename Top _ _ _ _ _ _ => T8; refine' hrec (Frag.In.keeps X8 F9.keep) (T8.keeps F9.keep) (fun b o q => F9.keep b o (hg2 b o q)) ?hdq2 hn1 hr ?hrq2; (case hdq2 => exact hd1); (rintro h2 tk2 a2 vs2 n2 hS ha0 hal hRa; have FD := fresh_of F9 N9 a2 ha0; have F2 := F9.keeps hS; have N2 := N9.grown hS; clear F9 N9; (try dsimp only); (try k_fold)))
      repeat' (first | (k_unfold; (try dsimp only)) | (k_end; wrow_close) | ((try dsimp only); walk1) | (leave1; walk_say "STEP leave1"; try dsimp only) | fail "no step")
      rename Fr _ _ _ _ => F9
      rename News _ _ _ _ => N9
      have e1 : ([l, r].take (i + 1)).flatMap Ex.leaves = ([l, r].take i).flatMap Ex.leaves ++ ch.leaves := by rw [List.take_add_one, hch, List.flatMap_append]; simp
      refine ⟨_, _, _, _, _, _, [], rfl, rfl, hal, (FD.2.2 _ (.tail _ (.head _))).symm, FD.2.1, (FD.2.2 _ (.head _)).symm, F9, N9, by simp, ⟨rfl, ?_⟩, ?_⟩
      · rw [e1, List.map_append]
        exact readsAll_app hY rfl hRa
      · have h1 := readsAll_len hY
        have h2 := readsAll_len hRa
        rw [List.length_map] at h1 h2
        (first | lia | omega)
    case done =>
      rintro D h' tk ys rest1 k ⟨-, hY⟩ hs hD hD0 hr
      have e1 : ([l, r].take [u1, u2].toArray.size).flatMap Ex.leaves = (Ex.bin o l r).leaves := by simp [Ex.leaves]
      rw [e1] at hY
      have FD := fresh_of F8 N8 D hD0
      have F7 := F8.keeps hs
      have N7 : News s.heap L h' [(D, listOf ys.toArray k)] := fun p hp => by
        rw [List.mem_singleton.mp hp]; exact ⟨hD, FD.2.1, FD.1⟩
      clear F8 N8
      k_with_none
      repeat' (first | (k_unfold; (try dsimp only)) | (k_end; wrow_close) | ((try dsimp only); walk1) | (leave1; walk_say "STEP leave1"; try dsimp only) | fail "no step")
      rename Fr _ _ _ _ => F9
      rename News _ _ _ _ => N9
      exact hret _ _ _ _ _ F9.keep FD.1 (N9 _ (.head _)).1 hY
end
end
section
theorem fillMW : (fun (_ : OpenLaw) (_ : Params → Frag) => True) PySem.Challenge.rw_pc0124_01 hd.heap_39 := by
  w_top off
  k_fill
  trivial




abbrev penO (l : Addr) (k : Nat) (c q : Int) (t1 t2 t3 : Tok) (n : Nat) : Obj := listOf #[.ref l, .int (k : Int) t1, .int c t2, .int q t3] n
structure ScrAt (h : Heap) (l : Addr) (ns : List Int) : Prop where
  ex : ∃ vs, h.IsList l vs.toArray ∧ IntsAre vs ns
  len : ns.length ≤ 63
  bits : ∀ x ∈ ns, PySem.Builtin.Int.intBits x ≤ 1048576
theorem ScrAt.keeps {h h' : Heap} {l : Addr} {ns : List Int} (x : ScrAt h l ns) (k : h.StaysIn h') : ScrAt h' l ns := by
  obtain ⟨⟨vs, ⟨o, e, r⟩, hi⟩, h1, h2⟩ := x
  exact ⟨⟨vs, ⟨o, k _ _ e, r⟩, hi⟩, h1, h2⟩

theorem draw_spec {w : World} {p : Program} {loose : List Str} {mean : ExcName → Option Value} {mg mb : Str → Option Value} {s : Shared} {dp un : Nat} {gd : Option (List Code)} {fr : Option (List Env)} {Q E : Value → Shared → Prop} {pen l : Addr} {ns : List Int} {k n : Nat} {c q many : Int} {t1 t2 t3 t4 : Tok}
    (X : (hd.heap_39 w.params).In (hideAll s.heap [pen])) (T : Top p loose mean mg mb (hideAll s.heap [pen])) (hdp : dp < recursionLimit) (hp : s.heap.get? pen = some (penO l k c q t1 t2 t3 n)) (hS : ScrAt (hideAll s.heap [pen]) l ns)
    (hk : k ≤ 100000) (hc : 0 ≤ c) (hq : 0 ≤ q ∧ q < 1009) (hm : 1 ≤ many ∧ many ≤ 100)
    (hret : ∀ h' tk d t k' c' u1 u2 u3 n', 0 ≤ d → d < many → k ≤ k' → k' ≤ k + 1 → 0 ≤ c' → (hideAll s.heap [pen]).StaysIn h' → h'.get? pen = some (penO l k' c' q u1 u2 u3 n') → Q (.int d t) { s with heap := h', toks := tk }) :
    wpAny (model PR w) (topA dp un gd fr) (call (.ref 186) [.ref pen, .int many t4]) Q E s := by
  refine wpAny_call ?_
  refine' enterH [(pen, penO l k c q t1 t2 t3 n)] (binds := [(Str.ofString "pen", .ref pen), (Str.ofString "many", .int many t4)]) X T ?hN ?k1 ?k2 ?k3 ?k4 ?k5 ?_ ?c2 ?c3 ?c4 ?c5
  case hN => intro q hq; rw [List.mem_singleton.mp hq]; exact hp
  case k1 => k_is
  case k2 => k_is
  case k3 => (try simp only [topA, depth_deeper] at *); (first | lia | omega)
  case k4 => exact BindsTo.of_eq rfl
  case k5 => exact locs rfl
  case c2 => exact rfl
  case c3 => exact rfl
  case c4 => exact rfl
  case c5 => decide
  intro L h₁ F N hL
  refine wpAny_noRaise ?_
  replace F : Fr (hideAll s.heap [pen]) L h₁ _ := F
  replace N : News (hideAll s.heap [pen]) L h₁ [(pen, penO l k c q t1 t2 t3 n)] := N
  have hmb : Bd 9000 many := Nat.lt_of_lt_of_le (show many.natAbs < 2 ^ 7 by (first | lia | omega)) (Nat.pow_le_pow_right (by decide) (by decide))
  have hm0 : many ≠ 0 := by (first | lia | omega)
  generalize hG : hideAll s.heap [pen] = G at *
  obtain ⟨⟨vs, hl, hi⟩, hlen, hbits⟩ := hS
  try dsimp only
  try k_fold
  k_with_none
  repeat' (first | (k_unfold; (try dsimp only)) | (k_end; wrow_close) | ((try dsimp only); walk1) | (leave1; walk_say "STEP leave1"; try dsimp only) | fail "no step")
  all_goals
    rename Fr _ _ _ _ => F9
    rename News _ _ _ _ => N9
    have ek : (k : Int) + 1 = ((k + 1 : Nat) : Int) := by (first | lia | omega)
    have hmp : 0 < many := by (first | lia | omega)
  · exact hret _ _ _ _ k _ _ _ _ _ (Int.fmod_nonneg_of_pos _ hmp) (Int.fmod_lt_of_pos _ hmp) (Nat.le_refl _) (Nat.le_succ _) (Int.fdiv_nonneg hc (by (first | lia | omega))) F9.keep (N9 _ (.head _)).1
  · rw [ek] at N9
    exact hret _ _ _ _ (k + 1) _ _ _ _ _ (Int.fmod_nonneg_of_pos _ hmp) (Int.fmod_lt_of_pos _ hmp) (Nat.le_succ _) (Nat.le_refl _) hc F9.keep (N9 _ (.head _)).1
  · rw [ek] at N9
    exact hret _ _ _ _ (k + 1) _ _ _ _ _ (Int.fmod_nonneg_of_pos _ hmp) (Int.fmod_lt_of_pos _ hmp) (Nat.le_succ _) (Nat.le_refl _) hc F9.keep (N9 _ (.head _)).1
  · rw [ek] at N9
    refine hret _ _ _ _ (k + 1) _ _ _ _ _ (Int.fmod_nonneg_of_pos _ hmp) (Int.fmod_lt_of_pos _ hmp) (Nat.le_succ _) (Nat.le_refl _) (Int.fdiv_nonneg ?_ (by (first | lia | omega))) F9.keep (N9 _ (.head _)).1
    (first | lia | omega)
  · rw [ek] at N9
    refine hret _ _ _ _ (k + 1) _ _ _ _ _ (Int.fmod_nonneg_of_pos _ hmp) (Int.fmod_lt_of_pos _ hmp) (Nat.le_succ _) (Nat.le_refl _) (Int.fdiv_nonneg ?_ (by (first | lia | omega))) F9.keep (N9 _ (.head _)).1
    (first | lia | omega)
end
section
theorem fillMX2 : (fun (_ : OpenLaw) (_ : Params → Frag) => True) PySem.Challenge.rw_pc0124_01 hd.heap_39 := by
  w_top off
  k_fill
  trivial




local macro_rules | `(tactic| walk_at "subscriptTail Name Slice ref ref") => `(tactic| refine' halt ?_)
theorem pen_spec {w : World} {p : Program} {loose : List Str} {mean : ExcName → Option Value} {mg mb : Str → Option Value} {s : Shared} {dp un : Nat} {gd : Option (List Code)} {fr : Option (List Env)} {Q E : Value → Shared → Prop} {a : Addr} {vs : List Value} {ns : List Int} (X : (hd.heap_39 w.params).In s.heap) (T : Top p loose mean mg mb s.heap) (hdp : dp < recursionLimit) (hl : s.heap.IsList a vs.toArray) (hi : IntsAre vs ns) (hlay : PyData.layable0 (.list (ns.map .int)) = true) (hlen : ns.length ≤ 63)
    (hret : ∀ h' tk pen l q t1 t2 t3 n, Heap.StaysIn s.heap h' → s.heap.get? pen = none → s.heap.get? l = none → pen ≠ l → h'.get? pen = some (penO l 0 0 q t1 t2 t3 n) → 0 ≤ q → q < 1009 → (∃ ns', ScrAt h' l ns') → Q (.ref pen) { s with heap := h', toks := tk }) :
    wpAny (model PR w) (topA dp un gd fr) (call (.ref 193) [.ref a]) Q E s := by
  refine' enter (binds := [(Str.ofString "script", .ref a)]) X T ?k1 ?k2 ?k3 ?k4 ?k5 ?_ ?c2 ?c3 ?c4 ?c5
  case k1 => k_is
  case k2 => k_is
  case k3 => (first | assumption | ((try simp only [topA, depth_deeper] at *); (first | lia | omega)))
  case k4 => first | exact BindsTo.of_eq rfl | exact binds_K (by k_in) rfl (by k_is) rfl rfl rfl
  case k5 => exact locs rfl
  case c2 => exact rfl
  case c3 => exact rfl
  case c4 => exact rfl
  case c5 => decide
  intro L h₁ F N hL
  refine wpAny_noRaise ?_
  try dsimp only
  try k_fold
  k_with_none
  repeat' (first | (k_unfold; (try dsimp only)) | (k_end; wrow_close) | ((try dsimp only); walk1) | (leave1; walk_say "STEP leave1"; try dsimp only) | fail "no step")
  refine Halt.mk ?_
  rename Fr _ _ _ _ => F9
  rename News _ _ _ _ => N9
  refine' kmk_slice_ints (s := ⟨_, _, _, _, _⟩) F9 N9 ?q1a .none (.int _ _) ?q2a ?q3a rfl ?_ ?q4a ?q5a ?q6a
  case q1a => exact Fr.lst F9 (by assumption)
  case q2a => assumption
  case q3a => exact kmk_upto (by assumption) (by decide)
  case q4a => with_unfolding_all rfl
  case q5a => (intro _; with_unfolding_all rfl)
  case q6a => (rw [sizeLine_eq, kmk_size_eq (by assumption)]; omega)
  clear F9 N9
  intro D9 ws9 h9 F' N' l1 I9 c9 d9
  try k_lt l1
  repeat' (first | (k_unfold; (try dsimp only)) | (k_end; wrow_close) | ((try dsimp only); walk1) | (leave1; walk_say "STEP leave1"; try dsimp only) | fail "no step")
  refine Halt.mk ?_
  rename Fr _ _ _ _ => F9
  rename News _ _ _ _ => N9
  refine' kmk_slice_ints (s := ⟨_, _, _, _, _⟩) F9 N9 ?q1b .none (.int _ _) ?q2b ?q3b rfl ?_ ?q4b ?q5b ?q6b
  case q1b => exact Fr.lst F9 (by assumption)
  case q2b => assumption
  case q3b => exact kmk_upto (by assumption) (by decide)
  case q4b => with_unfolding_all rfl
  case q5b => (intro _; with_unfolding_all rfl)
  case q6b => (rw [sizeLine_eq, kmk_size_eq (by assumption)]; omega)
  clear F9 N9
  intro D9 ws9 h9 F' N' l1 I9 c9 d9
  try k_lt l1
  repeat' (first | (k_unfold; (try dsimp only)) | (k_end; wrow_close) | ((try dsimp only); walk1) | (leave1; walk_say "STEP leave1"; try dsimp only) | fail "no step")
  try k_unfold
  try dsimp only
  rename Fr _ _ _ _ => F9
  rename News _ _ _ _ => N9
  have hbits : ∀ x ∈ ns.take (63 : Int).toNat, PySem.Builtin.Int.intBits x ≤ 1048576 := fun x hx => PyData.bits_item_of_ints hlay (List.mem_of_mem_take hx)
  have hle : (ns.take (63 : Int).toNat).length ≤ 63 := by rw [List.length_take]; (first | lia | omega)
  have hS := (⟨⟨_, ⟨_, (N9 _ (.tail _ (.tail _ (.head _)))).1, rfl, _, rfl⟩, by assumption⟩, hle, hbits⟩ : ScrAt _ _ _)
  refine hret _ _ _ _ _ _ _ _ _ F9.keep (N9 _ (.head _)).2.2 (N9 _ (.tail _ (.tail _ (.head _)))).2.2 ?_ (N9 _ (.head _)).1 ?_ ?_ ⟨_, hS⟩
  · refine neN ?_; (first | lia | omega)
  · exact Int.fmod_nonneg_of_pos _ (by decide)
  · exact Int.fmod_lt_of_pos _ (by decide)
end
section
theorem fillMY : (fun (_ : OpenLaw) (_ : Params → Frag) => True) PySem.Challenge.rw_pc0124_01 hd.heap_39 := by
  w_top off
  k_fill
  trivial




theorem pen_turn {G h h' : Heap} {L pen : Addr} {m : Str → Option Value} {o o' : Obj} {rest : List (Addr × Obj)} (F : Fr G L h m) (N : News G L h ((pen, o) :: rest)) (hoff : ∀ p ∈ rest, p.1 ≠ pen) (hk : (hideAll h [pen]).StaysIn h') (hp : h'.get? pen = some o') :
    Fr G L h' m ∧ News G L h' ((pen, o') :: rest) := by
  have k : ∀ b o, b ∉ [pen] → h.get? b = some o → h'.get? b = some o := fun b o hb e => hk b o (hideAll_get _ e hb)
  have hpn := (N _ (.head _)).2
  refine ⟨fr_hid F (by simpa using hpn.1.symm) (fun a ha => by rw [List.mem_singleton.mp ha]; exact hpn.2) k, fun p hp' => ?_⟩
  rcases List.mem_cons.mp hp' with rfl | hp'
  · exact ⟨hp, hpn⟩
  · exact ⟨k _ _ (by simpa using hoff p hp') (N p (.tail _ hp')).1, (N p (.tail _ hp')).2⟩
theorem pen_hid {G h : Heap} {L pen : Addr} {m : Str → Option Value} {o : Obj} {rest : List (Addr × Obj)} (F : Fr G L h m) (N : News G L h ((pen, o) :: rest)) : G.StaysIn (hideAll h [pen]) :=
  stays_hide F.keep fun a ha => by rw [List.mem_singleton.mp ha]; exact (N _ (.head _)).2.2

theorem op_item {d : Int} (h0 : 0 ≤ d) (h5 : d < 5) : ∃ (o : Op2), ∀ (a b c e f : Tok), ∃ (t : Tok), [Value.str (Str.ofString "+") a, Value.str (Str.ofString "-") b, Value.str (Str.ofString "*") c, Value.str (Str.ofString "/") e, Value.str (Str.ofString "**") f][d.toNat]? = some (.str o.sg t) := by
  rcases (by (first | lia | omega) : d = 0 ∨ d = 1 ∨ d = 2 ∨ d = 3 ∨ d = 4) with rfl | rfl | rfl | rfl | rfl
  · exact ⟨.add, fun a b c e f => ⟨a, rfl⟩⟩
  · exact ⟨.sub, fun a b c e f => ⟨b, rfl⟩⟩
  · exact ⟨.mul, fun a b c e f => ⟨c, rfl⟩⟩
  · exact ⟨.div, fun a b c e f => ⟨e, rfl⟩⟩
  · exact ⟨.pow, fun a b c e f => ⟨f, rfl⟩⟩
theorem item_op {prog : Program} {w : World} {A : Around} {E : Value → Shared → Prop} {s : Shared} {value slice : PySem.Expr} {t : Addr} {d : Int} {u : Tok} {o : Op2} {Q : Value → Shared → Prop} {a b c e f : Tok}
    (hx : ∀ (a b c e f : Tok), ∃ (t : Tok), [Value.str (Str.ofString "+") a, Value.str (Str.ofString "-") b, Value.str (Str.ofString "*") c, Value.str (Str.ofString "/") e, Value.str (Str.ofString "**") f][d.toNat]? = some (.str o.sg t))
    (ht : IsTup s.heap t #[Value.str (Str.ofString "+") a, Value.str (Str.ofString "-") b, Value.str (Str.ofString "*") c, Value.str (Str.ofString "/") e, Value.str (Str.ofString "**") f]) (hk : (decide (0 ≤ d) && decide (d < 100)) = true) (h : ∀ t, Q (.str o.sg t) s)
    (hs : subscripted slice false (.ref t) (.int d u) = operate [.ref t, .int d u] (getItem (.ref t) (.int d u))) :
    wpAny (model prog w) A (subscriptTail value slice (.ref t) (.int d u)) Q E s := by
  obtain ⟨to, hx⟩ := hx a b c e f
  exact item_c (l := [_, _, _, _, _]) ht hk hx (h to) hs
theorem abc_item {d : Int} (h0 : 0 ≤ d) (h3 : d < 3) : ∃ i : Fin 3, Txt.item (Str.ofString "ABC") d = nm3 i ∧ (i.val : Int) = d := by
  rcases (by (first | lia | omega) : d = 0 ∨ d = 1 ∨ d = 2) with rfl | rfl | rfl
  · exact ⟨0, by decide, rfl⟩
  · exact ⟨1, by decide, rfl⟩
  · exact ⟨2, by decide, rfl⟩
theorem item_abc {prog : Program} {w : World} {A : Around} {E : Value → Shared → Prop} {s : Shared} {value slice : PySem.Expr} {t u : Tok} {d : Int} {Q : Value → Shared → Prop} (h0 : 0 ≤ d) (h3 : d < 3) (h : ∀ i : Fin 3, (i.val : Int) = d → Q (.str (nm3 i) s.toks) { s with toks := s.toks + 1 })
    (hs : subscripted slice false (.str (Str.ofString "ABC") t) (.int d u) = operate [.str (Str.ofString "ABC") t, .int d u] (getItem (.str (Str.ofString "ABC") t) (.int d u)))
    (ht : ∀ r, letTemporaryGo value (.str (Str.ofString "ABC") t) r = pure ()) :
    wpAny (model prog w) A (subscriptTail value slice (.str (Str.ofString "ABC") t) (.int d u)) Q E s := by
  obtain ⟨i, e, hi⟩ := abc_item h0 h3
  have hl : (Str.ofString "ABC").length = 3 := by decide
  refine item_str ?_ (by rw [hl]; (first | lia | omega)) (by rw [hl]; (first | lia | omega)) (fun _ => ?_) hs ht
  · rcases (by (first | lia | omega) : d = 0 ∨ d = 1 ∨ d = 2) with rfl | rfl | rfl <;> decide
  · rw [e]
    exact h i hi
theorem News.front {g h : Heap} {L : Addr} {q : Addr × Obj} {news r : List (Addr × Obj)} (N : News g L h (q :: news)) (M : News g L h r) : News g L h (q :: r) := all_cons (N _ (.head _)) M
theorem News.tl {g h : Heap} {L : Addr} {q : Addr × Obj} {r : List (Addr × Obj)} (N : News g L h (q :: r)) : News g L h r := fun p hp => N p (.tail _ hp)
theorem News.rot {g h : Heap} {L : Addr} {a : List (Addr × Obj)} {b : Addr × Obj} (N : News g L h (a ++ [b])) : News g L h (b :: a) := fun p hp => by
  rcases List.mem_cons.mp hp with rfl | hp
  · exact N _ (List.mem_append_right _ (.head _))
  · exact N _ (List.mem_append_left _ hp)
theorem bd_small {z : Int} (h : z.natAbs < 1000000000) : Bd 400 z := Nat.lt_of_lt_of_le h (Nat.le_trans (by decide : 1000000000 ≤ 2 ^ 30) (Nat.pow_le_pow_right (by decide) (by decide)))
theorem num_item {h : Heap} {d : Int} {a1 a2 a3 a4 a5 : Addr} {n1 n2 n3 n4 n5 : Num} (h0 : 0 ≤ d) (h5 : d < 5) (r1 : Reads h (.ref a1) (numD n1) []) (r2 : Reads h (.ref a2) (numD n2) []) (r3 : Reads h (.ref a3) (numD n3) []) (r4 : Reads h (.ref a4) (numD n4) []) (r5 : Reads h (.ref a5) (numD n5) [])
    (k : ∀ n ∈ [n1, n2, n3, n4, n5], Bd 400 n.1 ∧ n.2 ≤ 30) : ∃ v n, [Value.ref a1, .ref a2, .ref a3, .ref a4, .ref a5][d.toNat]? = some v ∧ Reads h v (numD n) [] ∧ Bd 400 n.1 ∧ n.2 ≤ 30 := by
  rcases (by (first | lia | omega) : d = 0 ∨ d = 1 ∨ d = 2 ∨ d = 3 ∨ d = 4) with rfl | rfl | rfl | rfl | rfl
  · exact ⟨_, n1, rfl, r1, k _ (by simp)⟩
  · exact ⟨_, n2, rfl, r2, k _ (by simp)⟩
  · exact ⟨_, n3, rfl, r3, k _ (by simp)⟩
  · exact ⟨_, n4, rfl, r4, k _ (by simp)⟩
  · exact ⟨_, n5, rfl, r5, k _ (by simp)⟩
theorem Ex.bd_bin (o : Op2) (l r : Ex) {n : Nat} (hl : l.bd ≤ n) (hr : r.bd ≤ n) (h4 : 400 ≤ n) : (Ex.bin o l r).bd ≤ n + 400 := by
  cases o <;> simp only [Ex.bd] <;> (first | lia | omega)

section
local macro_rules | `(tactic| walk_at "subscriptTail") => `(tactic| ((with_reducible show wpAny _ _ (subscriptTail (Expr.Tuple _ _ _) _ (Value.ref _) (Value.int _ _)) _ _ _); refine' halt ?_))
theorem expr_spec : ∀ (dn : Nat) {w : World} {p : Program} {loose : List Str} {mean : ExcName → Option Value} {mg mb : Str → Option Value} {s : Shared} {dp un : Nat} {gd : Option (List Code)} {fr : Option (List Env)} {Q E : Value → Shared → Prop} {pen l : Addr} {ns : List Int} {k n : Nat} {c q : Int} {t1 t2 t3 t4 : Tok}
    (X : (hd.heap_39 w.params).In (hideAll s.heap [pen])) (T : Top p loose mean mg mb (hideAll s.heap [pen])) (hdp : dp + dn + 2 < recursionLimit) (hp : s.heap.get? pen = some (penO l k c q t1 t2 t3 n)) (hS : ScrAt (hideAll s.heap [pen]) l ns)
    (hk : k + 2 ^ (dn + 2) ≤ 100000) (hc : 0 ≤ c) (hq : 0 ≤ q ∧ q < 1009)
    (hret : ∀ h' tk v e k' c' u1 u2 u3 n', e.deep ≤ dn → e.okn → e.bd ≤ 400 + 400 * dn → e.size + 1 ≤ 2 ^ (dn + 1) → k' + 1 ≤ k + 2 ^ (dn + 2) → 0 ≤ c' → (hideAll s.heap [pen]).StaysIn h' → h'.get? pen = some (penO l k' c' q u1 u2 u3 n') → Reads h' v (dat e) [] → Q v { s with heap := h', toks := tk }),
    wpAny (model PR w) (topA dp un gd fr) (call (.ref 200) [.ref pen, .int (dn : Int) t4]) Q E s := by
  intro dn
  induction dn with
  | zero =>
    intro w p loose mean mg mb s dp un gd fr Q E pen l ns k n c q t1 t2 t3 t4 X T hdp hp hS hk hc hq hret
    refine wpAny_call ?_
    refine' enterH [(pen, penO l k c q t1 t2 t3 n)] (binds := [(Str.ofString "pen", .ref pen), (Str.ofString "deep", .int ((0 : Nat) : Int) t4)]) X T ?hN ?k1 ?k2 ?k3 ?k4 ?k5 ?_ ?c2 ?c3 ?c4 ?c5
    case hN => intro q hq; rw [List.mem_singleton.mp hq]; exact hp
    case k1 => k_is
    case k2 => k_is
    case k3 => (try simp only [topA, depth_deeper] at *); (first | lia | omega)
    case k4 => exact BindsTo.of_eq rfl
    case k5 => exact locs rfl
    case c2 => exact rfl
    case c3 => exact rfl
    case c4 => exact rfl
    case c5 => decide
    intro L h₁ F N hL
    refine wpAny_noRaise ?_
    replace F : Fr (hideAll s.heap [pen]) L h₁ _ := F
    replace N : News (hideAll s.heap [pen]) L h₁ [(pen, penO l k c q t1 t2 t3 n)] := N
    generalize hG : hideAll s.heap [pen] = G at *
    have h2p : 2 ^ (0 + 2) = 4 := rfl
    have h1p : 2 ^ (0 + 1) = 2 := rfl
    try dsimp only
    try k_fold
    k_with_none
    k_with "call ref" => (refine' halt ?_)
    repeat' (first | (k_unfold; (try dsimp only)) | (k_end; wrow_close) | ((try dsimp only); walk1) | (leave1; walk_say "STEP leave1"; try dsimp only) | fail "no step")
    refine Halt.mk ?_
    rename Fr _ _ _ _ => F9
    rename News _ _ _ _ => N9
    refine draw_spec (ns := ns) (X.keeps (pen_hid F9 N9)) (T.keeps (pen_hid F9 N9)) ?hdz1 (N9 _ (.head _)).1 (hS.keeps (pen_hid F9 N9)) (by (first | lia | omega)) hc hq ⟨by decide, by decide⟩ ?_
    case hdz1 => show dp + 1 < recursionLimit; (first | lia | omega)
    intro h2 tk2 d td k' c' u1 u2 u3 n' hd0 hd8 hk1 hk2 hc' hS2 hp2
    obtain ⟨F2, N2⟩ := pen_turn F9 N9 (fun p hp => nomatch hp) hS2 hp2
    clear F9 N9
    try dsimp only
    try k_fold
    rcases (by (first | lia | omega) : d = 0 ∨ d = 1) with hd | hd
    ·
      repeat' (first | (k_unfold; (try dsimp only)) | (k_end; wrow_close) | ((try dsimp only); walk1) | (leave1; walk_say "STEP leave1"; try dsimp only) | fail "no step")
      refine Halt.mk ?_
      rename Fr _ _ _ _ => F9
      rename News _ _ _ _ => N9
      refine draw_spec (ns := ns) (X.keeps (pen_hid F9 N9)) (T.keeps (pen_hid F9 N9)) ?hdz5 (N9 _ (.head _)).1 (hS.keeps (pen_hid F9 N9)) (by (first | lia | omega)) hc' hq ⟨by decide, by decide⟩ ?_
      case hdz5 => show dp + 1 < recursionLimit; (first | lia | omega)
      intro h3 tk3 d3 td3 k3 c3 w1 w2 w3 n3 hd30 hd33 hk3 hk4 hc3 hS3 hp3
      obtain ⟨F3, N3⟩ := pen_turn F9 N9 (fun p hp => nomatch hp) hS3 hp3
      clear F9 N9
      try dsimp only
      try k_fold
      refine item_abc hd30 hd33 (fun i hi => ?_) (by with_unfolding_all rfl) (by intro _; with_unfolding_all rfl)
      repeat' (first | (k_unfold; (try dsimp only)) | (k_end; wrow_close) | ((try dsimp only); walk1) | (leave1; walk_say "STEP leave1"; try dsimp only) | fail "no step")
      try k_unfold
      try dsimp only
      rename Fr _ _ _ _ => F9
      rename News _ _ _ _ => N9
      refine hret _ _ _ (.ref i) k3 c3 w1 w2 w3 n3 (Nat.zero_le _) trivial ?_ ?_ ?_ hc3 F9.keep (N9 _ (.tail _ (.tail _ (.tail _ (.head _))))).1 ?_
      · simp only [Ex.bd]; (first | lia | omega)
      · simp only [Ex.size]; (first | lia | omega)
      · (first | lia | omega)
      · exact tup_reads (News.isTup N9 (.head _)) (.cons (as := []) (bs := []) (.str _ _) (.cons (as := []) (bs := []) (.str _ _) (.cons (as := []) (bs := []) (tup_reads (items := []) (News.isTup N9 (.tail _ (.tail _ (.head _)))) .nil) (.cons (as := []) (bs := []) (tup_reads (items := []) (News.isTup N9 (.tail _ (.head _))) .nil) (.cons (as := []) (bs := []) .none .nil)))))
    ·
      repeat' (first | (k_unfold; (try dsimp only)) | (k_end; wrow_close) | ((try dsimp only); walk1) | (leave1; walk_say "STEP leave1"; try dsimp only) | fail "no step")
      refine Halt.mk ?_
      rename Fr _ _ _ _ => F9
      rename News _ _ _ _ => N9
      replace N9 := News.rot (a := [_, _, _, _, _, _]) N9
      refine draw_spec (ns := ns) (X.keeps (pen_hid F9 N9)) (T.keeps (pen_hid F9 N9)) ?hdz6 (N9 _ (.head _)).1 (hS.keeps (pen_hid F9 N9)) (by (first | lia | omega)) hc' hq ⟨by decide, by decide⟩ ?_
      case hdz6 => show dp + 1 < recursionLimit; (first | lia | omega)
      intro h3 tk3 d3 td3 k3 c3 w1 w2 w3 n3 hd30 hd33 hk3 hk4 hc3 hS3 hp3
      obtain ⟨F3, N3⟩ := pen_turn F9 N9 (tup_ne N9 (.head _) (fun q => absurd (Value.type.inj q) (by decide)) (fun p hp => .tail _ hp) (by (intro q hq; simp only [List.mem_cons, List.not_mem_nil, or_false] at hq; rcases hq with rfl | rfl | rfl | rfl | rfl | rfl <;> rfl))) hS3 hp3
      clear F9 N9
      try dsimp only
      try k_fold
      repeat' (first | (k_unfold; (try dsimp only)) | (k_end; wrow_close) | ((try dsimp only); walk1) | (leave1; walk_say "STEP leave1"; try dsimp only) | fail "no step")
      refine Halt.mk ?_
      rename Fr _ _ _ _ => F9
      rename News _ _ _ _ => N9
      obtain ⟨v, nn, hx, hr, hb1, hb2⟩ := num_item (n1 := (0, 0)) (n2 := (5, 0)) (n3 := (25, 2)) (n4 := (-5, 0)) (n5 := (-7, 1)) hd30 hd33 (num_close (News.isTup N9 (by k_mem))) (num_close (News.isTup N9 (by k_mem))) (num_close (News.isTup N9 (by k_mem))) (num_close (News.isTup N9 (by k_mem))) (num_close (News.isTup N9 (by k_mem))) (by
        intro n hn
        simp only [List.mem_cons, List.not_mem_nil, or_false] at hn
        rcases hn with rfl | rfl | rfl | rfl | rfl <;> exact ⟨bd_small (by decide), by decide⟩)
      refine item_c (l := [_, _, _, _, _]) (News.isTup N9 (by k_mem)) (by simp only [Bool.and_eq_true, decide_eq_true_eq]; (first | lia | omega)) hx ?_ (by with_unfolding_all rfl)
      refine Reads.regE F9 hr fun r3 hT3 hNr3 hD3 => ?_
      have N4 := News.front N9 hNr3
      clear N9 hNr3
      repeat' (first | (k_unfold; (try dsimp only)) | (k_end; wrow_close) | ((try dsimp only); walk1) | (leave1; walk_say "STEP leave1"; try dsimp only) | fail "no step")
      try k_unfold
      try dsimp only
      rename Fr _ _ _ _ => F9
      rename News _ _ _ _ => N9
      refine hret _ _ _ (.num nn) k3 c3 w1 w2 w3 n3 (Nat.zero_le _) ⟨hb1, hb2⟩ ?_ ?_ ?_ hc3 F9.keep (N9 _ (.tail _ (.head _))).1 ?_
      · simp only [Ex.bd]; (first | lia | omega)
      · simp only [Ex.size]; (first | lia | omega)
      · (first | lia | omega)
      · exact tup_reads (News.isTup N9 (.head _)) (.cons (as := []) (bs := []) (.str _ _) (.cons (as := []) (bs := []) (hD3.reads F9 (News.sub (a := r3) N9 fun p hp => .tail _ (.tail _ hp))) .nil))
  | succ dn ih =>
    intro w p loose mean mg mb s dp un gd fr Q E pen l ns k n c q t1 t2 t3 t4 X T hdp hp hS hk hc hq hret
    refine wpAny_call ?_
    refine' enterH [(pen, penO l k c q t1 t2 t3 n)] (binds := [(Str.ofString "pen", .ref pen), (Str.ofString "deep", .int ((dn + 1 : Nat) : Int) t4)]) X T ?hN ?k1 ?k2 ?k3 ?k4 ?k5 ?_ ?c2 ?c3 ?c4 ?c5
    case hN => intro q hq; rw [List.mem_singleton.mp hq]; exact hp
    case k1 => k_is
    case k2 => k_is
    case k3 => (try simp only [topA, depth_deeper] at *); (first | lia | omega)
    case k4 => exact BindsTo.of_eq rfl
    case k5 => exact locs rfl
    case c2 => exact rfl
    case c3 => exact rfl
    case c4 => exact rfl
    case c5 => decide
    intro L h₁ F N hL
    refine wpAny_noRaise ?_
    replace F : Fr (hideAll s.heap [pen]) L h₁ _ := F
    replace N : News (hideAll s.heap [pen]) L h₁ [(pen, penO l k c q t1 t2 t3 n)] := N
    generalize hG : hideAll s.heap [pen] = G at *
    have h2p : 2 ^ (dn + 1 + 2) = 2 * 2 ^ (dn + 2) := by rw [Nat.pow_succ]; (first | lia | omega)
    have h1p : 2 ^ (dn + 1 + 1) = 2 * 2 ^ (dn + 1) := by rw [Nat.pow_succ]; (first | lia | omega)
    have h0p : 2 ≤ 2 ^ (dn + 2) := by have := Nat.one_le_two_pow (n := dn + 1); rw [Nat.pow_succ]; (first | lia | omega)
    have h00 : 1 ≤ 2 ^ (dn + 1) := Nat.one_le_two_pow
    try dsimp only
    try k_fold
    k_with_none
    k_with "call ref" => (refine' halt ?_)
    repeat' (first | (k_unfold; (try dsimp only)) | (k_end; wrow_close) | ((try dsimp only); walk1) | (leave1; walk_say "STEP leave1"; try dsimp only) | fail "no step")
    refine Halt.mk ?_
    rename Fr _ _ _ _ => F9
    rename News _ _ _ _ => N9
    refine draw_spec (ns := ns) (X.keeps (pen_hid F9 N9)) (T.keeps (pen_hid F9 N9)) ?hd1 (N9 _ (.head _)).1 (hS.keeps (pen_hid F9 N9)) (by (first | lia | omega)) hc hq ⟨by decide, by decide⟩ ?_
    case hd1 => show dp + 1 < recursionLimit; (first | lia | omega)
    intro h2 tk2 d td k' c' u1 u2 u3 n' hd0 hd8 hk1 hk2 hc' hS2 hp2
    obtain ⟨F2, N2⟩ := pen_turn F9 N9 (fun p hp => nomatch hp) hS2 hp2
    clear F9 N9
    try dsimp only
    try k_fold
    have ed : ((dn + 1 : Nat) : Int) - 1 = (dn : Int) := by (first | lia | omega)
    rcases (by (first | lia | omega) : d < 5 ∨ d = 5 ∨ d = 6 ∨ d = 7) with hd | hd | hd | hd
    ·
      repeat' (first | (k_unfold; (try dsimp only)) | (k_end; wrow_close) | ((try dsimp only); walk1) | (leave1; walk_say "STEP leave1"; try dsimp only) | fail "no step")
      refine Halt.mk ?_
      rename Fr _ _ _ _ => F9
      rename News _ _ _ _ => N9
      obtain ⟨o, hx⟩ := op_item hd0 hd
      refine item_op hx (News.isTup N9 (.head _)) (by simp only [Bool.and_eq_true, decide_eq_true_eq]; (first | lia | omega)) (fun to => ?_) (by with_unfolding_all rfl)
      repeat' (first | (k_unfold; (try dsimp only)) | (k_end; wrow_close) | ((try dsimp only); walk1) | (leave1; walk_say "STEP leave1"; try dsimp only) | fail "no step")
      refine Halt.mk ?_
      rename Fr _ _ _ _ => F9
      rename News _ _ _ _ => N9
      rw [ed]
      have Np := News.sub (a := [(pen, penO l k' c' q u1 u2 u3 n')]) N9 (fun p hp => by rw [List.mem_singleton.mp hp]; exact .tail _ (.head _))
      refine ih (ns := ns) (X.keeps (pen_hid F9 Np)) (T.keeps (pen_hid F9 Np)) ?hd2 (Np _ (.head _)).1 (hS.keeps (pen_hid F9 Np)) (by (first | lia | omega)) hc' hq ?_
      case hd2 => show dp + 1 + dn + 2 < recursionLimit; (first | lia | omega)
      intro h3 tk3 v3 e3 k3 c3 w1 w2 w3 n3 hdp3 hok3 hbd3 hsz3 hk3 hc3 hS3 hp3 hR3
      obtain ⟨F3, N3⟩ := pen_turn F9 Np (fun p hp => nomatch hp) hS3 hp3
      clear F9 N9 Np
      refine Reads.regE F3 hR3 fun r3 hT3 hNr3 hD3 => ?_
      have hoff3 : ∀ p ∈ r3, p.1 ≠ pen := by
        intro p hp e
        have h1 := (hNr3 p hp).1
        rw [e, hp3] at h1
        have h2 := hT3 p hp
        rw [← Option.some.inj h1] at h2
        exact absurd (Value.type.inj h2) (by decide)
      have N4 := News.front N3 hNr3
      clear N3 hNr3
      try dsimp only
      try k_fold
      repeat' (first | (k_unfold; (try dsimp only)) | (k_end; wrow_close) | ((try dsimp only); walk1) | (leave1; walk_say "STEP leave1"; try dsimp only) | fail "no step")
      refine Halt.mk ?_
      rename Fr _ _ _ _ => F9
      rename News _ _ _ _ => N9
      rw [ed]
      refine ih (ns := ns) (X.keeps (pen_hid F9 N9)) (T.keeps (pen_hid F9 N9)) ?hd3 (N9 _ (.head _)).1 (hS.keeps (pen_hid F9 N9)) (by (first | lia | omega)) hc3 hq ?_
      case hd3 => show dp + 1 + dn + 2 < recursionLimit; (first | lia | omega)
      intro h4 tk4 v4 e4 k4 c4 x1 x2 x3 n4 hdp4 hok4 hbd4 hsz4 hk4 hc4 hS4 hp4 hR4
      obtain ⟨F4, N5⟩ := pen_turn F9 N9 hoff3 hS4 hp4
      clear F9 N9
      refine Reads.regE F4 hR4 fun r4 hT4 hNr4 hD4 => ?_
      have N6 := News.front N5 (News.app hNr4 (News.tl N5))
      clear N5 hNr4
      try dsimp only
      try k_fold
      repeat' (first | (k_unfold; (try dsimp only)) | (k_end; wrow_close) | ((try dsimp only); walk1) | (leave1; walk_say "STEP leave1"; try dsimp only) | fail "no step")
      try k_unfold
      try dsimp only
      rename Fr _ _ _ _ => F9
      rename News _ _ _ _ => N9
      refine hret _ _ _ (.bin o e3 e4) k4 c4 x1 x2 x3 n4 ?_ ⟨hok3, hok4⟩ ?_ ?_ ?_ hc4 F9.keep (N9 _ (.tail _ (.head _))).1 ?_
      · simp only [Ex.deep]; (first | lia | omega)
      · have := Ex.bd_bin o e3 e4 hbd3 hbd4 (by (first | lia | omega)); (first | lia | omega)
      · simp only [Ex.size]; (first | lia | omega)
      · (first | lia | omega)
      · exact tup_reads (News.isTup N9 (.head _)) (.cons (as := []) (bs := []) (.str _ _) (.cons (as := []) (bs := []) (hD3.reads F9 (News.sub (a := r3) N9 fun p hp => .tail _ (.tail _ (List.mem_append_right _ hp)))) (.cons (as := []) (bs := []) (hD4.reads F9 (News.sub (a := r4) N9 fun p hp => .tail _ (.tail _ (List.mem_append_left _ hp)))) .nil)))
    ·
      repeat' (first | (k_unfold; (try dsimp only)) | (k_end; wrow_close) | ((try dsimp only); walk1) | (leave1; walk_say "STEP leave1"; try dsimp only) | fail "no step")
      refine Halt.mk ?_
      rename Fr _ _ _ _ => F9
      rename News _ _ _ _ => N9
      rw [ed]
      refine ih (ns := ns) (X.keeps (pen_hid F9 N9)) (T.keeps (pen_hid F9 N9)) ?hd4 (N9 _ (.head _)).1 (hS.keeps (pen_hid F9 N9)) (by (first | lia | omega)) hc' hq ?_
      case hd4 => show dp + 1 + dn + 2 < recursionLimit; (first | lia | omega)
      intro h3 tk3 v3 e3 k3 c3 w1 w2 w3 n3 hdp3 hok3 hbd3 hsz3 hk3 hc3 hS3 hp3 hR3
      obtain ⟨F3, N3⟩ := pen_turn F9 N9 (fun p hp => nomatch hp) hS3 hp3
      clear F9 N9
      refine Reads.regE F3 hR3 fun r3 hT3 hNr3 hD3 => ?_
      have N4 := News.front N3 hNr3
      clear N3 hNr3
      try dsimp only
      try k_fold
      repeat' (first | (k_unfold; (try dsimp only)) | (k_end; wrow_close) | ((try dsimp only); walk1) | (leave1; walk_say "STEP leave1"; try dsimp only) | fail "no step")
      try k_unfold
      try dsimp only
      rename Fr _ _ _ _ => F9
      rename News _ _ _ _ => N9
      refine hret _ _ _ (.neg e3) k3 c3 w1 w2 w3 n3 ?_ hok3 ?_ ?_ ?_ hc3 F9.keep (N9 _ (.tail _ (.head _))).1 ?_
      · simp only [Ex.deep]; (first | lia | omega)
      · simp only [Ex.bd]; (first | lia | omega)
      · simp only [Ex.size]; (first | lia | omega)
      · (first | lia | omega)
      · exact tup_reads (News.isTup N9 (.head _)) (.cons (as := []) (bs := []) (.str _ _) (.cons (as := []) (bs := []) (hD3.reads F9 (News.sub (a := r3) N9 fun p hp => .tail _ (.tail _ hp))) .nil))
    ·
      repeat' (first | (k_unfold; (try dsimp only)) | (k_end; wrow_close) | ((try dsimp only); walk1) | (leave1; walk_say "STEP leave1"; try dsimp only) | fail "no step")
      refine Halt.mk ?_
      rename Fr _ _ _ _ => F9
      rename News _ _ _ _ => N9
      refine draw_spec (ns := ns) (X.keeps (pen_hid F9 N9)) (T.keeps (pen_hid F9 N9)) ?hd5 (N9 _ (.head _)).1 (hS.keeps (pen_hid F9 N9)) (by (first | lia | omega)) hc' hq ⟨by decide, by decide⟩ ?_
      case hd5 => show dp + 1 < recursionLimit; (first | lia | omega)
      intro h3 tk3 d3 td3 k3 c3 w1 w2 w3 n3 hd30 hd33 hk3 hk4 hc3 hS3 hp3
      obtain ⟨F3, N3⟩ := pen_turn F9 N9 (fun p hp => nomatch hp) hS3 hp3
      clear F9 N9
      try dsimp only
      try k_fold
      refine item_abc hd30 hd33 (fun i hi => ?_) (by with_unfolding_all rfl) (by intro _; with_unfolding_all rfl)
      repeat' (first | (k_unfold; (try dsimp only)) | (k_end; wrow_close) | ((try dsimp only); walk1) | (leave1; walk_say "STEP leave1"; try dsimp only) | fail "no step")
      try k_unfold
      try dsimp only
      rename Fr _ _ _ _ => F9
      rename News _ _ _ _ => N9
      refine hret _ _ _ (.ref i) k3 c3 w1 w2 w3 n3 (Nat.zero_le _) trivial ?_ ?_ ?_ hc3 F9.keep (N9 _ (.tail _ (.tail _ (.tail _ (.head _))))).1 ?_
      · simp only [Ex.bd]; (first | lia | omega)
      · simp only [Ex.size]; (first | lia | omega)
      · (first | lia | omega)
      · exact tup_reads (News.isTup N9 (.head _)) (.cons (as := []) (bs := []) (.str _ _) (.cons (as := []) (bs := []) (.str _ _) (.cons (as := []) (bs := []) (tup_reads (items := []) (News.isTup N9 (.tail _ (.tail _ (.head _)))) .nil) (.cons (as := []) (bs := []) (tup_reads (items := []) (News.isTup N9 (.tail _ (.head _))) .nil) (.cons (as := []) (bs := []) .none .nil)))))
    ·
      repeat' (first | (k_unfold; (try dsimp only)) | (k_end; wrow_close) | ((try dsimp only); walk1) | (leave1; walk_say "STEP leave1"; try dsimp only) | fail "no step")
      refine Halt.mk ?_
      rename Fr _ _ _ _ => F9
      rename News _ _ _ _ => N9
      replace N9 := News.rot (a := [_, _, _, _, _, _]) N9
      refine draw_spec (ns := ns) (X.keeps (pen_hid F9 N9)) (T.keeps (pen_hid F9 N9)) ?hd6 (N9 _ (.head _)).1 (hS.keeps (pen_hid F9 N9)) (by (first | lia | omega)) hc' hq ⟨by decide, by decide⟩ ?_
      case hd6 => show dp + 1 < recursionLimit; (first | lia | omega)
      intro h3 tk3 d3 td3 k3 c3 w1 w2 w3 n3 hd30 hd33 hk3 hk4 hc3 hS3 hp3
      obtain ⟨F3, N3⟩ := pen_turn F9 N9 (tup_ne N9 (.head _) (fun q => absurd (Value.type.inj q) (by decide)) (fun p hp => .tail _ hp) (by (intro q hq; simp only [List.mem_cons, List.not_mem_nil, or_false] at hq; rcases hq with rfl | rfl | rfl | rfl | rfl | rfl <;> rfl))) hS3 hp3
      clear F9 N9
      try dsimp only
      try k_fold
      repeat' (first | (k_unfold; (try dsimp only)) | (k_end; wrow_close) | ((try dsimp only); walk1) | (leave1; walk_say "STEP leave1"; try dsimp only) | fail "no step")
      refine Halt.mk ?_
      rename Fr _ _ _ _ => F9
      rename News _ _ _ _ => N9
      obtain ⟨v, nn, hx, hr, hb1, hb2⟩ := num_item (n1 := (0, 0)) (n2 := (5, 0)) (n3 := (25, 2)) (n4 := (-5, 0)) (n5 := (-7, 1)) hd30 hd33 (num_close (News.isTup N9 (by k_mem))) (num_close (News.isTup N9 (by k_mem))) (num_close (News.isTup N9 (by k_mem))) (num_close (News.isTup N9 (by k_mem))) (num_close (News.isTup N9 (by k_mem))) (by
        intro n hn
        simp only [List.mem_cons, List.not_mem_nil, or_false] at hn
        rcases hn with rfl | rfl | rfl | rfl | rfl <;> exact ⟨bd_small (by decide), by decide⟩)
      refine item_c (l := [_, _, _, _, _]) (News.isTup N9 (by k_mem)) (by simp only [Bool.and_eq_true, decide_eq_true_eq]; (first | lia | omega)) hx ?_ (by with_unfolding_all rfl)
      refine Reads.regE F9 hr fun r3 hT3 hNr3 hD3 => ?_
      have N4 := News.front N9 hNr3
      clear N9 hNr3
      repeat' (first | (k_unfold; (try dsimp only)) | (k_end; wrow_close) | ((try dsimp only); walk1) | (leave1; walk_say "STEP leave1"; try dsimp only) | fail "no step")
      try k_unfold
      try dsimp only
      rename Fr _ _ _ _ => F9
      rename News _ _ _ _ => N9
      refine hret _ _ _ (.num nn) k3 c3 w1 w2 w3 n3 (Nat.zero_le _) ⟨hb1, hb2⟩ ?_ ?_ ?_ hc3 F9.keep (N9 _ (.tail _ (.head _))).1 ?_
      · simp only [Ex.bd]; (first | lia | omega)
      · simp only [Ex.size]; (first | lia | omega)
      · (first | lia | omega)
      · exact tup_reads (News.isTup N9 (.head _)) (.cons (as := []) (bs := []) (.str _ _) (.cons (as := []) (bs := []) (hD3.reads F9 (News.sub (a := r3) N9 fun p hp => .tail _ (.tail _ hp))) .nil))
end
end
end Mine
namespace Mine

open PySem.SeqAt
theorem dat_can : ∀ e : Ex, (dat e).canLay0 = true
  | .ref i => by
    unfold dat
    simp only [PyData.canLay0, PyData.canLayAll0, Bool.and_true]
    unfold nm3
    split
    · decide +kernel
    split <;> decide +kernel
  | .num n => by unfold dat numD; simp only [PyData.canLay0, PyData.canLayAll0, Bool.and_true]; decide +kernel
  | .neg e => by
    have := dat_can e
    unfold dat
    simp only [PyData.canLay0, PyData.canLayAll0, Bool.and_true, this]
    decide +kernel
  | .bin o l r => by
    have h1 := dat_can l
    have h2 := dat_can r
    unfold dat
    simp only [PyData.canLay0, PyData.canLayAll0, Bool.and_true, h1, h2]
    cases o <;> decide +kernel
theorem dat_depth : ∀ e : Ex, (dat e).depth = e.deep + 2
  | .ref i => by unfold dat; simp [PyData.depth, PyData.depthAll, Ex.deep]
  | .num n => by unfold dat numD; simp [PyData.depth, PyData.depthAll, Ex.deep]
  | .neg e => by
    have := dat_depth e
    unfold dat
    simp only [PyData.depth, PyData.depthAll, Ex.deep, this]
    (first | lia | omega)
  | .bin o l r => by
    have h1 := dat_depth l
    have h2 := dat_depth r
    unfold dat
    simp only [PyData.depth, PyData.depthAll, Ex.deep, h1, h2]
    (first | lia | omega)
theorem dat_shaped {e : Ex} (h : e.deep ≤ 60) : shaped (dat e) = true := by
  unfold shaped
  rw [dat_can, dat_depth, Bool.true_and]
  exact decide_eq_true (by (first | lia | omega))
theorem num_shaped (n : Num) : shaped (numD n) = true := by unfold numD; rfl
theorem dats_can : ∀ l : List Ex, PyData.canLayAll0 (l.map dat) = true
  | [] => rfl
  | e :: r => by simp only [List.map_cons, PyData.canLayAll0, dat_can, dats_can r, Bool.and_self]
theorem dats_depth {k : Nat} : ∀ l : List Ex, (∀ e ∈ l, e.deep ≤ k) → PyData.depthAll (l.map dat) ≤ k + 2
  | [], _ => Nat.zero_le _
  | e :: r, h => by
    have h1 := h e (.head _)
    have h2 := dats_depth r fun x hx => h x (.tail _ hx)
    simp only [List.map_cons, PyData.depthAll, dat_depth]
    (first | lia | omega)
theorem dats_shaped {l : List Ex} (h : ∀ e ∈ l, e.deep ≤ 60) : shaped (.list (l.map dat)) = true := by
  unfold shaped
  have := dats_depth l h
  simp only [PyData.canLay0, PyData.depth, dats_can, Bool.true_and]
  exact decide_eq_true (by (first | lia | omega))
theorem Ex.leaf_deep : ∀ (e x : Ex), x ∈ e.leaves → x.deep = 0
  | .ref _, _, h => by rw [List.mem_singleton.mp h]; rfl
  | .num _, _, h => by rw [List.mem_singleton.mp h]; rfl
  | .neg e, x, h => e.leaf_deep x h
  | .bin _ l r, x, h => (List.mem_append.mp h).elim (l.leaf_deep x) (r.leaf_deep x)
theorem Ex.leaf_is : ∀ (e x : Ex), x ∈ e.leaves → x.isLeaf = true
  | .ref _, _, h => by rw [List.mem_singleton.mp h]; rfl
  | .num _, _, h => by rw [List.mem_singleton.mp h]; rfl
  | .neg e, x, h => e.leaf_is x h
  | .bin _ l r, x, h => (List.mem_append.mp h).elim (l.leaf_is x) (r.leaf_is x)
theorem leaves_shaped (e : Ex) : shaped (.list (e.leaves.map dat)) = true := dats_shaped fun x hx => by rw [e.leaf_deep x hx]; (first | lia | omega)
theorem reads_listOf {h : Heap} {a : Addr} {vs : List Value} {n : Nat} {ds : List PyData} (hg : h.get? a = some (listOf vs.toArray n)) (hr : ReadsAll h vs ds []) : Reads h (.ref a) (.list ds) [a] := .list hg rfl rfl (by simpa using hr)
theorem reads_isList {h : Heap} {a : Addr} {its : Array Value} {ds : List PyData} (hg : h.IsList a its) (hr : ReadsAll h its.toList ds []) : Reads h (.ref a) (.list ds) [a] := by
  obtain ⟨o, e, c, n, d⟩ := hg
  exact .list e c d hr
end Mine
namespace Mine
local macro_rules | `(tactic| walk_at "binaryOp FloorDiv int int") => `(tactic| (k_dflt (refine fdivR (by first | with_reducible assumption | decide) (by first | with_reducible assumption | exact bd_10) ?_)))
local macro_rules | `(tactic| walk_at "binaryOp Mult int int") => `(tactic| (k_dflt (refine mulR (by with_reducible assumption) ?_)))
local macro_rules | `(tactic| walk_at "subscriptTail") => `(tactic| ((with_reducible show wpAny _ _ (subscriptTail _ _ (Value.ref _) (Value.int _ _)) _ _ _); (rename Fr _ _ _ _ => F9); k_dflt (refine item_h F9 (by with_reducible assumption) (by rfl) (by rfl) ?_)))
local macro_rules | `(tactic| walk_at "binaryOp Pow int int") => `(tactic| (k_dflt (refine pow10R (by first | with_reducible assumption | decide | omega) (by first | with_reducible assumption | decide | omega) ?_)))
local macro_rules | `(tactic| walk_at "ite") => `(tactic| ((try dsimp only); first
  | (k_closed; k_dflt (first | refine ite_pos (by decide) ?_ | refine ite_neg (by decide) ?_))
  | with_reducible refine ite_tt ?_
  | with_reducible refine ite_ff ?_
  | refine ite_pos (by with_reducible assumption) ?_
  | refine ite_neg (by with_reducible assumption) ?_
  | refine ite_isFalse (by with_reducible assumption) ?_
  | refine ite_pos (by first | omega | ((simp only [decide_eq_true_eq, beq_iff_eq, bne_iff_ne, ne_eq]); omega)) ?_
  | refine ite_neg (by first | omega | ((simp only [decide_eq_true_eq, beq_iff_eq, bne_iff_ne, ne_eq]); omega)) ?_))
local macro_rules | `(tactic| walk_at "callWith") => `(tactic| first | with_reducible refine callWith_method0 ?_ | with_reducible refine callWith_method1 ?_)
section
theorem fillMZ : (fun (_ : OpenLaw) (_ : Params → Frag) => True) PySem.Challenge.rw_pc0124_01 hd.heap_39 := by
  w_top off
  k_fill
  trivial



open PySem.SeqAt

section
local macro_rules | `(tactic| walk_at "eval Name") => `(tactic| ((with_reducible show wpAny _ _ (eval _ (compEnvC _ _ _ _)) _ _ _); (rename Fr _ _ _ _ => F9); k_dflt (first
  | refine nmC_L F9 (by rfl) ?_ (by exact rfl) (by with_unfolding_all rfl)
  | ((rename Frag.In _ _ => X9); (rename Top _ _ _ _ _ _ => T9); refine nmC_K F9 X9 T9 (by k_is) ?_ (by exact rfl) (by with_unfolding_all rfl) (by exact rfl)))))
local macro_rules | `(tactic| walk_at "storeName") => `(tactic| ((with_reducible show wpAny _ _ (storeName (compEnvC _ _ _ _) _ _) _ _ _); (rename Fr _ _ _ _ => F9); (rename News _ _ _ _ => N9); k_dflt (refine stC_L F9 N9 ?_ (by exact rfl) (by with_unfolding_all rfl)); intro h' F' N'))
local macro_rules | `(tactic| walk_at "eval ListComp") => `(tactic| (k_dflt (refine ListComp_G (cl := []) (closureFor_none (by decide)) (by decide) (by rfl) (by decide) ?_)))

local macro_rules | `(tactic| walk_at "eval ListComp") => `(tactic| refine' halt ?_)
local macro_rules | `(tactic| walk_at "compareOp NotEq ref ref") => `(tactic| refine' halt ?_)
theorem folded_spec {ρ : Fin 3 → Num} (hρ : ∀ i, Bd 400 (ρ i).1 ∧ (ρ i).2 ≤ 30) {w : World} {p : Program} {loose : List Str} {mean : ExcName → Option Value} {mg mb : Str → Option Value} {s : Shared} {dp un : Nat} {gd : Option (List Code)} {fr : Option (List Env)} {Q E : Value → Shared → Prop} {v1 : Value} {vn : Addr} {e : Ex} {z : Num} {base : Heap} {outer : List Env} (X : (hd.heap_39 w.params).In s.heap) (T : Top p loose mean mg mb s.heap) (hdp : dp + 16 < recursionLimit) (hun : un + 100 < cLine) (hv1 : Reads s.heap v1 (dat e) []) (hn : e.size ≤ 200) (hbd : e.bd ≤ 8500) (ok : e.okn)
    (hfn : FnAt vn s.heap) (hnum : ∀ b : Heap, s.heap.StaysIn b → NumSpec w (dp + 2) gd b vn ρ (fun x => x.isNum = true) (fun _ hid => hid = [])) (hev : e.ev ρ = some z)
    (hfr : fr = some outer) (hB : base.StaysIn s.heap) (hFF : s.heap.FunFrames base outer)
    (hret : ∀ h' tk v, Heap.StaysIn s.heap h' → Reads h' v (if e.leaves.all Ex.isNum = true then dat (.num z) else dat e) [] → Q v { s with heap := h', toks := tk }) :
    wpAny (model PR w) (topA dp un gd fr) (call (.ref 171) [v1, .ref vn]) Q E s := by
  subst hfr
  refine' enter (binds := [(Str.ofString "expr", v1), (Str.ofString "number", .ref vn)]) X T ?k1 ?k2 ?k3 ?k4 ?k5 ?_ ?c2 ?c3 ?c4 ?c5
  case k1 => k_is
  case k2 => k_is
  case k3 => (first | assumption | ((try simp only [topA, depth_deeper] at *); (first | lia | omega)))
  case k4 => first | exact BindsTo.of_eq rfl | exact binds_K (by k_in) rfl (by k_is) rfl rfl rfl
  case k5 => exact locs rfl
  case c2 => exact rfl
  case c3 => exact rfl
  case c4 => exact rfl
  case c5 => decide
  intro L h₁ F N hL
  refine wpAny_noRaise ?_
  try dsimp only
  try k_fold
  k_with_none
  repeat' (first | (k_unfold; (try dsimp only)) | (k_end; wrow_close) | ((try dsimp only); walk1) | (leave1; walk_say "STEP leave1"; try dsimp only) | fail "no step")
  refine Halt.mk ?_
  refine' ListComp_G (cl := []) ?a9 ?b9 ?c9 ?d9 ?_
  case a9 => exact closureFor_none (by decide)
  case b9 => decide
  case c9 => rfl
  case d9 => decide
  k_with_none
  k_with "call ref" => (rename Fr _ _ _ _ => F9; rename News _ _ _ _ => N9; refine' leaves_spec (Frag.In.keeps X F9.keep) (T.keeps F9.keep) ?hd (Rd.stays hv1 F9.keep) hn ?_; (case hd => first | (first | lia | omega) | ((simp only [topA]); (first | lia | omega))); (rintro h2 tk2 a9 vs9 n9 hS ha0 hal hR; have F2 := F9.keeps hS; have N2 := N9.grown hS; clear F9 N9; (try dsimp only); skip; (try k_fold)))
  k_with "pyIter ref" => (refine' halt ?_)
  repeat' (first | (k_unfold; (try dsimp only)) | (k_end; wrow_close) | ((try dsimp only); walk1) | (leave1; walk_say "STEP leave1"; try dsimp only) | fail "no step")
  refine Halt.mk ?_
  rename Fr _ _ _ _ => F8
  rename News _ _ _ _ => N8
  refine wpAny_pyIter_list ⟨_, hal, rfl, _, rfl⟩ ?_
  refine CompG.list [] (fun i ys rest => rest = [] ∧ ReadsAll h2 ys (((e.leaves.take i).filter (fun x => !x.isNum)).map dat) []) rfl ⟨_, hal, rfl, _, rfl⟩ (by simp) (by simp) ?hsz ?htg ⟨rfl, .nil⟩ ?turn ?done
  case htg => exact .inr fun _ _ => rfl
  case hsz =>
    rw [sizeLine_eq, List.size_toArray, readsAll_len hR, List.length_map]
    have := e.leaves_len
    (first | lia | omega)
  case turn =>
    rintro h₀ C D I i v ys rest oI k h m tk tk₀ hp E' kg hi hP ⟨rfl, hY⟩ F N hID -
    replace kg : h2.StaysIn h₀ := kg
    obtain ⟨d, hd, hr⟩ := readsAll_get hR rfl i v (by simpa using hP)
    rw [List.getElem?_map] at hd
    obtain ⟨x, hx, rfl⟩ := Option.map_eq_some_iff.mp hd
    have hlf := e.leaf_is x (List.mem_of_getElem? hx)
    have X : (Mine.hd.heap_39 w.params).In h₀ := X.keeps fun b o q => kg b o (F8.keep b o q)
    have T := T.keeps fun b o q => kg b o (F8.keep b o q)
    clear F8 N8
    cases x with
    | ref j =>
      obtain ⟨a, t1, t2, v3, v4, rfl, hI⟩ := ref_open hr
      have hI := Tup.keeps kg hI
      k_with_none
      repeat' (first | (k_unfold; (try dsimp only)) | (k_end; wrow_close) | ((try dsimp only); walk1) | (leave1; walk_say "STEP leave1"; try dsimp only) | fail "no step")
      rename Fr _ _ _ _ => F9
      rename News _ _ _ _ => N9
      refine CEnd.intro [] F9 N9 (by simp) ⟨rfl, ?_⟩
      rw [List.take_add_one, hx, List.filter_append, List.map_append]
      exact readsAll_snoc hr hY rfl
    | num n =>
      obtain ⟨a, t1, v1, rfl, hI, r1⟩ := pair_open hr
      have hI := Tup.keeps kg hI
      k_with_none
      repeat' (first | (k_unfold; (try dsimp only)) | (k_end; wrow_close) | ((try dsimp only); walk1) | (leave1; walk_say "STEP leave1"; try dsimp only) | fail "no step")
      rename Fr _ _ _ _ => F9
      rename News _ _ _ _ => N9
      refine CEnd.intro [] F9 N9 (by simp) ⟨rfl, ?_⟩
      rw [List.take_add_one, hx, List.filter_append, List.map_append]
      simpa [Ex.isNum] using hY
    | neg _ => cases hlf
    | bin _ _ _ => cases hlf
  case done =>
    rintro D h' tk ys rest k ⟨rfl, hY⟩ hs hD hD0 - -
    have e1 : e.leaves.take vs9.toArray.size = e.leaves := by
      rw [List.size_toArray, readsAll_len hR, List.length_map, List.take_length]
    rw [e1] at hY
    replace hs : h2.StaysIn h' := hs
    have FD := fresh_of F8 N8 D hD0
    have F7 := F8.keeps hs
    have hY' := readsAll_tk hs hY
    refine ReadsAll.regE F7 hY' fun rg hTg hNg hDg => ?_
    have N7 : News s.heap L h' ((D, listOf ys.toArray k) :: rg) := fun p hp => by
      rcases List.mem_cons.mp hp with rfl | hp
      · exact ⟨hD, FD.2.1, FD.1⟩
      · exact hNg p hp
    clear F8 N8 hNg
    k_with_none
    repeat' (first | (k_unfold; (try dsimp only)) | (k_end; wrow_close) | ((try dsimp only); walk1) | (leave1; walk_say "STEP leave1"; try dsimp only) | fail "no step")
    refine Halt.mk ?_
    rename Fr _ _ _ _ => F9
    rename News _ _ _ _ => N9
    have hRD := reads_listOf (N9 _ (.tail _ (.head _))).1 (hDg.reads F9 (News.sub (a := rg) N9 fun p hp => .tail _ (.tail _ hp)))
    have hR0 := reads_listOf (vs := []) (N9 _ (.head _)).1 .nil
    have hu : un + 3 + 64 < cLine := by (first | lia | omega)
    refine compareNe_shaped hRD hR0 (dats_shaped fun x hx => by rw [e.leaf_deep x (List.mem_filter.mp hx).1]; (first | lia | omega)) (dats_shaped (l := []) fun x hx => nomatch hx) hu ?_
    clear hRD hR0
    cases hf : e.leaves.filter (fun x => !x.isNum) with
    | cons x r =>
      have hne : ¬ (e.leaves.all Ex.isNum = true) := by
        intro q
        have hx : x ∈ e.leaves.filter (fun x => !x.isNum) := by rw [hf]; exact .head _
        obtain ⟨h1, h2⟩ := List.mem_filter.mp hx
        rw [List.all_eq_true.mp q x h1] at h2
        cases h2
      rw [if_neg hne] at hret
      have e2 : (!PyData.eqv (.list ((x :: r).map dat)) (.list ([] : List PyData))) = true := rfl
      rw [e2]
      repeat' (first | (k_unfold; (try dsimp only)) | (k_end; wrow_close) | ((try dsimp only); walk1) | (leave1; walk_say "STEP leave1"; try dsimp only) | fail "no step")
      exact hret _ _ _ (Fr.keep (by assumption)) (Rd.stays hv1 (Fr.keep (by assumption)))
    | nil =>
      have hall : e.leaves.all Ex.isNum = true := by
        refine List.all_eq_true.mpr fun x hx => ?_
        cases q : x.isNum with
        | true => rfl
        | false =>
          have : x ∈ e.leaves.filter (fun x => !x.isNum) := List.mem_filter.mpr ⟨hx, by rw [q]; rfl⟩
          rw [hf] at this; cases this
      rw [if_pos hall] at hret
      have e2 : (!PyData.eqv (.list (([] : List Ex).map dat)) (.list ([] : List PyData))) = false := rfl
      rw [e2]
      k_with "call ref" => (refine' halt ?_)
      repeat' (first | (k_unfold; (try dsimp only)) | (k_end; wrow_close) | ((try dsimp only); walk1) | (leave1; walk_say "STEP leave1"; try dsimp only) | fail "no step")
      refine Halt.mk ?_
      rename Fr _ _ _ _ => F9
      rename News _ _ _ _ => N9
      refine reckoned_spec (ρ := ρ) hρ (hid := []) (okl := fun x => x.isNum = true) (Inv := fun _ hid => hid = []) (base := base) (outer := _) (X.keeps F9.keep) (T.keeps F9.keep) (fun q hq => nomatch hq) ?hd3 (Rd.stays hv1 F9.keep) rfl (fun done hid' q p hp => by rw [q] at hp; cases hp) (FnAt.keeps hfn F9.keep) (hnum _ F9.keep) (fun x hx => List.all_eq_true.mp hall x hx) hn hbd ok rfl (fun b o q => F9.keep b o (hB b o q)) (ff_cons (env := (envOf _ _ _ _ _)) rfl rfl hL F9 hB hFF) ?hr3 ?hx3
      case hd3 => show dp + 1 + 14 < recursionLimit; (first | lia | omega)
      case hx3 => intro q; rw [hev] at q; cases q
      rintro z' hid' h3 tk3 v3 hz' hS3 - - - hR3
      rw [hev] at hz'
      cases hz'
      replace hS3 := fun b o q => hS3 b o q
      have F2 := F9.keeps hS3
      clear F9 N9
      refine Reads.regE F2 hR3 fun rl hTl hNl hDl => ?_
      k_with_none
      repeat' (first | (k_unfold; (try dsimp only)) | (k_end; wrow_close) | ((try dsimp only); walk1) | (leave1; walk_say "STEP leave1"; try dsimp only) | fail "no step")
      rename Fr _ _ _ _ => F9
      rename News _ _ _ _ => N9
      try k_unfold
      try dsimp only
      refine hret _ _ _ F9.keep ?_
      exact tup_reads (News.isTup N9 (.head _)) (.cons (as := []) (bs := []) (.str _ _) (.cons (as := []) (bs := []) (hDl.reads F9 (News.sub (a := rl) N9 fun p hp => .tail _ hp)) .nil))
end
end
section
theorem fillMT : (fun (_ : OpenLaw) (_ : Params → Frag) => True) PySem.Challenge.rw_pc0124_01 hd.heap_39 := by
  w_top off
  k_fill
  trivial




noncomputable def NPOS : Pos := ⟨195, 4, 197, 71⟩
noncomputable def NQ : Str := Str.ofString "_law_asked.<locals>.number"
inductive AskedEnd (G : Heap) (ρ : Fin 3 → Num) (e : Ex) (L0 : Addr) (o0 : Obj) (h' : Heap) (v : Value) : Prop
  | mk (aR : Addr) (vf : Value) (aA : Addr) (oA : Obj) (its : Array Value) (ds : List Ex) (ps' : Array Value) (c' : Addr) (X : List (Addr × Obj))
    (q0 : v = .ref aR)
    (q1 : h'.get? aR = some ({ cls := .type "tuple", data := .seq #[vf, .ref aA] } : Obj))
    (q2 : h'.get? aA = some oA)
    (q3 : h'.IsList aA its)
    (q4 : Reads h' vf (match e.ev ρ with | some z => numD z | none => .str (Str.ofString "size")) [])
    (q5 : ReadsAll h' its.toList (ds.map dat) [])
    (q6 : ds <+: e.leaves)
    (q7 : ((e.ev ρ).isSome = true → ds = e.leaves))
    (q8 : G.StaysIn h')
    (q9 : h'.get? 254 = some (tabObj ps'))
    (q10 : TriplesOk ps'.toList)
    (q11 : codeAmong NPOS ps'.toList = some (.ref c'))
    (q12 : (∃ sl, h'.get? L0 = some { o0 with slots := sl }))
    (q13 : (∀ p ∈ (aR, ({ cls := .type "tuple", data := .seq #[vf, .ref aA] } : Obj)) :: (aA, oA) :: X, h'.get? p.1 = some p.2 ∧ G.get? p.1 = none ∧ @Ne Nat p.1 254 ∧ @Ne Nat p.1 L0))
    (q14 : (∀ H, G.StaysIn H → (∀ p ∈ X, H.get? p.1 = some p.2) → H.CodeRec (.ref c') NQ)) : AskedEnd G ρ e L0 o0 h' v
section
local macro_rules | `(tactic| walk_at "exec FunctionDef") => `(tactic| refine' halt ?_)
local macro_rules | `(tactic| walk_at "eval Name") => `(tactic| ((rename Fr _ _ _ _ => F9); k_dflt (refine nameX_G F9 (by exact rfl) (by assumption) ?_ (by exact rfl) (by rfl))))
theorem asked_spec {ρ : Fin 3 → Num} (hρ : ∀ i, Bd 400 (ρ i).1 ∧ (ρ i).2 ≤ 30) {w : World} {p : Program} {loose : List Str} {mean : ExcName → Option Value} {mg mb : Str → Option Value} {s : Shared} {dp un : Nat} {gd : Option (List Code)} {Q E : Value → Shared → Prop}
    {v1 : Value} {d L0 : Addr} {o0 : Obj} {e : Ex} {envL : Env} {ps : Array Value}
    (X : (hd.heap_39 w.params).In (hideAll s.heap [254, L0])) (T : Top p loose mean mg mb (hideAll s.heap [254, L0])) (h254 : s.heap.get? 254 = some (tabObj ps)) (hL0 : s.heap.get? L0 = some o0) (ho0 : ∃ es ep, o0.data = .dict es ep)
    (hne : @Ne Nat 254 L0) (C : CodeHd (hideAll s.heap [254, L0]) 258 254) (ht : TriplesOk ps.toList) (hcase : codeAmong NPOS ps.toList = none ∨ ∃ c', codeAmong NPOS ps.toList = some (.ref c') ∧ (hideAll s.heap [254, L0]).CodeRec (.ref c') NQ)
    (hdp : dp + 20 < recursionLimit) (hv1 : Reads (hideAll s.heap [254, L0]) v1 (dat e) []) (hw : WorldAt w (hideAll s.heap [254, L0]) d ρ) (hn : e.size ≤ 200) (hbd : e.bd ≤ 8500) (ok : e.okn)
    (hFF : s.heap.FunFrames (hideAll s.heap [254, L0]) [envL]) (hfL : envL.frame = some L0)
    (hret : ∀ h' tk v, AskedEnd (hideAll s.heap [254, L0]) ρ e L0 o0 h' v → Q v { s with heap := h', toks := tk }) :
    wpAny (model PR w) (topA dp un gd (some [envL])) (call (.ref 259) [v1, .ref d]) Q E s := by
  refine wpAny_call ?_
  refine' enterC (hid := [(254, tabObj ps), (L0, o0)]) (binds := [(Str.ofString "expr", v1), (Str.ofString "world", .ref d)]) X T ?hN ?k1 ?k2 ?k3 ?k4 ?k5 ?kn ?_ ?c2 ?c3 ?c4
  case hN =>
    intro q hq
    simp only [List.mem_cons, List.not_mem_nil, or_false] at hq
    rcases hq with rfl | rfl
    · exact h254
    · exact hL0
  case k1 => k_is
  case k2 => k_is
  case k3 => (try simp only [topA, depth_deeper] at *); (first | lia | omega)
  case k4 => exact BindsTo.of_eq rfl
  case k5 =>
    intro n x hx
    simp only [List.mem_cons, List.not_mem_nil, or_false] at hx
    rcases hx with rfl | rfl
    · exact .inl rfl
    · exact .inr ⟨rfl, rfl⟩
  case kn => decide
  case c2 => exact rfl
  case c3 => exact rfl
  case c4 => exact rfl
  intro L h₁ tk cells F N Y hL hlt
  obtain ⟨oc1, oc2, rfl, hoc1, hoc2⟩ := CellsAre.two Y
  clear Y
  replace F : Fr (hideAll s.heap [254, L0]) L h₁ (mOf [(Str.ofString "expr", v1)]) := by rw [mOf_cons, mOf_nil]; exact F
  replace N : News (hideAll s.heap [254, L0]) L h₁ [(L + 1 + 1, oc1), (L + 1, oc2), (254, tabObj ps), (L0, o0)] := N
  replace hoc1 : oc1.data = .cell none := hoc1
  replace hoc2 : oc2.data = .cell (some (.ref d)) := hoc2
  have hl1 := ltN (a := 254) (b := L) (hlt (254, tabObj ps) (.head _))
  have hl2 := ltN (a := L0) (b := L) (hlt (L0, o0) (.tail _ (.head _)))
  clear hlt
  refine wpAny_noRaise ?_
  generalize hG : hideAll s.heap [254, L0] = G at *
  try dsimp only
  try k_fold
  k_with_none
  repeat' (first | (k_unfold; (try dsimp only)) | (k_end; wrow_close) | ((try dsimp only); walk1) | (leave1; walk_say "STEP leave1"; try dsimp only) | fail "no step")
  refine Halt.mk ?_
  refine' nestDef_K rfl rfl rfl ?_
  with_unfolding_all (change wpAny _ _ (makeFunction _ NQ _ _ _ _ _ _ _ _ _) _ _ _)
  rename Fr _ _ _ _ => F9
  rename News _ _ _ _ => N9
  rename_i aA h5 la D h4 lb h3 h2 o8 d8 h1 h0
  have N1 : News G L h0 ([(aA, listOf #[] 0), (L + 1 + 1, o8), (L + 1, oc2), (L0, o0)] ++ [(254, tabObj ps)]) := News.sub N9 (by
    intro p hp
    simp only [List.cons_append, List.nil_append, List.mem_cons, List.not_mem_nil, or_false] at hp ⊢
    rcases hp with h | h | h | h | h
    · exact .inr (.inl h)
    · exact .inr (.inr (.inl h))
    · exact .inr (.inr (.inr (.inl h)))
    · exact .inr (.inr (.inr (.inr (.inr h))))
    · exact .inr (.inr (.inr (.inr (.inl h)))))
  refine make_def (clos := [(Str.ofString "world", L + 1), (Str.ofString "asked", L + 1 + 1)]) F9 N1 ?hB T C rfl ht hcase ?hcl ?_
  case hcl => with_unfolding_all rfl
  case hB =>
    intro p hp
    simp only [List.mem_cons, List.not_mem_nil, or_false] at hp
    rcases hp with rfl | rfl | rfl | rfl <;> (refine neN ?_; dsimp only; (first | lia | omega))
  clear F9 N9 N1
  intro f fO c' ctv doc h' tk1 X9 ps' hfO F1 N2 hf1 hf2 ht' hc' hrec hX9 hX9'
  have lf1 := ltN (hf1 _ (.head _))
  have lf2 := ltN (hf1 _ (.tail _ (.head _)))
  have lf3 := ltN (hf1 _ (.tail _ (.tail _ (.head _))))
  have lf4 := ltN (hf1 _ (.tail _ (.tail _ (.tail _ (.head _)))))
  dsimp only at lf1 lf2 lf3 lf4
  have N3 := asked_ord N2
  clear N2
  k_with_none
  k_with "exec Try" => (refine wpAny_Try_except ?_)
  k_with "call ref" => (refine' halt ?_)
  repeat' (first | (k_unfold; (try dsimp only)) | (k_end; wrow_close) | ((try dsimp only); walk1) | (leave1; walk_say "STEP leave1"; try dsimp only) | fail "no step")
  refine Halt.mk ?_
  rename Fr _ _ _ _ => F9
  rename News _ _ _ _ => N9
  rename_i hh
  have hAx : ∀ p ∈ X9, p.1 ≠ aA := fun p hp => ((hX9 p hp).2.2 _ (.head _)).symm
  have hGA : G.get? aA = none := (N9 _ (.tail _ (.head _))).2.2
  have kGr : G.StaysIn (hideAll hh [aA]) := stays_hide F9.keep fun a ha => by rw [List.mem_singleton.mp ha]; exact hGA
  have inGr : ∀ a o, hh.get? a = some o → @Ne Nat a aA → (hideAll hh [aA]).get? a = some o := fun a o e q => hideAll_get _ e (by simpa using q)
  have gf := inGr f fO (N9 _ (.head _)).1 (by (first | lia | omega))
  have gA := inGr (L + 1 + 1) o8 (N9 _ (.tail _ (.tail _ (.head _)))).1 (by (first | lia | omega))
  have gW := inGr (L + 1) oc2 (N9 _ (.tail _ (.tail _ (.tail _ (.head _))))).1 (by (first | lia | omega))
  have hrecG := hrec (hideAll hh [aA]) kGr (fun p hp => inGr _ _ (N9 p (.tail _ (.tail _ (.tail _ (.tail _ (.tail _ (.tail _ hp))))))).1 (hAx p hp))
  generalize hGr : hideAll hh [aA] = Gr at kGr gf gA gW hrecG
  have cA : Gr.IsCell (L + 1 + 1) (some (.ref aA)) := ⟨_, gA, d8⟩
  have cW : Gr.IsCell (L + 1) (some (.ref d)) := ⟨_, gW, hoc2⟩
  have hGrA : Gr.get? aA = none := by rw [← hGr]; exact hideAll_none _ (.head _)
  have hnum : NumSpec w (dp + 2) gd Gr f ρ (fun x => x.isLeaf = true) (fun done hid => ∃ vs n, hid = [(aA, listOf (List.toArray vs) n)] ∧ ReadsAll Gr vs (done.map dat) []) := by
    clear F9 N9
    rintro un2 s2 fr2 Q2 E2 v x done _ hx hv hst hget hnone hdl ⟨vs, n, rfl, hR⟩ hret2
    have st : Gr.StaysIn (hideAll s2.heap [aA]) := stays_hide hst fun a ha => by rw [List.mem_singleton.mp ha]; exact hGrA
    have hvl : vs.length ≤ 200 := by rw [readsAll_len hR, List.length_map]; exact hdl
    have X := X.keeps fun b o q => st b o (kGr b o q)
    have T := T.keeps fun b o q => st b o (kGr b o q)
    have hw := hw.keeps fun b o q => st b o (kGr b o q)
    have cA := Cell.keeps st cA
    have cW := Cell.keeps st cW
    have hv2 := Rd.stays hv st
    refine wpAny_call ?_
    refine' enterX [(aA, listOf vs.toArray n)] (binds := [(Str.ofString "operand", v)]) T ?hN ?k1 ?k2 ?k3 ?k4 ?k5 ?_ ?c2 ?c3 ?c4 ?c5
    case hN => intro q hq; rw [List.mem_singleton.mp hq]; exact hget _ (.head _)
    case k1 => exact hfO ▸ st _ _ gf
    case k2 => exact hrecG.keeps st
    case k3 => show dp + 2 < recursionLimit; (first | lia | omega)
    case k4 => exact BindsTo.of_eq rfl
    case k5 => exact locs rfl
    case c2 => exact rfl
    case c3 => exact rfl
    case c4 => exact rfl
    case c5 => decide
    intro L2 h2 F N hL2 hlt2
    have hlt3 := ltN (hlt2 _ (.head _))
    dsimp only at hlt3
    replace F : Fr (hideAll s2.heap [aA]) L2 h2 _ := F
    replace N : News (hideAll s2.heap [aA]) L2 h2 [(aA, listOf vs.toArray n)] := N
    clear hlt2 hL2
    refine wpAny_noRaise ?_
    have hkeep : ∀ b o, b ∉ ([(aA, listOf vs.toArray n)] : List (Addr × Obj)).map (·.1) → s2.heap.get? b = some o → (hideAll s2.heap [aA]).get? b = some o := fun b o hb q => hideAll_get _ q (by simpa using hb)
    generalize hideAll s2.heap [aA] = G2 at *
    cases x with
    | ref j =>
      obtain ⟨a5, t5, t6, v5, v6, rfl, hI⟩ := ref_open hv2
      try dsimp only
      try k_fold
      k_with_none
      k_with "subscriptTail" => (rename Fr _ _ _ _ => F9; refine' item_world (hw.keeps F9.keep) ?hq1 ?hq2 ?hq3; (case hq2 => with_unfolding_all rfl); (case hq3 => (intro _; rfl)); (intro v9 hv9))
      repeat' (first | (k_unfold; (try dsimp only)) | (k_end; wrow_close) | ((try dsimp only); walk1) | (leave1; walk_say "STEP leave1"; try dsimp only) | fail "no step")
      rename Fr _ _ _ _ => F8
      rename News _ _ _ _ => N8
      try rw [List.push_toArray] at N8
      refine hret2 _ _ _ [(aA, listOf (vs ++ [Value.ref a5]).toArray (n + 1))] (fun b o hb q => F8.keep b o (hkeep b o hb q)) rfl (fun p hp => by rw [List.mem_singleton.mp hp]; exact (N8 _ (.head _)).1) ⟨_, _, rfl, ?_⟩ ?_
      · rw [List.map_append]
        exact readsAll_snoc hv hR rfl
      · assumption
    | num m =>
      obtain ⟨a5, t5, u5, rfl, hI, r1⟩ := pair_open hv2
      try dsimp only
      try k_fold
      k_with_none
      repeat' (first | (k_unfold; (try dsimp only)) | (k_end; wrow_close) | ((try dsimp only); walk1) | (leave1; walk_say "STEP leave1"; try dsimp only) | fail "no step")
      rename Fr _ _ _ _ => F8
      rename News _ _ _ _ => N8
      try rw [List.push_toArray] at N8
      refine hret2 _ _ _ [(aA, listOf (vs ++ [Value.ref a5]).toArray (n + 1))] (fun b o hb q => F8.keep b o (hkeep b o hb q)) rfl (fun p hp => by rw [List.mem_singleton.mp hp]; exact (N8 _ (.head _)).1) ⟨_, _, rfl, ?_⟩ ?_
      · rw [List.map_append]
        exact readsAll_snoc hv hR rfl
      · exact Rd.stays r1 F8.keep
    | neg _ => cases hx
    | bin _ _ _ => cases hx
  subst hGr
  have F10 : Fr G L (hideAll hh [aA]) _ := ⟨F9.ns.at' fun o q => hideAll_get _ q (by simp only [List.mem_singleton]; exact fun z => (N9 _ (.tail _ (.head _))).2.1 z.symm), kGr, F9.above⟩
  have hAL : @Ne Nat aA L := fun z => (N9 _ (.tail _ (.head _))).2.1 z
  have hA0 : @Ne Nat L0 aA := by (first | lia | omega)
  have hg0 := inGr L0 o0 (N9 _ (.tail _ (.tail _ (.tail _ (.tail _ (.tail _ (.head _))))))).1 hA0
  have hBB : (hideAll hh [aA, L, L0]).StaysIn (hideAll hh [aA]) := fun b o q => by
    have hb : b ∉ [aA, L, L0] := fun z => by rw [hideAll_none _ z] at q; cases q
    exact hideAll_get _ (of_hideAll _ q) (fun z => hb (by rw [List.mem_singleton.mp z]; exact .head _))
  obtain ⟨hkL, ⟨L1, o1, hf1', hn1, ho1, hd1⟩, -⟩ := hFF
  obtain rfl : L0 = L1 := Option.some.inj (hfL.symm.trans hf1')
  obtain rfl : o0 = o1 := Option.some.inj (hL0.symm.trans ho1)
  refine reckoned_spec (ρ := ρ) hρ (hid := [(aA, listOf #[] 0)]) (okl := fun x => x.isLeaf = true) (Inv := fun done hid => ∃ vs n, hid = [(aA, listOf (List.toArray vs) n)] ∧ ReadsAll (hideAll hh [aA]) vs (done.map dat) []) (base := hideAll hh [aA, L, L0]) (outer := [_, envL]) (X.keeps kGr) (T.keeps kGr) ?hN9 ?hd9 (Rd.stays hv1 kGr) ⟨[], 0, rfl, .nil⟩ ?hnt9 ⟨_, _, _, _, hfO ▸ gf⟩ hnum (fun x hx => e.leaf_is x hx) hn hbd ok rfl hBB ?hFF9 ?hret9 ?hraise9
  case hN9 => intro q hq; rw [List.mem_singleton.mp hq]; exact (N9 _ (.tail _ (.head _))).1
  case hd9 => show dp + 1 + 14 < recursionLimit; (first | lia | omega)
  case hnt9 => rintro done hid' ⟨vs, n, rfl, -⟩ p hp q; rw [List.mem_singleton.mp hp] at q; exact absurd (Value.type.inj q) (by decide)
  case hFF9 =>
    refine Heap.FunFrames.cons (L := L) (by intro q; cases q) rfl F10.ns (hideAll_none _ (by simp)) ⟨hkL, ⟨L0, o0, hfL, hideAll_none _ (by simp), hg0, hd1⟩, trivial⟩
  case hret9 =>
    rintro z hid' h5 tk5 v5 hz hS5 hg5 hm5 ⟨vs, n5, rfl, hR5⟩ hR
    replace hS5 : (hideAll hh [aA]).StaysIn h5 := hS5
    have F5 := F10.keeps hS5
    have N5 : News G L h5 ((f, fO) :: (aA, listOf vs.toArray n5) :: (L + 1 + 1, o8) :: (L + 1, oc2) :: (254, tabObj ps') :: (L0, o0) :: X9) :=
      asked_turn N9 (fun b o q e => hS5 b o (hideAll_get _ e (by simpa using q))) (hg5 _ (.head _)) (by (first | lia | omega)) (by (first | lia | omega)) (by (first | lia | omega)) (by (first | lia | omega)) (by (first | lia | omega)) hAx
    refine Reads.regE F5 hR fun r5 hT5 hNr5 hD5 => ?_
    refine ReadsAll.regE F5 (readsAll_tk hS5 hR5) fun rA hTA hNrA hDA => ?_
    have N6 := asked_app N5 (News.app hNr5 hNrA)
    clear N5 hNr5 hNrA F9 N9 F10
    repeat' (first | (k_unfold; (try dsimp only)) | (k_end; wrow_close) | ((try dsimp only); walk1) | (leave1; walk_say "STEP leave1"; try dsimp only) | fail "no step")
    rename Fr _ _ _ _ => F9
    rename News _ _ _ _ => N9
    rename_i lq
    refine hret _ _ _ ⟨_, v5, aA, _, vs.toArray, e.leaves, ps', c', X9, rfl, (N9 _ (.head _)).1, (N9 _ (.tail _ (.tail _ (.head _)))).1, ⟨_, (N9 _ (.tail _ (.tail _ (.head _)))).1, rfl, _, rfl⟩, ?_, ?_, List.prefix_rfl, fun _ => rfl, F9.keep,
      (N9 (254, tabObj ps') (.tail _ (.tail _ (.tail _ (.tail _ (.tail _ (.head _))))))).1, ht', hc', ⟨o0.slots, (N9 (L0, o0) (.tail _ (.tail _ (.tail _ (.tail _ (.tail _ (.tail _ (.head _)))))))).1⟩, ?_, hrec⟩
    · rw [hz]
      exact hD5.reads F9 (News.sub (a := r5) N9 fun p hp => .tail _ (.tail _ (.tail _ (.tail _ (.tail _ (.tail _ (.tail _ (List.mem_append_right _ (List.mem_append_left _ hp)))))))))
    · exact hDA.reads F9 (News.sub (a := rA) N9 fun p hp => .tail _ (.tail _ (.tail _ (.tail _ (.tail _ (.tail _ (.tail _ (List.mem_append_right _ (List.mem_append_right _ hp)))))))))
    · intro p hp
      rcases List.mem_cons.mp hp with rfl | hp
      · have := N9 _ (.head _)
        exact ⟨this.1, this.2.2, Nat.ne_of_gt lq.2.2.2.2.1, Nat.ne_of_gt lq.2.2.2.2.2.1⟩
      rcases List.mem_cons.mp hp with rfl | hp
      · have := N9 (aA, listOf vs.toArray n5) (.tail _ (.tail _ (.head _)))
        exact ⟨this.1, this.2.2, by dsimp only; (first | lia | omega), by dsimp only; (first | lia | omega)⟩
      · have := N9 p (.tail _ (.tail _ (.tail _ (.tail _ (.tail _ (.tail _ (.tail _ (List.mem_append_left _ hp))))))))
        exact ⟨this.1, this.2.2, (hX9 p hp).2.1, ((hX9 p hp).2.2 _ (.tail _ (.tail _ (.tail _ (.head _))))).symm⟩
  case hraise9 =>
    rintro hz ex hid' done h5 tk5 hF5 hsl hm5 ⟨vs, n5, rfl, hR5⟩ hpre
    refine caught_fault (base := hideAll hh [aA, L, L0]) (g := hideAll hh [aA]) (outer := [envL]) X T rfl ?hGb F10 hF5 (fun h6 tk6 F6 hB6 hU6 hV6 => ?_) rfl rfl rfl
    case hGb => exact fun b o q => hideAll_get _ (F9.keep b o q) (fun z => by
      simp only [List.mem_cons, List.not_mem_nil, or_false] at z
      rcases z with rfl | rfl | rfl
      · rw [hGA] at q; cases q
      · rw [← hG] at q; exact absurd (Heap.lt_size (of_hideAll _ q)) (by rw [hL]; exact Nat.lt_irrefl _)
      · rw [← hG, hideAll_none _ (by simp)] at q; cases q)
    obtain ⟨es1, ep1, hd1⟩ := ho0
    refine ReadsAll.regE F10 hR5 fun rA hTA hNA hDA => ?_
    replace hDA := DIs.seq hDA
    have hX0 : ∀ p ∈ X9 ++ rA.filter isSeq, p.1 ≠ aA ∧ p.1 ≠ L0 := fun p hp => by
      rcases List.mem_append.mp hp with hp | hp
      · exact ⟨hAx p hp, ((hX9 p hp).2.2 _ (.tail _ (.tail _ (.tail _ (.head _))))).symm⟩
      · have hm := (List.mem_filter.mp hp).1
        have h1 := (hNA p hm).1
        refine ⟨fun q => ?_, fun q => ?_⟩
        · rw [q, hideAll_none _ (.head _)] at h1; cases h1
        · rw [q, hg0] at h1
          obtain ⟨pa, po⟩ := p
          cases h1
          exact not_seq hp hd1
    have hNA' : News G L hh (rA.filter isSeq) := fun p hp => ⟨of_hideAll _ (hNA p (List.mem_filter.mp hp).1).1, (hNA p (List.mem_filter.mp hp).1).2⟩
    obtain ⟨slA, gA5⟩ := hsl _ (.head _) (fun _ q => by cases q)
    obtain ⟨slA2, gA6⟩ := hV6 aA _ hAL gA5 (fun _ q => by cases q)
    obtain ⟨sl0, g06⟩ := hU6 L0 o0 (by refine neN ?_; (first | lia | omega)) hg0 (fun _ q => by rw [hd1] at q; cases q)
    have N6 := asked_after (asked_app N9 hNA') (fun b o hb q => hB6 b o (hideAll_get _ q hb)) gA6 g06 ⟨by dsimp only; (first | lia | omega), by dsimp only; (first | lia | omega)⟩ ⟨by dsimp only; (first | lia | omega), by dsimp only; (first | lia | omega)⟩ ⟨by dsimp only; (first | lia | omega), by dsimp only; (first | lia | omega)⟩ ⟨by dsimp only; (first | lia | omega), by dsimp only; (first | lia | omega)⟩ hX0
    clear F9 N9 F10 hNA hNA'
    repeat' (first | (k_unfold; (try dsimp only)) | (k_end; wrow_close) | ((try dsimp only); walk1) | (leave1; walk_say "STEP leave1"; try dsimp only) | fail "no step")
    rename Fr _ _ _ _ => F9
    rename News _ _ _ _ => N9
    refine wpAny_nameGoes_keeps rfl F9.ns rfl fun h9 v9 hn9 hs9 => ?_
    replace F9 := F9.set hn9 hs9
    replace N9 := N9.set hs9
    repeat' (first | (k_unfold; (try dsimp only)) | (k_end; wrow_close) | ((try dsimp only); walk1) | (leave1; walk_say "STEP leave1"; try dsimp only) | fail "no step")
    rename Fr _ _ _ _ => F9
    rename News _ _ _ _ => N9
    rename_i lq
    refine hret _ _ _ ⟨_, .str (Str.ofString "size") _, aA, _, vs.toArray, done, ps', c', X9, rfl, (N9 _ (.head _)).1, (N9 _ (.tail _ (.tail _ (.head _)))).1, ⟨_, (N9 _ (.tail _ (.tail _ (.head _)))).1, rfl, _, rfl⟩, ?_, ?_, hpre, ?_, F9.keep,
      (N9 (254, tabObj ps') (.tail _ (.tail _ (.tail _ (.tail _ (.tail _ (.head _))))))).1, ht', hc', ⟨sl0, (N9 (L0, _) (.tail _ (.tail _ (.tail _ (.tail _ (.tail _ (.tail _ (.head _)))))))).1⟩, ?_, hrec⟩
    · rw [hz]
      exact Reads.str _ _
    · exact hDA.reads F9 (News.sub (a := rA.filter isSeq) N9 fun p hp => .tail _ (.tail _ (.tail _ (.tail _ (.tail _ (.tail _ (.tail _ (List.mem_append_right _ hp))))))))
    · rw [hz]
      intro q
      cases q
    · intro p hp
      rcases List.mem_cons.mp hp with rfl | hp
      · have := N9 _ (.head _)
        exact ⟨this.1, this.2.2, Nat.ne_of_gt lq.2.2.2.2.1, Nat.ne_of_gt lq.2.2.2.2.2.1⟩
      rcases List.mem_cons.mp hp with rfl | hp
      · have := N9 _ (.tail _ (.tail _ (.head _)))
        exact ⟨this.1, this.2.2, by dsimp only; (first | lia | omega), by dsimp only; (first | lia | omega)⟩
      · have := N9 p (.tail _ (.tail _ (.tail _ (.tail _ (.tail _ (.tail _ (.tail _ (List.mem_append_left _ hp))))))))
        exact ⟨this.1, this.2.2, (hX9 p hp).2.1, ((hX9 p hp).2.2 _ (.tail _ (.tail _ (.tail _ (.head _))))).symm⟩
end
end
end Mine
namespace Mine

namespace F9
theorem lk_list_keys : typeLookup (.type "list") "keys" = pure none := by rw [typeLookup_type, builtinLookup_eq_fast]; kernel_rfl
end F9
section
variable {prog : Program} {w : World} {A : Around} {E : Value → Shared → Prop} {h : Heap} {g : Array GenState} {d : Drawn} {t : Nat} {os : OsState} {a : Addr} {o : Obj}
theorem note_attr {M : Model} {s : Shared} {e : Addr} {oe : Obj} {vs : Array Value} {x name : Value} {Q : Unit → Shared → Prop} (hge : s.heap.get? e = some oe) (hc : oe.cls = .type "AttributeError") (hd : oe.data = .fields vs)
    (h6 : vs[6]? = some unsetMember) (h7 : vs[7]? = some unsetMember) (hQ : ∀ f, Q () { s with heap := s.heap.update e (Obj.mapFields f) }) : wpAny M A (noteAttr (.ref e) x name) Q E s := by
  have sub : isSubtype (.type "AttributeError") (.type "AttributeError") = pure true := by rw [isSubtype_type]; kernel_rfl
  unfold noteAttr lacksNameAndObj
  refine wpAny_bind ?_
  refine wpAny_bind (wpAny_isInstance ⟨_, hge, hc⟩ sub ?_)
  simp only [Bool.not_true, Bool.false_eq_true, if_false]
  refine wpAny_bind (wpAny_load hge ?_)
  rw [hd]
  simp only [h6, h7]
  refine wpAny_pure ?_
  simp only [if_true]
  refine wpAny_bind (wpAny_rule ?_)
  refine wpAny_bind (wpAny_typeOf ⟨_, hge, hc⟩ ?_)
  simp only
  unfold layMembers
  refine wpAny_bind (wpAny_load hge ?_)
  rw [hd]
  exact wpAny_update hge (hQ _)
theorem keys_entry_list {tk : Tok} {Q : Fin → Shared → Prop} (hh : A.handled = none) (hx : h.get? a = some o) (hc : o.cls = .type "list") (hdc : o.dict = none) {items : Array Value} {n : Nat} (hdd : o.data = .seq items n)
    (hE : ∀ h' tk e, (∀ b o, h.get? b = some o → h'.get? b = some o) → (∃ o, h'.get? e = some o ∧ o.cls = .type "AttributeError") → E (.ref e) ⟨h', g, d, tk, os⟩) :
    wpAny (model prog w) A (Builtin.«object.__getattribute__» ⟨[.ref a, .str "keys" tk], []⟩) Q E ⟨h, g, d, t, os⟩ := by
  have hT : (⟨h, g, d, t, os⟩ : Shared).TypeIs (.ref a) "list" := ⟨_, hx, hc⟩
  have f4 := F9.lk_list_keys
  repeat (any_goals (first | assumption | wp_step))
  simp only [hdd]
  show wpAny _ _ (instanceDict a false) _ _ _
  unfold instanceDict
  refine wpAny_bind (wpAny_loadPart hx ?_)
  simp only [hc, hdc]
  repeat (any_goals (first | assumption | wp_step))
  generalize hm : (Str.ofString _ ++ _ ++ _ : Str) = msg
  have hml : msg.length ≤ sizeLine := by subst hm; decide +kernel
  unfold raiseAttrError
  refine wpAny_bind (wpAny_mkStr (wpAny_bind ?_) hml)
  unfold newExc newTuple
  refine wpAny_bind (wpAny_newObj_type ?_)
  refine wpAny_bind (m := firstArgMember _ _) (wpAny_of_eq (a := Value.none) (by have e : ((Manifest.find? "AttributeError").elim false fun t => t.mro.contains "StopIteration" || t.mro.contains "SystemExit") = false := by decide +kernel
                                                                                 simp only [firstArgMember, e]; rfl) ?_)
  refine wpAny_newObj_type ?_
  dsimp only
  have sub : isSubtype (.type "AttributeError") (.type "AttributeError") = pure true := by rw [isSubtype_type]; kernel_rfl
  have hown : ownMembersOf (.type "AttributeError") [Value.str msg t] = #[unsetMember, unsetMember] := rfl
  rw [hown]
  refine wpAny_bind (wpAny_mkText ?_)
  refine wpAny_bind (note_attr (Heap.get?_push_size _ rfl) rfl rfl rfl rfl fun f => ?_)
  unfold raiseNew
  refine wpAny_bind (wpAny_handled ?_)
  rw [hh]
  refine wpAny_bind (wpAny_pure (wpAny_throw ?_))
  refine hE _ _ _ (fun b o q => ?_) ?_
  · have hb := Heap.lt_size q
    refine (Heap.get?_update_ne _ _ _ _ ?_).trans (Heap.get?_push_of_some _ (Heap.get?_push_of_some _ q))
    intro z
    subst z
    simp only [Heap.size_push] at hb
    exact absurd hb (Nat.not_lt.mpr (Nat.le_succ _))
  · exact ⟨_, Heap.get?_update_self _ (Heap.get?_push_size _ rfl) rfl, rfl⟩

theorem keys_call_list {tk : Tok} {R : Result → Shared → Prop} (hh : A.handled = none) (hx : h.get? a = some o) (hc : o.cls = .type "list") (hdc : o.dict = none) {items : Array Value} {n : Nat} (hdd : o.data = .seq items n)
    (hE : ∀ h' tk e, (∀ b o, h.get? b = some o → h'.get? b = some o) → (∃ o, h'.get? e = some o ∧ o.cls = .type "AttributeError") → R (.error (.ref e)) ⟨h', g, d, tk, os⟩) :
    codeAny (model prog w) A (.call (.builtin "list.__getattribute__") ⟨[.ref a, .str "keys" tk], []⟩) R ⟨h, g, d, t, os⟩ :=
  codeAny_call_builtin F.slot_list_getattribute.plain F.entry_list_ga (F.slot_list_getattribute.check _ _ _ _ _ _ _ _ (show (⟨h, g, d, t, os⟩ : Shared).TypeIs (.ref a) "list" from ⟨_, hx, hc⟩) (F.args_list_getattribute_2 _ _) (keys_entry_list hh hx hc hdc hdd hE))

theorem keys_attr_list {Q : Option Value → Shared → Prop} (hh : A.handled = none) (hx : h.get? a = some o) (hc : o.cls = .type "list") (hdc : o.dict = none) {items : Array Value} {n : Nat} (hdd : o.data = .seq items n)
    (hQ : ∀ h' tk, (∀ b o, h.get? b = some o → h'.get? b = some o) → Q none ⟨h', g, d, tk, os⟩) : wpAny (model prog w) A (getAttr? (.ref a) "keys") Q E ⟨h, g, d, t, os⟩ := by
  have hT : (⟨h, g, d, t, os⟩ : Shared).TypeIs (.ref a) "list" := ⟨_, hx, hc⟩
  have f2 := F.slot_list_getattribute.lookup
  have f3 := F.slot_list_getattribute.bind (.ref a)
  unfold getAttr? getAttrBy?
  refine wpAny_bind (wpAny_mkText (wpAny_bind (wpAny_attempt ?_)))
  unfold getAttrBy
  refine wpAny_holding (wpAny_bind (wpAny_typeOf hT (wpAny_bind ?_)))
  refine wpAny_of_eq f2 ?_
  show wpAny _ _ (getAttrByItsOwn _ _ (.type "list") (.builtin "list.__getattribute__") false false) _ _ _
  unfold getAttrByItsOwn
  refine wpAny_bind ?_
  show wpAny _ _ (pure none) _ _ _
  refine wpAny_pure ?_
  refine wpAny_bind (wpAny_attempt (wpAny_holding ?_))
  show wpAny _ _ (boundAndCalled _ _ _) _ _ _
  unfold boundAndCalled
  refine wpAny_bind (wpAny_of_eq f3 ?_)
  refine wpAny_call (keys_call_list hh hx hc hdc hdd fun h' tk e k he => ?_)
  obtain ⟨oe, hoe, hce⟩ := he
  have hTe : (⟨h', g, d, tk, os⟩ : Shared).TypeIs (.ref e) "AttributeError" := ⟨_, hoe, hce⟩
  have sub : isSubtype (.type "AttributeError") (.type "AttributeError") = pure true := by rw [isSubtype_type]; kernel_rfl
  have lk : typeLookup (.type "list") "__getattr__" = pure none := by rw [typeLookup_type, builtinLookup_eq_fast]; kernel_rfl
  show wpAny _ _ (getattributeRaised _ _ _ _ _ _ _) _ _ _
  unfold getattributeRaised
  refine wpAny_bind (wpAny_isInstance hTe sub ?_)
  rw [if_pos rfl]
  refine wpAny_bind ?_
  show wpAny _ _ (typeLookup (.type "list") "__getattr__") _ _ _
  refine wpAny_of_eq lk ?_
  show wpAny _ _ (attributeErrorLeaves _ _ _ false false) _ _ _
  unfold attributeErrorLeaves
  simp only [Bool.not_false, if_true]
  refine wpAny_bind (wpAny_throw ?_)
  refine wpAny_bind (wpAny_isInstance hTe sub ?_)
  rw [if_pos rfl]
  exact wpAny_pure (hQ _ _ k)
end
section
variable {prog : Program} {w : World} {K : Type} [DecidableEq K] {knd : KeyKind prog w K} {A : Around} {E : Value → Shared → Prop} {s : Shared}
theorem entry_upd_loop : entryFor table "dict.update.loop" = some Builtin.«dict.update.loop» := entryFor_of_tree (by kernel_rfl)
theorem plain_upd_loop : plainId "dict.update.loop" = true := by decide +kernel
noncomputable def PairAt (knd : KeyKind prog w K) (h : Heap) (d I l : Addr) (v : Value) (kv : K × Value) : Prop := ∃ a key, v = .ref a ∧ a ≠ d ∧ a ≠ I ∧ h.IsTuple a #[key, kv.2] ∧ knd.is kv.1 key = true
theorem upd_loop {R : Result → Shared → Prop} {d l I : Addr} {its : Array Value} (hh : A.handled = none) (hne : l ≠ I) (hdl : d ≠ l) (hdI : d ≠ I) {kvs : List (K × Value)} (hlen : kvs.length = its.size) (hsz : kvs.length ≤ 100) :
    ∀ (k i : Nat) (s : Shared) , its.size - i = k → i ≤ its.size → s.heap.IsListIter I l i → s.heap.IsList l its → s.heap.DictOf knd d (merged [] (kvs.take i)) →
    (∀ (j : Nat) v kv, its[j]? = some v → kvs[j]? = some kv → PairAt knd s.heap d I l v kv) →
    (∀ h' tk, (∀ b o, b ≠ I → b ≠ d → s.heap.get? b = some o → h'.get? b = some o) → h'.DictOf knd d (merged [] kvs) → R (.ok (.ret .none)) { s with heap := h', toks := tk }) →
    codeAny (model prog w) A (.builtin "dict.update.loop" ⟨[.ref d, .ref I, rawInt i, .none], []⟩) R s := by
  have W := Walks.list (prog := prog) (w := w) (A := A.in1) hh I l hne its
  intro k
  induction k with
  | zero =>
    intro i s hk hi hst hl hd hP hR
    have hin : i = its.size := by (first | lia | omega)
    subst hin
    refine codeAny_builtin entry_upd_loop ?_
    rw [Around.under_plainId plain_upd_loop _]
    show wpAny _ A.in1 (pyNext (.ref I) >>= _) _ _ s
    refine wpAny_bind (W.done s _ _ ⟨hst, hl⟩ fun h' tk hk' => ?_)
    have hd' : h'.DictOf knd d (merged [] (kvs.take its.size)) := by
      obtain ⟨o, es, ep, ho, r⟩ := hd
      exact ⟨o, es, ep, hk' d o (by simpa using hdI) ho, r⟩
    rw [← hlen, List.take_length] at hd'
    exact wpAny_bind (wpAny_pure (wpAny_pure (hR h' tk (fun b o hb _ e => hk' b o (by simpa using hb) e) hd')))
  | succ k ih =>
    intro i s hk hi hst hl hd hP hR
    have hlt : i < its.size := by (first | lia | omega)
    refine codeAny_builtin entry_upd_loop ?_
    rw [Around.under_plainId plain_upd_loop _]
    show wpAny _ A.in1 (pyNext (.ref I) >>= _) _ _ s
    refine wpAny_bind (W.item i s _ _ hlt ⟨hst, hl⟩ fun v h' tk hPv hst' hk' => ?_)
    have hkv : kvs[i]? = some (kvs[i]'(by (first | lia | omega))) := List.getElem?_eq_getElem (by (first | lia | omega))
    generalize kvs[i]'(by (first | lia | omega)) = kv at hkv
    obtain ⟨a, key, rfl, had, haI, hT, hkey⟩ := hP i v kv hPv hkv
    obtain ⟨ot, hot, hct, nt, hdt⟩ := hT
    have hot' := hk' a ot (by simpa using haI) hot
    show wpAny _ A.in1 (holding _ _ >>= _) _ _ _
    have hTt : (Shared.mk h' s.gens s.drawn tk s.os).TypeIs (.ref a) "tuple" := ⟨_, hot', hct⟩
    refine wpAny_bind (wpAny_holding (wpAny_bind (wpAny_tryCatch ?_)))
    unfold Builtin.Dict.pairItems
    refine wpAny_bind (wpAny_typeOf hTt ?_)
    rw [if_pos (by decide)]
    refine wpAny_bind (wpAny_seqItems hot' hdt (wpAny_pure ?_))
    show wpAny _ _ (holding [key, kv.2] (dictSet d key kv.2)) _ _ _
    have hd' : h'.DictOf knd d (merged [] (kvs.take i)) := by
      obtain ⟨o, es, ep, ho, r⟩ := hd
      exact ⟨o, es, ep, hk' d o (by simpa using hdI) ho, r⟩
    have hlm : (merged [] (kvs.take i)).length ≤ sizeLine := by
      have e1 := merged_length_le [] (kvs.take i)
      have e2 : (kvs.take i).length ≤ kvs.length := by rw [List.length_take]; (first | lia | omega)
      rw [sizeLine_eq]
      simp only [List.length_nil] at e1
      (first | lia | omega)
    refine wpAny_holding (wpAny_dictSet_pairs hkey hd' (fun h2 hd2 hs2 => ?_) hlm)
    rw [← merged_take_succ _ _ _ _ hkv] at hd2
    have kk : ∀ b o, b ≠ I → b ≠ d → s.heap.get? b = some o → h2.get? b = some o := fun b o h1 h3 q => (hs2.2 b h3).trans (hk' b o (by simpa using h1) q)
    refine wpAny_pure ⟨plainId_quiet plain_upd_loop _, ih (i + 1) _ (by (first | lia | omega)) hlt ?_ ?_ hd2 ?_ fun h3 tk3 k3 hd3 => hR h3 tk3 (fun b o h1 h4 q => k3 b o h1 h4 (kk b o h1 h4 q)) hd3⟩
    · obtain ⟨o, e, r⟩ := hst'.1
      exact ⟨o, (hs2.2 I (Ne.symm hdI)).trans e, r⟩
    · obtain ⟨o, e, r⟩ := hst'.2
      exact ⟨o, (hs2.2 l (Ne.symm hdl)).trans e, r⟩
    · intro j v kv' h1 h4
      obtain ⟨a', key', e1, e2, e3, ⟨o, e, r⟩, e5⟩ := hP j v kv' h1 h4
      exact ⟨a', key', e1, e2, e3, ⟨o, kk a' o e3 e2 e, r⟩, e5⟩
theorem call_dict_pairs {l : Addr} {o : Obj} {its : Array Value} {n : Nat} {kvs : List (K × Value)} {Q : Value → Shared → Prop} (hh : A.handled = none) (ho : s.heap.get? l = some o) (hc : o.cls = .type "list") (hdc : o.dict = none) (hdd : o.data = .seq its n)
    (hlen : kvs.length = its.size) (hsz : kvs.length ≤ 100) (hP : ∀ (j : Nat) v kv, its[j]? = some v → kvs[j]? = some kv → ∃ a key, v = .ref a ∧ s.heap.IsTuple a #[key, kv.2] ∧ knd.is kv.1 key = true)
    (h : ∀ h' tk, (∀ b o, s.heap.get? b = some o → h'.get? b = some o) → h'.DictOf knd s.heap.objs.size (merged [] kvs) → Q (.ref s.heap.objs.size) { s with heap := h', toks := tk }) :
    wpAny (model prog w) A (call (.type "dict") [.ref l]) Q E s := by
  refine callType_codes (Q₁ := fun obj s₁ => obj = .ref s.heap.objs.size ∧ s₁ = { s with heap := s.heap.push { cls := .type "dict", data := .dict #[] } }) F.kt_called_dict (F.kt_typeCall_dict_1 _) F.entry_dict_init (kt_code_dict_new _ ⟨rfl, rfl⟩) ?_
  rintro obj s₁ ⟨rfl, rfl⟩
  have hnew : (s.heap.push { cls := .type "dict", data := .dict #[] }).DictOf knd s.heap.objs.size [] := Heap.DictOf.new s.heap
  have ho' := Heap.get?_push_of_some { cls := .type "dict", data := .dict #[] } ho
  have hls := Heap.lt_size ho
  have hT : (Shared.mk (s.heap.push { cls := .type "dict", data := .dict #[] }) s.gens s.drawn s.toks s.os).TypeIs (.ref l) "list" := ⟨_, ho', hc⟩
  refine ⟨hnew.typeIs, F.args_dict_init_2 _ _, ?_⟩
  unfold Builtin.«dict.__init__»
  refine wpAny_bind ?_
  unfold Builtin.Dict.selfAndRest
  refine wpAny_bind (wpAny_notOrdered_dict hnew.typeIs ?_)
  show wpAny _ _ (pure (s.heap.objs.size, [Value.ref l])) _ _ _
  refine wpAny_pure ?_
  show wpAny _ _ (Builtin.Dict.updateFrom "dict.__init__" s.heap.objs.size (.ref l) [] .none) _ _ _
  unfold Builtin.Dict.updateFrom
  refine wpAny_bind (wpAny_typeOf hT ?_)
  rw [if_pos (by decide)]
  refine wpAny_bind (keys_attr_list hh ho' hc hdc hdd fun h1 tk1 k1 => ?_)
  simp only [Option.isNone_none, if_true]
  refine wpAny_bind (wpAny_rule ?_)
  have hl1 : h1.get? l = some o := k1 l o ho'
  refine wpAny_bind (wpAny_pyIter_list ⟨o, hl1, hc, n, hdd⟩ ?_)
  obtain ⟨od, es, ep, hod, hr⟩ := hnew
  have hlt1 := Heap.lt_size (k1 _ _ hod)
  have hltl := Heap.lt_size hl1
  have hd1 : (h1.push { cls := .type "list_iterator", data := .fields #[.ref l, .int 0 0] }).DictOf knd s.heap.objs.size (merged [] (kvs.take 0)) := ⟨od, es, ep, Heap.get?_push_of_some _ (k1 _ _ hod), hr⟩
  refine wpAny_pure ⟨plainId_quiet plain_upd_loop _, ?_⟩
  refine upd_loop (A := A.in1) (I := h1.objs.size) (knd := knd) (kvs := kvs) hh (Nat.ne_of_lt hltl) (Nat.ne_of_gt hls) (Nat.ne_of_lt hlt1) hlen hsz its.size 0 _ (Nat.sub_zero _) (Nat.zero_le _) ?_ ?_ hd1 ?_ ?_
  · exact ⟨_, Heap.get?_push_size _ rfl, rfl, rfl⟩
  · exact ⟨o, Heap.get?_push_of_some _ hl1, hc, n, hdd⟩
  · intro j v kv e1 e2
    obtain ⟨a, key, rfl, ⟨ot, q1, q2⟩, hk⟩ := hP j v kv e1 e2
    have q3 := k1 a ot (Heap.get?_push_of_some _ q1)
    exact ⟨a, key, rfl, Nat.ne_of_lt (Heap.lt_size q1), Nat.ne_of_lt (Heap.lt_size q3), ⟨ot, Heap.get?_push_of_some _ q3, q2⟩, hk⟩
  · intro h2 tk2 k2 hd2
    refine ⟨rfl, h h2 tk2 (fun b o q => ?_) hd2⟩
    have q3 := k1 b o (Heap.get?_push_of_some _ q)
    exact k2 b o (Nat.ne_of_lt (Heap.lt_size q3)) (Nat.ne_of_lt (Heap.lt_size q)) (Heap.get?_push_of_some _ q3)
end
end Mine
namespace Mine

theorem len3 {α : Type} {l : List α} (h : l.length = 3) : ∃ a b c, l = [a, b, c] := by
  cases l with
  | nil => cases h
  | cons a l =>
    cases l with
    | nil => cases h
    | cons b l =>
      cases l with
      | nil => cases h
      | cons c l =>
        cases l with
        | nil => exact ⟨a, b, c, rfl⟩
        | cons d l => cases h
noncomputable def Wm (m : Num) : Prop := m.2 ≤ 4 ∧ norm m.1 m.2 = m
theorem world_made {w : World} {A : Around} {E : Value → Shared → Prop} {s : Shared} {Q : Value → Shared → Prop} {G : Heap} {D : Addr} {ys : List Value} {ns : List Num} {tups : List (Addr × Obj)} {k : Nat} (hh : A.handled = none) (hD : s.heap.get? D = some (listOf ys.toArray k))
    (h1 : ns.length = 3) (h2 : ys.length = 3) (hpr : ∀ (j : Nat) y m, ys[j]? = some y → ns[j]? = some m → ∃ a t v, y = .ref a ∧ (a, ({ cls := .type "tuple", data := .seq #[.str (nm3 (Fin.ofNat 3 j)) t, v] } : Obj)) ∈ tups ∧ Reads G v (numD m) [])
    (hm : ∀ m ∈ ns, Bd 400 m.1 ∧ Wm m) (htup : ∀ p ∈ tups, s.heap.get? p.1 = some p.2)
    (hQ : ∀ h6 tk (ρ : Fin 3 → Num) oD, s.heap.StaysIn h6 → h6.get? s.heap.objs.size = some oD → (∀ i, Bd 400 (ρ i).1 ∧ Wm (ρ i)) → (∀ h2, G.StaysIn h2 → h2.get? s.heap.objs.size = some oD → WorldAt w h2 s.heap.objs.size ρ) → Q (.ref s.heap.objs.size) { s with heap := h6, toks := tk }) :
    wpAny (model PR w) A (call (.type "dict") [.ref D]) Q E s := by
  obtain ⟨y0, y1, y2, rfl⟩ := len3 h2
  obtain ⟨m0, m1, m2, rfl⟩ := len3 h1
  obtain ⟨a0, t0, v0, rfl, e0, r0⟩ := hpr 0 _ _ rfl rfl
  obtain ⟨a1, t1, v1, rfl, e1, r1⟩ := hpr 1 _ _ rfl rfl
  obtain ⟨a2, t2, v2, rfl, e2, r2⟩ := hpr 2 _ _ rfl rfl
  have hnd : (([(nm3 0, v0), (nm3 1, v1), (nm3 2, v2)] : List (Str × Value)).map (·.1)).Nodup := by
    show [nm3 0, nm3 1, nm3 2].Nodup
    decide +kernel
  refine call_dict_pairs (knd := strKind PR w) (kvs := [(nm3 0, v0), (nm3 1, v1), (nm3 2, v2)]) hh hD rfl rfl rfl rfl (Nat.le_of_ble_eq_true rfl) ?_ ?_
  · intro j v kv hj hk
    have g0 := htup _ e0
    have g1 := htup _ e1
    have g2 := htup _ e2
    match j with
    | 0 => cases hj; cases hk; exact ⟨a0, _, rfl, ⟨_, g0, rfl, _, rfl⟩, strKind_is _ _ _ _⟩
    | 1 => cases hj; cases hk; exact ⟨a1, _, rfl, ⟨_, g1, rfl, _, rfl⟩, strKind_is _ _ _ _⟩
    | 2 => cases hj; cases hk; exact ⟨a2, _, rfl, ⟨_, g2, rfl, _, rfl⟩, strKind_is _ _ _ _⟩
    | j + 3 => cases hk
  · intro h6 tk k6 hd6
    rw [merged_nil_of_nodup _ hnd] at hd6
    obtain ⟨oD, es, ep, hoD, hr⟩ := hd6
    refine hQ h6 tk (fun i => match i with | 0 => m0 | 1 => m1 | 2 => m2) oD k6 hoD ?_ ?_
    · intro i
      match i with
      | 0 => exact hm _ (by simp)
      | 1 => exact hm _ (by simp)
      | 2 => exact hm _ (by simp)
    · intro h2 kG g2
      refine ⟨_, ⟨oD, es, ep, g2, hr⟩, fun i => ?_⟩
      match i with
      | 0 => exact ⟨v0, rfl, Rd.stays r0 kG⟩
      | 1 => exact ⟨v1, rfl, Rd.stays r1 kG⟩
      | 2 => exact ⟨v2, rfl, Rd.stays r2 kG⟩
end Mine
namespace Mine

theorem News.swap {g h : Heap} {L : Addr} {a b : Addr × Obj} {r : List (Addr × Obj)} (N : News g L h (a :: b :: r)) : News g L h (b :: a :: r) := News.sub N fun p hp => by
  simp only [List.mem_cons] at hp ⊢
  rcases hp with h | h | h
  · exact .inr (.inl h)
  · exact .inl h
  · exact .inr (.inr h)
mutual
theorem DI.readsH {h₀ h : Heap} {news : List (Addr × Obj)} (k : h₀.StaysIn h) (N : ∀ p ∈ news, h.get? p.1 = some p.2) : ∀ {v : Value} {d : PyData}, DI h₀ news v d → Reads h v d []
  | _, _, .none => .none
  | _, _, .bool b => .bool b
  | _, _, .int i t => .int i t
  | _, _, .str x t => .str x t
  | _, _, .tuple h c d r => .tuple (h.elim (k _ _) fun hm => N _ hm) c d (DIs.readsH k N r)
theorem DIs.readsH {h₀ h : Heap} {news : List (Addr × Obj)} (k : h₀.StaysIn h) (N : ∀ p ∈ news, h.get? p.1 = some p.2) : ∀ {vs : List Value} {ds : List PyData}, DIs h₀ news vs ds → ReadsAll h vs ds []
  | _, _, .nil => .nil
  | _, _, .cons h r => .cons (as := []) (bs := []) (DI.readsH k N h) (DIs.readsH k N r)
end
theorem fr_slots {g h h' : Heap} {L : Addr} {m : Str → Option Value} {o : Obj} {sl : Array (Option Value)} (F : Fr g L h m) (k : g.StaysIn h') (ho : h.get? L = some o) (ho' : h'.get? L = some { o with slots := sl }) : Fr g L h' m := by
  obtain ⟨⟨o1, es, ep, e1, e2, e3⟩, _, a⟩ := F
  obtain rfl := Option.some.inj (e1.symm.trans ho)
  exact ⟨⟨_, es, ep, ho', e2, e3⟩, k, a⟩
theorem fr_obj {g h : Heap} {L : Addr} {m : Str → Option Value} (F : Fr g L h m) : ∃ o, h.get? L = some o ∧ ∃ es ep, o.data = .dict es ep := by
  obtain ⟨o1, es, ep, e1, e2, e3⟩ := F.ns
  exact ⟨o1, e1, es, ep, e2⟩
theorem fr_none {g h : Heap} {L : Addr} {m : Str → Option Value} (F : Fr g L h m) : g.get? L = none := Heap.get?_none_of_le F.above
theorem hid_two {g h : Heap} {L : Addr} {m : Str → Option Value} {a : Addr} (F : Fr g L h m) (ha : g.get? a = none) : g.StaysIn (hideAll h [a, L]) := stays_hide F.keep fun b hb => by
  simp only [List.mem_cons, List.not_mem_nil, or_false] at hb
  rcases hb with rfl | rfl
  · exact ha
  · exact fr_none F
theorem hid_mem {g h : Heap} {L : Addr} {news : List (Addr × Obj)} {a : Addr} (N : News g L h news) {p : Addr × Obj} (hp : p ∈ news) (ha : p.1 ≠ a) : (hideAll h [a, L]).get? p.1 = some p.2 :=
  hideAll_get _ (N p hp).1 (by
    simp only [List.mem_cons, List.not_mem_nil, or_false]
    rintro (q | q)
    · exact ha q
    · exact (N p hp).2.1 q)
theorem asked_led {g h h' : Heap} {L P : Addr} {A B : List (Addr × Obj)} {t t' : Obj} (N : News g L h (A ++ (P, t) :: B)) (k : (hideAll h [P, L]).StaysIn h') (hg : h'.get? P = some t') (hA : ∀ p ∈ A, p.1 ≠ P) (hB : ∀ p ∈ B, p.1 ≠ P) : News g L h' (A ++ (P, t') :: B) := fun p hp => by
  have hP := N (P, t) (List.mem_append_right _ (.head _))
  rcases List.mem_append.mp hp with hp | hp
  · exact ⟨k _ _ (hid_mem N (List.mem_append_left _ hp) (hA p hp)), (N p (List.mem_append_left _ hp)).2⟩
  rcases List.mem_cons.mp hp with rfl | hp
  · exact ⟨hg, hP.2⟩
  · exact ⟨k _ _ (hid_mem N (List.mem_append_right _ (.tail _ hp)) (hB p hp)), (N p (List.mem_append_right _ (.tail _ hp))).2⟩
theorem tups_off {g h : Heap} {L P : Addr} {news r : List (Addr × Obj)} {t : Obj} (N : News g L h news) (hP : (P, t) ∈ news) (ht : ¬ tupObj t) (hr : Tups r) (hs : ∀ p ∈ r, p ∈ news) : ∀ p ∈ r, p.1 ≠ P := fun p hp e => by
  have h1 := (N p (hs p hp)).1
  have h2 := (N _ hP).1
  rw [e, h2] at h1
  cases h1
  exact ht (hr p hp)
theorem News.put {g h : Heap} {L a : Addr} {o : Obj} {news : List (Addr × Obj)} (N : News g L h news) (hg : h.get? a = some o) (hL : a ≠ L) (h0 : g.get? a = none) : News g L h ((a, o) :: news) := fun p hp => by
  rcases List.mem_cons.mp hp with rfl | hp
  · exact ⟨hg, hL, h0⟩
  · exact N p hp
theorem mem_ext {p : Addr × Obj} {A R r : List (Addr × Obj)} (h : p ∈ A ++ R) : p ∈ A ++ (R ++ r) := by
  rcases List.mem_append.mp h with h | h
  · exact List.mem_append_left _ h
  · exact List.mem_append_right _ (List.mem_append_left _ h)
theorem tup_off1 {h : Heap} {P : Addr} {t : Obj} {r : List (Addr × Obj)} (hP : h.get? P = some t) (ht : ¬ tupObj t) (hr : Tups r) (hg : ∀ p ∈ r, h.get? p.1 = some p.2) : ∀ p ∈ r, p.1 ≠ P := fun p hp e => by
  have h1 := hg p hp
  rw [e, hP] at h1
  cases h1
  exact ht (hr p hp)
theorem none_ne {h : Heap} {a b : Addr} {o : Obj} (h1 : h.get? a = none) (h2 : h.get? b = some o) : a ≠ b := fun e => by
  rw [e, h2] at h1
  cases h1
theorem tab_no {ps : Array Value} : ¬ tupObj (tabObj ps) := fun q => by cases q
end Mine
namespace Mine

section
variable {prog : Program} {w : World} {A : Around} {E : Value → Shared → Prop} {s : Shared} {h₀ : Heap} {L : Addr} {m : Str → Option Value} {news : List (Addr × Obj)}
theorem slice_temp {value slice : PySem.Expr} {l : Addr} {items : Array Value} {vl vu : Value} {lo hi : Option Int} {Q : Value → Shared → Prop}
    (F : Fr h₀ L s.heap m) (N : News h₀ L s.heap news) (hl : s.heap.IsList l items) (pl : IsPart vl lo) (pu : IsPart vu hi)
    (hs : subscripted slice false (.ref l) (.ref s.heap.objs.size) = operate [.ref s.heap.objs.size, .ref l] (getItem (.ref l) (.ref s.heap.objs.size))) (hsz : items.size ≤ sizeLine)
    (h : ∀ D h', Fr h₀ L h' m → News h₀ L h' ((D, { cls := .type "list", data := .seq (slicePick items lo hi none) }) :: news) → Q (.ref D) { s with heap := h' }) :
    wpAny (model prog w) A (subscriptTail value slice (.ref l) (.ref s.heap.objs.size)) Q E { s with heap := s.heap.push { cls := .type "slice", data := .fields #[vl, vu, .none] } } := by
  have hT := Heap.IsList.typeIs (s := { s with heap := s.heap.push { cls := .type "slice", data := .fields #[vl, vu, .none] } }) (hl.push _)
  unfold subscriptTail
  refine wpAny_bind ?_
  rw [getitemInPython_of_ne hT.not_modules]
  refine wpAny_bind (wpAny_specialOf hT list_getitem_lookup ?_)
  have fin : wpAny (model prog w) A (subscripted slice false (.ref l) (.ref s.heap.objs.size)) (fun r s₃ => wpAny (model prog w) A (letTemporaryGo value (.ref l) r >>= fun _ => pure r) Q E s₃) E { s with heap := s.heap.push { cls := .type "slice", data := .fields #[vl, vu, .none] } } := by
    rw [hs]
    refine wpAny_operating ?_
    refine wpAny_getItem_list_slice (hl.push _) (Heap.IsSliceOf.new ..) pl pu .none (by simp) ?_ hsz
    refine wpAny_bind (wpAny_letTemporaryGo (wpAny_pure ?_))
    have N1 := News.push (F.push { cls := .type "slice", data := .fields #[vl, vu, .none] }) (N.grown fun _ _ e => Heap.get?_push_of_some _ e) { cls := .type "list", data := .seq (slicePick items lo hi none) }
    exact h _ _ ((F.push _).push _) N1
  first
    | exact wpAny_pure (wpAny_bind fin)
    | exact wpAny_bind (wpAny_pure (wpAny_bind fin))
    | exact wpAny_bind fin
end
theorem DIs.take {G : Heap} {r : List (Addr × Obj)} : ∀ {vs : List Value} {ds : List PyData}, DIs G r vs ds → ∀ n : Nat, DIs G r (vs.take n) (ds.take n)
  | _, _, _, 0 => .nil
  | _, _, .nil, _ + 1 => .nil
  | _, _, .cons h t, n + 1 => .cons h (DIs.take t n)
theorem pick_upto (vs : List Value) (n : Nat) : slicePick vs.toArray none (some (n : Int)) none = (vs.take n).toArray := by
  have e : sliceBounds none (some (n : Int)) none vs.toArray.size = (((0 : Nat) : Int), ((min n vs.toArray.size : Nat) : Int), 1) := by
    simp only [sliceBounds, Option.getD_none, show (1 : Int) > 0 by decide, if_true, if_neg (show ¬ ((n : Int) < 0) by (first | lia | omega))]
    congr 1
    congr 1
    (first | lia | omega)
  rw [kmk_pick_nat _ e]
  show ((vs.drop 0).take (min n vs.toArray.size - 0)).toArray = _
  rw [List.drop_zero, Nat.sub_zero, List.size_toArray, kmk_take_min]
end Mine
namespace Mine

section
variable {prog : Program} {w : World} {A : Around} {s : Shared} {p : Program} {loose : List Str} {mean : ExcName → Option Value} {mg mb : Str → Option Value}
theorem enterLam {name qual : Str} {params : Arguments} {body : PySem.Expr} {scope : Scope} {cl : List (Str × Addr)} {pm ctv : Value} {c' f : Addr} {args : Args} {binds : List (Str × Value)} {R : Result → Shared → Prop}
    (T : Top p loose mean mg mb s.heap) (ho : s.heap.get? f = some (kla_obj name qual params body scope cl pm c' ctv)) (hcd : s.heap.CodeRec (.ref c') qual) (hroom : A.depth < recursionLimit)
    (hbind : bindArgs (kla_fn name qual params body scope cl pm (.ref c') ctv) args = pure binds) (hloc : ∀ y ∈ binds, scope.names.lookup y.1 = some .local)
    (h : ∀ L' h₁, Fr s.heap L' h₁ (fun y => binds.reverse.lookup y) → News s.heap L' h₁ [] →
      wpAny (model prog w) (A.deeper (envX qual scope L' f (.ref c') cl)) (eval body (envX qual scope L' f (.ref c') cl))
        (fun v s' => R (.ok (.ret v)) s')
        (fun e s' => wpAny (model prog w) (A.deeper (envX qual scope L' f (.ref c') cl)) (leaving (envX qual scope L' f (.ref c') cl) e) (fun _ s'' => R (.error e) s'') (fun e' s'' => R (.error e') s'') s')
        { s with heap := h₁, toks := s.toks + binds.length })
    (hco : scope.isCoroutine = false) (hgen : scope.isGenerator = false) (hk : scope.kind = .function)
    (hcell : ∀ x ∈ scope.names, x.2 ≠ .cell) : codeAny (model prog w) A (.call (.ref f) args) R s := by
  refine kla_callFunE hroom ho rfl hco hgen rfl hcd ?_
  rw [hbind]
  refine wpAny_pure (wpAny_newFunctionEnv hcell hloc (fun h₁ hns hsb => ⟨T.nolimit.fresh _ hsb, ?_⟩) hk)
  show codeAny _ _ (.expr body (envX qual scope s.heap.objs.size f (.ref c') cl)) _ _
  have hk₁ : ∀ b o, s.heap.get? b = some o → h₁.get? b = some o := fun b o e => hsb.extBut b o (Nat.ne_of_lt (Heap.lt_size e)) (Heap.get?_push_of_some _ e)
  exact kla_codeExpr (h s.heap.objs.size h₁ ⟨hns, hk₁, Nat.le_refl _⟩ News.nil)
end
end Mine
namespace Mine

theorem norm_up : ∀ (n : Nat) (u : Int) (k : Nat), norm (u * 10 ^ n) (k + n) = norm u k
  | 0, u, k => by simp
  | n + 1, u, k => by
    have e : u * 10 ^ (n + 1) = (u * 10 ^ n) * 10 := by rw [Int.pow_succ, Int.mul_assoc]
    show (if (u * 10 ^ (n + 1)) % 10 = 0 then norm ((u * 10 ^ (n + 1)) / 10) (k + n) else (u * 10 ^ (n + 1), k + n + 1)) = norm u k
    rw [e, if_pos (Int.mul_emod_left _ _), Int.mul_ediv_cancel _ (by decide)]
    exact norm_up n u k
noncomputable def v4 (n : Num) : Int := n.1 * 10 ^ (4 - n.2)
theorem norm_v4 {n : Num} (h : n.2 ≤ 4) : norm (v4 n) 4 = norm n.1 n.2 := by
  have e := norm_up (4 - n.2) n.1 n.2
  rw [show n.2 + (4 - n.2) = 4 by (first | lia | omega)] at e
  exact e
theorem v4_norm : ∀ (u : Int) (k : Nat), k ≤ 4 → (norm u k).2 ≤ 4 ∧ v4 (norm u k) = u * 10 ^ (4 - k)
  | u, 0, _ => ⟨Nat.zero_le _, rfl⟩
  | u, k + 1, h => by
    unfold norm
    split
    · rename_i h0
      obtain ⟨h1, h2⟩ := v4_norm (u / 10) k (by (first | lia | omega))
      refine ⟨h1, ?_⟩
      rw [h2, show 4 - k = 4 - (k + 1) + 1 by (first | lia | omega), Int.pow_succ, Int.mul_comm _ 10, ← Int.mul_assoc, Int.ediv_mul_cancel (Int.dvd_of_emod_eq_zero h0)]
    · exact ⟨h, rfl⟩
theorem v4_max {a b : Num} (ha : a.2 ≤ 4) (hb : b.2 ≤ 4) : a.1 * 10 ^ (max a.2 b.2 - a.2) * 10 ^ (4 - max a.2 b.2) = v4 a := by
  unfold v4
  rw [Int.mul_assoc, ← Int.pow_add, show max a.2 b.2 - a.2 + (4 - max a.2 b.2) = 4 - a.2 by (first | lia | omega)]
theorem v4_max' {a b : Num} (ha : a.2 ≤ 4) (hb : b.2 ≤ 4) : b.1 * 10 ^ (max a.2 b.2 - b.2) * 10 ^ (4 - max a.2 b.2) = v4 b := by
  unfold v4
  rw [Int.mul_assoc, ← Int.pow_add, show max a.2 b.2 - b.2 + (4 - max a.2 b.2) = 4 - b.2 by (first | lia | omega)]
theorem addO_v4 {a b : Num} (ha : a.2 ≤ 4) (hb : b.2 ≤ 4) : addO a b = norm (v4 a + v4 b) 4 := by
  have e := norm_up (4 - max a.2 b.2) (a.1 * 10 ^ (max a.2 b.2 - a.2) + b.1 * 10 ^ (max a.2 b.2 - b.2)) (max a.2 b.2)
  rw [show max a.2 b.2 + (4 - max a.2 b.2) = 4 by (first | lia | omega), Int.add_mul, v4_max ha hb, v4_max' ha hb] at e
  exact e.symm
theorem subO_v4 {a b : Num} (ha : a.2 ≤ 4) (hb : b.2 ≤ 4) : subO a b = norm (v4 a - v4 b) 4 := by
  have e := norm_up (4 - max a.2 b.2) (a.1 * 10 ^ (max a.2 b.2 - a.2) - b.1 * 10 ^ (max a.2 b.2 - b.2)) (max a.2 b.2)
  rw [show max a.2 b.2 + (4 - max a.2 b.2) = 4 by (first | lia | omega), Int.sub_mul, v4_max ha hb, v4_max' ha hb] at e
  exact e.symm
theorem v4_n4 (u : Int) : v4 (norm u 4) = u := by rw [(v4_norm u 4 (Nat.le_refl _)).2]; simp
theorem n4_le (u : Int) : (norm u 4).2 ≤ 4 := (v4_norm u 4 (Nat.le_refl _)).1

noncomputable def lop (i : Nat) : Op2 := if i % 3 = 1 then .sub else .add
noncomputable def lref (i : Nat) : Ex := .ref (Fin.ofNat 3 i)
noncomputable def longE : Nat → Ex
  | 0 => .ref 0
  | i + 1 => .bin (lop i) (longE i) (lref i)
noncomputable def lnum (ρ : Fin 3 → Num) (i : Nat) : Num := if i % 3 = 1 then negO (ρ 1) else ρ (Fin.ofNat 3 i)
noncomputable def lsum (ρ : Fin 3 → Num) : Nat → Int
  | 0 => v4 (ρ 0)
  | i + 1 => lsum ρ i + v4 (lnum ρ i)
theorem longE_size : ∀ i, (longE i).size = 2 * i + 1
  | 0 => rfl
  | i + 1 => by show (longE i).size + 1 + 1 = _; rw [longE_size i]; (first | lia | omega)
theorem longE_deep : ∀ i, (longE i).deep = i
  | 0 => rfl
  | i + 1 => by show max (longE i).deep 0 + 1 = _; rw [longE_deep i]; (first | lia | omega)
theorem longE_leaves : ∀ i, (longE i).leaves.length = i + 1
  | 0 => rfl
  | i + 1 => by show ((longE i).leaves ++ [lref i]).length = _; rw [List.length_append, longE_leaves i]; rfl
theorem longE_okn : ∀ i, (longE i).okn
  | 0 => trivial
  | i + 1 => ⟨longE_okn i, trivial⟩
theorem longE_bd : ∀ i, (longE i).bd = 400 + 122 * i
  | 0 => rfl
  | i + 1 => by
    have h := longE_bd i
    show (Ex.bin (lop i) (longE i) (lref i)).bd = _
    unfold lop lref
    split <;> (simp only [Ex.bd]; (first | lia | omega))
theorem ref_ofNat1 {i : Nat} (h : i % 3 = 1) : Fin.ofNat 3 i = 1 := Fin.ext (by show i % 3 = 1; exact h)
theorem longE_ev {ρ : Fin 3 → Num} (hρ : ∀ i, (ρ i).2 ≤ 4) (h0 : norm (ρ 0).1 (ρ 0).2 = ρ 0) : ∀ i, (longE i).ev ρ = some (norm (lsum ρ i) 4)
  | 0 => by
    show some (ρ 0) = _
    rw [show lsum ρ 0 = v4 (ρ 0) from rfl, norm_v4 (hρ 0), h0]
  | i + 1 => by
    show ((longE i).ev ρ).bind (fun a => (some (ρ (Fin.ofNat 3 i))).bind fun b => (lop i).ap a b) = _
    rw [longE_ev hρ h0 i]
    show (lop i).ap (norm (lsum ρ i) 4) (ρ (Fin.ofNat 3 i)) = some (norm (lsum ρ i + v4 (lnum ρ i)) 4)
    unfold lop lnum
    split
    · rename_i h1
      show some (subO _ _) = _
      rw [subO_v4 (n4_le _) (hρ _), v4_n4, ref_ofNat1 h1, show v4 (negO (ρ 1)) = - v4 (ρ 1) from by unfold v4 negO; rw [Int.neg_mul], Int.sub_eq_add_neg]
    · show some (addO _ _) = _
      rw [addO_v4 (n4_le _) (hρ _), v4_n4]
noncomputable def lnums (ρ : Fin 3 → Num) (n : Nat) : List Num := ρ 0 :: (List.range n).map (lnum ρ)
theorem lnums_sum (ρ : Fin 3 → Num) : ∀ n, ((lnums ρ n).map v4).sum = lsum ρ n
  | 0 => by simp [lnums, lsum]
  | n + 1 => by
    have h := lnums_sum ρ n
    simp only [lnums, List.map_cons, List.sum_cons] at h ⊢
    rw [List.range_succ, List.map_append, List.map_append, List.sum_append, ← Int.add_assoc, h]
    simp [lsum]
theorem lnum_le {ρ : Fin 3 → Num} (hρ : ∀ i, (ρ i).2 ≤ 4) (i : Nat) : (lnum ρ i).2 ≤ 4 := by
  unfold lnum
  split
  · exact hρ 1
  · exact hρ _
theorem lnum_bd {ρ : Fin 3 → Num} (hρ : ∀ i, Bd 400 (ρ i).1) (i : Nat) : Bd 400 (lnum ρ i).1 := by
  unfold lnum
  split
  · exact Bd.neg (hρ 1)
  · exact hρ _
theorem lnums_at {ρ : Fin 3 → Num} (hρ : ∀ i, (ρ i).2 ≤ 4) (hb : ∀ i, Bd 400 (ρ i).1) {n : Nat} : ∀ m ∈ lnums ρ n, m.2 ≤ 4 ∧ Bd 400 m.1 := by
  intro m hm
  rcases List.mem_cons.mp hm with rfl | hm
  · exact ⟨hρ 0, hb 0⟩
  · obtain ⟨i, _, rfl⟩ := List.mem_map.mp hm
    exact ⟨lnum_le hρ i, lnum_bd hb i⟩
theorem lnums_len (ρ : Fin 3 → Num) (n : Nat) : (lnums ρ n).length = n + 1 := by simp [lnums]
end Mine
namespace Mine
local macro_rules | `(tactic| walk_at "binaryOp FloorDiv int int") => `(tactic| (k_dflt (refine fdivR (by first | with_reducible assumption | decide) (by first | with_reducible assumption | exact bd_10) ?_)))
local macro_rules | `(tactic| walk_at "binaryOp Mult int int") => `(tactic| (k_dflt (refine mulR (by with_reducible assumption) ?_)))
local macro_rules | `(tactic| walk_at "subscriptTail") => `(tactic| ((with_reducible show wpAny _ _ (subscriptTail _ _ (Value.ref _) (Value.int _ _)) _ _ _); (rename Fr _ _ _ _ => F9); k_dflt (refine item_h F9 (by with_reducible assumption) (by rfl) (by rfl) ?_)))
local macro_rules | `(tactic| walk_at "binaryOp Pow int int") => `(tactic| (k_dflt (refine pow10R (by first | with_reducible assumption | decide | omega) (by first | with_reducible assumption | decide | omega) ?_)))
local macro_rules | `(tactic| walk_at "ite") => `(tactic| ((try dsimp only); first
  | (k_closed; k_dflt (first | refine ite_pos (by decide) ?_ | refine ite_neg (by decide) ?_))
  | with_reducible refine ite_tt ?_
  | with_reducible refine ite_ff ?_
  | refine ite_pos (by with_reducible assumption) ?_
  | refine ite_neg (by with_reducible assumption) ?_
  | refine ite_isFalse (by with_reducible assumption) ?_
  | refine ite_pos (by first | omega | ((simp only [decide_eq_true_eq, beq_iff_eq, bne_iff_ne, ne_eq]); omega)) ?_
  | refine ite_neg (by first | omega | ((simp only [decide_eq_true_eq, beq_iff_eq, bne_iff_ne, ne_eq]); omega)) ?_))
local macro_rules | `(tactic| walk_at "callWith") => `(tactic| first | with_reducible refine callWith_method0 ?_ | with_reducible refine callWith_method1 ?_)
section
theorem fillNT : (fun (_ : OpenLaw) (_ : Params → Frag) => True) PySem.Challenge.rw_pc0124_01 hd.heap_39 := by
  w_top off
  k_fill
  trivial



noncomputable def lawBody : List Stmt := match PR.main.body.getLast? with
  | some (.FunctionDef _ _ b _ _ _ _ _ _ _) => b
  | _ => []
noncomputable def lawScope : Scope := match PR.main.body.getLast? with
  | some (.FunctionDef _ _ _ _ _ _ sc _ _ _) => sc
  | _ => default
noncomputable def LongJ (G : Heap) (B R : List (Addr × Obj)) (many : Int) (tm : Tok) (i : Nat) (m : Str → Option Value) (nx : List (Addr × Obj)) : Prop :=
  ∃ (v : Value) (mm : Str → Option Value) (R' : List (Addr × Obj)), m = (fun y => if y = Str.ofString "long" then some v else if y = Str.ofString "many" then some (.int many tm) else mm y) ∧ nx = B ++ R' ∧ (∀ p ∈ R, p ∈ R') ∧ (∀ p ∈ R', p.1 ≠ 254 ∧ p.1 ≠ 261) ∧ DI G R' v (dat (longE i))
theorem DI.isRef {G : Heap} {r : List (Addr × Obj)} {v : Value} {z : Num} (h : DI G r v (numD z)) : ∃ a, v = .ref a := by
  unfold numD at h
  cases h
  exact ⟨_, rfl⟩
theorem DI.isNone {G : Heap} {r : List (Addr × Obj)} {v : Value} (h : DI G r v .none) : v = .none := by
  cases h
  rfl
theorem DI.isStr {G : Heap} {r : List (Addr × Obj)} {v : Value} {x : Str} (h : DI G r v (.str x)) : ∃ t, v = .str x t := by
  cases h
  exact ⟨_, rfl⟩
theorem DI.isRefD {G : Heap} {r : List (Addr × Obj)} {v : Value} {e : Ex} (h : DI G r v (dat e)) : ∃ a, v = .ref a := by
  cases e <;> (unfold dat at h; cases h; exact ⟨_, rfl⟩)
abbrev tupO (l : List Value) : Obj := { cls := .type "tuple", data := .seq l.toArray }
theorem fr_long {G h : Heap} {L : Addr} {v tv : Value} {w0 : Option Value} {many : Int} {tm : Tok} {mm : Str → Option Value} (F : Fr G L h (fun y => if y = Str.ofString "long" then some v else if y = Str.ofString "turn" then some tv else (fun y => if y = Str.ofString "long" then w0 else if y = Str.ofString "many" then some (.int many tm) else mm y) y)) :
    ∃ m2 : Str → Option Value, Fr G L h (fun y => if y = Str.ofString "long" then some v else if y = Str.ofString "many" then some (.int many tm) else m2 y) := by
  refine ⟨fun y => if y = Str.ofString "turn" then some tv else (fun y => if y = Str.ofString "long" then w0 else if y = Str.ofString "many" then some (.int many tm) else mm y) y, ?_⟩
  rw [show (fun y => if y = Str.ofString "long" then some v else if y = Str.ofString "many" then some (Value.int many tm) else if y = Str.ofString "turn" then some tv else (fun y => if y = Str.ofString "long" then w0 else if y = Str.ofString "many" then some (.int many tm) else mm y) y) = (fun y => if y = Str.ofString "long" then some v else if y = Str.ofString "turn" then some tv else (fun y => if y = Str.ofString "long" then w0 else if y = Str.ofString "many" then some (.int many tm) else mm y) y) from ?_]
  · exact F
  · funext y
    by_cases h1 : y = Str.ofString "long"
    · rw [if_pos h1, if_pos h1]
    · rw [if_neg h1, if_neg h1]
      by_cases h2 : y = Str.ofString "many"
      · subst h2
        rw [if_pos rfl, if_neg (by decide)]
        show _ = ite _ _ _
        rw [if_neg (by decide), if_pos rfl]
      · rw [if_neg h2]
theorem LongJ.turn {G h' : Heap} {L : Addr} {B R R2 own : List (Addr × Obj)} {many : Int} {tm t1 t2 t3 : Tok} {i : Nat} {v tv : Value} {w0 : Option Value} {mm : Str → Option Value} {D b c1 c2 : Addr} {o : Op2} {x : Str} {s : Shared} {tk : Nat}
    (F : Fr G L h' (fun y => if y = Str.ofString "long" then some (.ref D) else if y = Str.ofString "turn" then some tv else (fun y => if y = Str.ofString "long" then w0 else if y = Str.ofString "many" then some (.int many tm) else mm y) y))
    (N : News G L h' ((D, tupO [.str o.sg t1, v, .ref b]) :: (b, tupO [.str (Str.ofString "ref") t2, .str x t3, .ref c1, .ref c2, .none]) :: (c2, tupO []) :: (c1, tupO []) :: (B ++ R2 ++ own)))
    (ho : lop i = o) (hx : x = nm3 (Fin.ofNat 3 i)) (hRR : ∀ p ∈ R, p ∈ R2) (hoff2 : ∀ p ∈ R2, p.1 ≠ 254 ∧ p.1 ≠ 261) (hD : DI G R2 v (dat (longE i))) (hoff : OwnOff own ((B ++ R2).map (·.1))) (hcl : ∀ p ∈ own, ¬ tupObj p.2)
    {p4 p1 : Array Value} (h4 : (254, tabObj p4) ∈ B) (h1 : (261, tabObj p1) ∈ B) : InvEndG G L (LongJ G B R many tm (i + 1)) own s { s with heap := h', toks := tk } := by
  obtain ⟨m2, F2⟩ := fr_long F
  have hT : Tups [(D, tupO [.str o.sg t1, v, .ref b]), (b, tupO [.str (Str.ofString "ref") t2, .str x t3, .ref c1, .ref c2, .none]), (c2, tupO []), (c1, tupO [])] := Tups.cons rfl (Tups.cons rfl (Tups.cons rfl (Tups.cons rfl Tups.nil)))
  have N' : News G L h' ([(D, tupO [.str o.sg t1, v, .ref b]), (b, tupO [.str (Str.ofString "ref") t2, .str x t3, .ref c1, .ref c2, .none]), (c2, tupO []), (c1, tupO [])] ++ (B ++ R2 ++ own)) := N
  clear N F
  generalize hP : [(D, tupO [.str o.sg t1, v, .ref b]), (b, tupO [.str (Str.ofString "ref") t2, .str x t3, .ref c1, .ref c2, .none]), (c2, tupO []), (c1, tupO [])] = P at hT N'
  have NP : News G L h' P := News.sub N' fun p hp => List.mem_append_left _ hp
  have No : News G L h' own := News.sub N' fun p hp => List.mem_append_right _ (List.mem_append_right _ hp)
  have g4 := (N' _ (List.mem_append_right _ (List.mem_append_left _ (List.mem_append_left R2 h4)))).1
  have g1 := (N' _ (List.mem_append_right _ (List.mem_append_left _ (List.mem_append_left R2 h1)))).1
  have hoP := own_off No NP hT hcl
  refine inv_end F2 N' ⟨.ref D, m2, P ++ R2, rfl, rfl, fun p hp => List.mem_append_right _ (hRR p hp), fun p hp => ?_, ?_⟩ ?_ ?_ ?_
  · rcases List.mem_append.mp hp with hp | hp
    · exact ⟨tup_off1 g4 tab_no hT (fun p hp => (NP p hp).1) p hp, tup_off1 g1 tab_no hT (fun p hp => (NP p hp).1) p hp⟩
    · exact hoff2 p hp
  · subst hP
    show DI G _ _ (.tuple [.str (lop i).sg, dat (longE i), .tuple [.str (Str.ofString "ref"), .str (nm3 (Fin.ofNat 3 i)), .tuple [], .tuple [], .none]])
    rw [ho, ← hx]
    refine .tuple (.inr (.head _)) rfl rfl (.cons (.str _ _) (.cons (hD.mono fun p hp => List.mem_append_right _ hp) (.cons ?_ .nil)))
    refine .tuple (.inr (.tail _ (.head _))) rfl rfl (.cons (.str _ _) (.cons (.str _ _) (.cons ?_ (.cons ?_ (.cons .none .nil)))))
    · exact .tuple (.inr (.tail _ (.tail _ (.tail _ (.head _))))) rfl rfl .nil
    · exact .tuple (.inr (.tail _ (.tail _ (.head _)))) rfl rfl .nil
  · intro p hp b hb
    rw [List.map_append] at hb
    rcases List.mem_append.mp hb with hb | hb
    · exact hoff p hp b (by rw [List.map_append]; exact List.mem_append_left _ hb)
    · rw [List.map_append] at hb
      rcases List.mem_append.mp hb with hb | hb
      · exact hoP p hp b hb
      · exact hoff p hp b (by rw [List.map_append]; exact List.mem_append_right _ hb)
  · intro p hp
    rcases List.mem_append.mp hp with hp | hp
    · exact List.mem_append_right _ (List.mem_append_left _ (List.mem_append_left _ hp))
    · rcases List.mem_append.mp hp with hp | hp
      · exact List.mem_append_left _ hp
      · exact List.mem_append_right _ (List.mem_append_left _ (List.mem_append_right _ hp))
  · intro p hp
    exact List.mem_append_right _ (List.mem_append_right _ hp)
theorem abc_at {i : Nat} {d : Int} (h : d = (i : Int).fmod 3) : Txt.item (Str.ofString "ABC") d = nm3 (Fin.ofNat 3 i) := by
  rw [Int.fmod_eq_emod_of_nonneg _ (by decide)] at h
  obtain ⟨j, e, hj⟩ := abc_item (d := d) (by (first | lia | omega)) (by (first | lia | omega))
  rw [e]
  congr 1
  apply Fin.ext
  show j.val = i % 3
  (first | lia | omega)
theorem lnum_ne {ρ : Fin 3 → Num} {i : Nat} (h : (i : Int).fmod 3 ≠ 1) : lnum ρ i = ρ (Fin.ofNat 3 i) := by
  rw [Int.fmod_eq_emod_of_nonneg _ (by decide)] at h
  exact if_neg (by (first | lia | omega))
theorem lnum_eq {ρ : Fin 3 → Num} {i : Nat} (h : (i : Int).fmod 3 = 1) : lnum ρ i = negO (ρ 1) := by
  rw [Int.fmod_eq_emod_of_nonneg _ (by decide)] at h
  exact if_pos (by (first | lia | omega))
theorem lop_sub {i : Nat} (h : (i : Int).fmod 3 = 1) : lop i = .sub := by
  rw [Int.fmod_eq_emod_of_nonneg _ (by decide)] at h
  exact if_pos (by (first | lia | omega))
theorem lop_add {i : Nat} (h : (i : Int).fmod 3 ≠ 1) : lop i = .add := by
  rw [Int.fmod_eq_emod_of_nonneg _ (by decide)] at h
  exact if_neg (by (first | lia | omega))
section
variable {prog : Program} {w : World} {A : Around} {Q : Value → Shared → Prop} {s : Shared} {env : Env} {elt target : Expr} {ifs : List Expr} {scope : Scope} {cl : List (Str × Addr)}
theorem CompG.range {n : Nat} (hid : List (Addr × Obj)) (J : Nat → List Value → List (Addr × Obj) → Prop) (hh : A.handled = none) (hhid : ∀ p ∈ hid, s.heap.get? p.1 = some p.2) (hn : n ≤ sizeLine)
    (htg : ∀ it v, letOwnedTupleGo target it v = pure ()) (hj : J 0 [] hid) (turn : CTurn prog w A elt target ifs scope cl env s (hideAll s.heap (hid.map (·.1))) n (fun i v => ∃ t, v = .int (i : Int) t) J)
    (done : ∀ D h' tk ys rest k, J n ys rest → (hideAll s.heap (hid.map (·.1))).StaysIn h' → h'.get? D = some (listOf ys.toArray k) → s.heap.get? D = none → (∀ p ∈ rest, h'.get? p.1 = some p.2 ∧ (hideAll s.heap (hid.map (·.1))).get? p.1 = none ∧ p.1 ≠ D) → ys.length ≤ n → Q (.ref D) { s with heap := h', toks := tk }) :
    CompG prog w A elt target ifs scope cl env Q (.ref s.heap.objs.size) { s with heap := s.heap.push { cls := .type "range_iterator", data := .fields #[rawInt 0, rawInt (n : Int), rawInt 1] } } := by
  refine CompG.of hid J (Walks.range hh s.heap.objs.size 0 1 n) hn (by show IsRangeIter _ _ _ _ _; simpa using Heap.get?_push_size _ rfl) (fun i h st => ⟨_, st⟩) (fun b hb => .inl (List.mem_singleton.mp hb)) hhid ?_ hj ?_ done
  · intro v i s' Q' E' hP hst hQ
    exact wpAny_of_eq (htg _ _) hQ
  · intro h₀ C D I i v ys rest oI k h m tk tk₀ hp E' kg hi hP
    obtain ⟨t, rfl⟩ := hP
    rw [show (0 : Int) + (i : Int) * 1 = (i : Int) by (first | lia | omega)]
    exact turn h₀ C D I i _ ys rest oI k h m tk tk₀ hp E' kg hi ⟨t, rfl⟩
end
theorem item_worldG {w : World} {A : Around} {E : Value → Shared → Prop} {s : Shared} {d : Addr} {ρ : Fin 3 → Num} {hB : Heap} {i : Fin 3} {t : Tok} {value slice : PySem.Expr} {Q : Value → Shared → Prop} (W : WorldAt w hB d ρ) (k : hB.StaysIn s.heap)
    (h : ∀ v, Reads hB v (numD (ρ i)) [] → Q v { s with toks := s.toks + 1 })
    (hs : subscripted slice false (.ref d) (.str (nm3 i) t) = operate [.ref d, .str (nm3 i) t] (getItem (.ref d) (.str (nm3 i) t))) (hg : ∀ r, letTemporaryGo value (.ref d) r = pure ()) :
    wpAny (model PR w) A (subscriptTail value slice (.ref d) (.str (nm3 i) t)) Q E s := by
  obtain ⟨kvs, hd, hv⟩ := W
  obtain ⟨v, e, r⟩ := hv i
  exact subscriptTail_builtin (hd.keep k).typeIs slot_dict_getitem.lookup (wpAny_getItem_of (strKind_is _ _ _ _) (hd.keep k).mapOf e (h v r)) hs hg
section
local macro_rules | `(tactic| walk_at "eval Name") => `(tactic| ((with_reducible show wpAny _ _ (eval _ (compEnvC _ _ _ _)) _ _ _); (rename Fr _ _ _ _ => F9); k_dflt (first
  | refine nmC_L F9 (by rfl) ?_ (by exact rfl) (by with_unfolding_all rfl)
  | ((rename Frag.In _ _ => X9); (rename Top _ _ _ _ _ _ => T9); refine nmC_K F9 X9 T9 (by k_is) ?_ (by exact rfl) (by with_unfolding_all rfl) (by exact rfl)))))
local macro_rules | `(tactic| walk_at "storeName") => `(tactic| ((with_reducible show wpAny _ _ (storeName (compEnvC _ _ _ _) _ _) _ _ _); (rename Fr _ _ _ _ => F9); (rename News _ _ _ _ => N9); k_dflt (refine stC_L F9 N9 ?_ (by exact rfl) (by with_unfolding_all rfl)); intro h' F' N'))
local macro_rules | `(tactic| walk_at "eval ListComp") => `(tactic| (k_dflt (refine ListComp_G (cl := []) (closureFor_none (by decide)) (by decide) (by rfl) (by decide) ?_)))

local macro_rules | `(tactic| walk_at "eval Name") => `(tactic| ((with_reducible show wpAny _ _ (eval (Expr.Name (PySem.Str.ofString "world") _) (compEnvC _ _ _ _)) _ _ _); (rename Fr _ _ _ _ => F9); (rename Heap.IsCell _ _ _ => C9); k_dflt (refine' nmC_C F9 ?a9 C9 ?_ ?b9 ?c9; (case a9 => exact rfl); (case b9 => exact rfl); (case c9 => rfl))))
local macro_rules | `(tactic| walk_at "eval ListComp") => `(tactic| refine' halt ?_)
local macro_rules | `(tactic| walk_at "compareOp Eq ref ref") => `(tactic| refine' halt ?_)
theorem law_tail {ww : World} {rest : List Stmt} {sc : Scope} (hb : lawBody.drop 9 = rest) (hsc : lawScope = sc) {G : Heap} {L fa : Addr} {pp : Program} {lo : List Str} {me : ExcName → Option Value} {mgg mbb : Str → Option Value}
    (X : (hd.heap_39 ww.params).In G) (T : Top pp lo me mgg mbb G) (C8 : CodeHd G 258 254) (hl5 : @LT.lt Nat _ 254 L) (hl6 : @LT.lt Nat _ 261 L) {ρ : Fin 3 → Num} (hρ4 : ∀ i, Bd 400 (ρ i).1 ∧ Wm (ρ i))
    {dA : Addr} {oD oW : Obj} (hW : ∀ h2 : Heap, G.StaysIn h2 → h2.get? dA = some oD → WorldAt ww h2 dA ρ) (hd3 : @Ne Nat dA (L + 1 + 1)) (hd5 : @Ne Nat dA 254) (hd6 : @Ne Nat dA 261) (hdW : oW.data = .cell (some (.ref dA)))
    {ps1 ps2 : Array Value} (htri : TriplesOk ps1.toList) {c1 : Addr} {oc : Obj} (hc1 : codeAmong NPOS ps1.toList = some (.ref c1)) (hrec : ∀ H : Heap, H.get? c1 = some oc → H.CodeRec (.ref c1) NQ)
    {R : List (Addr × Obj)} (hcode : G.get? c1 = some oc ∨ (c1, oc) ∈ R) (hoffR : ∀ p ∈ R, p.1 ≠ 254 ∧ p.1 ≠ 261) {many : Int} {tm : Tok} (hm0 : 0 ≤ many) (hm61 : many < 61) {v0 : Value} (hV0 : DI G R v0 (dat (longE 0)))
    {s : Shared} {Q : Flow → Shared → Prop} {E : Value → Shared → Prop} {mm : Str → Option Value}
    (F : Fr G L s.heap (fun y => if y = Str.ofString "many" then some (.int many tm) else if y = Str.ofString "long" then some v0 else mm y))
    (N : News G L s.heap ((dA, oD) :: (L + 1 + 1, oW) :: (254, tabObj ps1) :: (261, tabObj ps2) :: R))
    (hret : ∀ h' tk, G.StaysIn h' → GrownAll [(258, 254), (263, 261)] h' → Q (.ret (.bool true)) { s with heap := h', toks := tk }) :
    wpAny (model PR ww) ((topA 301 4 (some []) (some [])).deeper (envOfC (Str.ofString "law") sc L fa (.ref 263))) (execs rest (envOfC (Str.ofString "law") sc L fa (.ref 263))) Q E s := by
  subst hb hsc
  change wpAny _ (Around.deeper _ (envOfC _ { kind := _, names := _, isGenerator := _, isCoroutine := _, more := _ } _ _ _)) (execs (_ :: _ :: _ :: _ :: [_]) (envOfC _ { kind := _, names := _, isGenerator := _, isCoroutine := _, more := _ } _ _ _)) _ _ _
  refine wpAny_noRaise ?_
  try dsimp only
  try k_fold
  k_with_none
  k_with "exec For" => ((rename Fr _ _ _ _ => F9); refine' For_invVF F9 ?hx ?hp ?_; (case hx => rfl); (case hp => rfl))
  k_with "pyIter ref" => (refine' halt ?_)
  repeat' (first | (k_unfold; (try dsimp only)) | (k_end; wrow_close) | ((try dsimp only); walk1) | (leave1; walk_say "STEP leave1"; try dsimp only) | fail "no step")
  refine Halt.mk ?_
  rename Fr _ _ _ _ => F9
  rename News _ _ _ _ => N9
  rename IsRange _ _ _ _ _ _ _ _ => R9
  have hab : many = ((many.toNat : Nat) : Int) := (Int.toNat_of_nonneg hm0).symm
  have hmn : many.toNat ≤ 60 := by (first | lia | omega)
  refine' range_G many.toNat (LongJ G [(dA, oD), (L + 1 + 1, oW), (254, tabObj ps1), (261, tabObj ps2)] R many tm) ?hh R9 hab ?hn F9 N9 ?hj ?_ ?_
  case hh => rfl
  case hn => (first | lia | omega)
  case hj =>
    refine ⟨v0, mm, R, funext fun y => ?_, rfl, fun p hp => hp, hoffR, hV0⟩
    by_cases h1 : y = Str.ofString "long"
    · subst h1
      rw [if_neg (by decide), if_pos rfl, if_pos rfl]
    · rw [if_neg h1, if_neg h1]
  all_goals clear F9 N9 R9
  · rintro i t m₁ nx h tk own hi hoff hcl ⟨v, m2, R2, rfl, rfl, hRR, hoff2, hD⟩ F N
    have F : Fr G L h _ := F
    have N : News G L h _ := N
    have XA := X.keeps F.keep
    try dsimp only
    try k_fold
    k_with_none
    k_with "newTuple" => (rename Fr _ _ _ _ => F9; rename News _ _ _ _ => N9; refine kup_newTuple F9 N9 ?_ (by size_fits); clear F9 N9; intro D9 h9 F9 N9 l9; (try dsimp only))
    k_with "subscriptTail" => (refine' halt ?_)
    repeat' (first | (k_unfold; (try dsimp only)) | (k_end; wrow_close) | ((try dsimp only); walk1) | (leave1; walk_say "STEP leave1"; try dsimp only) | fail "no step")
    · rename Fr _ _ _ _ => F9
      rename News _ _ _ _ => N9
      rename Int.fmod _ _ = _ => e1
      exact LongJ.turn (o := .sub) F9 N9 (lop_sub e1) (abc_at rfl) hRR hoff2 hD hoff hcl (.tail _ (.tail _ (.head _))) (.tail _ (.tail _ (.tail _ (.head _))))
    · rename Fr _ _ _ _ => F9
      rename News _ _ _ _ => N9
      rename Int.fmod _ _ ≠ _ => e1
      exact LongJ.turn (o := .add) F9 N9 (lop_add e1) (abc_at rfl) hRR hoff2 hD hoff hcl (.tail _ (.tail _ (.head _))) (.tail _ (.tail _ (.tail _ (.head _))))
  · rintro m₁ nx h tk ⟨v, m2, R2, rfl, rfl, hRR, hoff2, hD⟩ F N
    have F : Fr G L h _ := F
    have N : News G L h _ := N
    replace hcode : G.get? c1 = some oc ∨ (c1, oc) ∈ R2 := hcode.imp id (hRR _)
    dsimp only [List.cons_append, List.nil_append] at N
    try dsimp only
    try k_fold
    k_with_none
    k_with "call ref" => (refine' halt ?_)
    repeat' (first | (k_unfold; (try dsimp only)) | (k_end; wrow_close) | ((try dsimp only); walk1) | (leave1; walk_say "STEP leave1"; try dsimp only) | fail "no step")
    refine Halt.mk ?_
    rename Fr _ _ _ _ => F9
    rename News _ _ _ _ => N9
    have hρ30 : ∀ i, Bd 400 (ρ i).1 ∧ (ρ i).2 ≤ 30 := fun i => ⟨(hρ4 i).1, Nat.le_trans (hρ4 i).2.1 (by decide)⟩
    have h2n := N9 (254, tabObj ps1) (.tail _ (.tail _ (.head _)))
    obtain ⟨oL, hoL, hoLd⟩ := fr_obj F9
    have kH := hid_two (a := 254) F9 h2n.2.2
    have hcg : (hideAll h [254, L]).get? c1 = some oc := hcode.elim (fun g => kH _ _ g) fun g => hid_mem N9 (p := (c1, oc)) (.tail _ (.tail _ (.tail _ (.tail _ g)))) (hoff2 _ g).1
    have hev : (longE many.toNat).ev ρ = some (norm (lsum ρ many.toNat) 4) := longE_ev (fun i => (hρ4 i).2.1) (hρ4 0).2.2 _
    refine asked_spec (ρ := ρ) hρ30 (ps := ps1) (L0 := L) (o0 := oL) (e := longE many.toNat) (X.keeps kH) (T.keeps kH) h2n.1 hoL hoLd (Nat.ne_of_lt hl5) (C8.keeps kH) htri (.inr ⟨c1, hc1, hrec _ hcg⟩) (by decide) (hD.readsH kH (fun p hp => hid_mem N9 (.tail _ (.tail _ (.tail _ (.tail _ hp)))) (hoff2 p hp).1)) (hW _ kH (hid_mem N9 (.head _) hd5)) (by rw [longE_size]; (first | lia | omega)) (by rw [longE_bd]; (first | lia | omega)) (longE_okn _) ?hFF rfl ?_
    case hFF => exact Heap.FunFrames.cons (L := L) (by intro q; cases q) rfl F9.ns (hideAll_none _ (by simp)) trivial
    rintro h10 tk10 vA ⟨aR, vf, aA, oA, its, ds, ps3, c3, X1, rfl, -, hgA, hIL, hRf, hRA, hpre, hisS, kH10, hg254, htri3, -, ⟨sl, hgL⟩, hX1, -⟩
    have kG10 : G.StaysIn h10 := fun b o z => kH10 b o (kH b o z)
    have F8 := fr_slots F9 kG10 hoL hgL
    have N8 := asked_led (A := [(dA, oD), (L + 1 + 1, oW)]) (B := (261, tabObj ps2) :: R2) N9 kH10 hg254 (all_cons hd5 (all_cons (Nat.ne_of_gt (Nat.lt_succ_of_lt (Nat.lt_succ_of_lt hl5))) all_nil)) (all_cons (by decide : (261 : Nat) ≠ 254) (fun p hp => (hoff2 p hp).1))
    have N8b : News G L h10 ((aR, { cls := .type "tuple", data := .seq #[vf, .ref aA] }) :: (aA, oA) :: X1) := fun p hp => ⟨(hX1 p hp).1, (hX1 p hp).2.2.2, none_back kH (hX1 p hp).2.1⟩
    dsimp only [List.cons_append, List.nil_append] at N8
    obtain ⟨ob, hob, hcA, nA, hdA9⟩ := hIL
    obtain rfl := Option.some.inj (hgA.symm.trans hob)
    clear hob
    obtain rfl : ds = (longE many.toNat).leaves := hisS (by rw [hev]; rfl)
    have hRf2 : Reads h10 vf (numD (norm (lsum ρ many.toNat) 4)) [] := by rw [hev] at hRf; exact hRf
    refine Reads.regE F8 hRf2 fun rF hTF hNF hDF => ?_
    refine ReadsAll.regE F8 hRA fun rS hTS hNS hDS => ?_
    have N7 : News G L h10 ((dA, oD) :: (L + 1 + 1, oW) :: (254, tabObj ps3) :: (261, tabObj ps2) :: (aR, { cls := .type "tuple", data := .seq #[vf, .ref aA] }) :: (aA, oA) :: (R2 ++ (rF ++ rS))) := all_cons (N8 _ (.head _)) (all_cons (N8 _ (.tail _ (.head _))) (all_cons (N8 _ (.tail _ (.tail _ (.head _)))) (all_cons (N8 _ (.tail _ (.tail _ (.tail _ (.head _))))) (all_cons (N8b _ (.head _)) (all_cons (N8b _ (.tail _ (.head _))) (all_app (fun p h => N8 p (.tail _ (.tail _ (.tail _ (.tail _ h))))) (all_app hNF hNS)))))))
    clear F9 N9 F N N8 N8b hX1 kH10 hg254 hgL hgA hRf hRf2 hRA hpre hisS hNF hNS h2n kH hoL hoLd hcg hrec hcode
    try dsimp only
    try k_fold
    k_with_none
    k_with "call ref" => (refine' halt ?_)
    k_with "subscriptTail" => (refine' halt ?_)
    k_with "newTuple" => (rename Fr _ _ _ _ => F9; rename News _ _ _ _ => N9; refine kup_newTuple F9 N9 ?_ (by size_fits); clear F9 N9; intro D9 h9 F9 N9 l9; (try dsimp only))
    repeat' (first | (k_unfold; (try dsimp only)) | (k_end; wrow_close) | ((try dsimp only); walk1) | (leave1; walk_say "STEP leave1"; try dsimp only) | fail "no step")
    refine Halt.mk ?_
    rename Fr _ _ _ _ => F9
    rename News _ _ _ _ => N9
    refine item_world (i := 0) (hW _ F9.keep (N9 _ (.head _)).1) (fun va hva => ?_) (by with_unfolding_all rfl) (by intro _; with_unfolding_all rfl)
    refine Reads.regE F9 hva fun rA hTA hNA hDA => ?_
    have N7 := News.app N9 hNA
    dsimp only [List.cons_append, List.nil_append] at N7
    clear N9 hNA hva
    repeat' (first | (k_unfold; (try dsimp only)) | (k_end; wrow_close) | ((try dsimp only); walk1) | (leave1; walk_say "STEP leave1"; try dsimp only) | fail "no step")
    refine Halt.mk ?_
    rename Fr _ _ _ _ => F9
    rename News _ _ _ _ => N9
    refine' ListComp_G (cl := [(Str.ofString "world", L + 1 + 1)]) ?a9 ?b9 ?c9 ?d9 ?_
    case a9 => with_unfolding_all rfl
    case b9 => decide
    case c9 => rfl
    case d9 => decide
    k_with_none
    k_with "pyIter ref" => (refine' halt ?_)
    repeat' (first | (k_unfold; (try dsimp only)) | (k_end; wrow_close) | ((try dsimp only); walk1) | (leave1; walk_say "STEP leave1"; try dsimp only) | fail "no step")
    refine Halt.mk ?_
    rename Fr _ _ _ _ => F9
    rename News _ _ _ _ => N9
    rename IsRange _ _ _ _ _ _ _ _ => R9
    refine wpAny_pyIter_range R9 (small_one (by decide) (by decide) (by (first | lia | omega)) (by (first | lia | omega))) ?_
    have hsz : Builtin.Range.rangeSize 0 many 1 = ((many.toNat : Nat) : Int) := by rw [rangeSize_nat]; (first | lia | omega)
    rw [hsz]
    rename_i hC _ _ _ _ _
    refine CompG.range (n := many.toNat) [] (fun i ys rest => DIs hC rest ys ((List.range i).map fun j => numD (lnum ρ j))) rfl (by simp) (by rw [sizeLine_eq]; (first | lia | omega)) (fun _ _ => rfl) .nil ?turn ?done
    case turn =>
      rintro h₀ C D I i v ys rest oI k h m tk tk₀ hp0 E' kg hi ⟨t, rfl⟩ hJ F N hID hoff
      replace kg : hC.StaysIn h₀ := kg
      have kG0 : G.StaysIn h₀ := fun b o e => kg b o (F9.keep b o e)
      have C9 : h₀.IsCell (L + 1 + 1) (some (.ref dA)) := ⟨oW, kg _ _ (N9 _ (.tail _ (.tail _ (.head _)))).1, hdW⟩
      have X := X.keeps kG0
      have T := T.keeps kG0
      have hWC : WorldAt ww hC dA ρ := hW _ F9.keep (N9 (dA, oD) (.tail _ (.head _))).1
      clear F9 N9 R9
      k_with_none
      k_with "subscriptTail" => ((with_reducible show wpAny _ _ (subscriptTail _ _ (Value.ref _) (Value.str _ _)) _ _ _); refine' halt ?_)
      repeat' (first | (k_unfold; (try dsimp only)) | (k_end; wrow_close) | ((try dsimp only); walk1) | (leave1; walk_say "STEP leave1"; try dsimp only) | fail "no step")
      · refine Halt.mk ?_
        rename Fr _ _ _ _ => F9
        rename News _ _ _ _ => N9
        rename Int.fmod _ _ ≠ _ => e1
        rw [show Txt.item (Str.ofString "ABC") ((i : Int).fmod 3) = nm3 (Fin.ofNat 3 i) from abc_at rfl]
        refine item_worldG (hB := hC) (i := Fin.ofNat 3 i) hWC (fun b o e => F9.keep b o (kg b o e)) (fun va hva => ?_) (by with_unfolding_all rfl) (by intro _; with_unfolding_all rfl)
        repeat' (first | (k_unfold; (try dsimp only)) | (k_end; wrow_close) | ((try dsimp only); walk1) | (leave1; walk_say "STEP leave1"; try dsimp only) | fail "no step")
        try k_unfold
        try dsimp only
        refine CEnd.intro rest F9 N9 hoff ?_
        rw [List.range_succ, List.map_append]
        refine hJ.snoc ?_
        show DI hC rest va (numD (lnum ρ i))
        rw [lnum_ne e1]
        exact Reads.di hva rfl
      · refine Halt.mk ?_
        rename Fr _ _ _ _ => F9
        rename News _ _ _ _ => N9
        rename Int.fmod _ _ = _ => e1
        refine item_worldG (hB := hC) (i := 1) hWC (fun b o e => F9.keep b o (kg b o e)) (fun va hva => ?_) (by with_unfolding_all rfl) (by intro _; with_unfolding_all rfl)
        obtain ⟨a1, u1, u2, rfl, hI1⟩ := num_open hva
        have hI1 := Tup.keeps kg hI1
        repeat' (first | (k_unfold; (try dsimp only)) | (k_end; wrow_close) | ((try dsimp only); walk1) | (leave1; walk_say "STEP leave1"; try dsimp only) | fail "no step")
        refine Halt.mk ?_
        rename Fr _ _ _ _ => F9
        rename News _ _ _ _ => N9
        refine item_worldG (hB := hC) (i := 1) hWC (fun b o e => F9.keep b o (kg b o e)) (fun vb hvb => ?_) (by with_unfolding_all rfl) (by intro _; with_unfolding_all rfl)
        obtain ⟨a2, u3, u4, rfl, hI2⟩ := num_open hvb
        have hI2 := Tup.keeps kg hI2
        repeat' (first | (k_unfold; (try dsimp only)) | (k_end; wrow_close) | ((try dsimp only); walk1) | (leave1; walk_say "STEP leave1"; try dsimp only) | fail "no step")
        try k_unfold
        try dsimp only
        rename Fr _ _ _ _ => F9
        rename News _ _ _ _ => N9
        rename_i aN hN lN
        obtain ⟨lN1, lN2, lN3⟩ := lN
        refine CEnd.intro ((aN, _) :: rest) F9 (News.sub N9 (by
          intro p hp
          simp only [List.mem_cons] at hp ⊢
          rcases hp with h | h | h | h
          · exact .inr (.inl h)
          · exact .inr (.inr (.inl h))
          · exact .inl h
          · exact .inr (.inr (.inr h)))) (by
          intro p hp
          rcases List.mem_cons.mp hp with rfl | hp
          · exact ⟨Nat.ne_of_gt lN1, Nat.ne_of_gt lN2⟩
          · exact hoff p hp) ?_
        rw [List.range_succ, List.map_append]
        refine DIs.snoc ?_ (hJ.mono fun p hp => .tail _ hp)
        show DI hC _ _ (numD (lnum ρ i))
        rw [lnum_eq e1]
        exact .tuple (.inr (.head _)) rfl rfl (.cons (.int _ _) (.cons (.int _ _) .nil))
    case done =>
      rintro D h6 tk6 ys rest k hJ hs hD hD0 hrest hlen
      replace hs : hC.StaysIn h6 := hs
      have FD := fresh_of F9 N9 D hD0
      have F7 := F9.keeps hs
      have hYR := DIs.readsH hs (fun p hp => (hrest p hp).1) hJ
      refine ReadsAll.regE F7 hYR fun rG hTG hNG hDG => ?_
      have N7 := News.app (News.put (N9.grown hs) hD FD.2.1 FD.1) hNG
      dsimp only [List.cons_append, List.nil_append] at N7
      have hyl : ys.length = many.toNat := by
        have := readsAll_len hYR
        rw [this, List.length_map, List.length_range]
      clear F9 N9 R9 hNG hJ hs hD hrest hYR
      k_with_none
      k_with "binaryOp Add ref ref" => (refine' halt ?_)
      repeat' (first | (k_unfold; (try dsimp only)) | (k_end; wrow_close) | ((try dsimp only); walk1) | (leave1; walk_say "STEP leave1"; try dsimp only) | fail "no step")
      refine Halt.mk ?_
      rename Fr _ _ _ _ => F9
      rename News _ _ _ _ => N9
      have hDG2 : DIs G (R2 ++ (rF ++ rS) ++ rA ++ rG) (va :: ys) ((lnums ρ many.toNat).map numD) := by
        rw [lnums, List.map_cons, List.map_map]
        exact .cons (hDA.mono fun p hp => List.mem_append_left _ (List.mem_append_right _ hp)) (hDG.mono fun p hp => List.mem_append_right _ hp)
      refine add_lists F9 N9 (vs := [va]) (ws := ys) (News.isList N9 (.tail _ (.head _))) (News.isList N9 (.head _)) (fun h11 F8 N8 => ?_) (by rw [sizeLine_eq, hyl]; show 1 + _ ≤ _; (first | lia | omega))
      clear F9 N9
      dsimp only at N8 ⊢
      generalize h6.objs.size = aS at N8 ⊢
      k_with_none
      k_with "pyIter ref" => (refine' halt ?_)
      k_with "call builtin:sum" => (refine' halt ?_)
      repeat' (first | (k_unfold; (try dsimp only)) | (k_end; wrow_close) | ((try dsimp only); walk1) | (leave1; walk_say "STEP leave1"; try dsimp only) | fail "no step")
      refine Halt.mk ?_
      rename Fr _ _ _ _ => F9
      rename News _ _ _ _ => N9
      refine' ListComp_G (cl := []) ?a9 ?b9 ?c9 ?d9 ?_
      case a9 => exact closureFor_none (by decide)
      case b9 => decide
      case c9 => rfl
      case d9 => decide
      repeat' (first | (k_unfold; (try dsimp only)) | (k_end; wrow_close) | ((try dsimp only); walk1) | (leave1; walk_say "STEP leave1"; try dsimp only) | fail "no step")
      refine Halt.mk ?_
      rename Fr _ _ _ _ => F9
      rename News _ _ _ _ => N9
      rename_i hE
      have hlS := News.isList N9 (items := ([va] ++ ys).toArray) (.head _)
      refine wpAny_pyIter_list hlS ?_
      have hSR : ReadsAll hE (va :: ys) ((lnums ρ many.toNat).map numD) [] := hDG2.reads F9 (News.sub N9 fun p hp => .tail _ (.tail _ (.tail _ (.tail _ (.tail _ (.tail _ (.tail _ (.tail _ (.tail _ hp)))))))))
      refine CompG.list [] (fun i ys rest => rest = [] ∧ IntsAre ys (((lnums ρ many.toNat).take i).map v4)) rfl hlS (by simp) (by simp) ?hsz ?htg ⟨rfl, .nil⟩ ?turn ?done
      case htg => exact .inr fun _ _ => rfl
      case hsz =>
        rw [sizeLine_eq, List.size_toArray]
        show (va :: ys).length ≤ _
        rw [List.length_cons, hyl]
        (first | lia | omega)
      case turn =>
        rintro h₀ C D I i v ys2 rest oI k h m tk tk₀ hp E' kg hi hP ⟨rfl, hY⟩ F N hID -
        replace kg : hE.StaysIn h₀ := kg
        obtain ⟨d, hd, hr⟩ := readsAll_get hSR rfl i v (by simpa using hP)
        rw [List.getElem?_map] at hd
        obtain ⟨mn, hx, rfl⟩ := Option.map_eq_some_iff.mp hd
        obtain ⟨hm4, hmb⟩ := lnums_at (fun i => (hρ4 i).2.1) (fun i => (hρ4 i).1) mn (List.mem_of_getElem? hx)
        obtain ⟨a1, u1, u2, rfl, hI1⟩ := num_open hr
        have hI1 := Tup.keeps kg hI1
        have X : (Mine.hd.heap_39 ww.params).In h₀ := X.keeps fun b o q => kg b o (F9.keep b o q)
        have T := T.keeps fun b o q => kg b o (F9.keep b o q)
        clear F9 N9
        have hq4 : (4 - (mn.2 : Int)).toNat = 4 - mn.2 := by (first | lia | omega)
        have hmul : IntMulOk mn.1 (10 ^ (4 - (mn.2 : Int)).toNat) := Bd.ok hmb (Bd.pow10 _) (Nat.le_trans (by (first | lia | omega) : 400 + (4 * (4 - (mn.2 : Int)).toNat + 1) ≤ 500) (by decide))
        k_with_none
        repeat' (first | (k_unfold; (try dsimp only)) | (k_end; wrow_close) | ((try dsimp only); walk1) | (leave1; walk_say "STEP leave1"; try dsimp only) | fail "no step")
        rename Fr _ _ _ _ => F9
        rename News _ _ _ _ => N9
        refine CEnd.intro [] F9 N9 (by simp) ⟨rfl, ?_⟩
        rw [List.take_add_one, hx, List.map_append, hq4]
        exact hY.append (.cons _ _ .nil)
      case done =>
        rintro D7 h7 tk7 ys2 rest k7 ⟨rfl, hY⟩ hs hD7 hD70 - hlen2
        replace hs : hE.StaysIn h7 := hs
        have FD7 := fresh_of F9 N9 D7 hD70
        have F8 := F9.keeps hs
        have N8 := News.put (N9.grown hs) hD7 FD7.2.1 FD7.1
        have eS : (lnums ρ many.toNat).take ([va] ++ ys).toArray.size = lnums ρ many.toNat := by
          rw [List.size_toArray]
          show List.take (va :: ys).length _ = _
          rw [List.length_cons, hyl, ← lnums_len ρ, List.take_length]
        rw [eS] at hY
        clear F9 N9 hlS hs hD7
        k_with_none
        k_with "call builtin:sum" => (refine' halt ?_)
        k_with "call ref" => (refine' halt ?_)
        repeat' (first | (k_unfold; (try dsimp only)) | (k_end; wrow_close) | ((try dsimp only); walk1) | (leave1; walk_say "STEP leave1"; try dsimp only) | fail "no step")
        refine Halt.mk ?_
        rename Fr _ _ _ _ => F9
        rename News _ _ _ _ => N9
        refine LSm.sum_ints F9 N9 rfl (News.isList N9 (.head _)) hY (fun h8 tk8 t8 F8 N8 => ?_)
        rw [lnums_sum]
        clear F9 N9
        k_with_none
        k_with "call ref" => (refine' halt ?_)
        repeat' (first | (k_unfold; (try dsimp only)) | (k_end; wrow_close) | ((try dsimp only); walk1) | (leave1; walk_say "STEP leave1"; try dsimp only) | fail "no step")
        refine Halt.mk ?_
        rename Fr _ _ _ _ => F9
        rename News _ _ _ _ => N9
        refine least_spec (n := 4) (X.keeps F9.keep) (T.keeps F9.keep) (by decide) (by decide) ?_
        intro h12 tk12 vl hS12 hvl
        have F8 := F9.keeps hS12
        refine Reads.regE F8 hvl fun rL hTL hNL hDL => ?_
        have N8 := News.app (N9.grown hS12) hNL
        dsimp only [List.cons_append, List.nil_append] at N8
        clear F9 N9 hNL hvl hS12
        k_with "compareOp Eq" => (refine' halt ?_)
        k_with "call builtin:len" => (refine' halt ?_)
        repeat' (first | (k_unfold; (try dsimp only)) | (k_end; wrow_close) | ((try dsimp only); walk1) | (leave1; walk_say "STEP leave1"; try dsimp only) | fail "no step")
        refine Halt.mk ?_
        rename Fr _ _ _ _ => F9
        rename News _ _ _ _ => N9
        have hun : 4 + 3 + 64 < cLine := by decide
        obtain ⟨af, rfl⟩ := hDF.isRef
        obtain ⟨al, rfl⟩ := hDL.isRef
        refine SeqAt.compareEq_shaped (hDF.reads F9 (News.sub (a := rF) N9 fun p hp => .tail _ (.tail _ (.tail _ (.tail _ (.tail _ (.tail _ (.tail _ (.tail _ (.tail _ (.tail _ (List.mem_append_left _ (List.mem_append_left _ (List.mem_append_left _ (List.mem_append_right _ (List.mem_append_left _ hp)))))))))))))))) (hDL.reads F9 (News.sub (a := rL) N9 fun p hp => .tail _ (.tail _ (.tail _ (.tail _ (.tail _ (.tail _ (.tail _ (.tail _ (.tail _ (.tail _ (List.mem_append_right _ hp)))))))))))) (num_shaped _) (num_shaped _) hun ?_
        rw [SeqAt.eqv_refl _ (by unfold numD; rfl)]
        have hil : (its.size : Int) = many + 1 := by
          have := readsAll_len (hDS.reads F9 (News.sub (a := rS) N9 fun p hp => .tail _ (.tail _ (.tail _ (.tail _ (.tail _ (.tail _ (.tail _ (.tail _ (.tail _ (.tail _ (List.mem_append_left _ (List.mem_append_left _ (List.mem_append_left _ (List.mem_append_right _ (List.mem_append_right _ hp))))))))))))))))
          rw [List.length_map, Array.length_toList, longE_leaves] at this
          rw [this]
          (first | lia | omega)
        try dsimp only
        repeat' (first | (k_unfold; (try dsimp only)) | (k_end; wrow_close) | ((try dsimp only); walk1) | (leave1; walk_say "STEP leave1"; try dsimp only) | fail "no step")
        refine Halt.mk ?_
        rename Fr _ _ _ _ => F9
        rename News _ _ _ _ => N9
        refine call_len_list (items := its) ⟨_, (N9 (aA, _) (.tail _ (.tail _ (.tail _ (.tail _ (.tail _ (.tail _ (.tail _ (.tail _ (.tail _ (.head _)))))))))) ).1, hcA, nA, hdA9⟩ (by (first | lia | omega)) ?_
        rw [hil]
        repeat' (first | (k_unfold; (try dsimp only)) | (k_end; wrow_close) | ((try dsimp only); walk1) | (leave1; walk_say "STEP leave1"; try dsimp only) | fail "no step")
        · refine Halt.mk ?_
          rename Fr _ _ _ _ => F9
          rename News _ _ _ _ => N9
          refine depth_spec (e := longE many.toNat) (X.keeps F9.keep) (T.keeps F9.keep) (by decide) (hD.reads F9 (News.sub (a := R2) N9 fun p hp => .tail _ (.tail _ (.tail _ (.tail _ (.tail _ (.tail _ (.tail _ (.tail _ (.tail _ (.tail _ (List.mem_append_left _ (List.mem_append_left _ (List.mem_append_left _ (List.mem_append_left _ hp))))))))))))))) (by rw [longE_size]; (first | lia | omega)) ?_
          intro h16 tk16 t16 hS16
          have F7 := F9.keeps hS16
          have N7 := N9.grown hS16
          rw [longE_deep, ← hab]
          clear F9 N9
          repeat' (first | (k_unfold; (try dsimp only)) | (k_end; wrow_close) | ((try dsimp only); walk1) | (leave1; walk_say "STEP leave1"; try dsimp only) | fail "no step")
          rw [show (many == many) = true from beq_self_eq_true _]
          exact hret _ _ F7.keep ⟨⟨ps3, (N7 _ (.tail _ (.tail _ (.tail _ (.tail _ (.tail _ (.tail _ (.head _)))))))).1⟩, ⟨ps2, (N7 _ (.tail _ (.tail _ (.tail _ (.tail _ (.tail _ (.tail _ (.tail _ (.head _))))))))).1⟩, trivial⟩
        · rename_i hne
          exact absurd rfl hne
end
end
section
theorem fillNA : (fun (_ : OpenLaw) (_ : Params → Frag) => True) PySem.Challenge.rw_pc0124_01 hd.heap_39 := by
  w_top off
  k_fill
  trivial



theorem ScrAt.hold {h : Heap} {l : Addr} {ns : List Int} (x : ScrAt h l ns) : ∃ o, h.get? l = some o ∧ ∀ h', h'.get? l = some o → ScrAt h' l ns := by
  obtain ⟨⟨vs, ⟨o, e, r⟩, hi⟩, r2, r3⟩ := x
  exact ⟨o, e, fun h' q => ⟨⟨vs, ⟨o, q, r⟩, hi⟩, r2, r3⟩⟩
theorem tri_no_str {l : List Value} {x : Str} {t : Tok} (h : TriplesOk l) (q : l[1]? = some (.str x t)) : False := by
  unfold TriplesOk at h
  split at h
  · cases q
  · cases q
  · exact h
theorem IsListK {h h' : Heap} {a : Addr} {xs : Array Value} (x : h.IsList a xs) (k : h.StaysIn h') : h'.IsList a xs := by
  obtain ⟨o, e, r⟩ := x
  exact ⟨o, k _ _ e, r⟩
section
variable {prog : Program} {w : World} {A : Around} {Q : Value → Shared → Prop} {s : Shared} {env : Env} {elt target : Expr} {ifs : List Expr} {scope : Scope} {cl : List (Str × Addr)}
theorem CompG.letters {x : Str} {t : Tok} (hid : List (Addr × Obj)) (J : Nat → List Value → List (Addr × Obj) → Prop) (hh : A.handled = none) (hhid : ∀ p ∈ hid, s.heap.get? p.1 = some p.2) (hn : x.cps.size ≤ sizeLine)
    (htg : ∀ it v, letOwnedTupleGo target it v = pure ()) (hj : J 0 [] hid) (turn : CTurn prog w A elt target ifs scope cl env s (hideAll s.heap (hid.map (·.1))) x.cps.size (SignAt x) J)
    (done : ∀ D h' tk ys rest k, J x.cps.size ys rest → (hideAll s.heap (hid.map (·.1))).StaysIn h' → h'.get? D = some (listOf ys.toArray k) → s.heap.get? D = none → (∀ p ∈ rest, h'.get? p.1 = some p.2 ∧ (hideAll s.heap (hid.map (·.1))).get? p.1 = none ∧ p.1 ≠ D) → ys.length ≤ x.cps.size → Q (.ref D) { s with heap := h', toks := tk }) :
    CompG prog w A elt target ifs scope cl env Q (.ref s.heap.objs.size) { s with heap := s.heap.push { cls := .type "str_ascii_iterator", data := .fields #[.str x t, .int 0 0] } } := by
  refine CompG.of hid J (Walks.strAscii hh s.heap.objs.size x t) hn ⟨_, Heap.get?_push_size _ rfl, rfl, rfl⟩ (fun i h st => by obtain ⟨o, e, _⟩ := st; exact ⟨o, e⟩) (fun b hb => .inl (List.mem_singleton.mp hb)) hhid ?_ hj turn done
  intro v i s' Q' E' hP hst hQ
  exact wpAny_of_eq (htg _ _) hQ
end
noncomputable def PenJ (G : Heap) (l : Addr) (q : Int) (pen : Addr) (i : Nat) (ys : List Value) (rest : List (Addr × Obj)) : Prop :=
  ∃ k' c' u1 u2 u3 n', ∃ (ns : List Num) (tups : List (Addr × Obj)), rest = (pen, penO l k' c' q u1 u2 u3 n') :: tups ∧ k' ≤ i ∧ 0 ≤ c' ∧ ns.length = i ∧ ys.length = i ∧ (∀ m ∈ ns, Bd 400 m.1 ∧ Wm m) ∧ (∀ p ∈ tups, p.1 ≠ pen) ∧
    ∀ (j : Nat) y m, ys[j]? = some y → ns[j]? = some m → ∃ a t v, y = .ref a ∧ (a, ({ cls := .type "tuple", data := .seq #[.str (nm3 (Fin.ofNat 3 j)) t, v] } : Obj)) ∈ tups ∧ Reads G v (numD m) []
theorem PenJ.zero {G : Heap} {l : Addr} {q : Int} {pen : Addr} {t1 t2 t3 : Tok} {n : Nat} : PenJ G l q pen 0 [] [(pen, penO l 0 0 q t1 t2 t3 n)] :=
  ⟨0, 0, t1, t2, t3, n, [], [], rfl, Nat.le_refl _, by decide, rfl, rfl, (by intro m hm; cases hm), (by intro p hp; cases hp), (by intro j y m q; cases q)⟩
theorem PenJ.step {G : Heap} {l : Addr} {q : Int} {pen : Addr} {i : Nat} {ys : List Value} {k3 : Nat} {c3 : Int} {w1 w2 w3 : Tok} {n3 : Nat} {ns : List Num} {tups : List (Addr × Obj)} {a : Addr} {u : Tok} {v : Value} {mm : Num} (hk : k3 ≤ i + 1) (hc : 0 ≤ c3) (h1 : ns.length = i) (h2 : ys.length = i)
    (hm : ∀ m ∈ ns, Bd 400 m.1 ∧ Wm m) (hto : ∀ p ∈ tups, p.1 ≠ pen) (hpr : ∀ (j : Nat) y m, ys[j]? = some y → ns[j]? = some m → ∃ a t v, y = .ref a ∧ (a, ({ cls := .type "tuple", data := .seq #[.str (nm3 (Fin.ofNat 3 j)) t, v] } : Obj)) ∈ tups ∧ Reads G v (numD m) [])
    (ha : a ≠ pen) (hr : Reads G v (numD mm) []) (hb1 : Bd 400 mm.1) (hb2 : Wm mm) :
    PenJ G l q pen (i + 1) (ys ++ [.ref a]) ((pen, penO l k3 c3 q w1 w2 w3 n3) :: (a, { cls := .type "tuple", data := .seq #[.str (nm3 (Fin.ofNat 3 i)) u, v] }) :: tups) := by
  refine ⟨k3, c3, w1, w2, w3, n3, ns ++ [mm], _, rfl, hk, hc, by simp [h1], by simp [h2], ?_, ?_, ?_⟩
  · intro m hm'
    rcases List.mem_append.mp hm' with h | h
    · exact hm m h
    · rw [List.mem_singleton.mp h]; exact ⟨hb1, hb2⟩
  · intro p hp
    rcases List.mem_cons.mp hp with rfl | hp
    · exact ha
    · exact hto p hp
  · intro j y m hy hm'
    rcases Nat.lt_or_ge j i with hj | hj
    · rw [List.getElem?_append_left (by (first | lia | omega))] at hy hm'
      obtain ⟨a', t, v', e1, e2, e3⟩ := hpr j y m hy hm'
      exact ⟨a', t, v', e1, .tail _ e2, e3⟩
    · rw [List.getElem?_append_right (by (first | lia | omega))] at hy hm'
      rw [h2] at hy
      rw [h1] at hm'
      rcases (by (first | lia | omega) : j = i ∨ 0 < j - i) with rfl | hj'
      · simp only [Nat.sub_self, List.getElem?_cons_zero] at hy hm'
        cases hy
        cases hm'
        exact ⟨a, u, v, rfl, .head _, hr⟩
      · rw [List.getElem?_eq_none (by simp; (first | lia | omega))] at hy
        cases hy
theorem refs_eqv (l : List Ex) : (!PyData.eqv (.list ((l.filter (fun x => !x.isNum)).map dat)) (.list (([] : List Ex).map dat))) = !(l.all Ex.isNum) := by
  cases hf : l.filter (fun x => !x.isNum) with
  | nil =>
    have : l.all Ex.isNum = true := by
      rw [List.all_eq_true]
      intro x hx
      have := List.filter_eq_nil_iff.mp hf x hx
      simpa using this
    rw [this]
    rfl
  | cons x r =>
    have hx : x ∈ l.filter (fun x => !x.isNum) := by rw [hf]; exact .head _
    obtain ⟨h1, h2⟩ := List.mem_filter.mp hx
    have : l.all Ex.isNum = false := by
      cases ha : l.all Ex.isNum with
      | false => rfl
      | true =>
        rw [List.all_eq_true.mp ha x h1] at h2
        cases h2
    rw [this]
    rfl
theorem if_cutA {M : Model} {A : Around} {c : Sem Flow} {E : Value → Shared → Prop} {Q : Flow → Shared → Prop} {s : Shared} {G : Heap} {L : Addr} {m : Str → Option Value} {α : Type} (led : α → List (Addr × Obj)) (a : α) (F : Fr G L s.heap m) (N : News G L s.heap (led a))
    (h : ∀ (Q1 : Flow → Shared → Prop), (∀ h tk x, Fr G L h m → News G L h (led x) → Q1 .next { s with heap := h, toks := tk }) → wpAny M A c Q1 E s)
    (k : ∀ h tk x, Fr G L h m → News G L h (led x) → Q .next { s with heap := h, toks := tk }) : wpAny M A c Q E s :=
  wpAny_mono (h (fun f s' => f = .next ∧ ∃ h tk x, s' = { s with heap := h, toks := tk } ∧ Fr G L h m ∧ News G L h (led x)) fun h tk x F N => ⟨rfl, h, tk, x, rfl, F, N⟩) (fun f s' q => by obtain ⟨rfl, h, tk, x, rfl, F, N⟩ := q; exact k h tk x F N) fun _ _ y => y
theorem mem_back {p t : Addr × Obj} {A C : List (Addr × Obj)} (h : p ∈ A ++ t :: C) : p ∈ (A ++ C) ++ [t] := by
  simp only [List.mem_append, List.mem_cons, List.not_mem_nil, or_false] at h ⊢
  rcases h with h | h | h
  · exact .inl (.inl h)
  · exact .inr h
  · exact .inl (.inr h)
theorem num_pair {h : Heap} {a : Addr} {t : Tok} {v : Value} {z : Num} (hr : Reads h v (numD z) []) (hg : h.get? a = some { cls := .type "tuple", data := .seq #[.str (Str.ofString "number") t, v] }) : Reads h (.ref a) (dat (.num z)) [] := by
  unfold dat
  exact .tuple hg rfl rfl (.cons (as := []) (bs := []) (.str _ _) (.cons (as := []) (bs := []) hr .nil))
theorem if_cut {M : Model} {A : Around} {c : Sem Flow} {E : Value → Shared → Prop} {Q : Flow → Shared → Prop} {s : Shared} {G : Heap} {L : Addr} {m : Str → Option Value} {led : List (Addr × Obj)} (F : Fr G L s.heap m) (N : News G L s.heap led)
    (h : ∀ (Q1 : Flow → Shared → Prop), (∀ h tk, Fr G L h m → News G L h led → Q1 .next { s with heap := h, toks := tk }) → wpAny M A c Q1 E s)
    (k : ∀ h tk, Fr G L h m → News G L h led → Q .next { s with heap := h, toks := tk }) : wpAny M A c Q E s :=
  wpAny_mono (h (fun f s' => f = .next ∧ ∃ h tk, s' = { s with heap := h, toks := tk } ∧ Fr G L h m ∧ News G L h led) fun h tk F N => ⟨rfl, h, tk, rfl, F, N⟩) (fun f s' q => by obtain ⟨rfl, h, tk, rfl, F, N⟩ := q; exact k h tk F N) fun _ _ y => y
noncomputable def LawEnd (G : Heap) (s : Shared) (f : Flow) (s' : Shared) : Prop := ∃ h' tk, f = .ret (.bool true) ∧ s' = { s with heap := h', toks := tk } ∧ G.StaysIn h' ∧ GrownAll [(258, 254), (263, 261)] h'
theorem law_open {w : World} {env : Env} {c : Sem Flow} {Q : Flow → Shared → Prop} {E : Value → Shared → Prop} {s : Shared} {G : Heap} (X : (hd.heap_39 w.params).In G)
    (h : ∀ (Q' : Flow → Shared → Prop) (E' : Value → Shared → Prop), (∀ h' tk, G.StaysIn h' → GrownAll [(258, 254), (263, 261)] h' → Q' (.ret (.bool true)) { s with heap := h', toks := tk }) → wpAny (model PR w) ((topA 301 4 (some []) (some [])).deeper env) c Q' E' s)
    (hq : ∀ f s', LawEnd G s f s' → Q f s') : wpAny (model PR w) (callerA.deeper env) c Q E s :=
  h Q E fun h' tk k g => hq _ _ ⟨h', tk, rfl, rfl, k, g⟩
theorem worth_item {P : Params} {g : Heap} (X : (hd.heap_39 P).In g) {d : Int} (h0 : 0 ≤ d) (h7 : d < 7) :
    ∃ v m, [Value.ref 172, .ref 173, .ref 174, .ref 175, .ref 176, .ref 177, .ref 178][d.toNat]? = some v ∧ Reads g v (numD m) [] ∧ Bd 400 m.1 ∧ Wm m := by
  rcases (by (first | lia | omega) : d = 0 ∨ d = 1 ∨ d = 2 ∨ d = 3 ∨ d = 4 ∨ d = 5 ∨ d = 6) with rfl | rfl | rfl | rfl | rfl | rfl | rfl
  · exact ⟨_, (0, 0), rfl, num_close (tup_K X (by k_is) rfl rfl), bd_small (by decide), by decide, by decide⟩
  · exact ⟨_, (1, 0), rfl, num_close (tup_K X (by k_is) rfl rfl), bd_small (by decide), by decide, by decide⟩
  · exact ⟨_, (-3, 0), rfl, num_close (tup_K X (by k_is) rfl rfl), bd_small (by decide), by decide, by decide⟩
  · exact ⟨_, (25, 1), rfl, num_close (tup_K X (by k_is) rfl rfl), bd_small (by decide), by decide, by decide⟩
  · exact ⟨_, (-125, 3), rfl, num_close (tup_K X (by k_is) rfl rfl), bd_small (by decide), by decide, by decide⟩
  · exact ⟨_, (7, 0), rfl, num_close (tup_K X (by k_is) rfl rfl), bd_small (by decide), by decide, by decide⟩
  · exact ⟨_, (123456789, 4), rfl, num_close (tup_K X (by k_is) rfl rfl), bd_small (by decide), by decide, by decide⟩
theorem long_zero {G h : Heap} {L D D1 c1 c2 pen dA l b2 b1 aR aA : Addr} {o0 o1 o2 o3 o4 o5 o6 o7 : Obj} {t1 t2 : Tok} {p1 p2 : Array Value} {R : List (Addr × Obj)}
    (N : News G L h ((D, o0) :: (D1, tupO [.str (Str.ofString "ref") t1, .str (Str.ofString "A") t2, .ref c1, .ref c2, .none]) :: (c2, tupO []) :: (c1, tupO []) :: (pen, o1) :: (dA, o2) :: (l, o3) :: (b2, o4) :: (b1, o5) :: (254, tabObj p1) :: (261, tabObj p2) :: (aR, o6) :: (aA, o7) :: R))
    (hR : ∀ p ∈ R, p.1 ≠ 254 ∧ p.1 ≠ 261) :
    ∃ R', (∀ p ∈ R, p ∈ R') ∧ (∀ p ∈ R', p.1 ≠ 254 ∧ p.1 ≠ 261) ∧ DI G R' (.ref D1) (dat (longE 0)) ∧ News G L h ((dA, o2) :: (b2, o4) :: (254, tabObj p1) :: (261, tabObj p2) :: R') := by
  have hT : Tups [(D1, tupO [.str (Str.ofString "ref") t1, .str (Str.ofString "A") t2, .ref c1, .ref c2, .none]), (c2, tupO []), (c1, tupO [])] := Tups.cons rfl (Tups.cons rfl (Tups.cons rfl Tups.nil))
  have NP : News G L h [(D1, tupO [.str (Str.ofString "ref") t1, .str (Str.ofString "A") t2, .ref c1, .ref c2, .none]), (c2, tupO []), (c1, tupO [])] := fun p hp => by
    simp only [List.mem_cons, List.not_mem_nil, or_false] at hp
    rcases hp with h | h | h
    · exact N p (by rw [h]; exact .tail _ (.head _))
    · exact N p (by rw [h]; exact .tail _ (.tail _ (.head _)))
    · exact N p (by rw [h]; exact .tail _ (.tail _ (.tail _ (.head _))))
  have g4 := (N (254, tabObj p1) (.tail _ (.tail _ (.tail _ (.tail _ (.tail _ (.tail _ (.tail _ (.tail _ (.tail _ (.head _))))))))))).1
  have g1 := (N (261, tabObj p2) (.tail _ (.tail _ (.tail _ (.tail _ (.tail _ (.tail _ (.tail _ (.tail _ (.tail _ (.tail _ (.head _)))))))))))).1
  refine ⟨[(D1, tupO [.str (Str.ofString "ref") t1, .str (Str.ofString "A") t2, .ref c1, .ref c2, .none]), (c2, tupO []), (c1, tupO [])] ++ R, fun p hp => List.mem_append_right _ hp, fun p hp => ?_, ?_, fun p hp => ?_⟩
  · rcases List.mem_append.mp hp with hp | hp
    · exact ⟨tup_off1 g4 tab_no hT (fun p hp => (NP p hp).1) p hp, tup_off1 g1 tab_no hT (fun p hp => (NP p hp).1) p hp⟩
    · exact hR p hp
  · show DI G _ _ (.tuple [.str (Str.ofString "ref"), .str (nm3 0), .tuple [], .tuple [], .none])
    refine .tuple (.inr (.head _)) rfl rfl (.cons (.str _ _) (.cons (.str _ _) (.cons ?_ (.cons ?_ (.cons .none .nil)))))
    · exact .tuple (.inr (.tail _ (.tail _ (.head _)))) rfl rfl .nil
    · exact .tuple (.inr (.tail _ (.head _))) rfl rfl .nil
  · rcases List.mem_cons.mp hp with h | hp
    · exact N p (by rw [h]; exact .tail _ (.tail _ (.tail _ (.tail _ (.tail _ (.head _))))))
    rcases List.mem_cons.mp hp with h | hp
    · exact N p (by rw [h]; exact .tail _ (.tail _ (.tail _ (.tail _ (.tail _ (.tail _ (.tail _ (.head _))))))))
    rcases List.mem_cons.mp hp with h | hp
    · exact N p (by rw [h]; exact .tail _ (.tail _ (.tail _ (.tail _ (.tail _ (.tail _ (.tail _ (.tail _ (.tail _ (.head _))))))))))
    rcases List.mem_cons.mp hp with h | hp
    · exact N p (by rw [h]; exact .tail _ (.tail _ (.tail _ (.tail _ (.tail _ (.tail _ (.tail _ (.tail _ (.tail _ (.tail _ (.head _)))))))))))
    rcases List.mem_append.mp hp with hp | hp
    · exact NP p hp
    · exact N p (.tail _ (.tail _ (.tail _ (.tail _ (.tail _ (.tail _ (.tail _ (.tail _ (.tail _ (.tail _ (.tail _ (.tail _ (.tail _ hp)))))))))))))
theorem abc_size {i : Nat} (hi : i < (Str.ofString "ABC").cps.size) : i < 3 := by
  have e3 : (Str.ofString "ABC").cps = #[65, 66, 67] := by decide +kernel
  rw [e3] at hi
  exact hi
theorem abc_sign {i : Nat} {c : Nat} (hi : i < (Str.ofString "ABC").cps.size) (h : (Str.ofString "ABC").cps[i]? = some c) : (⟨#[c]⟩ : Str) = nm3 (Fin.ofNat 3 i) := by
  have e3 : (Str.ofString "ABC").cps = #[65, 66, 67] := by decide +kernel
  rw [e3] at hi h
  have : i = 0 ∨ i = 1 ∨ i = 2 := by simp at hi; (first | lia | omega)
  rcases this with rfl | rfl | rfl <;> (cases h; decide +kernel)
section
local macro_rules | `(tactic| walk_at "eval Name") => `(tactic| ((with_reducible show wpAny _ _ (eval _ (compEnvC _ _ _ _)) _ _ _); (rename Fr _ _ _ _ => F9); k_dflt (first
  | refine nmC_L F9 (by rfl) ?_ (by exact rfl) (by with_unfolding_all rfl)
  | ((rename Frag.In _ _ => X9); (rename Top _ _ _ _ _ _ => T9); refine nmC_K F9 X9 T9 (by k_is) ?_ (by exact rfl) (by with_unfolding_all rfl) (by exact rfl)))))
local macro_rules | `(tactic| walk_at "storeName") => `(tactic| ((with_reducible show wpAny _ _ (storeName (compEnvC _ _ _ _) _ _) _ _ _); (rename Fr _ _ _ _ => F9); (rename News _ _ _ _ => N9); k_dflt (refine stC_L F9 N9 ?_ (by exact rfl) (by with_unfolding_all rfl)); intro h' F' N'))
local macro_rules | `(tactic| walk_at "eval ListComp") => `(tactic| (k_dflt (refine ListComp_G (cl := []) (closureFor_none (by decide)) (by decide) (by rfl) (by decide) ?_)))

local macro_rules | `(tactic| walk_at "eval Name") => `(tactic| ((with_reducible show wpAny _ _ (eval (Expr.Name (PySem.Str.ofString "pen") _) (compEnvC _ _ _ _)) _ _ _); (rename Fr _ _ _ _ => F9); (rename Heap.IsCell _ _ _ => C9); k_dflt (refine' nmC_C F9 ?a9 C9 ?_ ?b9 ?c9; (case a9 => exact rfl); (case b9 => exact rfl); (case c9 => rfl))))
local macro_rules | `(tactic| walk_at "eval ListComp") => `(tactic| refine' halt ?_)
local macro_rules | `(tactic| walk_at "compareOp NotEq ref ref") => `(tactic| refine' halt ?_)
local macro_rules | `(tactic| walk_at "eval Lambda") => `(tactic| refine' halt ?_)
local macro_rules | `(tactic| walk_at "call type:dict") => `(tactic| refine' halt ?_)
theorem law_holds : PySem.Challenge.rw_pc0124_01.Holds := hd (by
  k_go0
  all_goals try k_fold
  rename World => ww
  rename Frag.In _ _ => X
  rename Top _ _ _ _ _ _ => T
  rename Fr _ _ _ _ => F
  rename News _ _ _ _ => N
  rename Heap.IsList _ _ _ => hI
  rename IntsAre _ _ => hi
  rename PyData.layable0 _ = true => hlay
  have C3 := codeHd
  clear codeHd
  refine law_open X (fun Q E hret => ?_) ?_
  · rename_i s0 s1 mg mb G0 Y fa o pm doc ho hg X1 V T1 B TE TW hcd ns hs hlay0 hr1 hl2 w6 w5 a vs w2 hL ra w1 r0 hr hlen htrue hDD hh1 tk1 o2 o1 hw2 hw1 X0 K0 l0
    clear X0 hDD K0 htrue hr r0 w1 ra hL hcd TW TE B T1 V X1 Y hT9 hT8 ho G0 hs hlay0 hr1 hl2
    replace hw1 : o1.data = .cell none := hw1
    replace hw2 : o2.data = .cell none := hw2
    generalize hG : ghostOf _ _ = G at X T F N hI codeHd C3 hret
    generalize hL : Array.size _ = L at F N l0 ⊢
    clear hG hL
    obtain ⟨pp, lo, me, mgg, mbb, T⟩ : ∃ p loose mean mg mb, Top p loose mean mg mb G := ⟨_, _, _, _, _, T⟩
    replace C8 : CodeHd G 258 254 := codeHd
    replace C3 : CodeHd G 263 261 := C3
    clear codeHd
    have hlen : List.length _ ≤ 63 := Nat.not_lt.mp fun q => hlen (Int.ofNat_lt.mpr q)
    k_with_none
    k_with "call ref" => (refine' halt ?_)
    repeat' (first | (k_unfold; (try dsimp only)) | (k_end; wrow_close) | ((try dsimp only); walk1) | (leave1; walk_say "STEP leave1"; try dsimp only) | fail "no step")
    refine Halt.mk ?_
    rename Fr _ _ _ _ => F9
    rename News _ _ _ _ => N9
    refine pen_spec (X.keeps F9.keep) (T.keeps F9.keep) (by decide) (IsListK hI F9.keep) hi hlay hlen ?_
    rintro h1 tk1 pen l q t1 t2 t3 n hS hpn hln hpl hp hq1 hq2 ⟨ns', hSc⟩
    obtain ⟨m0, F2⟩ : ∃ m0, Fr G L h1 m0 := ⟨_, F9.keeps hS⟩
    have N2 := N9.grown hS
    have hK9 := fresh_of F9 N9 pen hpn
    have hK8 := fresh_of F9 N9 l hln
    obtain ⟨oS, hlS, hScr⟩ := hSc.hold
    replace N2 : News G L h1 ((pen, penO l 0 0 q t1 t2 t3 n) :: (l, oS) :: _) := all_cons ⟨hp, hK9.2.1, hK9.1⟩ (all_cons ⟨hlS, hK8.2.1, hK8.1⟩ N2)
    have hp1 := hK9.2.2 _ (.head _)
    have hp2 := hK9.2.2 _ (.tail _ (.head _))
    have hp3 := hK9.2.2 _ (.tail _ (.tail _ (.head _)))
    have hp4 := hK9.2.2 _ (.tail _ (.tail _ (.tail _ (.head _))))
    have hl1 := hK8.2.2 _ (.head _)
    have hl2 := hK8.2.2 _ (.tail _ (.head _))
    have hl3 := hK8.2.2 _ (.tail _ (.tail _ (.head _)))
    have hl4 := hK8.2.2 _ (.tail _ (.tail _ (.tail _ (.head _))))
    dsimp only at hp1 hp2 hp3 hp4 hl1 hl2 hl3 hl4
    replace hp1 : @Ne Nat pen (L + 1 + 1) := Ne.symm hp1
    replace hp2 : @Ne Nat pen (L + 1) := Ne.symm hp2
    replace hp3 : @Ne Nat pen 254 := Ne.symm hp3
    replace hp4 : @Ne Nat pen 261 := Ne.symm hp4
    replace hl1 : @Ne Nat l (L + 1 + 1) := Ne.symm hl1
    replace hl2 : @Ne Nat l (L + 1) := Ne.symm hl2
    replace hl3 : @Ne Nat l 254 := Ne.symm hl3
    replace hl4 : @Ne Nat l 261 := Ne.symm hl4
    replace hpl : @Ne Nat pen l := hpl
    have hl5 := ltN (a := 254) (b := L) l0.1
    have hl6 := ltN (a := 261) (b := L) l0.2
    clear F9 N9 hK9 hK8 hp hlS
    k_with_none
    repeat' (first | (k_unfold; (try dsimp only)) | (k_end; wrow_close) | ((try dsimp only); walk1) | (leave1; walk_say "STEP leave1"; try dsimp only) | fail "no step")
    refine Halt.mk ?_
    rename Fr _ _ _ _ => F9
    rename News _ _ _ _ => N9
    rename_i oP hdP

    refine' ListComp_G (cl := [(Str.ofString "pen", L + 1)]) ?a9 ?b9 ?c9 ?d9 ?_
    case a9 => with_unfolding_all rfl
    case b9 => decide
    case c9 => rfl
    case d9 => decide
    k_with "pyIter str" => (refine' halt ?_)
    repeat' (first | (k_unfold; (try dsimp only)) | (k_end; wrow_close) | ((try dsimp only); walk1) | (leave1; walk_say "STEP leave1"; try dsimp only) | fail "no step")
    refine Halt.mk ?_
    refine wpAny_pyIter_ascii (by decide +kernel) ?_
    refine CompG.letters (x := Str.ofString "ABC") [(pen, penO l 0 0 q t1 t2 t3 n)] (fun i ys rest => PenJ G l q pen i ys rest) rfl ?hhid (by decide +kernel) (fun _ _ => rfl) ?hj ?turn ?done
    case hhid => exact fun p hp' => by rw [List.mem_singleton.mp hp']; exact (N9 _ (.head _)).1
    case hj => exact PenJ.zero
    case turn =>
      rintro h₀ C D I i v ys rest oI k h m tk tk₀ hp0 E' kg hi ⟨c, u, hc1, rfl⟩ ⟨k', c', u1, u2, u3, n', ns2, tups, rfl, hk', hc', hl1', hl2', hm, hto, hpr⟩ F N hID hoff
      replace kg : (hideAll _ [pen]).StaysIn h₀ := kg
      have kG0 : G.StaysIn h₀ := fun b o e => kg b o (pen_hid F9 N9 b o e)
      have C9 : h₀.IsCell (L + 1) (some (.ref pen)) := ⟨oP, kg _ _ (hideAll_get _ (N9 _ (.tail _ (.tail _ (.tail _ (.head _))))).1 (by rw [List.mem_singleton]; exact Ne.symm hp2)), hdP⟩
      have hScr0 : ScrAt h₀ l ns' := hScr h₀ (kg _ _ (hideAll_get _ (N9 _ (.tail _ (.head _))).1 (by rw [List.mem_singleton]; exact Ne.symm hpl)))
      have X0 := X
      have X := X.keeps kG0
      have T := T.keeps kG0
      obtain ⟨hnm⟩ : Nonempty ((⟨#[c]⟩ : Str) = nm3 (Fin.ofNat 3 i)) := ⟨abc_sign hi hc1⟩
      rw [hnm]
      have hpI := (hoff (pen, penO l k' c' q u1 u2 u3 n') (.head _)).1
      have hpD := (hoff (pen, penO l k' c' q u1 u2 u3 n') (.head _)).2
      dsimp only at hpI hpD
      replace N : News h₀ C h ((pen, penO l k' c' q u1 u2 u3 n') :: (I, oI) :: (D, listOf ys.toArray k) :: tups) := News.sub N (by
        intro p hp
        simp only [List.mem_cons] at hp ⊢
        rcases hp with h | h | h | h
        · exact .inr (.inr (.inl h))
        · exact .inl h
        · exact .inr (.inl h)
        · exact .inr (.inr (.inr h)))
      have hin : ∀ p ∈ tups, p.1 ≠ I ∧ p.1 ≠ D := fun p hp => hoff p (.tail _ hp)
      clear hoff F9 N9
      k_with_none
      k_with "call ref" => (refine' halt ?_)
      repeat' (first | (k_unfold; (try dsimp only)) | (k_end; wrow_close) | ((try dsimp only); walk1) | (leave1; walk_say "STEP leave1"; try dsimp only) | fail "no step")
      refine Halt.mk ?_
      rename Fr _ _ _ _ => F8
      rename News _ _ _ _ => N8
      have XA : (Mine.hd.heap_39 ww.params).In h₀ := by assumption
      have TA : Top pp lo me mgg mbb h₀ := by assumption
      refine draw_spec (ns := ns') (XA.keeps (pen_hid F8 N8)) (TA.keeps (pen_hid F8 N8)) (by decide) (N8 _ (.head _)).1 (hScr0.keeps (pen_hid F8 N8)) (by have := abc_size hi; (first | lia | omega)) hc' ⟨hq1, hq2⟩ ⟨by decide, by decide⟩ ?_
      intro h3 tk3 d3 td3 k3 c3 w1 w2 w3 n3 hd30 hd37 hk3 hk4 hc3 hS3 hp3
      obtain ⟨F3, N3⟩ := pen_turn F8 N8 (all_cons (Ne.symm hpI) (all_cons (Ne.symm hpD) hto)) hS3 hp3
      obtain ⟨v, mm, hx, hr, hb1, hb2⟩ := worth_item X0 hd30 hd37
      clear F8 N8
      refine item_c (l := [_, _, _, _, _, _, _]) (tup_K (XA.keeps F3.keep) (by k_is) rfl rfl) (by simp only [Bool.and_eq_true, decide_eq_true_eq]; (first | lia | omega)) hx ?_ (by with_unfolding_all rfl)
      repeat' (first | (k_unfold; (try dsimp only)) | (k_end; wrow_close) | ((try dsimp only); walk1) | (leave1; walk_say "STEP leave1"; try dsimp only) | fail "no step")
      try k_unfold
      try dsimp only
      rename Fr _ _ _ _ => F8
      rename News _ _ _ _ => N8
      rename_i aN hN lN
      obtain ⟨lN1, lN2, lN3, lN4⟩ := lN
      refine CEnd.intro ((pen, penO l k3 c3 q w1 w2 w3 n3) :: (aN, _) :: tups) F8 (News.sub N8 (by
        intro p hp
        simp only [List.mem_cons] at hp ⊢
        rcases hp with h | h | h | h | h
        · exact .inr (.inr (.inl h))
        · exact .inr (.inr (.inr (.inl h)))
        · exact .inr (.inl h)
        · exact .inl h
        · exact .inr (.inr (.inr (.inr h))))) (by
        intro p hp
        rcases List.mem_cons.mp hp with rfl | hp
        · exact ⟨hpI, hpD⟩
        rcases List.mem_cons.mp hp with rfl | hp
        · exact ⟨Nat.ne_of_gt lN2, Nat.ne_of_gt lN3⟩
        · exact hin p hp) (PenJ.step (by (first | lia | omega)) hc3 hl1' hl2' hm hto hpr (Nat.ne_of_gt lN1) hr hb1 hb2)
    case done =>
      rintro D h6 tk6 ys rest k ⟨k', c', u1, u2, u3, n', ns2, tups, rfl, hk', hc', hl1', hl2', hm, hto, hpr⟩ hs hD hD0 hrest -
      have e3 : (Str.ofString "ABC").cps.size = 3 := by decide +kernel
      rw [e3] at hk' hl1' hl2'
      obtain ⟨F2, N2⟩ := pen_turn F9 N9 (all_cons (Ne.symm hpl) (all_cons (Ne.symm hp1) (all_cons (Ne.symm hp2) (all_cons (Ne.symm hp3) (all_cons (Ne.symm hp4) all_nil))))) hs (hrest _ (.head _)).1
      have htup := fun p hp => (hrest p (.tail _ hp)).1
      clear F9 N9 hrest
      k_with_none
      repeat' (first | (k_unfold; (try dsimp only)) | (k_end; wrow_close) | ((try dsimp only); walk1) | (leave1; walk_say "STEP leave1"; try dsimp only) | fail "no step")
      refine Halt.mk ?_
      rename Fr _ _ _ _ => F9
      rename News _ _ _ _ => N9
      refine world_made (G := G) (ns := ns2) (tups := tups) rfl hD hl1' hl2' hpr hm htup ?_
      intro h7 tk7 ρ oD hS7 hoD hρ4 hW
      have F3 := F9.keeps hS7
      have N3 := N9.grown hS7
      have hK9 := fresh_of F9 N9 h6.objs.size (Heap.get?_none_of_le (Nat.le_refl _))
      generalize hdA : h6.objs.size = dA at hK9 hoD hW ⊢
      obtain ⟨hdG, hdL, hdN⟩ := hK9
      have hd1 : @Ne Nat dA pen := Ne.symm (hdN _ (.head _))
      have hd2 : @Ne Nat dA l := Ne.symm (hdN _ (.tail _ (.head _)))
      have hd3 : @Ne Nat dA (L + 1 + 1) := Ne.symm (hdN _ (.tail _ (.tail _ (.head _))))
      have hd4 : @Ne Nat dA (L + 1) := Ne.symm (hdN _ (.tail _ (.tail _ (.tail _ (.head _)))))
      have hd5 : @Ne Nat dA 254 := Ne.symm (hdN _ (.tail _ (.tail _ (.tail _ (.tail _ (.head _))))))
      have hd6 : @Ne Nat dA 261 := Ne.symm (hdN _ (.tail _ (.tail _ (.tail _ (.tail _ (.tail _ (.head _)))))))
      replace N3 : News G L h7 ((dA, oD) :: (pen, penO l k' c' q u1 u2 u3 n') :: (l, oS) :: _) := all_cons ⟨hoD, hdL, hdG⟩ N3
      clear F9 N9 hdN hpr htup hD hD0 hs hm hto hdA hS7 hoD
      k_with "call ref" => (refine' halt ?_)
      repeat' (first | (k_unfold; (try dsimp only)) | (k_end; wrow_close) | ((try dsimp only); walk1) | (leave1; walk_say "STEP leave1"; try dsimp only) | fail "no step")
      refine Halt.mk ?_
      rename Fr _ _ _ _ => F9
      rename News _ _ _ _ => N9
      rename_i oW hdW
      replace N9 := News.swap N9
      have hk5 : k' + 2 ^ (3 + 2) ≤ 100000 := by (first | lia | omega)
      refine expr_spec 3 (ns := ns') (X.keeps (pen_hid F9 N9)) (T.keeps (pen_hid F9 N9)) (by decide) (N9 _ (.head _)).1 (hScr _ (hideAll_get _ (N9 _ (.tail _ (.tail _ (.head _)))).1 (by rw [List.mem_singleton]; exact Ne.symm hpl))) hk5 hc' ⟨hq1, hq2⟩ ?_
      intro h8 tk8 ve e k8 c8 x1 x2 x3 n8 hdeep hokn hbd hsize hk8 hc8 hS8 hp8 hve
      obtain ⟨F8, N8⟩ := pen_turn F9 N9 (all_cons hd1 (all_cons (Ne.symm hpl) (all_cons (Ne.symm hp1) (all_cons (Ne.symm hp2) (all_cons (Ne.symm hp3) (all_cons (Ne.symm hp4) all_nil)))))) hS8 hp8
      refine Reads.regE F8 hve fun rE hTE hNE hDE => ?_
      replace N8 := News.app N8 hNE
      clear F9 N9 hNE hve hS8 hp8
      dsimp only [List.cons_append, List.nil_append] at N8
      k_with_none
      k_with "call ref" => (refine' halt ?_)
      repeat' (first | (k_unfold; (try dsimp only)) | (k_end; wrow_close) | ((try dsimp only); walk1) | (leave1; walk_say "STEP leave1"; try dsimp only) | fail "no step")
      refine Halt.mk ?_
      rename Fr _ _ _ _ => F9
      rename News _ _ _ _ => N9
      have hρ30 : ∀ i, Bd 400 (ρ i).1 ∧ (ρ i).2 ≤ 30 := fun i => ⟨(hρ4 i).1, Nat.le_trans (hρ4 i).2.1 (by decide)⟩
      have hbd8 : e.bd ≤ 8500 := by (first | lia | omega)
      have hsz : e.size ≤ 200 := by have : (2 : Nat) ^ (3 + 1) = 16 := rfl; (first | lia | omega)
      refine worth_spec (ρ := ρ) hρ30 e (X.keeps F9.keep) (T.keeps F9.keep) (by show 301 + 1 + e.deep + 4 < 1000; (first | lia | omega)) (hDE.reads F9 (News.sub (a := rE) N9 fun p hp => .tail _ (.tail _ (.tail _ (.tail _ (.tail _ (.tail _ (.tail _ hp)))))))) (hW _ F9.keep (N9 _ (.tail _ (.head _))).1) hbd8 hokn ?_
      intro h9 tk9 vd hS9 hvd
      have F8 := F9.keeps hS9
      refine Reads.regE F8 hvd fun rD hTD hND hDD => ?_
      have N8 := News.app (N9.grown hS9) hND
      dsimp only [List.cons_append, List.nil_append] at N8
      clear F9 N9 hND hvd hS9
      repeat' (first | (k_unfold; (try dsimp only)) | (k_end; wrow_close) | ((try dsimp only); walk1) | (leave1; walk_say "STEP leave1"; try dsimp only) | fail "no step")
      refine Halt.mk ?_
      rename Fr _ _ _ _ => F9
      rename News _ _ _ _ => N9
      have mE : ∀ p ∈ rE, p ∈ ((pen, penO l k8 c8 q x1 x2 x3 n8) :: (dA, oD) :: (l, oS) :: (L + 1 + 1, oW) :: (L + 1, oP) :: (254, tabObj #[]) :: (261, tabObj #[]) :: (rE ++ rD)) := fun p hp => .tail _ (.tail _ (.tail _ (.tail _ (.tail _ (.tail _ (.tail _ (List.mem_append_left _ hp)))))))
      have mD : ∀ p ∈ rD, p ∈ ((pen, penO l k8 c8 q x1 x2 x3 n8) :: (dA, oD) :: (l, oS) :: (L + 1 + 1, oW) :: (L + 1, oP) :: (254, tabObj #[]) :: (261, tabObj #[]) :: (rE ++ rD)) := fun p hp => .tail _ (.tail _ (.tail _ (.tail _ (.tail _ (.tail _ (.tail _ (List.mem_append_right _ hp)))))))
      have h2n := N9 (254, tabObj #[]) (.tail _ (.tail _ (.tail _ (.tail _ (.tail _ (.head _))))))
      have nE := tups_off (P := 254) N9 (.tail _ (.tail _ (.tail _ (.tail _ (.tail _ (.head _)))))) tab_no hTE mE
      have nD := tups_off (P := 254) N9 (.tail _ (.tail _ (.tail _ (.tail _ (.tail _ (.head _)))))) tab_no hTD mD
      obtain ⟨oL, hoL, hoLd⟩ := fr_obj F9
      have kH := hid_two (a := 254) F9 h2n.2.2
      refine asked_spec (ρ := ρ) hρ30 (ps := #[]) (L0 := L) (o0 := oL) (X.keeps kH) (T.keeps kH) h2n.1 hoL hoLd (Nat.ne_of_lt hl5) (C8.keeps kH) trivial (.inl rfl) (by decide) (hDE.readsH kH (fun p hp => hid_mem N9 (mE p hp) (nE p hp))) (hW _ kH (hid_mem N9 (.tail _ (.head _)) hd5)) hsz hbd8 hokn ?hFF rfl ?_
      case hFF => exact Heap.FunFrames.cons (L := L) (by intro q; cases q) rfl F9.ns (hideAll_none _ (by simp)) trivial
      rintro h10 tk10 vA ⟨aR, vf, aA, oA, its, ds, ps1, c1, X1, rfl, -, hgA, hIL, hRf, hRA, hpre, hisS, kH10, hg254, htri, hc1, ⟨sl, hgL⟩, hX1, hrec1⟩
      have kG10 : G.StaysIn h10 := fun b o z => kH10 b o (kH b o z)
      obtain ⟨cq, oc, vsq, tq, hcq, hcg, hcd1, hcd2⟩ := hrec1 h10 kH10 (fun p hp => (hX1 p (.tail _ (.tail _ hp))).1)
      obtain rfl : c1 = cq := Value.ref.inj hcq
      have hrec : ∀ H : Heap, H.get? c1 = some oc → H.CodeRec (.ref c1) NQ := fun H g => ⟨c1, oc, vsq, tq, rfl, g, hcd1, hcd2⟩
      obtain ⟨rC, hcode0, hrC⟩ : ∃ rC : List (Addr × Obj), (G.get? c1 = some oc ∨ (c1, oc) ∈ rC) ∧ ∀ p ∈ rC, p = (c1, oc) ∧ G.get? c1 = none := by
        cases hgc : G.get? c1 with
        | none => exact ⟨[(c1, oc)], .inr (.head _), fun p hp => ⟨List.mem_singleton.mp hp, rfl⟩⟩
        | some o => exact ⟨[], .inl ((kG10 _ _ hgc).symm.trans hcg), fun p hp => nomatch hp⟩
      have F8 := fr_slots F9 kG10 hoL hgL
      have N8c : News G L h10 rC := fun p hp => by
        obtain ⟨rfl, hgn⟩ := hrC p hp
        refine ⟨hcg, fun q => ?_, hgn⟩
        obtain ⟨es, ep, hoLd⟩ := hoLd
        have q : c1 = L := q
        rw [q, hgL] at hcg
        obtain rfl := Option.some.inj hcg
        have hcd1 : oL.data = _ := hcd1
        rw [hoLd] at hcd1
        cases hcd1
      have N8 := asked_led (A := [(pen, penO l k8 c8 q x1 x2 x3 n8), (dA, oD), (l, oS), (L + 1 + 1, oW), (L + 1, oP)]) (B := (261, tabObj #[]) :: (rE ++ rD)) N9 kH10 hg254 (all_cons hp3 (all_cons hd5 (all_cons hl3 (all_cons (Nat.ne_of_gt (Nat.lt_succ_of_lt (Nat.lt_succ_of_lt hl5))) (all_cons (Nat.ne_of_gt (Nat.lt_succ_of_lt hl5)) all_nil))))) (all_cons (by decide : (261 : Nat) ≠ 254) (all_app nE nD))
      have N8b : News G L h10 ((aR, { cls := .type "tuple", data := .seq #[vf, .ref aA] }) :: (aA, oA) :: X1) := fun p hp => ⟨(hX1 p hp).1, (hX1 p hp).2.2.2, none_back kH (hX1 p hp).2.1⟩
      dsimp only [List.cons_append, List.nil_append] at N8
      obtain ⟨ob, hob, hcA, nA, hdA9⟩ := hIL
      obtain rfl := Option.some.inj (hgA.symm.trans hob)
      clear hob
      refine Reads.regE F8 hRf fun rF hTF hNF hDF => ?_
      refine ReadsAll.regE F8 hRA fun rS hTS hNS hDS => ?_
      have hoff : ∀ p ∈ (aR, ({ cls := .type "tuple", data := .seq #[vf, .ref aA] } : Obj)) :: (aA, oA) :: (rE ++ (rD ++ (X1 ++ (rF ++ (rS ++ rC))))), p.1 ≠ pen ∧ p.1 ≠ 254 ∧ p.1 ≠ 261 := by
        have gp := (N8 (pen, penO l k8 c8 q x1 x2 x3 n8) (.head _)).1
        have g4 := (N8 (254, tabObj ps1) (.tail _ (.tail _ (.tail _ (.tail _ (.tail _ (.head _))))))).1
        have g1 := (N8 (261, tabObj #[]) (.tail _ (.tail _ (.tail _ (.tail _ (.tail _ (.tail _ (.head _)))))))).1
        have offT : ∀ r, Tups r → (∀ p ∈ r, h10.get? p.1 = some p.2) → ∀ p ∈ r, p.1 ≠ pen ∧ p.1 ≠ 254 ∧ p.1 ≠ 261 := fun r hr hg p hp => ⟨tup_off1 gp (fun q => absurd (Value.type.inj q) (by decide)) hr hg p hp, tup_off1 g4 tab_no hr hg p hp, tup_off1 g1 tab_no hr hg p hp⟩
        have gp9 := hid_mem (a := 254) N9 (p := (pen, penO l k8 c8 q x1 x2 x3 n8)) (.head _) hp3
        have g19 := hid_mem (a := 254) N9 (p := (261, tabObj #[])) (.tail _ (.tail _ (.tail _ (.tail _ (.tail _ (.tail _ (.head _))))))) (by decide)
        have offX : ∀ p ∈ (aR, ({ cls := .type "tuple", data := .seq #[vf, .ref aA] } : Obj)) :: (aA, oA) :: X1, p.1 ≠ pen ∧ p.1 ≠ 254 ∧ p.1 ≠ 261 := fun p hp => ⟨none_ne (hX1 p hp).2.1 gp9, (hX1 p hp).2.2.1, none_ne (hX1 p hp).2.1 g19⟩
        have offC : ∀ p ∈ rC, p.1 ≠ pen ∧ p.1 ≠ 254 ∧ p.1 ≠ 261 := fun p hp => by
          obtain ⟨rfl, -⟩ := hrC p hp
          refine ⟨fun q => ?_, fun q => ?_, fun q => ?_⟩
          · have q : c1 = pen := q
            rw [q, gp] at hcg
            obtain rfl := Option.some.inj hcg
            cases hcd1
          · have q : c1 = 254 := q
            rw [q, g4] at hcg
            obtain rfl := Option.some.inj hcg
            cases hcd1
            exact tri_no_str htri (by rw [Array.getElem?_toList]; exact hcd2)
          · have q : c1 = 261 := q
            rw [q, g1] at hcg
            obtain rfl := Option.some.inj hcg
            cases hcd1
            cases hcd2
        have offX2 := offX _ (.tail _ (.head _))
        refine all_cons (offX _ (.head _)) (all_cons offX2 (all_app (offT rE hTE fun p hp => ?_) (all_app (offT rD hTD fun p hp => ?_) (all_app (fun p h => offX p (.tail _ (.tail _ h))) (all_app (offT rF hTF (fun p hp => (hNF p hp).1)) (all_app (offT rS hTS (fun p hp => (hNS p hp).1)) offC))))))
        · exact (N8 p (.tail _ (.tail _ (.tail _ (.tail _ (.tail _ (.tail _ (.tail _ (List.mem_append_left _ hp))))))))).1
        · exact (N8 p (.tail _ (.tail _ (.tail _ (.tail _ (.tail _ (.tail _ (.tail _ (List.mem_append_right _ hp))))))))).1
      have hNR : ∃ R, (∀ p ∈ rE, p ∈ R) ∧ (∀ p ∈ rD, p ∈ R) ∧ (∀ p ∈ X1, p ∈ R) ∧ (∀ p ∈ rF, p ∈ R) ∧ (∀ p ∈ rS, p ∈ R) ∧ (∀ p ∈ rC, p ∈ R) ∧ (∀ p ∈ (aR, ({ cls := .type "tuple", data := .seq #[vf, .ref aA] } : Obj)) :: (aA, oA) :: R, p.1 ≠ pen ∧ p.1 ≠ 254 ∧ p.1 ≠ 261) ∧
          News G L h10 ((pen, penO l k8 c8 q x1 x2 x3 n8) :: (dA, oD) :: (l, oS) :: (L + 1 + 1, oW) :: (L + 1, oP) :: (254, tabObj ps1) :: (261, tabObj #[]) :: (aR, { cls := .type "tuple", data := .seq #[vf, .ref aA] }) :: (aA, oA) :: R) := by
        refine ⟨rE ++ (rD ++ (X1 ++ (rF ++ (rS ++ rC)))), fun p h => ?_, fun p h => ?_, fun p h => ?_, fun p h => ?_, fun p h => ?_, fun p h => ?_, hoff, fun p h => ?_⟩
        · exact List.mem_append_left _ h
        · exact List.mem_append_right _ (List.mem_append_left _ h)
        · exact List.mem_append_right _ (List.mem_append_right _ (List.mem_append_left _ h))
        · exact List.mem_append_right _ (List.mem_append_right _ (List.mem_append_right _ (List.mem_append_left _ h)))
        · exact List.mem_append_right _ (List.mem_append_right _ (List.mem_append_right _ (List.mem_append_right _ (List.mem_append_left _ h))))
        · exact List.mem_append_right _ (List.mem_append_right _ (List.mem_append_right _ (List.mem_append_right _ (List.mem_append_right _ h))))
        · revert p h
          refine all_cons (N8 _ (.head _)) (all_cons (N8 _ (.tail _ (.head _))) (all_cons (N8 _ (.tail _ (.tail _ (.head _)))) (all_cons (N8 _ (.tail _ (.tail _ (.tail _ (.head _))))) (all_cons (N8 _ (.tail _ (.tail _ (.tail _ (.tail _ (.head _)))))) (all_cons (N8 _ (.tail _ (.tail _ (.tail _ (.tail _ (.tail _ (.head _))))))) (all_cons (N8 _ (.tail _ (.tail _ (.tail _ (.tail _ (.tail _ (.tail _ (.head _)))))))) (all_cons (N8b _ (.head _)) (all_cons (N8b _ (.tail _ (.head _)))
            (all_app (fun p h => N8 p (.tail _ (.tail _ (.tail _ (.tail _ (.tail _ (.tail _ (.tail _ (List.mem_append_left _ h))))))))) (all_app (fun p h => N8 p (.tail _ (.tail _ (.tail _ (.tail _ (.tail _ (.tail _ (.tail _ (List.mem_append_right _ h))))))))) (all_app (fun p h => N8b p (.tail _ (.tail _ h))) (all_app hNF (all_app hNS N8c)))))))))))))
      obtain ⟨R, mE, mD, mX, mF, mS, mC, hoffR, N5⟩ := hNR
      have hcode : G.get? c1 = some oc ∨ (c1, oc) ∈ R := hcode0.imp id (mC _)
      clear N8 N8b N8c hcode0 hrC hcg hcd1 hcd2 hrec1 hNF hNS F9 N9 hX1 kH10 hg254 hgL hgA hRf hRA h2n nE nD kH hoL hoLd
      k_with "exec If" => (refine' halt ?_)
      repeat' (first | (k_unfold; (try dsimp only)) | (k_end; wrow_close) | ((try dsimp only); walk1) | (leave1; walk_say "STEP leave1"; try dsimp only) | fail "no step")
      refine Halt.mk ?_
      rename Fr _ _ _ _ => F9
      rename News _ _ _ _ => N9
      refine if_cut F9 N9 (fun Q1 hQ1 => ?_) (fun h11 tk11 F8 N8 => ?_)
      · cases hev : e.ev ρ with
        | some z =>
          have hDD' : DI G rD vd (numD z) := by rw [hev] at hDD; exact hDD
          have hDF' : DI G rF vf (numD z) := by rw [hev] at hDF; exact hDF
          obtain rfl : ds = e.leaves := hisS (by rw [hev]; rfl)
          obtain ⟨ad, rfl⟩ := hDD'.isRef
          obtain ⟨af, rfl⟩ := hDF'.isRef
          have hun : 4 + 3 + 64 < cLine := by decide
          k_with_none
          k_with "call ref" => (refine' halt ?_)
          repeat' (first | (k_unfold; (try dsimp only)) | (k_end; wrow_close) | ((try dsimp only); walk1) | (leave1; walk_say "STEP leave1"; try dsimp only) | fail "no step")
          refine Halt.mk ?_
          rename Fr _ _ _ _ => F9
          rename News _ _ _ _ => N9
          refine SeqAt.compareNe_shaped (hDF'.reads F9 (News.sub (a := rF) N9 fun p hp => ?m1)) (hDD'.reads F9 (News.sub (a := rD) N9 fun p hp => ?m2)) (num_shaped z) (num_shaped z) hun ?_
          case m1 => exact .tail _ (.tail _ (.tail _ (.tail _ (.tail _ (.tail _ (.tail _ (.tail _ (.tail _ (.tail _ (mF p hp))))))))))
          case m2 => exact .tail _ (.tail _ (.tail _ (.tail _ (.tail _ (.tail _ (.tail _ (.tail _ (.tail _ (.tail _ (mD p hp))))))))))
          rw [PySem.SeqAt.eqv_refl _ (by unfold numD; rfl)]
          try dsimp only
          repeat' (first | (k_unfold; (try dsimp only)) | (k_end; wrow_close) | ((try dsimp only); walk1) | (leave1; walk_say "STEP leave1"; try dsimp only) | fail "no step")
          refine Halt.mk ?_
          rename Fr _ _ _ _ => F9
          rename News _ _ _ _ => N9
          refine lawleaves_spec e (X.keeps F9.keep) (T.keeps F9.keep) (fun _ _ q => q) (by show 301 + 1 + e.deep < 1000; (first | lia | omega)) hsz (hDE.reads F9 (News.sub (a := rE) N9 fun p hp => .tail _ (.tail _ (.tail _ (.tail _ (.tail _ (.tail _ (.tail _ (.tail _ (.tail _ (.tail _ (mE p hp)))))))))))) ?_
          intro h12 tk12 a12 vs12 n12 hS12 hf12 hg12 hR12
          have hK := fresh_of F9 N9 a12 hf12
          have F7 := F9.keeps hS12
          refine ReadsAll.regE F7 (readsAll_tk hS12 hR12) fun rG hTG hNG hDG => ?_
          have N7 := News.app (News.put (N9.grown hS12) hg12 hK.2.1 hK.1) hNG
          dsimp only [List.cons_append, List.nil_append] at N7
          clear F9 N9 hK hNG
          repeat' (first | (k_unfold; (try dsimp only)) | (k_end; wrow_close) | ((try dsimp only); walk1) | (leave1; walk_say "STEP leave1"; try dsimp only) | fail "no step")
          refine Halt.mk ?_
          rename Fr _ _ _ _ => F9
          rename News _ _ _ _ => N9
          have hRD := reads_isList (its := its) ⟨_, (N9 (aA, _) (.tail _ (.tail _ (.tail _ (.tail _ (.tail _ (.tail _ (.tail _ (.tail _ (.tail _ (.tail _ (.head _)))))))))))).1, hcA, nA, hdA9⟩ (hDS.reads F9 (News.sub (a := rS) N9 fun p hp => .tail _ (.tail _ (.tail _ (.tail _ (.tail _ (.tail _ (.tail _ (.tail _ (.tail _ (.tail _ (.tail _ (List.mem_append_left _ (mS p hp))))))))))))))
          have hR0 := reads_listOf (N9 _ (.head _)).1 (hDG.reads F9 (News.sub (a := rG) N9 fun p hp => .tail _ (.tail _ (.tail _ (.tail _ (.tail _ (.tail _ (.tail _ (.tail _ (.tail _ (.tail _ (.tail _ (List.mem_append_right _ hp)))))))))))))
          refine SeqAt.compareNe_shaped hRD hR0 (leaves_shaped e) (leaves_shaped e) hun ?_
          rw [SeqAt.eqv_refl _ (by simp only [PyData.canLay0]; exact dats_can _)]
          try dsimp only
          repeat' (first | (k_unfold; (try dsimp only)) | (k_end; wrow_close) | ((try dsimp only); walk1) | (leave1; walk_say "STEP leave1"; try dsimp only) | fail "no step")
          rename Fr _ _ _ _ => F9
          rename News _ _ _ _ => N9
          exact hQ1 _ _ F9 (News.sub N9 fun p hp => .tail _ (mem_ext (A := [_, _, _, _, _, _, _, _, _, _]) hp))
        | none =>
          have hDD' : DI G rD vd .none := by rw [hev] at hDD; exact hDD
          have hDF' : DI G rF vf (.str (Str.ofString "size")) := by rw [hev] at hDF; exact hDF
          obtain rfl := hDD'.isNone
          obtain ⟨tf, rfl⟩ := hDF'.isStr
          have hun : 4 + 3 + 64 < cLine := by decide
          k_with_none
          k_with "call ref" => (refine' halt ?_)
          k_with "call builtin:len" => (refine' halt ?_)
          repeat' (first | (k_unfold; (try dsimp only)) | (k_end; wrow_close) | ((try dsimp only); walk1) | (leave1; walk_say "STEP leave1"; try dsimp only) | fail "no step")
          refine Halt.mk ?_
          rename Fr _ _ _ _ => F9
          rename News _ _ _ _ => N9
          refine lawleaves_spec e (X.keeps F9.keep) (T.keeps F9.keep) (fun _ _ q => q) (by show 301 + 1 + e.deep < 1000; (first | lia | omega)) hsz (hDE.reads F9 (News.sub (a := rE) N9 fun p hp => .tail _ (.tail _ (.tail _ (.tail _ (.tail _ (.tail _ (.tail _ (.tail _ (.tail _ (.tail _ (mE p hp)))))))))))) ?_
          intro h12 tk12 a12 vs12 n12 hS12 hf12 hg12 hR12
          have hK := fresh_of F9 N9 a12 hf12
          have F7 := F9.keeps hS12
          refine ReadsAll.regE F7 (readsAll_tk hS12 hR12) fun rG hTG hNG hDG => ?_
          have N7 := News.app (News.put (N9.grown hS12) hg12 hK.2.1 hK.1) hNG
          dsimp only [List.cons_append, List.nil_append] at N7
          have hvl : vs12.length ≤ 200 := by rw [readsAll_len hR12, List.length_map]; exact Nat.le_trans e.leaves_len hsz
          have hil : its.size ≤ 200 := by
            have := readsAll_len (hDS.reads F7 (News.sub (a := rS) N7 fun p hp => .tail _ (.tail _ (.tail _ (.tail _ (.tail _ (.tail _ (.tail _ (.tail _ (.tail _ (.tail _ (.tail _ (List.mem_append_left _ (mS p hp))))))))))))))
            rw [List.length_map, Array.length_toList] at this
            rw [this]
            exact Nat.le_trans hpre.length_le (Nat.le_trans e.leaves_len hsz)
          clear F9 N9 hK hNG
          repeat' (first | (k_unfold; (try dsimp only)) | (k_end; wrow_close) | ((try dsimp only); walk1) | (leave1; walk_say "STEP leave1"; try dsimp only) | fail "no step")
          refine Halt.mk ?_
          rename Fr _ _ _ _ => F9
          rename News _ _ _ _ => N9
          refine call_len_list (items := its) ⟨_, (N9 (aA, _) (.tail _ (.tail _ (.tail _ (.tail _ (.tail _ (.tail _ (.tail _ (.tail _ (.tail _ (.tail _ (.head _)))))))))))).1, hcA, nA, hdA9⟩ (by (first | lia | omega)) ?_
          k_with "subscriptTail" => (refine' halt ?_)
          repeat' (first | (k_unfold; (try dsimp only)) | (k_end; wrow_close) | ((try dsimp only); walk1) | (leave1; walk_say "STEP leave1"; try dsimp only) | fail "no step")
          refine Halt.mk ?_
          rename Fr _ _ _ _ => F9
          rename News _ _ _ _ => N9
          refine slice_temp (s := Shared.mk h12 _ _ _ _) F9 N9 (items := vs12.toArray) (lo := none) (hi := some (its.size : Int)) (News.isList N9 (.head _)) .none (.int _ _) ?sl1 ?sl2 ?sl3
          case sl1 => with_unfolding_all rfl
          case sl2 => rw [sizeLine_eq, List.size_toArray]; (first | lia | omega)
          case sl3 =>
            intro D13 h13 F8 N8
            rw [pick_upto] at N8
            clear F9 N9
            repeat' (first | (k_unfold; (try dsimp only)) | (k_end; wrow_close) | ((try dsimp only); walk1) | (leave1; walk_say "STEP leave1"; try dsimp only) | fail "no step")
            refine Halt.mk ?_
            rename Fr _ _ _ _ => F9
            rename News _ _ _ _ => N9
            have hnl : its.size = ds.length := by
              have := readsAll_len (hDS.reads F9 (News.sub (a := rS) N9 fun p hp => .tail _ (.tail _ (.tail _ (.tail _ (.tail _ (.tail _ (.tail _ (.tail _ (.tail _ (.tail _ (.tail _ (.tail _ (List.mem_append_left _ (mS p hp)))))))))))))))
              rw [List.length_map, Array.length_toList] at this
              exact this
            have hds : (e.leaves.map dat).take its.size = ds.map dat := by
              rw [← List.map_take, hnl, ← List.prefix_iff_eq_take.mp hpre]
            have hRD := reads_isList (its := its) ⟨_, (N9 (aA, _) (.tail _ (.tail _ (.tail _ (.tail _ (.tail _ (.tail _ (.tail _ (.tail _ (.tail _ (.tail _ (.tail _ (.head _))))))))))))).1, hcA, nA, hdA9⟩ (hDS.reads F9 (News.sub (a := rS) N9 fun p hp => .tail _ (.tail _ (.tail _ (.tail _ (.tail _ (.tail _ (.tail _ (.tail _ (.tail _ (.tail _ (.tail _ (.tail _ (List.mem_append_left _ (mS p hp)))))))))))))))
            have hR0 := reads_isList (its := (vs12.take its.size).toArray) (News.isList N9 (.head _)) ((hDG.take its.size).reads F9 (News.sub (a := rG) N9 fun p hp => .tail _ (.tail _ (.tail _ (.tail _ (.tail _ (.tail _ (.tail _ (.tail _ (.tail _ (.tail _ (.tail _ (.tail _ (List.mem_append_right _ hp))))))))))))))
            rw [hds] at hR0
            have hsh := dats_shaped (l := ds) fun x hx => by rw [e.leaf_deep x (hpre.subset hx)]; (first | lia | omega)
            refine SeqAt.compareNe_shaped hRD hR0 hsh hsh hun ?_
            rw [SeqAt.eqv_refl _ (by simp only [PyData.canLay0]; exact dats_can _)]
            try dsimp only
            repeat' (first | (k_unfold; (try dsimp only)) | (k_end; wrow_close) | ((try dsimp only); walk1) | (leave1; walk_say "STEP leave1"; try dsimp only) | fail "no step")
            rename Fr _ _ _ _ => F9
            rename News _ _ _ _ => N9
            exact hQ1 _ _ F9 (News.sub N9 fun p hp => .tail _ (.tail _ (mem_ext (A := [_, _, _, _, _, _, _, _, _, _]) hp)))
      · replace N8 := News.sub N8 fun p hp => List.mem_cons_of_mem _ hp
        dsimp only
        have hun : 4 + 3 + 64 < cLine := by decide
        k_with_none
        k_with "exec If" => (refine' halt ?_)
        repeat' (first | (k_unfold; (try dsimp only)) | (k_end; wrow_close) | ((try dsimp only); walk1) | (leave1; walk_say "STEP leave1"; try dsimp only) | fail "no step")
        refine Halt.mk ?_
        rename Fr _ _ _ _ => F9
        rename News _ _ _ _ => N9
        refine if_cut F9 N9 (fun Q1 hQ1 => ?_) (fun h15 tk15 F8 N8 => ?_)
        · k_with_none
          k_with "call ref" => (refine' halt ?_)
          repeat' (first | (k_unfold; (try dsimp only)) | (k_end; wrow_close) | ((try dsimp only); walk1) | (leave1; walk_say "STEP leave1"; try dsimp only) | fail "no step")
          refine Halt.mk ?_
          rename Fr _ _ _ _ => F9
          rename News _ _ _ _ => N9
          refine leaves_spec (X.keeps F9.keep) (T.keeps F9.keep) (by decide) (hDE.reads F9 (News.sub (a := rE) N9 fun p hp => .tail _ (.tail _ (.tail _ (.tail _ (.tail _ (.tail _ (.tail _ (.tail _ (.tail _ (mE p hp))))))))))) hsz ?_
          intro h12 tk12 a12 vs12 n12 hS12 hf12 hg12 hR12
          have hK := fresh_of F9 N9 a12 hf12
          have F7 := F9.keeps hS12
          refine ReadsAll.regE F7 hR12 fun rG hTG hNG hDG => ?_
          have N7 := News.app (News.put (N9.grown hS12) hg12 hK.2.1 hK.1) hNG
          dsimp only [List.cons_append, List.nil_append] at N7
          clear F9 N9 hK hNG
          repeat' (first | (k_unfold; (try dsimp only)) | (k_end; wrow_close) | ((try dsimp only); walk1) | (leave1; walk_say "STEP leave1"; try dsimp only) | fail "no step")
          refine Halt.mk ?_
          rename Fr _ _ _ _ => F9
          rename News _ _ _ _ => N9
          refine lawleaves_spec e (X.keeps F9.keep) (T.keeps F9.keep) (fun _ _ q => q) (by show 301 + 1 + e.deep < 1000; (first | lia | omega)) hsz (hDE.reads F9 (News.sub (a := rE) N9 fun p hp => .tail _ (.tail _ (.tail _ (.tail _ (.tail _ (.tail _ (.tail _ (.tail _ (.tail _ (.tail _ (List.mem_append_left _ (mE p hp))))))))))))) ?_
          intro h13 tk13 a13 vs13 n13 hS13 hf13 hg13 hR13
          have hK := fresh_of F9 N9 a13 hf13
          have F7 := F9.keeps hS13
          refine ReadsAll.regE F7 (readsAll_tk hS13 hR13) fun rH hTH hNH hDH => ?_
          have N7 := News.app (News.put (N9.grown hS13) hg13 hK.2.1 hK.1) hNH
          dsimp only [List.cons_append, List.nil_append] at N7
          clear F9 N9 hK hNH
          repeat' (first | (k_unfold; (try dsimp only)) | (k_end; wrow_close) | ((try dsimp only); walk1) | (leave1; walk_say "STEP leave1"; try dsimp only) | fail "no step")
          refine Halt.mk ?_
          rename Fr _ _ _ _ => F9
          rename News _ _ _ _ => N9
          have hRD := reads_listOf (N9 _ (.tail _ (.head _))).1 (hDG.reads F9 (News.sub (a := rG) N9 fun p hp => .tail _ (.tail _ (.tail _ (.tail _ (.tail _ (.tail _ (.tail _ (.tail _ (.tail _ (.tail _ (.tail _ (List.mem_append_left _ (List.mem_append_right _ hp))))))))))))))
          have hR0 := reads_listOf (N9 _ (.head _)).1 (hDH.reads F9 (News.sub (a := rH) N9 fun p hp => .tail _ (.tail _ (.tail _ (.tail _ (.tail _ (.tail _ (.tail _ (.tail _ (.tail _ (.tail _ (.tail _ (List.mem_append_right _ hp)))))))))))))
          refine SeqAt.compareNe_shaped hRD hR0 (leaves_shaped e) (leaves_shaped e) hun ?_
          rw [SeqAt.eqv_refl _ (by simp only [PyData.canLay0]; exact dats_can _)]
          try dsimp only
          repeat' (first | (k_unfold; (try dsimp only)) | (k_end; wrow_close) | ((try dsimp only); walk1) | (leave1; walk_say "STEP leave1"; try dsimp only) | fail "no step")
          refine Halt.mk ?_
          rename Fr _ _ _ _ => F9
          rename News _ _ _ _ => N9
          refine depth_spec (X.keeps F9.keep) (T.keeps F9.keep) (by decide) (hDE.reads F9 (News.sub (a := rE) N9 fun p hp => .tail _ (.tail _ (.tail _ (.tail _ (.tail _ (.tail _ (.tail _ (.tail _ (.tail _ (.tail _ (.tail _ (List.mem_append_left _ (List.mem_append_left _ (mE p hp))))))))))))))) hsz ?_
          intro h16 tk16 t16 hS16
          have F7 := F9.keeps hS16
          have N7 := N9.grown hS16
          clear F9 N9 hRD hR0
          repeat' (first | (k_unfold; (try dsimp only)) | (k_end; wrow_close) | ((try dsimp only); walk1) | (leave1; walk_say "STEP leave1"; try dsimp only) | fail "no step")
          refine Halt.mk ?_
          rename Fr _ _ _ _ => F9
          rename News _ _ _ _ => N9
          refine lawdeep_spec e (X.keeps F9.keep) (T.keeps F9.keep) (by show 301 + 1 + e.deep < 1000; (first | lia | omega)) (hDE.reads F9 (News.sub (a := rE) N9 fun p hp => .tail _ (.tail _ (.tail _ (.tail _ (.tail _ (.tail _ (.tail _ (.tail _ (.tail _ (.tail _ (.tail _ (List.mem_append_left _ (List.mem_append_left _ (mE p hp))))))))))))))) ?_
          intro h17 tk17 t17 hS17
          have F7 := F9.keeps hS17
          have N7 := N9.grown hS17
          clear F9 N9
          repeat' (first | (k_unfold; (try dsimp only)) | (k_end; wrow_close) | ((try dsimp only); walk1) | (leave1; walk_say "STEP leave1"; try dsimp only) | fail "no step")
          · rename_i hne
            exact absurd rfl hne
          · exact hQ1 _ _ F7 (News.sub N7 fun p hp => .tail _ (.tail _ (mem_ext (A := [_, _, _, _, _, _, _, _, _]) (mem_ext (A := [_, _, _, _, _, _, _, _, _]) hp))))
        · dsimp only
          k_with_none
          k_with "call ref" => (refine' halt ?_)
          k_with "pyIter ref" => (refine' halt ?_)
          repeat' (first | (k_unfold; (try dsimp only)) | (k_end; wrow_close) | ((try dsimp only); walk1) | (leave1; walk_say "STEP leave1"; try dsimp only) | fail "no step")
          refine Halt.mk ?_
          rename Fr _ _ _ _ => F9
          rename News _ _ _ _ => N9
          refine' ListComp_G (cl := []) ?a9 ?b9 ?c9 ?d9 ?_
          case a9 => exact closureFor_none (by decide)
          case b9 => decide
          case c9 => rfl
          case d9 => decide
          repeat' (first | (k_unfold; (try dsimp only)) | (k_end; wrow_close) | ((try dsimp only); walk1) | (leave1; walk_say "STEP leave1"; try dsimp only) | fail "no step")
          refine Halt.mk ?_
          rename Fr _ _ _ _ => F9
          rename News _ _ _ _ => N9
          refine lawleaves_spec e (X.keeps F9.keep) (T.keeps F9.keep) (fun _ _ q => q) (by show 301 + 1 + e.deep < 1000; (first | lia | omega)) hsz (hDE.reads F9 (News.sub (a := rE) N9 fun p hp => .tail _ (.tail _ (.tail _ (.tail _ (.tail _ (.tail _ (.tail _ (.tail _ (.tail _ (mE p hp))))))))))) ?_
          intro h18 tk18 a18 vs18 n18 hS18 hf18 hg18 hR18
          have hK := fresh_of F9 N9 a18 hf18
          have F7 := F9.keeps hS18
          have N7 := N9.grown hS18
          have hR := readsAll_tk hS18 hR18
          clear F9 N9 hR18
          repeat' (first | (k_unfold; (try dsimp only)) | (k_end; wrow_close) | ((try dsimp only); walk1) | (leave1; walk_say "STEP leave1"; try dsimp only) | fail "no step")
          refine Halt.mk ?_
          rename Fr _ _ _ _ => F8
          rename News _ _ _ _ => N8
          refine wpAny_pyIter_list ⟨_, hg18, rfl, _, rfl⟩ ?_
          refine CompG.list [] (fun i ys rest => rest = [] ∧ ReadsAll h18 ys (((e.leaves.take i).filter (fun x => !x.isNum)).map dat) []) rfl ⟨_, hg18, rfl, _, rfl⟩ (by simp) (by simp) ?hsz ?htg ⟨rfl, .nil⟩ ?turn ?done
          case htg => exact .inr fun _ _ => rfl
          case hsz =>
            rw [sizeLine_eq, List.size_toArray, readsAll_len hR, List.length_map]
            have := e.leaves_len
            (first | lia | omega)
          case turn =>
            rintro h₀ C D I i v ys rest oI k h m tk tk₀ hp E' kg hi hP ⟨rfl, hY⟩ F N hID -
            replace kg : h18.StaysIn h₀ := kg
            obtain ⟨d, hd, hr⟩ := readsAll_get hR rfl i v (by simpa using hP)
            rw [List.getElem?_map] at hd
            obtain ⟨x, hx, rfl⟩ := Option.map_eq_some_iff.mp hd
            have hlf := e.leaf_is x (List.mem_of_getElem? hx)
            have X : (Mine.hd.heap_39 ww.params).In h₀ := X.keeps fun b o q => kg b o (F8.keep b o q)
            have T := T.keeps fun b o q => kg b o (F8.keep b o q)
            clear F8 N8
            cases x with
            | ref j =>
              obtain ⟨a, t1, t2, v3, v4, rfl, hI⟩ := ref_open hr
              have hI := Tup.keeps kg hI
              k_with_none
              repeat' (first | (k_unfold; (try dsimp only)) | (k_end; wrow_close) | ((try dsimp only); walk1) | (leave1; walk_say "STEP leave1"; try dsimp only) | fail "no step")
              rename Fr _ _ _ _ => F9
              rename News _ _ _ _ => N9
              refine CEnd.intro [] F9 N9 (by simp) ⟨rfl, ?_⟩
              rw [List.take_add_one, hx, List.filter_append, List.map_append]
              exact readsAll_snoc hr hY rfl
            | num n =>
              obtain ⟨a, t1, v1, rfl, hI, r1⟩ := pair_open hr
              have hI := Tup.keeps kg hI
              k_with_none
              repeat' (first | (k_unfold; (try dsimp only)) | (k_end; wrow_close) | ((try dsimp only); walk1) | (leave1; walk_say "STEP leave1"; try dsimp only) | fail "no step")
              rename Fr _ _ _ _ => F9
              rename News _ _ _ _ => N9
              refine CEnd.intro [] F9 N9 (by simp) ⟨rfl, ?_⟩
              rw [List.take_add_one, hx, List.filter_append, List.map_append]
              simpa [Ex.isNum] using hY
            | neg _ => cases hlf
            | bin _ _ _ => cases hlf
          case done =>
            rintro D h19 tk19 ys rest k ⟨rfl, hY⟩ hs hD hD0 - -
            have e1 : e.leaves.take vs18.toArray.size = e.leaves := by
              rw [List.size_toArray, readsAll_len hR, List.length_map, List.take_length]
            rw [e1] at hY
            replace hs : h18.StaysIn h19 := hs
            have FD := fresh_of F8 N8 D hD0
            have F7 := F8.keeps hs
            refine ReadsAll.regE F7 (readsAll_tk hs hY) fun rg hTg hNg hDg => ?_
            have N7 := News.app (News.put (N8.grown hs) hD FD.2.1 FD.1) hNg
            dsimp only [List.cons_append, List.nil_append] at N7
            clear F8 N8 hNg hR hY hg18 hS18 hD hs
            k_with_none
            k_with "exec If" => (refine' halt ?_)
            repeat' (first | (k_unfold; (try dsimp only)) | (k_end; wrow_close) | ((try dsimp only); walk1) | (leave1; walk_say "STEP leave1"; try dsimp only) | fail "no step")
            refine Halt.mk ?_
            rename Fr _ _ _ _ => F9
            rename News _ _ _ _ => N9
            have hRD := reads_listOf (N9 _ (.tail _ (.head _))).1 (hDg.reads F9 (News.sub (a := rg) N9 fun p hp => .tail _ (.tail _ (.tail _ (.tail _ (.tail _ (.tail _ (.tail _ (.tail _ (.tail _ (.tail _ (.tail _ (List.mem_append_right _ hp)))))))))))))
            have hR0 := reads_listOf (vs := []) (N9 _ (.head _)).1 .nil
            refine SeqAt.compareNe_shaped hRD hR0 (dats_shaped fun x hx => by rw [e.leaf_deep x (List.mem_filter.mp hx).1]; (first | lia | omega)) (dats_shaped (l := []) fun x hx => nomatch hx) hun ?_
            rw [show (PyData.list []) = .list (([] : List Ex).map dat) from rfl, refs_eqv]
            generalize hrefs : (!e.leaves.all Ex.isNum) = refs
            replace N9 : News G L _ _ := News.sub N9 fun p hp => .tail _ (.tail _ (mem_ext (A := [_, _, _, _, _, _, _, _, _]) (R := R) hp))
            clear hRD hR0
            repeat' (first | (k_unfold; (try dsimp only)) | (k_end; wrow_close) | ((try dsimp only); walk1) | (leave1; walk_say "STEP leave1"; try dsimp only) | fail "no step")
            refine Halt.mk ?_
            rename Fr _ _ _ _ => F9
            rename News _ _ _ _ => N9
            dsimp only [List.cons_append, List.nil_append] at N9
            refine if_cutA (fun ps2 => (pen, penO l k8 c8 q x1 x2 x3 n8) :: (dA, oD) :: (l, oS) :: (L + 1 + 1, oW) :: (L + 1, oP) :: (254, tabObj ps1) :: (261, tabObj ps2) :: (aR, { cls := .type "tuple", data := .seq #[vf, .ref aA] }) :: (aA, oA) :: R) #[] F9 N9 (fun Q1 hQ1 => ?_) (fun h20 tk20 ps2 F8 N8 => ?_)
            · cases hev : e.ev ρ with
              | none =>
                have hDD' : DI G rD vd .none := by rw [hev] at hDD; exact hDD
                obtain rfl := hDD'.isNone
                k_with_none
                repeat' (first | (k_unfold; (try dsimp only)) | (k_end; wrow_close) | ((try dsimp only); walk1) | (leave1; walk_say "STEP leave1"; try dsimp only) | fail "no step")
                rename Fr _ _ _ _ => F9
                rename News _ _ _ _ => N9
                exact hQ1 _ _ _ F9 N9
              | some z =>
                have hDD' : DI G rD vd (numD z) := by rw [hev] at hDD; exact hDD
                obtain ⟨ad, rfl⟩ := hDD'.isRef
                k_with_none
                k_with "call ref" => (refine' halt ?_)
                repeat' (first | (k_unfold; (try dsimp only)) | (k_end; wrow_close) | ((try dsimp only); walk1) | (leave1; walk_say "STEP leave1"; try dsimp only) | fail "no step")
                refine Halt.mk ?_
                rename Fr _ _ _ _ => F9
                rename News _ _ _ _ => N9
                have hB : ∀ p ∈ (pen, penO l k8 c8 q x1 x2 x3 n8) :: (dA, oD) :: (l, oS) :: (L + 1 + 1, oW) :: (L + 1, oP) :: (254, tabObj ps1) :: (aR, ({ cls := .type "tuple", data := .seq #[vf, .ref aA] } : Obj)) :: (aA, oA) :: R, p.1 ≠ 261 := by
                  exact all_cons hp4 (all_cons hd6 (all_cons hl4 (all_cons (Nat.ne_of_gt (Nat.lt_succ_of_lt (Nat.lt_succ_of_lt hl6))) (all_cons (Nat.ne_of_gt (Nat.lt_succ_of_lt hl6)) (all_cons (by decide : (254 : Nat) ≠ 261) (fun p hp => (hoffR p hp).2.2))))))
                have N1 : News G L _ (((pen, penO l k8 c8 q x1 x2 x3 n8) :: (dA, oD) :: (l, oS) :: (L + 1 + 1, oW) :: (L + 1, oP) :: (254, tabObj ps1) :: (aR, ({ cls := .type "tuple", data := .seq #[vf, .ref aA] } : Obj)) :: (aA, oA) :: R) ++ [(261, tabObj #[])]) := all_app (all_cons (N9 _ (.head _)) (all_cons (N9 _ (.tail _ (.head _))) (all_cons (N9 _ (.tail _ (.tail _ (.head _)))) (all_cons (N9 _ (.tail _ (.tail _ (.tail _ (.head _))))) (all_cons (N9 _ (.tail _ (.tail _ (.tail _ (.tail _ (.head _)))))) (all_cons (N9 _ (.tail _ (.tail _ (.tail _ (.tail _ (.tail _ (.head _))))))) (fun p h => N9 p (.tail _ (.tail _ (.tail _ (.tail _ (.tail _ (.tail _ (.tail _ h))))))))))))))
                  (all_cons (N9 _ (.tail _ (.tail _ (.tail _ (.tail _ (.tail _ (.tail _ (.head _)))))))) all_nil)
                refine kla_eval rfl ?_
                refine kla_nest F9 N1 T C3 rfl (updF_last hB) trivial rfl (clos := []) (closureFor_none (by decide)) ?_
                intro fL cL ocL vsL tL ctL h21 tk21 F1 N2 dL1 dL2 lL1 lL2
                clear F9 N9 N1
                k_with_none
                k_with "call ref" => (refine' halt ?_)
                repeat' (first | (k_unfold; (try dsimp only)) | (k_end; wrow_close) | ((try dsimp only); walk1) | (leave1; walk_say "STEP leave1"; try dsimp only) | fail "no step")
                refine Halt.mk ?_
                rename Fr _ _ _ _ => F9
                rename News _ _ _ _ => N9
                have hfL := (N9 _ (.head _)).1
                have hcL : Heap.CodeRec _ (.ref cL) _ := ⟨cL, ocL, vsL, tL, rfl, (N9 (cL, ocL) (.tail _ (.head _))).1, dL1, dL2⟩
                refine folded_spec (ρ := ρ) hρ30 (e := e) (z := z) (base := hideAll _ [L]) (outer := [_]) (X.keeps F9.keep) (T.keeps F9.keep) (by decide) (by decide) (hDE.reads F9 (News.sub (a := rE) N9 fun p hp => .tail _ (.tail _ (List.mem_append_left _ (.tail _ (.tail _ (.tail _ (.tail _ (.tail _ (.tail _ (.tail _ (.tail _ (mE p hp))))))))))))) hsz hbd8 hokn ⟨_, _, _, _, hfL⟩ ?hnum hev rfl (fun b o q => of_hideAll _ q) ?hFF2 ?_
                case hFF2 => exact Heap.FunFrames.cons (L := L) (by intro q; cases q) rfl F9.ns (hideAll_none _ (.head _)) trivial
                case hnum =>
                  intro b hb un2 s2 fr2 Q2 E2 v x done hid2 hx hv st hget hnone hdl hi2 hret2
                  subst hi2
                  have TG := T.keeps fun b' o q => st b' o (hb b' o (F9.keep b' o q))
                  refine wpAny_call ?_
                  refine enterLam (binds := [(Str.ofString "operand", v)]) TG (st _ _ (hb _ _ hfL)) ((hcL.keeps hb).keeps st) (by show (301 + 1 + 2 : Nat) < 1000; decide) rfl (locs rfl) ?_ rfl rfl rfl (by decide)
                  intro L' h2 F N
                  cases x with
                  | num mz =>
                    obtain ⟨a5, t5, u5, rfl, hI5, r5⟩ := pair_open hv
                    have hI5 := Tup.keeps st hI5
                    clear F9 N9
                    k_with_none
                    repeat' (first | (k_unfold; (try dsimp only)) | (k_end; wrow_close) | ((try dsimp only); walk1) | (leave1; walk_say "STEP leave1"; try dsimp only) | fail "no step")
                    rename Fr _ _ _ _ => F8
                    exact hret2 _ _ _ [] (fun b' o _ q => F8.keep b' o q) rfl (by intro p hp; cases hp) rfl (Rd.stays (Rd.stays r5 st) F8.keep)
                  | ref _ => cases hx
                  | neg _ => cases hx
                  | bin _ _ _ => cases hx
                intro h23 tk23 vq hS23 hvq
                have F7 := F9.keeps hS23
                refine Reads.regE F7 hvq fun rQ hTQ hNQ hDQ => ?_
                have N7 := News.app (N9.grown hS23) hNQ
                clear F9 N9 hNQ hvq hfL hcL
                dsimp only [List.cons_append, List.nil_append] at N7
                obtain ⟨aE, rfl⟩ := hDE.isRefD
                have hunn : 4 + 3 + 64 < cLine := by decide
                cases hrf : refs with
                | true =>
                  subst hrf
                  rw [if_neg (by intro q; rw [q] at hrefs; cases hrefs)] at hDQ
                  obtain ⟨aQ, rfl⟩ := hDQ.isRefD
                  k_with_none
                  repeat' (first | (k_unfold; (try dsimp only)) | (k_end; wrow_close) | ((try dsimp only); walk1) | (leave1; walk_say "STEP leave1"; try dsimp only) | fail "no step")
                  refine Halt.mk ?_
                  rename Fr _ _ _ _ => F9
                  rename News _ _ _ _ => N9
                  have hds9 : e.deep ≤ 60 := by (first | lia | omega)
                  refine SeqAt.compareNe_shaped (hDQ.reads F9 (News.sub (a := rQ) N9 fun p hp => .tail _ (.tail _ (.tail _ (.tail _ (.tail _ (.tail _ (.tail _ (.tail _ (.tail _ (.tail _ (List.mem_append_right _ hp)))))))))))) (hDE.reads F9 (News.sub (a := rE) N9 fun p hp => .tail _ (.tail _ (.tail _ (.tail _ (.tail _ (.tail _ (.tail _ (.tail _ (.tail _ (.tail _ (List.mem_append_left _ (List.mem_append_left _ (mE p hp)))))))))))))) (dat_shaped hds9) (dat_shaped hds9) hunn ?_
                  rw [SeqAt.eqv_refl _ (dat_can e)]
                  try dsimp only
                  repeat' (first | (k_unfold; (try dsimp only)) | (k_end; wrow_close) | ((try dsimp only); walk1) | (leave1; walk_say "STEP leave1"; try dsimp only) | fail "no step")
                  rename Fr _ _ _ _ => F9
                  rename News _ _ _ _ => N9
                  exact hQ1 _ _ _ F9 (News.sub N9 fun p hp => .tail _ (.tail _ (mem_ext (A := [_, _, _, _, _, _, _, _]) (R := R ++ [_]) (mem_back (A := [_, _, _, _, _, _]) hp))))
                | false =>
                  subst hrf
                  rw [if_pos (by cases hal : e.leaves.all Ex.isNum with | true => rfl | false => (rw [hal] at hrefs; cases hrefs))] at hDQ
                  obtain ⟨aQ, rfl⟩ := hDQ.isRefD
                  k_with_none
                  repeat' (first | (k_unfold; (try dsimp only)) | (k_end; wrow_close) | ((try dsimp only); walk1) | (leave1; walk_say "STEP leave1"; try dsimp only) | fail "no step")
                  refine Halt.mk ?_
                  rename Fr _ _ _ _ => F9
                  rename News _ _ _ _ => N9
                  have hds9 : (Ex.num z).deep ≤ 60 := Nat.zero_le _
                  have hRt := num_pair (hDD'.reads F9 (News.sub (a := rD) N9 fun p hp => .tail _ (.tail _ (.tail _ (.tail _ (.tail _ (.tail _ (.tail _ (.tail _ (.tail _ (.tail _ (.tail _ (List.mem_append_left _ (List.mem_append_left _ (mD p hp))))))))))))))) (N9 _ (.head _)).1
                  refine SeqAt.compareNe_shaped (hDQ.reads F9 (News.sub (a := rQ) N9 fun p hp => .tail _ (.tail _ (.tail _ (.tail _ (.tail _ (.tail _ (.tail _ (.tail _ (.tail _ (.tail _ (.tail _ (List.mem_append_right _ hp))))))))))))) hRt (dat_shaped hds9) (dat_shaped hds9) hunn ?_
                  rw [SeqAt.eqv_refl _ (dat_can (.num z))]
                  try dsimp only
                  repeat' (first | (k_unfold; (try dsimp only)) | (k_end; wrow_close) | ((try dsimp only); walk1) | (leave1; walk_say "STEP leave1"; try dsimp only) | fail "no step")
                  rename Fr _ _ _ _ => F9
                  rename News _ _ _ _ => N9
                  exact hQ1 _ _ _ F9 (News.sub N9 fun p hp => .tail _ (.tail _ (.tail _ (mem_ext (A := [_, _, _, _, _, _, _, _]) (R := R ++ [_]) (mem_back (A := [_, _, _, _, _, _]) hp)))))
            · dsimp only at N8 ⊢
              obtain ⟨m9, F8⟩ : ∃ m9, Fr G L h20 m9 := ⟨_, F8⟩
              k_with_none
              k_with "call ref" => (refine' halt ?_)
              repeat' (first | (k_unfold; (try dsimp only)) | (k_end; wrow_close) | ((try dsimp only); walk1) | (leave1; walk_say "STEP leave1"; try dsimp only) | fail "no step")
              refine Halt.mk ?_
              rename Fr _ _ _ _ => F9
              rename News _ _ _ _ => N9
              refine draw_spec (ns := ns') (X.keeps (pen_hid F9 N9)) (T.keeps (pen_hid F9 N9)) (by decide) (N9 _ (.head _)).1 (hScr _ (hideAll_get _ (N9 (l, oS) (.tail _ (.tail _ (.head _)))).1 (by rw [List.mem_singleton]; exact Ne.symm hpl))) (by (first | lia | omega)) hc8 ⟨hq1, hq2⟩ ⟨by decide, by decide⟩ ?_
              intro h24 tk24 many tm k24 c24 y1 y2 y3 n24 hm0 hm61 hka hkb hcc hS24 hp24
              obtain ⟨F2, N2⟩ := pen_turn F9 N9 (all_cons hd1 (all_cons (Ne.symm hpl) (all_cons (Ne.symm hp1) (all_cons (Ne.symm hp2) (all_cons (Ne.symm hp3) (all_cons (Ne.symm hp4) (fun p hp => (hoffR p hp).1))))))) hS24 hp24
              clear F9 N9 hS24 hp24
              have hofR : ∀ p ∈ R, p.1 ≠ 254 ∧ p.1 ≠ 261 := fun p hp => (hoffR p (.tail _ (.tail _ hp))).2
              clear hoffR hDE hDD hDF hDS
              k_with_none
              k_with "assignInOrder" => (refine' halt ?_)
              repeat' (first | (k_unfold; (try dsimp only)) | (k_end; wrow_close) | ((try dsimp only); walk1) | (leave1; walk_say "STEP leave1"; try dsimp only) | fail "no step")
              refine Halt.mk ?_
              change wpAny _ _ (assignInOrder [bindName _ (Str.ofString "long"), bindName _ (Str.ofString "many")] [_, _]) _ _ _
              k_with_none
              k_with "execs cons" => (refine' halt ?_)
              repeat' (first | (k_unfold; (try dsimp only)) | (k_end; wrow_close) | ((try dsimp only); walk1) | (leave1; walk_say "STEP leave1"; try dsimp only) | fail "no step")
              refine Halt.mk ?_
              rename Fr _ _ _ _ => F9
              rename News _ _ _ _ => N9
              obtain ⟨R3, hR3, hof3, hV0, N3⟩ := long_zero N9 hofR
              exact law_tail (by with_unfolding_all rfl) (by with_unfolding_all rfl) X T C8 hl5 hl6 hρ4 hW hd3 hd5 hd6 hdW htri hc1 hrec (hcode.imp id (hR3 _)) hof3 hm0 hm61 hV0 F9 N3 (fun h' tk k g => hret h' tk k g)
  · intro f s' z
    obtain ⟨h', tk, rfl, rfl, k, g⟩ := z
    exact ⟨⟨.inl ⟨.bool true, .bool true, [], rfl, fun _ => rfl, (.bool true), (by with_unfolding_all rfl), fun _ => ⟨.nil, fun a ha => nomatch ha⟩⟩, k, rfl, by assumption⟩, g⟩)
end
end
end Mine
set_option maxRecDepth 100000 in
set_option maxHeartbeats 8000000 in
theorem PySem.Challenge.cw_pc0124_01_holds : PySem.Challenge.rw_pc0124_01.Holds := by
  exact Mine.law_holds
