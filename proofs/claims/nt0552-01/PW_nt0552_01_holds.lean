import PyProof.Rows.All
import Wide.All
import OpenK.AllK
import Wide.FinOn
import PySem.Challenge.RW_nt0552_01
open PySem PySem.W PyProof.Rows
set_option Elab.async false
set_option maxRecDepth 100000
set_option linter.all false
namespace Nt
noncomputable abbrev Prg : Program := PySem.Challenge.pw_nt0552_01
/-- a row of the top that binds __name__ -/
noncomputable def isName (s : Stmt) : Bool := by
  cases s with
  | Assign _ _ _ => exact true
  | _ => exact false
/-- the program, its top cut down to the defs and classes -/
noncomputable def vw : Program := by
  refine (fun (b : List Stmt) (_ : Prg.main.body.filter (fun s => !isName s) = b) => ({ Prg with main := { Prg.main with body := b } } : Program)) ?b ?h
  case h =>
    dsimp only [Prg, PySem.Challenge.pw_nt0552_01, List.filter, isName, Bool.not_true, Bool.not_false]
    exact rfl
noncomputable abbrev xtHead (s : Shared) : Bool := xlAt vw [] s && recOk (RowW.records PySem.Challenge.rw_nt0552_01.row.toRowW) s
theorem headOpen {d : DefRec} {kwd : List (Str × Expr)} (H : Hook) (left : LeftO PySem.Challenge.rw_nt0552_01.row.prog vw [] xtHead (Hook.obs H) (Hook.val H) 3426) (hdef : defOf vw PySem.Challenge.rw_nt0552_01.row.name = some (d, kwd))
    (hp : PySem.Challenge.rw_nt0552_01.row.prog.theDef PySem.Challenge.rw_nt0552_01.row.name = some (d.params, d.body, d.scope)) (hk : kwWritten? d.params.kwonlyargs d.params.kw_defaults = some kwd) (hwr : (!PySem.Challenge.rw_nt0552_01.row.writes || PySem.Challenge.rw_nt0552_01.row.records.isEmpty) = true)
    (k1 : PySem.Challenge.rw_nt0552_01.row.wellSaid = true) (ok : (chainsOk vw && opensWell PySem.Challenge.rw_nt0552_01.row.prog && (frees PySem.Challenge.rw_nt0552_01.row.toRowW && PySem.Challenge.rw_nt0552_01.row.within.isEmpty)) = true) (hb : PySem.Challenge.rw_nt0552_01.row.prog.bare)
    (hw : PySem.Challenge.rw_nt0552_01.row.toRowW.promised)
    (call : WalkO vw [] (XL vw []) (Hook.says H) PySem.Challenge.rw_nt0552_01.row.toRowW d kwd fun f vs => PySem.call f vs) : PySem.Challenge.rw_nt0552_01.row.Holds :=
  holds_open (q := vw) (loose := []) (Xt := xtHead) (XP := XL vw []) (Yf := Hook.obs H) (Ya := Hook.val H) (YP := Hook.says H) (N := 3426) left (Hook.of H) (Hook.keeps H) (fun s e => xl_of s (Bool.and_eq_true_iff.mp e).1) XL.keeps hdef hp hk (fun s e => recFacts_of (Bool.and_eq_true_iff.mp e).2) hwr k1 ok hb hw call
local macro_rules | `(tactic| o_head $H) => `(tactic| (
  refine headOpen $H ?hl (by rfl) (by rfl) (by rfl) (by rfl) (by first | assumption | decide +kernel) (by decide +kernel) ⟨rfl, rfl, rfl, rfl, rfl, by decide +kernel⟩ ?hw ?hc
  (case hl => (intro w; kernel_rfl))))
set_option maxRecDepth 100000 in
set_option maxHeartbeats 8000000 in
open_top hd for PySem.Challenge.rw_nt0552_01
end Nt

namespace Nt

theorem picka { zzy zzx : Prop} (zzh : zzy ∧ zzx) : zzy := zzh.1
theorem pickb {zza zzy zzx : Prop} (zzh : zza ∧ zzy ∧ zzx) : zzy := zzh.2.1
theorem pickc {zza zzb zzy zzx : Prop} (zzh : zza ∧ zzb ∧ zzy ∧ zzx) : zzy := zzh.2.2.1
theorem pickd {zza zzb zzc zzy zzx : Prop} (zzh : zza ∧ zzb ∧ zzc ∧ zzy ∧ zzx) : zzy := zzh.2.2.2.1
theorem picke {zza zzb zzc zzd zzy zzx : Prop} (zzh : zza ∧ zzb ∧ zzc ∧ zzd ∧ zzy ∧ zzx) : zzy := zzh.2.2.2.2.1
theorem pickf {zza zzb zzc zzd zze zzy zzx : Prop} (zzh : zza ∧ zzb ∧ zzc ∧ zzd ∧ zze ∧ zzy ∧ zzx) : zzy := zzh.2.2.2.2.2.1
theorem pickg {zza zzb zzc zzd zze zzf zzy zzx : Prop} (zzh : zza ∧ zzb ∧ zzc ∧ zzd ∧ zze ∧ zzf ∧ zzy ∧ zzx) : zzy := zzh.2.2.2.2.2.2.1
theorem pickh {zza zzb zzc zzd zze zzf zzg zzy zzx : Prop} (zzh : zza ∧ zzb ∧ zzc ∧ zzd ∧ zze ∧ zzf ∧ zzg ∧ zzy ∧ zzx) : zzy := zzh.2.2.2.2.2.2.2.1
theorem picki {zza zzb zzc zzd zze zzf zzg zzh zzy zzx : Prop} (zzh : zza ∧ zzb ∧ zzc ∧ zzd ∧ zze ∧ zzf ∧ zzg ∧ zzh ∧ zzy ∧ zzx) : zzy := zzh.2.2.2.2.2.2.2.2.1
theorem pickj {zza zzb zzc zzd zze zzf zzg zzh zzi zzy zzx : Prop} (zzh : zza ∧ zzb ∧ zzc ∧ zzd ∧ zze ∧ zzf ∧ zzg ∧ zzh ∧ zzi ∧ zzy ∧ zzx) : zzy := zzh.2.2.2.2.2.2.2.2.2.1
theorem pickk {zza zzb zzc zzd zze zzf zzg zzh zzi zzj zzy zzx : Prop} (zzh : zza ∧ zzb ∧ zzc ∧ zzd ∧ zze ∧ zzf ∧ zzg ∧ zzh ∧ zzi ∧ zzj ∧ zzy ∧ zzx) : zzy := zzh.2.2.2.2.2.2.2.2.2.2.1
theorem pickl {zza zzb zzc zzd zze zzf zzg zzh zzi zzj zzk zzy zzx : Prop} (zzh : zza ∧ zzb ∧ zzc ∧ zzd ∧ zze ∧ zzf ∧ zzg ∧ zzh ∧ zzi ∧ zzj ∧ zzk ∧ zzy ∧ zzx) : zzy := zzh.2.2.2.2.2.2.2.2.2.2.2.1
theorem pickm {zza zzb zzc zzd zze zzf zzg zzh zzi zzj zzk zzl zzy zzx : Prop} (zzh : zza ∧ zzb ∧ zzc ∧ zzd ∧ zze ∧ zzf ∧ zzg ∧ zzh ∧ zzi ∧ zzj ∧ zzk ∧ zzl ∧ zzy ∧ zzx) : zzy := zzh.2.2.2.2.2.2.2.2.2.2.2.2.1
theorem pickn {zza zzb zzc zzd zze zzf zzg zzh zzi zzj zzk zzl zzm zzy zzx : Prop} (zzh : zza ∧ zzb ∧ zzc ∧ zzd ∧ zze ∧ zzf ∧ zzg ∧ zzh ∧ zzi ∧ zzj ∧ zzk ∧ zzl ∧ zzm ∧ zzy ∧ zzx) : zzy := zzh.2.2.2.2.2.2.2.2.2.2.2.2.2.1
theorem picko {zza zzb zzc zzd zze zzf zzg zzh zzi zzj zzk zzl zzm zzn zzy zzx : Prop} (zzh : zza ∧ zzb ∧ zzc ∧ zzd ∧ zze ∧ zzf ∧ zzg ∧ zzh ∧ zzi ∧ zzj ∧ zzk ∧ zzl ∧ zzm ∧ zzn ∧ zzy ∧ zzx) : zzy := zzh.2.2.2.2.2.2.2.2.2.2.2.2.2.2.1
theorem pickp {zza zzb zzc zzd zze zzf zzg zzh zzi zzj zzk zzl zzm zzn zzo zzy zzx : Prop} (zzh : zza ∧ zzb ∧ zzc ∧ zzd ∧ zze ∧ zzf ∧ zzg ∧ zzh ∧ zzi ∧ zzj ∧ zzk ∧ zzl ∧ zzm ∧ zzn ∧ zzo ∧ zzy ∧ zzx) : zzy := zzh.2.2.2.2.2.2.2.2.2.2.2.2.2.2.2.1
theorem pickq {zza zzb zzc zzd zze zzf zzg zzh zzi zzj zzk zzl zzm zzn zzo zzp zzy zzx : Prop} (zzh : zza ∧ zzb ∧ zzc ∧ zzd ∧ zze ∧ zzf ∧ zzg ∧ zzh ∧ zzi ∧ zzj ∧ zzk ∧ zzl ∧ zzm ∧ zzn ∧ zzo ∧ zzp ∧ zzy ∧ zzx) : zzy := zzh.2.2.2.2.2.2.2.2.2.2.2.2.2.2.2.2.1
theorem pickr {zza zzb zzc zzd zze zzf zzg zzh zzi zzj zzk zzl zzm zzn zzo zzp zzq zzy zzx : Prop} (zzh : zza ∧ zzb ∧ zzc ∧ zzd ∧ zze ∧ zzf ∧ zzg ∧ zzh ∧ zzi ∧ zzj ∧ zzk ∧ zzl ∧ zzm ∧ zzn ∧ zzo ∧ zzp ∧ zzq ∧ zzy ∧ zzx) : zzy := zzh.2.2.2.2.2.2.2.2.2.2.2.2.2.2.2.2.2.1
theorem lastb {zza zzy : Prop} (zzh : zza ∧ zzy) : zzy := zzh.2
theorem lastc {zza zzb zzy : Prop} (zzh : zza ∧ zzb ∧ zzy) : zzy := zzh.2.2
theorem lastd {zza zzb zzc zzy : Prop} (zzh : zza ∧ zzb ∧ zzc ∧ zzy) : zzy := zzh.2.2.2
theorem laste {zza zzb zzc zzd zzy : Prop} (zzh : zza ∧ zzb ∧ zzc ∧ zzd ∧ zzy) : zzy := zzh.2.2.2.2
theorem lastf {zza zzb zzc zzd zze zzy : Prop} (zzh : zza ∧ zzb ∧ zzc ∧ zzd ∧ zze ∧ zzy) : zzy := zzh.2.2.2.2.2
theorem lastg {zza zzb zzc zzd zze zzf zzy : Prop} (zzh : zza ∧ zzb ∧ zzc ∧ zzd ∧ zze ∧ zzf ∧ zzy) : zzy := zzh.2.2.2.2.2.2
theorem lasth {zza zzb zzc zzd zze zzf zzg zzy : Prop} (zzh : zza ∧ zzb ∧ zzc ∧ zzd ∧ zze ∧ zzf ∧ zzg ∧ zzy) : zzy := zzh.2.2.2.2.2.2.2
theorem lasti {zza zzb zzc zzd zze zzf zzg zzh zzy : Prop} (zzh : zza ∧ zzb ∧ zzc ∧ zzd ∧ zze ∧ zzf ∧ zzg ∧ zzh ∧ zzy) : zzy := zzh.2.2.2.2.2.2.2.2
theorem lastj {zza zzb zzc zzd zze zzf zzg zzh zzi zzy : Prop} (zzh : zza ∧ zzb ∧ zzc ∧ zzd ∧ zze ∧ zzf ∧ zzg ∧ zzh ∧ zzi ∧ zzy) : zzy := zzh.2.2.2.2.2.2.2.2.2
theorem lastk {zza zzb zzc zzd zze zzf zzg zzh zzi zzj zzy : Prop} (zzh : zza ∧ zzb ∧ zzc ∧ zzd ∧ zze ∧ zzf ∧ zzg ∧ zzh ∧ zzi ∧ zzj ∧ zzy) : zzy := zzh.2.2.2.2.2.2.2.2.2.2
theorem lastl {zza zzb zzc zzd zze zzf zzg zzh zzi zzj zzk zzy : Prop} (zzh : zza ∧ zzb ∧ zzc ∧ zzd ∧ zze ∧ zzf ∧ zzg ∧ zzh ∧ zzi ∧ zzj ∧ zzk ∧ zzy) : zzy := zzh.2.2.2.2.2.2.2.2.2.2.2
theorem lastm {zza zzb zzc zzd zze zzf zzg zzh zzi zzj zzk zzl zzy : Prop} (zzh : zza ∧ zzb ∧ zzc ∧ zzd ∧ zze ∧ zzf ∧ zzg ∧ zzh ∧ zzi ∧ zzj ∧ zzk ∧ zzl ∧ zzy) : zzy := zzh.2.2.2.2.2.2.2.2.2.2.2.2
theorem lastn {zza zzb zzc zzd zze zzf zzg zzh zzi zzj zzk zzl zzm zzy : Prop} (zzh : zza ∧ zzb ∧ zzc ∧ zzd ∧ zze ∧ zzf ∧ zzg ∧ zzh ∧ zzi ∧ zzj ∧ zzk ∧ zzl ∧ zzm ∧ zzy) : zzy := zzh.2.2.2.2.2.2.2.2.2.2.2.2.2
theorem lasto {zza zzb zzc zzd zze zzf zzg zzh zzi zzj zzk zzl zzm zzn zzy : Prop} (zzh : zza ∧ zzb ∧ zzc ∧ zzd ∧ zze ∧ zzf ∧ zzg ∧ zzh ∧ zzi ∧ zzj ∧ zzk ∧ zzl ∧ zzm ∧ zzn ∧ zzy) : zzy := zzh.2.2.2.2.2.2.2.2.2.2.2.2.2.2
theorem lastp {zza zzb zzc zzd zze zzf zzg zzh zzi zzj zzk zzl zzm zzn zzo zzy : Prop} (zzh : zza ∧ zzb ∧ zzc ∧ zzd ∧ zze ∧ zzf ∧ zzg ∧ zzh ∧ zzi ∧ zzj ∧ zzk ∧ zzl ∧ zzm ∧ zzn ∧ zzo ∧ zzy) : zzy := zzh.2.2.2.2.2.2.2.2.2.2.2.2.2.2.2
theorem lastq {zza zzb zzc zzd zze zzf zzg zzh zzi zzj zzk zzl zzm zzn zzo zzp zzy : Prop} (zzh : zza ∧ zzb ∧ zzc ∧ zzd ∧ zze ∧ zzf ∧ zzg ∧ zzh ∧ zzi ∧ zzj ∧ zzk ∧ zzl ∧ zzm ∧ zzn ∧ zzo ∧ zzp ∧ zzy) : zzy := zzh.2.2.2.2.2.2.2.2.2.2.2.2.2.2.2.2
theorem lastr {zza zzb zzc zzd zze zzf zzg zzh zzi zzj zzk zzl zzm zzn zzo zzp zzq zzy : Prop} (zzh : zza ∧ zzb ∧ zzc ∧ zzd ∧ zze ∧ zzf ∧ zzg ∧ zzh ∧ zzi ∧ zzj ∧ zzk ∧ zzl ∧ zzm ∧ zzn ∧ zzo ∧ zzp ∧ zzq ∧ zzy) : zzy := zzh.2.2.2.2.2.2.2.2.2.2.2.2.2.2.2.2.2
theorem neUp {zza zzb : Nat} (zzh : zza ≤ zzb) : zza ≠ zzb + 1 := Nat.ne_of_lt (Nat.lt_succ_of_le zzh)
theorem neDn {zza zzb : Nat} (zzh : zzb ≤ zza) : zza + 1 ≠ zzb := Nat.ne_of_gt (Nat.lt_succ_of_le zzh)
theorem leUp {zza zzb : Nat} (zzh : zza ≤ zzb) : zza ≤ zzb + 1 := Nat.le_succ_of_le zzh
theorem leA {zza zzb : Nat} (zzh : zza + 1 < zzb) : zza ≤ zzb := Nat.le_of_lt (Nat.lt_of_succ_lt zzh)
theorem leB {zza zzb : Nat} (zzh : zza + 1 + 1 < zzb) : zza ≤ zzb := leA (Nat.lt_of_succ_lt zzh)
theorem leC {zza zzb : Nat} (zzh : zza + 1 + 1 + 1 < zzb) : zza ≤ zzb := leB (Nat.lt_of_succ_lt zzh)
theorem leD {zza zzb : Nat} (zzh : zza + 1 + 1 + 1 + 1 < zzb) : zza ≤ zzb := leC (Nat.lt_of_succ_lt zzh)
theorem leE {zza zzb : Nat} (zzh : zza + 1 + 1 + 1 + 1 + 1 < zzb) : zza ≤ zzb := leD (Nat.lt_of_succ_lt zzh)
theorem lenLe {zzl zzi zzn zza zzc : Nat} (zzg : zzl = zzi) (zzh : zzi < zzn) (zzk : zzn ≤ zza) (zze : zza ≤ zzc) : zzl ≤ zzc := zzg ▸ Nat.le_of_lt (Nat.lt_of_lt_of_le zzh (Nat.le_trans zzk zze))
theorem idxLe {zzi zzn zza zzc : Nat} (zzh : zzi < zzn) (zzk : zzn ≤ zza) (zze : zza ≤ zzc) : zzi ≤ zzc := Nat.le_of_lt (Nat.lt_of_lt_of_le zzh (Nat.le_trans zzk zze))
theorem lenLf {zzl zzn zza zzc : Nat} (zzg : zzl = zzn) (zzk : zzn ≤ zza) (zze : zza ≤ zzc) : zzl ≤ zzc := zzg ▸ Nat.le_trans zzk zze
theorem idxLt {zzi zzn zza : Nat} {zzc : Int} (zzh : zzi < zzn) (zzk : zzn ≤ zza) (zze : (zza : Int) ≤ zzc) : (0 : Int) + (zzi : Int) < zzc := by
  rw [Int.zero_add]
  exact Int.lt_of_lt_of_le (Int.ofNat_lt.mpr (Nat.lt_of_lt_of_le zzh zzk)) zze
theorem idxLs {zzi zzn zza : Nat} {zzc : Int} (zzh : zzi < zzn) (zzk : zzn ≤ zza) (zze : (zza : Int) ≤ zzc) : (0 : Int) + (zzi : Int) ≤ zzc := Int.le_of_lt (idxLt zzh zzk zze)
theorem idxGe {zzi : Nat} : (0 : Int) ≤ 0 + (zzi : Int) := by
  rw [Int.zero_add]
  exact Int.natCast_nonneg zzi
theorem idxNat {zzi : Nat} : ((0 : Int) + (zzi : Int)).toNat = zzi := by rw [Int.zero_add, Int.toNat_natCast]
theorem eqZ {zza zzb : Int} (zzh : zza = zzb) : zza = 0 + zzb := by rw [Int.zero_add]; exact zzh
theorem eqZr {zza : Int} : zza = 0 + zza := (Int.zero_add zza).symm
theorem lenZ {zza zzb : Nat} (zzh : zza = zzb) : (zza : Int) = 0 + (zzb : Int) := by rw [zzh, Int.zero_add]
theorem turnLt {i n : Nat} (h : i < n) : n + 1 - (i + 1) < n + 1 - i := by omega
theorem roomA {zzn zza zzb zzc zzR : Nat} (zzh : zzn + zza < zzR) (zze : zzb + zzc ≤ zza) : zzn + zzb + zzc < zzR := by omega
theorem roomB {zzn zza zzb zzR : Nat} (zzh : zzn + zza < zzR) (zze : zzb ≤ zza) : zzn + zzb < zzR := by omega
theorem roomC {zzn zza zzR : Nat} (zzh : zzn + zza < zzR) : zzn < zzR := by omega
theorem fitLt {zzx zza zzc : Int} (zzh : zzx ≤ zza) (zze : zza < zzc) : zzx < zzc := Int.lt_of_le_of_lt zzh zze
theorem fitLs {zzx zza zzc : Int} (zzh : zzx < zza) (zze : zza ≤ zzc) : zzx < zzc := Int.lt_of_lt_of_le zzh zze
theorem fitLe {zzx zza zzc : Int} (zzh : zzx ≤ zza) (zze : zza ≤ zzc) : zzx ≤ zzc := Int.le_trans zzh zze
theorem fitLf {zzx zza zzc : Int} (zzh : zzx < zza) (zze : zza ≤ zzc) : zzx ≤ zzc := Int.le_of_lt (Int.lt_of_lt_of_le zzh zze)
theorem fitGt {zzx zza zzc : Int} (zzh : zza ≤ zzx) (zze : zzc < zza) : zzc < zzx := Int.lt_of_lt_of_le zze zzh
theorem fitGs {zzx zza zzc : Int} (zzh : zza < zzx) (zze : zzc ≤ zza) : zzc < zzx := Int.lt_of_le_of_lt zze zzh
theorem fitGe {zzx zza zzc : Int} (zzh : zza ≤ zzx) (zze : zzc ≤ zza) : zzc ≤ zzx := Int.le_trans zze zzh
theorem fitGf {zzx zza zzc : Int} (zzh : zza < zzx) (zze : zzc ≤ zza) : zzc ≤ zzx := Int.le_of_lt (Int.lt_of_le_of_lt zze zzh)
theorem natLt {zzx zza zzc : Nat} (zzh : zzx ≤ zza) (zze : zza < zzc) : zzx < zzc := Nat.lt_of_le_of_lt zzh zze
theorem natLe {zzx zza zzc : Nat} (zzh : zzx ≤ zza) (zze : zza ≤ zzc) : zzx ≤ zzc := Nat.le_trans zzh zze
theorem natLf {zzx zza zzc : Nat} (zzh : zzx < zza) (zze : zza ≤ zzc) : zzx ≤ zzc := Nat.le_of_lt (Nat.lt_of_lt_of_le zzh zze)
theorem castLe {zzn zza : Nat} {zzc : Int} (zzh : zzn ≤ zza) (zze : (zza : Int) ≤ zzc) : (zzn : Int) ≤ zzc := Int.le_trans (Int.ofNat_le.mpr zzh) zze
theorem castLt {zzn zza : Nat} {zzc : Int} (zzh : zzn ≤ zza) (zze : (zza : Int) < zzc) : (zzn : Int) < zzc := Int.lt_of_le_of_lt (Int.ofNat_le.mpr zzh) zze
theorem castGe {zzn : Nat} {zzc : Int} (zze : zzc ≤ 0) : zzc ≤ (zzn : Int) := Int.le_trans zze (Int.natCast_nonneg zzn)
theorem castGt {zzn : Nat} {zzc : Int} (zze : zzc < 0) : zzc < (zzn : Int) := Int.lt_of_lt_of_le zze (Int.natCast_nonneg zzn)
theorem castPos {zzn : Nat} (zzh : 0 < zzn) : (0 : Int) < (zzn : Int) := Int.ofNat_lt.mpr zzh
theorem subNil {α : Type} {B : List α} : ∀ p ∈ ([] : List α), p ∈ B := fun _ h => nomatch h
theorem subSelf {α : Type} {A : List α} : ∀ p ∈ A, p ∈ A := fun _ h => h
theorem subKeep {α : Type} {x : α} {A B : List α} (t : ∀ p ∈ A, p ∈ B) : ∀ p ∈ x :: A, p ∈ x :: B := fun p hp => by
  rcases List.mem_cons.mp hp with rfl | hp
  · exact .head _
  · exact .tail _ (t p hp)
theorem subCons {α : Type} {zzx : α} {zzA zzB : List α} (zzh : zzx ∈ zzB) (zzt : ∀ p ∈ zzA, p ∈ zzB) : ∀ p ∈ zzx :: zzA, p ∈ zzB := fun p hp => by
  rcases List.mem_cons.mp hp with rfl | hp
  · exact zzh
  · exact zzt p hp
theorem subTail {α : Type} {x : α} {A B : List α} (t : ∀ p ∈ A, p ∈ B) : ∀ p ∈ A, p ∈ x :: B := fun p hp => .tail _ (t p hp)
theorem subLeft {α : Type} {A B C : List α} (t : ∀ p ∈ A, p ∈ B) : ∀ p ∈ A, p ∈ B ++ C := fun p hp => List.mem_append_left _ (t p hp)
theorem subRight {α : Type} {A B C : List α} (t : ∀ p ∈ A, p ∈ B) : ∀ p ∈ A, p ∈ C ++ B := fun p hp => List.mem_append_right _ (t p hp)
theorem subKeepApp {α : Type} {A B C : List α} (t : ∀ p ∈ A, p ∈ B) : ∀ p ∈ C ++ A, p ∈ C ++ B := fun p hp => (List.mem_append.mp hp).elim (List.mem_append_left _) fun h => List.mem_append_right _ (t p h)
theorem subApp {α : Type} {A B C : List α} (h : ∀ p ∈ A, p ∈ C) (t : ∀ p ∈ B, p ∈ C) : ∀ p ∈ A ++ B, p ∈ C := fun p hp => (List.mem_append.mp hp).elim (h p) (t p)

noncomputable abbrev LooseX : List Str := looseW vw []
abbrev Led := List (Addr × Obj)

/-- a ledger's hot head and its cold rest -/
inductive Split : Led → Led → Led → Prop
  | nil (cold : Led) : Split cold [] cold
  | cons (p : Addr × Obj) {news hot cold : Led} : Split news hot cold → Split (p :: news) (p :: hot) cold
theorem Split.eq {news hot cold : Led} (h : Split news hot cold) : news = hot ++ cold := by
  induction h with
  | nil => rfl
  | cons p _ ih => rw [ih]; rfl

/-- what a call of the def at f is said to do: told over the caller's ledger; k frames of room -/
def Ctr (w : World) (k : Nat) (f : Addr) (vs : List Value) (Pre : Led → Prop) (Out : Led → Value → Prop) : Prop :=
  ∀ (mean : ExcName → Option Value) (mg mb : Str → Option Value) (dp un : Nat) (gd : Option (List Code)) (cn : Str) (cs : Scope) (a : Addr) (ccd : Value) (cl : List (Str × Addr)) (outer : List Env) (A₀ : Around) (base h₀ : Heap) (L : Addr) (m : Str → Option Value)
    (news : Led) (s : Shared) (Q E : Value → Shared → Prop),
    Below A₀ base outer h₀ → Fr h₀ L s.heap m → (hd.heap_39 w.params).In h₀ → News h₀ L s.heap news → Top vw LooseX mean mg mb h₀ → cs.kind = .function → Pre news → dp + k < recursionLimit → un + 40 * k < cLine →
    (∀ r tl h' tk', Fr h₀ L h' m → News h₀ L h' (tl ++ news) → (∀ p ∈ tl, ∀ q ∈ news, p.1 ≠ q.1) → Out tl r → Q r { s with heap := h', toks := tk' }) →
    wpAny (model Prg w) (ktrTop dp un gd cn cs L a ccd cl outer) (call (.ref f) vs) Q E s

theorem Ctr.use {w : World} {k : Nat} {f : Addr} {vs : List Value} {Pre : Led → Prop} {Out : Led → Value → Prop} (C : Ctr w k f vs Pre Out)
    {mean : ExcName → Option Value} {mg mb : Str → Option Value} {dp un : Nat} {gd : Option (List Code)} {cn : Str} {cs : Scope} {a : Addr} {ccd : Value} {cl : List (Str × Addr)} {outer : List Env} {A₀ : Around} {base h₀ : Heap} {L : Addr} {m : Str → Option Value}
    {news hot cold : Led} {s : Shared} {Q E : Value → Shared → Prop}
    (B : Below A₀ base outer h₀) (F : Fr h₀ L s.heap m) (X : (hd.heap_39 w.params).In h₀) (N : News h₀ L s.heap news) (T : Top vw LooseX mean mg mb h₀) (hk : cs.kind = .function) (S : Split news hot cold) (P : Pre news) (hd : dp + k < recursionLimit) (hu : un + 40 * k < cLine)
    (ret : ∀ r tl h' tk', Fr h₀ L h' m → News h₀ L h' (hot ++ (tl ++ cold)) → OwnOff tl (hot.map (·.1)) → (∀ p ∈ tl, ∀ q ∈ cold, p.1 ≠ q.1) → Out tl r → Q r { s with heap := h', toks := tk' }) :
    wpAny (model Prg w) (ktrTop dp un gd cn cs L a ccd cl outer) (call (.ref f) vs) Q E s := by
  refine C mean mg mb dp un gd cn cs a ccd cl outer A₀ base h₀ L m news s Q E B F X N T hk P hd hu ?_
  intro r tl h' tk' F' N' ap O
  have e := S.eq
  subst e
  refine ret r tl h' tk' F' (fun p hp => N' p ?_) (fun p hp b hb => ?_) (fun p hp q hq => ap p hp q (List.mem_append.mpr (.inr hq))) O
  · rcases List.mem_append.mp hp with h | h
    · exact List.mem_append.mpr (.inr (List.mem_append.mpr (.inl h)))
    · rcases List.mem_append.mp h with h | h
      · exact List.mem_append.mpr (.inl h)
      · exact List.mem_append.mpr (.inr (List.mem_append.mpr (.inr h)))
  · obtain ⟨q, hq, rfl⟩ := List.mem_map.mp hb
    exact ap p hp q (List.mem_append.mpr (.inl hq))

/-- the whole of what a contract's proof has in hand, its call entered -/
theorem Ctr.of {w : World} {k : Nat} {f : Addr} {vs : List Value} {Pre : Led → Prop} {Out : Led → Value → Prop}
    (h : ∀ (mean : ExcName → Option Value) (mg mb : Str → Option Value) (dp un : Nat) (gd : Option (List Code)) (cn : Str) (cs : Scope) (a : Addr) (ccd : Value) (cl : List (Str × Addr)) (outer : List Env) (A₀ : Around) (base h₀ : Heap) (L : Addr) (m : Str → Option Value)
      (news : Led) (s : Shared) (Q E : Value → Shared → Prop),
      Below A₀ base outer h₀ → Fr h₀ L s.heap m → (hd.heap_39 w.params).In h₀ → News h₀ L s.heap news → Top vw LooseX mean mg mb h₀ → cs.kind = .function → Pre news → dp + k < recursionLimit → un + 40 * k < cLine →
      (∀ r tl h' tk', Fr h₀ L h' m → News h₀ L h' (tl ++ news) → (∀ p ∈ tl, ∀ q ∈ news, p.1 ≠ q.1) → Out tl r → Q r { s with heap := h', toks := tk' }) →
      wpAny (model Prg w) (ktrTop dp un gd cn cs L a ccd cl outer) (call (.ref f) vs) Q E s) : Ctr w k f vs Pre Out := h

/-- the walk halts here -/
def Halt (P : Prop) : Prop := P
theorem stopIt {P : Prop} (h : Halt P) : P := h
theorem newsSub {h₀ h : Heap} {L : Addr} {news news' : Led} (N : News h₀ L h news) (hs : ∀ p ∈ news', p ∈ news) : News h₀ L h news' := fun p hp => N p (hs p hp)

/-- the place that stands for p in a row of n -/
noncomputable def kp (p n : Int) : Int := if p < 0 then 0 else if p < n then p else n - 1
theorem kp_nonneg {p n : Int} (h : 0 < n) : 0 ≤ kp p n := by unfold kp; split <;> (try split) <;> omega
theorem kp_lt {p n : Int} (h : 0 < n) : kp p n < n := by unfold kp; split <;> (try split) <;> omega
theorem kp_in {p n : Int} (h : 0 ≤ p) (h' : p < n) : kp p n = p := by unfold kp; rw [if_neg (by omega), if_pos h']
/-- the sample that stands for (x, y) -/
noncomputable def pix (f : Nat → Nat → Int) (W H : Nat) (x y : Int) : Int := f (kp x W).toNat (kp y H).toNat
noncomputable def rowOf (W : Nat) (f : Nat → Nat → Int) (j : Nat) : List Int := (List.range W).map fun i => f i j

def IntsL (led : Led) (v : Value) (ns : List Int) : Prop := ∃ a vs k, v = .ref a ∧ (a, listOf vs.toArray k) ∈ led ∧ IntsAre vs ns
def RowsL (led : Led) (rvs : List Value) (W H : Nat) (f : Nat → Nat → Int) : Prop := rvs.length = H ∧ ∀ j, j < H → ∃ v, rvs[j]? = some v ∧ IntsL led v (rowOf W f j)
def PlaneL (P : Params) (led : Led) (v : Value) (W H : Nat) (f : Nat → Nat → Int) : Prop :=
  ∃ a d r rvs k t1 t2 t3 tw th, v = .ref a ∧ (a, instObj 84 d) ∈ led ∧
    (d, dictOf [⟨PyData.keyHash P (Str.ofString "width"), .str (Str.ofString "width") t1, .int W tw⟩, ⟨PyData.keyHash P (Str.ofString "height"), .str (Str.ofString "height") t2, .int H th⟩, ⟨PyData.keyHash P (Str.ofString "rows"), .str (Str.ofString "rows") t3, .ref r⟩] 3) ∈ led ∧
    (r, listOf rvs.toArray k) ∈ led ∧ RowsL led rvs W H f ∧ 0 < W ∧ W ≤ 100 ∧ 0 < H ∧ H ≤ 100
theorem IntsL.mono {led led' : Led} {v : Value} {ns : List Int} (h : IntsL led v ns) (s : ∀ p ∈ led, p ∈ led') : IntsL led' v ns := by
  obtain ⟨a, vs, k, e, m, i⟩ := h
  exact ⟨a, vs, k, e, s _ m, i⟩
theorem RowsL.mono {led led' : Led} {rvs : List Value} {W H : Nat} {f : Nat → Nat → Int} (h : RowsL led rvs W H f) (s : ∀ p ∈ led, p ∈ led') : RowsL led' rvs W H f :=
  ⟨h.1, fun j hj => let ⟨v, e, i⟩ := h.2 j hj; ⟨v, e, i.mono s⟩⟩
theorem PlaneL.mono {P : Params} {led led' : Led} {v : Value} {W H : Nat} {f : Nat → Nat → Int} (h : PlaneL P led v W H f) (s : ∀ p ∈ led, p ∈ led') : PlaneL P led' v W H f := by
  obtain ⟨a, d, r, rvs, k, t1, t2, t3, tw, th, e, h1, h2, h3, h4, h5⟩ := h
  exact ⟨a, d, r, rvs, k, t1, t2, t3, tw, th, e, s _ h1, s _ h2, s _ h3, h4.mono s, h5⟩
theorem rowOf_get {W : Nat} {f : Nat → Nat → Int} {i j : Nat} (h : i < W) : (rowOf W f j)[i]? = some (f i j) := by
  unfold rowOf
  rw [List.getElem?_map, List.getElem?_range h]; rfl
theorem rowOf_length {W : Nat} {f : Nat → Nat → Int} {j : Nat} : (rowOf W f j).length = W := by simp [rowOf]

section
variable {prog : Program} {w : World} {A : Around} {E : Value → Shared → Prop} {s : Shared} {h₀ : Heap} {L l : Addr} {m : Str → Option Value} {news : Led}
/-- an item of a list of the ledger's at a place within it -/
theorem itemAt {value slice : PySem.Expr} {vs : List Value} {n : Nat} {k : Int} {u : Tok} {v : Value} {Q : Value → Shared → Prop} (N : News h₀ L s.heap news) (hm : (l, listOf vs.toArray n) ∈ news)
    (h0 : 0 ≤ k) (hhi : k < 2 ^ 63) (hx : vs[k.toNat]? = some v) (h : Q v s)
    (hs : subscripted slice false (.ref l) (.int k u) = operate [.ref l, .int k u] (getItem (.ref l) (.int k u)) := by with_unfolding_all rfl) :
    wpAny (model prog w) A (subscriptTail value slice (.ref l) (.int k u)) Q E s :=
  have hl : s.heap.IsList l vs.toArray := ⟨_, (N _ hm).1, rfl, n, rfl⟩
  tail_any hl.typeIs slot_list_getitem.lookup (wpAny_getItem_list hl h0 hhi (by simpa using hx) h) hs
end
/-- what an int-giving def hands back -/
noncomputable def OutI (x : Int) : Led → Value → Prop := fun tl r => tl = [] ∧ ∃ t, r = .int x t
section
variable {h₀ h' : Heap} {L : Addr} {m : Str → Option Value} {news news' : Led} {s : Shared} {Q : Value → Shared → Prop} {t : Tok} {tk' : Nat}
theorem retI {x y : Int} (hret : ∀ r tl h' tk', Fr h₀ L h' m → News h₀ L h' (tl ++ news) → (∀ p ∈ tl, ∀ q ∈ news, p.1 ≠ q.1) → OutI x tl r → Q r { s with heap := h', toks := tk' })
    (F : Fr h₀ L h' m) (N : News h₀ L h' news') (hs : ∀ p ∈ news, p ∈ news') (e : y = x) : Q (.int y t) { s with heap := h', toks := tk' } := by
  subst e
  exact hret _ [] h' tk' F (newsSub N hs) (fun _ h => nomatch h) ⟨rfl, t, rfl⟩
end
end Nt

namespace Nt

theorem allLtApp {d : Addr} : ∀ {l r : Led}, AllLt d (l ++ r) ↔ AllLt d l ∧ AllLt d r
  | [], r => ⟨fun h => ⟨trivial, h⟩, fun h => h.2⟩
  | p :: l, r => ⟨fun h => ⟨⟨h.1, (allLtApp.mp h.2).1⟩, (allLtApp.mp h.2).2⟩, fun h => ⟨h.1.1, allLtApp.mpr ⟨h.1.2, h.2⟩⟩⟩
theorem allLtNe {d : Addr} {l : Led} (h : AllLt d l) : ∀ p ∈ l, p.1 ≠ d := fun p hp => Nat.ne_of_lt (ktn_ltOf h p hp)
theorem allApp {P : Addr × Obj → Prop} {l r : Led} (h1 : ∀ p ∈ l, P p) (h2 : ∀ p ∈ r, P p) : ∀ p ∈ l ++ r, P p := fun p hp => (List.mem_append.mp hp).elim (h1 p) (h2 p)

/-- the sum of g over a box of a by d -/
noncomputable def boxSum (g : Nat → Nat → Int) (a d : Nat) : Int := ((List.range d).map fun s => ((List.range a).map fun t => g t s).sum).sum
theorem sumSucc (g : Nat → Int) (i : Nat) : ((List.range (i + 1)).map g).sum = ((List.range i).map g).sum + g i := by
  rw [List.range_succ, List.map_append, List.sum_append]; simp
/-- apart: no address of the one is one of the other's -/
def Ap (l r : Led) : Prop := ∀ p ∈ l, ∀ q ∈ r, p.1 ≠ q.1
theorem Ap.nil {r : Led} : Ap [] r := fun _ h => nomatch h
theorem Ap.symm {l r : Led} (h : Ap l r) : Ap r l := fun p hp q hq e => h q hq p hp e.symm
theorem Ap.left {a b r : Led} (h1 : Ap a r) (h2 : Ap b r) : Ap (a ++ b) r := allApp h1 h2
theorem Ap.right {l a b : Led} (h1 : Ap l a) (h2 : Ap l b) : Ap l (a ++ b) := fun p hp q hq => (List.mem_append.mp hq).elim (h1 p hp q) (h2 p hp q)
theorem Ap.consL {p : Addr × Obj} {l r : Led} (h1 : AllLt p.1 r) (h2 : Ap l r) : Ap (p :: l) r := fun x hx q hq => by
  rcases List.mem_cons.mp hx with rfl | hx
  · exact Nat.ne_of_gt (ktn_ltOf h1 q hq)
  · exact h2 x hx q hq
theorem Ap.sub {l r l' r' : Led} (h : Ap l r) (h1 : ∀ p ∈ l', p ∈ l) (h2 : ∀ p ∈ r', p ∈ r) : Ap l' r' := fun p hp q hq => h p (h1 p hp) q (h2 q hq)
theorem offOf {l r : Led} (h : Ap l r) : OwnOff l (r.map (·.1)) := fun p hp b hb => by
  obtain ⟨q, hq, rfl⟩ := List.mem_map.mp hb
  exact h p hp q hq

theorem offCons {p : Addr × Obj} {l : Led} {adr : List Addr} (h1 : ∀ b ∈ adr, p.1 ≠ b) (h2 : OwnOff l adr) : OwnOff (p :: l) adr := fun q hq => by
  rcases List.mem_cons.mp hq with rfl | hq
  · exact h1
  · exact h2 q hq
theorem offBelow {news : Led} {adr : List Addr} {d : Addr} (h : ∀ p ∈ news, p.1 < d) (hb : ∀ b ∈ adr, d ≤ b) : OwnOff news adr := fun p hp b hb' => Nat.ne_of_lt (Nat.lt_of_lt_of_le (h p hp) (hb b hb'))
theorem offLt {news : Led} {adr : List Addr} (h : ∀ b ∈ adr, AllLt b news) : OwnOff news adr := fun p hp b hb => Nat.ne_of_lt (ktn_ltOf (h b hb) p hp)
theorem offNil {adr : List Addr} : OwnOff [] adr := fun _ h => nomatch h
theorem offNone {l : Led} : OwnOff l [] := fun _ _ _ h => nomatch h
theorem leN {a b : Nat} (h : a ≤ b) : a ≤ b := h
theorem rsmall {a b : Int} (h1 : -100000 ≤ a) (h2 : b ≤ 100000) (h3 : a ≤ b) : Builtin.Range.small a b 1 = true := small_one (by omega) (by omega) (by omega) (by omega)
theorem rsize {a b : Int} {n : Nat} (h : b = a + (n : Int)) : Builtin.Range.rangeSize a b 1 = (n : Int) := by rw [rangeSize_one]; split <;> omega
section
variable {prog : Program} {w : World} {A : Around} {E : Value → Shared → Prop} {s : Shared} {env : Env} {h₀ : Heap} {target : Expr} {body : List Stmt} {Q : Flow → Shared → Prop}

/-- the end of a turn -/
def TurnEndX {σ : Type} (h₀ : Heap) (L : Addr) (Ld : σ → Led) (ps : σ → List (Str × Value)) (Inv : σ → Led → Prop) (c : σ) (tl cold₀ own : Led) (s₁ s₂ : Shared) : Prop :=
  ∃ h' tk m' c' add news', s₂ = { s₁ with heap := h', toks := tk } ∧ Fr h₀ L h' m' ∧ News h₀ L h' news' ∧ (∀ p ∈ Ld c' ++ (add ++ (tl ++ (cold₀ ++ own))), p ∈ news') ∧ (∀ p ∈ ps c', m' p.1 = some p.2) ∧ Ap add (Ld c ++ (tl ++ (cold₀ ++ own))) ∧ Inv c' (add ++ tl)
def TurnPostX {σ : Type} (h₀ : Heap) (L : Addr) (Ld : σ → Led) (ps : σ → List (Str × Value)) (Inv : σ → Led → Prop) (c : σ) (tl cold₀ own : Led) (s₁ : Shared) (Q : Flow → Shared → Prop) (f : Flow) (s₂ : Shared) : Prop :=
  match f with
  | .ret v => Q (.ret v) s₂
  | .brk => Q .next s₂
  | _ => TurnEndX h₀ L Ld ps Inv c tl cold₀ own s₁ s₂
theorem TurnEndX.intro {σ : Type} {h₀ : Heap} {L : Addr} {Ld : σ → Led} {ps : σ → List (Str × Value)} {Inv : σ → Led → Prop} {c : σ} {tl cold₀ own : Led} {s₁ : Shared} {h' : Heap} {tk : Nat} {m' : Str → Option Value} {news' : Led} (c' : σ) (add : Led)
    (F : Fr h₀ L h' m') (N : News h₀ L h' news') (hs : ∀ p ∈ Ld c' ++ (add ++ (tl ++ (cold₀ ++ own))), p ∈ news') (hp : ∀ p ∈ ps c', m' p.1 = some p.2) (ha : Ap add (Ld c ++ (tl ++ (cold₀ ++ own)))) (hI : Inv c' (add ++ tl)) :
    TurnEndX h₀ L Ld ps Inv c tl cold₀ own s₁ { s₁ with heap := h', toks := tk } := ⟨h', tk, m', c', add, news', rfl, F, N, hs, hp, ha, hI⟩

theorem kstB_all {m₁ : Str → Option Value} {ps : List (Str × Value)} (h : ∀ p ∈ ps, m₁ p.1 = some p.2) : kstB m₁ ps = m₁ := funext fun _ => kstB_eq h fun _ => rfl

set_option maxHeartbeats 1600000 in
theorem nt_loop {σ : Type} {I : Addr} {fp wr : List Addr} {n : Nat} {P Md : Nat → Value → Heap → Prop} {St : Nat → Heap → Prop} {m₀ : Str → Option Value} {news : Led} {s₀ : Shared} {hp₀ : Heap}
    (Ld : σ → Led) (cold₀ : Led) (ps : σ → List (Str × Value)) (Inv : Nat → σ → Led → Prop) (adr : List Addr) (c₀ : σ)
    (W : KTurns prog w A target I fp wr n P Md St) (hLf : env.locals ∉ fp) (hwr : ∀ b ∈ wr, h₀.get? b = none) (hob : ∀ i h, St i h → ∀ b ∈ wr, ∃ o, h.get? b = some o) (hst : St 0 hp₀)
    (hfa : ∀ b ∈ fp, b ∉ adr) (hcw : ∀ p ∈ cold₀, p.1 ∉ wr) (F : Fr h₀ env.locals hp₀ m₀) (N : News h₀ env.locals hp₀ news) (hn : ∀ p ∈ Ld c₀ ++ cold₀, p ∈ news) (hadr : ∀ c, (Ld c).map (·.1) = adr) (hoff : OwnOff cold₀ adr) (hk : ∀ p ∈ ps c₀, m₀ p.1 = some p.2) (hI : Inv 0 c₀ [])
    (turn : ∀ i v c tl u h tk own, i < n → P i v h → Inv i c tl → OwnOff (tl ++ (cold₀ ++ own)) adr → Ap tl cold₀ → Fr h₀ env.locals h (kstB u (ps c)) → News h₀ env.locals h (Ld c ++ (tl ++ (cold₀ ++ own))) →
      wpAny (model prog w) A (assign target env v) (fun _ s₃ => wpAny (model prog w) A (execs body env) (TurnPostX h₀ env.locals Ld ps (Inv (i + 1)) c tl cold₀ own { s₀ with heap := h, toks := tk } Q) E s₃) E { s₀ with heap := h, toks := tk })
    (done : ∀ c tl u h tk, Inv n c tl → OwnOff (tl ++ cold₀) adr → Ap tl cold₀ → Fr h₀ env.locals h (kstB u (ps c)) → News h₀ env.locals h (Ld c ++ (tl ++ cold₀)) → Q .next { s₀ with heap := h, toks := tk }) {tk0 : Nat} :
    TurnsAt prog w A h₀ env target body Q E (.ref I) { s₀ with heap := hp₀, toks := tk0 } := by
  let J : Nat → (Str → Option Value) → Led → Prop := fun i m nx => ∃ c tl, nx = Ld c ++ (tl ++ cold₀) ∧ (∀ p ∈ ps c, m p.1 = some p.2) ∧ OwnOff tl adr ∧ Ap tl cold₀ ∧ Inv i c tl
  have hwf : ∀ b ∈ wr, b ∉ adr := fun b hb => hfa b (W.sub b hb)
  have hLw : ∀ c, ∀ p ∈ Ld c, p.1 ∉ wr := fun c p hp hb => hwf _ hb (hadr c ▸ List.mem_map.mpr ⟨p, hp, rfl⟩)
  refine ⟨I, fp, wr, n, P, Md, St, m₀, Ld c₀ ++ ([] ++ cold₀), J, rfl, W, hLf, hwr, ?_, hst, F, fun p hp => N p (hn p hp), ⟨c₀, [], rfl, hk, (fun _ h => nomatch h), Ap.nil, hI⟩, ?_, ?_⟩
  · exact allApp (hLw c₀) (allApp (fun _ h => nomatch h) hcw)
  · rintro i v m₁ nx h₁ tk₁ own hi hP ⟨c, tl, rfl, h1, h2, h3, h4⟩ hoff₁ hown hget hall hst₁ F₁ N₁
    have oOwn : OwnOff own adr := fun p hp b hb e => hfa _ (hown p hp) (e ▸ hb)
    have oAll : OwnOff (tl ++ (cold₀ ++ own)) adr := allApp h2 (allApp hoff oOwn)
    have F₂ : Fr h₀ env.locals h₁ (kstB m₁ (ps c)) := by rw [kstB_all h1]; exact F₁
    have N₂ : News h₀ env.locals h₁ (Ld c ++ (tl ++ (cold₀ ++ own))) := fun p hp => N₁ p (by
      simp only [List.mem_append] at hp ⊢
      rcases hp with h | h | h | h
      · exact .inr (.inl h)
      · exact .inr (.inr (.inl h))
      · exact .inr (.inr (.inr h))
      · exact .inl h)
    refine wpAny_mono (turn i v c tl m₁ h₁ tk₁ own hi hP h4 oAll h3 F₂ N₂) (fun _ s₃ h₃ => wpAny_mono h₃ (fun f s₄ h₄ => ?_) fun _ _ e => e) fun _ _ e => e
    have fin : TurnEndX h₀ env.locals Ld ps (Inv (i + 1)) c tl cold₀ own { s₀ with heap := h₁, toks := tk₁ } s₄ → LoopStepU h₀ env.locals wr own (J (i + 1)) { s₀ with heap := h₁, toks := tk₁ } .next s₄ := by
      rintro ⟨h', tk, m', c', add, news', rfl, F', N', hs, hps, ha, hI'⟩
      have wrOwn : ∀ b ∈ wr, ∃ o, (b, o) ∈ own := fun b hb => by
        obtain ⟨o, ho⟩ := hob _ _ hst₁ b hb
        exact ⟨o, hall b (W.sub b hb) (hwr b hb) o ho⟩
      refine ⟨rfl, h', tk, m', Ld c' ++ ((add ++ tl) ++ cold₀), rfl, F', fun p hp => N' p (hs p ?_), ?_, c', add ++ tl, rfl, hps, ?_, ?_, hI'⟩
      · simp only [List.mem_append] at hp ⊢
        rcases hp with h | h | (h | h) | h
        · exact .inr (.inr (.inr (.inr h)))
        · exact .inl h
        · exact .inr (.inl h)
        · exact .inr (.inr (.inl h))
        · exact .inr (.inr (.inr (.inl h)))
      · refine allApp (hLw c') (allApp (allApp (fun p hp hb => ?_) (fun p hp => hoff₁ p ?_)) hcw)
        · obtain ⟨o, ho⟩ := wrOwn _ hb
          exact ha p hp (p.1, o) (by simp only [List.mem_append]; exact .inr (.inr (.inr ho))) rfl
        · simp only [List.mem_append]; exact .inr (.inl hp)
      · refine allApp (fun p hp b hb => ?_) h2
        rw [← hadr c] at hb
        obtain ⟨q, hq, rfl⟩ := List.mem_map.mp hb
        exact ha p hp q (List.mem_append.mpr (.inl hq))
      · exact Ap.left (fun p hp q hq => ha p hp q (by simp only [List.mem_append]; exact .inr (.inr (.inl hq)))) h3
    cases f with
    | ret v => exact .ret h₄
    | brk => exact .brk h₄
    | next => exact .next (fin h₄)
    | cont => exact .cont (fin h₄)
  · rintro h' tk m' news' F' N' _ ⟨c, tl, rfl, h1, h2, h3, h4⟩
    refine done c tl m' h' tk h4 (allApp h2 hoff) h3 (by rw [kstB_all h1]; exact F') N'

set_option maxHeartbeats 1600000 in
/-- over a range by ones -/
theorem nt_range {σ : Type} {r : Addr} {a₀ b₀ : Int} {t₀ u₀ v₀ : Tok} {n : Nat} {m₀ : Str → Option Value} {news : Led}
    (Ld : σ → Led) (cold₀ : Led) (ps : σ → List (Str × Value)) (Inv : Nat → σ → Led → Prop) (adr : List Addr) (c₀ : σ)
    (hgo : ∀ it v, letOwnedTupleGo target it v = pure ()) (hh : A.handled = none) (hr : IsRange s.heap r a₀ b₀ 1 t₀ u₀ v₀) (hb : b₀ = a₀ + (n : Int)) (hlo : -100000 ≤ a₀) (hhi : b₀ ≤ 100000)
    (F : Fr h₀ env.locals s.heap m₀) (N : News h₀ env.locals s.heap news) (hn : ∀ p ∈ Ld c₀ ++ cold₀, p ∈ news) (hadr : ∀ c, (Ld c).map (·.1) = adr) (hoff : OwnOff cold₀ adr) (hk : ∀ p ∈ ps c₀, m₀ p.1 = some p.2) (hI : Inv 0 c₀ [])
    (turn : ∀ i t c tl u h tk own, i < n → Inv i c tl → OwnOff (tl ++ (cold₀ ++ own)) adr → Ap tl cold₀ → Fr h₀ env.locals h (kstB u (ps c)) → News h₀ env.locals h (Ld c ++ (tl ++ (cold₀ ++ own))) →
      wpAny (model prog w) A (assign target env (.int (a₀ + (i : Int)) t)) (fun _ s₃ => wpAny (model prog w) A (execs body env) (TurnPostX h₀ env.locals Ld ps (Inv (i + 1)) c tl cold₀ own { s with heap := h, toks := tk } Q) E s₃) E { s with heap := h, toks := tk })
    (done : ∀ c tl u h tk, Inv n c tl → OwnOff (tl ++ cold₀) adr → Ap tl cold₀ → Fr h₀ env.locals h (kstB u (ps c)) → News h₀ env.locals h (Ld c ++ (tl ++ cold₀)) → Q .next { s with heap := h, toks := tk }) :
    wpAny (model prog w) A (pyIter (.ref r)) (fun it s₂ => TurnsAt prog w A h₀ env target body Q E it s₂) E s := by
  have hsz := rsize hb
  refine wpAny_pyIter_range hr (rsmall hlo hhi (by omega)) ?_
  have W := LCg.range_walks (prog := prog) (w := w) (I := s.heap.objs.size) hh a₀ n
  refine nt_loop (s₀ := s) (tk0 := s.toks) Ld cold₀ ps Inv adr c₀ (KTurns.ofWalks W fun i v s Q E _ q => wpAny_of_eq (hgo _ _) q) ?_ ?_ (fun i h st b hb => ?_) (by show IsRangeIter _ _ _ _ _; rw [hsz]; simpa using Heap.get?_push_size _ rfl) ?_ ?_ (F.push _) (news := news) (fun p hp => ⟨Heap.get?_push_of_some _ (N p hp).1, (N p hp).2⟩) hn hadr hoff hk hI ?_ done
  · intro hm
    exact absurd F.ns.lt ((List.mem_singleton.mp hm) ▸ Nat.lt_irrefl _)
  · intro b hb
    rw [List.mem_singleton.mp hb]
    exact next_is_new F
  · rw [List.mem_singleton.mp hb]
    exact ⟨_, st⟩
  · intro b hb hm
    rw [List.mem_singleton.mp hb, ← hadr c₀] at hm
    obtain ⟨q, hq, e⟩ := List.mem_map.mp hm
    exact absurd (Heap.lt_size (N q (hn q (List.mem_append.mpr (.inl hq)))).1) (e ▸ Nat.lt_irrefl _)
  · intro p hp hm
    exact absurd (Heap.lt_size (N p (hn p (List.mem_append.mpr (.inr hp)))).1) ((List.mem_singleton.mp hm) ▸ Nat.lt_irrefl _)
  · rintro i v c tl u h tk own hi ⟨t, rfl⟩ hI' ho ha F' N'
    exact turn i t c tl u h tk own hi hI' ho ha F' N'

set_option maxHeartbeats 1600000 in
/-- over a list of the ledger's cold part -/
theorem nt_list {σ : Type} {ax : Addr} {vs : List Value} {k : Nat} {m₀ : Str → Option Value} {news : Led}
    (Ld : σ → Led) (cold₀ : Led) (ps : σ → List (Str × Value)) (Inv : Nat → σ → Led → Prop) (adr : List Addr) (c₀ : σ)
    (hh : A.handled = none) (hm : (ax, listOf vs.toArray k) ∈ cold₀)
    (F : Fr h₀ env.locals s.heap m₀) (N : News h₀ env.locals s.heap news) (hn : ∀ p ∈ Ld c₀ ++ cold₀, p ∈ news) (hadr : ∀ c, (Ld c).map (·.1) = adr) (hoff : OwnOff cold₀ adr) (hk : ∀ p ∈ ps c₀, m₀ p.1 = some p.2) (hI : Inv 0 c₀ [])
    (turn : ∀ i v c tl u h tk own, vs[i]? = some v → Inv i c tl → OwnOff (tl ++ (cold₀ ++ own)) adr → Ap tl cold₀ → Fr h₀ env.locals h (kstB u (ps c)) → News h₀ env.locals h (Ld c ++ (tl ++ (cold₀ ++ own))) →
      wpAny (model prog w) A (assign target env v) (fun _ s₃ => wpAny (model prog w) A (execs body env) (TurnPostX h₀ env.locals Ld ps (Inv (i + 1)) c tl cold₀ own { s with heap := h, toks := tk } Q) E s₃) E { s with heap := h, toks := tk })
    (done : ∀ c tl u h tk, Inv vs.length c tl → OwnOff (tl ++ cold₀) adr → Ap tl cold₀ → Fr h₀ env.locals h (kstB u (ps c)) → News h₀ env.locals h (Ld c ++ (tl ++ cold₀)) → Q .next { s with heap := h, toks := tk }) :
    wpAny (model prog w) A (pyIter (.ref ax)) (fun it s₂ => TurnsAt prog w A h₀ env target body Q E it s₂) E s := by
  have hax := N _ (hn _ (List.mem_append.mpr (.inr hm)))
  have hl : s.heap.IsList ax vs.toArray := ⟨_, hax.1, rfl, k, rfl⟩
  have hlt : ax < s.heap.objs.size := Heap.lt_size hax.1
  have hne : ax ≠ s.heap.objs.size := Nat.ne_of_lt hlt
  refine wpAny_pyIter_list hl ?_
  have W := Walks.list (prog := prog) (w := w) hh s.heap.objs.size ax hne vs.toArray
  have hlen : vs.toArray.size = vs.length := by simp
  rw [hlen] at W
  refine nt_loop (s₀ := s) (tk0 := s.toks) Ld cold₀ ps Inv adr c₀ (KTurns.ofWalks W fun i v s Q E st q => letGo_listiter st.1 q) ?_ ?_ (fun i h st b hb => ?_) ⟨⟨_, Heap.get?_push_size _ rfl, rfl, rfl⟩, hl.at fun o e => Heap.get?_push_of_some _ e⟩ ?_ ?_ (F.push _) (news := news) (fun p hp => ⟨Heap.get?_push_of_some _ (N p hp).1, (N p hp).2⟩) hn hadr hoff hk hI ?_ done
  · intro hI
    rcases List.mem_cons.mp hI with e | hI
    · exact absurd F.ns.lt (e ▸ Nat.lt_irrefl _)
    · exact hax.2.1 (List.mem_singleton.mp hI).symm
  · intro b hb
    rw [List.mem_singleton.mp hb]
    exact next_is_new F
  · rw [List.mem_singleton.mp hb]
    obtain ⟨⟨o, ho, _⟩, _⟩ := st
    exact ⟨o, ho⟩
  · intro b hb hm'
    rcases List.mem_cons.mp hb with e | hb
    · rw [e, ← hadr c₀] at hm'
      obtain ⟨q, hq, e'⟩ := List.mem_map.mp hm'
      exact absurd (Heap.lt_size (N q (hn q (List.mem_append.mpr (.inl hq)))).1) (e' ▸ Nat.lt_irrefl _)
    · exact hoff _ hm b hm' (List.mem_singleton.mp hb).symm
  · intro p hp hm'
    exact absurd (Heap.lt_size (N p (hn p (List.mem_append.mpr (.inr hp)))).1) ((List.mem_singleton.mp hm') ▸ Nat.lt_irrefl _)
  · rintro i v c tl u h tk own hi hP hI' ho ha F' N'
    exact turn i v c tl u h tk own (by simpa using hP) hI' ho ha F' N'
end
end Nt

namespace Nt

theorem off3Of {I C D : Addr} {l : Led} (h : ∀ p ∈ l, p.1 ≠ I ∧ p.1 ≠ C ∧ p.1 ≠ D) : LCg.Off3 I C D l := LCg.Off3.of h
theorem off1All {D : Addr} : ∀ {l : Led}, LCg.Off1 D l → ∀ p ∈ l, p.1 ≠ D
  | [], _, _, h => nomatch h
  | _ :: _, x, p, h => by
    rcases List.mem_cons.mp h with rfl | h
    · exact x.1
    · exact off1All x.2 p h

section
variable {prog : Program} {w : World} {A : Around} {E : Value → Shared → Prop} {s : Shared} {h₀ : Heap} {L : Addr} {m : Str → Option Value} {env : Env} {elt : Expr} {x : Str} {scope : Scope} {cl : List (Str × Addr)}

/-- an element is reckoned -/
def EltEndX {σ : Type} (h₀ : Heap) (L : Addr) (m : Str → Option Value) (Ld : σ → Led) (Inv : List Value → σ → Led → Prop) (ys : List Value) (c : σ) (tl cold₀ own : Led) (s₁ : Shared) (y : Value) (s₂ : Shared) : Prop :=
  ∃ h' tk c' add news', s₂ = { s₁ with heap := h', toks := tk } ∧ Fr h₀ L h' m ∧ News h₀ L h' news' ∧ (∀ p ∈ Ld c' ++ (add ++ (tl ++ (cold₀ ++ own))), p ∈ news') ∧ Ap add (Ld c ++ (tl ++ (cold₀ ++ own))) ∧ Inv (ys ++ [y]) c' (add ++ tl)
theorem EltEndX.intro {σ : Type} {Ld : σ → Led} {Inv : List Value → σ → Led → Prop} {ys : List Value} {c : σ} {tl cold₀ own : Led} {s₁ : Shared} {y : Value} {h' : Heap} {tk : Nat} {news' : Led} (c' : σ) (add : Led)
    (F : Fr h₀ L h' m) (N : News h₀ L h' news') (hs : ∀ p ∈ Ld c' ++ (add ++ (tl ++ (cold₀ ++ own))), p ∈ news') (ha : Ap add (Ld c ++ (tl ++ (cold₀ ++ own)))) (hI : Inv (ys ++ [y]) c' (add ++ tl)) :
    EltEndX h₀ L m Ld Inv ys c tl cold₀ own s₁ y { s₁ with heap := h', toks := tk } := ⟨h', tk, c', add, news', rfl, F, N, hs, ha, hI⟩

set_option maxHeartbeats 1600000 in
theorem nt_comp {σ : Type} {S : Led → Prop} {P : Nat → Value → Prop} {Fin : List Value → Led → Prop} {n : Nat} (Ld : σ → Led) (cold₀ : Led) (Inv : Nat → List Value → σ → Led → Prop) (adr : List Addr) (c₀ : σ)
    (hadr : ∀ c, (Ld c).map (·.1) = adr) (hoff : OwnOff cold₀ adr) (hS : ∀ c tl, S (Ld c ++ (tl ++ cold₀))) (hI : Inv 0 [] c₀ [])
    (turn : ∀ i v ys c tl I oI C oC D m₂ h tk (E' : Value → Shared → Prop), i < n → ys.length = i → P i v → Inv i ys c tl → Ap tl cold₀ → LCg.NsObj oC m₂ → m₂ x = some v → Fr h₀ L h m →
      News h₀ L h (Ld c ++ (tl ++ (cold₀ ++ [(I, oI), (C, oC), (D, LCg.lst ys)]))) → OwnOff (tl ++ (cold₀ ++ [(I, oI), (C, oC), (D, LCg.lst ys)])) adr →
      wpAny (model prog w) A (eval elt (compEnvC scope cl C env)) (EltEndX h₀ L m Ld (Inv (i + 1)) ys c tl cold₀ [(I, oI), (C, oC), (D, LCg.lst ys)] { s with heap := h, toks := tk }) E' { s with heap := h, toks := tk })
    (fin : ∀ ys c tl, ys.length = n → Inv n ys c tl → OwnOff (tl ++ cold₀) adr → Ap tl cold₀ → Fin ys (Ld c ++ (tl ++ cold₀))) :
    LCg.CompRest prog w A h₀ L m env elt x scope cl s S P Fin n 0 [] (Ld c₀ ++ ([] ++ cold₀)) := by
  have go : ∀ k i ys c tl, i + k = n → ys.length = i → Inv i ys c tl → OwnOff tl adr → Ap tl cold₀ → LCg.CompRest prog w A h₀ L m env elt x scope cl s S P Fin k i ys (Ld c ++ (tl ++ cold₀)) := by
    intro k
    induction k with
    | zero =>
      intro i ys c tl hi hy hI ho ha
      exact LCg.CompRest.zero (fin ys c tl (by omega) ((by omega : i = n) ▸ hI) (allApp ho hoff) ha)
    | succ k ih =>
      intro i ys c tl hi hy hI ho ha
      refine LCg.CompRest.succ fun v I oI C oC D m₂ h tk E' hP hC hx F N off hne => ?_
      have off3 := off.mem
      have oOwn : OwnOff [(I, oI), (C, oC), (D, LCg.lst ys)] adr := by
        intro p hp b hb e
        rw [← hadr c] at hb
        obtain ⟨q, hq, rfl⟩ := List.mem_map.mp hb
        have z := off3 q (List.mem_append.mpr (.inl hq))
        rcases List.mem_cons.mp hp with rfl | hp
        · exact z.1 e.symm
        rcases List.mem_cons.mp hp with rfl | hp
        · exact z.2.1 e.symm
        · rw [List.mem_singleton.mp hp] at e; exact z.2.2 e.symm
      refine wpAny_mono (turn i v ys c tl I oI C oC D m₂ h tk E' (by omega) hy hP hI ha hC hx F (fun p hp => N p ?_) (allApp ho (allApp hoff oOwn))) (fun y s₂ hz => ?_) fun _ _ e => e
      · simp only [List.mem_append, List.mem_cons] at hp ⊢
        rcases hp with h | h | h | h | h | h | h
        · exact .inr (.inr (.inr (.inl h)))
        · exact .inr (.inr (.inr (.inr (.inl h))))
        · exact .inr (.inr (.inr (.inr (.inr h))))
        · exact .inl h
        · exact .inr (.inl h)
        · exact .inr (.inr (.inl h))
        · exact nomatch h
      · obtain ⟨h', tk', c', add, news', rfl, F', N', hs, hap, hI'⟩ := hz
        refine LCg.CompEnd.intro F' N' (Ld c' ++ ((add ++ tl) ++ cold₀)) (fun p hp => hs p ?_) (off3Of fun p hp => ?_) (hS _ _) (ih (i + 1) (ys ++ [y]) c' (add ++ tl) (by omega) (by rw [List.length_append, List.length_singleton, hy]) hI' (allApp (fun p hp b hb => ?_) ho) (Ap.left (fun p hp q hq => hap p hp q ?_) ha))
        · simp only [List.mem_append, List.mem_cons] at hp ⊢
          rcases hp with h | h | h | h | (h | h) | h
          · exact .inr (.inr (.inr (.inr (.inl h))))
          · exact .inr (.inr (.inr (.inr (.inr (.inl h)))))
          · exact .inr (.inr (.inr (.inr (.inr (.inr (.inl h))))))
          · exact .inl h
          · exact .inr (.inl h)
          · exact .inr (.inr (.inl h))
          · exact .inr (.inr (.inr (.inl h)))
        · rcases List.mem_append.mp hp with h | h
          · have h1 : p.1 ∈ (Ld c').map (·.1) := List.mem_map.mpr ⟨p, h, rfl⟩
            rw [hadr c', ← hadr c] at h1
            obtain ⟨q, hq, e⟩ := List.mem_map.mp h1
            rw [← e]
            exact off3 q (List.mem_append.mpr (.inl hq))
          · rcases List.mem_append.mp h with h | h
            · rcases List.mem_append.mp h with h | h
              · have own : ∀ q ∈ [(I, oI), (C, oC), (D, LCg.lst ys)], p.1 ≠ q.1 := fun q hq => hap p h q (by simp only [List.mem_append]; exact .inr (.inr (.inr hq)))
                exact ⟨own (I, oI) (.head _), own (C, oC) (.tail _ (.head _)), own (D, LCg.lst ys) (.tail _ (.tail _ (.head _)))⟩
              · exact off3 p (List.mem_append.mpr (.inr (List.mem_append.mpr (.inl h))))
            · exact off3 p (List.mem_append.mpr (.inr (List.mem_append.mpr (.inr h))))
        · rw [← hadr c] at hb
          obtain ⟨q, hq, rfl⟩ := List.mem_map.mp hb
          exact hap p hp q (List.mem_append.mpr (.inl hq))
        · simp only [List.mem_append]; exact .inr (.inr (.inl hq))
  exact go n 0 [] c₀ [] (Nat.zero_add n) rfl hI (fun _ h => nomatch h) Ap.nil

/-- over a range by ones: the comprehension's source is at hand -/
theorem nt_compRange {σ : Type} {r : Addr} {a b : Int} {t u v : Tok} {n : Nat} {news : Led} {Fin : Shared → List Value → Led → Prop} (Ld : σ → Led) (cold₀ : Led) (Inv : Nat → List Value → σ → Led → Prop) (adr : List Addr) (c₀ : σ)
    (hh : A.handled = none) (F : Fr h₀ L s.heap m) (N : News h₀ L s.heap news) (hr : IsRange s.heap r a b 1 t u v) (hb : b = a + (n : Int)) (hlo : -100000 ≤ a) (hhi : b ≤ 100000)
    (hsub : ∀ p ∈ Ld c₀ ++ cold₀, p ∈ news) (hadr : ∀ c, (Ld c).map (·.1) = adr) (hoff : OwnOff cold₀ adr) (hI : Inv 0 [] c₀ [])
    (turn : ∀ g i t ys c tl I oI C oC D m₂ h tk (E' : Value → Shared → Prop), i < n → ys.length = i → Inv i ys c tl → Ap tl cold₀ → LCg.NsObj oC m₂ → m₂ x = some (.int (a + (i : Int)) t) → Fr h₀ L h m →
      News h₀ L h (Ld c ++ (tl ++ (cold₀ ++ [(I, oI), (C, oC), (D, LCg.lst ys)]))) → OwnOff (tl ++ (cold₀ ++ [(I, oI), (C, oC), (D, LCg.lst ys)])) adr →
      wpAny (model prog w) A (eval elt (compEnvC scope cl C env)) (EltEndX h₀ L m Ld (Inv (i + 1)) ys c tl cold₀ [(I, oI), (C, oC), (D, LCg.lst ys)] { { s with heap := g } with heap := h, toks := tk }) E' { { s with heap := g } with heap := h, toks := tk })
    (fin : ∀ g ys c tl, ys.length = n → Inv n ys c tl → OwnOff (tl ++ cold₀) adr → Ap tl cold₀ → Fin { s with heap := g } ys (Ld c ++ (tl ++ cold₀))) :
    LCg.CompSrc prog w A h₀ L m env elt x scope cl Fin (.ref r) s :=
  LCg.CompSrc.range (news := Ld c₀ ++ ([] ++ cold₀)) hh F (newsSub N hsub) hr (rsmall hlo hhi (by omega)) (rsize hb) (by rw [sizeLine_eq]; omega) fun g =>
    nt_comp Ld cold₀ Inv adr c₀ hadr hoff (fun _ _ => trivial) hI (fun i v ys c tl I oI C oC D m₂ h tk E' hi hy hP hI' ha hC hx F' N' ho => by
      obtain ⟨t, rfl⟩ := hP
      exact turn g i t ys c tl I oI C oC D m₂ h tk E' hi hy hI' ha hC hx F' N' ho) (fin g)

/-- over a list of the ledger's cold part -/
theorem nt_compList {σ : Type} {ax : Addr} {vs : List Value} {k : Nat} {news : Led} {Fin : Shared → List Value → Led → Prop} (Ld : σ → Led) (cold₀ : Led) (Inv : Nat → List Value → σ → Led → Prop) (adr : List Addr) (c₀ : σ)
    (hh : A.handled = none) (F : Fr h₀ L s.heap m) (N : News h₀ L s.heap news) (hm : (ax, listOf vs.toArray k) ∈ cold₀) (hsz : vs.length ≤ sizeLine)
    (hsub : ∀ p ∈ Ld c₀ ++ cold₀, p ∈ news) (hadr : ∀ c, (Ld c).map (·.1) = adr) (hoff : OwnOff cold₀ adr) (hI : Inv 0 [] c₀ [])
    (turn : ∀ g i v ys c tl I oI C oC D m₂ h tk (E' : Value → Shared → Prop), i < vs.length → ys.length = i → vs[i]? = some v → Inv i ys c tl → Ap tl cold₀ → LCg.NsObj oC m₂ → m₂ x = some v → Fr h₀ L h m →
      News h₀ L h (Ld c ++ (tl ++ (cold₀ ++ [(I, oI), (C, oC), (D, LCg.lst ys)]))) → OwnOff (tl ++ (cold₀ ++ [(I, oI), (C, oC), (D, LCg.lst ys)])) adr →
      wpAny (model prog w) A (eval elt (compEnvC scope cl C env)) (EltEndX h₀ L m Ld (Inv (i + 1)) ys c tl cold₀ [(I, oI), (C, oC), (D, LCg.lst ys)] { { s with heap := g } with heap := h, toks := tk }) E' { { s with heap := g } with heap := h, toks := tk })
    (fin : ∀ g ys c tl, ys.length = vs.length → Inv vs.length ys c tl → OwnOff (tl ++ cold₀) adr → Ap tl cold₀ → Fin { s with heap := g } ys (Ld c ++ (tl ++ cold₀))) :
    LCg.CompSrc prog w A h₀ L m env elt x scope cl Fin (.ref ax) s := by
  have e : vs.toArray.size = vs.length := by simp
  refine LCg.CompSrc.ledger (news := Ld c₀ ++ ([] ++ cold₀)) hh F (newsSub N hsub) (List.mem_append.mpr (.inr hm)) (by rw [e]; exact hsz) fun g => ?_
  rw [e]
  refine nt_comp Ld cold₀ Inv adr c₀ hadr hoff (fun c tl => .inr ⟨_, List.mem_append.mpr (.inr (List.mem_append.mpr (.inr hm))), rfl, _, rfl⟩) hI (fun i v ys c tl I oI C oC D m₂ h tk E' hi hy hP hI' ha hC hx F' N' ho => ?_) (fin g)
  exact turn g i v ys c tl I oI C oC D m₂ h tk E' hi hy (by simpa using hP) hI' ha hC hx F' N' ho

/-- an int element is reckoned -/
def EltInt (h₀ : Heap) (L : Addr) (m : Str → Option Value) (n : Int) (led : Led) (s₁ : Shared) (y : Value) (s₂ : Shared) : Prop :=
  ∃ h' tk t news', s₂ = { s₁ with heap := h', toks := tk } ∧ y = .int n t ∧ Fr h₀ L h' m ∧ News h₀ L h' news' ∧ ∀ p ∈ led, p ∈ news'
theorem EltInt.intro {n n' : Int} {led news' : Led} {s₁ : Shared} {h' : Heap} {tk t : Nat} (F : Fr h₀ L h' m) (N : News h₀ L h' news') (hs : ∀ p ∈ led, p ∈ news') (e : n' = n) : EltInt h₀ L m n led s₁ (.int n' t) { s₁ with heap := h', toks := tk } :=
  ⟨h', tk, t, news', rfl, by rw [e], F, N, hs⟩
theorem intsSnoc {vs : List Value} {ns : List Int} (h : IntsAre vs ns) (n : Int) (t : Tok) : IntsAre (vs ++ [.int n t]) (ns ++ [n]) := by
  induction h with
  | nil => exact .cons n t .nil
  | cons k u _ ih => exact .cons k u ih
theorem rangeMapSucc {α : Type} (g : Nat → α) (i : Nat) : (List.range (i + 1)).map g = (List.range i).map g ++ [g i] := by rw [List.range_succ, List.map_append]; rfl

theorem nt_compInts {r : Addr} {a b : Int} {t u v : Tok} {n : Nat} {news : Led} {Fin : Shared → List Value → Led → Prop} (g : Nat → Int)
    (hh : A.handled = none) (F : Fr h₀ L s.heap m) (N : News h₀ L s.heap news) (hr : IsRange s.heap r a b 1 t u v) (hb : b = a + (n : Int)) (hlo : -100000 ≤ a) (hhi : b ≤ 100000)
    (turn : ∀ g' i t ys I oI C oC D m₂ h tk (E' : Value → Shared → Prop), i < n → LCg.NsObj oC m₂ → m₂ x = some (.int (a + (i : Int)) t) → Fr h₀ L h m → News h₀ L h (news ++ [(I, oI), (C, oC), (D, LCg.lst ys)]) →
      wpAny (model prog w) A (eval elt (compEnvC scope cl C env)) (EltInt h₀ L m (g i) (news ++ [(I, oI), (C, oC), (D, LCg.lst ys)]) { { s with heap := g' } with heap := h, toks := tk }) E' { { s with heap := g' } with heap := h, toks := tk })
    (fin : ∀ g' ys, IntsAre ys ((List.range n).map g) → Fin { s with heap := g' } ys news) :
    LCg.CompSrc prog w A h₀ L m env elt x scope cl Fin (.ref r) s := by
  refine nt_compRange (σ := Unit) (fun _ => []) news (fun i ys _ add => add = [] ∧ IntsAre ys ((List.range i).map g)) [] () hh F N hr hb hlo hhi (fun p hp => hp) (fun _ => rfl) (fun _ _ _ h => nomatch h) ⟨rfl, .nil⟩ ?_ ?_
  · rintro g' i t ys c tl I oI C oC D m₂ h tk E' hi hy ⟨rfl, hI⟩ _ hC hx F' N' _
    refine wpAny_mono (turn g' i t ys I oI C oC D m₂ h tk E' hi hC hx F' N') (fun y s₂ hz => ?_) fun _ _ e => e
    obtain ⟨h', tk', t', news', rfl, rfl, F2, N2, hs⟩ := hz
    exact EltEndX.intro () [] F2 N2 hs Ap.nil ⟨rfl, by rw [rangeMapSucc]; exact intsSnoc hI _ _⟩
  · rintro g' ys c tl hy ⟨rfl, hI⟩ _ _
    exact fin g' ys hI

theorem nt_compIntsL {ax : Addr} {vs : List Value} {k : Nat} {news : Led} {Fin : Shared → List Value → Led → Prop} (g : Nat → Int)
    (hh : A.handled = none) (F : Fr h₀ L s.heap m) (N : News h₀ L s.heap news) (hm : (ax, listOf vs.toArray k) ∈ news) (hsz : vs.length ≤ 100000)
    (turn : ∀ g' i v ys I oI C oC D m₂ h tk (E' : Value → Shared → Prop), i < vs.length → vs[i]? = some v → LCg.NsObj oC m₂ → m₂ x = some v → Fr h₀ L h m → News h₀ L h (news ++ [(I, oI), (C, oC), (D, LCg.lst ys)]) →
      wpAny (model prog w) A (eval elt (compEnvC scope cl C env)) (EltInt h₀ L m (g i) (news ++ [(I, oI), (C, oC), (D, LCg.lst ys)]) { { s with heap := g' } with heap := h, toks := tk }) E' { { s with heap := g' } with heap := h, toks := tk })
    (fin : ∀ g' ys, IntsAre ys ((List.range vs.length).map g) → Fin { s with heap := g' } ys news) :
    LCg.CompSrc prog w A h₀ L m env elt x scope cl Fin (.ref ax) s := by
  refine nt_compList (σ := Unit) (fun _ => []) news (fun i ys _ add => add = [] ∧ IntsAre ys ((List.range i).map g)) [] () hh F N hm (by rw [sizeLine_eq]; omega) (fun p hp => hp) (fun _ => rfl) (fun _ _ _ h => nomatch h) ⟨rfl, .nil⟩ ?_ ?_
  · rintro g' i v ys c tl I oI C oC D m₂ h tk E' hi hy hv ⟨rfl, hI⟩ _ hC hx F' N' _
    refine wpAny_mono (turn g' i v ys I oI C oC D m₂ h tk E' hi hv hC hx F' N') (fun y s₂ hz => ?_) fun _ _ e => e
    obtain ⟨h', tk', t', news', rfl, rfl, F2, N2, hs⟩ := hz
    exact EltEndX.intro () [] F2 N2 hs Ap.nil ⟨rfl, by rw [rangeMapSucc]; exact intsSnoc hI _ _⟩
  · rintro g' ys c tl hy ⟨rfl, hI⟩ _ _
    exact fin g' ys hI
end

theorem Ap.one {D : Addr} {o : Obj} {l : Led} (h : LCg.Off1 D l) : Ap [(D, o)] l := fun p hp q hq e => by
  rw [List.mem_singleton.mp hp] at e
  exact off1All h q hq e.symm
theorem RowsL.snoc {tl led : Led} {rvs : List Value} {v : Value} {W i : Nat} {f : Nat → Nat → Int} (h : RowsL tl rvs W i f) (hv : IntsL led v (rowOf W f i)) (s : ∀ p ∈ tl, p ∈ led) : RowsL led (rvs ++ [v]) W (i + 1) f := by
  obtain ⟨hl, hr⟩ := h
  refine ⟨by rw [List.length_append, List.length_singleton, hl], fun j hj => ?_⟩
  by_cases hji : j < i
  · obtain ⟨u, hu, hi⟩ := hr j hji
    exact ⟨u, by rw [List.getElem?_append_left (by omega)]; exact hu, hi.mono s⟩
  · obtain rfl : j = i := by omega
    exact ⟨v, by rw [List.getElem?_append_right (by omega), hl, Nat.sub_self]; rfl, hv⟩
theorem pushArr (rvs : List Value) (v : Value) : rvs.toArray.push v = (rvs ++ [v]).toArray := by simp
theorem Ap.congr {l r r' : Led} (h : Ap l r) (e : r'.map (·.1) = r.map (·.1)) : Ap l r' := fun p hp q hq => by
  have hm : q.1 ∈ r.map (·.1) := e ▸ List.mem_map.mpr ⟨q, hq, rfl⟩
  obtain ⟨q', hq', e'⟩ := List.mem_map.mp hm
  rw [← e']
  exact h p hp q' hq'
theorem allLtLe {d e : Addr} : ∀ {l : Led}, AllLt d l → d ≤ e → AllLt e l
  | [], _, _ => trivial
  | _ :: _, h, k => ⟨Nat.lt_of_lt_of_le h.1 k, allLtLe h.2 k⟩
theorem ltN' {a b : Nat} (h : a < b) : a < b := h

/-- a plane newly made is handed back -/
theorem retPlane {P : Params} {W H : Nat} {f : Nat → Nat → Int} {h₀ h' : Heap} {L x d r : Addr} {m : Str → Option Value} {news rest tl : Led} {s : Shared} {Q : Value → Shared → Prop} {tk' : Nat} {rvs : List Value} {k : Nat} {t1 t2 t3 tw th : Tok}
    (hret : ∀ r tl h' tk', Fr h₀ L h' m → News h₀ L h' (tl ++ news) → (∀ p ∈ tl, ∀ q ∈ news, p.1 ≠ q.1) → PlaneL P tl r W H f → Q r { s with heap := h', toks := tk' })
    (F : Fr h₀ L h' m)
    (N : News h₀ L h' ((x, instObj 84 d) :: (d, dictOf [⟨PyData.keyHash P (Str.ofString "width"), .str (Str.ofString "width") t1, .int W tw⟩, ⟨PyData.keyHash P (Str.ofString "height"), .str (Str.ofString "height") t2, .int H th⟩, ⟨PyData.keyHash P (Str.ofString "rows"), .str (Str.ofString "rows") t3, .ref r⟩] 3) :: rest))
    (hr : (r, listOf rvs.toArray k) ∈ rest) (hs : ∀ p ∈ tl ++ news, p ∈ rest) (hR : RowsL tl rvs W H f) (a1 : AllLt d news) (a2 : d < x) (a3 : AllLt r news) (a4 : Ap tl news) (hW : 0 < W) (hW' : W ≤ 100) (hH : 0 < H) (hH' : H ≤ 100) :
    Q (.ref x) { s with heap := h', toks := tk' } := by
  refine hret _ ((x, _) :: (d, _) :: (r, listOf rvs.toArray k) :: tl) h' tk' F (newsSub N fun p hp => ?_) (Ap.consL (allLtLe a1 (Nat.le_of_lt a2)) (Ap.consL a1 (Ap.consL a3 a4))) ⟨x, d, r, rvs, k, t1, t2, t3, tw, th, rfl, .head _, .tail _ (.head _), .tail _ (.tail _ (.head _)), hR.mono (fun p hp => .tail _ (.tail _ (.tail _ hp))), hW, hW', hH, hH'⟩
  rcases List.mem_cons.mp hp with rfl | hp
  · exact .head _
  rcases List.mem_cons.mp hp with rfl | hp
  · exact .tail _ (.head _)
  rcases List.mem_cons.mp hp with rfl | hp
  · exact .tail _ (.tail _ hr)
  · exact .tail _ (.tail _ (hs p hp))
/-- a mark: the walk does not halt at joins -/
structure NoHalt : Prop where
theorem joinB {M : Model} {A : Around} {E : Value → Shared → Prop} {s : Shared} {t : Sem Bool} {b₀ : Bool} {Q : Bool → Shared → Prop} (h : wpAny M A t (fun b s' => b = b₀ ∧ ∃ tk, s' = { s with toks := tk }) E s) (k : ∀ tk, Q b₀ { s with toks := tk }) : wpAny M A t Q E s :=
  wpAny_mono h (by rintro b s' ⟨rfl, tk, rfl⟩; exact k tk) fun _ _ e => e
theorem PlaneL.congr {P : Params} {led : Led} {v : Value} {W H : Nat} {f g : Nat → Nat → Int} (h : PlaneL P led v W H f) (e : ∀ i j, i < W → j < H → f i j = g i j) : PlaneL P led v W H g := by
  obtain ⟨a, d, r, rvs, k, t1, t2, t3, tw, th, rfl, h1, h2, h3, ⟨hl, hr⟩, h5⟩ := h
  refine ⟨a, d, r, rvs, k, t1, t2, t3, tw, th, rfl, h1, h2, h3, ⟨hl, fun j hj => ?_⟩, h5⟩
  obtain ⟨u, hu, hi⟩ := hr j hj
  refine ⟨u, hu, ?_⟩
  have : rowOf W f j = rowOf W g j := List.map_congr_left fun i hi => e i j (List.mem_range.mp hi) hj
  rw [← this]
  exact hi
/-- how many parts of k samples cover n -/
noncomputable def cd (n : Nat) (k : Int) : Nat := (((n : Int) * 1 + k - 1).fdiv k).toNat
theorem cd_eq {n : Nat} {k : Int} (hk : 0 < k) : ((n : Int) * 1 + k - 1).fdiv k = ((cd n k : Nat) : Int) := by
  unfold cd
  rw [Int.toNat_of_nonneg]
  rw [Int.fdiv_eq_ediv_of_nonneg _ (by omega)]
  exact Int.ediv_nonneg (by omega) (by omega)
theorem cd_pos {n : Nat} {k : Int} (hn : 0 < n) (hk : 0 < k) : 0 < cd n k := by
  have h := cd_eq (n := n) hk
  rw [Int.fdiv_eq_ediv_of_nonneg _ (by omega)] at h
  have h2 : 1 ≤ ((n : Int) * 1 + k - 1) / k := (Int.le_ediv_iff_mul_le hk).mpr (by omega)
  omega
theorem cd_le {n : Nat} {k : Int} (hn : 0 < n) (hk : 0 < k) : cd n k ≤ n := by
  have h := cd_eq (n := n) hk
  rw [Int.fdiv_eq_ediv_of_nonneg _ (by omega)] at h
  have h2 : ((n : Int) * 1 + k - 1) / k ≤ n := by
    have e : (n : Int) * 1 + k - 1 < ((n : Int) + 1) * k := by
      have h4 : (n : Int) * 1 ≤ (n : Int) * k := Int.mul_le_mul_of_nonneg_left (by omega) (by omega)
      rw [Int.add_mul, Int.one_mul]
      omega
    have := Int.ediv_lt_of_lt_mul hk e
    omega
  omega
theorem split1 {a0 : Addr × Obj} {l : Led} : Split (a0 :: l) [a0] l := .cons _ (.nil _)
theorem split2 {a0 a1 : Addr × Obj} {l : Led} : Split (a0 :: a1 :: l) [a0, a1] l := .cons _ (.cons _ (.nil _))
theorem split3 {a0 a1 a2 : Addr × Obj} {l : Led} : Split (a0 :: a1 :: a2 :: l) [a0, a1, a2] l := .cons _ (.cons _ (.cons _ (.nil _)))
theorem split4 {a0 a1 a2 a3 : Addr × Obj} {l : Led} : Split (a0 :: a1 :: a2 :: a3 :: l) [a0, a1, a2, a3] l := .cons _ (.cons _ (.cons _ (.cons _ (.nil _))))
theorem split5 {a0 a1 a2 a3 a4 : Addr × Obj} {l : Led} : Split (a0 :: a1 :: a2 :: a3 :: a4 :: l) [a0, a1, a2, a3, a4] l := .cons _ (.cons _ (.cons _ (.cons _ (.cons _ (.nil _)))))
theorem split6 {a0 a1 a2 a3 a4 a5 : Addr × Obj} {l : Led} : Split (a0 :: a1 :: a2 :: a3 :: a4 :: a5 :: l) [a0, a1, a2, a3, a4, a5] l := .cons _ (.cons _ (.cons _ (.cons _ (.cons _ (.cons _ (.nil _))))))
theorem split7 {a0 a1 a2 a3 a4 a5 a6 : Addr × Obj} {l : Led} : Split (a0 :: a1 :: a2 :: a3 :: a4 :: a5 :: a6 :: l) [a0, a1, a2, a3, a4, a5, a6] l := .cons _ (.cons _ (.cons _ (.cons _ (.cons _ (.cons _ (.cons _ (.nil _)))))))
theorem split8 {a0 a1 a2 a3 a4 a5 a6 a7 : Addr × Obj} {l : Led} : Split (a0 :: a1 :: a2 :: a3 :: a4 :: a5 :: a6 :: a7 :: l) [a0, a1, a2, a3, a4, a5, a6, a7] l := .cons _ (.cons _ (.cons _ (.cons _ (.cons _ (.cons _ (.cons _ (.cons _ (.nil _))))))))
theorem split9 {a0 a1 a2 a3 a4 a5 a6 a7 a8 : Addr × Obj} {l : Led} : Split (a0 :: a1 :: a2 :: a3 :: a4 :: a5 :: a6 :: a7 :: a8 :: l) [a0, a1, a2, a3, a4, a5, a6, a7, a8] l := .cons _ (.cons _ (.cons _ (.cons _ (.cons _ (.cons _ (.cons _ (.cons _ (.cons _ (.nil _)))))))))
theorem split10 {a0 a1 a2 a3 a4 a5 a6 a7 a8 a9 : Addr × Obj} {l : Led} : Split (a0 :: a1 :: a2 :: a3 :: a4 :: a5 :: a6 :: a7 :: a8 :: a9 :: l) [a0, a1, a2, a3, a4, a5, a6, a7, a8, a9] l := .cons _ (.cons _ (.cons _ (.cons _ (.cons _ (.cons _ (.cons _ (.cons _ (.cons _ (.cons _ (.nil _))))))))))
theorem split11 {a0 a1 a2 a3 a4 a5 a6 a7 a8 a9 a10 : Addr × Obj} {l : Led} : Split (a0 :: a1 :: a2 :: a3 :: a4 :: a5 :: a6 :: a7 :: a8 :: a9 :: a10 :: l) [a0, a1, a2, a3, a4, a5, a6, a7, a8, a9, a10] l := .cons _ (.cons _ (.cons _ (.cons _ (.cons _ (.cons _ (.cons _ (.cons _ (.cons _ (.cons _ (.cons _ (.nil _)))))))))))
theorem split12 {a0 a1 a2 a3 a4 a5 a6 a7 a8 a9 a10 a11 : Addr × Obj} {l : Led} : Split (a0 :: a1 :: a2 :: a3 :: a4 :: a5 :: a6 :: a7 :: a8 :: a9 :: a10 :: a11 :: l) [a0, a1, a2, a3, a4, a5, a6, a7, a8, a9, a10, a11] l := .cons _ (.cons _ (.cons _ (.cons _ (.cons _ (.cons _ (.cons _ (.cons _ (.cons _ (.cons _ (.cons _ (.cons _ (.nil _))))))))))))
theorem split13 {a0 a1 a2 a3 a4 a5 a6 a7 a8 a9 a10 a11 a12 : Addr × Obj} {l : Led} : Split (a0 :: a1 :: a2 :: a3 :: a4 :: a5 :: a6 :: a7 :: a8 :: a9 :: a10 :: a11 :: a12 :: l) [a0, a1, a2, a3, a4, a5, a6, a7, a8, a9, a10, a11, a12] l := .cons _ (.cons _ (.cons _ (.cons _ (.cons _ (.cons _ (.cons _ (.cons _ (.cons _ (.cons _ (.cons _ (.cons _ (.cons _ (.nil _)))))))))))))
theorem split14 {a0 a1 a2 a3 a4 a5 a6 a7 a8 a9 a10 a11 a12 a13 : Addr × Obj} {l : Led} : Split (a0 :: a1 :: a2 :: a3 :: a4 :: a5 :: a6 :: a7 :: a8 :: a9 :: a10 :: a11 :: a12 :: a13 :: l) [a0, a1, a2, a3, a4, a5, a6, a7, a8, a9, a10, a11, a12, a13] l := .cons _ (.cons _ (.cons _ (.cons _ (.cons _ (.cons _ (.cons _ (.cons _ (.cons _ (.cons _ (.cons _ (.cons _ (.cons _ (.cons _ (.nil _))))))))))))))
end Nt

namespace Nt
open LCg
abbrev comp2 (elt t0 i0 t1 i1 : Expr) (ifs : List Expr) (scope : Scope) (pos : Pos) : Expr := .ListComp elt [⟨t0, i0, [], 0⟩, ⟨t1, i1, ifs, 0⟩] scope pos
theorem turn20 (elt t0 i0 t1 i1 : Expr) (ifs : List Expr) (scope : Scope) (pos : Pos) (it acc : Value) (env : Env) :
    compTurn (comp2 elt t0 i0 t1 i1 ifs scope pos) 0 it acc env = (do
      standAt i0.pos
      match ← pyNext it with
      | none => pure (.done .next)
      | some v =>
        letOwnedTupleGo t0 it v
        assign t0 env v
        let x ← eval i1 env
        standAt i1.pos
        let x ← foldedSetIterable i1 env x
        let _ ← runOwn (.compStart (comp2 elt t0 i0 t1 i1 ifs scope pos) 1 (← holding [x] (pyIter x)) acc env) env
        again (.compLoop (comp2 elt t0 i0 t1 i1 ifs scope pos) 0 it acc env)) := by rfl
theorem turn21 (elt t0 i0 t1 i1 : Expr) (ifs : List Expr) (scope : Scope) (pos : Pos) (it acc : Value) (env : Env) :
    compTurn (comp2 elt t0 i0 t1 i1 ifs scope pos) 1 it acc env = (do
      standAt i1.pos
      match ← pyNext it with
      | none => pure (.done .next)
      | some v =>
        letOwnedTupleGo t1 it v
        assign t1 env v
        let mut ok := true
        for c in ifs do
          if ok then ok ← isTrue c env (eval c env)
        if ok then
          (do let _ ← call (.builtin "list.append") [acc, ← eval elt env])
        again (.compLoop (comp2 elt t0 i0 t1 i1 ifs scope pos) 1 it acc env)) := by rfl
section
variable {prog : Program} {w : World} {A : Around} {E : Value → Shared → Prop} {R : Result → Shared → Prop} {s : Shared} {elt t0 i0 t1 i1 : Expr} {ifs : List Expr} {scope : Scope} {pos : Pos} {it acc : Value} {env : Env}
theorem loop20 (I : Nat → Shared → Prop)
    (turn : ∀ n s (E' : Value → Shared → Prop), I n s → wpAny (model prog w) A (pyNext it) (fun r s₁ => match r with
      | none => R (.ok .next) s₁
      | some v => wpAny (model prog w) A (assign t0 env v) (fun _ s₂ => wpAny (model prog w) A (eval i1 env) (fun x s₃ => wpAny (model prog w) A (pyIter x) (fun it1 s₄ =>
          codeAny (model prog w) A (.compStart (comp2 elt t0 i0 t1 i1 ifs scope pos) 1 it1 acc env) (fun r s₅ => match r with | .ok _ => ∃ m, m < n ∧ I m s₅ | .error _ => False) s₄) E' s₃) E' s₂) E' s₁) E' s)
    (n : Nat) (h : I n s) (ht : ∀ v, letOwnedTupleGo t0 it v = pure ()) (hs : ∀ x, foldedSetIterable i1 env x = pure x) :
    codeAny (model prog w) A (.compLoop (comp2 elt t0 i0 t1 i1 ifs scope pos) 0 it acc env) R s := by
  refine codeAny_loop rfl I (fun n s hI => ?_) n h
  show wpAny _ A ((compTurn (comp2 elt t0 i0 t1 i1 ifs scope pos) 0 it acc env).onRaise (fun x => do noteFrame x env; theTreesLotGoes x)) _ _ s
  refine wpAny_noted ?_
  rw [turn20]
  refine wpAny_bind (wpAny_standAt (wpAny_bind (wpAny_mono (turn n s _ hI) (fun r s₁ h₁ => ?_) fun _ _ h' => h')))
  cases r with
  | none => exact wpAny_pure h₁
  | some v =>
    refine wpAny_bind (wpAny_of_eq (ht v) ?_)
    refine wpAny_bind (wpAny_mono h₁ (fun _ s₂ h₂ => wpAny_bind (wpAny_mono h₂ (fun x s₃ h₃ => wpAny_bind (wpAny_standAt (wpAny_bind (wpAny_of_eq (hs x) (wpAny_bind (wpAny_holding (wpAny_mono h₃ (fun it1 s₄ h₄ => ?_) fun _ _ h' => h'))))))) fun _ _ h' => h')) fun _ _ h' => h')
    refine wpAny_bind (wpAny_runOwn (codeAny_mono h₄ fun r s₅ h₅ => ?_))
    cases r with
    | ok f => exact wpAny_pure ⟨rfl, h₅⟩
    | error e => exact h₅.elim
theorem start21
    (h0 : codeAny (model prog w) A (.compLoop (comp2 elt t0 i0 t1 i1 ifs scope pos) 1 it acc env) R s)
    (h : ∀ E' : Value → Shared → Prop, wpAny (model prog w) A (pyIter it) (fun it' s' => codeAny (model prog w) A (.compLoop (comp2 elt t0 i0 t1 i1 ifs scope pos) 1 it' acc env) R s') E' s) :
    codeAny (model prog w) A (.compStart (comp2 elt t0 i0 t1 i1 ifs scope pos) 1 it acc env) R s := by
  refine codeAny_of_tree ?_
  show wpAny _ _ ((compStart (comp2 elt t0 i0 t1 i1 ifs scope pos) 1 it acc env).onRaise (fun x => do noteFrame x env; standAt theWindowsPlace)) _ _ s
  refine wpAny_notedAt ?_
  unfold compStart
  show wpAny _ _ (ask >>= _) _ _ s
  refine wpAny_bind (wpAny_askSetting (wpAny_ite ?_))
  split
  · first
      | exact wpAny_bind (wpAny_pure (wpAny_pure (And.intro rfl h0)))
      | exact wpAny_pure (And.intro rfl h0)
  · first
      | exact wpAny_bind (wpAny_rule (wpAny_bind (wpAny_standAt (wpAny_bind (wpAny_mono (h _) (fun it' s' h' => wpAny_pure (And.intro rfl h')) fun _ _ x => x)))))
      | (refine wpAny_bind (wpAny_rule ?_); show wpAny _ _ (standAt i1.pos >>= _) _ _ s; exact wpAny_bind (wpAny_standAt (wpAny_bind (wpAny_mono (h _) (fun it' s' h' => wpAny_pure (And.intro rfl h')) fun _ _ x => x))))
theorem loop21 (I : Nat → Shared → Prop)
    (turn : ∀ n s (E' : Value → Shared → Prop), I n s → wpAny (model prog w) A (pyNext it) (fun r s₁ => match r with
      | none => R (.ok .next) s₁
      | some v => wpAny (model prog w) A (assign t1 env v) (fun _ s₂ =>
          wpAny (model prog w) A (forIn ifs true fun c r => if r = true then do let ok ← isTrue c env (eval c env); pure (ForInStep.yield ok) else pure (ForInStep.yield r)) (fun ok s₃ =>
            if ok = true then wpAny (model prog w) A (eval elt env) (fun x s₄ =>
              wpAny (model prog w) A (call (.builtin "list.append") [acc, x]) (fun _ s₅ => ∃ m, m < n ∧ I m s₅) E' s₄) E' s₃
            else ∃ m, m < n ∧ I m s₃) E' s₂) E' s₁) E' s)
    (n : Nat) (h : I n s) (ht : ∀ v, letOwnedTupleGo t1 it v = pure ()) :
    codeAny (model prog w) A (.compLoop (comp2 elt t0 i0 t1 i1 ifs scope pos) 1 it acc env) R s := by
  refine codeAny_loop rfl I (fun n s hI => ?_) n h
  show wpAny _ A ((compTurn (comp2 elt t0 i0 t1 i1 ifs scope pos) 1 it acc env).onRaise (fun x => do noteFrame x env; theTreesLotGoes x)) _ _ s
  refine wpAny_noted ?_
  rw [turn21]
  refine wpAny_bind (wpAny_standAt (wpAny_bind (wpAny_mono (turn n s _ hI) (fun r s₁ h₁ => ?_) fun _ _ h' => h')))
  cases r with
  | none => exact wpAny_pure h₁
  | some v =>
    refine wpAny_bind (wpAny_of_eq (ht v) ?_)
    refine wpAny_bind (wpAny_mono h₁ (fun _ s₂ h₂ => wpAny_bind (wpAny_mono h₂ (fun ok s₃ h₃ => ?_) fun _ _ h' => h')) fun _ _ h' => h')
    cases ok with
    | false => exact wpAny_pure ⟨rfl, h₃⟩
    | true =>
      exact wpAny_bind (wpAny_bind (wpAny_mono h₃ (fun x s₄ h₄ => wpAny_bind (wpAny_mono h₄ (fun _ s₅ h₅ => wpAny_pure (wpAny_pure ⟨rfl, h₅⟩)) fun _ _ h' => h')) fun _ _ h' => h'))
end
end Nt

namespace Nt
open LCg
section
variable {prog : Program} {w : World} {A : Around} {E : Value → Shared → Prop} {R : Result → Shared → Prop} {s : Shared} {h₀ : Heap} {L : Addr} {m : Str → Option Value} {elt t0 i0 i1 : Expr} {x y : Str} {px py : Pos} {ifs : List Expr} {scope : Scope} {cl : List (Str × Addr)} {pos : Pos} {env : Env}

/-- one inner element is reckoned: the heap stands -/
def ElemOk (prog : Program) (w : World) (A : Around) (env : Env) (ifs : List Expr) (elt : Expr) (Inv : List Value → Prop) (ys : List Value) (h : Heap) (s : Shared) (ok : Bool) (s' : Shared) : Prop :=
  ∃ tk', s' = { s with heap := h, toks := tk' } ∧ (if ok = true then ∀ E'' : Value → Shared → Prop, wpAny (model prog w) A (eval elt env) (fun r s'' => (∃ tk'', s'' = { s with heap := h, toks := tk'' }) ∧ Inv (ys ++ [r])) E'' s' else Inv ys)

set_option maxHeartbeats 1600000 in
theorem inner2 {I1 C D : Addr} {fp1 : List Addr} {n1 : Nat} {P1 : Nat → Value → Prop} {St1 : Nat → Heap → Prop} {h : Heap} {tk : Nat} {m₂ : Str → Option Value} {v : Value} {ys : List Value} {nz : Led} {Inv : Nat → List Value → Prop}
    (W : Walks prog w A I1 fp1 [I1] n1 P1 St1) (hkind : scope.kind = .function) (hy : scope.names.lookup y = some .local) (hxy : x ≠ y)
    (hDf : D ∉ fp1) (hCf : C ∉ fp1) (hIC : I1 ≠ C) (hID : I1 ≠ D) (hCD : C ≠ D) (hCL : C ≠ L) (hDL : D ≠ L) (hIL : L ≠ I1) (hC₀ : h₀.get? C = none) (hD₀ : h₀.get? D = none) (hI₀ : h₀.get? I1 = none)
    (off : Off3 I1 C D nz) (hst : St1 0 h) (F : Fr h₀ L h m) (hn : h.Ns C m₂) (hmx : m₂ x = some v) (N : News h₀ L h ((D, lst ys) :: nz)) (hI : Inv 0 ys) (hsz : ∀ j ys, Inv j ys → ys.length ≤ sizeLine)
    (elem : ∀ j u h tk oC ys m₃ (E' : Value → Shared → Prop), j < n1 → P1 j u → Inv j ys → NsObj oC m₃ → m₃ x = some v → m₃ y = some u → Fr h₀ L h m → News h₀ L h ((C, oC) :: (D, lst ys) :: nz) →
      wpAny (model prog w) A (forIn ifs true fun c r => if r = true then do let ok ← isTrue c (compEnvC scope cl C env) (eval c (compEnvC scope cl C env)); pure (ForInStep.yield ok) else pure (ForInStep.yield r))
        (ElemOk prog w A (compEnvC scope cl C env) ifs elt (Inv (j + 1)) ys h s) E' { s with heap := h, toks := tk })
    (fin : ∀ h tk ys m₃, Fr h₀ L h m → h.Ns C m₃ → News h₀ L h ((D, lst ys) :: nz) → Inv n1 ys → R (.ok .next) { s with heap := h, toks := tk }) :
    codeAny (model prog w) A (.compStart (comp2 elt t0 i0 (.Name y py) i1 ifs scope pos) 1 (.ref I1) (.ref D) (compEnvC scope cl C env)) R { s with heap := h, toks := tk } := by
  have off3 := off.mem
  have loop : codeAny (model prog w) A (.compLoop (comp2 elt t0 i0 (.Name y py) i1 ifs scope pos) 1 (.ref I1) (.ref D) (compEnvC scope cl C env)) R { s with heap := h, toks := tk } := by
    refine loop21 (fun k s' => ∃ h' tk' j ys m', s' = { s with heap := h', toks := tk' } ∧ j ≤ n1 ∧ k = n1 + 1 - j ∧ St1 j h' ∧ Fr h₀ L h' m ∧ h'.Ns C m' ∧ m' x = some v ∧ News h₀ L h' ((D, lst ys) :: nz) ∧ Inv j ys) ?_ (n1 + 1)
      ⟨h, tk, 0, ys, m₂, rfl, Nat.zero_le _, rfl, hst, F, hn, hmx, N, hI⟩ (fun _ => rfl)
    rintro k s' E' ⟨h', tk', j, ys', m', rfl, hj, rfl, hst', F', hn', hmx', N', hI'⟩
    by_cases hlt : j < n1
    · refine W.item j _ _ _ hlt hst' fun u h₂ tk₂ hPu hst₂ hk₂ => ?_
      refine wpAny_assign_Name (wpAny_storeName_local (lookup_relabel_local hy) (hn'.at' fun o e => hk₂ _ o (by simpa using Ne.symm hIC) e) (fun h₃ hn₃ hs₃ => ?_) (by simp [compEnvC, relabel, hkind]))
      have hst₃ : St1 (j + 1) h₃ := W.frame _ _ _ hst₂ fun b hb o e => hs₃.extBut b o (fun q => hCf (by have q' : b = C := q; rw [← q']; exact hb)) e
      obtain ⟨oC, heC, hoC⟩ := ns_obj hn₃
      have F₃ : Fr h₀ L h₃ m := (fr_but F' hk₂ hIL hI₀).change hs₃ hCL hC₀
      have N₂ : News h₀ L h₂ ((D, lst ys') :: nz) := news_but N' hk₂ fun p hp => by
        rcases List.mem_cons.mp hp with rfl | hp
        · exact Ne.symm hID
        · exact (off3 p hp).1
      have N₃ : News h₀ L h₃ ((C, oC) :: (D, lst ys') :: nz) := fun p hp => by
        rcases List.mem_cons.mp hp with rfl | hp
        · exact ⟨heC, hCL, hC₀⟩
        · have z := N₂ p hp
          refine ⟨hs₃.extBut _ _ ?_ z.1, z.2⟩
          rcases List.mem_cons.mp hp with rfl | hp
          · exact Ne.symm hCD
          · exact (off3 p hp).2.1
      refine wpAny_mono (elem j u h₃ _ oC ys' _ _ hlt hPu hI' hoC (by simp only [if_neg hxy]; exact hmx') (by simp) F₃ N₃) (fun ok s₄ h₄ => ?_) fun _ _ e => e
      obtain ⟨tk₄, rfl, h₄⟩ := h₄
      cases ok with
      | true =>
        simp only [if_true] at h₄ ⊢
        refine wpAny_mono (h₄ _) (fun r s₅ h₅ => ?_) fun _ _ e => e
        obtain ⟨⟨tk₅, rfl⟩, hI₅⟩ := h₅
        have zD := (N₃ (D, lst ys') (List.mem_cons_of_mem _ List.mem_cons_self)).1
        refine append_at (hsz := by show ys'.toArray.size ≤ sizeLine; rw [List.size_toArray]; exact hsz _ _ hI') zD fun h₅ hs₅ hD₅ => ?_
        refine ⟨n1 + 1 - (j + 1), turnLt hlt, h₅, tk₅, j + 1, ys' ++ [r], _, rfl, hlt, rfl, W.frame _ _ _ hst₃ fun b hb o e => hs₅.extBut b o (fun q => hDf (q ▸ hb)) e, F₃.change hs₅ hDL hD₀, hn₃.sameBut hs₅ hCD, by simp only [if_neg hxy]; exact hmx', fun p hp => ?_, hI₅⟩
        rcases List.mem_cons.mp hp with rfl | hp
        · exact ⟨hD₅.trans (congrArg some (lst_snoc ys' r)), hDL, hD₀⟩
        · have z := N₃ p (List.mem_cons_of_mem _ (List.mem_cons_of_mem _ hp))
          exact ⟨hs₅.extBut _ _ (off3 p hp).2.2 z.1, z.2⟩
      | false =>
        simp only [Bool.false_eq_true, if_false] at h₄ ⊢
        exact ⟨n1 + 1 - (j + 1), turnLt hlt, h₃, tk₄, j + 1, ys', _, rfl, hlt, rfl, hst₃, F₃, hn₃, by simp only [if_neg hxy]; exact hmx', fun p hp => N₃ p (List.mem_cons_of_mem _ hp), h₄⟩
    · obtain rfl : j = n1 := Nat.le_antisymm hj (Nat.not_lt.mp hlt)
      refine W.done _ _ _ hst' fun h₂ tk₂ hk₂ => ?_
      exact fin h₂ tk₂ ys' m' (fr_but F' hk₂ hIL hI₀) (hn'.at' fun o e => hk₂ _ o (by simpa using Ne.symm hIC) e) (news_but N' hk₂ fun p hp => by
        rcases List.mem_cons.mp hp with rfl | hp
        · exact Ne.symm hID
        · exact (off3 p hp).1) hI'
  exact start21 loop fun E' => W.self 0 _ _ _ hst loop

/-- the inner source, reached with v in hand -/
def Inner2 (prog : Program) (w : World) (A : Around) (h₀ : Heap) (L : Addr) (m : Str → Option Value) (env : Env) (ifs : List Expr) (elt : Expr) (x y : Str) (scope : Scope) (cl : List (Str × Addr)) (s : Shared) (v : Value) (Inv : Nat → List Value → Prop) (Nxt : List Value → Prop) (I : Addr) (oI : Obj) (C D : Addr) (ys : List Value) (news : Led) (xv : Value) (s' : Shared) : Prop :=
  ∃ (h' : Heap) (tk' : Nat) (oC : Obj) (n1 : Nat) (P1 : Nat → Value → Prop), s' = { s with heap := h', toks := tk' } ∧ Fr h₀ L h' m ∧ News h₀ L h' ((I, oI) :: (C, oC) :: (D, lst ys) :: news) ∧ (∃ m₂, NsObj oC m₂ ∧ m₂ x = some v) ∧
    ((∃ (ax : Addr) (vs : List Value) (k : Nat), xv = .ref ax ∧ (ax, listOf vs.toArray k) ∈ news ∧ n1 = vs.length ∧ P1 = fun (j : Nat) (u : Value) => vs[j]? = some u) ∨
      (∃ (r : Addr) (a b : Int) (t1 t2 t3 : Tok), xv = .ref r ∧ IsRange h' r a b 1 t1 t2 t3 ∧ b = a + (n1 : Int) ∧ -100000 ≤ a ∧ b ≤ 100000 ∧ P1 = fun (_ : Nat) (_ : Value) => True)) ∧
    (∀ j u h tk oC ys' m₃ (E' : Value → Shared → Prop), j < n1 → P1 j u → Inv j ys' → NsObj oC m₃ → m₃ x = some v → m₃ y = some u → Fr h₀ L h m → News h₀ L h ((C, oC) :: (D, lst ys') :: (I, oI) :: news) →
      wpAny (model prog w) A (forIn ifs true fun c r => if r = true then do let ok ← isTrue c (compEnvC scope cl C env) (eval c (compEnvC scope cl C env)); pure (ForInStep.yield ok) else pure (ForInStep.yield r))
        (ElemOk prog w A (compEnvC scope cl C env) ifs elt (Inv (j + 1)) ys' h s) E' { s with heap := h, toks := tk }) ∧
    ∀ ys', Inv n1 ys' → Nxt ys'

set_option maxHeartbeats 1600000 in
theorem inner2_go {I C D : Addr} {oI : Obj} {ys : List Value} {v : Value} {news : Led} {Inv : Nat → List Value → Prop} {Nxt : List Value → Prop} {xv : Value} {s' : Shared}
    (hh : A.handled = none) (hkind : scope.kind = .function) (hy : scope.names.lookup y = some .local) (hxy : x ≠ y) (hsz : ∀ j ys, Inv j ys → ys.length ≤ 100000) (hI : Inv 0 ys)
    (hIC : I ≠ C) (hID : I ≠ D) (hCD : C ≠ D) (off : Off3 I C D news)
    (h : Inner2 prog w A h₀ L m env ifs elt x y scope cl s v Inv Nxt I oI C D ys news xv s') :
    wpAny (model prog w) A (pyIter xv) (fun it1 s₄ => codeAny (model prog w) A (.compStart (comp2 elt t0 i0 (.Name y py) i1 ifs scope pos) 1 it1 (.ref D) (compEnvC scope cl C env)) (fun r s₅ => match r with
      | .ok _ => ∃ h tk ys m₃, s₅ = { s with heap := h, toks := tk } ∧ Fr h₀ L h m ∧ h.Ns C m₃ ∧ News h₀ L h ((D, lst ys) :: (I, oI) :: news) ∧ Nxt ys
      | .error _ => False) s₄) E s' := by
  obtain ⟨h', tk', oC, n1, P1, rfl, F, N, ⟨m₂, hC, hmx⟩, src, elem, nxt⟩ := h
  have off3 := off.mem
  have zC := N (C, oC) (List.mem_cons_of_mem _ List.mem_cons_self)
  have zD := N (D, lst ys) (List.mem_cons_of_mem _ (List.mem_cons_of_mem _ List.mem_cons_self))
  have hn : h'.Ns C m₂ := hC.ns zC.1
  have N' : News h₀ L h' ((D, lst ys) :: (I, oI) :: news) := newsSub N fun p hp => by
    rcases List.mem_cons.mp hp with rfl | hp
    · exact .tail _ (.tail _ (.head _))
    rcases List.mem_cons.mp hp with rfl | hp
    · exact .head _
    · exact .tail _ (.tail _ (.tail _ hp))
  have ltD : D < h'.objs.size := Heap.lt_size zD.1
  have ltC : C < h'.objs.size := Heap.lt_size zC.1
  have offN : ∀ o : Obj, Off3 h'.objs.size C D ((I, oI) :: news) := fun _ => Off3.of fun p hp => by
    have lt := Heap.lt_size (N' p (List.mem_cons_of_mem _ hp)).1
    refine ⟨Nat.ne_of_lt lt, ?_⟩
    rcases List.mem_cons.mp hp with rfl | hp
    · exact ⟨hIC, hID⟩
    · exact ⟨(off3 p hp).2.1, (off3 p hp).2.2⟩
  have hsz' : ∀ j ys, Inv j ys → ys.length ≤ sizeLine := fun j ys q => by rw [sizeLine_eq]; have := hsz j ys q; omega
  rcases src with ⟨ax, vs, k, rfl, hm, rfl, rfl⟩ | ⟨r, a, b, t1, t2, t3, rfl, hr, hb, hlo, hhi, rfl⟩
  · have za := N (ax, _) (.tail _ (.tail _ (.tail _ hm)))
    have hl : h'.IsList ax vs.toArray := ⟨_, za.1, rfl, k, rfl⟩
    have lta : ax < h'.objs.size := Heap.lt_size za.1
    refine wpAny_pyIter_list (s := { s with heap := h', toks := tk' }) hl ?_
    have up : ∀ b o, h'.get? b = some o → (h'.push { cls := .type "list_iterator", data := .fields #[.ref ax, .int 0 0] }).get? b = some o := fun b o e => Heap.get?_push_of_some _ e
    refine inner2 (s := s) (Inv := Inv) (Walks.list hh h'.objs.size ax (Nat.ne_of_lt lta) vs.toArray) hkind hy hxy ?_ ?_ (Nat.ne_of_gt ltC) (Nat.ne_of_gt ltD) hCD zC.2.1 zD.2.1 (Nat.ne_of_lt F.ns.lt) zC.2.2 zD.2.2 (next_is_new F) (offN oI)
      ⟨⟨_, Heap.get?_push_size _ rfl, rfl, rfl⟩, hl.push _⟩ (F.keeps up) (hn.at' fun o e => up _ _ e) hmx (N'.grown up) hI hsz' (fun j u h tk oC ys m₃ E' hj hu => elem j u h tk oC ys m₃ E' (by simpa using hj) (by simpa using hu)) ?_
    · intro q
      rcases List.mem_cons.mp q with q | q
      · exact absurd ltD (by rw [q]; exact Nat.lt_irrefl _)
      · exact (off3 _ hm).2.2 (List.mem_singleton.mp q).symm
    · intro q
      rcases List.mem_cons.mp q with q | q
      · exact absurd ltC (by rw [q]; exact Nat.lt_irrefl _)
      · exact (off3 _ hm).2.1 (List.mem_singleton.mp q).symm
    · intro h tk ys' m₃ F' n' N'' q
      exact ⟨h, tk, ys', m₃, rfl, F', n', N'', nxt _ (by simpa using q)⟩
  · refine wpAny_pyIter_range (s := { s with heap := h', toks := tk' }) hr (rsmall hlo hhi (by omega)) ?_
    have hsz2 := rsize hb
    have up : ∀ o b o', h'.get? b = some o' → (h'.push o).get? b = some o' := fun o b o' e => Heap.get?_push_of_some _ e
    refine inner2 (s := s) (Inv := Inv) (LCg.range_walks (prog := prog) (w := w) (I := h'.objs.size) hh a n1) hkind hy hxy ?_ ?_ (Nat.ne_of_gt ltC) (Nat.ne_of_gt ltD) hCD zC.2.1 zD.2.1 (Nat.ne_of_lt F.ns.lt) zC.2.2 zD.2.2 (next_is_new F) (offN oI)
      (by show IsRangeIter _ _ _ _ _; rw [hsz2]; simpa using Heap.get?_push_size _ rfl) (F.keeps (up _)) (hn.at' fun o e => up _ _ _ e) hmx (N'.grown (up _)) hI hsz' (fun j u h tk oC ys m₃ E' hj hu => elem j u h tk oC ys m₃ E' hj trivial) ?_
    · intro q
      exact absurd ltD (by rw [List.mem_singleton.mp q]; exact Nat.lt_irrefl _)
    · intro q
      exact absurd ltC (by rw [List.mem_singleton.mp q]; exact Nat.lt_irrefl _)
    · intro h tk ys' m₃ F' n' N'' q
      exact ⟨h, tk, ys', m₃, rfl, F', n', N'', nxt _ q⟩

/-- the source of the outer clause: a list of the ledger's -/
def Src2 (prog : Program) (w : World) (A : Around) (h₀ : Heap) (L : Addr) (m : Str → Option Value) (env : Env) (ifs : List Expr) (elt i1 : Expr) (x y : Str) (scope : Scope) (cl : List (Str × Addr)) (Fin : List Value → Led → Prop) (xv : Value) (s : Shared) : Prop :=
  ∃ (ax : Addr) (vs : List Value) (k : Nat) (news : Led) (Inv : Nat → Nat → List Value → Prop), xv = .ref ax ∧ A.handled = none ∧ Fr h₀ L s.heap m ∧ News h₀ L s.heap news ∧ (ax, listOf vs.toArray k) ∈ news ∧ vs.length ≤ 100000 ∧ Inv 0 0 [] ∧ (∀ i j ys, Inv i j ys → ys.length ≤ 100000) ∧
    (∀ i v I oI C oC D ys m₂ h tk (E' : Value → Shared → Prop), vs[i]? = some v → Inv i 0 ys → NsObj oC m₂ → m₂ x = some v → Fr h₀ L h m → News h₀ L h ((I, oI) :: (C, oC) :: (D, lst ys) :: news) →
      wpAny (model prog w) A (eval i1 (compEnvC scope cl C env)) (Inner2 prog w A h₀ L m env ifs elt x y scope cl s v (Inv i) (Inv (i + 1) 0) I oI C D ys news) E' { s with heap := h, toks := tk }) ∧
    ∀ ys, Inv vs.length 0 ys → Fin ys news

set_option maxHeartbeats 1600000 in
theorem block2 {ax I : Addr} {vs : List Value} {k : Nat} {news : Led} {Inv : Nat → Nat → List Value → Prop} {RR : Value → Addr → Result → Shared → Prop} {Fin : List Value → Led → Prop} {h1 : Heap} {tk1 : Nat}
    (hh : A.handled = none) (hcell : ∀ z ∈ scope.names, z.2 ≠ .cell) (hkind : scope.kind = .function) (hx : scope.names.lookup x = some .local) (hy : scope.names.lookup y = some .local) (hxy : x ≠ y) (hs1 : ∀ en v, foldedSetIterable i1 en v = pure v)
    (hm : (ax, listOf vs.toArray k) ∈ news) (hne : ax ≠ I) (hst : h1.IsListIter I ax 0 ∧ h1.IsList ax vs.toArray) (hIlt : I < h1.objs.size)
    (F : Fr h₀ L h1 m) (N : News h₀ L h1 news) (hIL : L ≠ I) (hI₀ : h₀.get? I = none) (off : ∀ p ∈ news, p.1 ≠ I) (hI : Inv 0 0 []) (hsz : ∀ i j ys, Inv i j ys → ys.length ≤ 100000)
    (inner : ∀ i v I oI C oC D ys m₂ h tk (E' : Value → Shared → Prop), vs[i]? = some v → Inv i 0 ys → NsObj oC m₂ → m₂ x = some v → Fr h₀ L h m → News h₀ L h ((I, oI) :: (C, oC) :: (D, lst ys) :: news) →
      wpAny (model prog w) A (eval i1 (compEnvC scope cl C env)) (Inner2 prog w A h₀ L m env ifs elt x y scope cl s v (Inv i) (Inv (i + 1) 0) I oI C D ys news) E' { s with heap := h, toks := tk })
    (fin : ∀ ys, Inv vs.length 0 ys → Fin ys news)
    (hRR : ∀ D C h tk m' ys, Fr h₀ L h m → News h₀ L h ((D, lst ys) :: news) → Off1 D news → h.Ns C m' → h₀.get? C = none → h₀.get? D = none → C ≠ L → D ≠ L → C ≠ D → (∀ p ∈ news, p.1 ≠ C) → Fin ys news → RR (.ref D) C (.ok .next) { s with heap := h, toks := tk }) :
    wpAny (model prog w) A (newList []) (fun acc s₃ => wpAny (model prog w) A (newFunctionEnv scope env.globals cl [] env.qual none .none (some env)) (fun cenv s₄ =>
      codeAny (model prog w) A (.compStart (comp2 elt (.Name x px) i0 (.Name y py) i1 ifs scope pos) 0 (.ref I) acc { cenv with scope := relabel scope env }) (RR acc cenv.locals) s₄) E s₃) E { s with heap := h1, toks := tk1 } := by
  refine wpAny_newObj_type (wpAny_newFunctionEnv hcell (by intro y hy; simp at hy) (fun h₁ hns₁ hsb₁ => ?_) hkind)
  dsimp only at hns₁ hsb₁ ⊢
  generalize hH2 : h1.push { cls := .type "list", dict := none, data := .seq ([] : List Value).toArray } = H2 at hns₁ hsb₁ ⊢
  have hC : H2.objs.size = h1.objs.size + 1 := by rw [← hH2, Heap.size_push]
  have hDC : h1.objs.size ≠ H2.objs.size := by rw [hC]; exact Nat.ne_of_lt (Nat.lt_succ_self _)
  have below : ∀ b, b < h1.objs.size → b ≠ H2.objs.size ∧ b ≠ h1.objs.size := fun b hb => ⟨by rw [hC]; exact Nat.ne_of_lt (Nat.lt_succ_of_lt hb), Nat.ne_of_lt hb⟩
  have W := Walks.list (prog := prog) (w := w) hh I ax hne vs.toArray
  have hlen : vs.toArray.size = vs.length := by simp
  rw [hlen] at W
  have haxlt : ax < h1.objs.size := Heap.lt_size (N _ hm).1
  have old : ∀ b o, h1.get? b = some o → h₁.get? b = some o := fun b o e => hsb₁.extBut b o (below b (Heap.lt_size e)).1 (Heap.get?_push_of_some _ (hH2 ▸ Heap.get?_push_of_some _ e))
  have hacc : h₁.get? h1.objs.size = some (lst []) := hsb₁.extBut _ _ hDC (Heap.get?_push_of_some _ (hH2 ▸ Heap.get?_push_size _ rfl))
  have hst₁ : h₁.IsListIter I ax 0 ∧ h₁.IsList ax vs.toArray := W.frame _ _ _ hst fun b _ o e => old b o e
  have fresh₀ : ∀ a, h1.objs.size ≤ a → h₀.get? a = none := fun a ha => by
    cases e : h₀.get? a with
    | none => rfl
    | some o' => exact absurd (Heap.lt_size (F.keep a o' e)) (Nat.not_lt.mpr ha)
  have hD₀ : h₀.get? h1.objs.size = none := fresh₀ _ (Nat.le_refl _)
  have hC₀ : h₀.get? H2.objs.size = none := fresh₀ _ (by rw [hC]; exact Nat.le_succ _)
  have hLlt : L < h1.objs.size := F.ns.lt
  have hDL : h1.objs.size ≠ L := Ne.symm (below L hLlt).2
  have hCL : H2.objs.size ≠ L := Ne.symm (below L hLlt).1
  have hIC : I ≠ H2.objs.size := (below I hIlt).1
  have hID : I ≠ h1.objs.size := (below I hIlt).2
  have off₀ : Off3 I H2.objs.size h1.objs.size news := Off3.of fun p hp => ⟨off p hp, (below _ (Heap.lt_size (N p hp).1)).1, (below _ (Heap.lt_size (N p hp).1)).2⟩
  have off3 := off₀.mem
  have loop : ∀ s₃ : Shared, (∃ tk, s₃ = { s with heap := h₁, toks := tk }) →
      codeAny (model prog w) A (.compLoop (comp2 elt (.Name x px) i0 (.Name y py) i1 ifs scope pos) 0 (.ref I) (.ref h1.objs.size) (compEnvC scope cl H2.objs.size env))
        (RR (.ref h1.objs.size) H2.objs.size) s₃ := by
    rintro s₃ ⟨tk₀, rfl⟩
    refine loop20 (fun k s' => ∃ h' tk i ys m', s' = { s with heap := h', toks := tk } ∧ i ≤ vs.length ∧ k = vs.length + 1 - i ∧ (h'.IsListIter I ax i ∧ h'.IsList ax vs.toArray) ∧ Fr h₀ L h' m ∧ h'.Ns H2.objs.size m' ∧ News h₀ L h' ((h1.objs.size, lst ys) :: news) ∧ Inv i 0 ys) ?_ (vs.length + 1)
      ⟨h₁, _, 0, [], _, rfl, Nat.zero_le _, rfl, hst₁, F.keeps old, hns₁, fun p hp => ?_, hI⟩ (fun _ => rfl) (hs1 _)
    · rintro k s' E' ⟨h', tk, i, ys, m', rfl, hi, rfl, hst', F', hn', N', hI'⟩
      by_cases hlt : i < vs.length
      · refine W.item i _ _ _ hlt hst' fun v h₂ tk₂ hPv hst₂ hk₂ => ?_
        refine wpAny_assign_Name (wpAny_storeName_local (lookup_relabel_local hx) (hn'.at' fun o e => hk₂ _ o (by simpa using Ne.symm hIC) e) (fun h₃ hn₃ hs₃ => ?_) (by simp [compEnvC, relabel, hkind]))
        have hst₃ : h₃.IsListIter I ax (i + 1) ∧ h₃.IsList ax vs.toArray := W.frame _ _ _ hst₂ fun b hb o e => hs₃.extBut b o (fun q => by
          have q' : b = H2.objs.size := q
          rcases List.mem_cons.mp hb with hb | hb
          · exact hIC (hb.symm.trans q')
          · exact (below ax haxlt).1 ((List.mem_singleton.mp hb).symm.trans q')) e
        obtain ⟨oI, heI⟩ : ∃ o, h₃.get? I = some o := by obtain ⟨o, e, _⟩ := hst₃.1; exact ⟨o, e⟩
        obtain ⟨oC, heC, hoC⟩ := ns_obj hn₃
        have F₃ : Fr h₀ L h₃ m := (fr_but F' hk₂ hIL hI₀).change hs₃ hCL hC₀
        have N₂ : News h₀ L h₂ ((h1.objs.size, lst ys) :: news) := news_but N' hk₂ fun p hp => by
          rcases List.mem_cons.mp hp with rfl | hp
          · exact Ne.symm hID
          · exact (off3 p hp).1
        have N₃ : News h₀ L h₃ ((I, oI) :: (H2.objs.size, oC) :: (h1.objs.size, lst ys) :: news) := fun p hp => by
          rcases List.mem_cons.mp hp with rfl | hp
          · exact ⟨heI, Ne.symm hIL, hI₀⟩
          · rcases List.mem_cons.mp hp with rfl | hp
            · exact ⟨heC, hCL, hC₀⟩
            · have z := N₂ p hp
              refine ⟨hs₃.extBut _ _ ?_ z.1, z.2⟩
              rcases List.mem_cons.mp hp with rfl | hp
              · exact hDC
              · exact (off3 p hp).2.1
        refine wpAny_mono (inner i v I oI H2.objs.size oC h1.objs.size ys _ h₃ _ _ (by simpa using hPv) hI' hoC (by simp) F₃ N₃) (fun xv s₄ h₄ => ?_) fun _ _ e => e
        refine wpAny_mono (inner2_go (t0 := .Name x px) (i0 := i0) (i1 := i1) (py := py) (pos := pos) hh hkind hy hxy (hsz i) hI' hIC hID (Ne.symm hDC) off₀ h₄) (fun it1 s₅ h₅ => codeAny_mono h₅ fun r s₆ h₆ => ?_) fun _ _ e => e
        cases r with
        | error e => exact h₆.elim
        | ok f =>
          obtain ⟨h₇, tk₇, ys₇, m₇, rfl, F₇, n₇, N₇, I₇⟩ := h₆
          refine ⟨vs.length + 1 - (i + 1), turnLt hlt, h₇, tk₇, i + 1, ys₇, m₇, rfl, hlt, rfl, ?_, F₇, n₇, newsSub N₇ fun p hp => ?_, I₇⟩
          · have zI := (N₇ (I, oI) (.tail _ (.head _))).1
            have za := (N₇ _ (.tail _ (.tail _ hm))).1
            obtain ⟨⟨o', q, r⟩, _⟩ := hst₃
            rw [heI] at q
            cases q
            exact ⟨⟨oI, zI, r⟩, ⟨_, za, rfl, k, rfl⟩⟩
          · rcases List.mem_cons.mp hp with rfl | hp
            · exact .head _
            · exact .tail _ (.tail _ hp)
      · obtain rfl : i = vs.length := Nat.le_antisymm hi (Nat.not_lt.mp hlt)
        refine W.done _ _ _ hst' fun h₂ tk₂ hk₂ => ?_
        exact hRR _ _ h₂ tk₂ _ ys (fr_but F' hk₂ hIL hI₀) (news_but N' hk₂ fun p hp => by
          rcases List.mem_cons.mp hp with rfl | hp
          · exact Ne.symm hID
          · exact (off3 p hp).1) off₀.one (hn'.at' fun o e => hk₂ _ o (by simpa using Ne.symm hIC) e) hC₀ hD₀ hCL hDL (Ne.symm hDC) (fun p hp => (off3 p hp).2.1) (fin _ hI')
    · rcases List.mem_cons.mp hp with rfl | hp
      · exact ⟨hacc, hDL, hD₀⟩
      · exact ⟨old _ _ (N p hp).1, (N p hp).2⟩
  exact codeAny_compStart_list (loop _ ⟨_, rfl⟩) (W.self 0 _ _ _ hst₁ (loop _ ⟨_, rfl⟩))

set_option maxHeartbeats 1600000 in
theorem ListComp_2 {Q : Value → Shared → Prop} (F₀ : Fr h₀ L s.heap m)
    (hclos : closureFor scope env = pure cl) (hcell : ∀ y ∈ scope.names, y.2 ≠ .cell) (hkind : scope.kind = .function)
    (hnames : ∀ y ∈ scope.names, y.2 = .local → scope.names.lookup y.1 = some .local) (hx : scope.names.lookup x = some .local) (hy : scope.names.lookup y = some .local) (hxy : x ≠ y)
    (h : wpAny (model prog w) A (eval i0 env) (fun xv s₁ => Src2 prog w A h₀ L m env ifs elt i1 x y scope cl (FinE h₀ L m s₁ Q) xv s₁) E s)
    (hs : ∀ x, foldedSetIterable i0 env x = pure x := by intro _; rfl) (hs1 : ∀ en v, foldedSetIterable i1 en v = pure v := by intro _ _; rfl) :
    wpAny (model prog w) A (eval (comp2 elt (.Name x px) i0 (.Name y py) i1 ifs scope pos) env) Q E s := by
  rw [eval_ListComp]
  refine wpAny_comprehension_free (use := none) rfl hs hclos hkind hnames (wpAny_mono h (fun xv s₁ h₁ => ?_) fun _ _ e => e)
  obtain ⟨ax, vs, k, news, Inv, rfl, hh, F, N, hm, hlen, hI, hsz, inner, fin⟩ := h₁
  have za := N _ hm
  have hl : s₁.heap.IsList ax vs.toArray := ⟨_, za.1, rfl, k, rfl⟩
  have hlt : ax < s₁.heap.objs.size := Heap.lt_size za.1
  refine wpAny_pyIter_list hl ?_
  have up : ∀ b o, s₁.heap.get? b = some o → (s₁.heap.push { cls := .type "list_iterator", data := .fields #[.ref ax, .int 0 0] }).get? b = some o := fun b o e => Heap.get?_push_of_some _ e
  refine block2 (s := s₁) (tk1 := s₁.toks) (Fin := FinE h₀ L m s₁ Q) hh hcell hkind hx hy hxy hs1 hm (Nat.ne_of_lt hlt) ⟨⟨_, Heap.get?_push_size _ rfl, rfl, rfl⟩, hl.push _⟩ (by rw [Heap.size_push]; exact Nat.lt_succ_self _)
    (F.keeps up) (N.grown up) (Nat.ne_of_lt F.ns.lt) (next_is_new F) (fun p hp => Nat.ne_of_lt (Heap.lt_size (N p hp).1)) hI hsz inner fin ?_
  intro D C h tk m' ys F' N' o1 hn hC₀ hD₀ hCL hDL hCD offC fin
  refine ⟨m', hn, fun h'' hs'' => fin D h'' tk (F'.change hs'' hCL hC₀) (fun p hp => ?_) o1⟩
  refine ⟨hs''.extBut _ _ ?_ (N' p hp).1, (N' p hp).2⟩
  rcases List.mem_cons.mp hp with rfl | hp
  · exact Ne.symm hCD
  · exact offC p hp

end
end Nt

namespace Nt
open LCg
/-- a zip of two lists stands at I + 4, i items taken -/
def ZipAt (h : Heap) (I l1 l2 : Addr) (xs ys : List Value) (i : Nat) : Prop :=
  IsZip h (I + 4) (I + 2) (I + 3) .none ∧ IsPair h (I + 2) (.ref I) (.ref (I + 1)) ∧ (∃ a b, IsPair h (I + 3) a b) ∧ h.IsListIter I l1 i ∧ h.IsListIter (I + 1) l2 i ∧ h.IsList l1 xs.toArray ∧ h.IsList l2 ys.toArray
theorem zOut {c I : Nat} (h : c < I ∨ I + 4 < c) : c ∉ [I + 4, I + 3, I, I + 1] := fun hm => by
  have hm' : c = I + 4 ∨ c = I + 3 ∨ c = I ∨ c = I + 1 := by simpa using hm
  omega
theorem zFar {c I l1 l2 : Nat} (h : I + 4 < c) (h1 : l1 < I) (h2 : l2 < I) : c ∉ [I + 4, I + 2, I + 3, I, I + 1, l1, l2] := fun hm => by
  have hm' : c = I + 4 ∨ c = I + 2 ∨ c = I + 3 ∨ c = I ∨ c = I + 1 ∨ c = l1 ∨ c = l2 := by simpa using hm
  omega
section
variable {prog : Program} {w : World} {A : Around} {E : Value → Shared → Prop} {R : Result → Shared → Prop} {s : Shared} {h₀ : Heap} {L : Addr} {m : Str → Option Value} {elt i0 : Expr} {a b : Str} {pa pb tp : Pos} {kk : Nat} {scope : Scope} {cl : List (Str × Addr)} {pos : Pos} {env : Env}

def SrcZ (prog : Program) (w : World) (A : Around) (h₀ : Heap) (L : Addr) (m : Str → Option Value) (env : Env) (elt : Expr) (a b : Str) (scope : Scope) (cl : List (Str × Addr)) (Fin : List Value → Led → Prop) (xv : Value) (s : Shared) : Prop :=
  ∃ (I l1 l2 : Addr) (xs ys : List Value) (k1 k2 n : Nat) (news : Led) (Inv : Nat → List Value → Prop), xv = .ref (I + 4) ∧ A.handled = none ∧ Fr h₀ L s.heap m ∧ News h₀ L s.heap news ∧ (l1, listOf xs.toArray k1) ∈ news ∧ (l2, listOf ys.toArray k2) ∈ news ∧
    xs.length = n ∧ ys.length = n ∧ n ≤ 100000 ∧ ZipAt s.heap I l1 l2 xs ys 0 ∧ (∀ p ∈ news, p.1 < I) ∧ L < I ∧ h₀.objs.size ≤ I ∧ s.heap.objs.size = I + 5 ∧ Inv 0 [] ∧
    (∀ i x y oC C D zs m₃ h tk (E' : Value → Shared → Prop), xs[i]? = some x → ys[i]? = some y → Inv i zs → NsObj oC m₃ → m₃ a = some x → m₃ b = some y → Fr h₀ L h m → News h₀ L h ((C, oC) :: (D, lst zs) :: news) →
      wpAny (model prog w) A (eval elt (compEnvC scope cl C env)) (fun r s' => (∃ tk', s' = { s with heap := h, toks := tk' }) ∧ Inv (i + 1) (zs ++ [r])) E' { s with heap := h, toks := tk }) ∧
    ∀ zs, Inv n zs → Fin zs news

theorem zipSrc {l1 l2 : Addr} {xs ys : List Value} {k1 k2 n : Nat} {news : Led} {Fin : Shared → List Value → Led → Prop} (Inv : Nat → List Value → Prop) (hh : A.handled = none) (F : Fr h₀ L s.heap m) (N : News h₀ L s.heap news) (m1 : (l1, listOf xs.toArray k1) ∈ news) (m2 : (l2, listOf ys.toArray k2) ∈ news)
    (hx : xs.length = n) (hy : ys.length = n) (hn : n ≤ 100000) (hI : Inv 0 [])
    (elem : ∀ g i x y oC C D zs m₃ h tk (E' : Value → Shared → Prop), xs[i]? = some x → ys[i]? = some y → Inv i zs → NsObj oC m₃ → m₃ a = some x → m₃ b = some y → Fr h₀ L h m → News h₀ L h ((C, oC) :: (D, lst zs) :: news) →
      wpAny (model prog w) A (eval elt (compEnvC scope cl C env)) (fun r s' => (∃ tk', s' = { { s with heap := g } with heap := h, toks := tk' }) ∧ Inv (i + 1) (zs ++ [r])) E' { { s with heap := g } with heap := h, toks := tk })
    (fin : ∀ g zs, Inv n zs → Fin { s with heap := g } zs news) :
    wpAny (model prog w) A (call (.type "zip") [.ref l1, .ref l2]) (fun xv s₁ => SrcZ prog w A h₀ L m env elt a b scope cl (Fin s₁) xv s₁) E s := by
  have z1 := N _ m1
  have z2 := N _ m2
  have hl1 : s.heap.IsList l1 xs.toArray := ⟨_, z1.1, rfl, k1, rfl⟩
  have hl2 : s.heap.IsList l2 ys.toArray := ⟨_, z2.1, rfl, k2, rfl⟩
  refine call_zip_2 hl1 hl2 fun h' hz hTI hTO hi1 hi2 hsz hk => ?_
  exact ⟨s.heap.objs.size, l1, l2, xs, ys, k1, k2, n, news, Inv, rfl, hh, F.keeps hk, N.grown hk, m1, m2, hx, hy, hn, ⟨hz, hTI, ⟨_, _, hTO⟩, hi1, hi2, hl1.at fun o e => hk _ _ e, hl2.at fun o e => hk _ _ e⟩, fun p hp => Heap.lt_size (N p hp).1, F.ns.lt,
    (by
      have h1 := F.above
      exact Nat.le_of_lt (Nat.lt_of_le_of_lt h1 F.ns.lt)), hsz, hI, elem h', fin h'⟩

set_option maxHeartbeats 1600000 in
theorem Assign_ListComp_Z {z : Str} {pz spos : Pos} {Q : Flow → Shared → Prop} (F₀ : Fr h₀ L s.heap m) (hLe : env.locals = L)
    (hsw : swapsWith (.ListComp elt [⟨.Tuple [.Name a pa, .Name b pb] kk tp, i0, [], 0⟩] scope pos) (some (.Name z pz)) spos.line env = pure true)
    (hclos : closureFor scope env = pure cl) (hcell : ∀ y ∈ scope.names, y.2 ≠ .cell) (hkind : scope.kind = .function)
    (hnames : ∀ y ∈ scope.names, y.2 = .local → scope.names.lookup y.1 = some .local) (hxa : scope.names.lookup a = some .local) (hxb : scope.names.lookup b = some .local) (hab : a ≠ b)
    (hz : env.kindOf z = some .local) (hp : (env.scope.kind == .class || (env.scope.kind == .module && env.locals != env.globals)) = false)
    (h : wpAny (model prog w) A (eval i0 env) (fun xv s₁ => SrcZ prog w A h₀ L m env elt a b scope cl (FinA h₀ L m s₁ z Q) xv s₁) E s)
    (hs : ∀ x, foldedSetIterable i0 env x = pure x := by intro _; rfl) :
    wpAny (model prog w) A (exec (.Assign [.Name z pz] (.ListComp elt [⟨.Tuple [.Name a pa, .Name b pb] kk tp, i0, [], 0⟩] scope pos) spos) env) Q E s := by
  subst hLe
  rw [exec_Assign_Name_used _ _ _ _ hsw]
  refine wpAny_bind (wpAny_standAt (wpAny_bind ?_))
  show wpAny _ A (do let _ ← comprehension (.ListComp elt [⟨.Tuple [.Name a pa, .Name b pb] kk tp, i0, [], 0⟩] scope pos) scope env _ (newList []) false (eval i0 env) (some (assign (.Name z pz) env))) _ _ s
  refine wpAny_bind (wpAny_mono (wpAny_comprehension_free (use := some (assign (.Name z pz) env)) (Q := fun _ s' => Q .next s') rfl hs hclos hkind hnames
    (wpAny_mono h (fun xv s₁ h₁ => ?_) fun _ _ e => e)) (fun _ s' hq => wpAny_pure (wpAny_pure hq)) fun _ _ e => e)
  obtain ⟨I, l1, l2, xs, ys, k1, k2, n, news, Inv, rfl, hh, F, N, m1, m2, hlx, hly, hn, Z, hlt, hLI, h₀I, hsz, hI, elem, fin⟩ := h₁
  refine wpAny_pyIter_zip Z.1 ?_
  have lt1 := hlt _ m1
  have lt2 := hlt _ m2
  have W := KTurns.ofWalksU (elts := [.Name a pa, .Name b pb]) (k := kk) (pos := tp) (WalksT.zip2 (prog := prog) (w := w) hh _ _ _ _ _ _ _ (ktu_apart I l1 l2 lt1 lt2) xs.toArray ys.toArray).toU
  have hmin : min xs.toArray.size ys.toArray.size = n := by simp [hlx, hly]
  rw [hmin] at W
  have out : ∀ c : Nat, c < I ∨ I + 4 < c → c ∉ [I + 4, I + 3, I, I + 1] := fun c hc => zOut hc
  have gD : I + 4 < s₁.heap.objs.size := by rw [hsz]; exact Nat.lt_succ_self (I + 4)
  refine wpAny_newObj_type (wpAny_newFunctionEnv hcell (by intro y hy; simp at hy) (fun h₁ hns₁ hsb₁ => ?_) hkind)
  dsimp only at hns₁ hsb₁ ⊢
  generalize hH2 : s₁.heap.push { cls := .type "list", dict := none, data := .seq ([] : List Value).toArray } = H2 at hns₁ hsb₁ ⊢
  have hC : H2.objs.size = s₁.heap.objs.size + 1 := by rw [← hH2, Heap.size_push]
  have gC : I + 4 < H2.objs.size := by rw [hC]; exact Nat.lt_succ_of_lt gD
  have hDC : s₁.heap.objs.size ≠ H2.objs.size := by rw [hC]; exact Nat.ne_of_lt (Nat.lt_succ_self _)
  have below : ∀ b, b < s₁.heap.objs.size → b ≠ H2.objs.size ∧ b ≠ s₁.heap.objs.size := fun b hb => ⟨by rw [hC]; exact Nat.ne_of_lt (Nat.lt_succ_of_lt hb), Nat.ne_of_lt hb⟩
  have old : ∀ b o, s₁.heap.get? b = some o → h₁.get? b = some o := fun b o e => hsb₁.extBut b o (below b (Heap.lt_size e)).1 (Heap.get?_push_of_some _ (hH2 ▸ Heap.get?_push_of_some _ e))
  have hacc : h₁.get? s₁.heap.objs.size = some (lst []) := hsb₁.extBut _ _ hDC (Heap.get?_push_of_some _ (hH2 ▸ Heap.get?_push_size _ rfl))
  have hst₁ := W.frame 0 _ _ Z fun b _ o e => old b o e
  have hD₀ : h₀.get? s₁.heap.objs.size = none := Heap.get?_none_of_le (Nat.le_trans h₀I (Nat.le_trans (Nat.le_add_right I 4) (Nat.le_of_lt gD)))
  have hC₀ : h₀.get? H2.objs.size = none := Heap.get?_none_of_le (Nat.le_trans h₀I (Nat.le_trans (Nat.le_add_right I 4) (Nat.le_of_lt gC)))
  have hLlt : env.locals < s₁.heap.objs.size := F.ns.lt
  have hDL : s₁.heap.objs.size ≠ env.locals := Ne.symm (below _ hLlt).2
  have hCL : H2.objs.size ≠ env.locals := Ne.symm (below _ hLlt).1
  have oC : H2.objs.size ∉ [I + 4, I + 3, I, I + 1] := out _ (.inr gC)
  have oD : s₁.heap.objs.size ∉ [I + 4, I + 3, I, I + 1] := out _ (.inr gD)
  have fC : H2.objs.size ∉ [I + 4, I + 2, I + 3, I, I + 1, l1, l2] := zFar gC lt1 lt2
  have fD : s₁.heap.objs.size ∉ [I + 4, I + 2, I + 3, I, I + 1, l1, l2] := zFar gD lt1 lt2
  have frOf : ∀ {h h' : Heap}, Fr h₀ env.locals h m → (∀ b o, b ∉ [I + 4, I + 3, I, I + 1] → h.get? b = some o → h'.get? b = some o) → Fr h₀ env.locals h' m := fun F hk =>
    ⟨F.ns.at' fun o e => hk _ o (out _ (.inl hLI)) e, fun b o e => hk b o (out _ (.inl (Nat.lt_of_lt_of_le (Heap.lt_size e) h₀I))) (F.keep b o e), F.above⟩
  have newsOf : ∀ {h h' : Heap} {zs : List Value}, News h₀ env.locals h ((s₁.heap.objs.size, lst zs) :: news) → (∀ b o, b ∉ [I + 4, I + 3, I, I + 1] → h.get? b = some o → h'.get? b = some o) → News h₀ env.locals h' ((s₁.heap.objs.size, lst zs) :: news) := fun N hk p hp => by
    refine ⟨hk _ _ ?_ (N p hp).1, (N p hp).2⟩
    rcases List.mem_cons.mp hp with rfl | hp
    · exact oD
    · exact out _ (.inl (hlt p hp))
  have loop : ∀ s₃ : Shared, (∃ tk, s₃ = { s₁ with heap := h₁, toks := tk }) →
      codeAny (model prog w) A (.compLoop (.ListComp elt [⟨.Tuple [.Name a pa, .Name b pb] kk tp, i0, [], 0⟩] scope pos) 0 (.ref (I + 4)) (.ref s₁.heap.objs.size) (compEnvC scope cl H2.objs.size env))
        (compPost (model prog w) A E (some (assign (.Name z pz) env)) (fun _ s' => Q .next s') (.ref s₁.heap.objs.size) H2.objs.size) s₃ := by
    rintro s₃ ⟨tk₀, rfl⟩
    refine kcp_loop
      (fun k s' => ∃ h' tk i zs m', s' = { s₁ with heap := h', toks := tk } ∧ i ≤ n ∧ k = n + 1 - i ∧ zs.length = i ∧ ZipAt h' I l1 l2 xs ys i ∧ Fr h₀ env.locals h' m ∧ h'.Ns H2.objs.size m' ∧ News h₀ env.locals h' ((s₁.heap.objs.size, lst zs) :: news) ∧ Inv i zs) ?_ (n + 1)
      ⟨h₁, _, 0, [], _, rfl, Nat.zero_le _, rfl, rfl, hst₁, F.keeps old, hns₁, fun p hp => ?_, hI⟩
    · rintro k s' ⟨h', tk, i, zs, m', rfl, hi, rfl, hzl, hst', F', hn', N', hI'⟩
      by_cases hlt' : i < n
      · refine W.item i _ _ _ hlt' hst' fun v h₂ tk₂ hMd hk₂ => ?_
        refine W.go i v _ _ _ hMd fun h₃ hP hst₃ hk₃ => ?_
        obtain ⟨T, vals, rfl, ⟨x, y, hx, hy, rfl⟩, hT⟩ := hP
        have up₃ : ∀ c o, c ∉ [I + 4, I + 3, I, I + 1] → h'.get? c = some o → h₃.get? c = some o := fun c o hc e => hk₃ c o hc (hk₂ c o hc e)
        refine kcp_assign (env := compEnvC scope cl H2.objs.size env) hh hT (lookup_relabel_local hxa) (lookup_relabel_local hxb) (by simp [compEnvC, relabel, hkind]) (hn'.at' fun o e => up₃ _ o oC e) fun h₄ tk₄ hn₄ hs₄ => ?_
        have hst₄ := W.frame (i + 1) _ _ hst₃ fun c hc o e => hs₄ c o (fun q => fC (by have q' : c = H2.objs.size := q; rw [← q']; exact hc)) e
        have F₃ := frOf F' up₃
        have F₄ : Fr h₀ env.locals h₄ m := ⟨F₃.ns.at' fun o e => hs₄ _ o (Ne.symm hCL) e, fun c o e => hs₄ c o (fun q => by have q' : c = H2.objs.size := q; rw [q', hC₀] at e; cases e) (F₃.keep c o e), F₃.above⟩
        obtain ⟨oCc, heC, hoC⟩ := ns_obj hn₄
        have N₃ := newsOf N' up₃
        have N₄ : News h₀ env.locals h₄ ((H2.objs.size, oCc) :: (s₁.heap.objs.size, lst zs) :: news) := fun p hp => by
          rcases List.mem_cons.mp hp with rfl | hp
          · exact ⟨heC, hCL, hC₀⟩
          · have q := N₃ p hp
            refine ⟨hs₄ _ _ ?_ q.1, q.2⟩
            rcases List.mem_cons.mp hp with rfl | hp
            · exact hDC
            · exact (below _ (Heap.lt_size (N p hp).1)).1
        refine wpAny_mono (elem i x y oCc H2.objs.size s₁.heap.objs.size zs _ h₄ _ _ (by simpa using hx) (by simpa using hy) hI' hoC (by simp only [if_neg hab, if_true]) (by simp only [if_true]) F₄ N₄) (fun r s₅ h₅ => ?_) fun _ _ e => e
        obtain ⟨⟨tk₅, rfl⟩, hI₅⟩ := h₅
        have zD := (N₄ (s₁.heap.objs.size, lst zs) (List.mem_cons_of_mem _ List.mem_cons_self)).1
        refine append_at (hsz := by show zs.toArray.size ≤ sizeLine; rw [List.size_toArray, hzl, sizeLine_eq]; omega) zD fun h₅ hs₅ hD₅ => ?_
        refine ⟨n + 1 - (i + 1), turnLt hlt', h₅, tk₅, i + 1, zs ++ [r], _, rfl, hlt', rfl, by rw [List.length_append, List.length_singleton, hzl], W.frame _ _ _ hst₄ fun c hc o e => hs₅.extBut c o (fun q => fD (q ▸ hc)) e, F₄.change hs₅ hDL hD₀, hn₄.sameBut hs₅ (Ne.symm hDC), fun p hp => ?_, hI₅⟩
        rcases List.mem_cons.mp hp with rfl | hp
        · exact ⟨hD₅.trans (congrArg some (lst_snoc zs r)), hDL, hD₀⟩
        · have q := N₄ p (List.mem_cons_of_mem _ (List.mem_cons_of_mem _ hp))
          exact ⟨hs₅.extBut _ _ (below _ (Heap.lt_size (N p hp).1)).2 q.1, q.2⟩
      · obtain rfl : i = n := Nat.le_antisymm hi (Nat.not_lt.mp hlt')
        refine W.done _ _ _ hst' fun h₂ tk₂ hk₂ => ?_
        have F₂' := frOf F' hk₂
        have N₂' := newsOf N' hk₂
        have n₂' := hn'.at' fun o e => hk₂ _ o oC e
        show wpAny _ A (assign (.Name z pz) env (.ref s₁.heap.objs.size)) _ _ _
        refine wpAny_assign_Name (wpAny_storeName_local hz F₂'.ns (fun h₅ hn₅ hs₅ => ?_) hp)
        have hL₀ : h₀.get? env.locals = none := Heap.get?_none_of_le F₂'.above
        have F₅ : Fr h₀ env.locals h₅ (fun q => if q = z then some (.ref s₁.heap.objs.size) else m q) := ⟨hn₅, fun b o e => hs₅.extBut b o (fun q => by rw [q, hL₀] at e; cases e) (F₂'.keep b o e), F₂'.above⟩
        refine ⟨m', n₂'.sameBut hs₅ hCL, fun h'' hs'' => fin _ hI' _ h'' _ (F₅.change hs'' hCL hC₀) (fun p hp => ?_) ?_⟩
        · have zz : h₅.get? p.1 = some p.2 := hs₅.extBut _ _ (N₂' p hp).2.1 (N₂' p hp).1
          refine ⟨hs''.extBut _ _ ?_ zz, (N₂' p hp).2⟩
          rcases List.mem_cons.mp hp with rfl | hp
          · exact hDC
          · exact (below _ (Heap.lt_size (N p hp).1)).1
        · have o1 : ∀ l : Led, (∀ p ∈ l, p.1 ≠ s₁.heap.objs.size) → Off1 s₁.heap.objs.size l := fun l => by
            induction l with
            | nil => intro _; trivial
            | cons q l ih => intro hq; exact ⟨hq q List.mem_cons_self, ih fun p hp => hq p (List.mem_cons_of_mem _ hp)⟩
          exact o1 _ fun p hp => (below _ (Heap.lt_size (N p hp).1)).2
    · rcases List.mem_cons.mp hp with rfl | hp
      · exact ⟨hacc, hDL, hD₀⟩
      · exact ⟨old _ _ (N p hp).1, (N p hp).2⟩
  exact codeAny_compStart_list (loop _ ⟨_, rfl⟩) (wpAny_pyIter_zip hst₁.1 (loop _ ⟨_, rfl⟩))
end
end Nt

namespace Nt
theorem fillK_all (P : Params) : PySem.Challenge.rw_nt0552_01.prog = PySem.Challenge.rw_nt0552_01.prog ∧ hd.heap_39 P = hd.heap_39 P := by
  w_top off
  k_fill
  exact ⟨rfl, rfl⟩
local macro_rules | `(tactic| walk_at $s:str) => `(tactic| k_extra $s)
local macro_rules | `(tactic| k_mem) => `(tactic| k_extra "nt_in")
local macro_rules | `(tactic| k_all) => `(tactic| k_extra "nt_all")
local macro_rules | `(tactic| k_lt $h:ident) => `(tactic| (replace $h := allLt_of $h; revert $h:ident; k_extra "nt_ltin"; intro $h:ident))
local macro_rules | `(tactic| omega) => `(tactic| k_extra "nt_omega")
local macro_rules | `(tactic| k_room) => `(tactic| k_extra "nt_room")
theorem words_1 : True := by
  k_with "nt_pick" => first | with_reducible assumption | (with_reducible apply picka; with_reducible assumption) | (with_reducible apply pickb; with_reducible assumption) | (with_reducible apply lastb; with_reducible assumption) | (with_reducible apply pickc; with_reducible assumption) | (with_reducible apply lastc; with_reducible assumption) | (with_reducible apply pickd; with_reducible assumption) | (with_reducible apply lastd; with_reducible assumption) | (with_reducible apply picke; with_reducible assumption) | (with_reducible apply laste; with_reducible assumption) | (with_reducible apply pickf; with_reducible assumption) | (with_reducible apply lastf; with_reducible assumption) | (with_reducible apply pickg; with_reducible assumption) | (with_reducible apply lastg; with_reducible assumption) | (with_reducible apply pickh; with_reducible assumption) | (with_reducible apply lasth; with_reducible assumption) | (with_reducible apply picki; with_reducible assumption) | (with_reducible apply lasti; with_reducible assumption) | (with_reducible apply pickj; with_reducible assumption) | (with_reducible apply lastj; with_reducible assumption) | (with_reducible apply pickk; with_reducible assumption) | (with_reducible apply lastk; with_reducible assumption) | (with_reducible apply pickl; with_reducible assumption) | (with_reducible apply lastl; with_reducible assumption) | (with_reducible apply pickm; with_reducible assumption) | (with_reducible apply lastm; with_reducible assumption) | (with_reducible apply pickn; with_reducible assumption) | (with_reducible apply lastn; with_reducible assumption) | (with_reducible apply picko; with_reducible assumption) | (with_reducible apply lasto; with_reducible assumption) | (with_reducible apply pickp; with_reducible assumption) | (with_reducible apply lastp; with_reducible assumption) | (with_reducible apply pickq; with_reducible assumption) | (with_reducible apply lastq; with_reducible assumption) | (with_reducible apply pickr; with_reducible assumption) | (with_reducible apply lastr; with_reducible assumption)
  k_with "nt_omega" => first | with_reducible assumption | decide | (with_reducible apply roomA; with_reducible assumption; decide) | (with_reducible apply roomB; with_reducible assumption; decide) | (with_reducible apply roomC; with_reducible assumption) | (with_reducible apply fitLt; with_reducible assumption; decide) | (with_reducible apply fitLs; with_reducible assumption; decide) | (with_reducible apply fitLe; with_reducible assumption; decide) | (with_reducible apply fitLf; with_reducible assumption; decide) | (with_reducible apply fitGt; with_reducible assumption; decide) | (with_reducible apply fitGs; with_reducible assumption; decide) | (with_reducible apply fitGe; with_reducible assumption; decide) | (with_reducible apply fitGf; with_reducible assumption; decide) | (with_reducible apply natLt; with_reducible assumption; decide) | (with_reducible apply natLe; with_reducible assumption; decide) | (with_reducible apply natLf; with_reducible assumption; decide) | (with_reducible apply castLe; with_reducible assumption; decide) | (with_reducible apply castLt; with_reducible assumption; decide) | (with_reducible apply castPos; with_reducible assumption) | (with_reducible apply castGe; decide) | (with_reducible apply castGt; decide) | (with_reducible exact idxGe) | (with_reducible exact idxNat) | (with_reducible exact eqZr) | (with_reducible apply eqZ; with_reducible assumption) | (with_reducible apply lenZ; with_reducible assumption) | (with_reducible apply idxLe; with_reducible assumption; with_reducible assumption; decide) | (with_reducible apply lenLe; with_reducible assumption; with_reducible assumption; with_reducible assumption; decide) | (with_reducible apply lenLf; with_reducible assumption; with_reducible assumption; decide) | (with_reducible apply idxLt; with_reducible assumption; with_reducible assumption; decide) | (with_reducible apply idxLs; with_reducible assumption; with_reducible assumption; decide) | ((with_reducible show (_ : Nat) ≠ _); walk_at "nt_ne0") | omega (splitDisjunctions := true)
  k_with "nt_ltin" => (intro zl9; simp only [List.cons_append, List.nil_append, List.append_assoc, allLtApp, AllLt, and_true] at zl9; revert zl9)
  k_with "nt_all" => first | exact OwnOff.ne (by assumption) (by k_memK) | exact allLtNe (by assumption) | exact OwnOff.ne (offBelow (adr := [_]) (by assumption) (by walk_at "nt_les")) List.mem_cons_self | (refine allApp ?_ ?_ <;> k_all)
  k_with "nt_in" => first | with_reducible assumption | exact List.mem_cons_self | (refine List.mem_cons_of_mem _ ?_; walk_at "nt_in") | (refine List.mem_append.mpr (Or.inl ?_); with_reducible assumption) | (refine List.mem_append.mpr (Or.inr ?_); walk_at "nt_in")
  k_with "nt_subs" => ((try dsimp only); (repeat (first | exact subSelf | exact subNil | refine subKeep ?_ | refine subKeepApp ?_ | exact subLeft subSelf | refine subTail ?_ | refine subRight ?_)); done)
  k_with "nt_subc" => ((try dsimp only); (repeat (first | exact subNil | (apply subCons; walk_at "nt_in"))); first | walk_at "nt_subs" | (refine subApp ?_ ?_ <;> walk_at "nt_subc"))
  k_with "nt_sub" => first | exact subSelf | (with_reducible walk_at "nt_subs") | (walk_at "nt_subc") | (intro p hp; (try dsimp only at hp ⊢); simp only [List.mem_append, List.mem_cons, List.not_mem_nil, or_false, false_or] at hp ⊢; grind)
  k_with "subscriptTail" => (k_here; (with_reducible show wpAny _ _ (subscriptTail _ _ (Value.ref _) (Value.int _ _)) _ _ _); k_dflt (refine' itemAt ?iN ?im ?ia ?ib ?ix ?_ ?is; (case iN => k_asm); (case im => k_mem); (case ia => first | with_reducible assumption | omega); (case ib => first | with_reducible assumption | omega); (case ix => with_reducible assumption); (case is => with_unfolding_all rfl); k_whole))
  k_with "nt_room" => first | omega | decide | (simp only [ktrTop, Around.deeper]; omega) | (simp only [depth_under_make, depth_under_kw, depth_in1, depth_deeper, depth_caller, units_in1, units_deeper, units_caller, Around.mark_units]; omega) | (simp only [ktrTop, Around.deeper, Around.under] at *; omega)
  k_with "nt_enter" => (refine wpAny_call ?_; k_dflt (refine' code_def ?k1 ?k2 ?k3 ?k4 ?k5 ?kA ?kF ?kK ?k6 ?k7 ?k8 ?k9 ?kB ?_ ?c2 ?c3 ?c4 ?c5; (case kA => exact rfl); (case kF => exact rfl); (case kK => first | assumption | exact rfl); (case k1 => k_asm); (case k2 => k_asm); (case k3 => k_asm); (case k4 => k_asm); (case k5 => k_asm); (case k6 => k_is); (case k7 => k_is); (case k8 => walk_at "nt_room"); (case k9 => exact BindsTo.of_eq rfl); (case c5 => decide); (case kB => exact locs rfl); (case c2 => exact rfl); (case c3 => exact rfl); (case c4 => exact rfl); k_whole))
  k_with "nt_enterC" => (refine wpAny_call ?_; k_dflt (refine' code_defC ?k1 ?k2 ?k3 ?k4 ?k5 ?kA ?kF ?kK ?k6 ?k7 ?k8 ?k9 ?kB ?kD ?_ ?c2 ?c3 ?c4; (case kA => exact rfl); (case kF => exact rfl); (case kK => first | assumption | exact rfl); (case k1 => k_asm); (case k2 => k_asm); (case k3 => k_asm); (case k4 => k_asm); (case k5 => k_asm); (case k6 => k_is); (case k7 => k_is); (case k8 => walk_at "nt_room"); (case k9 => exact BindsTo.of_eq rfl); (case kB => exact rfl); (case kD => decide +kernel); (case c2 => exact rfl); (case c3 => exact rfl); (case c4 => exact rfl); k_whole))
  k_with "nt_split" => first | exact split14 | exact split13 | exact split12 | exact split11 | exact split10 | exact split9 | exact split8 | exact split7 | exact split6 | exact split5 | exact split4 | exact split3 | exact split2 | exact split1 | exact Split.nil _
  k_with "nt_nes" => (repeat (first | exact List.forall_mem_nil _ | refine List.forall_mem_cons.mpr ⟨by (refine neN ?_; (try dsimp only); walk_at "nt_ne"), ?_⟩))
  k_with "nt_leup" => ((repeat (first | with_reducible exact Nat.le_refl _ | with_reducible apply leUp)); done)
  k_with "nt_le" => first | walk_at "nt_leup" | (with_reducible apply leA; walk_at "nt_pick") | (with_reducible apply leB; walk_at "nt_pick") | (with_reducible apply leC; walk_at "nt_pick") | (with_reducible apply leD; walk_at "nt_pick") | (with_reducible apply leE; walk_at "nt_pick") | omega (splitDisjunctions := true)
  k_with "nt_ne0" => first | (with_reducible apply neUp; walk_at "nt_leup") | (with_reducible apply neDn; walk_at "nt_leup") | (with_reducible apply Nat.ne_of_lt; walk_at "nt_pick") | (with_reducible apply Nat.ne_of_gt; walk_at "nt_pick") | walk_at "nt_pick" | (with_reducible apply Ne.symm; walk_at "nt_pick")
  k_with "nt_ne" => first | walk_at "nt_ne0" | omega (splitDisjunctions := true)
  k_with "nt_les" => (repeat (first | exact List.forall_mem_nil _ | refine List.forall_mem_cons.mpr ⟨by (refine leN ?_; (try dsimp only); walk_at "nt_le"), ?_⟩))
  k_with "nt_lts" => (repeat (first | exact List.forall_mem_nil _ | refine List.forall_mem_cons.mpr ⟨by (first | walk_at "nt_pick" | assumption | (simp only [*]; done)), ?_⟩))
  k_with "nt_off" => first | exact offNone | assumption | exact offNil | (refine offCons ?_ ?_; (walk_at "nt_nes"); (walk_at "nt_off")) | (refine allApp ?_ ?_ <;> walk_at "nt_off") | (rename OwnOff _ (_ :: _ :: _) => oz9; exact fun p hp b hb => oz9 p hp b (List.mem_cons.mpr (.inl (List.mem_singleton.mp hb)))) | exact offBelow (by assumption) (by walk_at "nt_les") | exact offLt (by walk_at "nt_lts")
  k_with "nt_ps" => ((try dsimp only); repeat (first | exact List.forall_mem_nil _ | refine List.forall_mem_cons.mpr ⟨by with_unfolding_all rfl, ?_⟩))
  k_with "nt_for" => (k_here; (rename Fr _ _ _ _ => lF'); (with_unfolding_all refine' For_turns lF' ?_); k_whole)
  k_with "exec For Name Call cons nil" => walk_at "nt_for"
  k_with "exec For Name Name cons nil" => walk_at "nt_for"
  k_with "exec For Tuple Name cons nil" => walk_at "nt_for"
  k_with "pyIter ref" => ((with_reducible show wpAny _ _ (pyIter (Value.ref _)) (fun it s₂ => TurnsAt _ _ _ _ _ _ _ _ _ it s₂) _ _); refine stopIt ?_)
  k_with "CompSrc" => (refine stopIt ?_)
  k_with "nt_lt" => first | walk_at "nt_pick" | assumption | (simp only [*]; done) | exact allLt_of (by assumption)
  k_with "nt_ap" => first | assumption | exact Ap.nil | (refine Ap.consL ?_ ?_; (walk_at "nt_lt"); (walk_at "nt_ap")) | exact Ap.sub (by assumption) (by walk_at "nt_sub") (by walk_at "nt_sub")
  k_with "nt_mem" => (simp only [List.mem_append, List.mem_cons, true_or, or_true]; done)
  k_with "isTrue BoolOp And" => ((fail_if_success (rename NoHalt => nh9)); refine stopIt ?_)
  k_with "nt_lts2" => ((try dsimp only); (simp only [List.cons_append, List.nil_append, allLtApp, AllLt, and_true]); first | with_reducible assumption | ((repeat' (with_reducible refine And.intro ?_ ?_)) <;> walk_at "nt_pick") | assumption | (simp only [*]; done) | grind)
  k_with "eval IfExp" => ((rename HaltIf => hi9); (fail_if_success (rename NoHalt => nh9)); refine stopIt ?_)
  k_with "subscriptTail Attribute" => k_extra "subscriptTail"
  k_with "subscriptTail Subscript" => k_extra "subscriptTail"
  k_with "subscriptTail Name" => k_extra "subscriptTail"
  exact True.intro
set_option maxHeartbeats 8000000 in
theorem c_kept (w : World) (p : Int) (tp : Tok) (n : Int) (tn : Tok) : Ctr w 1 95 [.int p tp, .int n tn] (fun _ => True) (OutI (kp p n)) := by
  refine Ctr.of ?_
  intro mean mg mb dp un gd cn cs a ccd cl outer A₀ base h₀ L m news s Q E B F X N T hk hP hd hu hret
  walk_at "nt_enter"
  intro g1 L1 h1 FG F1 N1 B1 X1 T1
  try dsimp only
  k_fold
  k_steps
  all_goals (refine retI hret (by k_asm) (by k_asm) (by walk_at "nt_sub") ?_; unfold kp; simp only [*, if_true, if_false])
theorem words_2 : True := by
  k_with "nt_int" => (intro r9 tl9 h9 tk9 F9 N9 o9 a9 e9; obtain ⟨e8, t9, e7⟩ := e9; subst e8; subst e7; (simp only [List.nil_append, List.cons_append] at N9); clear o9 a9; (try dsimp only); (try k_sweep); (try k_fold))
  k_with "call ref" => (k_here; (with_reducible show wpAny _ _ (call (Value.ref 95) [Value.int _ _, Value.int _ _]) _ _ _); k_dflt (refine' Ctr.use (c_kept _ _ _ _ _) ?B ?F ?X ?N ?T ?hk (Split.nil _) ?P ?hd ?hu ?_; (case B => k_asm); (case F => k_asm); (case X => k_asm); (case N => k_asm); (case T => k_asm); (case hk => first | exact rfl | assumption); (case hd => walk_at "nt_room"); (case hu => walk_at "nt_room"); (case P => exact trivial); walk_at "nt_int"))
  exact True.intro
set_option maxHeartbeats 8000000 in
theorem c_at (w : World) (v : Value) (W H : Nat) (f : Nat → Nat → Int) (x : Int) (tx : Tok) (y : Int) (ty : Tok) : Ctr w 2 74 [v, .int x tx, .int y ty] (fun news => PlaneL w.params news v W H f) (OutI (pix f W H x y)) := by
  refine Ctr.of ?_
  intro mean mg mb dp un gd cn cs a ccd cl outer A₀ base h₀ L m news s Q E B F X N T hk hP hd hu hret
  obtain ⟨pa, pd, pr, rvs, k, t1, t2, t3, tw, th, rfl, m1, m2, m3, ⟨hlen, hrow⟩, hW, hW', hH, hH'⟩ := hP
  have y0 := kp_nonneg (p := y) (n := H) (by omega)
  have y1 := kp_lt (p := y) (n := H) (by omega)
  have x0 := kp_nonneg (p := x) (n := W) (by omega)
  have x1 := kp_lt (p := x) (n := W) (by omega)
  obtain ⟨rv, hrv, ra, vs, k2, rfl, m4, hI⟩ := hrow (kp y H).toNat (by omega)
  obtain ⟨t4, hv⟩ := hI.get (kp x W).toNat _ (rowOf_get (by omega))
  walk_at "nt_enter"
  intro g1 L1 h1 FG F1 N1 B1 X1 T1
  try dsimp only
  k_fold
  k_steps
  all_goals (exact retI hret (by k_asm) (by k_asm) (by walk_at "nt_sub") rfl)
theorem words_3 : True := by
  k_with "nt_plane" => first | assumption | exact PlaneL.mono (by assumption) (by walk_at "nt_sub")
  k_with "call ref" => (k_here; (with_reducible show wpAny _ _ (call (Value.ref 74) [_, Value.int _ _, Value.int _ _]) _ _ _); k_dflt (refine' Ctr.use (c_at _ _ _ _ _ _ _ _ _) ?B ?F ?X ?N ?T ?hk (Split.nil _) ?P ?hd ?hu ?_; (case B => k_asm); (case F => k_asm); (case X => k_asm); (case N => k_asm); (case T => k_asm); (case hk => first | exact rfl | assumption); (case P => walk_at "nt_plane"); (case hd => walk_at "nt_room"); (case hu => walk_at "nt_room"); walk_at "nt_int"))
  exact True.intro
set_option maxHeartbeats 8000000 in
theorem c_cut (w : World) (v : Value) (W H : Nat) (f : Nat → Nat → Int) (x : Int) (tx : Tok) (y : Int) (ty : Tok) (w1 : Int) (tw' : Tok) (h1' : Int) (th' : Tok) (w' h' : Nat) (ew : w1 = w') (eh : h1' = h') (hw : 0 < w') (hw' : w' ≤ 100) (hh : 0 < h') (hh' : h' ≤ 100) :
    Ctr w 3 100 [v, .int x tx, .int y ty, .int w1 tw', .int h1' th'] (fun news => PlaneL w.params news v W H f) (fun tl r => PlaneL w.params tl r w' h' (fun i j => pix f W H (x + i) (y + j))) := by
  subst ew
  subst eh
  refine Ctr.of ?_
  intro mean mg mb dp un gd cn cs a ccd cl outer A₀ base h₀ L m news s Q E B F X N T hk hP hd hu hret
  have hPc := hP
  obtain ⟨pa, pd, pr, rvs0, k0, pt1, pt2, pt3, ptw, pth, rfl, m1, m2, m3, hrows0, hW, hW2, hH, hH2⟩ := hPc
  walk_at "nt_enterC"
  intro g1 L1 h1 tk1 cells FG F1 N1 Y1 B1 X1 T1 l1
  obtain ⟨o1, o2, o3, o4, ec, d1, d2, d3, d4⟩ := CellsAre.four Y1
  subst ec
  clear Y1
  simp only [List.cons_append, List.nil_append] at N1
  try dsimp only
  k_fold
  replace d1 : o1.data = .cell none := d1
  replace d2 : o2.data = .cell (some (.int y ty)) := d2
  replace d3 : o3.data = .cell (some (.int x tx)) := d3
  replace d4 : o4.data = .cell (some (.ref pa)) := d4
  k_steps
  rename_i rl _ lr _ _ _ _ _ _ _ _ R2 F2 N2 K2
  unfold Halt
  refine nt_range (n := h') (σ := List Value × Nat × Obj) (fun c => [(rl, listOf c.1.toArray c.2.1), (L1 + 1 + 1 + 1 + 1, c.2.2)]) ((L1 + 1 + 1 + 1, o2) :: (L1 + 1 + 1, o3) :: (L1 + 1, o4) :: news) (fun _ => [(Str.ofString "rows", .ref rl), (Str.ofString "width", .int w' tw'), (Str.ofString "height", .int h' th')])
    (fun i c tl => (∃ q, c.2.2.data = .cell q) ∧ RowsL tl c.1 w' i (fun i j => pix f W H (x + i) (y + j))) [rl, L1 + 1 + 1 + 1 + 1] ([], 0, o1) (fun _ _ => rfl) rfl R2 (by omega) (by omega) (by omega) F2 N2 (by walk_at "nt_sub") (fun _ => rfl) (by walk_at "nt_off") (by walk_at "nt_ps") ⟨⟨_, d1⟩, rfl, fun j hj => absurd hj (by omega)⟩ ?turn ?done
  case turn =>
    rintro i t ⟨rvs, kk, oc⟩ tl u h tk own hi ⟨⟨q, dq⟩, hlen, hrows⟩ ho ha F3 N3
    dsimp only at *
    simp only [List.cons_append, List.nil_append] at N3
    k_sweep
    k_fold
    k_steps
    rename_i _ oy _ _ dy _ _ _ _ _ R4 F4 N4 K4
    unfold Halt
    refine nt_compInts (n := w') (fun j => pix f W H (x + j) (y + i)) rfl F4 N4 R4 (by omega) (by omega) (by omega) ?elt ?fin
    case elt =>
      intro g' j t' ys I oI C oC D m₂ h5 tk5 E' hj hC hx F5 N5
      simp only [List.cons_append, List.nil_append, List.append_assoc] at N5
      k_sweep
      k_fold
      k_steps
      exact EltInt.intro (by k_asm) (by k_asm) (by walk_at "nt_sub") (by simp only [Int.zero_add])
    case fin =>
      intro g' ys hys
      unfold LCg.FinE
      intro D h5 tk5 F5 N5 off5
      have ap5 := Ap.one (o := LCg.lst ys) off5
      simp only [LCg.Off1] at off5
      k_sweep
      (try k_unfold)
      (try simp only [List.cons_append, List.nil_append])
      (try dsimp only)
      k_steps
      rename News _ _ _ _ => Nz
      rename Fr _ _ _ _ => Fz
      (try rw [pushArr] at Nz)
      unfold TurnPostX
      exact TurnEndX.intro (rvs ++ [.ref D], kk + 1, oy) [(D, LCg.lst ys)] Fz Nz (by walk_at "nt_sub") (by walk_at "nt_ps") (ap5.congr rfl) ⟨⟨_, dy⟩, RowsL.snoc ⟨hlen, hrows⟩ ⟨D, ys, ys.length, rfl, List.mem_cons_self, hys⟩ (fun p hp => List.mem_cons_of_mem _ hp)⟩
  case done =>
    rintro ⟨rvs, kk, oc⟩ tl u h tk ⟨⟨q, dq⟩, hlen, hrows⟩ ho ha F3 N3
    dsimp only at *
    simp only [List.cons_append, List.nil_append] at N3
    k_sweep
    (try k_unfold)
    (try simp only [List.cons_append, List.nil_append])
    (try dsimp only)
    k_steps
    rename News _ _ _ _ => Nz
    rename Fr _ _ _ _ => Fz
    exact retPlane hret Fz Nz (by walk_at "nt_in") (by walk_at "nt_sub") ⟨hlen, hrows⟩ (by walk_at "nt_lt") (by refine ltN' ?_; omega) (by walk_at "nt_lt") (by walk_at "nt_ap") hw hw' hh hh'
theorem words_4 : True := by
  k_with "nt_args" => ((case B => k_asm); (case F => k_asm); (case X => k_asm); (case N => k_asm); (case T => k_asm); (case hk => first | exact rfl | assumption); (case hd => walk_at "nt_room"); (case hu => walk_at "nt_room"))
  k_with "nt_planeRes" => (intro r9 tl9 h9 tk9 F9 N9 o9 a9 e9; have e8 := e9; obtain ⟨pa9, pd9, pr9, rvs9, k9, t19, t29, t39, tw9, th9, eq9, m19, m29, m39, R9, b19, b29, b39, b49⟩ := e8; subst eq9; simp only [List.nil_append, List.cons_append, List.append_assoc] at N9; (try simp only [List.map_cons, List.map_nil] at o9); (try dsimp only); (try k_sweep); (try k_fold))
  k_with "call ref" => (k_here; (with_reducible show wpAny _ _ (call (Value.ref 100) [_, Value.int _ _, Value.int _ _, Value.int _ _, Value.int _ _]) _ _ _); k_dflt (refine' Ctr.use (c_cut _ _ _ _ _ _ _ _ _ _ _ _ _ _ _ ?ew ?eh ?p1 ?p2 ?p3 ?p4) ?B ?F ?X ?N ?T ?hk ?S ?P ?hd ?hu ?_; (case ew => first | assumption | rfl); (case eh => first | assumption | rfl); (case p1 => omega); (case p2 => omega); (case p3 => omega); (case p4 => omega); walk_at "nt_args"; (case P => walk_at "nt_plane"); (case S => walk_at "nt_split"); walk_at "nt_planeRes"))
  exact True.intro
set_option maxHeartbeats 8000000 in
theorem c_parted (w : World) (n : Int) (tn : Tok) (o : Int) (to : Tok) (k : Int) (tk : Tok) (h1 : 0 < k) (h2 : k ≤ 1000) (h3 : 0 < o) (h4 : o ≤ 1000) : Ctr w 1 107 [.int n tn, .int o to, .int k tk] (fun _ => True) (OutI ((n * o + k - 1).fdiv k)) := by
  refine Ctr.of ?_
  intro mean mg mb dp un gd cn cs a ccd cl outer A₀ base h₀ L m news s Q E B F X N T hk hP hd hu hret
  walk_at "nt_enter"
  intro g1 L1 h1 FG F1 N1 B1 X1 T1
  try dsimp only
  k_fold
  k_steps
  all_goals (exact retI hret (by k_asm) (by k_asm) (by walk_at "nt_sub") rfl)
noncomputable def bias (x a d : Int) : Int := if a = 2 ∧ d = 1 then x.fmod 2 else if a = 2 ∧ d = 2 then 1 + x.fmod 2 else (a * d).fdiv 2
set_option maxHeartbeats 8000000 in
theorem c_bias (w : World) (x : Int) (tx : Tok) (a : Int) (ta : Tok) (d : Int) (td : Tok) (ha : 0 < a) (ha' : a ≤ 100) (hd0 : 0 < d) (hd' : d ≤ 100) : Ctr w 1 126 [.int x tx, .int a ta, .int d td] (fun _ => True) (OutI (bias x a d)) := by
  refine Ctr.of ?_
  intro mean mg mb dp un gd cn cs a ccd cl outer A₀ base h₀ L m news s Q E B F X N T hk hP hd hu hret
  walk_at "nt_enter"
  intro g1 L1 h1 FG F1 N1 B1 X1 T1
  try dsimp only
  k_fold
  have nh : NoHalt := ⟨⟩
  k_steps
  all_goals (refine retI hret (by k_asm) (by k_asm) (by walk_at "nt_sub") ?_; unfold bias; simp_all)
theorem words_5 : True := by
  k_with "call ref" => (k_here; (with_reducible show wpAny _ _ (call (Value.ref 107) [Value.int _ _, Value.int _ _, Value.int _ _]) _ _ _); k_dflt (refine' Ctr.use (c_parted _ _ _ _ _ _ _ ?p1 ?p2 ?p3 ?p4) ?B ?F ?X ?N ?T ?hk (Split.nil _) ?P ?hd ?hu ?_; (case p1 => omega); (case p2 => omega); (case p3 => omega); (case p4 => omega); walk_at "nt_args"; (case P => exact trivial); walk_at "nt_int"))
  k_with "call ref" => (k_here; (with_reducible show wpAny _ _ (call (Value.ref 126) [Value.int _ _, Value.int _ _, Value.int _ _]) _ _ _); k_dflt (refine' Ctr.use (c_bias _ _ _ _ _ _ _ ?p1 ?p2 ?p3 ?p4) ?B ?F ?X ?N ?T ?hk (Split.nil _) ?P ?hd ?hu ?_; (case p1 => omega); (case p2 => omega); (case p3 => omega); (case p4 => omega); walk_at "nt_args"; (case P => exact trivial); walk_at "nt_int"))
  exact True.intro
noncomputable def meanV (g : Int → Int → Int) (x y a d : Int) : Int := (boxSum (fun t s => g (x * a + t) (y * d + s)) a.toNat d.toNat + bias x a d).fdiv (a * d)
set_option maxHeartbeats 8000000 in
theorem c_mean (w : World) (v : Value) (W H : Nat) (f : Nat → Nat → Int) (x : Int) (tx : Tok) (y : Int) (ty : Tok) (a1 : Int) (ta : Tok) (d1 : Int) (td : Tok) (ha : 0 < a1) (ha' : a1 ≤ 10) (hd1 : 0 < d1) (hd1' : d1 ≤ 10) :
    Ctr w 3 119 [v, .int x tx, .int y ty, .int a1 ta, .int d1 td] (fun news => PlaneL w.params news v W H f) (OutI (meanV (pix f W H) x y a1 d1)) := by
  refine Ctr.of ?_
  intro mean mg mb dp un gd cn cs a ccd cl outer A₀ base h₀ L m news s Q E B F X N T hk hP hd hu hret
  have hPc := hP
  obtain ⟨pa, pd, pr, rvs0, k0, pt1, pt2, pt3, ptw, pth, rfl, m1, m2, m3, hrows0, hW, hW2, hH, hH2⟩ := hPc
  have q1 : 0 < a1 * d1 := Int.mul_pos ha hd1
  have q2 : a1 * d1 ≤ 10 * 10 := Int.mul_le_mul ha' hd1' (by omega) (by omega)
  walk_at "nt_enter"
  intro g1 L1 h1 FG F1 N1 B1 X1 T1
  try dsimp only
  k_fold
  k_steps
  rename Fr _ _ _ _ => F2
  rename News _ _ _ _ => N2
  rename IsRange _ _ _ _ _ _ _ _ => R2
  unfold Halt
  refine nt_range (n := d1.toNat) (σ := Int × Tok) (fun _ => []) news (fun c => [(Str.ofString "plane", .ref pa), (Str.ofString "x", .int x tx), (Str.ofString "y", .int y ty), (Str.ofString "across", .int a1 ta), (Str.ofString "down", .int d1 td), (Str.ofString "total", .int c.1 c.2)])
    (fun i c tl => tl = [] ∧ c.1 = ((List.range i).map fun (s : Nat) => ((List.range a1.toNat).map fun (t : Nat) => pix f W H (x * a1 + t) (y * d1 + s)).sum).sum) [] (0, _) (fun _ _ => rfl) rfl R2 (by omega) (by omega) (by omega) F2 N2 (by walk_at "nt_sub") (fun _ => rfl) offNone (by walk_at "nt_ps") ⟨rfl, rfl⟩ ?turn ?done
  case turn =>
    rintro i t ⟨T0, tT⟩ tl u h tk own hi ⟨rfl, hT⟩ ho hap F3 N3
    dsimp only at hT
    simp only [List.nil_append] at N3
    clear ho hap
    k_sweep
    k_fold
    k_steps
    rename Fr _ _ _ _ => F4
    rename News _ _ _ _ => N4
    rename IsRange _ _ _ _ _ _ _ _ => R4
    unfold Halt
    refine nt_range (n := a1.toNat) (σ := Int × Tok) (fun _ => []) (news ++ own) (fun c => [(Str.ofString "plane", .ref pa), (Str.ofString "x", .int x tx), (Str.ofString "y", .int y ty), (Str.ofString "across", .int a1 ta), (Str.ofString "down", .int d1 td), (Str.ofString "step", .int (0 + (i : Int)) t), (Str.ofString "total", .int c.1 c.2)])
      (fun j c tl => tl = [] ∧ c.1 = T0 + ((List.range j).map fun (t : Nat) => pix f W H (x * a1 + t) (y * d1 + i)).sum) [] (T0, _) (fun _ _ => rfl) rfl R4 (by omega) (by omega) (by omega) F4 N4 (by walk_at "nt_sub") (fun _ => rfl) offNone (by walk_at "nt_ps") ⟨rfl, by simp⟩ ?turn2 ?done2
    case turn2 =>
      rintro j t2 ⟨T1, tT1⟩ tl2 u2 h2 tk2 own2 hj ⟨rfl, hT1⟩ ho2 hap2 F5 N5
      dsimp only at hT1
      simp only [List.nil_append, List.append_assoc] at N5
      clear ho2 hap2
      k_sweep
      k_fold
      k_steps
      rename News _ _ _ _ => Nz
      rename Fr _ _ _ _ => Fz
      unfold TurnPostX
      exact TurnEndX.intro (T1 + pix f W H (x * a1 + (0 + (j : Int))) (y * d1 + (0 + (i : Int))), _) [] Fz Nz (by walk_at "nt_sub") (by walk_at "nt_ps") Ap.nil ⟨rfl, by dsimp only; rw [sumSucc, hT1, Int.zero_add, Int.zero_add]; omega⟩
    case done2 =>
      rintro ⟨T1, tT1⟩ tl2 u2 h2 tk2 ⟨rfl, hT1⟩ ho2 hap2 F5 N5
      dsimp only at hT1
      simp only [List.nil_append] at N5
      clear ho2 hap2
      k_sweep
      (try k_unfold)
      (try simp only [List.cons_append, List.nil_append])
      (try dsimp only)
      k_steps
      unfold TurnPostX
      exact TurnEndX.intro (T1, tT1) [] F5 N5 (by walk_at "nt_sub") (by walk_at "nt_ps") Ap.nil ⟨rfl, by dsimp only; rw [sumSucc, hT1, hT]⟩
  case done =>
    rintro ⟨T0, tT⟩ tl u h tk ⟨rfl, hT⟩ ho hap F3 N3
    dsimp only at hT
    simp only [List.nil_append] at N3
    clear ho hap
    k_sweep
    (try k_unfold)
    (try simp only [List.cons_append, List.nil_append])
    (try dsimp only)
    k_steps
    exact retI hret (by k_asm) (by k_asm) (by walk_at "nt_sub") (by unfold meanV boxSum; rw [hT])
theorem words_6 : True := by
  k_with "call ref" => (k_here; (with_reducible show wpAny _ _ (call (Value.ref 119) [_, Value.int _ _, Value.int _ _, Value.int _ _, Value.int _ _]) _ _ _); k_dflt (refine' Ctr.use (c_mean _ _ _ _ _ _ _ _ _ _ _ _ _ ?p1 ?p2 ?p3 ?p4) ?B ?F ?X ?N ?T ?hk (Split.nil _) ?P ?hd ?hu ?_; (case p1 => omega); (case p2 => omega); (case p3 => omega); (case p4 => omega); walk_at "nt_args"; (case P => walk_at "nt_plane"); walk_at "nt_int"))
  exact True.intro
theorem meanV_one (g : Int → Int → Int) (x y : Int) : meanV g x y 1 1 = g x y := by
  unfold meanV boxSum bias
  simp
set_option maxHeartbeats 8000000 in
theorem c_shrunk (w : World) (v : Value) (W H : Nat) (f : Nat → Nat → Int) (a1 : Int) (ta : Tok) (b1 : Int) (td : Tok) (ha : 0 < a1) (ha' : a1 ≤ 10) (hb : 0 < b1) (hb' : b1 ≤ 10) :
    Ctr w 5 112 [v, .int a1 ta, .int b1 td] (fun news => PlaneL w.params news v W H f) (fun tl r => PlaneL w.params tl r (cd W a1) (cd H b1) (fun i j => meanV (pix f W H) i j a1 b1)) := by
  refine Ctr.of ?_
  intro mean mg mb dp un gd cn cs a ccd cl outer A₀ base h₀ L m news s Q E B F X N T hk hP hd hu hret
  have hPc := hP
  obtain ⟨pa, pd, pr, rvs0, k0, pt1, pt2, pt3, ptw, pth, rfl, m1, m2, m3, hrows0, hW, hW2, hH, hH2⟩ := hPc
  have ew := cd_eq (n := W) ha
  have eh := cd_eq (n := H) hb
  have cw0 := cd_pos hW ha
  have cw1 := cd_le hW ha
  have ch0 := cd_pos hH hb
  have ch1 := cd_le hH hb
  walk_at "nt_enterC"
  intro g1 L1 h1 tk1 cells FG F1 N1 Y1 B1 X1 T1 l1
  obtain ⟨o1, o2, o3, o4, ec, d1, d2, d3, d4⟩ := CellsAre.four Y1
  subst ec
  clear Y1
  simp only [List.cons_append, List.nil_append] at N1
  try dsimp only
  k_fold
  replace d1 : o1.data = .cell none := d1
  replace d2 : o2.data = .cell (some (.int b1 td)) := d2
  replace d3 : o3.data = .cell (some (.int a1 ta)) := d3
  replace d4 : o4.data = .cell (some (.ref pa)) := d4
  k_steps
  unfold Halt
  rename_i tW _ _ D2 _ lD _ _ _ F2 N2
  simp only [ew, eh] at F2 N2
  by_cases hq : a1 = 1 ∧ b1 = 1
  · refine joinB (b₀ := true) ?j1 ?j2
    case j1 =>
      have nh : NoHalt := ⟨⟩
      (try k_fold)
      k_steps
      all_goals first | exact ⟨rfl, _, rfl⟩ | (exfalso; omega)
    case j2 =>
      intro tk5
      dsimp only
      k_steps
      rename PlaneL _ _ _ _ _ _ => eP
      rename News _ _ _ _ => Nz
      rename Fr _ _ _ _ => Fz
      have hc : ∀ i j : Nat, i < cd W a1 → j < cd H b1 → pix f W H (0 + (i : Int)) (0 + (j : Int)) = meanV (pix f W H) i j a1 b1 := fun i j _ _ => by rw [hq.1, hq.2, meanV_one, Int.zero_add, Int.zero_add]
      refine' hret _ _ _ _ Fz (newsSub Nz ?hs) ?ha (PlaneL.congr eP hc)
      case ha => assumption
      case hs => walk_at "nt_sub"
  · refine joinB (b₀ := false) ?j1 ?j2
    case j1 =>
      have nh : NoHalt := ⟨⟩
      (try k_fold)
      k_steps
      all_goals first | exact ⟨rfl, _, rfl⟩ | (exfalso; omega)
    case j2 =>
      intro tk5
      dsimp only
      k_steps
      rename_i rl _ lr _ _ _ _ _ _ _ _ R3 F3 N3 K3
      unfold Halt
      refine nt_range (n := cd H b1) (σ := List Value × Nat × Obj) (fun c => [(rl, listOf c.1.toArray c.2.1), (L1 + 1 + 1 + 1 + 1, c.2.2)]) ((L1 + 1 + 1 + 1, o2) :: (L1 + 1 + 1, o3) :: (L1 + 1, o4) :: news) (fun _ => [(Str.ofString "rows", .ref rl), (Str.ofString "width", .int (cd W a1 : Nat) tW), (Str.ofString "height", .int (cd H b1 : Nat) t9)])
        (fun i c tl => (∃ q, c.2.2.data = .cell q) ∧ RowsL tl c.1 (cd W a1) i (fun i j => meanV (pix f W H) i j a1 b1)) [rl, L1 + 1 + 1 + 1 + 1] ([], 0, o1) (fun _ _ => rfl) rfl R3 (by omega) (by omega) (by omega) F3 N3 (by walk_at "nt_sub") (fun _ => rfl) (by walk_at "nt_off") (by walk_at "nt_ps") ⟨⟨_, d1⟩, rfl, fun j hj => absurd hj (by omega)⟩ ?turn ?done
      case turn =>
        rintro i t ⟨rvs, kk, oc⟩ tl u h tk own hi ⟨⟨q, dq⟩, hlen, hrows⟩ ho hap F4 N4
        dsimp only at *
        simp only [List.cons_append, List.nil_append] at N4
        k_sweep
        k_fold
        k_steps
        rename_i _ oy _ _ dy _ _ _ _ _ R5 F5 N5 K5
        unfold Halt
        refine nt_compInts (n := cd W a1) (fun j => meanV (pix f W H) j i a1 b1) rfl F5 N5 R5 (by omega) (by omega) (by omega) ?elt ?fin
        case elt =>
          intro g' j t' ys I oI C oC D m₂ h5 tk5 E' hj hC hx F6 N6
          simp only [List.cons_append, List.append_assoc] at N6
          k_sweep
          k_fold
          k_steps
          exact EltInt.intro (by k_asm) (by k_asm) (by walk_at "nt_sub") (by simp only [Int.zero_add])
        case fin =>
          intro g' ys hys
          unfold LCg.FinE
          intro D h5 tk5 F6 N6 off5
          have ap5 := Ap.one (o := LCg.lst ys) off5
          simp only [LCg.Off1] at off5
          k_sweep
          (try k_unfold)
          (try simp only [List.cons_append, List.nil_append])
          (try dsimp only)
          k_steps
          rename News _ _ _ _ => Nz
          rename Fr _ _ _ _ => Fz
          (try rw [pushArr] at Nz)
          unfold TurnPostX
          exact TurnEndX.intro (rvs ++ [.ref D], kk + 1, oy) [(D, LCg.lst ys)] Fz Nz (by walk_at "nt_sub") (by walk_at "nt_ps") (ap5.congr rfl) ⟨⟨_, dy⟩, RowsL.snoc ⟨hlen, hrows⟩ ⟨D, ys, ys.length, rfl, List.mem_cons_self, hys⟩ (fun p hp => List.mem_cons_of_mem _ hp)⟩
      case done =>
        rintro ⟨rvs, kk, oc⟩ tl u h tk ⟨⟨q, dq⟩, hlen, hrows⟩ ho hap F4 N4
        dsimp only at *
        simp only [List.cons_append, List.nil_append] at N4
        k_sweep
        (try k_unfold)
        (try simp only [List.cons_append, List.nil_append])
        (try dsimp only)
        k_steps
        rename News _ _ _ _ => Nz
        rename Fr _ _ _ _ => Fz
        exact retPlane hret Fz Nz (by walk_at "nt_in") (by walk_at "nt_sub") ⟨hlen, hrows⟩ (by walk_at "nt_lt") (by refine ltN' ?_; omega) (by walk_at "nt_lt") (by walk_at "nt_ap") cw0 (by omega) ch0 (by omega)
theorem words_7 : True := by
  k_with "call ref" => (k_here; (with_reducible show wpAny _ _ (call (Value.ref 112) [_, Value.int _ _, Value.int _ _]) _ _ _); k_dflt (refine' Ctr.use (c_shrunk _ _ _ _ _ _ _ _ _ ?p1 ?p2 ?p3 ?p4) ?B ?F ?X ?N ?T ?hk ?S ?P ?hd ?hu ?_; (case p1 => omega); (case p2 => omega); (case p3 => omega); (case p4 => omega); walk_at "nt_args"; (case P => walk_at "nt_plane"); (case S => walk_at "nt_split"); walk_at "nt_planeRes"))
  exact True.intro
set_option maxHeartbeats 8000000 in
theorem c_repeated (w : World) (v : Value) (W H : Nat) (f : Nat → Nat → Int) (ma : Int) (tma : Tok) (oa : Int) (toa : Tok) (md : Int) (tmd : Tok) (od : Int) (tod : Tok) (w1 : Int) (tw' : Tok) (h1' : Int) (th' : Tok) (w' h' : Nat) (ew : w1 = w') (eh : h1' = h') (hma : 0 < ma) (hma' : ma ≤ 10) (hmd : 0 < md) (hmd' : md ≤ 10) (hoa : 0 < oa) (hoa' : oa ≤ 10) (hod : 0 < od) (hod' : od ≤ 10) (hw : 0 < w') (hw' : w' ≤ 100) (hh : 0 < h') (hh' : h' ≤ 100) :
    Ctr w 3 164 [v, .int ma tma, .int oa toa, .int md tmd, .int od tod, .int w1 tw', .int h1' th'] (fun news => PlaneL w.params news v W H f) (fun tl r => PlaneL w.params tl r w' h' (fun i j => pix f W H (((i : Int) * oa).fdiv ma) (((j : Int) * od).fdiv md))) := by
  subst ew
  subst eh
  refine Ctr.of ?_
  intro mean mg mb dp un gd cn cs a ccd cl outer A₀ base h₀ L m news s Q E B F X N T hk hP hd hu hret
  have hPc := hP
  obtain ⟨pa, pd, pr, rvs0, k0, pt1, pt2, pt3, ptw, pth, rfl, m1, m2, m3, hrows0, hW, hW2, hH, hH2⟩ := hPc
  walk_at "nt_enterC"
  intro g1 L1 h1 tk1 cells FG F1 N1 Y1 B1 X1 T1 l1
  obtain ⟨o1, o2, o3, o4, ec, d1, d2, d3, d4⟩ := CellsAre.four Y1
  subst ec
  clear Y1
  simp only [List.cons_append, List.nil_append] at N1
  try dsimp only
  k_fold
  replace d1 : o1.data = .cell none := d1
  replace d2 : o2.data = .cell (some (.int oa toa)) := d2
  replace d3 : o3.data = .cell (some (.int ma tma)) := d3
  replace d4 : o4.data = .cell (some (.ref pa)) := d4
  k_steps
  rename_i R2 F2 N2 K2
  unfold Halt
  refine nt_compInts (n := w') (fun i => ((i : Int) * oa).fdiv ma) rfl F2 N2 R2 (by omega) (by omega) (by omega) ?elt ?fin
  case elt =>
    intro g' j t' ys I oI C oC D m₂ h5 tk5 E' hj hC hx F5 N5
    simp only [List.cons_append, List.append_assoc] at N5
    k_sweep
    k_fold
    k_steps
    exact EltInt.intro (by k_asm) (by k_asm) (by walk_at "nt_sub") (by simp only [Int.zero_add])
  case fin =>
    intro g' cs' hcs
    unfold LCg.FinA
    intro D h5 tk5 F5 N5 off5
    have hcl : cs'.length = w' := by rw [hcs.length]; simp
    simp only [LCg.Off1] at off5
    k_sweep
    (try k_unfold)
    (try simp only [List.cons_append, List.nil_append])
    (try dsimp only)
    k_steps
    rename_i rl _ lr _ _ _ _ _ _ _ _ R3 F3 N3 K3
    unfold Halt
    refine nt_range (n := h') (σ := List Value × Nat × Obj) (fun c => [(rl, listOf c.1.toArray c.2.1), (L1 + 1 + 1 + 1 + 1, c.2.2)]) ((D, LCg.lst cs') :: (L1 + 1 + 1 + 1, o2) :: (L1 + 1 + 1, o3) :: (L1 + 1, o4) :: news) (fun _ => [(Str.ofString "rows", .ref rl), (Str.ofString "columns", .ref D), (Str.ofString "width", .int w' tw'), (Str.ofString "height", .int h' th'), (Str.ofString "most_down", .int md tmd), (Str.ofString "own_down", .int od tod)])
      (fun i c tl => (∃ q, c.2.2.data = .cell q) ∧ RowsL tl c.1 w' i (fun i j => pix f W H (((i : Int) * oa).fdiv ma) (((j : Int) * od).fdiv md))) [rl, L1 + 1 + 1 + 1 + 1] ([], 0, o1) (fun _ _ => rfl) rfl R3 (by omega) (by omega) (by omega) F3 N3 (by walk_at "nt_sub") (fun _ => rfl) (by walk_at "nt_off") (by walk_at "nt_ps") ⟨⟨_, d1⟩, rfl, fun j hj => absurd hj (by omega)⟩ ?turn ?done
    case turn =>
      rintro i t ⟨rvs, kk, oc⟩ tl u h tk own hi ⟨⟨q, dq⟩, hlen, hrows⟩ ho hap F4 N4
      dsimp only at *
      simp only [List.cons_append, List.nil_append] at N4
      k_sweep
      k_fold
      k_steps
      rename_i oy F5 N5 dy
      unfold Halt
      refine nt_compIntsL (vs := cs') (k := cs'.length) (fun j => pix f W H (((j : Int) * oa).fdiv ma) (((i : Int) * od).fdiv md)) rfl F5 N5 (by walk_at "nt_in") (by omega) ?elt2 ?fin2
      case elt2 =>
        intro g' j v' ys I oI C oC D2 m₂ h6 tk6 E' hj hv hC hx F6 N6
        obtain ⟨t6, hv6⟩ := hcs.get j _ (by rw [List.getElem?_map, List.getElem?_range (by omega)]; rfl)
        rw [hv] at hv6
        obtain rfl := Option.some.inj hv6
        simp only [List.cons_append, List.append_assoc] at N6
        k_sweep
        k_fold
        k_steps
        exact EltInt.intro (by k_asm) (by k_asm) (by walk_at "nt_sub") (by simp only [Int.zero_add])
      case fin2 =>
        intro g' ys hys
        rw [hcl] at hys
        unfold LCg.FinE
        intro D2 h6 tk6 F6 N6 off6
        have ap6 := Ap.one (o := LCg.lst ys) off6
        simp only [LCg.Off1] at off6
        k_sweep
        (try k_unfold)
        (try simp only [List.cons_append, List.nil_append])
        (try dsimp only)
        k_steps
        rename News _ _ _ _ => Nz
        rename Fr _ _ _ _ => Fz
        (try rw [pushArr] at Nz)
        unfold TurnPostX
        exact TurnEndX.intro (rvs ++ [.ref D2], kk + 1, oy) [(D2, LCg.lst ys)] Fz Nz (by walk_at "nt_sub") (by walk_at "nt_ps") (ap6.congr rfl) ⟨⟨_, dy⟩, RowsL.snoc ⟨hlen, hrows⟩ ⟨D2, ys, ys.length, rfl, List.mem_cons_self, hys⟩ (fun p hp => List.mem_cons_of_mem _ hp)⟩
    case done =>
      rintro ⟨rvs, kk, oc⟩ tl u h tk ⟨⟨q, dq⟩, hlen, hrows⟩ ho hap F4 N4
      dsimp only at *
      simp only [List.cons_append, List.nil_append] at N4
      k_sweep
      (try k_unfold)
      (try simp only [List.cons_append, List.nil_append])
      (try dsimp only)
      k_steps
      rename News _ _ _ _ => Nz
      rename Fr _ _ _ _ => Fz
      exact retPlane hret Fz Nz (by walk_at "nt_in") (by walk_at "nt_sub") ⟨hlen, hrows⟩ (by walk_at "nt_lt") (by refine ltN' ?_; omega) (by walk_at "nt_lt") (by walk_at "nt_ap") hw hw' hh hh'
theorem words_8 : True := by
  k_with "call ref" => (k_here; (with_reducible show wpAny _ _ (call (Value.ref 164) [_, Value.int _ _, Value.int _ _, Value.int _ _, Value.int _ _, Value.int _ _, Value.int _ _]) _ _ _); k_dflt (refine' Ctr.use (c_repeated _ _ _ _ _ _ _ _ _ _ _ _ _ _ _ _ _ _ _ ?ew ?eh ?p1 ?p2 ?p3 ?p4 ?p5 ?p6 ?p7 ?p8 ?p9 ?p10 ?p11 ?p12) ?B ?F ?X ?N ?T ?hk ?S ?P ?hd ?hu ?_; (case ew => first | assumption | rfl); (case eh => first | assumption | rfl); (case p1 => omega); (case p2 => omega); (case p3 => omega); (case p4 => omega); (case p5 => omega); (case p6 => omega); (case p7 => omega); (case p8 => omega); (case p9 => omega); (case p10 => omega); (case p11 => omega); (case p12 => omega); walk_at "nt_args"; (case P => walk_at "nt_plane"); (case S => walk_at "nt_split"); walk_at "nt_planeRes"))
  exact True.intro
abbrev tupOf (vs : List Value) (n : Nat) : Obj := { cls := .type "tuple", data := .seq vs.toArray n }
/-- a list of pairs of ints -/
def TupsAre (led : Led) (vs : List Value) (ws : List (Int × Int)) : Prop := vs.length = ws.length ∧ ∀ (i : Nat) (p : Int × Int), ws[i]? = some p → ∃ (ta : Addr) (t1 t2 : Tok) (n : Nat), vs[i]? = some (.ref ta) ∧ (ta, tupOf [.int p.1 t1, .int p.2 t2] n) ∈ led
def TupsL (led : Led) (v : Value) (ws : List (Int × Int)) : Prop := ∃ a vs k, v = .ref a ∧ (a, listOf vs.toArray k) ∈ led ∧ TupsAre led vs ws
theorem TupsAre.mono {led led' : Led} {vs : List Value} {ws : List (Int × Int)} (h : TupsAre led vs ws) (s : ∀ p ∈ led, p ∈ led') : TupsAre led' vs ws :=
  ⟨h.1, fun i p hp => let ⟨ta, t1, t2, n, e, m⟩ := h.2 i p hp; ⟨ta, t1, t2, n, e, s _ m⟩⟩
theorem TupsL.mono {led led' : Led} {v : Value} {ws : List (Int × Int)} (h : TupsL led v ws) (s : ∀ p ∈ led, p ∈ led') : TupsL led' v ws := by
  obtain ⟨a, vs, k, e, m, t⟩ := h
  exact ⟨a, vs, k, e, s _ m, t.mono s⟩
theorem TupsAre.nil {led : Led} : TupsAre led [] [] := ⟨rfl, fun i p hp => by simp at hp⟩
theorem TupsAre.snoc {led led' : Led} {vs : List Value} {ws : List (Int × Int)} {ta : Addr} {p : Int × Int} {t1 t2 : Tok} {n : Nat} (h : TupsAre led vs ws) (s : ∀ p ∈ led, p ∈ led') (m : (ta, tupOf [.int p.1 t1, .int p.2 t2] n) ∈ led') : TupsAre led' (vs ++ [.ref ta]) (ws ++ [p]) := by
  refine ⟨by rw [List.length_append, List.length_append, h.1]; rfl, fun i q hq => ?_⟩
  by_cases hi : i < ws.length
  · rw [List.getElem?_append_left hi] at hq
    obtain ⟨ta', t1', t2', n', e, m'⟩ := h.2 i q hq
    exact ⟨ta', t1', t2', n', by rw [List.getElem?_append_left (by rw [h.1]; exact hi)]; exact e, s _ m'⟩
  · have hi' : i = ws.length := by
      have := (List.getElem?_eq_some_iff.mp hq).1
      rw [List.length_append, List.length_singleton] at this
      omega
    subst hi'
    rw [List.getElem?_append_right (Nat.le_refl _), Nat.sub_self] at hq
    obtain rfl : p = q := by simpa using hq
    have hl := h.1
    exact ⟨ta, t1, t2, n, by rw [← hl, List.getElem?_append_right (Nat.le_refl _), Nat.sub_self]; rfl, m⟩
/-- what is covered of the one by the other -/
noncomputable def ov (a s b l : Int) : Int :=
  if (if a + s < b + l then a + s else b + l) > (if a > b then a else b) then (if a + s < b + l then a + s else b + l) - (if a > b then a else b) else 0
noncomputable def wtsTo (a0 b m o : Int) (n : Nat) : List (Int × Int) := ((List.range n).map fun (k : Nat) => (a0 + (k : Int), ov b m ((a0 + (k : Int)) * o) o)).filter fun p => decide (p.2 > 0)
noncomputable def wts (p o m : Int) : List (Int × Int) := wtsTo ((p * m).fdiv o) (p * m) m o (((p * m + m - 1).fdiv o + 1 - (p * m).fdiv o).toNat)
theorem wtsTo_succ (a0 b m o : Int) (n : Nat) : wtsTo a0 b m o (n + 1) = wtsTo a0 b m o n ++ (if ov b m ((a0 + (n : Int)) * o) o > 0 then [(a0 + (n : Int), ov b m ((a0 + (n : Int)) * o) o)] else []) := by
  unfold wtsTo
  rw [List.range_succ, List.map_append, List.filter_append]
  congr 1
  simp only [List.map_cons, List.map_nil, List.filter_cons, List.filter_nil]
  by_cases h : ov b m ((a0 + (n : Int)) * o) o > 0 <;> simp [h]
theorem wts_bounds {p o m : Int} (hp : 0 ≤ p) (hp' : p ≤ 200) (ho : 0 < o) (ho' : o ≤ 10) (hm : 0 < m) (hm' : m ≤ 10) :
    0 ≤ p * m ∧ p * m ≤ 2000 ∧ 0 ≤ (p * m).fdiv o ∧ (p * m).fdiv o ≤ (p * m + m - 1).fdiv o ∧ (p * m + m - 1).fdiv o ≤ 3000 := by
  have h1 : 0 ≤ p * m := Int.mul_nonneg hp (by omega)
  have h2 : p * m ≤ 200 * 10 := Int.mul_le_mul hp' hm' (by omega) (by omega)
  rw [Int.fdiv_eq_ediv_of_nonneg _ (by omega), Int.fdiv_eq_ediv_of_nonneg _ (by omega)]
  refine ⟨h1, by omega, Int.ediv_nonneg h1 (by omega), Int.ediv_le_ediv ho (by omega), ?_⟩
  have h3 : (p * m + m - 1) / o ≤ p * m + m - 1 := Int.ediv_le_self _ (by omega)
  omega
/-- a list of pairs newly made is handed back -/
theorem retTups {h₀ h' : Heap} {L a : Addr} {m : Str → Option Value} {news rest tl : Led} {s : Shared} {Q : Value → Shared → Prop} {tk' : Nat} {vs : List Value} {k : Nat} {ws : List (Int × Int)}
    (hret : ∀ r tl h' tk', Fr h₀ L h' m → News h₀ L h' (tl ++ news) → (∀ p ∈ tl, ∀ q ∈ news, p.1 ≠ q.1) → TupsL tl r ws → Q r { s with heap := h', toks := tk' })
    (F : Fr h₀ L h' m) (N : News h₀ L h' rest) (ha : (a, listOf vs.toArray k) ∈ rest) (hs : ∀ p ∈ tl ++ news, p ∈ rest) (hT : TupsAre tl vs ws) (a1 : AllLt a news) (a2 : Ap tl news) : Q (.ref a) { s with heap := h', toks := tk' } :=
  hret _ ((a, listOf vs.toArray k) :: tl) h' tk' F (newsSub N fun p hp => by
    rcases List.mem_cons.mp hp with rfl | hp
    · exact ha
    · exact hs p hp) (Ap.consL a1 a2) ⟨a, vs, k, rfl, .head _, hT.mono fun p hp => .tail _ hp⟩
set_option maxHeartbeats 8000000 in
theorem c_overlap (w : World) (a1 : Int) (ta : Tok) (s1 : Int) (ts : Tok) (b1 : Int) (tb : Tok) (l1 : Int) (tl : Tok) : Ctr w 1 133 [.int a1 ta, .int s1 ts, .int b1 tb, .int l1 tl] (fun _ => True) (OutI (ov a1 s1 b1 l1)) := by
  refine Ctr.of ?_
  intro mean mg mb dp un gd cn cs a ccd cl outer A₀ base h₀ L m news s Q E B F X N T hk hP hd hu hret
  walk_at "nt_enter"
  intro g1 L1 h1 FG F1 N1 B1 X1 T1
  try dsimp only
  k_fold
  k_steps
  all_goals (refine retI hret (by k_asm) (by k_asm) (by walk_at "nt_sub") ?_; unfold ov; (repeat' split) <;> omega)
theorem words_9 : True := by
  k_with "call ref" => (k_here; (with_reducible show wpAny _ _ (call (Value.ref 133) [Value.int _ _, Value.int _ _, Value.int _ _, Value.int _ _]) _ _ _); k_dflt (refine' Ctr.use (c_overlap _ _ _ _ _ _ _ _ _) ?B ?F ?X ?N ?T ?hk (Split.nil _) ?P ?hd ?hu ?_; walk_at "nt_args"; (case P => exact trivial); walk_at "nt_int"))
  exact True.intro
theorem wtsTo_len (a0 b m o : Int) (n : Nat) : (wtsTo a0 b m o n).length ≤ n := by
  unfold wtsTo
  refine Nat.le_trans (List.length_filter_le _ _) ?_
  simp
set_option maxHeartbeats 8000000 in
theorem c_weights (w : World) (p1 : Int) (tp : Tok) (o1 : Int) (to : Tok) (m1 : Int) (tm : Tok) (hp1 : 0 ≤ p1) (hp2 : p1 ≤ 200) (ho1 : 0 < o1) (ho2 : o1 ≤ 10) (hm1 : 0 < m1) (hm2 : m1 ≤ 10) :
    Ctr w 3 140 [.int p1 tp, .int o1 to, .int m1 tm] (fun _ => True) (fun tl r => TupsL tl r (wts p1 o1 m1)) := by
  refine Ctr.of ?_
  intro mean mg mb dp un gd cn cs a ccd cl outer A₀ base h₀ L m news s Q E B F X N T hk hP hd hu hret
  obtain ⟨w1, w2, w3, w4, w5⟩ := wts_bounds hp1 hp2 ho1 ho2 hm1 hm2
  walk_at "nt_enter"
  intro g1 L1 h1 FG F1 N1 B1 X1 T1
  try dsimp only
  k_fold
  k_steps
  rename_i fl _ lf _ _ _ _ _ _ _ _ R2 F2 N2 K2
  unfold Halt
  refine nt_range (n := ((p1 * m1 + m1 - 1).fdiv o1 + 1 - (p1 * m1).fdiv o1).toNat) (σ := List Value × Nat × Tok) (fun c => [(fl, listOf c.1.toArray c.2.1)]) news (fun c => [(Str.ofString "found", .ref fl), (Str.ofString "begin", .int (p1 * m1) c.2.2), (Str.ofString "own", .int o1 to), (Str.ofString "most", .int m1 tm)])
    (fun i c tl => TupsAre tl c.1 (wtsTo ((p1 * m1).fdiv o1) (p1 * m1) m1 o1 i)) [fl] ([], 0, _) (fun _ _ => rfl) rfl R2 (by omega) (by omega) (by omega) F2 N2 (by walk_at "nt_sub") (fun _ => rfl) (by walk_at "nt_off") (by walk_at "nt_ps") TupsAre.nil ?turn ?done
  case turn =>
    rintro i t ⟨vs, kk, tb⟩ tl u h tk own hi hT ho hap F4 N4
    dsimp only at *
    simp only [List.cons_append, List.nil_append] at N4
    k_sweep
    k_fold
    have hl : vs.length ≤ i := Nat.le_trans (Nat.le_of_eq hT.1) (wtsTo_len _ _ _ _ _)
    k_steps
    · rename_i hpos _ D _ lD _ Fz Nz
      (try rw [pushArr] at Nz)
      obtain ⟨u1, u2, u3, Nz⟩ : ∃ u1 u2 u3, News g1 L1 _ ((D, tupOf [.int ((p1 * m1).fdiv o1 + (i : Int)) u1, .int (ov (p1 * m1) m1 (((p1 * m1).fdiv o1 + (i : Int)) * o1) o1) u2] u3) :: (fl, listOf (vs ++ [Value.ref D]).toArray (kk + 1)) :: (tl ++ (news ++ own))) := ⟨_, _, _, Nz⟩
      unfold TurnPostX
      refine TurnEndX.intro (vs ++ [.ref D], kk + 1, tb) [(D, tupOf [.int ((p1 * m1).fdiv o1 + (i : Int)) u1, .int (ov (p1 * m1) m1 (((p1 * m1).fdiv o1 + (i : Int)) * o1) o1) u2] u3)] Fz Nz (by walk_at "nt_sub") (by walk_at "nt_ps") (Ap.consL (by walk_at "nt_lts2") Ap.nil) ?_
      dsimp only
      rw [wtsTo_succ, if_pos hpos]
      exact TupsAre.snoc hT (fun p hp => List.mem_cons_of_mem _ hp) List.mem_cons_self
    · rename_i Fz Nz hneg
      unfold TurnPostX
      refine TurnEndX.intro (vs, kk, tb) [] Fz Nz (by walk_at "nt_sub") (by walk_at "nt_ps") Ap.nil ?_
      dsimp only
      rw [wtsTo_succ, if_neg hneg, List.append_nil]
      exact hT
  case done =>
    rintro ⟨vs, kk, tb⟩ tl u h tk hT ho hap F4 N4
    dsimp only at *
    simp only [List.cons_append, List.nil_append] at N4
    k_sweep
    (try k_unfold)
    (try simp only [List.cons_append, List.nil_append])
    (try dsimp only)
    k_steps
    rename News _ _ _ _ => Nz
    rename Fr _ _ _ _ => Fz
    exact retTups hret Fz Nz (by walk_at "nt_in") (by walk_at "nt_sub") hT (by walk_at "nt_lt") (by walk_at "nt_ap")
theorem words_10 : True := by
  k_with "nt_tupsRes" => (intro r9 tl9 h9 tk9 F9 N9 o9 a9 e9; have e8 := e9; obtain ⟨pa9, vs9, k9, eq9, m19, R9⟩ := e8; subst eq9; simp only [List.nil_append, List.cons_append, List.append_assoc] at N9; (try simp only [List.map_cons, List.map_nil] at o9); (try dsimp only); (try k_sweep); (try k_fold))
  k_with "call ref" => (k_here; (with_reducible show wpAny _ _ (call (Value.ref 140) [Value.int _ _, Value.int _ _, Value.int _ _]) _ _ _); k_dflt (refine' Ctr.use (c_weights _ _ _ _ _ _ _ ?p1 ?p2 ?p3 ?p4 ?p5 ?p6) ?B ?F ?X ?N ?T ?hk ?S ?P ?hd ?hu ?_; (case p1 => omega); (case p2 => omega); (case p3 => omega); (case p4 => omega); (case p5 => omega); (case p6 => omega); walk_at "nt_args"; (case P => exact trivial); (case S => walk_at "nt_split"); walk_at "nt_tupsRes"))
  exact True.intro
noncomputable def wsum (g : Int → Int → Int) (cols rows : List (Int × Int)) : Int := (rows.map fun q => (cols.map fun p => g p.1 q.1 * q.2 * p.2).sum).sum
theorem TupsAre.item {led : Led} {vs : List Value} {ws : List (Int × Int)} (h : TupsAre led vs ws) {i : Nat} {v : Value} (hv : vs[i]? = some v) : ∃ p ta t1 t2 n, ws[i]? = some p ∧ p ∈ ws ∧ v = .ref ta ∧ (ta, tupOf [.int p.1 t1, .int p.2 t2] n) ∈ led := by
  have hi : i < ws.length := by rw [← h.1]; exact (List.getElem?_eq_some_iff.mp hv).1
  obtain ⟨ta, t1, t2, n, e, m⟩ := h.2 i _ (List.getElem?_eq_getElem hi)
  rw [hv] at e
  exact ⟨_, ta, t1, t2, n, List.getElem?_eq_getElem hi, List.getElem_mem hi, Option.some.inj e, m⟩
theorem takeSum {α : Type} (l : List α) (g : α → Int) {i : Nat} {p : α} (h : l[i]? = some p) : ((l.take (i + 1)).map g).sum = ((l.take i).map g).sum + g p := by
  rw [List.take_add_one, h]
  simp
set_option maxHeartbeats 8000000 in
theorem c_wmean (w : World) (v : Value) (W H : Nat) (f : Nat → Nat → Int) (ca da : Value) (cols rows : List (Int × Int)) (q1 : Int) (tq : Tok) (hq : 0 < q1) (hq' : q1 ≤ 1000) (hc : ∀ p ∈ cols, 0 ≤ p.2 ∧ p.2 ≤ 1000) (hr : ∀ p ∈ rows, 0 ≤ p.2 ∧ p.2 ≤ 1000) :
    Ctr w 3 147 [v, ca, da, .int q1 tq] (fun news => PlaneL w.params news v W H f ∧ TupsL news ca cols ∧ TupsL news da rows) (OutI ((wsum (pix f W H) cols rows + q1.fdiv 2).fdiv q1)) := by
  refine Ctr.of ?_
  intro mean mg mb dp un gd cn cs a ccd cl outer A₀ base h₀ L m news s Q E B F X N T hk hP hd hu hret
  obtain ⟨hP, ⟨ac, cvs, ck, rfl, mc, hC⟩, ⟨ad, dvs, dk, rfl, md, hD⟩⟩ := hP
  have hPc := hP
  obtain ⟨pa, pd, pr, rvs0, k0, pt1, pt2, pt3, ptw, pth, rfl, m1, m2, m3, hrows0, hW, hW2, hH, hH2⟩ := hPc
  walk_at "nt_enter"
  intro g1 L1 h1 FG F1 N1 B1 X1 T1
  try dsimp only
  k_fold
  k_steps
  rename Fr _ _ _ _ => F2
  rename News _ _ _ _ => N2
  unfold Halt
  refine nt_list (vs := dvs) (k := dk) (σ := Int × Tok) (fun _ => []) news (fun c => [(Str.ofString "plane", .ref pa), (Str.ofString "across", .ref ac), (Str.ofString "down", .ref ad), (Str.ofString "total", .int q1 tq), (Str.ofString "found", .int c.1 c.2)])
    (fun i c tl => tl = [] ∧ c.1 = wsum (pix f W H) cols (rows.take i)) [] (0, _) rfl md F2 N2 (by walk_at "nt_sub") (fun _ => rfl) offNone (by walk_at "nt_ps") ⟨rfl, rfl⟩ ?turn ?done
  case turn =>
    rintro i v ⟨T0, tT⟩ tl u h tk own hv ⟨rfl, hT⟩ ho hap F3 N3
    obtain ⟨⟨qy, qt⟩, ta, t1, t2, nn, hq0, hq1, rfl, mt⟩ := hD.item hv
    obtain ⟨b1, b2⟩ := hr _ hq1
    dsimp only at hT mt b1 b2
    simp only [List.nil_append] at N3
    clear ho hap
    k_sweep
    k_fold
    k_steps
    rename Fr _ _ _ _ => F4
    rename News _ _ _ _ => N4
    unfold Halt
    refine nt_list (vs := cvs) (k := ck) (σ := Int × Tok) (fun _ => []) (news ++ own) (fun c => [(Str.ofString "plane", .ref pa), (Str.ofString "across", .ref ac), (Str.ofString "down", .ref ad), (Str.ofString "total", .int q1 tq), (Str.ofString "y", .int qy t1), (Str.ofString "tall", .int qt t2), (Str.ofString "found", .int c.1 c.2)])
      (fun j c tl => tl = [] ∧ c.1 = T0 + ((cols.take j).map fun p => pix f W H p.1 qy * qt * p.2).sum) [] (T0, _) rfl (List.mem_append_left _ mc) F4 N4 (by walk_at "nt_sub") (fun _ => rfl) offNone (by walk_at "nt_ps") ⟨rfl, by simp⟩ ?turn2 ?done2
    case turn2 =>
      rintro j v2 ⟨T1, tT1⟩ tl2 u2 h2 tk2 own2 hv2 ⟨rfl, hT1⟩ ho2 hap2 F5 N5
      obtain ⟨⟨px, pw⟩, ta2, t3, t4, nn2, hp0, hp1, rfl, mt2⟩ := hC.item hv2
      obtain ⟨b3, b4⟩ := hc _ hp1
      dsimp only at hT1 mt2 b3 b4
      simp only [List.nil_append, List.append_assoc] at N5
      clear ho2 hap2
      k_sweep
      k_fold
      k_steps
      rename News _ _ _ _ => Nz
      rename Fr _ _ _ _ => Fz
      unfold TurnPostX
      exact TurnEndX.intro (T1 + pix f W H px qy * qt * pw, _) [] Fz Nz (by walk_at "nt_sub") (by walk_at "nt_ps") Ap.nil ⟨rfl, by dsimp only; rw [takeSum cols _ hp0, hT1, Int.add_assoc]⟩
    case done2 =>
      rintro ⟨T1, tT1⟩ tl2 u2 h2 tk2 ⟨rfl, hT1⟩ ho2 hap2 F5 N5
      dsimp only at hT1
      simp only [List.nil_append] at N5
      clear ho2 hap2
      k_sweep
      (try k_unfold)
      (try simp only [List.cons_append, List.nil_append])
      (try dsimp only)
      k_steps
      rw [hC.1, List.take_length] at hT1
      unfold TurnPostX
      exact TurnEndX.intro (T1, tT1) [] F5 N5 (by walk_at "nt_sub") (by walk_at "nt_ps") Ap.nil ⟨rfl, by dsimp only; unfold wsum at hT ⊢; rw [takeSum rows _ hq0, hT1, hT]⟩
  case done =>
    rintro ⟨T0, tT⟩ tl u h tk ⟨rfl, hT⟩ ho hap F3 N3
    dsimp only at hT
    rw [hD.1, List.take_length] at hT
    simp only [List.nil_append] at N3
    clear ho hap
    k_sweep
    (try k_unfold)
    (try simp only [List.cons_append, List.nil_append])
    (try dsimp only)
    k_steps
    exact retI hret (by k_asm) (by k_asm) (by walk_at "nt_sub") (by rw [hT])
theorem words_11 : True := by
  k_with "nt_tups" => first | assumption | exact TupsL.mono (by assumption) (by walk_at "nt_sub")
  k_with "call ref" => (k_here; (with_reducible show wpAny _ _ (call (Value.ref 147) [_, Value.ref _, Value.ref _, Value.int _ _]) _ _ _); k_dflt (refine' Ctr.use (c_wmean _ _ _ _ _ _ _ _ _ _ _ ?p1 ?p2 ?p3 ?p4) ?B ?F ?X ?N ?T ?hk (Split.nil _) ?P ?hd ?hu ?_; walk_at "nt_args"; (case P => refine' ⟨by walk_at "nt_plane", ?_, ?_⟩ <;> walk_at "nt_tups"); (case p1 => omega); (case p2 => omega); (case p3 => assumption); (case p4 => assumption); walk_at "nt_int"))
  exact True.intro
theorem cellsFive {cm : Str → Option Value} {n₁ n₂ n₃ n₄ n₅ : Str} {c₁ c₂ c₃ c₄ c₅ : Addr} {cells : Led} (x : CellsAre cm [(n₁, c₁), (n₂, c₂), (n₃, c₃), (n₄, c₄), (n₅, c₅)] cells) :
    ∃ o₁ o₂ o₃ o₄ o₅, cells = [(c₁, o₁), (c₂, o₂), (c₃, o₃), (c₄, o₄), (c₅, o₅)] ∧ o₁.data = .cell (cm n₁) ∧ o₂.data = .cell (cm n₂) ∧ o₃.data = .cell (cm n₃) ∧ o₄.data = .cell (cm n₄) ∧ o₅.data = .cell (cm n₅) := by
  cases x with
  | cons h r =>
    obtain ⟨o₂, o₃, o₄, o₅, rfl, h₂, h₃, h₄, h₅⟩ := r.four
    exact ⟨_, o₂, o₃, o₄, o₅, rfl, h, h₂, h₃, h₄, h₅⟩
theorem ov_le {a s b l : Int} (h : 0 ≤ s) : ov a s b l ≤ s := by
  unfold ov
  (repeat' split) <;> omega
theorem wts_small {p o m : Int} (hm : 0 < m) (hm' : m ≤ 10) : ∀ q ∈ wts p o m, 0 ≤ q.2 ∧ q.2 ≤ 1000 := by
  intro q hq
  unfold wts wtsTo at hq
  obtain ⟨h1, h2⟩ := List.mem_filter.mp hq
  obtain ⟨k, _, rfl⟩ := List.mem_map.mp h1
  have h3 := ov_le (a := p * m) (s := m) (b := ((p * m).fdiv o + (k : Int)) * o) (l := o) (by omega)
  simp only [decide_eq_true_eq] at h2
  constructor
  · omega
  · exact Int.le_trans h3 (by omega)
theorem apHot {l hot cold : Led} (h1 : OwnOff l (hot.map (·.1))) (h2 : ∀ p ∈ l, ∀ q ∈ cold, p.1 ≠ q.1) : Ap l (hot ++ cold) := fun p hp q hq => by
  rcases List.mem_append.mp hq with hq | hq
  · exact h1 p hp _ (List.mem_map.mpr ⟨q, hq, rfl⟩)
  · exact h2 p hp q hq
theorem allSnoc {R : Nat → Led → Value → Prop} {ys : List Value} {y : Value} {i : Nat} {tl led : Led} (mono : ∀ j u, R j tl u → R j led u) (hy : ys.length = i) (h : ∀ j, j < i → ∃ u, ys[j]? = some u ∧ R j tl u) (hn : R i led y) : ∀ j, j < i + 1 → ∃ u, (ys ++ [y])[j]? = some u ∧ R j led u := by
  intro j hj
  by_cases hji : j < i
  · obtain ⟨u, hu, hr⟩ := h j hji
    exact ⟨u, by rw [List.getElem?_append_left (by omega)]; exact hu, mono j u hr⟩
  · obtain rfl : j = i := by omega
    exact ⟨y, by rw [List.getElem?_append_right (by omega), hy, Nat.sub_self]; rfl, hn⟩
set_option maxHeartbeats 8000000 in
theorem c_shrunkto (w : World) (v : Value) (W H : Nat) (f : Nat → Nat → Int) (oa : Int) (toa : Tok) (ma : Int) (tma : Tok) (od : Int) (tod : Tok) (md : Int) (tmd : Tok) (w' h' : Nat)
    (h1 : 0 < oa) (h2 : oa ≤ 10) (h3 : 0 < ma) (h4 : ma ≤ 10) (h5 : 0 < od) (h6 : od ≤ 10) (h7 : 0 < md) (h8 : md ≤ 10) (hnd : ¬(ma.fmod oa = 0 ∧ md.fmod od = 0))
    (ew : ((W : Int) * oa + ma - 1).fdiv ma = w') (eh : ((H : Int) * od + md - 1).fdiv md = h') (hw : 0 < w') (hw' : w' ≤ 100) (hh : 0 < h') (hh' : h' ≤ 100) :
    Ctr w 5 152 [v, .int oa toa, .int ma tma, .int od tod, .int md tmd] (fun news => PlaneL w.params news v W H f) (fun tl r => PlaneL w.params tl r w' h' (fun i j => (wsum (pix f W H) (wts i oa ma) (wts j od md) + (ma * md).fdiv 2).fdiv (ma * md))) := by
  refine Ctr.of ?_
  intro mean mg mb dp un gd cn cs a ccd cl outer A₀ base h₀ L m news s Q E B F X N T hk hP hd hu hret
  have hPc := hP
  obtain ⟨pa, pd, pr, rvs0, k0, pt1, pt2, pt3, ptw, pth, rfl, m1, m2, m3, hrows0, hW, hW2, hH, hH2⟩ := hPc
  have q1 : 0 < ma * md := Int.mul_pos h3 h7
  have q2 : ma * md ≤ 10 * 10 := Int.mul_le_mul h4 h8 (by omega) (by omega)
  walk_at "nt_enterC"
  intro g1 L1 h1 tk1 cells FG F1 N1 Y1 B1 X1 T1 l1
  obtain ⟨o1, o2, o3, o4, o5, ec, d1, d2, d3, d4, d5⟩ := cellsFive Y1
  subst ec
  clear Y1
  simp only [List.cons_append, List.nil_append] at N1
  try dsimp only
  k_fold
  replace d1 : o1.data = .cell none := d1
  replace d2 : o2.data = .cell none := d2
  replace d3 : o3.data = .cell (some (.int ma tma)) := d3
  replace d4 : o4.data = .cell (some (.int oa toa)) := d4
  replace d5 : o5.data = .cell (some (.ref pa)) := d5
  k_steps
  unfold Halt
  refine joinB (b₀ := false) ?j1 ?j2
  case j1 =>
    have nh : NoHalt := ⟨⟩
    (try k_fold)
    k_steps
    all_goals first | exact ⟨rfl, _, rfl⟩ | (exfalso; omega)
  case j2 =>
    intro tk5
    dsimp only
    k_steps
    rename_i tW _ _ D2 _ lD _ _ _ _ oT _ _ dT _ _ _ _ _ R2 F2 N2 K2
    unfold Halt
    refine nt_compRange (n := w') (σ := Unit) (fun _ => [(L1 + 1 + 1 + 1 + 1 + 1, o1)]) ((L1 + 1 + 1 + 1 + 1, oT) :: (L1 + 1 + 1 + 1, o3) :: (L1 + 1 + 1, o4) :: (L1 + 1, o5) :: news) (fun i ys _ add => ∀ j, j < i → ∃ u, ys[j]? = some u ∧ TupsL add u (wts j oa ma)) [L1 + 1 + 1 + 1 + 1 + 1] () rfl F2 N2 R2 (by omega) (by omega) (by omega) (by walk_at "nt_sub") (fun _ => rfl) (by walk_at "nt_off") (fun j hj => absurd hj (by omega)) ?turnC ?finC
    case turnC =>
      intro g i t ys c tl I oI C oC D m₂ h tk E' hi hy hI hap hC hx F3 N3 ho3
      dsimp only at *
      simp only [List.cons_append, List.nil_append, List.append_assoc] at N3
      k_sweep
      k_fold
      k_steps
      exact EltEndX.intro () tl9 F9 N9 (by walk_at "nt_sub") (apHot o9 a9) (allSnoc (R := fun j l u => TupsL l u (wts j oa ma)) (fun j u hu => TupsL.mono hu (fun p hp => List.mem_append_right _ hp)) hy hI (by rw [Int.zero_add] at e9; exact e9.mono (fun p hp => List.mem_append_left _ hp)))
    case finC =>
      intro g cs' c tlc hcl hI hoc hapc
      unfold LCg.FinA
      intro D h5 tk5 F5 N5 off5
      dsimp only at *
      simp only [List.cons_append, List.nil_append] at N5 off5
      simp only [LCg.Off1] at off5
      k_sweep
      (try k_unfold)
      (try simp only [List.cons_append, List.nil_append])
      (try dsimp only)
      k_steps
      rename_i rl _ lr _ _ _ _ _ _ _ _ R3 F3 N3 K3
      have hoD : OwnOff tlc [rl, L1 + 1 + 1 + 1 + 1 + 1] := fun p hp b hb => by
        rcases List.mem_cons.mp hb with rfl | hb
        · exact Nat.ne_of_lt (ktn_ltOf (by walk_at "nt_lt") p hp)
        · exact hoc p (List.mem_append_left _ hp) b hb
      unfold Halt
      refine nt_range (n := h') (σ := List Value × Nat × Obj) (fun c => [(rl, listOf c.1.toArray c.2.1), (L1 + 1 + 1 + 1 + 1 + 1, c.2.2)]) ((D, LCg.lst cs') :: (tlc ++ ((L1 + 1 + 1 + 1 + 1, oT) :: (L1 + 1 + 1 + 1, o3) :: (L1 + 1 + 1, o4) :: (L1 + 1, o5) :: news))) (fun _ => [(Str.ofString "rows", .ref rl), (Str.ofString "columns", .ref D), (Str.ofString "width", .int (((W : Int) * oa + ma - 1).fdiv ma) tW), (Str.ofString "height", .int (((H : Int) * od + md - 1).fdiv md) t9), (Str.ofString "own_down", .int od tod), (Str.ofString "most_down", .int md tmd)])
        (fun i c tl => (∃ q, c.2.2.data = .cell q) ∧ RowsL tl c.1 w' i (fun i j => (wsum (pix f W H) (wts i oa ma) (wts j od md) + (ma * md).fdiv 2).fdiv (ma * md))) [rl, L1 + 1 + 1 + 1 + 1 + 1] ([], 0, o1) (fun _ _ => rfl) rfl R3 (by omega) (by omega) (by omega) F3 N3 (by walk_at "nt_sub") (fun _ => rfl) (by walk_at "nt_off") (by walk_at "nt_ps") ⟨⟨_, d1⟩, rfl, fun j hj => absurd hj (by omega)⟩ ?turn ?done
      case turn =>
        rintro i t ⟨rvs, kk, oc⟩ tl u h tk own hi ⟨⟨q, dq⟩, hlen, hrows⟩ ho hap F4 N4
        dsimp only at *
        simp only [List.cons_append, List.nil_append, List.append_assoc] at N4 ho
        k_sweep
        k_fold
        k_steps
        rename_i oy F5 N5 dy
        rw [Int.zero_add] at e9
        unfold Halt
        refine nt_compIntsL (vs := cs') (k := cs'.length) (fun j => (wsum (pix f W H) (wts j oa ma) (wts i od md) + (ma * md).fdiv 2).fdiv (ma * md)) rfl F5 N5 (by walk_at "nt_in") (by omega) ?elt2 ?fin2
        case elt2 =>
          intro g' j v' ys I oI C oC D3 m₂ h6 tk6 E' hj hv hC hx F6 N6
          obtain ⟨v6, hv6, e6⟩ := hI j (by omega)
          rw [hv] at hv6
          obtain rfl := Option.some.inj hv6
          have e7 := e6
          obtain ⟨ac, cvs, ck, rfl, mc, hTC⟩ := e7
          have s1 := wts_small (p := (j : Int)) (o := oa) h3 h4
          have s2 := wts_small (p := (i : Int)) (o := od) h7 h8
          simp only [List.cons_append, List.append_assoc] at N6
          k_sweep
          (try k_fold)
          k_steps
          exact EltInt.intro (by k_asm) (by k_asm) (by walk_at "nt_sub") rfl
        case fin2 =>
          intro g' ys hys
          rw [hcl] at hys
          unfold LCg.FinE
          intro D3 h6 tk6 F6 N6 off6
          simp only [LCg.Off1] at off6
          k_sweep
          (try k_unfold)
          (try simp only [List.cons_append, List.nil_append])
          (try dsimp only)
          k_steps
          rename News _ _ _ _ => Nz
          rename Fr _ _ _ _ => Fz
          (try rw [pushArr] at Nz)
          unfold TurnPostX
          have x1 : D3 ≠ rl := by refine neN ?_; omega
          have x2 : D3 ≠ L1 + 1 + 1 + 1 + 1 + 1 := by refine neN ?_; omega
          have x3 : OwnOff [(D3, LCg.lst ys)] [rl, L1 + 1 + 1 + 1 + 1 + 1] := by refine offCons ?_ offNil; walk_at "nt_nes"
          exact TurnEndX.intro (rvs ++ [.ref D3], kk + 1, oy) ((D3, LCg.lst ys) :: tl9) Fz Nz (by walk_at "nt_sub") (by walk_at "nt_ps") (Ap.sub (Ap.left (a := [(D3, LCg.lst ys)]) (apHot (hot := [(rl, listOf rvs.toArray kk), (L1 + 1 + 1 + 1 + 1 + 1, oc)]) (show OwnOff [(D3, LCg.lst ys)] [rl, L1 + 1 + 1 + 1 + 1 + 1] from by walk_at "nt_off") (fun p hp q hq => Ap.one off6.2.2 p hp q (List.mem_append_right _ hq))) (apHot o9 a9)) (fun _ h => h) (by walk_at "nt_sub"))
            ⟨⟨_, dy⟩, RowsL.snoc ⟨hlen, hrows⟩ ⟨D3, ys, ys.length, rfl, List.mem_cons_self, hys⟩ (fun p hp => List.mem_cons_of_mem _ (List.mem_append_right _ hp))⟩
      case done =>
        rintro ⟨rvs, kk, oc⟩ tl u h tk ⟨⟨q, dq⟩, hlen, hrows⟩ ho hap F4 N4
        dsimp only at *
        simp only [List.cons_append, List.nil_append] at N4
        k_sweep
        (try k_unfold)
        (try simp only [List.cons_append, List.nil_append])
        (try dsimp only)
        k_steps
        rename News _ _ _ _ => Nz
        rename Fr _ _ _ _ => Fz
        simp only [ew, eh] at Nz
        exact retPlane (tl := tl ++ ((D, LCg.lst cs') :: tlc)) hret Fz Nz (by walk_at "nt_in") (by walk_at "nt_sub") (RowsL.mono ⟨hlen, hrows⟩ (fun p hp => List.mem_append_left _ hp)) (by walk_at "nt_lt") (by refine ltN' ?_; omega) (by walk_at "nt_lt") (Ap.left (hap.sub (fun _ h => h) (by walk_at "nt_sub")) (Ap.left (a := [(D, LCg.lst cs')]) ((Ap.one off5.2).sub (fun _ h => h) (by walk_at "nt_sub")) (hapc.sub (fun _ h => h) (by walk_at "nt_sub")))) hw hw' hh hh'
set_option maxHeartbeats 8000000 in
theorem c_shrunktod (w : World) (v : Value) (W H : Nat) (f : Nat → Nat → Int) (oa : Int) (toa : Tok) (ma : Int) (tma : Tok) (od : Int) (tod : Tok) (md : Int) (tmd : Tok) (a1 b1 : Int)
    (h1 : 0 < oa) (h2 : oa ≤ 10) (h3 : 0 < ma) (h4 : ma ≤ 10) (h5 : 0 < od) (h6 : od ≤ 10) (h7 : 0 < md) (h8 : md ≤ 10) (z1 : ma.fmod oa = 0) (z2 : md.fmod od = 0) (ea : ma.fdiv oa = a1) (eb : md.fdiv od = b1) (ha : 0 < a1) (ha' : a1 ≤ 10) (hb : 0 < b1) (hb' : b1 ≤ 10) :
    Ctr w 6 152 [v, .int oa toa, .int ma tma, .int od tod, .int md tmd] (fun news => PlaneL w.params news v W H f) (fun tl r => PlaneL w.params tl r (cd W a1) (cd H b1) (fun i j => meanV (pix f W H) i j a1 b1)) := by
  subst ea
  subst eb
  refine Ctr.of ?_
  intro mean mg mb dp un gd cn cs a ccd cl outer A₀ base h₀ L m news s Q E B F X N T hk hP hd hu hret
  have hPc := hP
  obtain ⟨pa, pd, pr, rvs0, k0, pt1, pt2, pt3, ptw, pth, rfl, m1, m2, m3, hrows0, hW, hW2, hH, hH2⟩ := hPc
  walk_at "nt_enterC"
  intro g1 L1 h1 tk1 cells FG F1 N1 Y1 B1 X1 T1 l1
  obtain ⟨o1, o2, o3, o4, o5, ec, d1, d2, d3, d4, d5⟩ := cellsFive Y1
  subst ec
  clear Y1
  simp only [List.cons_append, List.nil_append] at N1
  try dsimp only
  k_fold
  replace d1 : o1.data = .cell none := d1
  replace d2 : o2.data = .cell none := d2
  replace d3 : o3.data = .cell (some (.int ma tma)) := d3
  replace d4 : o4.data = .cell (some (.int oa toa)) := d4
  replace d5 : o5.data = .cell (some (.ref pa)) := d5
  k_steps
  unfold Halt
  refine joinB (b₀ := true) ?j1 ?j2
  case j1 =>
    have nh : NoHalt := ⟨⟩
    (try k_fold)
    k_steps
    all_goals first | exact ⟨rfl, _, rfl⟩ | (exfalso; omega)
  case j2 =>
    intro tk5
    dsimp only
    k_steps
    rename PlaneL _ _ _ _ _ _ => eP
    rename News _ _ _ _ => Nz
    rename Fr _ _ _ _ => Fz
    refine' hret _ _ _ _ Fz (newsSub Nz ?hs) ?ha eP
    case ha => assumption
    case hs => walk_at "nt_sub"
theorem Ctr.mono {w : World} {k k' : Nat} {f : Addr} {vs : List Value} {Pre Pre' : Led → Prop} {Out Out' : Led → Value → Prop} (C : Ctr w k f vs Pre Out) (hk : k ≤ k') (hP : ∀ l, Pre' l → Pre l) (hO : ∀ l v, Out l v → Out' l v) : Ctr w k' f vs Pre' Out' := by
  intro mean mg mb dp un gd cn cs a ccd cl outer A₀ base h₀ L m news s Q E B F X N T hkd hPre hd hu hret
  refine C mean mg mb dp un gd cn cs a ccd cl outer A₀ base h₀ L m news s Q E B F X N T hkd (hP _ hPre) (by omega) (by omega) ?_
  intro r tl h' tk' F' N' ap o
  exact hret r tl h' tk' F' N' ap (hO _ _ o)
theorem constDivB (c q b : Int) (hq : 0 < q) (hb : 0 ≤ b) (hb' : b < q) : (c * q + b).fdiv q = c := by
  rw [Int.fdiv_eq_ediv_of_nonneg _ (by omega), Int.add_comm, Int.add_mul_ediv_right _ _ (by omega), Int.ediv_eq_zero_of_lt hb hb', Int.zero_add]
theorem mapConst {α : Type} (c : Int) : ∀ l : List α, (l.map fun _ => c).sum = c * l.length
  | [] => by simp
  | _ :: l => by
    rw [List.map_cons, List.sum_cons, mapConst c l, List.length_cons, Int.natCast_succ, Int.mul_add, Int.mul_one, Int.add_comm]
theorem boxConst (c : Int) (a d : Nat) : boxSum (fun _ _ => c) a d = c * ((a : Int) * d) := by
  unfold boxSum
  rw [mapConst, mapConst, List.length_range, List.length_range, Int.mul_assoc]
theorem mapFactor {α : Type} (c : Int) (g : α → Int) : ∀ l : List α, (l.map fun p => c * g p).sum = c * (l.map g).sum
  | [] => by simp
  | _ :: l => by rw [List.map_cons, List.sum_cons, mapFactor c g l, List.map_cons, List.sum_cons, Int.mul_add]
theorem wsumConst (g : Int → Int → Int) (c : Int) (hg : ∀ x y, g x y = c) (cols rows : List (Int × Int)) : wsum g cols rows = c * ((rows.map (·.2)).sum * (cols.map (·.2)).sum) := by
  unfold wsum
  have h1 : (fun q : Int × Int => (cols.map fun p => g p.1 q.1 * q.2 * p.2).sum) = fun q => (c * (cols.map (·.2)).sum) * q.2 := by
    funext q
    have h2 : (fun p : Int × Int => g p.1 q.1 * q.2 * p.2) = fun p => (c * q.2) * p.2 := by funext p; rw [hg]
    rw [h2, mapFactor, Int.mul_assoc, Int.mul_comm q.2, ← Int.mul_assoc]
  rw [h1, mapFactor, Int.mul_assoc, Int.mul_comm (rows.map (·.2)).sum]
theorem bias_lt {x a d : Int} (ha : 0 < a) (hd : 0 < d) : 0 ≤ bias x a d ∧ bias x a d < a * d := by
  have h1 : 0 < a * d := Int.mul_pos ha hd
  have e1 : x.fmod 2 = x % 2 := Int.fmod_eq_emod_of_nonneg x (by omega)
  unfold bias
  split
  · next h => obtain ⟨rfl, rfl⟩ := h; rw [e1]; omega
  · split
    · next h => obtain ⟨rfl, rfl⟩ := h; rw [e1]; omega
    · rw [Int.fdiv_eq_ediv_of_nonneg _ (by omega)]
      omega
theorem meanV_const (g : Int → Int → Int) (c : Int) (hg : ∀ x y, g x y = c) (x y a d : Int) (ha : 0 < a) (hd : 0 < d) : meanV g x y a d = c := by
  unfold meanV
  have e : (fun (t s : Nat) => g (x * a + (t : Int)) (y * d + (s : Int))) = fun _ _ => c := by funext t s; exact hg _ _
  have hb := bias_lt (x := x) ha hd
  rw [e, boxConst, Int.toNat_of_nonneg (by omega), Int.toNat_of_nonneg (by omega)]
  exact constDivB c _ _ (Int.mul_pos ha hd) hb.1 hb.2
theorem wsum_div (g : Int → Int → Int) (c : Int) (hg : ∀ x y, g x y = c) (cols rows : List (Int × Int)) (q : Int) (hq : 0 < q) (h : (rows.map (·.2)).sum * (cols.map (·.2)).sum = q) : (wsum g cols rows + q.fdiv 2).fdiv q = c := by
  rw [wsumConst g c hg, h]
  refine constDivB c q _ hq ?_ ?_ <;> rw [Int.fdiv_eq_ediv_of_nonneg _ (by omega)] <;> omega
theorem PlaneL.bounds {P : Params} {led : Led} {v : Value} {W H : Nat} {f : Nat → Nat → Int} (h : PlaneL P led v W H f) : 0 < W ∧ W ≤ 100 ∧ 0 < H ∧ H ≤ 100 := by
  obtain ⟨a, d, r, rvs, k, t1, t2, t3, tw, th, e, h1, h2, h3, h4, h5⟩ := h
  exact h5
/-- the pairs own, most that the law draws from -/
noncomputable def ratios : List (Int × Int) := [(1, 2), (2, 3), (3, 4), (1, 1)]
noncomputable def flatOk (o m a : Int) : Bool :=
  if m.fmod o = 0 then true else
  decide ((0 < ((3 : Int) * o + m - 1).fdiv m) ∧ (((3 : Int) * o + m - 1).fdiv m ≤ 100) ∧ (0 < ((2 : Int) * 1 + a - 1).fdiv a) ∧ (((2 : Int) * 1 + a - 1).fdiv a ≤ 100)) &&
  (List.range (((3 : Int) * o + m - 1).fdiv m).toNat).all fun (i : Nat) => (List.range (((2 : Int) * 1 + a - 1).fdiv a).toNat).all fun (j : Nat) => decide (((wts j 1 a).map (·.2)).sum * ((wts i o m).map (·.2)).sum = m * a)
theorem flat_all : ratios.all (fun p => flatOk p.1 p.2 1 && flatOk p.1 p.2 2 && flatOk p.1 p.2 3) = true := by decide +kernel
theorem flat_of {o m a : Int} (h : (o, m) ∈ ratios) (ha : 1 ≤ a) (ha' : a ≤ 3) : flatOk o m a = true := by
  have h1 := List.all_eq_true.mp flat_all (o, m) h
  simp only [Bool.and_eq_true] at h1
  obtain ⟨⟨h2, h3⟩, h4⟩ := h1
  have : a = 1 ∨ a = 2 ∨ a = 3 := by omega
  rcases this with rfl | rfl | rfl
  · exact h2
  · exact h3
  · exact h4
theorem ratio_small {o m : Int} (h : (o, m) ∈ ratios) : 0 < o ∧ o ≤ 10 ∧ 0 < m ∧ m ≤ 10 := by
  simp only [ratios, List.mem_cons, Prod.mk.injEq, List.not_mem_nil, or_false] at h
  omega
theorem ratio_div {o m : Int} (h : (o, m) ∈ ratios) (hz : m.fmod o = 0) : m.fdiv o = 1 ∨ m.fdiv o = 2 := by
  simp only [ratios, List.mem_cons, Prod.mk.injEq, List.not_mem_nil, or_false] at h
  rcases h with ⟨rfl, rfl⟩ | ⟨rfl, rfl⟩ | ⟨rfl, rfl⟩ | ⟨rfl, rfl⟩ <;> revert hz <;> decide
/-- a plane of one sample stays so by any of the law's ratios -/
theorem c_flat (w : World) (v : Value) (f : Nat → Nat → Int) (c : Int) (hf : ∀ i j, f i j = c) (o1 : Int) (to : Tok) (m1 : Int) (tm : Tok) (td : Tok) (a1 : Int) (ta : Tok) (h : (o1, m1) ∈ ratios) (ha : 1 ≤ a1) (ha' : a1 ≤ 3) :
    Ctr w 6 152 [v, .int o1 to, .int m1 tm, .int 1 td, .int a1 ta] (fun news => PlaneL w.params news v 3 2 f) (fun tl r => ∃ W' H', PlaneL w.params tl r W' H' (fun _ _ => c)) := by
  obtain ⟨b1, b2, b3, b4⟩ := ratio_small h
  have hg : ∀ x y, pix f 3 2 x y = c := fun x y => hf _ _
  have hz2 : a1.fmod 1 = 0 := by rw [Int.fmod_eq_emod_of_nonneg _ (by omega)]; omega
  have hd2 : a1.fdiv 1 = a1 := by rw [Int.fdiv_eq_ediv_of_nonneg _ (by omega)]; omega
  by_cases hz : m1.fmod o1 = 0
  · have hd := ratio_div h hz
    refine Ctr.mono (c_shrunktod w v 3 2 f o1 to m1 tm 1 td a1 ta (m1.fdiv o1) a1 b1 b2 b3 b4 (by omega) (by omega) (by omega) (by omega) hz hz2 rfl hd2 (by omega) (by omega) (by omega) (by omega)) (Nat.le_refl _) (fun _ h => h) ?_
    intro l r hP
    exact ⟨_, _, hP.congr fun i j _ _ => meanV_const _ c hg _ _ _ _ (by omega) (by omega)⟩
  · have hk := flat_of h ha ha'
    unfold flatOk at hk
    rw [if_neg hz, Bool.and_eq_true] at hk
    obtain ⟨hk1, hk2⟩ := hk
    have hk1 := of_decide_eq_true hk1
    obtain ⟨k1, k2, k3, k4⟩ := hk1
    refine Ctr.mono (c_shrunkto w v 3 2 f o1 to m1 tm 1 td a1 ta (((3 : Int) * o1 + m1 - 1).fdiv m1).toNat (((2 : Int) * 1 + a1 - 1).fdiv a1).toNat b1 b2 b3 b4 (by omega) (by omega) (by omega) (by omega) (fun q => hz q.1) (by exact (Int.toNat_of_nonneg (Int.le_of_lt k1)).symm) (by exact (Int.toNat_of_nonneg (Int.le_of_lt k3)).symm) (by omega) (by omega) (by omega) (by omega)) (by omega) (fun _ h => h) ?_
    intro l r hP
    refine ⟨_, _, hP.congr fun i j hi hj => ?_⟩
    have h1 := List.all_eq_true.mp (List.all_eq_true.mp hk2 i (List.mem_range.mpr hi)) j (List.mem_range.mpr hj)
    exact wsum_div _ c hg _ _ _ (Int.mul_pos b3 (by omega)) (of_decide_eq_true h1)
noncomputable def farF (p n : Int) : Int :=
  if (if p.fmod 2 = 0 then p.fdiv 2 - 1 else p.fdiv 2 + 1) < 0 ∨ (if p.fmod 2 = 0 then p.fdiv 2 - 1 else p.fdiv 2 + 1) ≥ n then p.fdiv 2 else (if p.fmod 2 = 0 then p.fdiv 2 - 1 else p.fdiv 2 + 1)
/-- a mark: the walk halts at conditional expressions -/
structure HaltIf : Prop where
theorem joinI {M : Model} {A : Around} {E : Value → Shared → Prop} {s : Shared} {t : Sem Value} {Q : Value → Shared → Prop} (x : Int) (h : wpAny M A t (fun v s' => (∃ u, v = .int x u) ∧ ∃ tk, s' = { s with toks := tk }) E s) (k : ∀ u tk, Q (.int x u) { s with toks := tk }) : wpAny M A t Q E s :=
  wpAny_mono h (by rintro b s' ⟨⟨u, rfl⟩, tk, rfl⟩; exact k u tk) fun _ _ e => e
theorem retPair {h₀ h' : Heap} {L T : Addr} {m : Str → Option Value} {news : Led} {s : Shared} {Q : Value → Shared → Prop} {tk' : Nat} {x y y' : Int} {t1 t2 : Tok} {k : Nat}
    (hret : ∀ r tl h' tk', Fr h₀ L h' m → News h₀ L h' (tl ++ news) → (∀ p ∈ tl, ∀ q ∈ news, p.1 ≠ q.1) → (∃ ta t1 t2 k, r = .ref ta ∧ tl = [(ta, tupOf [.int x t1, .int y t2] k)]) → Q r { s with heap := h', toks := tk' })
    (F : Fr h₀ L h' m) (N : News h₀ L h' ((T, tupOf [.int x t1, .int y' t2] k) :: news)) (hT : ∀ p ∈ news, p.1 < T) (e : y' = y) : Q (.ref T) { s with heap := h', toks := tk' } := by
  subst e
  exact hret _ [(T, _)] h' tk' F N (fun p hp q hq => by rw [List.mem_singleton.mp hp]; exact Nat.ne_of_gt (hT q hq)) ⟨T, t1, t2, k, rfl, rfl⟩
set_option maxHeartbeats 8000000 in
theorem c_nearfar (w : World) (p1 : Int) (tp : Tok) (n1 : Int) (tn : Tok) : Ctr w 1 176 [.int p1 tp, .int n1 tn] (fun _ => True) (fun tl r => ∃ ta t1 t2 k, r = .ref ta ∧ tl = [(ta, tupOf [.int (p1.fdiv 2) t1, .int (farF p1 n1) t2] k)]) := by
  refine Ctr.of ?_
  intro mean mg mb dp un gd cn cs a ccd cl outer A₀ base h₀ L m news s Q E B F X N T hk hP hd hu hret
  walk_at "nt_enter"
  intro g1 L1 h1 FG F1 N1 B1 X1 T1
  try dsimp only
  k_fold
  k_steps
  all_goals (rename News _ _ _ _ => Nz; rename Fr _ _ _ _ => Fz; exact retPair hret Fz Nz (by assumption) (by unfold farF; (repeat' split) <;> omega))
theorem words_12 : True := by
  k_with "call ref" => (k_here; (with_reducible show wpAny _ _ (call (Value.ref 176) [Value.int _ _, Value.int _ _]) _ _ _); k_dflt (refine' Ctr.use (c_nearfar _ _ _ _ _) ?B ?F ?X ?N ?T ?hk ?S ?P ?hd ?hu ?_; walk_at "nt_args"; (case P => exact trivial); (case S => walk_at "nt_split"); (intro r9 tl9 h9 tk9 F9 N9 o9 a9 e9; obtain ⟨ta9, t19, t29, k9, e8, e7⟩ := e9; subst e8; subst e7; simp only [List.nil_append, List.cons_append, List.append_assoc] at N9; (try simp only [List.map_cons, List.map_nil] at o9); (try dsimp only); (try k_sweep); (try k_fold))))
  exact True.intro
theorem lenAt {prog : Program} {w : World} {A : Around} {E : Value → Shared → Prop} {s : Shared} {h₀ : Heap} {L l : Addr} {news : Led} {vs : List Value} {k : Nat} {Q : Value → Shared → Prop} (N : News h₀ L s.heap news) (hm : (l, listOf vs.toArray k) ∈ news) (hs : vs.length ≤ 100000)
    (h : ∀ t tk, Q (.int (vs.length : Int) t) { s with toks := tk }) : wpAny (model prog w) A (call (.builtin "len") [.ref l]) Q E s := by
  have hl : s.heap.IsList l vs.toArray := ⟨_, (N _ hm).1, rfl, k, rfl⟩
  have e : vs.toArray.size = vs.length := by simp
  refine len_list hl (by rw [e]; omega) ?_
  rw [e]
  exact h _ _
theorem words_13 : True := by
  k_with "call builtin:len" => (k_here; (with_reducible show wpAny _ _ (call (Value.builtin "len") [Value.ref _]) _ _ _); k_dflt (refine' lenAt ?lN ?lm ?ls ?_; (case lN => k_asm); (case lm => k_mem); (case ls => omega)); intro t9 tk9; (try dsimp only))
  exact True.intro
noncomputable def dbl (g : Nat → Int) (n : Nat) (sc l r : Int) (i : Nat) : Int :=
  if i % 2 = 0 then (3 * g (i / 2) + (if 0 < i / 2 then g (i / 2 - 1) else g (i / 2)) + l).fdiv (4 * sc)
  else (3 * g (i / 2) + (if i / 2 + 1 < n then g (i / 2 + 1) else g (i / 2)) + r).fdiv (4 * sc)
theorem dbl_even (g : Nat → Int) (n : Nat) (sc l r : Int) (i : Nat) : dbl g n sc l r (2 * i) = (3 * g i + (if 0 < i then g (i - 1) else g i) + l).fdiv (4 * sc) := by
  unfold dbl
  rw [if_pos (by omega), show 2 * i / 2 = i by omega]
theorem dbl_odd (g : Nat → Int) (n : Nat) (sc l r : Int) (i : Nat) : dbl g n sc l r (2 * i + 1) = (3 * g i + (if i + 1 < n then g (i + 1) else g i) + r).fdiv (4 * sc) := by
  unfold dbl
  rw [if_neg (by omega), show (2 * i + 1) / 2 = i by omega]
/-- a list of ints newly made is handed back -/
theorem retInts {h₀ h' : Heap} {L a : Addr} {m : Str → Option Value} {news rest : Led} {s : Shared} {Q : Value → Shared → Prop} {tk' : Nat} {vs : List Value} {k : Nat} {ns : List Int}
    (hret : ∀ r tl h' tk', Fr h₀ L h' m → News h₀ L h' (tl ++ news) → (∀ p ∈ tl, ∀ q ∈ news, p.1 ≠ q.1) → IntsL tl r ns → Q r { s with heap := h', toks := tk' })
    (F : Fr h₀ L h' m) (N : News h₀ L h' rest) (ha : (a, listOf vs.toArray k) ∈ rest) (hs : ∀ p ∈ news, p ∈ rest) (hI : IntsAre vs ns) (a1 : AllLt a news) : Q (.ref a) { s with heap := h', toks := tk' } :=
  hret _ [(a, listOf vs.toArray k)] h' tk' F (newsSub N fun p hp => by
    rcases List.mem_cons.mp hp with rfl | hp
    · exact ha
    · exact hs p hp) (Ap.consL a1 Ap.nil) ⟨a, vs, k, rfl, .head _, hI⟩
set_option maxHeartbeats 8000000 in
theorem c_doubled (w : World) (v : Value) (n : Nat) (g : Nat → Int) (sc : Int) (tsc : Tok) (l1 : Int) (tl1 : Tok) (r1 : Int) (tr1 : Tok) (hn : 0 < n) (hn' : n ≤ 100) (hs : 0 < sc) (hs' : sc ≤ 10) :
    Ctr w 2 183 [v, .int sc tsc, .int l1 tl1, .int r1 tr1] (fun news => IntsL news v ((List.range n).map g)) (fun tl r => IntsL tl r ((List.range (2 * n)).map (dbl g n sc l1 r1))) := by
  refine Ctr.of ?_
  intro mean mg mb dp un gd cn cs a ccd cl outer A₀ base h₀ L m news s Q E B F X N T hk hP hd hu hret
  obtain ⟨pa, vs, k, rfl, mv, hI⟩ := hP
  have hvl : vs.length = n := by rw [hI.length]; simp
  have hJ : ∀ i, i < n → ∃ t, vs[i]? = some (.int (g i) t) := fun i h => hI.get i (g i) (by rw [List.getElem?_map, List.getElem?_range h]; rfl)
  clear hI
  walk_at "nt_enter"
  intro g1 L1 h1 FG F1 N1 B1 X1 T1
  try dsimp only
  k_fold
  k_steps
  rename_i fl _ lf _ _ _ _ _ _ _ _ R2 F2 N2 K2
  unfold Halt
  refine nt_range (n := n) (σ := List Value × Nat × Tok) (fun c => [(fl, listOf c.1.toArray c.2.1)]) news (fun c => [(Str.ofString "found", .ref fl), (Str.ofString "whole", .int (4 * sc) c.2.2), (Str.ofString "values", .ref pa), (Str.ofString "left", .int l1 tl1), (Str.ofString "right", .int r1 tr1)])
    (fun i c tl => tl = [] ∧ IntsAre c.1 ((List.range (2 * i)).map (dbl g n sc l1 r1))) [fl] ([], 0, _) (fun _ _ => rfl) rfl R2 (by omega) (by omega) (by omega) F2 N2 (by walk_at "nt_sub") (fun _ => rfl) (by walk_at "nt_off") (by walk_at "nt_ps") ⟨rfl, .nil⟩ ?turn ?done
  case turn =>
    rintro i t ⟨ys, kk, tw⟩ tl u h tk own hi ⟨rfl, hY⟩ ho hap F3 N3
    dsimp only at hY F3 N3 ⊢
    simp only [List.cons_append, List.nil_append] at N3
    k_sweep
    k_fold
    have hyl : ys.length = 2 * i := by rw [hY.length]; simp
    obtain ⟨t0, hv0⟩ := hJ i hi
    have e0 : vs[(0 + (i : Int)).toNat]? = some (.int (g i) t0) := by rw [show (0 + (i : Int)).toNat = i by omega]; exact hv0
    have hiF : HaltIf := ⟨⟩
    k_steps
    unfold Halt
    refine joinI (if 0 < i then g (i - 1) else g i) ?j1 ?j2
    case j1 =>
      have nh : NoHalt := ⟨⟩
      by_cases h0 : 0 < i
      · obtain ⟨t3, hv3⟩ := hJ (i - 1) (by omega)
        have e3 : vs[(0 + (i : Int) - 1).toNat]? = some (.int (g (i - 1)) t3) := by rw [show (0 + (i : Int) - 1).toNat = i - 1 by omega]; exact hv3
        rw [if_pos h0]
        k_steps
        all_goals first | exact ⟨⟨_, rfl⟩, _, rfl⟩ | (exfalso; omega)
      · rw [if_neg h0]
        k_steps
        all_goals first | exact ⟨⟨_, rfl⟩, _, rfl⟩ | (exfalso; omega)
    case j2 =>
      intro u3 tk3
      dsimp only
      k_steps
      unfold Halt
      refine joinI (if i + 1 < n then g (i + 1) else g i) ?j3 ?j4
      case j3 =>
        have nh : NoHalt := ⟨⟩
        by_cases h0 : i + 1 < n
        · obtain ⟨t3, hv3⟩ := hJ (i + 1) (by omega)
          have e3 : vs[(0 + (i : Int) + 1).toNat]? = some (.int (g (i + 1)) t3) := by rw [show (0 + (i : Int) + 1).toNat = i + 1 by omega]; exact hv3
          rw [if_pos h0]
          k_steps
          all_goals first | exact ⟨⟨_, rfl⟩, _, rfl⟩ | (exfalso; omega)
        · rw [if_neg h0]
          k_steps
          all_goals first | exact ⟨⟨_, rfl⟩, _, rfl⟩ | (exfalso; omega)
      case j4 =>
        intro u4 tk4
        dsimp only
        k_steps
        rename News _ _ _ _ => Nz
        rename Fr _ _ _ _ => Fz
        rw [pushArr, pushArr] at Nz
        unfold TurnPostX
        exact TurnEndX.intro (_, kk + 1 + 1, tw) [] Fz Nz (by walk_at "nt_sub") (by walk_at "nt_ps") Ap.nil ⟨rfl, by
          dsimp only
          rw [show 2 * (i + 1) = 2 * i + 1 + 1 by omega, rangeMapSucc, rangeMapSucc, dbl_odd, dbl_even]
          exact intsSnoc (intsSnoc hY _ _) _ _⟩
  case done =>
    rintro ⟨ys, kk, tw⟩ tl u h tk ⟨rfl, hY⟩ ho hap F3 N3
    dsimp only at hY F3 N3 ⊢
    simp only [List.cons_append, List.nil_append] at N3
    k_sweep
    (try k_unfold)
    (try simp only [List.cons_append, List.nil_append])
    (try dsimp only)
    k_steps
    rename News _ _ _ _ => Nz
    rename Fr _ _ _ _ => Fz
    exact retInts hret Fz Nz (by walk_at "nt_in") (by walk_at "nt_sub") hY (by walk_at "nt_lt")
theorem words_14 : True := by
  k_with "nt_ints" => first | assumption | exact IntsL.mono (by assumption) (by walk_at "nt_sub")
  k_with "nt_intsRes" => (intro r9 tl9 h9 tk9 F9 N9 o9 a9 e9; have e8 := e9; obtain ⟨pa9, vs9, k9, eq9, m19, R9⟩ := e8; subst eq9; simp only [List.nil_append, List.cons_append, List.append_assoc] at N9; (try simp only [List.map_cons, List.map_nil] at o9); (try dsimp only); (try k_sweep); (try k_fold))
  k_with "call ref" => (k_here; (with_reducible show wpAny _ _ (call (Value.ref 183) [_, Value.int _ _, Value.int _ _, Value.int _ _]) _ _ _); k_dflt (refine' Ctr.use (c_doubled _ _ _ _ _ _ _ _ _ _ ?p1 ?p2 ?p3 ?p4) ?B ?F ?X ?N ?T ?hk ?S ?P ?hd ?hu ?_; walk_at "nt_args"; (case P => walk_at "nt_ints"); (case p1 => omega); (case p2 => omega); (case p3 => omega); (case p4 => omega); (case S => walk_at "nt_split"); walk_at "nt_intsRes"))
  exact True.intro
noncomputable def softS (f : Nat → Nat → Int) (H : Nat) (j : Nat) (i : Nat) : Int := 3 * f i ((j : Int).fdiv 2).toNat + f i (farF j H).toNat
noncomputable def soft (f : Nat → Nat → Int) (W H : Nat) (a d : Int) (i j : Nat) : Int :=
  if d = 1 then dbl (fun x => f x j) W 1 1 2 i else if a = 1 then (softS f H j i + 1 + (j : Int).fmod 2).fdiv 4 else dbl (softS f H j) W 4 8 7 i
theorem far_in {p n : Int} (h0 : 0 ≤ p) (h1 : p < n * 2) : 0 ≤ farF p n ∧ farF p n < n := by
  have e1 : p.fmod 2 = p % 2 := Int.fmod_eq_emod_of_nonneg p (by omega)
  have e2 : p.fdiv 2 = p / 2 := Int.fdiv_eq_ediv_of_nonneg p (by omega)
  unfold farF
  rw [e1, e2]
  split <;> (try split at *) <;> omega
theorem off2 {a b c : Nat} {o : Obj} (h : OwnOff [(a, o)] [b, c]) : (@Ne Nat a b) ∧ (@Ne Nat a c) := ⟨h _ List.mem_cons_self b List.mem_cons_self, h _ List.mem_cons_self c (.tail _ (.head _))⟩
theorem words_zip : True := by
  k_with "exec Assign cons ListComp" => (k_here; (with_reducible show wpAny _ _ (exec (Stmt.Assign [Expr.Name _ _] (Expr.ListComp _ [Comprehension.mk (Expr.Tuple _ _ _) _ _ _] _ _) _) _) _ _ _); k_dflt (refine Assign_ListComp_Z (F₀ := by k_asm) (by rfl) (by with_unfolding_all rfl) (by rfl) (by decide) (by rfl) (by decide) (by rfl) (by rfl) (by decide) (by rfl) (by rfl) ?_))
  k_with "call type:zip" => ((with_reducible show wpAny _ _ (call _ _) (fun xv s₁ => SrcZ _ _ _ _ _ _ _ _ _ _ _ _ _ xv s₁) _ _); refine stopIt ?_)
  k_with "call ref" => (k_here; (with_reducible show wpAny _ _ (call (Value.ref 183) [_, Value.int _ _, Value.int _ _, Value.int _ _]) _ _ _); (rename Halt True => hbg); refine stopIt ?_)
  exact True.intro
set_option maxHeartbeats 8000000 in
theorem c_softened (w : World) (v : Value) (W H : Nat) (f : Nat → Nat → Int) (a1 : Int) (ta : Tok) (dw : Int) (td : Tok) (ha : a1 = 1 ∨ a1 = 2) (hd1 : dw = 1 ∨ dw = 2) (had : ¬(a1 = 1 ∧ dw = 1)) (W' H' : Nat) (eW : (W : Int) * a1 = W') (eH : (H : Int) * dw = H') (bW : W' ≤ 100) (bH : H' ≤ 100) :
    Ctr w 4 169 [v, .int a1 ta, .int dw td] (fun news => PlaneL w.params news v W H f) (fun tl r => PlaneL w.params tl r W' H' (soft f W H a1 dw)) := by
  refine Ctr.of ?_
  intro mean mg mb dp un gd cn cs a ccd cl outer A₀ base h₀ L m news s Q E B F X N T hk hP hd hu hret
  have hPc := hP
  obtain ⟨pa, pd, pr, rvs0, k0, pt1, pt2, pt3, ptw, pth, rfl, m1, m2, m3, hrows0, hW, hW2, hH, hH2⟩ := hPc
  have bW0 : 0 < W' := by rcases ha with rfl | rfl <;> omega
  have bH0 : 0 < H' := by rcases hd1 with rfl | rfl <;> omega
  walk_at "nt_enterC"
  intro g1 L1 h1 tk1 cells FG F1 N1 Y1 B1 X1 T1 l1
  obtain ⟨o1, ec, d1⟩ := CellsAre.one Y1
  subst ec
  clear Y1
  simp only [List.cons_append, List.nil_append] at N1
  try dsimp only
  k_fold
  have d1' : o1.data = .cell none := d1
  k_steps
  rename_i rl _ lr _ _ _ _ _ _ _ _ R2 F2 N2 K2
  unfold Halt
  refine nt_range (n := H') (σ := List Value × Nat × Obj) (fun c => [(rl, listOf c.1.toArray c.2.1), (L1 + 1, c.2.2)]) news (fun _ => [(Str.ofString "rows", .ref rl), (Str.ofString "plane", .ref pa), (Str.ofString "across", .int a1 ta), (Str.ofString "down", .int dw td)])
    (fun i c tl => (∃ q, c.2.2.data = .cell q) ∧ RowsL tl c.1 W' i (soft f W H a1 dw)) [rl, L1 + 1] ([], 0, o1) (fun _ _ => rfl) rfl R2 (by omega) (by omega) (by omega) F2 N2 (by walk_at "nt_sub") (fun _ => rfl) (by walk_at "nt_off") (by walk_at "nt_ps") ⟨⟨_, d1'⟩, rfl, fun j hj => absurd hj (by omega)⟩ ?turn ?done
  case turn =>
    rintro i t ⟨rvs, kk, oc⟩ tl u h tk own hi ⟨⟨q, dq⟩, hlen, hrows⟩ ho hap F4 N4
    dsimp only at *
    simp only [List.cons_append, List.nil_append] at N4
    k_sweep
    k_fold
    rcases hd1 with rfl | rfl
    · obtain rfl : a1 = 2 := ha.resolve_left fun q => had ⟨q, rfl⟩
      obtain ⟨rv, hrv, hIv⟩ := hrows0.2 i (by omega)
      have hIv' : IntsL news rv ((List.range W).map fun x => f x i) := hIv
      have e0 : rvs0[(0 + (i : Int)).toNat]? = some rv := by rw [show (0 + (i : Int)).toNat = i by omega]; exact hrv
      k_steps
      rename_i _ oy dy _ _ Fz Nz
      (try rw [pushArr] at Nz)
      unfold TurnPostX
      have hr : IntsL (tl9 ++ tl) (.ref pa9) (rowOf W' (soft f W H 2 1) i) := by
        have e : rowOf W' (soft f W H 2 1) i = (List.range (2 * W)).map (dbl (fun x => f x i) W 1 1 2) := by
          rw [show 2 * W = W' by omega]
          exact List.map_congr_left fun x _ => by unfold soft; rw [if_pos rfl]
        rw [e]
        exact e9.mono fun p hp => List.mem_append_left _ hp
      exact TurnEndX.intro (rvs ++ [.ref pa9], kk + 1, oy) tl9 Fz Nz (by walk_at "nt_sub") (by walk_at "nt_ps") (apHot (hot := [(rl, listOf rvs.toArray kk), (L1 + 1, oc)]) o9 a9) ⟨⟨_, dy⟩, RowsL.snoc ⟨hlen, hrows⟩ hr (fun p hp => List.mem_append_right _ hp)⟩
    · have ei : (0 : Int) + (i : Int) = (i : Int) := Int.zero_add _
      have n1 : (i : Int).fdiv 2 = (i : Int) / 2 := Int.fdiv_eq_ediv_of_nonneg _ (by omega)
      have fi := far_in (p := (i : Int)) (n := (H : Int)) (by omega) (by omega)
      obtain ⟨rv1, hrv1, ra1, vs1, kq1, rfl, ma1, hI1⟩ := hrows0.2 ((i : Int).fdiv 2).toNat (by omega)
      obtain ⟨rv2, hrv2, ra2, vs2, kq2, rfl, ma2, hI2⟩ := hrows0.2 (farF i H).toNat (by omega)
      have e1 : rvs0[((0 + (i : Int)).fdiv 2).toNat]? = some (.ref ra1) := by rw [ei]; exact hrv1
      have e2 : rvs0[(farF (0 + (i : Int)) H).toNat]? = some (.ref ra2) := by rw [ei]; exact hrv2
      have b1 : 0 ≤ (0 + (i : Int)).fdiv 2 := by rw [ei, n1]; omega
      have b2 : (0 + (i : Int)).fdiv 2 < 1000 := by rw [ei, n1]; omega
      have b3 : 0 ≤ farF (0 + (i : Int)) H := by rw [ei]; exact fi.1
      have b4 : farF (0 + (i : Int)) H < 1000 := by rw [ei]; omega
      have hl1 : vs1.length = W := by rw [hI1.length]; simp [rowOf]
      have hl2 : vs2.length = W := by rw [hI2.length]; simp [rowOf]
      have hJ1 : ∀ x, x < W → ∃ t, vs1[x]? = some (.int (f x ((i : Int).fdiv 2).toNat) t) := fun x hx => hI1.get x _ (rowOf_get hx)
      have hJ2 : ∀ x, x < W → ∃ t, vs2[x]? = some (.int (f x (farF i H).toNat) t) := fun x hx => hI2.get x _ (rowOf_get hx)
      clear hI1 hI2
      k_steps
      unfold Halt
      have q9 := off2 o9
      rename Obj => oy
      rename oy.data = Data.cell _ => dy
      rename Fr _ _ _ _ => Fz
      rename News _ _ _ _ => Nz
      refine zipSrc (xs := vs1) (ys := vs2) (n := W) (fun x zs => IntsAre zs ((List.range x).map (softS f H i))) rfl Fz Nz (by walk_at "nt_in") (by walk_at "nt_in") hl1 hl2 (by omega) .nil ?elem ?fin
      case elem =>
        intro g' x vx vy oC C D zs m₃ h5 tk5 E' hx hy hz hC hma hmb F5 N5
        k_sweep
        k_fold
        have hxW : x < W := by rw [← hl1]; exact (List.getElem?_eq_some_iff.mp hx).1
        obtain ⟨u1, hu1⟩ := hJ1 x hxW
        obtain ⟨u2, hu2⟩ := hJ2 x hxW
        rw [hx] at hu1
        rw [hy] at hu2
        obtain rfl := Option.some.inj hu1
        obtain rfl := Option.some.inj hu2
        k_steps
        rw [rangeMapSucc]
        exact intsSnoc hz _ _
      case fin =>
        intro g' zs hz
        unfold LCg.FinA
        intro D h5 tk5 F5 N5 off5
        simp only [LCg.Off1] at off5
        k_sweep
        (try k_unfold)
        (try simp only [List.cons_append, List.nil_append])
        (try dsimp only)
        have hS : IntsL [(D, LCg.lst zs)] (.ref D) ((List.range W).map (softS f H i)) := ⟨D, zs, zs.length, rfl, List.mem_cons_self, hz⟩
        have hzl : zs.length = W := by rw [hz.length]; simp
        have hJz : ∀ x, x < W → ∃ t, zs[x]? = some (.int (softS f H i x) t) := fun x hx => hz.get x _ (by rw [List.getElem?_map, List.getElem?_range hx]; rfl)
        have hbg : Halt True := trivial
        k_steps
        · obtain rfl : a1 = 1 := by assumption
          unfold Halt
          rename Fr _ _ _ _ => F6
          rename News _ _ _ _ => N6
          refine nt_compIntsL (vs := zs) (k := zs.length) (fun x => (softS f H i x + 1 + (i : Int).fmod 2).fdiv 4) rfl F6 N6 (by walk_at "nt_in") (by omega) ?elt2 ?fin2
          case elt2 =>
            intro g2 x v' ys I oI C oC D3 m₂ h6 tk6 E' hx hv hC hmx F7 N7
            obtain ⟨t6, hv6⟩ := hJz x (by omega)
            rw [hv] at hv6
            obtain rfl := Option.some.inj hv6
            simp only [List.cons_append, List.append_assoc] at N7
            k_sweep
            (try k_fold)
            k_steps
            exact EltInt.intro (by k_asm) (by k_asm) (by walk_at "nt_sub") (by rw [ei]; rfl)
          case fin2 =>
            intro g2 ys hys
            rw [hzl] at hys
            unfold LCg.FinE
            intro D3 h6 tk6 F7 N7 off6
            have ap6 := Ap.one (o := LCg.lst ys) off6
            simp only [LCg.Off1] at off6
            k_sweep
            (try k_unfold)
            (try simp only [List.cons_append, List.nil_append])
            (try dsimp only)
            k_steps
            rename News _ _ _ _ => Nz
            rename Fr _ _ _ _ => Fz
            (try rw [pushArr] at Nz)
            unfold TurnPostX
            have hr : IntsL [(D3, LCg.lst ys)] (.ref D3) (rowOf W' (soft f W H 1 2) i) := by
              have e : rowOf W' (soft f W H 1 2) i = (List.range W).map fun x => (softS f H i x + 1 + (i : Int).fmod 2).fdiv 4 := by
                rw [show W = W' by omega]
                exact List.map_congr_left fun x _ => by unfold soft; rw [if_neg (by decide), if_pos rfl]
              rw [e]
              exact ⟨D3, ys, ys.length, rfl, List.mem_cons_self, hys⟩
            exact TurnEndX.intro (rvs ++ [.ref D3], kk + 1, oy) [(D3, LCg.lst ys)] Fz Nz (by walk_at "nt_sub") (by walk_at "nt_ps") (Ap.congr (r := [(rl, listOf rvs.toArray kk), (L1 + 1, oy)] ++ (tl ++ (news ++ own))) (ap6.sub (fun _ h => h) (by walk_at "nt_sub")) rfl) ⟨⟨_, dy⟩, RowsL.snoc ⟨hlen, hrows⟩ (hr.mono fun p hp => List.mem_append_left _ hp) (fun p hp => List.mem_append_right _ hp)⟩
        · unfold Halt
          k_dflt (refine' Ctr.use (c_doubled _ _ _ ?g _ _ _ _ _ _ ?p1 ?p2 ?p3 ?p4) ?B ?F ?X ?N ?T ?hk ?S ?P ?hd ?hu ?_; walk_at "nt_args"; (case P => walk_at "nt_ints"); (case p1 => omega); (case p2 => omega); (case p3 => omega); (case p4 => omega); (case S => walk_at "nt_split"); walk_at "nt_intsRes")
          k_steps
          obtain rfl : a1 = 2 := ha.resolve_left (by with_reducible assumption)
          rename News _ _ _ _ => Nz
          rename Fr _ _ _ _ => Fz
          (try rw [pushArr] at Nz)
          unfold TurnPostX
          have hr : IntsL (tl9 ++ tl) (.ref pa9) (rowOf W' (soft f W H 2 2) i) := by
            have e : rowOf W' (soft f W H 2 2) i = (List.range (2 * W)).map (dbl (softS f H i) W 4 8 7) := by
              rw [show 2 * W = W' by omega]
              exact List.map_congr_left fun x _ => by unfold soft; rw [if_neg (by decide), if_neg (by decide)]
            rw [e]
            exact e9.mono fun p hp => List.mem_append_left _ hp
          have o8 : OwnOff tl9 [rl, L1 + 1] := fun p hp b hb => o9 p hp b (by
            simp only [List.mem_cons, List.not_mem_nil, or_false] at hb ⊢
            rcases hb with hb | hb
            · exact .inr (.inl hb)
            · exact .inr (.inr (.inl hb)))
          exact TurnEndX.intro (rvs ++ [.ref pa9], kk + 1, oy) tl9 Fz Nz (by walk_at "nt_sub") (by walk_at "nt_ps") (apHot (hot := [(rl, listOf rvs.toArray kk), (L1 + 1, oc)]) o8 a9) ⟨⟨_, dy⟩, RowsL.snoc ⟨hlen, hrows⟩ hr (fun p hp => List.mem_append_right _ hp)⟩
  case done =>
    rintro ⟨rvs, kk, oc⟩ tl u h tk ⟨⟨q, dq⟩, hlen, hrows⟩ ho hap F4 N4
    dsimp only at *
    simp only [List.cons_append, List.nil_append] at N4
    k_sweep
    (try k_unfold)
    (try simp only [List.cons_append, List.nil_append])
    (try dsimp only)
    k_steps
    rename News _ _ _ _ => Nz
    rename Fr _ _ _ _ => Fz
    simp only [eW, eH] at Nz
    exact retPlane hret Fz Nz (by walk_at "nt_in") (by walk_at "nt_sub") ⟨hlen, hrows⟩ (by walk_at "nt_lt") (by refine ltN' ?_; omega) (by walk_at "nt_lt") (by walk_at "nt_ap") (by omega) (by omega) (by omega) (by omega)
theorem words_15 : True := by
  k_with "call ref" => (k_here; (with_reducible show wpAny _ _ (call (Value.ref 169) [_, Value.int _ _, Value.int _ _]) _ _ _); k_dflt (refine' Ctr.use (c_softened _ _ _ _ _ _ _ _ _ ?ha ?hb ?hc _ _ ?eW ?eH ?p1 ?p2) ?B ?F ?X ?N ?T ?hk ?S ?P ?hd ?hu ?_; (case ha => assumption); (case hb => assumption); (case hc => assumption); (case eW => assumption); (case eH => assumption); (case p1 => omega); (case p2 => omega); walk_at "nt_args"; (case P => walk_at "nt_plane"); (case S => walk_at "nt_split"); walk_at "nt_planeRes"))
  exact True.intro
/-- what a test leaves: its answer known, the ledger as it was -/
def BHPost (b₀ : Bool) (h₀ : Heap) (L : Addr) (m : Str → Option Value) (news : Led) (s : Shared) (b : Bool) (s' : Shared) : Prop := b = b₀ ∧ ∃ h' tk, s' = { s with heap := h', toks := tk } ∧ Fr h₀ L h' m ∧ News h₀ L h' news
theorem joinBH {M : Model} {A : Around} {E : Value → Shared → Prop} {s : Shared} {t : Sem Bool} (b₀ : Bool) {h₀ : Heap} {L : Addr} {m : Str → Option Value} {news : Led} {Q : Bool → Shared → Prop} (_ : Fr h₀ L s.heap m) (_ : News h₀ L s.heap news) (h : wpAny M A t (BHPost b₀ h₀ L m news s) E s) (k : ∀ h' tk, Fr h₀ L h' m → News h₀ L h' news → Q b₀ { s with heap := h', toks := tk }) : wpAny M A t Q E s :=
  wpAny_mono h (by rintro b s' ⟨rfl, h', tk, rfl, F, N⟩; exact k h' tk F N) fun _ _ e => e
set_option maxHeartbeats 8000000 in
theorem c_grownR (w : World) (v : Value) (W H : Nat) (f : Nat → Nat → Int) (a1 : Int) (ta : Tok) (d1 : Int) (td : Tok) (w1 : Int) (tw' : Tok) (h1' : Int) (th' : Tok) (fb : Bool) (w' h' : Nat) (ew : w1 = w') (eh : h1' = h') (ha : 1 ≤ a1) (ha' : a1 ≤ 3) (hd1 : 1 ≤ d1) (hd1' : d1 ≤ 3) (hw : 0 < w') (hw' : w' ≤ 100) (hh : 0 < h') (hh' : h' ≤ 100)
    (hno : ¬(fb = true ∧ a1 ≤ 2 ∧ d1 ≤ 2 ∧ a1 + d1 > 2)) :
    Ctr w 4 159 [v, .int a1 ta, .int d1 td, .int w1 tw', .int h1' th', .bool fb] (fun news => PlaneL w.params news v W H f) (fun tl r => PlaneL w.params tl r w' h' (fun i j => pix f W H (((i : Int) * 1).fdiv a1) (((j : Int) * 1).fdiv d1))) := by
  refine Ctr.of ?_
  intro mean mg mb dp un gd cn cs a ccd cl outer A₀ base h₀ L m news s Q E B F X N T hk hP hd hu hret
  have hPc := hP
  obtain ⟨pa, pd, pr, rvs0, k0, pt1, pt2, pt3, ptw, pth, rfl, m1, m2, m3, hrows0, hW, hW2, hH, hH2⟩ := hPc
  walk_at "nt_enter"
  intro g1 L1 h1 FG F1 N1 B1 X1 T1
  try dsimp only
  k_fold
  k_steps
  unfold Halt
  rename Fr _ _ _ _ => F2
  rename News _ _ _ _ => N2
  refine joinBH false F2 N2 ?j1 ?j2
  case j1 =>
    have nh : NoHalt := ⟨⟩
    (try k_fold)
    cases fb
    · k_steps
      all_goals first | exact ⟨rfl, _, _, rfl, by k_asm, newsSub (by k_asm) (by walk_at "nt_sub")⟩ | (exfalso; simp only [List.any_cons, List.any_nil, Bool.or_false, Bool.or_eq_true, Bool.or_eq_false_iff, beq_iff_eq, beq_eq_false_iff_ne] at *; omega) | (exfalso; omega)
    · have hno' : ¬(a1 ≤ 2 ∧ d1 ≤ 2 ∧ a1 + d1 > 2) := fun q => hno ⟨rfl, q⟩
      clear hno
      k_steps
      all_goals first | exact ⟨rfl, _, _, rfl, by k_asm, newsSub (by k_asm) (by walk_at "nt_sub")⟩ | (exfalso; simp only [List.any_cons, List.any_nil, Bool.or_false, Bool.or_eq_true, Bool.or_eq_false_iff, beq_iff_eq, beq_eq_false_iff_ne] at *; omega) | (exfalso; omega)
  case j2 =>
    intro h5 tk5 F5 N5
    clear F2 N2
    k_sweep
    dsimp only
    k_steps
    rename PlaneL _ _ _ _ _ _ => eP
    rename News _ _ _ _ => Nz
    rename Fr _ _ _ _ => Fz
    refine' hret _ _ _ _ Fz (newsSub Nz ?hs) ?ha eP
    case ha => assumption
    case hs => walk_at "nt_sub"
set_option maxHeartbeats 8000000 in
theorem c_grownS (w : World) (v : Value) (W H : Nat) (f : Nat → Nat → Int) (a1 : Int) (ta : Tok) (dw : Int) (td : Tok) (w1 : Int) (tw' : Tok) (h1' : Int) (th' : Tok) (W' H' w' h' : Nat) (ew : w1 = w') (eh : h1' = h') (ha : a1 = 1 ∨ a1 = 2) (hd1 : dw = 1 ∨ dw = 2) (had : ¬(a1 = 1 ∧ dw = 1)) (eW : (W : Int) * a1 = W') (eH : (H : Int) * dw = H') (bW : W' ≤ 100) (bH : H' ≤ 100) (hw : 0 < w') (hw' : w' ≤ 100) (hh : 0 < h') (hh' : h' ≤ 100) :
    Ctr w 6 159 [v, .int a1 ta, .int dw td, .int w1 tw', .int h1' th', .bool true] (fun news => PlaneL w.params news v W H f) (fun tl r => PlaneL w.params tl r w' h' (fun i j => pix (soft f W H a1 dw) W' H' (0 + i) (0 + j))) := by
  refine Ctr.of ?_
  intro mean mg mb dp un gd cn cs a ccd cl outer A₀ base h₀ L m news s Q E B F X N T hk hP hd hu hret
  have hPc := hP
  obtain ⟨pa, pd, pr, rvs0, k0, pt1, pt2, pt3, ptw, pth, rfl, m1, m2, m3, hrows0, hW, hW2, hH, hH2⟩ := hPc
  walk_at "nt_enter"
  intro g1 L1 h1 FG F1 N1 B1 X1 T1
  try dsimp only
  k_fold
  k_steps
  unfold Halt
  rename Fr _ _ _ _ => F2
  rename News _ _ _ _ => N2
  refine joinBH true F2 N2 ?j1 ?j2
  case j1 =>
    have nh : NoHalt := ⟨⟩
    (try k_fold)
    k_steps
    all_goals first | exact ⟨rfl, _, _, rfl, by k_asm, newsSub (by k_asm) (by walk_at "nt_sub")⟩ | (exfalso; simp only [List.any_cons, List.any_nil, Bool.or_false, Bool.or_eq_true, Bool.or_eq_false_iff, beq_iff_eq, beq_eq_false_iff_ne] at *; omega) | (exfalso; omega)
  case j2 =>
    intro h5 tk5 F5 N5
    clear F2 N2
    k_sweep
    dsimp only
    k_steps
    rename News _ _ _ _ => Nz
    rename Fr _ _ _ _ => Fz
    refine' hret _ _ _ _ Fz (newsSub Nz ?hs) ?ha e9
    case hs => walk_at "nt_sub"
    case ha => exact fun p hp q hq => a9 p hp q (List.mem_append_right _ hq)
theorem words_16 : True := by
  k_with "call ref" => (k_here; (with_reducible show wpAny _ _ (call (Value.ref 159) [_, Value.int _ _, Value.int _ _, Value.int _ _, Value.int _ _, Value.bool false]) _ _ _); k_dflt (refine' Ctr.use (c_grownR _ _ _ _ _ _ _ _ _ _ _ _ _ _ _ _ ?ew ?eh ?p1 ?p2 ?p3 ?p4 ?p5 ?p6 ?p7 ?p8 ?hno) ?B ?F ?X ?N ?T ?hk ?S ?P ?hd ?hu ?_; (case ew => first | assumption | rfl); (case eh => first | assumption | rfl); (case p1 => omega); (case p2 => omega); (case p3 => omega); (case p4 => omega); (case p5 => omega); (case p6 => omega); (case p7 => omega); (case p8 => omega); (case hno => exact fun q => Bool.noConfusion q.1); walk_at "nt_args"; (case P => walk_at "nt_plane"); (case S => walk_at "nt_split"); walk_at "nt_planeRes"))
  exact True.intro
/-- the source's two numbers -/
def SrcOk (x0 x1 : Int) : Prop := 0 ≤ x0 ∧ 0 ≤ x0 ∧ 0 ≤ x1 ∧ x1 < 2147483647
abbrev srcObj (x0 x1 : Int) (t0 t1 : Tok) (n : Nat) : Obj := listOf [Value.int x0 t0, Value.int x1 t1].toArray n
/-- what a call of the def at f is said to do that draws from the source at a -/
def CtrS (w : World) (k : Nat) (f : Addr) (vs : List Value) (a₀ : Addr) (Pre : Led → Prop) (Out : Led → Value → Prop) : Prop :=
  ∀ (mean : ExcName → Option Value) (mg mb : Str → Option Value) (dp un : Nat) (gd : Option (List Code)) (cn : Str) (cs : Scope) (a : Addr) (ccd : Value) (cl : List (Str × Addr)) (outer : List Env) (A₀ : Around) (base h₀ : Heap) (L : Addr) (m : Str → Option Value)
    (news : Led) (s : Shared) (Q E : Value → Shared → Prop) (x0 x1 : Int) (t0 t1 : Tok) (n : Nat),
    Below A₀ base outer h₀ → Fr h₀ L s.heap m → (hd.heap_39 w.params).In h₀ → News h₀ L s.heap ((a₀, srcObj x0 x1 t0 t1 n) :: news) → Top vw LooseX mean mg mb h₀ → cs.kind = .function → SrcOk x0 x1 → Pre news → OwnOff news [a₀] → dp + k < recursionLimit → un + 40 * k < cLine →
    (∀ r tl y0 y1 u0 u1 n' h' tk', Fr h₀ L h' m → News h₀ L h' ((a₀, srcObj y0 y1 u0 u1 n') :: (tl ++ news)) → SrcOk y0 y1 → Ap tl ((a₀, srcObj y0 y1 u0 u1 n') :: news) → Out tl r → Q r { s with heap := h', toks := tk' }) →
    wpAny (model Prg w) (ktrTop dp un gd cn cs L a ccd cl outer) (call (.ref f) vs) Q E s
theorem CtrS.of {w : World} {k : Nat} {f : Addr} {vs : List Value} {a₀ : Addr} {Pre : Led → Prop} {Out : Led → Value → Prop}
    (h : ∀ (mean : ExcName → Option Value) (mg mb : Str → Option Value) (dp un : Nat) (gd : Option (List Code)) (cn : Str) (cs : Scope) (a : Addr) (ccd : Value) (cl : List (Str × Addr)) (outer : List Env) (A₀ : Around) (base h₀ : Heap) (L : Addr) (m : Str → Option Value)
    (news : Led) (s : Shared) (Q E : Value → Shared → Prop) (x0 x1 : Int) (t0 t1 : Tok) (n : Nat),
    Below A₀ base outer h₀ → Fr h₀ L s.heap m → (hd.heap_39 w.params).In h₀ → News h₀ L s.heap ((a₀, srcObj x0 x1 t0 t1 n) :: news) → Top vw LooseX mean mg mb h₀ → cs.kind = .function → SrcOk x0 x1 → Pre news → OwnOff news [a₀] → dp + k < recursionLimit → un + 40 * k < cLine →
    (∀ r tl y0 y1 u0 u1 n' h' tk', Fr h₀ L h' m → News h₀ L h' ((a₀, srcObj y0 y1 u0 u1 n') :: (tl ++ news)) → SrcOk y0 y1 → Ap tl ((a₀, srcObj y0 y1 u0 u1 n') :: news) → Out tl r → Q r { s with heap := h', toks := tk' }) →
    wpAny (model Prg w) (ktrTop dp un gd cn cs L a ccd cl outer) (call (.ref f) vs) Q E s) : CtrS w k f vs a₀ Pre Out := h
/-- the entry at a is taken out of a ledger -/
inductive Take (a : Addr) (o : Obj) : Led → Led → Prop
  | here (l : Led) : Take a o ((a, o) :: l) l
  | there (p : Addr × Obj) {l c : Led} : Take a o l c → Take a o (p :: l) (p :: c)
  | app (l : Led) {r c : Led} : Take a o r c → Take a o (l ++ r) (l ++ c)
theorem Take.sub {a : Addr} {o : Obj} {l c : Led} (h : Take a o l c) : ∀ p ∈ (a, o) :: c, p ∈ l := by
  induction h with
  | here l => exact fun p hp => hp
  | there q _ ih =>
    intro p hp
    rcases List.mem_cons.mp hp with rfl | hp
    · exact .tail _ (ih _ (.head _))
    rcases List.mem_cons.mp hp with rfl | hp
    · exact .head _
    · exact .tail _ (ih _ (.tail _ hp))
  | app q _ ih =>
    intro p hp
    rcases List.mem_cons.mp hp with rfl | hp
    · exact List.mem_append.mpr (.inr (ih _ (.head _)))
    rcases List.mem_append.mp hp with hp | hp
    · exact List.mem_append.mpr (.inl hp)
    · exact List.mem_append.mpr (.inr (ih _ (.tail _ hp)))
theorem CtrS.use {w : World} {k : Nat} {f : Addr} {vs : List Value} {a₀ : Addr} {Pre : Led → Prop} {Out : Led → Value → Prop} (C : CtrS w k f vs a₀ Pre Out)
    {mean : ExcName → Option Value} {mg mb : Str → Option Value} {dp un : Nat} {gd : Option (List Code)} {cn : Str} {cs : Scope} {a : Addr} {ccd : Value} {cl : List (Str × Addr)} {outer : List Env} {A₀ : Around} {base h₀ : Heap} {L : Addr} {m : Str → Option Value}
    {news rest hot cold : Led} {s : Shared} {Q E : Value → Shared → Prop} {x0 x1 : Int} {t0 t1 : Tok} {n : Nat}
    (B : Below A₀ base outer h₀) (F : Fr h₀ L s.heap m) (X : (hd.heap_39 w.params).In h₀) (N : News h₀ L s.heap news) (T : Top vw LooseX mean mg mb h₀) (hk : cs.kind = .function) (K : Take a₀ (srcObj x0 x1 t0 t1 n) news rest) (S : Split rest hot cold) (P : SrcOk x0 x1) (Z : Pre rest) (o : OwnOff rest [a₀]) (hd : dp + k < recursionLimit) (hu : un + 40 * k < cLine)
    (ret : ∀ r tl y0 y1 u0 u1 n' h' tk', Fr h₀ L h' m → News h₀ L h' ((a₀, srcObj y0 y1 u0 u1 n') :: (hot ++ (tl ++ cold))) → SrcOk y0 y1 → OwnOff tl (a₀ :: hot.map (·.1)) → Ap tl cold → Out tl r → Q r { s with heap := h', toks := tk' }) :
    wpAny (model Prg w) (ktrTop dp un gd cn cs L a ccd cl outer) (call (.ref f) vs) Q E s := by
  have e := S.eq
  subst e
  refine C mean mg mb dp un gd cn cs a ccd cl outer A₀ base h₀ L m (hot ++ cold) s Q E x0 x1 t0 t1 n B F X (newsSub N K.sub) T hk P Z o hd hu ?_
  intro r tl y0 y1 u0 u1 n' h' tk' F' N' ok ap O
  refine ret r tl y0 y1 u0 u1 n' h' tk' F' (newsSub N' fun p hp => ?_) ok (fun p hp b hb => ?_) (fun p hp q hq => ap p hp q (.tail _ (List.mem_append.mpr (.inr hq)))) O
  · rcases List.mem_cons.mp hp with rfl | hp
    · exact .head _
    · refine .tail _ ?_
      rcases List.mem_append.mp hp with h | h
      · exact List.mem_append.mpr (.inr (List.mem_append.mpr (.inl h)))
      · rcases List.mem_append.mp h with h | h
        · exact List.mem_append.mpr (.inl h)
        · exact List.mem_append.mpr (.inr (List.mem_append.mpr (.inr h)))
  · rcases List.mem_cons.mp hb with rfl | hb
    · exact ap p hp _ (.head _)
    · obtain ⟨q, hq, rfl⟩ := List.mem_map.mp hb
      exact ap p hp q (.tail _ (List.mem_append.mpr (.inl hq)))
theorem off1s {a b : Nat} {o : Obj} {l : Led} (h : OwnOff ((b, o) :: l) [a]) : (@Ne Nat b a) := h _ List.mem_cons_self a List.mem_cons_self
theorem fmB (a : Int) {b : Int} (h : 0 < b) : 0 ≤ a.fmod b ∧ a.fmod b < b := by
  rw [Int.fmod_eq_emod_of_nonneg _ (by omega)]
  exact ⟨Int.emod_nonneg _ (by omega), Int.emod_lt_of_pos _ h⟩
theorem fdB {a b : Int} (h0 : 0 ≤ a) (h : 0 < b) : 0 ≤ a.fdiv b ∧ a.fdiv b ≤ a := by
  rw [Int.fdiv_eq_ediv_of_nonneg _ (by omega)]
  exact ⟨Int.ediv_nonneg h0 (by omega), Int.ediv_le_self _ h0⟩
/-- a draw: an int below the top -/
noncomputable def OutD (top : Int) : Led → Value → Prop := fun tl r => tl = [] ∧ ∃ x t, r = .int x t ∧ 0 ≤ x ∧ x < top
set_option maxHeartbeats 8000000 in
theorem c_take (w : World) (a₀ : Addr) (top : Int) (tt : Tok) (ht : 0 < top) (ht' : top ≤ 1000) : CtrS w 1 197 [.ref a₀, .int top tt] a₀ (fun _ => True) (OutD top) := by
  refine CtrS.of ?_
  intro mean mg mb dp un gd cn cs a ccd cl outer A₀ base h₀ L m news s Q E x0 x1 t0 t1 n B F X N T hk hP hZ hoff hd hu hret
  obtain ⟨p1, p2, p3, p4⟩ := hP
  have q0 : [x0, x1].getD (Int.toNat 0) 0 = x0 := rfl
  have q1 : [x0, x1].getD (Int.toNat 1) 0 = x1 := rfl
  walk_at "nt_enter"
  intro g1 L1 h1 FG F1 N1 B1 X1 T1
  try dsimp only
  k_fold
  k_steps
  · rename News _ _ _ _ => Nz
    rename Fr _ _ _ _ => Fz
    rw [q0] at Nz ⊢
    have d1 := fdB (a := x0) (b := top) p1 ht
    have d2 := fmB x0 ht
    exact hret _ [] _ _ _ _ _ _ _ Fz Nz ⟨d1.1, by omega, p3, p4⟩ Ap.nil ⟨rfl, _, _, rfl, d2.1, d2.2⟩
  · rename News _ _ _ _ => Nz
    rename Fr _ _ _ _ => Fz
    have d1 := fmB (x1 * 39373 + 7) (b := 2147483647) (by omega)
    exact hret _ [] _ _ _ _ _ _ _ Fz Nz ⟨p1, p2, d1.1, d1.2⟩ Ap.nil ⟨rfl, _, _, rfl, (fmB _ ht).1, (fmB _ ht).2⟩
theorem words_17 : True := by
  k_with "nt_take" => first | exact Take.here _ | (apply Take.there; walk_at "nt_take") | (apply Take.app; walk_at "nt_take")
  k_with "nt_drawn" => (intro r9 tl9 y09 y19 u09 u19 n9 h9 tk9 F9 N9 ok9 o9 a9 e9; obtain ⟨e8, x9, t9, e7, x9a, x9b⟩ := e9; subst e8; subst e7; clear o9 a9; simp only [List.nil_append, List.cons_append, List.append_assoc] at N9; (try dsimp only); (try k_sweep); (try k_fold))
  k_with "call ref" => (k_here; (with_reducible show wpAny _ _ (call (Value.ref 197) [Value.ref _, Value.int _ _]) _ _ _); k_dflt (refine' CtrS.use (c_take _ _ _ _ ?p1 ?p2) ?B ?F ?X ?N ?T ?hk ?K ?S ?P ?Z ?o ?hd ?hu ?_; (case p1 => omega); (case p2 => omega); walk_at "nt_args"; (case K => walk_at "nt_take"); (case S => exact Split.nil _); (case P => assumption); (case Z => exact trivial); (case o => walk_at "nt_off"); walk_at "nt_drawn"))
  exact True.intro
theorem kpIf {p n : Int} (h : 0 < n) : (if (if p < n - 1 then p else n - 1) > 0 then (if p < n - 1 then p else n - 1) else 0) = kp p n := by unfold kp; (repeat' split) <;> omega
set_option maxHeartbeats 8000000 in
theorem c_lawat (w : World) (v : Value) (W H : Nat) (f : Nat → Nat → Int) (x : Int) (tx : Tok) (y : Int) (ty : Tok) : Ctr w 1 216 [v, .int x tx, .int y ty] (fun news => PlaneL w.params news v W H f) (OutI (pix f W H x y)) := by
  refine Ctr.of ?_
  intro mean mg mb dp un gd cn cs a ccd cl outer A₀ base h₀ L m news s Q E B F X N T hk hP hd hu hret
  have hPc := hP
  obtain ⟨pa, pd, pr, rvs0, k0, pt1, pt2, pt3, ptw, pth, rfl, m1, m2, m3, hrows0, hW, hW2, hH, hH2⟩ := hPc
  have ky : (if (if y < (H : Int) - 1 then y else (H : Int) - 1) > 0 then (if y < (H : Int) - 1 then y else (H : Int) - 1) else 0) = kp y H := kpIf (by omega)
  have kx : (if (if x < (W : Int) - 1 then x else (W : Int) - 1) > 0 then (if x < (W : Int) - 1 then x else (W : Int) - 1) else 0) = kp x W := kpIf (by omega)
  have y0 := kp_nonneg (p := y) (n := H) (by omega)
  have y1 := kp_lt (p := y) (n := H) (by omega)
  have x0 := kp_nonneg (p := x) (n := W) (by omega)
  have x1 := kp_lt (p := x) (n := W) (by omega)
  obtain ⟨rv, hrv, ra, vs, k2, rfl, m4, hI⟩ := hrows0.2 (kp y H).toNat (by omega)
  obtain ⟨t4, hv⟩ := hI.get (kp x W).toNat _ (rowOf_get (by omega))
  clear hI
  rw [← ky] at y0 y1 hrv
  rw [← kx] at x0 x1 hv
  have y2 : (if (if y < (H : Int) - 1 then y else (H : Int) - 1) > 0 then (if y < (H : Int) - 1 then y else (H : Int) - 1) else 0) < 2 ^ 63 := by rw [ky] at y1 ⊢; omega
  have x2 : (if (if x < (W : Int) - 1 then x else (W : Int) - 1) > 0 then (if x < (W : Int) - 1 then x else (W : Int) - 1) else 0) < 2 ^ 63 := by rw [kx] at x1 ⊢; omega
  walk_at "nt_enter"
  intro g1 L1 h1 FG F1 N1 B1 X1 T1
  try dsimp only
  k_fold
  k_steps
  exact retI hret (by k_asm) (by k_asm) (by walk_at "nt_sub") (by rw [kx]; rfl)
theorem words_18 : True := by
  k_with "call ref" => (k_here; (with_reducible show wpAny _ _ (call (Value.ref 216) [_, Value.int _ _, Value.int _ _]) _ _ _); k_dflt (refine' Ctr.use (c_lawat _ _ _ _ _ _ _ _ _) ?B ?F ?X ?N ?T ?hk (Split.nil _) ?P ?hd ?hu ?_; (case B => k_asm); (case F => k_asm); (case X => k_asm); (case N => k_asm); (case T => k_asm); (case hk => first | exact rfl | assumption); (case P => walk_at "nt_plane"); (case hd => walk_at "nt_room"); (case hu => walk_at "nt_room"); walk_at "nt_int"))
  exact True.intro
/-- a mark: the walk halts at subscripts -/
structure HaltSub : Prop where
theorem words_sub : True := by
  k_with "subscriptTail" => ((rename HaltSub => hs9); refine stopIt ?_)
  exact True.intro
set_option maxHeartbeats 8000000 in
theorem c_one (w : World) (a₀ lt : Addr) (vs : List Value) (kl : Nat) (h1 : 0 < vs.length) (h2 : vs.length ≤ 100) : CtrS w 2 204 [.ref a₀, .ref lt] a₀ (fun news => (lt, listOf vs.toArray kl) ∈ news) (fun tl r => tl = [] ∧ ∃ i : Nat, vs[i]? = some r) := by
  refine CtrS.of ?_
  intro mean mg mb dp un gd cn cs a ccd cl outer A₀ base h₀ L m news s Q E x0 x1 t0 t1 n B F X N T hk hP hZ hoff hd hu hret
  walk_at "nt_enter"
  intro g1 L1 h1 FG F1 N1 B1 X1 T1
  try dsimp only
  k_fold
  have hsub : HaltSub := ⟨⟩
  k_steps
  unfold Halt
  obtain ⟨v9, hv9⟩ : ∃ v, vs[x9.toNat]? = some v := ⟨_, List.getElem?_eq_getElem (by omega)⟩
  k_dflt (refine' itemAt ?iN ?im ?ia ?ib ?ix ?_ ?is; (case iN => k_asm); (case im => k_mem); (case ia => omega); (case ib => omega); (case ix => exact hv9); (case is => with_unfolding_all rfl))
  (try dsimp only)
  clear hs9
  k_steps
  rename News _ _ _ _ => Nz
  rename Fr _ _ _ _ => Fz
  exact hret _ [] _ _ _ _ _ _ _ Fz Nz ok9 Ap.nil ⟨rfl, _, hv9⟩
theorem oneOf3 {a b c : Int} {ta tb tc : Tok} {i : Nat} {r : Value} (h : [Value.int a ta, Value.int b tb, Value.int c tc][i]? = some r) (ha : 3 ≤ a ∧ a ≤ 255) (hb : 3 ≤ b ∧ b ≤ 255) (hc : 3 ≤ c ∧ c ≤ 255) : ∃ x t, r = .int x t ∧ 3 ≤ x ∧ x ≤ 255 := by
  match i, h with
  | 0, h => exact ⟨a, ta, by simpa using h.symm, ha⟩
  | 1, h => exact ⟨b, tb, by simpa using h.symm, hb⟩
  | 2, h => exact ⟨c, tc, by simpa using h.symm, hc⟩
  | i + 3, h => simp at h
theorem words_19 : True := by
  k_with "nt_oneInt" => (intro r9 tl9 y09 y19 u09 u19 n9 h9 tk9 F9 N9 ok9 o9 a9 e9; obtain ⟨e8, i9, e7⟩ := e9; subst e8; obtain ⟨x9, t9, e6, x9a, x9b⟩ := oneOf3 e7 (by omega) (by omega) (by omega); subst e6; clear o9 a9 e7; simp only [List.nil_append, List.cons_append, List.append_assoc] at N9; (try dsimp only); (try k_sweep); (try k_fold))
  k_with "call ref" => (k_here; (with_reducible show wpAny _ _ (call (Value.ref 204) [Value.ref _, Value.ref _]) _ _ _); k_dflt (refine' CtrS.use (c_one _ _ _ _ _ ?p1 ?p2) ?B ?F ?X ?N ?T ?hk ?K ?S ?P ?Z ?o ?hd ?hu ?_; walk_at "nt_args"; (case K => walk_at "nt_take"); (case Z => k_mem); (case p1 => exact Nat.succ_pos _); (case p2 => exact Nat.le_of_ble_eq_true rfl); (case S => exact Split.nil _); (case P => assumption); (case o => walk_at "nt_off"); walk_at "nt_oneInt"))
  exact True.intro
theorem subPlane {x d D a : Addr × Obj} {tl news rest : Led} (hs : ∀ p ∈ tl ++ news, p ∈ rest) : ∀ p ∈ a :: ((x :: d :: D :: tl) ++ news), p ∈ x :: d :: D :: a :: rest := fun p hp => by
  simp only [List.cons_append, List.mem_cons] at hp ⊢
  rcases hp with h | h | h | h | h
  · exact .inr (.inr (.inr (.inl h)))
  · exact .inl h
  · exact .inr (.inl h)
  · exact .inr (.inr (.inl h))
  · exact .inr (.inr (.inr (.inr (hs p h))))
/-- so many rows of W ints -/
def RowsN (W i : Nat) (ys : List Value) (led : Led) : Prop := ∃ nss : List (List Int), nss.length = i ∧ (∀ ns ∈ nss, ns.length = W) ∧ ∀ (j : Nat) ns, nss[j]? = some ns → ∃ u, ys[j]? = some u ∧ IntsL led u ns
set_option maxHeartbeats 8000000 in
theorem c_plane (w : World) (a₀ : Addr) : CtrS w 4 209 [.ref a₀] a₀ (fun _ => True) (fun tl r => ∃ W H f, PlaneL w.params tl r W H f ∧ W ≤ 5 ∧ H ≤ 4) := by
  refine CtrS.of ?_
  intro mean mg mb dp un gd cn cs a ccd cl outer A₀ base h₀ L m news s Q E x0 x1 t0 t1 n B F X N T hk hP hZ hoff hd hu hret
  walk_at "nt_enterC"
  intro g1 L1 h1 tk1 cells FG F1 N1 Y1 B1 X1 T1 l1
  obtain ⟨o1, o2, o3, ec, d1, d2, d3⟩ := CellsAre.three Y1
  subst ec
  clear Y1
  simp only [List.cons_append, List.nil_append] at N1
  try dsimp only
  k_fold
  have ha0 : @LT.lt Nat _ a₀ L1 := l1 _ (.head _)
  have ln : ∀ p ∈ news, p.1 < L1 := fun p hp => l1 p (.tail _ hp)
  clear l1
  k_steps
  rename_i x0w _ xa0 xb0 _ _ _ _ _ _ _ _ _ _ x1h _ xa1 xb1 _ _ D9a _ lD _ _ ow dow _ l3 _ l3l _ om _ _ dom _ _ _ _ _ R4 F4 N4 K4
  unfold Halt
  obtain ⟨W, hW⟩ : ∃ W : Nat, 1 + x0w = (W : Int) := ⟨(1 + x0w).toNat, by omega⟩
  obtain ⟨H, hH⟩ : ∃ H : Nat, 1 + x1h = (H : Int) := ⟨(1 + x1h).toNat, by omega⟩
  refine nt_compRange (n := H) (σ := Int × Int × Tok × Tok × Nat) (fun c => [(a₀, srcObj c.1 c.2.1 c.2.2.1 c.2.2.2.1 c.2.2.2.2)]) ((L1 + 1 + 1 + 1, om) :: (L1 + 1 + 1, ow) :: (L1 + 1, o3) :: news)
    (fun i ys c add => SrcOk c.1 c.2.1 ∧ RowsN W i ys add) [a₀] (y09, y19, u09, u19, n9) rfl F4 N4 R4 (by omega) (by omega) (by omega) (by walk_at "nt_sub") (fun _ => rfl) (by walk_at "nt_off") ⟨ok9, [], rfl, (fun _ h => nomatch h), fun j ns h => by simp at h⟩ ?turn ?fin
  case turn =>
    intro g i t ys c tl I oI C oC D m₂ h tk E' hi hy hI hap hC hx F5 N5 ho5
    obtain ⟨z0, z1, u0, u1, nz⟩ := c
    dsimp only at hI F5 N5 ho5 hap ⊢
    simp only [List.cons_append, List.nil_append, List.append_assoc] at N5 ho5
    k_sweep
    k_fold
    obtain ⟨okz, hrows⟩ := hI
    k_steps
    rename Fr _ _ _ _ => F6
    rename News _ _ _ _ => N6
    rename IsRange _ _ _ _ _ _ _ _ => R6
    unfold Halt
    refine nt_compRange (n := W) (σ := Int × Int × Tok × Tok × Nat) (fun c => [(a₀, srcObj c.1 c.2.1 c.2.2.1 c.2.2.2.1 c.2.2.2.2)]) (tl ++ ((L1 + 1 + 1 + 1, om) :: (L1 + 1 + 1, ow) :: (L1 + 1, o3) :: (news ++ [(I, oI), (C, oC), (D, LCg.lst ys)])))
      (fun j zs c add => add = [] ∧ SrcOk c.1 c.2.1 ∧ ∃ ns, IntsAre zs ns ∧ ns.length = j) [a₀] (z0, z1, u0, u1, nz) rfl F6 N6 R6 (by omega) (by omega) (by omega) (by walk_at "nt_sub") (fun _ => rfl) ho5 ⟨rfl, okz, [], .nil, rfl⟩ ?turn2 ?fin2
    case turn2 =>
      intro g2 j t2 zs c2 tl2 I2 oI2 C2 oC2 D2 m₃ h2 tk2 E2 hj hzl hI2 hap2 hC2 hx2 F7 N7 ho7
      obtain ⟨y0, y1, v0, v1, ny⟩ := c2
      dsimp only at hI2 F7 N7 ho7 hap2 ⊢
      obtain ⟨rfl, oky, ns, hns, hnl⟩ := hI2
      simp only [List.cons_append, List.nil_append, List.append_assoc] at N7 ho7
      k_sweep
      k_fold
      k_steps
      rename News _ _ _ _ => Nz
      rename Fr _ _ _ _ => Fz
      exact EltEndX.intro (y09, y19, u09, u19, n9) [] Fz Nz (by walk_at "nt_sub") Ap.nil ⟨rfl, ok9, ns ++ [x9], intsSnoc hns _ _, by rw [List.length_append, hnl]; rfl⟩
    case fin2 =>
      intro g2 zs c2 tl2 hzl hI2 ho7 hap2
      obtain ⟨y0, y1, v0, v1, ny⟩ := c2
      dsimp only at hI2 ho7 hap2
      obtain ⟨rfl, oky, ns, hns, hnl⟩ := hI2
      unfold LCg.FinE
      intro D5 h5 tk5 F7 N7 off5
      have ap5 := Ap.one (o := LCg.lst zs) off5
      simp only [List.cons_append, List.nil_append, List.append_assoc] at N7
      obtain ⟨nss, q1, q2, q3⟩ := hrows
      refine EltEndX.intro (y0, y1, v0, v1, ny) [(D5, LCg.lst zs)] F7 N7 (by walk_at "nt_sub") (Ap.congr (r := [(a₀, srcObj y0 y1 v0 v1 ny)] ++ (tl ++ (((L1 + 1 + 1 + 1, om) :: (L1 + 1 + 1, ow) :: (L1 + 1, o3) :: news) ++ [(I, oI), (C, oC), (D, LCg.lst ys)]))) (Ap.sub ap5 (fun _ h => h) (by walk_at "nt_sub")) rfl) ⟨oky, nss ++ [ns], by rw [List.length_append, q1]; rfl, ?_, ?_⟩
      · intro n' hn'
        rcases List.mem_append.mp hn' with hn' | hn'
        · exact q2 _ hn'
        · rw [List.mem_singleton.mp hn']; exact hnl
      · intro k n' hk
        by_cases hki : k < i
        · rw [List.getElem?_append_left (by omega)] at hk
          obtain ⟨u, hu, hi'⟩ := q3 k n' hk
          exact ⟨u, by rw [List.getElem?_append_left (by omega)]; exact hu, hi'.mono fun p hp => List.mem_append_right _ hp⟩
        · have hk' : k < (nss ++ [ns]).length := (List.getElem?_eq_some_iff.mp hk).1
          rw [List.length_append, List.length_singleton] at hk'
          obtain rfl : k = i := by omega
          rw [List.getElem?_append_right (by omega), q1, Nat.sub_self] at hk
          obtain rfl : ns = n' := by simpa using hk
          exact ⟨.ref D5, by rw [List.getElem?_append_right (by omega), hy, Nat.sub_self]; rfl, ⟨D5, zs, zs.length, rfl, List.mem_append_left _ List.mem_cons_self, hns⟩⟩
  case fin =>
    intro g ys c tl hyl hI ho5 hap
    obtain ⟨z0, z1, u0, u1, nz⟩ := c
    dsimp only at hI ho5 hap
    obtain ⟨okz, hrows⟩ := hI
    unfold LCg.FinE
    intro D5 h5 tk5 F5 N5 off5
    simp only [List.cons_append, List.nil_append, List.append_assoc] at N5 off5
    simp only [LCg.Off1] at off5
    k_sweep
    (try k_unfold)
    (try simp only [List.cons_append, List.nil_append])
    (try dsimp only)
    k_steps
    rename_i xP dP _ _ _ lP1 lP2 _ _ _ _ _ _ _ _ _ _ _ _ _ _ _ _ Fz Nz _ _
    rw [hW, hH] at Nz
    obtain ⟨nss, q1, q2, q3⟩ := hrows
    have hrl : RowsL tl ys W H (fun i j => (nss.getD j []).getD i 0) := by
      refine ⟨hyl, fun j hj => ?_⟩
      have hj' : j < nss.length := by omega
      obtain ⟨u, hu, hi'⟩ := q3 j _ (List.getElem?_eq_getElem hj')
      refine ⟨u, hu, ?_⟩
      have e : rowOf W (fun i j => (nss.getD j []).getD i 0) j = nss[j] := by
        have hl := q2 _ (List.getElem_mem hj')
        unfold rowOf
        have e1 : nss.getD j [] = nss[j] := by simp [List.getD, hj']
        simp only [e1]
        apply List.ext_getElem
        · simp [hl]
        · intro i h1 h2
          simp [List.getD, h2]
      rw [e]
      exact hi'
    have bW : 0 < W ∧ W ≤ 5 := by omega
    have bH : 0 < H ∧ H ≤ 4 := by omega
    have aD : ∀ p ∈ [(D5, LCg.lst ys)], ∀ q ∈ (a₀, srcObj z0 z1 u0 u1 nz) :: news, p.1 ≠ q.1 := by
      intro p hp q hq e
      rw [List.mem_singleton.mp hp] at e
      rcases List.mem_cons.mp hq with rfl | hq
      · exact off5.1 e.symm
      · exact off1All off5.2 q (List.mem_append_right _ (.tail _ (.tail _ (.tail _ hq)))) e.symm
    have ad : AllLt dP ((a₀, srcObj z0 z1 u0 u1 nz) :: news) := ⟨lP1.2.1, by walk_at "nt_lt"⟩
    exact hret _ ((xP, _) :: (dP, _) :: (D5, LCg.lst ys) :: tl) z0 z1 u0 u1 nz _ _ Fz (newsSub Nz (subPlane (by walk_at "nt_sub"))) okz
      (Ap.consL (allLtLe ad (Nat.le_of_lt lP2)) (Ap.consL ad (Ap.left (a := [(D5, LCg.lst ys)]) aD (Ap.sub (Ap.right (l := tl) (a := [(a₀, srcObj z0 z1 u0 u1 nz)]) (fun p hp q hq => by rw [List.mem_singleton.mp hq]; exact ho5 p (List.mem_append_left _ hp) a₀ List.mem_cons_self) hap) (fun _ h => h) (by walk_at "nt_sub")))))
      ⟨W, H, _, ⟨xP, dP, D5, ys, ys.length, _, _, _, _, _, rfl, .head _, .tail _ (.head _), .tail _ (.tail _ (.head _)), hrl.mono (fun p hp => .tail _ (.tail _ (.tail _ hp))), bW.1, by omega, bH.1, by omega⟩, bW.2, bH.2⟩
theorem words_20 : True := by
  k_with "nt_planeDrawn" => (intro r9 tl9 y09 y19 u09 u19 n9 h9 tk9 F9 N9 ok9 o9 a9 e9; obtain ⟨Wp, Hp, fp, e9, wp9, hp9⟩ := e9; have e8 := e9; obtain ⟨pa9, pd9, pr9, rvs9, k9, t19, t29, t39, tw9, th9, eq9, m19, m29, m39, R9, b19, b29, b39, b49⟩ := e8; subst eq9; simp only [List.nil_append, List.cons_append, List.append_assoc, List.append_nil] at N9; (try simp only [List.map_cons, List.map_nil] at o9); (try dsimp only); (try k_sweep); (try k_fold))
  k_with "call ref" => (k_here; (with_reducible show wpAny _ _ (call (Value.ref 209) [Value.ref _]) _ _ _); k_dflt (refine' CtrS.use (c_plane _ _) ?B ?F ?X ?N ?T ?hk ?K ?S ?P ?Z ?o ?hd ?hu ?_; walk_at "nt_args"; (case K => walk_at "nt_take"); (case S => walk_at "nt_split"); (case P => assumption); (case Z => exact trivial); (case o => walk_at "nt_off"); walk_at "nt_planeDrawn"))
  exact True.intro
theorem carry (T b m : Int) (hm : 0 < m) (hb : 0 ≤ b) (hb' : b < m) (c : Int) (hc : c = m - b) : (T.fdiv m + if decide (c ≤ T - T.fdiv m * m) = true then 1 else 0) = (T + b).fdiv m := by
  subst hc
  rw [Int.fdiv_eq_ediv_of_nonneg _ (by omega), Int.fdiv_eq_ediv_of_nonneg _ (by omega)]
  have h1 := Int.emod_add_mul_ediv T m
  have h2 := Int.emod_nonneg T (show m ≠ 0 by omega)
  have h3 := Int.emod_lt_of_pos T hm
  have e : T - T / m * m = T % m := by rw [Int.mul_comm (T / m) m]; omega
  have e2 : T + b = (T % m + b) + T / m * m := by rw [Int.mul_comm (T / m) m]; omega
  rw [e, e2, Int.add_mul_ediv_right _ _ (by omega), Int.add_comm]
  congr 1
  by_cases h : m - b ≤ T % m
  · rw [if_pos (by simpa using h)]
    have : T % m + b = (T % m + b - m) + 1 * m := by omega
    rw [this, Int.add_mul_ediv_right _ _ (by omega), Int.ediv_eq_zero_of_lt (by omega) (by omega)]
    rfl
  · rw [if_neg (by simpa using h), Int.ediv_eq_zero_of_lt (by omega) (by omega)]
set_option maxHeartbeats 8000000 in
theorem c_lawmean (w : World) (v : Value) (W H : Nat) (f : Nat → Nat → Int) (x : Int) (tx : Tok) (y : Int) (ty : Tok) (a1 : Int) (ta : Tok) (dw : Int) (td : Tok) (hx : 0 ≤ x) (hx' : x ≤ 200) (hy : 0 ≤ y) (hy' : y ≤ 200) (ha : 0 < a1) (ha' : a1 ≤ 10) (hd1 : 0 < dw) (hd1' : dw ≤ 10) :
    Ctr w 3 221 [v, .int x tx, .int y ty, .int a1 ta, .int dw td] (fun news => PlaneL w.params news v W H f) (OutI (meanV (pix f W H) x y a1 dw)) := by
  refine Ctr.of ?_
  intro mean mg mb dp un gd cn cs a ccd cl outer A₀ base h₀ L m news s Q E B F X N T hk hP hd hu hret
  have hPc := hP
  obtain ⟨pa, pd, pr, rvs0, k0, pt1, pt2, pt3, ptw, pth, rfl, m1, m2, m3, hrows0, hW, hW2, hH, hH2⟩ := hPc
  have q1 : 0 < a1 * dw := Int.mul_pos ha hd1
  have q2 : a1 * dw ≤ 10 * 10 := Int.mul_le_mul ha' hd1' (by omega) (by omega)
  have qy : (y + 1) * dw = y * dw + dw := by rw [Int.add_mul, Int.one_mul]
  have qx : (x + 1) * a1 = x * a1 + a1 := by rw [Int.add_mul, Int.one_mul]
  have y0 : 0 ≤ y * dw := Int.mul_nonneg hy (by omega)
  have y1 : y * dw ≤ 200 * 10 := Int.mul_le_mul hy' hd1' (by omega) (by omega)
  have x0 : 0 ≤ x * a1 := Int.mul_nonneg hx (by omega)
  have x1 : x * a1 ≤ 200 * 10 := Int.mul_le_mul hx' ha' (by omega) (by omega)
  walk_at "nt_enterC"
  intro g1 L1 h1 tk1 cells FG F1 N1 Y1 B1 X1 T1 l1
  obtain ⟨o1, o2, ec, d1, d2⟩ := CellsAre.two Y1
  subst ec
  clear Y1
  simp only [List.cons_append, List.nil_append] at N1
  try dsimp only
  k_fold
  have e1 : o1.data = .cell none := d1
  replace d2 : o2.data = .cell (some (.ref pa)) := d2
  k_steps
  rename_i _ Fq Nq _ _ _ _ _ R2 F2 N2 K2
  unfold Halt
  refine nt_range (n := dw.toNat) (σ := Int × Tok × Obj) (fun c => [(L1 + 1 + 1, c.2.2)]) ((L1 + 1, o2) :: news) (fun c => [(Str.ofString "x", .int x tx), (Str.ofString "y", .int y ty), (Str.ofString "across", .int a1 ta), (Str.ofString "down", .int dw td), (Str.ofString "total", .int c.1 c.2.1)])
    (fun i c tl => (∃ q, c.2.2.data = .cell q) ∧ tl = [] ∧ c.1 = ((List.range i).map fun (s : Nat) => ((List.range a1.toNat).map fun (t : Nat) => pix f W H (x * a1 + t) (y * dw + s)).sum).sum) [L1 + 1 + 1] (0, _, o1) (fun _ _ => rfl) rfl R2 (by omega) (by omega) (by omega) F2 N2 (by walk_at "nt_sub") (fun _ => rfl) (by walk_at "nt_off") (by walk_at "nt_ps") ⟨⟨_, e1⟩, rfl, rfl⟩ ?turn ?done
  case turn =>
    rintro i t ⟨T0, tT, oc⟩ tl u h tk own hi ⟨⟨q, dq⟩, rfl, hT⟩ ho hap F3 N3
    dsimp only at hT dq F3 N3
    simp only [List.cons_append, List.nil_append] at N3
    k_sweep
    k_fold
    k_steps
    rename Obj => oy
    rename oy.data = Data.cell _ => dy
    rename Fr _ _ _ _ => F4
    rename News _ _ _ _ => N4
    rename IsRange _ _ _ _ _ _ _ _ => R4
    unfold Halt
    refine nt_compInts (n := a1.toNat) (fun (t : Nat) => pix f W H (x * a1 + t) (y * dw + i)) rfl F4 N4 R4 (by omega) (by omega) (by omega) ?elt ?fin
    case elt =>
      intro g' j t' ys I oI C oC D m₂ h5 tk5 E' hj hC hx F5 N5
      simp only [List.cons_append, List.nil_append, List.append_assoc] at N5
      k_sweep
      k_fold
      k_steps
      exact EltInt.intro (by k_asm) (by k_asm) (by walk_at "nt_sub") rfl
    case fin =>
      intro g' ys hys
      unfold LCg.FinE
      intro D h5 tk5 F5 N5 off5
      simp only [LCg.Off1] at off5
      k_sweep
      (try k_unfold)
      (try simp only [List.cons_append, List.nil_append])
      (try dsimp only)
      k_steps
      rename News _ _ _ _ => Nz
      rename Fr _ _ _ _ => Fz
      unfold TurnPostX
      exact TurnEndX.intro (T0 + ((List.range a1.toNat).map fun (t : Nat) => pix f W H (x * a1 + t) (y * dw + i)).sum, _, oy) [] Fz Nz (by walk_at "nt_sub") (by walk_at "nt_ps") Ap.nil ⟨⟨_, dy⟩, rfl, by dsimp only; rw [sumSucc, hT]⟩
  case done =>
    rintro ⟨T0, tT, oc⟩ tl u h tk ⟨⟨q, dq⟩, rfl, hT⟩ ho hap F3 N3
    dsimp only at hT dq F3 N3
    simp only [List.cons_append, List.nil_append] at N3
    k_sweep
    (try k_unfold)
    (try simp only [List.cons_append, List.nil_append])
    (try dsimp only)
    k_steps
    all_goals rename News _ _ _ _ => Nz
    all_goals rename Fr _ _ _ _ => Fz
    all_goals (refine retI hret Fz Nz (by walk_at "nt_sub") ?_)
    all_goals simp only [Bool.and_eq_true, Bool.and_eq_false_iff, beq_iff_eq, beq_eq_false_iff_ne] at *
    all_goals first
      | (exfalso; omega)
      | (have bb := bias_lt (x := x) ha hd1
         unfold meanV boxSum
         rw [← hT]
         refine carry _ _ _ q1 bb.1 bb.2 _ ?_
         unfold bias
         (repeat' split) <;> first | (rename_i h1; obtain ⟨rfl, rfl⟩ := h1; omega) | omega | (exfalso; simp_all; done) | grind)
theorem words_21 : True := by
  k_with "call ref" => (k_here; (with_reducible show wpAny _ _ (call (Value.ref 221) [_, Value.int _ _, Value.int _ _, Value.int _ _, Value.int _ _]) _ _ _); k_dflt (refine' Ctr.use (c_lawmean _ _ _ _ _ _ _ _ _ _ _ _ _ ?p1 ?p2 ?p3 ?p4 ?p5 ?p6 ?p7 ?p8) ?B ?F ?X ?N ?T ?hk (Split.nil _) ?P ?hd ?hu ?_; (case p1 => omega); (case p2 => omega); (case p3 => omega); (case p4 => omega); (case p5 => omega); (case p6 => omega); (case p7 => omega); (case p8 => omega); walk_at "nt_args"; (case P => walk_at "nt_plane"); walk_at "nt_int"))
  exact True.intro
/-- the answer True, nothing kept -/
noncomputable def OutT : Led → Value → Prop := fun tl r => tl = [] ∧ r = .bool true
theorem lenR {prog : Program} {w : World} {A : Around} {E : Value → Shared → Prop} {s : Shared} {r : Addr} {W : Nat} {a : Int} {t u v : Tok} {Q : Value → Shared → Prop} (hr : IsRange s.heap r 0 (W : Int) a t u v) (ha : 1 ≤ a) (hW : W ≤ 1000) (hW0 : 0 < W)
    (h : ∀ t tk, Q (.int ((cd W a : Nat) : Int) t) { s with toks := tk }) : wpAny (model prog w) A (call (.builtin "len") [.ref r]) Q E s := by
  have e : Builtin.Range.rangeSize 0 (W : Int) a = ((cd W a : Nat) : Int) := by
    rw [rangeSize_pos ha (by omega), ← cd_eq (n := W) (by omega), Int.fdiv_eq_ediv_of_nonneg _ (by omega), Int.mul_one]
  have l := cd_le (n := W) hW0 (show 0 < a by omega)
  exact call_len_range hr e (by omega) (h _ _)
/-- two lists of the same ints are not unequal -/
theorem neSame {prog : Program} {w : World} {A : Around} {E : Value → Shared → Prop} {s : Shared} {h₀ : Heap} {L a b : Addr} {news : Led} {vs us : List Value} {k1 k2 : Nat} {ns : List Int} {Q : Value → Shared → Prop} (N : News h₀ L s.heap news) (m1 : (a, listOf vs.toArray k1) ∈ news) (i1 : IntsAre vs ns) (m2 : (b, listOf us.toArray k2) ∈ news) (i2 : IntsAre us ns)
    (hu : A.units + 64 < cLine) (h : ∀ tk, Q (.bool false) { s with toks := tk }) : wpAny (model prog w) A (compareOp .NotEq (.ref a) (.ref b)) Q E s := by
  have l1 : s.heap.IsList a vs.toArray := ⟨_, (N _ m1).1, rfl, k1, rfl⟩
  have l2 : s.heap.IsList b us.toArray := ⟨_, (N _ m2).1, rfl, k2, rfl⟩
  refine ne_intsK l1 i1 l2 i2 hu ?_
  simpa using h _
theorem words_ne : True := by
  k_with "compareOp NotEq ref ref" => (k_here; (with_reducible show wpAny _ _ (compareOp CmpOp.NotEq (Value.ref _) (Value.ref _)) _ _ _); k_dflt (refine' neSame ?nN ?n1 ?n2 ?n3 ?n4 ?n5 ?_; (case nN => k_asm); (case n1 => k_mem); (case n2 => with_reducible assumption); (case n3 => k_mem); (case n4 => with_reducible assumption); (case n5 => walk_at "nt_room")); intro tk9; (try dsimp only))
  exact True.intro
theorem words_lenR : True := by
  k_with "call builtin:len" => (k_here; (with_reducible show wpAny _ _ (call (Value.builtin "len") [Value.ref _]) _ _ _); k_dflt (refine' lenR ?rR ?ra ?rw ?r0 ?_; (case rR => k_asm); (case ra => omega); (case rw => omega); (case r0 => omega)); intro t9 tk9; (try dsimp only))
  exact True.intro
theorem idx63 {i n : Nat} (h : i < n) (hn : n ≤ 100) : 0 ≤ (0 : Int) + (i : Int) ∧ (0 : Int) + (i : Int) < 2 ^ 63 := by omega
set_option maxHeartbeats 8000000 in
theorem c_shrunkright (w : World) (v : Value) (W H : Nat) (f : Nat → Nat → Int) (a1 : Int) (ta : Tok) (dw : Int) (td : Tok) (ha : 0 < a1) (ha' : a1 ≤ 10) (hd1 : 0 < dw) (hd1' : dw ≤ 10) :
    Ctr w 6 226 [v, .int a1 ta, .int dw td] (fun news => PlaneL w.params news v W H f) OutT := by
  refine Ctr.of ?_
  intro mean mg mb dp un gd cn cs a ccd cl outer A₀ base h₀ L m news s Q E B F X N T hk hP hd hu hret
  have hPc := hP
  obtain ⟨pa, pd, pr, rvs0, k0, pt1, pt2, pt3, ptw, pth, rfl, m1, m2, m3, hrows0, hW, hW2, hH, hH2⟩ := hPc
  walk_at "nt_enterC"
  intro g1 L1 h1 tk1 cells FG F1 N1 Y1 B1 X1 T1 l1
  obtain ⟨o1, o2, o3, o4, ec, d1, d2, d3, d4⟩ := CellsAre.four Y1
  subst ec
  clear Y1
  simp only [List.cons_append, List.nil_append] at N1
  try dsimp only
  k_fold
  replace d1 : o1.data = .cell none := d1
  replace d2 : o2.data = .cell (some (.int dw td)) := d2
  replace d3 : o3.data = .cell (some (.int a1 ta)) := d3
  replace d4 : o4.data = .cell (some (.ref pa)) := d4
  k_steps
  have cw1 := cd_le (n := W) (k := a1) hW ha
  have ch1 := cd_le (n := H) (k := dw) hH hd1
  rename IsRange _ _ _ _ _ _ _ _ => R2
  rename Fr _ _ _ _ => F2
  rename News _ _ _ _ => N2
  unfold Halt
  obtain ⟨nw, hsn, hPn, hR, p1, p2, p3, on, N3⟩ : ∃ nw, (∀ p ∈ news, p ∈ nw) ∧ PlaneL w.params nw (.ref pa) W H f ∧ RowsL nw rvs9 (cd W a1) (cd H dw) (fun i j => meanV (pix f W H) i j a1 dw) ∧ (pa9, instObj 84 pd9) ∈ nw ∧ (pd9, _) ∈ nw ∧ (pr9, listOf rvs9.toArray k9) ∈ nw ∧ OwnOff nw [L1 + 1 + 1 + 1 + 1] ∧ News g1 L1 _ ((L1 + 1 + 1 + 1 + 1, o1) :: (L1 + 1 + 1 + 1, o2) :: (L1 + 1 + 1, o3) :: (L1 + 1, o4) :: nw) :=
    ⟨tl9 ++ news, fun p hp => List.mem_append_right _ hp, hP.mono fun p hp => List.mem_append_right _ hp, R9.mono fun p hp => List.mem_append_left _ hp, List.mem_append_left _ m19, List.mem_append_left _ m29, List.mem_append_left _ m39,
      allApp (fun p hp b hb => o9 p hp b (by rw [List.mem_singleton.mp hb]; exact List.mem_cons_self)) (offBelow l1 (by walk_at "nt_les")), newsSub N2 (by walk_at "nt_sub")⟩
  clear N2 hP m1 m2 m3 hrows0 a9 o9 m19 m29 m39 R9 e9
  refine nt_range (n := cd H dw) (σ := Obj × Tok) (fun c => [(L1 + 1 + 1 + 1 + 1, c.1)]) ((L1 + 1 + 1 + 1, o2) :: (L1 + 1 + 1, o3) :: (L1 + 1, o4) :: nw) (fun c => [(Str.ofString "found", .ref pa9), (Str.ofString "width", .int (cd W a1 : Nat) c.2)])
    (fun i c tl => (∃ q, c.1.data = .cell q) ∧ tl = []) [L1 + 1 + 1 + 1 + 1] (o1, _) (fun _ _ => rfl) rfl R2 (by omega) (by omega) (by omega) F2 N3 (by walk_at "nt_sub") (fun _ => rfl) (by walk_at "nt_off") (by walk_at "nt_ps") ⟨⟨_, d1⟩, rfl⟩ ?turn ?done
  case turn =>
    rintro i t ⟨oc, tw⟩ tl u h tk own hi ⟨⟨q, dq⟩, rfl⟩ ho hap F3 N3
    dsimp only at dq F3 N3 ho
    simp only [List.cons_append, List.nil_append, List.append_assoc] at N3 ho
    k_sweep
    k_fold
    obtain ⟨rv, hrv, ra, vsr, kr, rfl, mr, hIr⟩ := hR.2 i hi
    have hIr' : IntsAre vsr ((List.range (cd W a1)).map fun (j : Nat) => meanV (pix f W H) j i a1 dw) := hIr
    have e0 : rvs9[(0 + (i : Int)).toNat]? = some (.ref ra) := by rw [show (0 + (i : Int)).toNat = i by omega]; exact hrv
    clear hIr
    k_steps
    rename Obj => oy
    rename oy.data = Data.cell _ => dy
    rename Fr _ _ _ _ => F4
    rename News _ _ _ _ => N4
    rename IsRange _ _ _ _ _ _ _ _ => R4
    unfold Halt
    refine nt_compInts (n := cd W a1) (fun (j : Nat) => meanV (pix f W H) j i a1 dw) rfl F4 N4 R4 (by omega) (by omega) (by omega) ?elt ?fin
    case elt =>
      intro g' j t' ys I oI C oC D m₂ h5 tk5 E' hj hC hx F5 N5
      simp only [List.cons_append, List.nil_append, List.append_assoc] at N5
      k_sweep
      k_fold
      k_steps
      exact EltInt.intro (by k_asm) (by k_asm) (by walk_at "nt_sub") (by simp only [Int.zero_add])
    case fin =>
      intro g' ys hys
      unfold LCg.FinE
      intro D h5 tk5 F5 N5 off5
      simp only [LCg.Off1] at off5
      k_sweep
      (try k_unfold)
      (try simp only [List.cons_append, List.nil_append])
      (try dsimp only)
      k_steps
      rename News _ _ _ _ => Nz
      rename Fr _ _ _ _ => Fz
      unfold TurnPostX
      exact TurnEndX.intro (oy, tw) [] Fz Nz (by walk_at "nt_sub") (by walk_at "nt_ps") Ap.nil ⟨⟨_, dy⟩, rfl⟩
  case done =>
    rintro ⟨oc, tw⟩ tl u h tk ⟨⟨q, dq⟩, rfl⟩ ho hap F3 N3
    dsimp only at dq F3 N3
    simp only [List.cons_append, List.nil_append, List.append_assoc] at N3
    k_sweep
    (try k_unfold)
    (try simp only [List.cons_append, List.nil_append])
    (try dsimp only)
    k_steps
    rename News _ _ _ _ => Nz
    rename Fr _ _ _ _ => Fz
    exact hret _ [] _ _ Fz (newsSub Nz (by intro p hp; have := hsn p hp; simp only [List.mem_cons]; exact .inr (.inr (.inr (.inr this))))) (fun _ h => nomatch h) ⟨rfl, rfl⟩
theorem words_22 : True := by
  k_with "compareOp NotEq ref ref" => (k_here; (with_reducible show wpAny _ _ (compareOp CmpOp.NotEq (Value.ref _) (Value.ref _)) _ _ _); k_dflt (refine' neSame ?nN ?n1 ?n2 ?n3 ?n4 ?n5 ?_; (case nN => k_asm); (case n1 => k_mem); (case n2 => with_reducible assumption); (case n3 => k_mem); (case n4 => with_reducible assumption); (case n5 => walk_at "nt_room")); intro tk9; (try dsimp only))
  k_with "nt_true" => (intro r9 tl9 h9 tk9 F9 N9 o9 a9 e9; obtain ⟨e8, e7⟩ := e9; subst e8; subst e7; clear o9 a9; simp only [List.nil_append] at N9; (try dsimp only); (try k_sweep); (try k_fold))
  k_with "call ref" => (k_here; (with_reducible show wpAny _ _ (call (Value.ref 226) [_, Value.int _ _, Value.int _ _]) _ _ _); k_dflt (refine' Ctr.use (c_shrunkright _ _ _ _ _ _ _ _ _ ?p1 ?p2 ?p3 ?p4) ?B ?F ?X ?N ?T ?hk (Split.nil _) ?P ?hd ?hu ?_; (case p1 => omega); (case p2 => omega); (case p3 => omega); (case p4 => omega); walk_at "nt_args"; (case P => walk_at "nt_plane"); walk_at "nt_true"))
  exact True.intro
noncomputable def prs (p t : Int) : List (Int × Int) := if t = 1 then [(p, 4)] else [(p.fdiv 2, 3), (p.fdiv 2 - 1 + 2 * p.fmod 2, 1)]
set_option maxHeartbeats 8000000 in
theorem c_pairs (w : World) (p : Int) (tp : Tok) (t : Int) (tt : Tok) : Ctr w 1 233 [.int p tp, .int t tt] (fun _ => True) (fun tl r => TupsL tl r (prs p t)) := by
  refine Ctr.of ?_
  intro mean mg mb dp un gd cn cs a ccd cl outer A₀ base h₀ L m news s Q E B F X N T hk hP hd hu hret
  walk_at "nt_enter"
  intro g1 L1 h1 FG F1 N1 B1 X1 T1
  try dsimp only
  k_fold
  k_steps
  · rename_i e1 D _ lD l' _ Fa Na ll Fz Nz _ _
    have e : prs p t = [(p, 4)] := by unfold prs; rw [if_pos e1]
    rw [e] at hret
    obtain ⟨u1, u2, u3, Nz⟩ : ∃ u1 u2 u3, News h₀ L _ ((l', listOf [Value.ref D].toArray 0) :: (D, tupOf [.int p u1, .int 4 u2] u3) :: news) := ⟨_, _, _, Nz⟩
    exact retTups (tl := [(D, tupOf [.int p u1, .int 4 u2] u3)]) (vs := [.ref D]) hret Fz Nz (.head _) (fun p hp => .tail _ hp) (TupsAre.snoc (p := (p, 4)) TupsAre.nil (fun _ h => h) (.head _)) ll.2 (Ap.consL (allLt_of lD) Ap.nil)
  · rename_i e1 D _ lD D2 _ lD2 l' _ Fa Na ll Fz Nz _ _
    have e : prs p t = [(p.fdiv 2, 3), (p.fdiv 2 - 1 + 2 * p.fmod 2, 1)] := by unfold prs; rw [if_neg e1]
    rw [e] at hret
    obtain ⟨u1, u2, u3, u4, u5, u6, Nz⟩ : ∃ u1 u2 u3 u4 u5 u6, News h₀ L _ ((l', listOf [Value.ref D, Value.ref D2].toArray 0) :: (D2, tupOf [.int (p.fdiv 2 - 1 + 2 * p.fmod 2) u1, .int 1 u2] u3) :: (D, tupOf [.int (p.fdiv 2) u4, .int 3 u5] u6) :: news) := ⟨_, _, _, _, _, _, Nz⟩
    exact retTups (tl := [(D2, tupOf [.int (p.fdiv 2 - 1 + 2 * p.fmod 2) u1, .int 1 u2] u3), (D, tupOf [.int (p.fdiv 2) u4, .int 3 u5] u6)]) (vs := [.ref D, .ref D2]) hret Fz Nz (.head _) (fun p hp => .tail _ hp) (TupsAre.snoc (p := (p.fdiv 2 - 1 + 2 * p.fmod 2, 1)) (TupsAre.snoc (p := (p.fdiv 2, 3)) TupsAre.nil (fun _ h => h) (List.mem_singleton.mpr rfl)) (fun _ h => .tail _ h) (.head _)) ll.2.2 (Ap.consL lD2.2 (Ap.consL (allLt_of lD) Ap.nil))
theorem words_23 : True := by
  k_with "nt_tupsRes" => (intro r9 tl9 h9 tk9 F9 N9 o9 a9 e9; have e8 := e9; obtain ⟨pa9, vs9, k9, eq9, m19, R9⟩ := e8; subst eq9; simp only [List.nil_append, List.cons_append, List.append_assoc] at N9; (try simp only [List.map_cons, List.map_nil] at o9); (try dsimp only); (try k_sweep); (try k_fold))
  k_with "call ref" => (k_here; (with_reducible show wpAny _ _ (call (Value.ref 233) [Value.int _ _, Value.int _ _]) _ _ _); k_dflt (refine' Ctr.use (c_pairs _ _ _ _ _) ?B ?F ?X ?N ?T ?hk ?S ?P ?hd ?hu ?_; walk_at "nt_args"; (case P => exact trivial); (case S => walk_at "nt_split"); walk_at "nt_tupsRes"))
  exact True.intro
theorem words_soft : True := by
  k_with "exec For Tuple Call cons nil" => walk_at "nt_for"
  exact True.intro
noncomputable def softV (g : Int → Int → Int) (x y a d : Int) : Int := ((prs y d).map fun q => ((prs x a).map fun p => q.2 * p.2 * g p.1 q.1).sum).sum
theorem prs_small {p t : Int} : ∀ q ∈ prs p t, 0 ≤ q.2 ∧ q.2 ≤ 4 := by
  intro q hq
  unfold prs at hq
  split at hq
  · rw [List.mem_singleton.mp hq]; exact ⟨by show (0 : Int) ≤ 4; omega, by show (4 : Int) ≤ 4; omega⟩
  · rcases List.mem_cons.mp hq with rfl | hq
    · exact ⟨by show (0 : Int) ≤ 3; omega, by show (3 : Int) ≤ 4; omega⟩
    · rw [List.mem_singleton.mp hq]; exact ⟨by show (0 : Int) ≤ 1; omega, by show (1 : Int) ≤ 4; omega⟩
set_option maxHeartbeats 8000000 in
theorem c_soft (w : World) (v : Value) (W H : Nat) (f : Nat → Nat → Int) (x : Int) (tx : Tok) (y : Int) (ty : Tok) (a1 : Int) (ta : Tok) (dw : Int) (td : Tok) :
    Ctr w 3 240 [v, .int x tx, .int y ty, .int a1 ta, .int dw td] (fun news => PlaneL w.params news v W H f) (OutI (softV (pix f W H) x y a1 dw)) := by
  refine Ctr.of ?_
  intro mean mg mb dp un gd cn cs a ccd cl outer A₀ base h₀ L m news s Q E B F X N T hk hP hd hu hret
  have hPc := hP
  obtain ⟨pa, pd, pr, rvs0, k0, pt1, pt2, pt3, ptw, pth, rfl, m1, m2, m3, hrows0, hW, hW2, hH, hH2⟩ := hPc
  walk_at "nt_enter"
  intro g1 L1 h1 FG F1 N1 B1 X1 T1
  try dsimp only
  k_fold
  k_steps
  unfold Halt
  have hD := R9
  obtain ⟨tlo, etlo⟩ : ∃ l, l = tl9 := ⟨_, rfl⟩
  subst etlo
  rename Fr _ _ _ _ => F2
  rename News _ _ _ _ => N2
  refine nt_list (vs := vs9) (k := k9) (σ := Int × Tok) (fun _ => []) (tlo ++ news) (fun c => [(Str.ofString "plane", .ref pa), (Str.ofString "x", .int x tx), (Str.ofString "across", .int a1 ta), (Str.ofString "total", .int c.1 c.2)])
    (fun i c tl => tl = [] ∧ c.1 = (((prs y dw).take i).map fun q => ((prs x a1).map fun p => q.2 * p.2 * pix f W H p.1 q.1).sum).sum) [] (0, _) rfl (List.mem_append_left _ m19) F2 N2 (by walk_at "nt_sub") (fun _ => rfl) offNone (by walk_at "nt_ps") ⟨rfl, rfl⟩ ?turn ?done
  case turn =>
    rintro i v ⟨T0, tT⟩ tl u h tk own hv ⟨rfl, hT⟩ ho hap F3 N3
    obtain ⟨⟨qy, qt⟩, tq, t1, t2, nn, hq0, hq1, rfl, mt⟩ := hD.item hv
    obtain ⟨b1, b2⟩ := prs_small _ hq1
    dsimp only at hT mt b1 b2
    simp only [List.nil_append, List.append_assoc] at N3
    clear ho hap
    k_sweep
    k_fold
    k_steps
    unfold Halt
    have hC := R9
    rename Fr _ _ _ _ => F4
    rename News _ _ _ _ => N4
    refine nt_list (vs := vs9) (k := k9) (σ := Int × Tok) (fun _ => []) (tl9 ++ (tlo ++ (news ++ own))) (fun c => [(Str.ofString "plane", .ref pa), (Str.ofString "x", .int x tx), (Str.ofString "across", .int a1 ta), (Str.ofString "row", .int qy t1), (Str.ofString "tall", .int qt t2), (Str.ofString "total", .int c.1 c.2)])
      (fun j c tl => tl = [] ∧ c.1 = T0 + (((prs x a1).take j).map fun p => qt * p.2 * pix f W H p.1 qy).sum) [] (T0, _) rfl (List.mem_append_left _ m19) F4 N4 (by walk_at "nt_sub") (fun _ => rfl) offNone (by walk_at "nt_ps") ⟨rfl, by simp⟩ ?turn2 ?done2
    case turn2 =>
      rintro j v2 ⟨T1, tT1⟩ tl2 u2 h2 tk2 own2 hv2 ⟨rfl, hT1⟩ ho2 hap2 F5 N5
      obtain ⟨⟨px, pw⟩, ta2, t3, t4, nn2, hp0, hp1, rfl, mt2⟩ := hC.item hv2
      obtain ⟨b3, b4⟩ := prs_small _ hp1
      dsimp only at hT1 mt2 b3 b4
      simp only [List.nil_append, List.append_assoc] at N5
      clear ho2 hap2
      k_sweep
      k_fold
      have b5 : 0 ≤ qt * pw := Int.mul_nonneg b1 b3
      have b6 : qt * pw ≤ 4 * 4 := Int.mul_le_mul b2 b4 b3 (by omega)
      k_steps
      rename News _ _ _ _ => Nz
      rename Fr _ _ _ _ => Fz
      unfold TurnPostX
      exact TurnEndX.intro (T1 + qt * pw * pix f W H px qy, _) [] Fz Nz (by walk_at "nt_sub") (by walk_at "nt_ps") Ap.nil ⟨rfl, by dsimp only; rw [takeSum (prs x a1) _ hp0, hT1, Int.add_assoc]⟩
    case done2 =>
      rintro ⟨T1, tT1⟩ tl2 u2 h2 tk2 ⟨rfl, hT1⟩ ho2 hap2 F5 N5
      dsimp only at hT1
      simp only [List.nil_append] at N5
      clear ho2 hap2
      k_sweep
      (try k_unfold)
      (try simp only [List.cons_append, List.nil_append])
      (try dsimp only)
      k_steps
      rw [hC.1, List.take_length] at hT1
      unfold TurnPostX
      exact TurnEndX.intro (T1, tT1) [] F5 N5 (by walk_at "nt_sub") (by walk_at "nt_ps") Ap.nil ⟨rfl, by dsimp only; rw [takeSum (prs y dw) _ hq0, hT1, hT]⟩
  case done =>
    rintro ⟨T0, tT⟩ tl u h tk ⟨rfl, hT⟩ ho hap F3 N3
    dsimp only at hT
    rw [hD.1, List.take_length] at hT
    simp only [List.nil_append] at N3
    clear ho hap
    k_sweep
    (try k_unfold)
    (try simp only [List.cons_append, List.nil_append])
    (try dsimp only)
    k_steps
    exact retI hret (by k_asm) (by k_asm) (by walk_at "nt_sub") (by rw [hT]; rfl)
theorem words_24 : True := by
  k_with "call ref" => (k_here; (with_reducible show wpAny _ _ (call (Value.ref 240) [_, Value.int _ _, Value.int _ _, Value.int _ _, Value.int _ _]) _ _ _); k_dflt (refine' Ctr.use (c_soft _ _ _ _ _ _ _ _ _ _ _ _ _) ?B ?F ?X ?N ?T ?hk (Split.nil _) ?P ?hd ?hu ?_; walk_at "nt_args"; (case P => walk_at "nt_plane"); walk_at "nt_int"))
  exact True.intro
section
variable {prog : Program} {w : World} {A : Around} {E : Value → Shared → Prop} {s : Shared} {h₀ : Heap} {L l : Addr} {news : Led}
/-- the last item -/
theorem itemLast {value slice : PySem.Expr} {vs : List Value} {n : Nat} {u : Tok} {v : Value} {Q : Value → Shared → Prop} (N : News h₀ L s.heap news) (hm : (l, listOf vs.toArray n) ∈ news)
    (hlen : 0 < vs.length) (hfit : vs.length ≤ 1000) (hx : vs[vs.length - 1]? = some v) (h : Q v s)
    (hs : subscripted slice false (.ref l) (.int (-1) u) = operate [.ref l, .int (-1) u] (getItem (.ref l) (.int (-1) u)) := by with_unfolding_all rfl) :
    wpAny (model prog w) A (subscriptTail value slice (.ref l) (.int (-1) u)) Q E s :=
  have hl : s.heap.IsList l vs.toArray := ⟨_, (N _ hm).1, rfl, n, rfl⟩
  tail_any hl.typeIs slot_list_getitem.lookup (wpAny_getItem_list_neg hl (by omega) (by first | (simp; done) | (simp; omega)) (by first | (simp; done) | (simp; omega)) (by
    have e : (-1 + (vs.toArray.size : Int)).toNat = vs.length - 1 := by simp; omega
    rw [e]; simpa using hx) h) hs
/-- a list of one, three times -/
theorem mul3K {m : Str → Option Value} {v : Value} {k : Nat} {u : Tok} {Q : Value → Shared → Prop} (F : Fr h₀ L s.heap m) (N : News h₀ L s.heap news) (hm : (l, listOf [v].toArray k) ∈ news)
    (h : ∀ D h' k', Fr h₀ L h' m → News h₀ L h' ((D, listOf [v, v, v].toArray k') :: news) → (∀ p ∈ news, p.1 < D) → Q (.ref D) { s with heap := h' }) : wpAny (model prog w) A (binaryOp .Mult (.ref l) (.int 3 u)) Q E s :=
  mul_list F N (N _ hm).1 (by decide) (by decide) (by simp) fun h' F' N' => h _ h' _ F' N' fun p hp => Heap.lt_size (N p hp).1
/-- two lists joined -/
theorem addK {m : Str → Option Value} {l2 : Addr} {vs us : List Value} {k1 k2 : Nat} {Q : Value → Shared → Prop} (F : Fr h₀ L s.heap m) (N : News h₀ L s.heap news) (m1 : (l, listOf vs.toArray k1) ∈ news) (m2 : (l2, listOf us.toArray k2) ∈ news) (hsz : vs.length + us.length ≤ 10000)
    (h : ∀ D h' k', Fr h₀ L h' m → News h₀ L h' ((D, listOf (vs ++ us).toArray k') :: news) → (∀ p ∈ news, p.1 < D) → Q (.ref D) { s with heap := h' }) : wpAny (model prog w) A (binaryOp .Add (.ref l) (.ref l2)) Q E s :=
  add_arrays (hsz := by rw [sizeLine_eq]; simp; omega) F N ⟨_, (N _ m1).1, rfl, k1, rfl⟩ ⟨_, (N _ m2).1, rfl, k2, rfl⟩ fun h' F' N' => h _ h' _ F' N' fun p hp => Heap.lt_size (N p hp).1
end
theorem words_last : True := by
  k_with "call builtin:sum" => (k_here; (with_reducible show wpAny _ _ (call (Value.builtin "sum") [Value.ref _]) _ _ _); (with_unfolding_all refine' sumK ?u0 ?u1 ?u2 ?u3 ?u4 ?_; (case u0 => with_unfolding_all rfl); (case u1 => k_asm); (case u2 => k_asm); (case u3 => is_list); (case u4 => first | l_ints | l_intsW); k_whole); intro h9 k9 t9 F9 N9; (try simp only [List.sum_cons, List.sum_nil]))
  k_with "binaryOp Mult ref int" => (k_here; (with_reducible show wpAny _ _ (binaryOp Operator.Mult (Value.ref _) (Value.int 3 _)) _ _ _); k_dflt (refine' mul3K ?uF ?uN ?um ?_; (case uF => k_asm); (case uN => k_asm); (case um => k_mem)); intro D9 h9 k9 F9 N9 l9; (k_lt l9); (try k_sweep))
  k_with "binaryOp Add ref ref" => (k_here; (with_reducible show wpAny _ _ (binaryOp Operator.Add (Value.ref _) (Value.ref _)) _ _ _); k_dflt (refine' addK ?uF ?uN ?u1 ?u2 ?us ?_; (case uF => k_asm); (case uN => k_asm); (case u1 => k_mem); (case u2 => k_mem); (case us => first | omega | (simp only [List.length_cons, List.length_nil]; omega))); intro D9 h9 k9 F9 N9 l9; (k_lt l9); (try k_sweep))
  k_with "subscriptTail" => (k_here; (with_reducible show wpAny _ _ (subscriptTail _ _ (Value.ref _) (Value.int (-1) _)) _ _ _); k_dflt (refine' itemLast ?iN ?im ?ia ?ib ?ix ?_ ?is; (case iN => k_asm); (case im => k_mem); (case ia => omega); (case ib => omega); (case ix => with_reducible assumption); (case is => with_unfolding_all rfl); k_whole))
  exact True.intro
theorem words_comp2 : True := by
  k_with "eval ListComp" => (k_here; (with_reducible show wpAny _ _ (eval (Expr.ListComp _ [_, _] _ _) _) _ _ _); k_dflt (refine ListComp_2 (F₀ := by k_asm) (by rfl) (by decide) (by rfl) (by decide) (by rfl) (by rfl) (by decide) ?_))
  exact True.intro
noncomputable def hx (g : Nat → Int) (n j : Nat) : Int := g (if j < 2 * n then j / 2 else n - 1)
noncomputable def third (g : Nat → Int) (n i : Nat) : Int := (hx g n (3 * i) + hx g n (3 * i + 1) + hx g n (3 * i + 2) + 1).fdiv 3
theorem snocInts {ys : List Value} {f : Nat → Int} {k : Nat} {x : Int} {t : Tok} (h : IntsAre ys ((List.range k).map f)) (e : x = f k) : IntsAre (ys ++ [.int x t]) ((List.range (k + 1)).map f) := by
  rw [rangeMapSucc, e]
  exact intsSnoc h _ _
theorem slice3 (f : Nat → Int) (N j : Nat) (h : 3 * j + 3 ≤ N) : (List.take (min (3 * (0 + (j : Int)) + 3).toNat ((List.range N).map f).length - (3 * (0 + (j : Int))).toNat) (List.drop (3 * (0 + (j : Int))).toNat ((List.range N).map f))).sum = f (3 * j) + f (3 * j + 1) + f (3 * j + 2) := by
  have e1 : (3 * (0 + (j : Int))).toNat = 3 * j := by omega
  have e3 : (3 * (0 + (j : Int)) + 3).toNat = 3 * j + 3 := by omega
  have e2 : min (3 * (0 + (j : Int)) + 3).toNat ((List.range N).map f).length - (3 * (0 + (j : Int))).toNat = 3 := by rw [e1, e3, List.length_map, List.length_range, Nat.min_eq_left h, Nat.add_sub_cancel_left]
  rw [e2, e1]
  have e : List.take 3 (List.drop (3 * j) ((List.range N).map f)) = [f (3 * j), f (3 * j + 1), f (3 * j + 2)] := by
    apply List.ext_getElem
    · simp; omega
    · intro i h1 h2
      have : i = 0 ∨ i = 1 ∨ i = 2 := by simp at h2; omega
      rcases this with rfl | rfl | rfl <;> simp
  rw [e]
  simp
  omega
theorem retInts2 {h₀ h' : Heap} {L a : Addr} {m : Str → Option Value} {news rest : Led} {s : Shared} {Q : Value → Shared → Prop} {tk' : Nat} {vs : List Value} {k : Nat} {ns : List Int}
    (hret : ∀ r tl h' tk', Fr h₀ L h' m → News h₀ L h' (tl ++ news) → (∀ p ∈ tl, ∀ q ∈ news, p.1 ≠ q.1) → IntsL tl r ns → Q r { s with heap := h', toks := tk' })
    (F : Fr h₀ L h' m) (N : News h₀ L h' rest) (ha : (a, listOf vs.toArray k) ∈ rest) (hs : ∀ p ∈ news, p ∈ rest) (hI : IntsAre vs ns) (a1 : LCg.Off1 a news) : Q (.ref a) { s with heap := h', toks := tk' } :=
  hret _ [(a, listOf vs.toArray k)] h' tk' F (newsSub N fun p hp => by
    rcases List.mem_cons.mp hp with rfl | hp
    · exact ha
    · exact hs p hp) (fun p hp q hq e => by rw [List.mem_singleton.mp hp] at e; exact off1All a1 q hq e.symm) ⟨a, vs, k, rfl, .head _, hI⟩
theorem testsNil {prog : Program} {w : World} {A : Around} {E : Value → Shared → Prop} {s : Shared} {env : Env} {Q : Bool → Shared → Prop} (h : Q true s) :
    wpAny (model prog w) A (forIn ([] : List Expr) true fun c r => if r = true then do let ok ← isTrue c env (eval c env); pure (ForInStep.yield ok) else pure (ForInStep.yield r)) Q E s := wpAny_tests_nil h
theorem elemYes {prog : Program} {w : World} {A : Around} {env : Env} {ifs : List Expr} {elt : Expr} {Inv : List Value → Prop} {ys : List Value} {h : Heap} {s : Shared} {tk : Nat} (k : ∀ E'' : Value → Shared → Prop, wpAny (model prog w) A (eval elt env) (fun r s'' => (∃ tk'', s'' = { s with heap := h, toks := tk'' }) ∧ Inv (ys ++ [r])) E'' { s with heap := h, toks := tk }) :
    ElemOk prog w A env ifs elt Inv ys h s true { s with heap := h, toks := tk } := ⟨tk, rfl, by rw [if_pos rfl]; exact k⟩
set_option maxHeartbeats 8000000 in
theorem c_thirds (w : World) (v : Value) (n : Nat) (g : Nat → Int) (hn : 0 < n) (hn' : n ≤ 100) :
    Ctr w 2 250 [v] (fun news => IntsL news v ((List.range n).map g)) (fun tl r => IntsL tl r ((List.range ((2 * n + 2) / 3)).map (third g n))) := by
  refine Ctr.of ?_
  intro mean mg mb dp un gd cn cs a ccd cl outer A₀ base h₀ L m news s Q E B F X N T hk hP hd hu hret
  obtain ⟨pa, vs, k, rfl, mv, hI⟩ := hP
  have hvl : vs.length = n := by rw [hI.length]; simp
  have hJ : ∀ i, i < n → ∃ t, vs[i]? = some (.int (g i) t) := fun i h => hI.get i (g i) (by rw [List.getElem?_map, List.getElem?_range h]; rfl)
  clear hI
  walk_at "nt_enterC"
  intro g1 L1 h1 tk1 cells FG F1 N1 Y1 B1 X1 T1 l1
  obtain ⟨o1, ec, d1⟩ := CellsAre.one Y1
  subst ec
  clear Y1
  simp only [List.cons_append, List.nil_append] at N1
  try dsimp only
  k_fold
  replace d1 : o1.data = .cell none := d1
  k_steps
  rename Fr _ _ _ _ => F2
  rename News _ _ _ _ => N2
  refine ⟨pa, vs, k, _, fun i j ys => j ≤ 2 ∧ i ≤ n ∧ IntsAre ys ((List.range (2 * i + j)).map (hx g n)), rfl, rfl, F2, N2, by walk_at "nt_in", by omega, ⟨by omega, by omega, .nil⟩, ?size, ?inner, ?fin⟩
  case size =>
    rintro i j ys ⟨h1, h2, h3⟩
    rw [h3.length]
    simp
    omega
  case inner =>
    rintro i vv I oI C oC D ys m₂ h5 tk5 E' hv ⟨_, _, hys⟩ hC hmx F5 N5
    have hi : i < n := by rw [← hvl]; exact (List.getElem?_eq_some_iff.mp hv).1
    obtain ⟨t0, hv0⟩ := hJ i hi
    rw [hv] at hv0
    obtain rfl := Option.some.inj hv0
    k_sweep
    k_steps
    rename Fr _ _ _ _ => Fz
    rename News _ _ _ _ => Nz
    rename IsRange _ _ _ _ _ _ _ _ => Rz
    refine ⟨_, _, oC, 2, _, rfl, Fz, Nz, ⟨m₂, hC, hmx⟩, .inr ⟨_, _, _, _, _, _, rfl, Rz, by decide, by omega, by omega, rfl⟩, ?_, ?_⟩
    · rintro j u h6 tk6 oC6 ys6 m₃ E6 hj _ ⟨q1, q2, q3⟩ hC6 hmx6 hmy6 F6 N6
      refine testsNil (elemYes fun E7 => ?_)
      k_sweep
      (try k_fold)
      k_steps
      rw [show 2 * i + (j + 1) = 2 * i + j + 1 by omega]
      exact snocInts q3 (by unfold hx; rw [if_pos (by omega), show (2 * i + j) / 2 = i by omega])
    · rintro ys6 ⟨q1, q2, q3⟩
      exact ⟨by omega, hi, q3⟩
  case fin =>
    rintro ys ⟨_, _, hys⟩
    unfold LCg.FinE
    intro D h5 tk5 F5 N5 off5
    simp only [LCg.Off1] at off5
    have hyl : ys.length = 2 * n := by rw [hys.length]; simp [hvl]
    have hH : Halt (IntsAre ys ((List.range (2 * n)).map (hx g n))) := by rw [hvl] at hys; exact hys
    clear hys
    obtain ⟨tl', hvl'⟩ := hJ (n - 1) (by omega)
    have hlast : vs[vs.length - 1]? = some (.int (g (n - 1)) tl') := by rw [hvl]; exact hvl'
    k_sweep
    (try k_unfold)
    (try simp only [List.cons_append, List.nil_append])
    (try dsimp only)
    k_steps
    rename Fr _ _ _ _ => F4
    rename News _ _ _ _ => N4
    rename IsRange _ _ _ _ _ _ _ _ => R4
    have em : ((ys.length : Int) + 2).fdiv 3 = (((2 * n + 2) / 3 : Nat) : Int) := by rw [hyl, Int.fdiv_eq_ediv_of_nonneg _ (by omega)]; omega
    obtain ⟨zs, hzs⟩ : ∃ zs, zs = ys ++ [Value.int (g (n - 1)) tl', Value.int (g (n - 1)) tl', Value.int (g (n - 1)) tl'] := ⟨_, rfl⟩
    have hzi : IntsAre zs ((List.range (2 * n + 3)).map (hx g n)) := by
      rw [hzs]
      have q : IntsAre ys ((List.range (2 * n)).map (hx g n)) := hH
      have e : ys ++ [Value.int (g (n - 1)) tl', Value.int (g (n - 1)) tl', Value.int (g (n - 1)) tl'] = ((ys ++ [Value.int (g (n - 1)) tl']) ++ [Value.int (g (n - 1)) tl']) ++ [Value.int (g (n - 1)) tl'] := by simp
      rw [e]
      exact snocInts (snocInts (snocInts q (by unfold hx; rw [if_neg (by omega)])) (by unfold hx; rw [if_neg (by omega)])) (by unfold hx; rw [if_neg (by omega)])
    have hzl : zs.length = 2 * n + 3 := by rw [hzi.length]; simp
    rw [← hzs] at N4
    clear hzs
    unfold Halt
    refine nt_compInts (n := (2 * n + 2) / 3) (third g n) rfl F4 N4 R4 (by rw [em]; omega) (by omega) (by rw [em]; omega) ?elt2 ?fin2
    case elt2 =>
      intro g' j t' zz I oI C oC D3 m₂ h6 tk6 E' hj hC hmx F6 N6
      simp only [List.cons_append, List.nil_append, List.append_assoc] at N6
      k_sweep
      k_fold
      have hj3 : 3 * j + 3 ≤ zs.length := by omega
      k_steps
      exact EltInt.intro (by k_asm) (by k_asm) (by walk_at "nt_sub") (by unfold third; rw [slice3 (hx g n) (2 * n + 3) j (by omega)])
    case fin2 =>
      intro g' zz hzz
      unfold LCg.FinE
      intro D3 h6 tk6 F6 N6 off6
      simp only [LCg.Off1] at off6
      k_sweep
      (try k_unfold)
      (try simp only [List.cons_append, List.nil_append])
      (try dsimp only)
      k_steps
      rename News _ _ _ _ => Nz
      rename Fr _ _ _ _ => Fz
      exact retInts2 hret Fz Nz (by walk_at "nt_in") (by walk_at "nt_sub") hzz off6.2.2.2.2.2
theorem words_25 : True := by
  k_with "binaryOp Mult ref int" => (k_here; (with_reducible show wpAny _ _ (binaryOp Operator.Mult (Value.ref _) (Value.int 3 _)) _ _ _); k_dflt (refine' mul3K ?uF ?uN ?um ?_; (case uF => k_asm); (case uN => k_asm); (case um => k_mem)); intro D9 h9 k9 F9 N9 l9; (k_lt l9); (try k_sweep))
  k_with "binaryOp Add ref ref" => (k_here; (with_reducible show wpAny _ _ (binaryOp Operator.Add (Value.ref _) (Value.ref _)) _ _ _); k_dflt (refine' addK ?uF ?uN ?u1 ?u2 ?us ?_; (case uF => k_asm); (case uN => k_asm); (case u1 => k_mem); (case u2 => k_mem); (case us => first | omega | (simp only [List.length_cons, List.length_nil]; omega))); intro D9 h9 k9 F9 N9 l9; (k_lt l9); (try k_sweep))
  k_with "subscriptTail" => (k_here; (with_reducible show wpAny _ _ (subscriptTail _ _ (Value.ref _) (Value.int (-1) _)) _ _ _); k_dflt (refine' itemLast ?iN ?im ?ia ?ib ?ix ?_ ?is; (case iN => k_asm); (case im => k_mem); (case ia => omega); (case ib => omega); (case ix => with_reducible assumption); (case is => with_unfolding_all rfl); k_whole))
  k_with "eval ListComp" => (k_here; (with_reducible show wpAny _ _ (eval (Expr.ListComp _ [_, _] _ _) _) _ _ _); k_dflt (refine ListComp_2 (F₀ := by k_asm) (by rfl) (by decide) (by rfl) (by decide) (by rfl) (by rfl) (by decide) ?_))
  k_with "call ref" => (k_here; (with_reducible show wpAny _ _ (call (Value.ref 250) [Value.ref _]) _ _ _); k_dflt (refine' Ctr.use (c_thirds _ _ _ _ ?p1 ?p2) ?B ?F ?X ?N ?T ?hk ?S ?P ?hd ?hu ?_; walk_at "nt_args"; (case P => walk_at "nt_ints"); (case p1 => omega); (case p2 => omega); (case S => walk_at "nt_split"); walk_at "nt_intsRes"))
  exact True.intro
theorem kpMin {x n : Nat} (h : 0 < n) : (kp (x : Int) (n : Int)).toNat = min x (n - 1) := by
  by_cases hx : x < n
  · rw [kp_in (Int.natCast_nonneg x) (Int.ofNat_lt.mpr hx), Int.toNat_natCast, Nat.min_eq_left (Nat.le_sub_one_of_lt hx)]
  · unfold kp
    rw [if_neg (by omega), if_neg (by omega), Nat.min_eq_right (by omega)]
    omega
theorem four {i : Nat} (h : i < 4) : i = 0 ∨ i = 1 ∨ i = 2 ∨ i = 3 :=
  match i, h with
  | 0, _ => .inl rfl
  | 1, _ => .inr (.inl rfl)
  | 2, _ => .inr (.inr (.inl rfl))
  | 3, _ => .inr (.inr (.inr rfl))
  | i + 4, h => absurd h (Nat.not_lt.mpr (Nat.le_add_left 4 i))
theorem hxMin (g : Nat → Int) {n j : Nat} (h : 0 < n) : hx g n j = g (min (j / 2) (n - 1)) := by
  unfold hx
  split
  · rw [Nat.min_eq_left (by omega)]
  · rw [Nat.min_eq_right (by omega)]
noncomputable def w23 : Nat → List (Int × Int)
  | 0 => [(0, 2), (1, 1)]
  | 1 => [(1, 1), (2, 2)]
  | 2 => [(3, 2), (4, 1)]
  | _ => [(4, 1), (5, 2)]
theorem wts23 : ((List.range 4).all fun (i : Nat) => decide (wts (i : Int) 2 3 = w23 i)) = true := by decide +kernel
theorem wts11 : ((List.range 8).all fun (i : Nat) => decide (wts (i : Int) 1 1 = [((i : Int), (1 : Int))])) = true := by decide +kernel
theorem wts23_of {i : Nat} (h : i < 4) : wts i 2 3 = w23 i := of_decide_eq_true (List.all_eq_true.mp wts23 i (List.mem_range.mpr h))
theorem wts11_of {i : Nat} (h : i < 8) : wts i 1 1 = [((i : Int), (1 : Int))] := of_decide_eq_true (List.all_eq_true.mp wts11 i (List.mem_range.mpr h))
theorem third23 (g : Nat → Int) {n i : Nat} (hn : 0 < n) (h : i < 4) : (((w23 i).map fun p => g (min p.1.toNat (n - 1)) * p.2).sum + 1).fdiv 3 = third g n i := by
  unfold third
  rw [hxMin g hn, hxMin g hn, hxMin g hn]
  have := four h
  rcases this with rfl | rfl | rfl | rfl <;> (simp only [w23, List.map_cons, List.map_nil, List.sum_cons, List.sum_nil]; congr 1; simp only [Int.reduceToNat, Nat.reduceMul, Nat.reduceAdd, Nat.reduceDiv]; omega)
theorem st1_eq (f : Nat → Nat → Int) {W H i j : Nat} (hW : 0 < W) (hW5 : W ≤ 5) (hH4 : H ≤ 4) (hi : i < (2 * W + 2) / 3) (hj : j < H) :
    (wsum (pix f W H) (wts i 2 3) (wts j 1 1) + ((3 : Int) * 1).fdiv 2).fdiv (3 * 1) = third (fun x => f x j) W i := by
  rw [wts11_of (i := j) (by omega), wts23_of (i := i) (by omega), ← third23 (fun x => f x j) hW (by omega)]
  unfold wsum
  simp only [List.map_cons, List.map_nil, List.sum_cons, List.sum_nil, Int.add_zero]
  have e : ∀ p ∈ w23 i, pix f W H p.1 j * 1 * p.2 = f (min p.1.toNat (W - 1)) j * p.2 := by
    intro p hp
    have hp0 : 0 ≤ p.1 := by
      have := four (i := i) (by omega)
      rcases this with rfl | rfl | rfl | rfl <;> (simp only [w23, List.mem_cons, List.not_mem_nil, or_false] at hp; rcases hp with rfl | rfl <;> decide)
    have e1 : p.1 = ((p.1.toNat : Nat) : Int) := (Int.toNat_of_nonneg hp0).symm
    unfold pix
    rw [kp_in (p := (j : Int)) (by omega) (by omega), Int.mul_one, e1, kpMin hW, Int.toNat_natCast, Int.toNat_natCast]
  rw [List.map_congr_left e]
  rfl
theorem st2_eq (f : Nat → Nat → Int) {W H i j : Nat} (hH : 0 < H) (hW5 : W ≤ 5) (hH4 : H ≤ 4) (hi : i < W) (hj : j < (2 * H + 2) / 3) :
    (wsum (pix f W H) (wts i 1 1) (wts j 2 3) + ((1 : Int) * 3).fdiv 2).fdiv (1 * 3) = third (fun y => f i y) H j := by
  rw [wts11_of (i := i) (by omega), wts23_of (i := j) (by omega), ← third23 (fun y => f i y) hH (by omega)]
  unfold wsum
  simp only [List.map_cons, List.map_nil, List.sum_cons, List.sum_nil, Int.add_zero]
  have e : ∀ p ∈ w23 j, pix f W H i p.1 * p.2 * 1 = f i (min p.1.toNat (H - 1)) * p.2 := by
    intro p hp
    have hp0 : 0 ≤ p.1 := by
      have := four (i := j) (by omega)
      rcases this with rfl | rfl | rfl | rfl <;> (simp only [w23, List.mem_cons, List.not_mem_nil, or_false] at hp; rcases hp with rfl | rfl <;> decide)
    have e1 : p.1 = ((p.1.toNat : Nat) : Int) := (Int.toNat_of_nonneg hp0).symm
    unfold pix
    rw [kp_in (p := (i : Int)) (by omega) (by omega), Int.mul_one, e1, kpMin hH, Int.toNat_natCast, Int.toNat_natCast]
  rw [List.map_congr_left e]
  rfl
theorem c_st1 (w : World) (v : Value) (W H : Nat) (f : Nat → Nat → Int) (t1 t2 t3 t4 : Tok) (hW : 0 < W) (hW5 : W ≤ 5) (hH : 0 < H) (hH4 : H ≤ 4) :
    Ctr w 5 152 [v, .int 2 t1, .int 3 t2, .int 1 t3, .int 1 t4] (fun news => PlaneL w.params news v W H f) (fun tl r => PlaneL w.params tl r ((2 * W + 2) / 3) H (fun i j => third (fun x => f x j) W i)) := by
  refine Ctr.mono (c_shrunkto w v W H f 2 t1 3 t2 1 t3 1 t4 ((2 * W + 2) / 3) H (by omega) (by omega) (by omega) (by omega) (by omega) (by omega) (by omega) (by omega) (by decide) (by rw [Int.fdiv_eq_ediv_of_nonneg _ (by omega)]; omega) (by rw [Int.fdiv_eq_ediv_of_nonneg _ (by omega)]; omega) (by omega) (by omega) (by omega) (by omega)) (Nat.le_refl _) (fun _ h => h) ?_
  intro l r hP
  exact hP.congr fun i j hi hj => st1_eq f hW hW5 hH4 hi hj
theorem c_st2 (w : World) (v : Value) (W H : Nat) (f : Nat → Nat → Int) (t1 t2 t3 t4 : Tok) (hW : 0 < W) (hW5 : W ≤ 5) (hH : 0 < H) (hH4 : H ≤ 4) :
    Ctr w 5 152 [v, .int 1 t1, .int 1 t2, .int 2 t3, .int 3 t4] (fun news => PlaneL w.params news v W H f) (fun tl r => PlaneL w.params tl r W ((2 * H + 2) / 3) (fun i j => third (fun y => f i y) H j)) := by
  refine Ctr.mono (c_shrunkto w v W H f 1 t1 1 t2 2 t3 3 t4 W ((2 * H + 2) / 3) (by omega) (by omega) (by omega) (by omega) (by omega) (by omega) (by omega) (by omega) (by decide) (by rw [Int.fdiv_eq_ediv_of_nonneg _ (by omega)]; omega) (by rw [Int.fdiv_eq_ediv_of_nonneg _ (by omega)]; omega) (by omega) (by omega) (by omega) (by omega)) (Nat.le_refl _) (fun _ h => h) ?_
  intro l r hP
  exact hP.congr fun i j hi hj => st2_eq f hH hW5 hH4 hi hj
theorem words_26 : True := by
  k_with "call ref" => (k_here; (with_reducible show wpAny _ _ (call (Value.ref 152) [_, Value.int 2 _, Value.int 3 _, Value.int 1 _, Value.int 1 _]) _ _ _); k_dflt (refine' Ctr.use (c_st1 _ _ _ _ _ _ _ _ _ ?p1 ?p2 ?p3 ?p4) ?B ?F ?X ?N ?T ?hk ?S ?P ?hd ?hu ?_; walk_at "nt_args"; (case P => walk_at "nt_plane"); (case p1 => omega); (case p2 => omega); (case p3 => omega); (case p4 => omega); (case S => walk_at "nt_split"); walk_at "nt_planeRes"))
  k_with "call ref" => (k_here; (with_reducible show wpAny _ _ (call (Value.ref 152) [_, Value.int 1 _, Value.int 1 _, Value.int 2 _, Value.int 3 _]) _ _ _); k_dflt (refine' Ctr.use (c_st2 _ _ _ _ _ _ _ _ _ ?p1 ?p2 ?p3 ?p4) ?B ?F ?X ?N ?T ?hk ?S ?P ?hd ?hu ?_; walk_at "nt_args"; (case P => walk_at "nt_plane"); (case p1 => omega); (case p2 => omega); (case p3 => omega); (case p4 => omega); (case S => walk_at "nt_split"); walk_at "nt_planeRes"))
  exact True.intro
set_option maxHeartbeats 8000000 in
theorem c_ratioright (w : World) (v : Value) (W H : Nat) (f : Nat → Nat → Int) (hW5 : W ≤ 5) (hH4 : H ≤ 4) :
    Ctr w 7 255 [v] (fun news => PlaneL w.params news v W H f) OutT := by
  refine Ctr.of ?_
  intro mean mg mb dp un gd cn cs a ccd cl outer A₀ base h₀ L m news s Q E B F X N T hk hP hd hu hret
  have hPc := hP
  obtain ⟨pa, pd, pr, rvs0, k0, pt1, pt2, pt3, ptw, pth, rfl, m1, m2, m3, hrows0, hW, hW2, hH, hH2⟩ := hPc
  walk_at "nt_enterC"
  intro g1 L1 h1 tk1 cells FG F1 N1 Y1 B1 X1 T1 l1
  obtain ⟨o1, ec, d1⟩ := CellsAre.one Y1
  subst ec
  clear Y1
  simp only [List.cons_append, List.nil_append] at N1
  try dsimp only
  k_fold
  replace d1 : o1.data = .cell none := d1
  k_steps
  rename IsRange _ _ _ _ _ _ _ _ => R2
  rename Fr _ _ _ _ => F2
  rename News _ _ _ _ => N2
  unfold Halt
  obtain ⟨nw, hsn, hPn, hR0, q1, q2, q3, hR, p1, p2, p3, on, N3⟩ : ∃ nw, (∀ p ∈ news, p ∈ nw) ∧ PlaneL w.params nw (.ref pa) W H f ∧ RowsL nw rvs0 W H f ∧ (pa, instObj 84 pd) ∈ nw ∧ (pd, _) ∈ nw ∧ (pr, listOf rvs0.toArray k0) ∈ nw ∧ RowsL nw rvs9 ((2 * W + 2) / 3) H (fun i j => third (fun x => f x j) W i) ∧ (pa9, instObj 84 pd9) ∈ nw ∧ (pd9, _) ∈ nw ∧ (pr9, listOf rvs9.toArray k9) ∈ nw ∧ OwnOff nw [L1 + 1] ∧ News g1 L1 _ ((L1 + 1, o1) :: nw) :=
    ⟨tl9 ++ news, fun p hp => List.mem_append_right _ hp, hP.mono fun p hp => List.mem_append_right _ hp, hrows0.mono fun p hp => List.mem_append_right _ hp, List.mem_append_right _ m1, List.mem_append_right _ m2, List.mem_append_right _ m3, R9.mono fun p hp => List.mem_append_left _ hp, List.mem_append_left _ m19, List.mem_append_left _ m29, List.mem_append_left _ m39,
      allApp o9 (offBelow l1 (by walk_at "nt_les")), newsSub N2 (by walk_at "nt_sub")⟩
  clear N2 hP m1 m2 m3 hrows0 a9 o9 m19 m29 m39 R9 e9
  refine nt_range (n := H) (σ := Unit) (fun _ => []) ((L1 + 1, o1) :: nw) (fun _ => [(Str.ofString "found", .ref pa9), (Str.ofString "plane", .ref pa)])
    (fun i c tl => tl = []) [] () (fun _ _ => rfl) rfl R2 (by omega) (by omega) (by omega) F2 N3 (by walk_at "nt_sub") (fun _ => rfl) offNone (by walk_at "nt_ps") rfl ?turn ?done
  case turn =>
    rintro i t _ tl u h tk own hi rfl ho hap F3 N3
    simp only [List.cons_append, List.nil_append, List.append_assoc] at N3
    clear ho hap
    k_sweep
    k_fold
    obtain ⟨rv, hrv, ra, vsr, kr, rfl, mr, hIr⟩ := hR.2 i hi
    obtain ⟨rp, hrp, hIp⟩ := hR0.2 i hi
    have hIr' : IntsAre vsr ((List.range ((2 * W + 2) / 3)).map (third (fun x => f x i) W)) := hIr
    have hIp' : IntsL nw rp ((List.range W).map fun x => f x i) := hIp
    obtain ⟨rpa, rpv, rpk, rfl, _, _⟩ := hIp
    have e0 : rvs9[(0 + (i : Int)).toNat]? = some (.ref ra) := by rw [show (0 + (i : Int)).toNat = i by omega]; exact hrv
    have e1 : rvs0[(0 + (i : Int)).toNat]? = some (.ref rpa) := by rw [show (0 + (i : Int)).toNat = i by omega]; exact hrp
    clear hIr
    k_steps
    rename News _ _ _ _ => Nz
    rename Fr _ _ _ _ => Fz
    unfold TurnPostX TurnEndX
    exact ⟨_, _, _, (), [], _, rfl, Fz, Nz, (by walk_at "nt_sub"), (by walk_at "nt_ps"), Ap.nil, rfl⟩
  case done =>
    rintro _ tl u h tk rfl ho hap F3 N3
    simp only [List.cons_append, List.nil_append, List.append_assoc] at N3
    clear ho hap
    k_sweep
    (try k_unfold)
    (try simp only [List.cons_append, List.nil_append])
    (try dsimp only)
    k_steps
    rename IsRange _ _ _ _ _ _ _ _ => R4
    rename Fr _ _ _ _ => F4
    rename News _ _ _ _ => N4
    unfold Halt
    obtain ⟨nw2, hsn2, hPn2, hS0, z1, z2, z3, hS, y1, y2, y3, on2, N5⟩ : ∃ nw2, (∀ p ∈ nw, p ∈ nw2) ∧ PlaneL w.params nw2 (.ref pa) W H f ∧ RowsL nw2 rvs0 W H f ∧ (pa, instObj 84 pd) ∈ nw2 ∧ (pd, _) ∈ nw2 ∧ (pr, listOf rvs0.toArray k0) ∈ nw2 ∧ RowsL nw2 rvs9 W ((2 * H + 2) / 3) (fun i j => third (fun y => f i y) H j) ∧ (pa9, instObj 84 pd9) ∈ nw2 ∧ (pd9, _) ∈ nw2 ∧ (pr9, listOf rvs9.toArray k9) ∈ nw2 ∧ OwnOff nw2 [L1 + 1] ∧ News g1 L1 _ ((L1 + 1, o1) :: nw2) :=
      ⟨tl9 ++ nw, fun p hp => List.mem_append_right _ hp, hPn.mono fun p hp => List.mem_append_right _ hp, hR0.mono fun p hp => List.mem_append_right _ hp, List.mem_append_right _ q1, List.mem_append_right _ q2, List.mem_append_right _ q3, R9.mono fun p hp => List.mem_append_left _ hp, List.mem_append_left _ m19, List.mem_append_left _ m29, List.mem_append_left _ m39,
        allApp o9 on, newsSub N4 (by walk_at "nt_sub")⟩
    clear N4 hPn q1 q2 q3 p1 p2 p3 hR hR0 a9 o9 m19 m29 m39 R9 e9 on
    refine nt_range (n := W) (σ := Obj) (fun c => [(L1 + 1, c)]) nw2 (fun _ => [(Str.ofString "found", .ref pa9), (Str.ofString "plane", .ref pa)])
      (fun i c tl => (∃ q, c.data = .cell q) ∧ tl = []) [L1 + 1] o1 (fun _ _ => rfl) rfl R4 (by omega) (by omega) (by omega) F4 N5 (by walk_at "nt_sub") (fun _ => rfl) on2 (by walk_at "nt_ps") ⟨⟨_, d1⟩, rfl⟩ ?turn2 ?done2
    case turn2 =>
      rintro i t oc tl u2 h6 tk6 own hi ⟨⟨q, dq⟩, rfl⟩ ho hap F6 N6
      simp only [List.cons_append, List.nil_append, List.append_assoc] at N6 ho
      k_sweep
      k_fold
      have hlF : rvs9.length = (2 * H + 2) / 3 := hS.1
      have hlP : rvs0.length = H := hS0.1
      k_steps
      rename Obj => oy
      rename oy.data = Data.cell _ => dy
      rename Fr _ _ _ _ => F7
      rename News _ _ _ _ => N7
      unfold Halt
      refine nt_compIntsL (vs := rvs9) (k := k9) (fun j => third (fun y => f i y) H j) rfl F7 N7 (by walk_at "nt_in") (by omega) ?elt ?fin
      case elt =>
        intro g' j v' ys I oI C oC D m₂ h8 tk8 E' hj hv hC hx F8 N8
        simp only [List.cons_append, List.nil_append, List.append_assoc] at N8
        k_sweep
        k_fold
        obtain ⟨v6, hv6, ra, vsr, kr, rfl, mr, hIr⟩ := hS.2 j (by omega)
        rw [hv] at hv6
        obtain rfl := Option.some.inj hv6
        obtain ⟨t8, ht8⟩ := hIr.get i _ (rowOf_get hi)
        have e8 : vsr[(0 + (i : Int)).toNat]? = some (.int (third (fun y => f i y) H j) t8) := by rw [show (0 + (i : Int)).toNat = i by omega]; exact ht8
        clear hIr
        k_steps
        exact EltInt.intro (by k_asm) (by k_asm) (by walk_at "nt_sub") rfl
      case fin =>
        intro g' ys hys
        rw [hlF] at hys
        unfold LCg.FinE
        intro D h8 tk8 F8 N8 off8
        simp only [LCg.Off1] at off8
        k_sweep
        (try k_unfold)
        (try simp only [List.cons_append, List.nil_append])
        (try dsimp only)
        k_steps
        rename Fr _ _ _ _ => F9'
        rename News _ _ _ _ => N9'
        have hyl : ys.length = (2 * H + 2) / 3 := by rw [hys.length]; simp
        have hH : Halt (IntsAre ys ((List.range ((2 * H + 2) / 3)).map fun j => third (fun y => f i y) H j)) := hys
        clear hys
        unfold Halt
        refine nt_compIntsL (vs := rvs0) (k := k0) (fun j => f i j) rfl F9' N9' (by walk_at "nt_in") (by omega) ?elt2 ?fin2
        case elt2 =>
          intro g' j v' ys I oI C oC D m₂ h8 tk8 E' hj hv hC hx F8 N8
          simp only [List.cons_append, List.nil_append, List.append_assoc] at N8
          k_sweep
          k_fold
          obtain ⟨v6, hv6, ra, vsr, kr, rfl, mr, hIr⟩ := hS0.2 j (by omega)
          rw [hv] at hv6
          obtain rfl := Option.some.inj hv6
          obtain ⟨t8, ht8⟩ := hIr.get i _ (rowOf_get hi)
          have e8 : vsr[(0 + (i : Int)).toNat]? = some (.int (f i j) t8) := by rw [show (0 + (i : Int)).toNat = i by omega]; exact ht8
          clear hIr
          k_steps
          exact EltInt.intro (by k_asm) (by k_asm) (by walk_at "nt_sub") rfl
        case fin2 =>
          intro g' zs hzs
          rw [hlP] at hzs
          unfold LCg.FinE
          intro D2 h9' tk9' F10 N10 off9
          simp only [LCg.Off1] at off9
          k_sweep
          (try k_unfold)
          (try simp only [List.cons_append, List.nil_append])
          (try dsimp only)
          have hZ : IntsL [(D2, LCg.lst zs)] (.ref D2) ((List.range H).map fun j => f i j) := ⟨D2, zs, zs.length, rfl, List.mem_cons_self, hzs⟩
          clear hzs
          have hys : IntsAre ys ((List.range ((2 * H + 2) / 3)).map (third (fun y => f i y) H)) := hH
          k_steps
          rename News _ _ _ _ => Nz
          rename Fr _ _ _ _ => Fz
          unfold TurnPostX
          exact TurnEndX.intro oy [] Fz Nz (by walk_at "nt_sub") (by walk_at "nt_ps") Ap.nil ⟨⟨_, dy⟩, rfl⟩
    case done2 =>
      rintro oc tl u2 h6 tk6 ⟨⟨q, dq⟩, rfl⟩ ho hap F6 N6
      simp only [List.cons_append, List.nil_append, List.append_assoc] at N6
      k_sweep
      (try k_unfold)
      (try simp only [List.cons_append, List.nil_append])
      (try dsimp only)
      k_steps
      rename News _ _ _ _ => Nz
      rename Fr _ _ _ _ => Fz
      exact hret _ [] _ _ Fz (newsSub Nz (fun p hp => .tail _ (hsn2 p (hsn p hp)))) (fun _ h => nomatch h) ⟨rfl, rfl⟩
theorem words_27 : True := by
  k_with "call ref" => (k_here; (with_reducible show wpAny _ _ (call (Value.ref 255) [_]) _ _ _); k_dflt (refine' Ctr.use (c_ratioright _ _ _ _ _ ?p1 ?p2) ?B ?F ?X ?N ?T ?hk (Split.nil _) ?P ?hd ?hu ?_; walk_at "nt_args"; (case P => walk_at "nt_plane"); (case p1 => omega); (case p2 => omega); walk_at "nt_true"))
  exact True.intro
open PySem.Calls PySem.Spec PyProof.V PySem.SeqAt in
theorem readsRows {h₀ h : Heap} {L : Addr} {led : Led} (N : News h₀ L h led) : ∀ (rvs : List Value) (nss : List (List Int)), rvs.length = nss.length → (∀ (j : Nat) v ns, rvs[j]? = some v → nss[j]? = some ns → IntsL led v ns) → ∃ as, ReadsAll h rvs (nss.map fun ns => PyData.list (ns.map PyData.int)) as
  | [], [], _, _ => ⟨[], .nil⟩
  | v :: r, ns :: q, hl, hR => by
    obtain ⟨as, ha⟩ := readsRows N r q (by simpa using hl) (fun j v ns h1 h2 => hR (j + 1) v ns (by simpa using h1) (by simpa using h2))
    obtain ⟨a, vs, k, rfl, hm, hi⟩ := hR 0 v ns rfl rfl
    exact ⟨_, ReadsAll.cons (reads_of_ints ⟨_, (N _ hm).1, rfl, k, rfl⟩ hi) ha⟩
  | [], _ :: _, hl, _ => by simp at hl
  | _ :: _, [], hl, _ => by simp at hl
theorem canRows : ∀ nss : List (List Int), PyData.canLayAll0 (nss.map fun ns => PyData.list (ns.map PyData.int)) = true
  | [] => by simp [PyData.canLayAll0]
  | ns :: r => by simp [PyData.canLayAll0, PyData.canLay0, canLayAll0_ints ns, canRows r]
theorem depthRows : ∀ nss : List (List Int), PyData.depthAll (nss.map fun ns => PyData.list (ns.map PyData.int)) ≤ 2
  | [] => by simp [PyData.depthAll]
  | ns :: r => by
    have h1 := depthRows r
    have h2 := PySem.W.depthAll_ints ns
    simp only [List.map_cons, PyData.depthAll, PyData.depth]
    omega
open PySem.Calls PySem.Spec PyProof.V PySem.SeqAt in
theorem noMixRows : ∀ nss : List (List Int), noMixAll (nss.map fun ns => PyData.list (ns.map PyData.int)) (nss.map fun ns => PyData.list (ns.map PyData.int)) = true
  | [] => by simp [noMixAll]
  | ns :: r => by simp [noMixAll, noMix, noMix_ints ns ns, noMixRows r]
open PySem.Calls PySem.Spec PyProof.V PySem.SeqAt in
theorem shapedRows (nss : List (List Int)) : shaped (.list (nss.map fun ns => PyData.list (ns.map PyData.int))) = true := by
  have h1 := depthRows nss
  have h2 : PyData.depth (.list (nss.map fun ns => PyData.list (ns.map PyData.int))) ≤ 64 := by simp only [PyData.depth]; omega
  show (PyData.canLay0 (.list (nss.map fun ns => PyData.list (ns.map PyData.int))) && decide (PyData.depth (.list (nss.map fun ns => PyData.list (ns.map PyData.int))) ≤ 64)) = true
  rw [Bool.and_eq_true]
  exact ⟨by simp only [PyData.canLay0]; exact canRows nss, decide_eq_true h2⟩
theorem RowsL.nss {led : Led} {rvs : List Value} {W H : Nat} {f : Nat → Nat → Int} (h : RowsL led rvs W H f) : rvs.length = ((List.range H).map (rowOf W f)).length ∧ ∀ (j : Nat) v ns, rvs[j]? = some v → ((List.range H).map (rowOf W f))[j]? = some ns → IntsL led v ns := by
  refine ⟨by rw [h.1]; simp, fun j v ns h1 h2 => ?_⟩
  have hj : j < H := by rw [← h.1]; exact (List.getElem?_eq_some_iff.mp h1).1
  obtain ⟨u, hu, hi⟩ := h.2 j hj
  rw [h1] at hu
  obtain rfl := Option.some.inj hu
  rw [List.getElem?_map, List.getElem?_range hj] at h2
  obtain rfl := Option.some.inj h2
  exact hi
open PySem.Calls PySem.Spec PyProof.V PySem.SeqAt in
/-- two lists of rows of the same ints are not unequal -/
theorem neRows {prog : Program} {w : World} {A : Around} {E : Value → Shared → Prop} {s : Shared} {h₀ : Heap} {L a b : Addr} {news : Led} {vs us : List Value} {k1 k2 W H : Nat} {f : Nat → Nat → Int} {Q : Value → Shared → Prop} (N : News h₀ L s.heap news) (m1 : (a, listOf vs.toArray k1) ∈ news) (i1 : RowsL news vs W H f) (m2 : (b, listOf us.toArray k2) ∈ news) (i2 : RowsL news us W H f)
    (hu : A.units + 64 < cLine) (h : ∀ tk, Q (.bool false) { s with toks := tk }) : wpAny (model prog w) A (compareOp .NotEq (.ref a) (.ref b)) Q E s := by
  obtain ⟨as, ha⟩ := readsRows N vs _ i1.nss.1 i1.nss.2
  obtain ⟨bs, hb⟩ := readsRows N us _ i2.nss.1 i2.nss.2
  refine ne_dataH_same (Reads.list (N _ m1).1 rfl rfl ha) (Reads.list (N _ m2).1 rfl rfl hb) (shapedRows _) (shapedRows _) hu (by simp only [noMix]; exact noMixRows _) ?_
  rw [same_refl]
  exact h _
theorem fdq {i n : Nat} {a : Int} (ha : 0 < a) {W' : Nat} (e : (n : Int) * a = W') (h : i < W') : 0 ≤ (i : Int).fdiv a ∧ (i : Int).fdiv a < n := by
  rw [Int.fdiv_eq_ediv_of_nonneg _ (by omega)]
  exact ⟨Int.ediv_nonneg (by omega) (by omega), Int.ediv_lt_of_lt_mul ha (by omega)⟩
/-- the plane grown by repeating -/
noncomputable def rep (f : Nat → Nat → Int) (a d : Int) (i j : Nat) : Int := f ((i : Int).fdiv a).toNat ((j : Int).fdiv d).toNat
theorem rep_eq (f : Nat → Nat → Int) {W H W' H' i j : Nat} {a d : Int} (ha : 0 < a) (hd : 0 < d) (eW : (W : Int) * a = W') (eH : (H : Int) * d = H') (hi : i < W') (hj : j < H') : pix f W H (((i : Int) * 1).fdiv a) (((j : Int) * 1).fdiv d) = rep f a d i j := by
  obtain ⟨h1, h2⟩ := fdq ha eW hi
  obtain ⟨h3, h4⟩ := fdq hd eH hj
  unfold pix rep
  rw [Int.mul_one, Int.mul_one, kp_in h1 h2, kp_in h3 h4]
theorem boxConst' (g : Nat → Nat → Int) (c : Int) (a d : Nat) (h : ∀ t s, t < a → s < d → g t s = c) : boxSum g a d = c * ((a : Int) * d) := by
  rw [← boxConst]
  unfold boxSum
  congr 1
  refine List.map_congr_left fun s hs => ?_
  congr 1
  exact List.map_congr_left fun t ht => h t s (List.mem_range.mp ht) (List.mem_range.mp hs)
theorem shrinkRep (f : Nat → Nat → Int) {W H W' H' i j : Nat} {a d : Int} (ha : 0 < a) (hd : 0 < d) (eW : (W : Int) * a = W') (eH : (H : Int) * d = H') (hi : i < W) (hj : j < H) : meanV (pix (rep f a d) W' H') i j a d = f i j := by
  have key : ∀ {n N i t : Nat} {a : Int}, 0 < a → (n : Int) * a = N → i < n → t < a.toNat → 0 ≤ (i : Int) * a + t ∧ (i : Int) * a + t < N ∧ (((((i : Int) * a + t).toNat : Nat) : Int)).fdiv a = i := by
    intro n N i t a ha e hi ht
    have h0 : 0 ≤ (i : Int) * a := Int.mul_nonneg (by omega) (by omega)
    have h1 : ((i : Int) + 1) * a ≤ (n : Int) * a := Int.mul_le_mul_of_nonneg_right (by omega) (by omega)
    rw [Int.add_mul, Int.one_mul] at h1
    refine ⟨by omega, by omega, ?_⟩
    rw [Int.toNat_of_nonneg (by omega), Int.fdiv_eq_ediv_of_nonneg _ (by omega), Int.add_comm, Int.add_mul_ediv_right _ _ (by omega), Int.ediv_eq_zero_of_lt (by omega) (by omega), Int.zero_add]
  unfold meanV
  have hb := bias_lt (x := (i : Int)) ha hd
  rw [boxConst' _ (f i j) a.toNat d.toNat ?_, Int.toNat_of_nonneg (by omega), Int.toNat_of_nonneg (by omega)]
  · exact constDivB _ _ _ (Int.mul_pos ha hd) hb.1 hb.2
  · intro t s ht hs
    obtain ⟨x1, x2, x3⟩ := key ha eW hi ht
    obtain ⟨y1, y2, y3⟩ := key hd eH hj hs
    unfold pix rep
    rw [kp_in x1 x2, kp_in y1 y2, x3, y3, Int.toNat_natCast, Int.toNat_natCast]
theorem cdMul {n N : Nat} {a : Int} (ha : 0 < a) (hn : 0 < n) (e : (n : Int) * a = N) : cd N a = n := by
  have h := cd_eq (n := N) ha
  rw [Int.fdiv_eq_ediv_of_nonneg _ (by omega), ← e, Int.mul_one] at h
  have h2 : ((n : Int) * a + a - 1) / a = n := by
    rw [show (n : Int) * a + a - 1 = (a - 1) + n * a by omega, Int.add_mul_ediv_right _ _ (by omega), Int.ediv_eq_zero_of_lt (by omega) (by omega), Int.zero_add]
  omega
noncomputable def nb (n i : Nat) : Nat := if i % 2 = 0 then (if 0 < i / 2 then i / 2 - 1 else i / 2) else (if i / 2 + 1 < n then i / 2 + 1 else i / 2)
theorem two_div {n : Nat} {i q : Nat} (h : i < 2 * n) (e : i = 2 * q ∨ i = 2 * q + 1) : q < n ∧ (i : Int).fdiv 2 = q ∧ i / 2 = q := by
  refine ⟨by omega, ?_, by omega⟩
  rw [Int.fdiv_eq_ediv_of_nonneg _ (by omega)]
  omega
theorem halves (i : Nat) : ∃ q, i = 2 * q ∨ i = 2 * q + 1 := ⟨i / 2, by omega⟩
theorem kp_pred {q n : Nat} (h : q < n) : (kp ((q : Int) - 1) n).toNat = if 0 < q then q - 1 else q := by
  unfold kp
  split
  · rw [if_neg (by omega)]; exact (show 0 = q by omega)
  · rw [if_pos (by omega), if_pos (by omega)]; omega
theorem kp_suc {q n : Nat} (h : q < n) : (kp ((q : Int) + 1) n).toNat = if q + 1 < n then q + 1 else q := by
  unfold kp
  rw [if_neg (by omega)]
  split
  · rw [if_pos (by omega)]; rfl
  · rw [if_neg (by omega)]; omega
theorem nb_kp {n i : Nat} (h : i < 2 * n) : (kp ((i : Int).fdiv 2 - 1 + 2 * (i : Int).fmod 2) n).toNat = nb n i := by
  obtain ⟨q, e⟩ := halves i
  obtain ⟨hq, e1, e2⟩ := two_div h e
  unfold nb
  rw [e1, e2, Int.fmod_eq_emod_of_nonneg _ (by omega)]
  rcases e with rfl | rfl
  · rw [show ((2 * q : Nat) : Int) % 2 = 0 by omega, if_pos (Nat.mul_mod_right 2 q), Int.mul_zero, Int.add_zero]
    exact kp_pred hq
  · rw [show ((2 * q + 1 : Nat) : Int) % 2 = 1 by omega, if_neg (by omega), show (q : Int) - 1 + 2 * 1 = q + 1 by omega]
    exact kp_suc hq
theorem half_kp {n i : Nat} (h : i < 2 * n) : (kp ((i : Int).fdiv 2) n).toNat = i / 2 := by
  rw [Int.fdiv_eq_ediv_of_nonneg _ (by omega)]
  unfold kp
  (repeat' split) <;> omega
theorem self_kp {n i : Nat} (h : i < n) : (kp (i : Int) n).toNat = i := by
  rw [kp_in (by omega) (by omega)]
  exact Int.toNat_natCast i
theorem far_nb {n i : Nat} (h : i < 2 * n) : (farF (i : Int) n).toNat = nb n i := by
  obtain ⟨q, e⟩ := halves i
  obtain ⟨hq, e1, e2⟩ := two_div h e
  unfold farF nb
  rw [e1, e2, Int.fmod_eq_emod_of_nonneg _ (by omega)]
  rcases e with rfl | rfl
  · rw [show ((2 * q : Nat) : Int) % 2 = 0 by omega, if_pos rfl, if_pos (Nat.mul_mod_right 2 q)]
    split
    · rw [if_neg (by omega)]; exact Int.toNat_natCast q
    · rw [if_pos (by omega)]; omega
  · rw [show ((2 * q + 1 : Nat) : Int) % 2 = 1 by omega, if_neg (show ¬ (1 : Int) = 0 by decide), if_neg (show ¬ (2 * q + 1) % 2 = 0 by omega)]
    split
    · rw [if_neg (by omega)]; exact Int.toNat_natCast q
    · rw [if_pos (by omega)]; rfl
theorem dbl_nb (g : Nat → Int) (n : Nat) (sc l r : Int) (i : Nat) : dbl g n sc l r i = (3 * g (i / 2) + g (nb n i) + (if i % 2 = 0 then l else r)).fdiv (4 * sc) := by
  unfold dbl nb
  split <;> (congr 2; congr 1; split <;> rfl)
theorem softS_nb (f : Nat → Nat → Int) {H j : Nat} (h : j < 2 * H) (i : Nat) : softS f H j i = 3 * f i (j / 2) + f i (nb H j) := by
  unfold softS
  rw [far_nb h]
  rw [show ((j : Int).fdiv 2).toNat = j / 2 by rw [Int.fdiv_eq_ediv_of_nonneg _ (by omega)]; omega]
theorem fdiv4 (S c : Int) (h0 : 1 ≤ c) (h1 : c ≤ 2) : -8 ≤ 16 * (S + c).fdiv 4 - 4 * S ∧ 16 * (S + c).fdiv 4 - 4 * S ≤ 8 := by
  rw [Int.fdiv_eq_ediv_of_nonneg _ (by omega)]
  omega
theorem fdiv16 (S c : Int) (h0 : 7 ≤ c) (h1 : c ≤ 8) : -8 ≤ 16 * (S + c).fdiv 16 - S ∧ 16 * (S + c).fdiv 16 - S ≤ 8 := by
  rw [Int.fdiv_eq_ediv_of_nonneg _ (by omega)]
  omega
theorem soft21 (f : Nat → Nat → Int) {W H i j : Nat} (hi : i < 2 * W) (hj : j < H) : -8 ≤ 16 * soft f W H 2 1 i j - softV (pix f W H) i j 2 1 ∧ 16 * soft f W H 2 1 i j - softV (pix f W H) i j 2 1 ≤ 8 := by
  have e : softV (pix f W H) i j 2 1 = 4 * (3 * f (i / 2) j + f (nb W i) j) := by
    unfold softV prs
    simp only [if_true, show ((2 : Int) = 1) = False by simp, if_false, List.map_cons, List.map_nil, List.sum_cons, List.sum_nil]
    unfold pix
    rw [half_kp hi, nb_kp hi, self_kp hj]
    omega
  have e2 : soft f W H 2 1 i j = (3 * f (i / 2) j + f (nb W i) j + (if i % 2 = 0 then 1 else 2)).fdiv 4 := by
    unfold soft
    rw [if_pos rfl, dbl_nb]
    rfl
  rw [e, e2]
  exact fdiv4 _ _ (by split <;> omega) (by split <;> omega)
theorem soft12 (f : Nat → Nat → Int) {W H i j : Nat} (hi : i < W) (hj : j < 2 * H) : -8 ≤ 16 * soft f W H 1 2 i j - softV (pix f W H) i j 1 2 ∧ 16 * soft f W H 1 2 i j - softV (pix f W H) i j 1 2 ≤ 8 := by
  have e : softV (pix f W H) i j 1 2 = 4 * (3 * f i (j / 2) + f i (nb H j)) := by
    unfold softV prs
    simp only [if_true, show ((2 : Int) = 1) = False by simp, if_false, List.map_cons, List.map_nil, List.sum_cons, List.sum_nil]
    unfold pix
    rw [half_kp hj, nb_kp hj, self_kp hi]
    omega
  have e2 : soft f W H 1 2 i j = (3 * f i (j / 2) + f i (nb H j) + (1 + (j : Int).fmod 2)).fdiv 4 := by
    unfold soft
    rw [if_neg (by decide), if_pos rfl, softS_nb f hj, Int.add_assoc]
  have e3 : (j : Int).fmod 2 = (j : Int) % 2 := Int.fmod_eq_emod_of_nonneg _ (by omega)
  rw [e, e2, e3]
  exact fdiv4 _ _ (by omega) (by omega)
theorem soft22 (f : Nat → Nat → Int) {W H i j : Nat} (hi : i < 2 * W) (hj : j < 2 * H) : -8 ≤ 16 * soft f W H 2 2 i j - softV (pix f W H) i j 2 2 ∧ 16 * soft f W H 2 2 i j - softV (pix f W H) i j 2 2 ≤ 8 := by
  have e : softV (pix f W H) i j 2 2 = 3 * (3 * f (i / 2) (j / 2) + f (i / 2) (nb H j)) + (3 * f (nb W i) (j / 2) + f (nb W i) (nb H j)) := by
    unfold softV prs
    simp only [show ((2 : Int) = 1) = False by simp, if_false, List.map_cons, List.map_nil, List.sum_cons, List.sum_nil]
    unfold pix
    rw [half_kp hi, nb_kp hi, half_kp hj, nb_kp hj]
    omega
  have e2 : soft f W H 2 2 i j = (3 * (3 * f (i / 2) (j / 2) + f (i / 2) (nb H j)) + (3 * f (nb W i) (j / 2) + f (nb W i) (nb H j)) + (if i % 2 = 0 then 8 else 7)).fdiv 16 := by
    unfold soft
    rw [if_neg (by decide), if_neg (by decide), dbl_nb, softS_nb f hj, softS_nb f hj]
    rfl
  rw [e, e2]
  exact fdiv16 _ _ (by split <;> omega) (by split <;> omega)
theorem soft11 (f : Nat → Nat → Int) {W H i j : Nat} (hi : i < W) (hj : j < H) : softV (pix f W H) i j 1 1 = 16 * f i j := by
  unfold softV prs
  simp only [if_true, List.map_cons, List.map_nil, List.sum_cons, List.sum_nil]
  unfold pix
  rw [self_kp hi, self_kp hj]
  omega
theorem c_gF (w : World) (v : Value) (W H : Nat) (f : Nat → Nat → Int) (a1 : Int) (ta : Tok) (dw : Int) (td : Tok) (w1 : Int) (tw' : Tok) (h1' : Int) (th' : Tok) (W' H' : Nat) (ew : w1 = W') (eh : h1' = H') (eW : (W : Int) * a1 = W') (eH : (H : Int) * dw = H') (ha : 1 ≤ a1) (ha' : a1 ≤ 3) (hd1 : 1 ≤ dw) (hd1' : dw ≤ 3) (hw : 0 < W') (hw' : W' ≤ 100) (hh : 0 < H') (hh' : H' ≤ 100) :
    Ctr w 4 159 [v, .int a1 ta, .int dw td, .int w1 tw', .int h1' th', .bool false] (fun news => PlaneL w.params news v W H f) (fun tl r => PlaneL w.params tl r W' H' (rep f a1 dw)) := by
  refine Ctr.mono (c_grownR w v W H f a1 ta dw td w1 tw' h1' th' false W' H' ew eh ha ha' hd1 hd1' hw hw' hh hh' (fun q => Bool.noConfusion q.1)) (Nat.le_refl _) (fun _ h => h) ?_
  intro l r hP
  exact hP.congr fun i j hi hj => rep_eq f (by omega) (by omega) eW eH hi hj
theorem int12 {a : Int} (h : 1 ≤ a) (h' : a ≤ 2) : a = 1 ∨ a = 2 := by omega
theorem c_gT (w : World) (v : Value) (W H : Nat) (f : Nat → Nat → Int) (a1 : Int) (ta : Tok) (dw : Int) (td : Tok) (w1 : Int) (tw' : Tok) (h1' : Int) (th' : Tok) (W' H' : Nat) (ew : w1 = W') (eh : h1' = H') (eW : (W : Int) * a1 = W') (eH : (H : Int) * dw = H') (ha : 1 ≤ a1) (ha' : a1 ≤ 2) (hd1 : 1 ≤ dw) (hd1' : dw ≤ 2) (hw : 0 < W') (hw' : W' ≤ 100) (hh : 0 < H') (hh' : H' ≤ 100) :
    Ctr w 6 159 [v, .int a1 ta, .int dw td, .int w1 tw', .int h1' th', .bool true] (fun news => PlaneL w.params news v W H f)
      (fun tl r => ∃ S, PlaneL w.params tl r W' H' S ∧ ∀ i j, i < W' → j < H' → -8 ≤ 16 * S i j - softV (pix f W H) i j a1 dw ∧ 16 * S i j - softV (pix f W H) i j a1 dw ≤ 8) := by
  by_cases h11 : a1 = 1 ∧ dw = 1
  · obtain ⟨rfl, rfl⟩ := h11
    refine Ctr.mono (c_grownR w v W H f 1 ta 1 td w1 tw' h1' th' true W' H' ew eh ha (by omega) hd1 (by omega) hw hw' hh hh' (by omega)) (by omega) (fun _ h => h) ?_
    intro l r hP
    refine ⟨_, hP, fun i j hi hj => ?_⟩
    rw [soft11 f (by omega) (by omega), rep_eq f (by omega) (by omega) eW eH hi hj]
    have e : rep f 1 1 i j = f i j := by
      unfold rep
      rw [Int.fdiv_eq_ediv_of_nonneg _ (by omega), Int.fdiv_eq_ediv_of_nonneg _ (by omega), Int.ediv_one, Int.ediv_one, Int.toNat_natCast, Int.toNat_natCast]
    rw [e]
    omega
  · refine Ctr.mono (c_grownS w v W H f a1 ta dw td w1 tw' h1' th' W' H' W' H' ew eh (int12 ha (by omega)) (int12 hd1 (by omega)) h11 eW eH hw' hh' hw hw' hh hh') (Nat.le_refl _) (fun _ h => h) ?_
    intro l r hP
    refine ⟨_, hP, fun i j hi hj => ?_⟩
    have e : pix (soft f W H a1 dw) W' H' (0 + (i : Int)) (0 + (j : Int)) = soft f W H a1 dw i j := by
      unfold pix
      rw [Int.zero_add, Int.zero_add, self_kp hi, self_kp hj]
    rw [e]
    have hc : (a1 = 1 ∧ dw = 2) ∨ (a1 = 2 ∧ dw = 1) ∨ (a1 = 2 ∧ dw = 2) := by
      rcases int12 ha (by omega) with e1 | e1 <;> rcases int12 hd1 (by omega) with e2 | e2
      · exact absurd ⟨e1, e2⟩ h11
      · exact .inl ⟨e1, e2⟩
      · exact .inr (.inl ⟨e1, e2⟩)
      · exact .inr (.inr ⟨e1, e2⟩)
    rcases hc with ⟨rfl, rfl⟩ | ⟨rfl, rfl⟩ | ⟨rfl, rfl⟩
    · exact soft12 f (by omega) (by omega)
    · exact soft21 f (by omega) (by omega)
    · exact soft22 f (by omega) (by omega)
theorem words_28 : True := by
  k_with "call ref" => (k_here; (with_reducible show wpAny _ _ (call (Value.ref 159) [_, Value.int _ _, Value.int _ _, Value.int _ _, Value.int _ _, Value.bool false]) _ _ _); k_dflt (refine' Ctr.use (c_gF _ _ _ _ _ _ _ _ _ _ _ _ _ _ _ ?ew ?eh ?eW ?eH ?p1 ?p2 ?p3 ?p4 ?p5 ?p6 ?p7 ?p8) ?B ?F ?X ?N ?T ?hk ?S ?P ?hd ?hu ?_; (case ew => assumption); (case eh => assumption); walk_at "nt_args"; (case P => walk_at "nt_plane"); (case eW => assumption); (case eH => assumption); (case p1 => omega); (case p2 => omega); (case p3 => omega); (case p4 => omega); (case p5 => omega); (case p6 => omega); (case p7 => omega); (case p8 => omega); (case S => walk_at "nt_split"); walk_at "nt_planeRes"))
  k_with "nt_softRes" => (intro r9 tl9 h9 tk9 F9 N9 o9 a9 e9; obtain ⟨S9, e9, sb9⟩ := e9; have e8 := e9; obtain ⟨pa9, pd9, pr9, rvs9, k9, t19, t29, t39, tw9, th9, eq9, m19, m29, m39, R9, b19, b29, b39, b49⟩ := e8; subst eq9; simp only [List.nil_append, List.cons_append, List.append_assoc] at N9; (try simp only [List.map_cons, List.map_nil] at o9); (try dsimp only); (try k_sweep); (try k_fold))
  k_with "call ref" => (k_here; (with_reducible show wpAny _ _ (call (Value.ref 159) [_, Value.int _ _, Value.int _ _, Value.int _ _, Value.int _ _, Value.bool true]) _ _ _); k_dflt (refine' Ctr.use (c_gT _ _ _ _ _ _ _ _ _ _ _ _ _ _ _ ?ew ?eh ?eW ?eH ?p1 ?p2 ?p3 ?p4 ?p5 ?p6 ?p7 ?p8) ?B ?F ?X ?N ?T ?hk ?S ?P ?hd ?hu ?_; (case ew => assumption); (case eh => assumption); walk_at "nt_args"; (case P => walk_at "nt_plane"); (case eW => assumption); (case eH => assumption); (case p1 => omega); (case p2 => omega); (case p3 => omega); (case p4 => omega); (case p5 => omega); (case p6 => omega); (case p7 => omega); (case p8 => omega); (case S => walk_at "nt_split"); walk_at "nt_softRes"))
  exact True.intro
/-- a mark: the walk halts at unequal lists -/
structure HaltNe : Prop where
theorem RowsL.congr {led : Led} {rvs : List Value} {W H : Nat} {f g : Nat → Nat → Int} (h : RowsL led rvs W H f) (e : ∀ i j, i < W → j < H → f i j = g i j) : RowsL led rvs W H g := by
  refine ⟨h.1, fun j hj => ?_⟩
  obtain ⟨u, hu, hi⟩ := h.2 j hj
  have q : rowOf W f j = rowOf W g j := List.map_congr_left fun i hi => e i j (List.mem_range.mp hi) hj
  exact ⟨u, hu, q ▸ hi⟩
theorem words_haltNe : True := by
  k_with "compareOp NotEq ref ref" => ((rename HaltNe => hn9); refine stopIt ?_)
  exact True.intro
set_option maxHeartbeats 8000000 in
theorem c_grownright (w : World) (v : Value) (W H : Nat) (f : Nat → Nat → Int) (a1 : Int) (ta : Tok) (dw : Int) (td : Tok) (hW5 : W ≤ 5) (hH4 : H ≤ 4) (ha : 1 ≤ a1) (ha' : a1 ≤ 3) (hd1 : 1 ≤ dw) (hd1' : dw ≤ 3) :
    Ctr w 8 245 [v, .int a1 ta, .int dw td] (fun news => PlaneL w.params news v W H f) OutT := by
  refine Ctr.of ?_
  intro mean mg mb dp un gd cn cs a ccd cl outer A₀ base h₀ L m news s Q E B F X N T hk hP hd hu hret
  have hPc := hP
  obtain ⟨pa, pd, pr, rvs0, k0, pt1, pt2, pt3, ptw, pth, rfl, m1, m2, m3, hrows0, hW, hW2, hH, hH2⟩ := hPc
  obtain ⟨W', eW⟩ : ∃ W' : Nat, (W : Int) * a1 = W' := ⟨((W : Int) * a1).toNat, (Int.toNat_of_nonneg (Int.mul_nonneg (by omega) (by omega))).symm⟩
  obtain ⟨H', eH⟩ : ∃ H' : Nat, (H : Int) * dw = H' := ⟨((H : Int) * dw).toNat, (Int.toNat_of_nonneg (Int.mul_nonneg (by omega) (by omega))).symm⟩
  have bW0 : 0 < W' := by have := Int.mul_pos (a := (W : Int)) (b := a1) (by omega) (by omega); omega
  have bH0 : 0 < H' := by have := Int.mul_pos (a := (H : Int)) (b := dw) (by omega) (by omega); omega
  have bW1 : W' ≤ 100 := by have := Int.mul_le_mul (a := (W : Int)) (b := a1) (c := 5) (d := 3) (by omega) ha' (by omega) (by omega); omega
  have bH1 : H' ≤ 100 := by have := Int.mul_le_mul (a := (H : Int)) (b := dw) (c := 4) (d := 3) (by omega) hd1' (by omega) (by omega); omega
  walk_at "nt_enterC"
  intro g1 L1 h1 tk1 cells FG F1 N1 Y1 B1 X1 T1 l1
  obtain ⟨o1, o2, o3, o4, ec, d1, d2, d3, d4⟩ := CellsAre.four Y1
  subst ec
  clear Y1
  simp only [List.cons_append, List.nil_append] at N1
  try dsimp only
  k_fold
  replace d1 : o1.data = .cell none := d1
  replace d2 : o2.data = .cell (some (.int dw td)) := d2
  replace d3 : o3.data = .cell (some (.int a1 ta)) := d3
  replace d4 : o4.data = .cell (some (.ref pa)) := d4
  k_steps
  rename IsRange _ _ _ _ _ _ _ _ => R2
  rename Fr _ _ _ _ => F2
  rename News _ _ _ _ => N2
  unfold Halt
  obtain ⟨nw, hsn, hPn, hR0, q1, q2, q3, hE, hR, p1, p2, p3, on, N3⟩ : ∃ nw, (∀ p ∈ news, p ∈ nw) ∧ PlaneL w.params nw (.ref pa) W H f ∧ RowsL nw rvs0 W H f ∧ (pa, instObj 84 pd) ∈ nw ∧ (pd, _) ∈ nw ∧ (pr, listOf rvs0.toArray k0) ∈ nw ∧ PlaneL w.params nw (.ref pa9) W' H' (rep f a1 dw) ∧ RowsL nw rvs9 W' H' (rep f a1 dw) ∧ (pa9, instObj 84 pd9) ∈ nw ∧ (pd9, _) ∈ nw ∧ (pr9, listOf rvs9.toArray k9) ∈ nw ∧ OwnOff nw [L1 + 1 + 1 + 1 + 1] ∧ News g1 L1 _ ((L1 + 1 + 1 + 1 + 1, o1) :: (L1 + 1 + 1 + 1, o2) :: (L1 + 1 + 1, o3) :: (L1 + 1, o4) :: nw) :=
    ⟨tl9 ++ news, fun p hp => List.mem_append_right _ hp, hP.mono fun p hp => List.mem_append_right _ hp, hrows0.mono fun p hp => List.mem_append_right _ hp, List.mem_append_right _ m1, List.mem_append_right _ m2, List.mem_append_right _ m3, e9.mono fun p hp => List.mem_append_left _ hp, R9.mono fun p hp => List.mem_append_left _ hp, List.mem_append_left _ m19, List.mem_append_left _ m29, List.mem_append_left _ m39,
      allApp (fun p hp b hb => o9 p hp b (by rw [List.mem_singleton.mp hb]; exact .tail _ List.mem_cons_self)) (offBelow l1 (by walk_at "nt_les")), newsSub N2 (by walk_at "nt_sub")⟩
  clear N2 hP m1 m2 m3 hrows0 a9 o9 m19 m29 m39 R9 e9
  refine nt_range (n := H') (σ := Obj × Tok × Tok) (fun c => [(L1 + 1 + 1 + 1 + 1, c.1)]) ((L1 + 1 + 1 + 1, o2) :: (L1 + 1 + 1, o3) :: (L1 + 1, o4) :: nw) (fun c => [(Str.ofString "found", .ref pa9), (Str.ofString "width", .int ((W : Int) * a1) c.2.1), (Str.ofString "height", .int ((H : Int) * dw) c.2.2)])
    (fun i c tl => (∃ q, c.1.data = .cell q) ∧ tl = []) [L1 + 1 + 1 + 1 + 1] (o1, _, _) (fun _ _ => rfl) rfl R2 (by omega) (by omega) (by omega) F2 N3 (by walk_at "nt_sub") (fun _ => rfl) (by walk_at "nt_off") (by walk_at "nt_ps") ⟨⟨_, d1⟩, rfl⟩ ?turn ?done
  case turn =>
    rintro i t ⟨oc, tw, th⟩ tl u h tk own hi ⟨⟨q, dq⟩, rfl⟩ ho hap F3 N3
    dsimp only at dq F3 N3 ho
    simp only [List.cons_append, List.nil_append, List.append_assoc] at N3 ho
    k_sweep
    k_fold
    obtain ⟨rv, hrv, ra, vsr, kr, rfl, mr, hIr⟩ := hR.2 i hi
    have hIr' : IntsAre vsr ((List.range W').map fun (j : Nat) => rep f a1 dw j i) := hIr
    have e0 : rvs9[(0 + (i : Int)).toNat]? = some (.ref ra) := by rw [show (0 + (i : Int)).toNat = i by omega]; exact hrv
    have qy := fdq (a := dw) (by omega) eH hi
    obtain ⟨rp, hrp, rpa, rpv, rpk, rfl, mp, hIp⟩ := hR0.2 ((i : Int).fdiv dw).toNat (by omega)
    have e1 : rvs0[((0 + (i : Int)).fdiv dw).toNat]? = some (.ref rpa) := by rw [Int.zero_add]; exact hrp
    have yb : 0 ≤ (0 + (i : Int)).fdiv dw ∧ (0 + (i : Int)).fdiv dw < 1000 := by rw [Int.zero_add]; omega
    have hJp : ∀ x : Nat, x < W → ∃ t, rpv[x]? = some (.int (f x ((i : Int).fdiv dw).toNat) t) := fun x hx => hIp.get x _ (rowOf_get hx)
    clear hIr hIp
    k_steps
    rename Obj => oy
    rename oy.data = Data.cell _ => dy
    rename Fr _ _ _ _ => F4
    rename News _ _ _ _ => N4
    rename IsRange _ _ _ _ _ _ _ _ => R4
    unfold Halt
    refine nt_compInts (n := W') (fun (j : Nat) => rep f a1 dw j i) rfl F4 N4 R4 (by omega) (by omega) (by omega) ?elt ?fin
    case elt =>
      intro g' j t' ys I oI C oC D m₂ h5 tk5 E' hj hC hx F5 N5
      simp only [List.cons_append, List.nil_append, List.append_assoc] at N5
      k_sweep
      k_fold
      have qx := fdq (a := a1) (by omega) eW hj
      obtain ⟨t8, ht8⟩ := hJp ((j : Int).fdiv a1).toNat (by omega)
      have e8 : rpv[((0 + (j : Int)).fdiv a1).toNat]? = some (.int (rep f a1 dw j i) t8) := by rw [Int.zero_add]; exact ht8
      have xb : 0 ≤ (0 + (j : Int)).fdiv a1 ∧ (0 + (j : Int)).fdiv a1 < 1000 := by rw [Int.zero_add]; omega
      k_steps
      exact EltInt.intro (by k_asm) (by k_asm) (by walk_at "nt_sub") rfl
    case fin =>
      intro g' ys hys
      unfold LCg.FinE
      intro D h5 tk5 F5 N5 off5
      simp only [LCg.Off1] at off5
      k_sweep
      (try k_unfold)
      (try simp only [List.cons_append, List.nil_append])
      (try dsimp only)
      k_steps
      rename News _ _ _ _ => Nz
      rename Fr _ _ _ _ => Fz
      unfold TurnPostX
      exact TurnEndX.intro (oy, tw, th) [] Fz Nz (by walk_at "nt_sub") (by walk_at "nt_ps") Ap.nil ⟨⟨_, dy⟩, rfl⟩
  case done =>
    rintro ⟨oc, tw, th⟩ tl u h tk ⟨⟨q, dq⟩, rfl⟩ ho hap F3 N3
    dsimp only at dq F3 N3
    simp only [List.cons_append, List.nil_append, List.append_assoc] at N3
    k_sweep
    (try k_unfold)
    (try simp only [List.cons_append, List.nil_append])
    (try dsimp only)
    have hne : HaltNe := ⟨⟩
    k_steps
    unfold Halt
    rename Fr _ _ _ _ => F4
    rename News _ _ _ _ => N4
    have cW := cdMul (n := W) (N := W') (a := a1) (by omega) hW eW
    have cH := cdMul (n := H) (N := H') (a := dw) (by omega) hH eH
    have e9' : PlaneL w.params tl9 (.ref pa9) W H f := by
      rw [cW, cH] at e9
      exact e9.congr fun i j hi hj => shrinkRep f (by omega) (by omega) eW eH hi hj
    have hS9 : RowsL tl9 rvs9 W H f := by
      rw [cW, cH] at R9
      exact R9.congr fun i j hi hj => shrinkRep f (by omega) (by omega) eW eH hi hj
    refine neRows N4 (by walk_at "nt_in") (hS9.mono (by walk_at "nt_sub")) (by walk_at "nt_in") (hR0.mono (by walk_at "nt_sub")) (by walk_at "nt_room") fun tk9 => ?_
    clear hn9 R9 e9 hS9 e9'
    dsimp only
    obtain ⟨tlo, etlo⟩ : ∃ l, l = tl9 := ⟨_, rfl⟩
    subst etlo
    have otlo := o9
    clear a9 o9 m19 m29 m39
    k_steps
    · rename News _ _ _ _ => Nz
      rename Fr _ _ _ _ => Fz
      exact hret _ [] _ _ Fz (newsSub Nz (fun p hp => by have := hsn p hp; simp only [List.mem_cons, List.mem_append]; grind)) (fun _ h => nomatch h) ⟨rfl, rfl⟩
    · rename News _ _ _ _ => Nz
      rename Fr _ _ _ _ => Fz
      exact hret _ [] _ _ Fz (newsSub Nz (fun p hp => by have := hsn p hp; simp only [List.mem_cons, List.mem_append]; grind)) (fun _ h => nomatch h) ⟨rfl, rfl⟩
    · rename IsRange _ _ _ _ _ _ _ _ => R5
      rename Fr _ _ _ _ => F5
      rename News _ _ _ _ => N5
      unfold Halt
      obtain ⟨nw2, hsn2, hPn2, hS, y1, y2, y3, on2, N6⟩ : ∃ nw2, (∀ p ∈ news, p ∈ nw2) ∧ PlaneL w.params nw2 (.ref pa) W H f ∧ RowsL nw2 rvs9 W' H' S9 ∧ (pa9, instObj 84 pd9) ∈ nw2 ∧ (pd9, _) ∈ nw2 ∧ (pr9, listOf rvs9.toArray k9) ∈ nw2 ∧ OwnOff nw2 [L1 + 1 + 1 + 1 + 1] ∧ News g1 L1 _ ((L1 + 1 + 1 + 1 + 1, oc) :: (L1 + 1 + 1 + 1, o2) :: (L1 + 1 + 1, o3) :: (L1 + 1, o4) :: nw2) :=
        ⟨tl9 ++ (tlo ++ nw), fun p hp => List.mem_append_right _ (List.mem_append_right _ (hsn p hp)), hPn.mono fun p hp => List.mem_append_right _ (List.mem_append_right _ hp), R9.mono fun p hp => List.mem_append_left _ hp, List.mem_append_left _ m19, List.mem_append_left _ m29, List.mem_append_left _ m39,
          allApp (fun p hp b hb => o9 p hp b (by rw [List.mem_singleton.mp hb]; exact List.mem_cons_self)) (allApp (fun p hp b hb => otlo p hp b (by rw [List.mem_singleton.mp hb]; exact List.mem_cons_self)) on), newsSub N5 (by walk_at "nt_sub")⟩
      clear N5 hPn hE hR hR0 a9 o9 m19 m29 m39 R9 e9 on otlo q1 q2 q3 p1 p2 p3
      refine nt_range (n := H') (σ := Obj) (fun c => [(L1 + 1 + 1 + 1 + 1, c)]) ((L1 + 1 + 1 + 1, o2) :: (L1 + 1 + 1, o3) :: (L1 + 1, o4) :: nw2) (fun _ => [(Str.ofString "soft", .ref pa9), (Str.ofString "width", .int ((W : Int) * a1) tw)])
        (fun i c tl => (∃ q, c.data = .cell q) ∧ tl = []) [L1 + 1 + 1 + 1 + 1] oc (fun _ _ => rfl) rfl R5 (by omega) (by omega) (by omega) F5 N6 (by walk_at "nt_sub") (fun _ => rfl) (by walk_at "nt_off") (by walk_at "nt_ps") ⟨⟨_, dq⟩, rfl⟩ ?turn3 ?done3
      case turn3 =>
        rintro i t od tl u2 h6 tk6 own hi ⟨⟨q', dq'⟩, rfl⟩ ho hap F7 N7
        simp only [List.cons_append, List.nil_append, List.append_assoc] at N7 ho
        k_sweep
        k_fold
        obtain ⟨rv, hrv, ra, vsr, kr, rfl, mr, hIr⟩ := hS.2 i hi
        have e0 : rvs9[(0 + (i : Int)).toNat]? = some (.ref ra) := by rw [show (0 + (i : Int)).toNat = i by omega]; exact hrv
        have hJr : ∀ x : Nat, x < W' → ∃ t, vsr[x]? = some (.int (S9 x i) t) := fun x hx => hIr.get x _ (rowOf_get hx)
        clear hIr
        k_steps
        rename Obj => oy
        rename oy.data = Data.cell _ => dy
        rename Fr _ _ _ _ => F8
        rename News _ _ _ _ => N8
        rename IsRange _ _ _ _ _ _ _ _ => R8
        unfold Halt
        refine nt_range (n := W') (σ := Unit) (fun _ => []) ((L1 + 1 + 1 + 1 + 1, oy) :: (L1 + 1 + 1 + 1, o2) :: (L1 + 1 + 1, o3) :: (L1 + 1, o4) :: (nw2 ++ own)) (fun _ => [(Str.ofString "soft", .ref pa9), (Str.ofString "width", .int ((W : Int) * a1) tw)])
          (fun i c tl => tl = []) [] () (fun _ _ => rfl) rfl R8 (by omega) (by omega) (by omega) F8 N8 (by walk_at "nt_sub") (fun _ => rfl) offNone (by walk_at "nt_ps") rfl ?turn4 ?done4
        case turn4 =>
          rintro j t4 _ tl u4 h8 tk8 own4 hj rfl ho4 hap4 F9 N9
          simp only [List.cons_append, List.nil_append, List.append_assoc] at N9
          clear ho4 hap4
          k_sweep
          k_fold
          obtain ⟨t8, ht8⟩ := hJr j hj
          have e8 : vsr[(0 + (j : Int)).toNat]? = some (.int (S9 j i) t8) := by rw [show (0 + (j : Int)).toNat = j by omega]; exact ht8
          have hb : -8 ≤ 16 * S9 j i - softV (pix f W H) (0 + (j : Int)) (0 + (i : Int)) a1 dw ∧ 16 * S9 j i - softV (pix f W H) (0 + (j : Int)) (0 + (i : Int)) a1 dw ≤ 8 := by rw [Int.zero_add, Int.zero_add]; exact sb9 j i hj hi
          k_steps
          all_goals first
            | (exfalso; omega)
            | (rename News _ _ _ _ => Nz
               rename Fr _ _ _ _ => Fz
               unfold TurnPostX TurnEndX
               exact ⟨_, _, _, (), [], _, rfl, Fz, Nz, by walk_at "nt_sub", by walk_at "nt_ps", Ap.nil, rfl⟩)
        case done4 =>
          rintro _ tl u4 h8 tk8 rfl ho4 hap4 F9 N9
          simp only [List.cons_append, List.nil_append, List.append_assoc] at N9
          clear ho4 hap4
          k_sweep
          (try k_unfold)
          (try simp only [List.cons_append, List.nil_append])
          (try dsimp only)
          k_steps
          unfold TurnPostX
          exact TurnEndX.intro oy [] F9 N9 (by walk_at "nt_sub") (by walk_at "nt_ps") Ap.nil ⟨⟨_, dy⟩, rfl⟩
      case done3 =>
        rintro od tl u2 h6 tk6 ⟨⟨q', dq'⟩, rfl⟩ ho hap F7 N7
        simp only [List.cons_append, List.nil_append, List.append_assoc] at N7
        k_sweep
        (try k_unfold)
        (try simp only [List.cons_append, List.nil_append])
        (try dsimp only)
        k_steps
        rename News _ _ _ _ => Nz
        rename Fr _ _ _ _ => Fz
        exact hret _ [] _ _ Fz (newsSub Nz (fun p hp => .tail _ (.tail _ (.tail _ (.tail _ (hsn2 p hp)))))) (fun _ h => nomatch h) ⟨rfl, rfl⟩
theorem words_29 : True := by
  k_with "call ref" => (k_here; (with_reducible show wpAny _ _ (call (Value.ref 245) [_, Value.int _ _, Value.int _ _]) _ _ _); k_dflt (refine' Ctr.use (c_grownright _ _ _ _ _ _ _ _ _ ?p1 ?p2 ?p3 ?p4 ?p5 ?p6) ?B ?F ?X ?N ?T ?hk (Split.nil _) ?P ?hd ?hu ?_; walk_at "nt_args"; (case P => walk_at "nt_plane"); (case p1 => omega); (case p2 => omega); (case p3 => omega); (case p4 => omega); (case p5 => omega); (case p6 => omega); walk_at "nt_true"))
  exact True.intro
theorem offHead1 {tl : Led} {a : Addr} {bs : List Addr} (h : OwnOff tl (a :: bs)) : OwnOff tl [a] := fun p hp b hb => h p hp b (by rw [List.mem_singleton.mp hb]; exact List.mem_cons_self)
theorem poolNn (x : Int) (b : Bool) (h : 0 ≤ x) : 0 ≤ x * (if b = true then 1 else 0) := by
  cases b
  · simp
  · simpa using h
set_option maxHeartbeats 8000000 in
theorem c_pool (w : World) (sa : Addr) (vs : List Value) (ns : List Int) (tk0 : Tok) (hI : IntsAre vs ns) (hl : ns.length ≤ 63) (hlay : (PyData.list (List.map PyData.int ns)).layable0 = true)
    (mean : ExcName → Option Value) (mg mb : Str → Option Value) (dp un : Nat) (gd : Option (List Code)) (cn : Str) (cs : Scope) (a : Addr) (ccd : Value) (cl : List (Str × Addr)) (outer : List Env) (A₀ : Around) (base h₀ : Heap) (L : Addr) (m : Str → Option Value)
    (news : Led) (s : Shared) (Q E : Value → Shared → Prop)
    (B : Below A₀ base outer h₀) (F : Fr h₀ L s.heap m) (X : (hd.heap_39 w.params).In h₀) (hL : h₀.IsList sa vs.toArray) (N : News h₀ L s.heap news) (T : Top vw LooseX mean mg mb h₀) (hk : cs.kind = .function) (hd : dp + 2 < recursionLimit) (hu : un + 40 * 2 < cLine)
    (hret : ∀ (a₀ : Addr) (x0 x1 : Int) (t0 t1 : Tok) (n : Nat) (h' : Heap) (tk' : Tok), Fr h₀ L h' m → News h₀ L h' ((a₀, srcObj x0 x1 t0 t1 n) :: news) → SrcOk x0 x1 → OwnOff news [a₀] → Q (.ref a₀) { s with heap := h', toks := tk' }) :
    wpAny (model Prg w) (ktrTop dp un gd cn cs L a ccd cl outer) (call (.ref 190) [.ref sa, .int 0 tk0]) Q E s := by
  walk_at "nt_enter"
  intro g1 L1 h1 FG F1 N1 B1 X1 T1
  try dsimp only
  k_fold
  have hLL : g1.IsList sa vs.toArray := FG.lst hL
  clear hL
  k_steps
  all_goals
    rename Fr _ _ _ _ => Fz
    rename News _ _ _ _ => Nz
    rename ∀ (p : Addr × Obj), p ∈ news → _ => lz
    refine hret _ _ _ _ _ _ _ _ Fz Nz ⟨poolNn _ _ ?_, poolNn _ _ ?_, (fmB _ (by omega)).1, (fmB _ (by omega)).2⟩ (fun p hp b hb e => ?_)
    · split <;> omega
    · split <;> omega
    · rw [List.mem_singleton.mp hb] at e
      exact absurd (lz p hp) (by rw [e]; exact Nat.lt_irrefl _)
theorem words_30 : True := by
  k_with "nt_off" => (refine offHead1 (bs := [_]) ?_; assumption)
  k_with "call ref" => (k_here; (with_reducible show wpAny _ _ (call (Value.ref 190) [Value.ref _, Value.int _ _]) _ _ _); k_dflt (refine' c_pool _ _ _ _ _ ?I ?l ?lay _ _ _ _ _ _ _ _ _ _ _ _ _ _ _ _ _ _ _ _ _ ?B ?F ?X ?L ?N ?T ?hk ?hd ?hu ?_; (case I => assumption); (case l => omega); (case lay => assumption); (case B => k_asm); (case F => k_asm); (case X => k_asm); (case L => assumption); (case N => k_asm); (case T => k_asm); (case hk => first | exact rfl | assumption); (case hd => walk_at "nt_room"); (case hu => walk_at "nt_room"); intro pa90 x90 x91 t90 t91 n9 h9 tk9 F9 N9 ok9 o9; (try have nz9 := off1s o9); (try have nz8 := Ne.symm nz9); (try dsimp only); (try k_sweep); (try k_fold)))
  exact True.intro
theorem soft_const (f : Nat → Nat → Int) (c : Int) (hf : ∀ i j, f i j = c) (W H i j : Nat) : soft f W H 2 2 i j = c := by
  unfold soft
  rw [if_neg (by decide), if_neg (by decide)]
  have hs : ∀ k, softS f H j k = 4 * c := by intro k; unfold softS; rw [hf, hf]; omega
  unfold dbl
  split <;> simp only [hs, ite_self] <;> rw [Int.fdiv_eq_ediv_of_nonneg _ (by omega)] <;> omega
/-- a plane of one sample stays so when it is grown softly -/
theorem c_flatsoft (w : World) (v : Value) (f : Nat → Nat → Int) (c : Int) (hf : ∀ i j, f i j = c) (ta td tw th : Tok) :
    Ctr w 6 159 [v, .int 2 ta, .int 2 td, .int 5 tw, .int 3 th, .bool true] (fun news => PlaneL w.params news v 3 2 f) (fun tl r => ∃ W' H', PlaneL w.params tl r W' H' (fun _ _ => c)) :=
  Ctr.mono (c_grownS w v 3 2 f 2 ta 2 td 5 tw 3 th 6 4 5 3 rfl rfl (.inr rfl) (.inr rfl) (by omega) (by decide) (by decide) (by omega) (by omega) (by omega) (by omega) (by omega) (by omega)) (Nat.le_refl _) (fun _ h => h) (fun l r hP => ⟨_, _, hP.congr fun i j _ _ => by unfold pix; exact soft_const f c hf 3 2 _ _⟩)
theorem rowConst3 (c : Int) (j : Nat) : rowOf 3 (fun _ _ => c) j = [c, c, c] := rfl
theorem flatPlane {P : Params} {led : Led} {a d r r1 r2 : Addr} {k k1 k2 : Nat} {t1 t2 t3 tw th : Tok} {c : Int} {tc : Tok} (m1 : (a, instObj 84 d) ∈ led)
    (m2 : (d, dictOf [⟨PyData.keyHash P (Str.ofString "width"), .str (Str.ofString "width") t1, .int 3 tw⟩, ⟨PyData.keyHash P (Str.ofString "height"), .str (Str.ofString "height") t2, .int 2 th⟩, ⟨PyData.keyHash P (Str.ofString "rows"), .str (Str.ofString "rows") t3, .ref r⟩] 3) ∈ led)
    (m3 : (r, listOf [Value.ref r1, Value.ref r2].toArray k) ∈ led) (m4 : (r1, listOf [Value.int c tc, Value.int c tc, Value.int c tc].toArray k1) ∈ led) (m5 : (r2, listOf [Value.int c tc, Value.int c tc, Value.int c tc].toArray k2) ∈ led) :
    PlaneL P led (.ref a) 3 2 (fun _ _ => c) := by
  have hI : IntsAre [Value.int c tc, Value.int c tc, Value.int c tc] [c, c, c] := .cons _ _ (.cons _ _ (.cons _ _ .nil))
  refine ⟨a, d, r, _, k, t1, t2, t3, tw, th, rfl, m1, m2, m3, ⟨rfl, ?_⟩, by decide, by decide, by decide, by decide⟩
  intro j hj
  match j, hj with
  | 0, _ => exact ⟨_, rfl, r1, _, k1, rfl, m4, hI⟩
  | 1, _ => exact ⟨_, rfl, r2, _, k2, rfl, m5, hI⟩
theorem ratiosTups {led : Led} {a1 a2 a3 a4 : Addr} {k1 k2 k3 k4 : Nat} {t1 t2 t3 t4 t5 t6 t7 t8 : Tok} (m1 : (a1, tupOf [.int 1 t1, .int 2 t2] k1) ∈ led) (m2 : (a2, tupOf [.int 2 t3, .int 3 t4] k2) ∈ led) (m3 : (a3, tupOf [.int 3 t5, .int 4 t6] k3) ∈ led) (m4 : (a4, tupOf [.int 1 t7, .int 1 t8] k4) ∈ led) : TupsAre led [.ref a1, .ref a2, .ref a3, .ref a4] ratios := by
  refine ⟨rfl, fun i p hp => ?_⟩
  match i, hp with
  | 0, hp => obtain rfl := Option.some.inj hp; exact ⟨_, _, _, _, rfl, m1⟩
  | 1, hp => obtain rfl := Option.some.inj hp; exact ⟨_, _, _, _, rfl, m2⟩
  | 2, hp => obtain rfl := Option.some.inj hp; exact ⟨_, _, _, _, rfl, m3⟩
  | 3, hp => obtain rfl := Option.some.inj hp; exact ⟨_, _, _, _, rfl, m4⟩
  | i + 4, hp => simp [ratios] at hp
theorem offConsGt {x b : Addr} {o : Obj} {l : Led} (h1 : b < x) (h2 : OwnOff l [b]) : OwnOff ((x, o) :: l) [b] := offCons (fun c hc => by rw [List.mem_singleton.mp hc]; exact Nat.ne_of_gt h1) h2
theorem offConsNe {x b : Addr} {o : Obj} {l : Led} (h1 : x ≠ b) (h2 : OwnOff l [b]) : OwnOff ((x, o) :: l) [b] := offCons (fun c hc => by rw [List.mem_singleton.mp hc]; exact h1) h2
/-- what the law's tail needs of the ledger -/
theorem lawTail {P : Params} {led : Led} {h₀ h : Heap} {L a d r r1 r2 pa ca : Addr} {k k1 k2 : Nat} {t1 t2 t3 tw th : Tok} {c : Int} {tc : Tok} {a1 a2 a3 a4 : Addr} {k3 k4 k5 k6 : Nat} {u1 u2 u3 u4 u5 u6 u7 u8 : Tok} {i : Nat} {v : Value} {W H : Nat} {f : Nat → Nat → Int} {oc : Obj} (N : News h₀ L h led)
    (e : [Value.ref a1, Value.ref a2, Value.ref a3, Value.ref a4][i]? = some v) (n1 : (a1, tupOf [.int 1 u1, .int 2 u2] k3) ∈ led) (n2 : (a2, tupOf [.int 2 u3, .int 3 u4] k4) ∈ led) (n3 : (a3, tupOf [.int 3 u5, .int 4 u6] k5) ∈ led) (n4 : (a4, tupOf [.int 1 u7, .int 1 u8] k6) ∈ led)
    (m1 : (a, instObj 84 d) ∈ led)
    (m2 : (d, dictOf [⟨PyData.keyHash P (Str.ofString "width"), .str (Str.ofString "width") t1, .int 3 tw⟩, ⟨PyData.keyHash P (Str.ofString "height"), .str (Str.ofString "height") t2, .int 2 th⟩, ⟨PyData.keyHash P (Str.ofString "rows"), .str (Str.ofString "rows") t3, .ref r⟩] 3) ∈ led)
    (m3 : (r, listOf [Value.ref r1, Value.ref r2].toArray k) ∈ led) (m4 : (r1, listOf [Value.int c tc, Value.int c tc, Value.int c tc].toArray k1) ∈ led) (m5 : (r2, listOf [Value.int c tc, Value.int c tc, Value.int c tc].toArray k2) ∈ led)
    (hP : PlaneL P led (.ref pa) W H f) (mc : (ca, oc) ∈ led) :
    ∃ nw ta o m t1 t2 n, v = .ref ta ∧ (o, m) ∈ ratios ∧ (ta, tupOf [.int o t1, .int m t2] n) ∈ nw ∧ PlaneL P nw (.ref pa) W H f ∧ PlaneL P nw (.ref a) 3 2 (fun _ _ => c) ∧ (ca, oc) ∈ nw ∧ News h₀ L h nw := by
  obtain ⟨p, ta, t1, t2, n, _, hp, rfl, mt⟩ := (ratiosTups n1 n2 n3 n4).item e
  exact ⟨led, ta, p.1, p.2, t1, t2, n, rfl, hp, mt, hP, flatPlane m1 m2 m3 m4 m5, mc, N⟩
theorem words_31 : True := by
  k_with "nt_planeEx" => (intro r9 tl9 h9 tk9 F9 N9 o9 a9 e9; obtain ⟨Wx9, Hx9, e9⟩ := e9; have e8 := e9; obtain ⟨pa9, pd9, pr9, rvs9, k9, t19, t29, t39, tw9, th9, eq9, m19, m29, m39, R9, b19, b29, b39, b49⟩ := e8; subst eq9; simp only [List.nil_append, List.cons_append, List.append_assoc] at N9; (try simp only [List.map_cons, List.map_nil] at o9); (try dsimp only); (try k_sweep); (try k_fold))
  k_with "call ref" => (k_here; (with_reducible show wpAny _ _ (call (Value.ref 152) [_, Value.int _ _, Value.int _ _, Value.int 1 _, Value.int _ _]) _ _ _); (rename _ ∈ ratios => hr9); k_dflt (refine' Ctr.use (c_flat _ _ _ _ (fun _ _ => rfl) _ _ _ _ _ _ _ ?p1 ?p2 ?p3) ?B ?F ?X ?N ?T ?hk ?S ?P ?hd ?hu ?_; walk_at "nt_args"; (case p1 => exact hr9); (case p2 => omega); (case p3 => omega); (case S => walk_at "nt_split"); (case P => walk_at "nt_plane"); walk_at "nt_planeEx"))
  k_with "call ref" => (k_here; (with_reducible show wpAny _ _ (call (Value.ref 159) [_, Value.int 2 _, Value.int 2 _, Value.int 5 _, Value.int 3 _, Value.bool true]) _ _ _); k_dflt (refine' Ctr.use (c_flatsoft _ _ _ _ (fun _ _ => rfl) _ _ _ _) ?B ?F ?X ?N ?T ?hk ?S ?P ?hd ?hu ?_; walk_at "nt_args"; (case S => walk_at "nt_split"); (case P => walk_at "nt_plane"); walk_at "nt_planeEx"))
  exact True.intro
theorem lawTailK {G : Prop} {P : Params} {led : Led} {h₀ h : Heap} {L a d r r1 r2 pa ca : Addr} {k k1 k2 : Nat} {t1 t2 t3 tw th : Tok} {c : Int} {tc : Tok} {a1 a2 a3 a4 : Addr} {k3 k4 k5 k6 : Nat} {u1 u2 u3 u4 u5 u6 u7 u8 : Tok} {i : Nat} {v : Value} {W H : Nat} {f : Nat → Nat → Int} {oc : Obj} (N : News h₀ L h led)
    (e : [Value.ref a1, Value.ref a2, Value.ref a3, Value.ref a4][i]? = some v) (n1 : (a1, tupOf [.int 1 u1, .int 2 u2] k3) ∈ led) (n2 : (a2, tupOf [.int 2 u3, .int 3 u4] k4) ∈ led) (n3 : (a3, tupOf [.int 3 u5, .int 4 u6] k5) ∈ led) (n4 : (a4, tupOf [.int 1 u7, .int 1 u8] k6) ∈ led)
    (m1 : (a, instObj 84 d) ∈ led)
    (m2 : (d, dictOf [⟨PyData.keyHash P (Str.ofString "width"), .str (Str.ofString "width") t1, .int 3 tw⟩, ⟨PyData.keyHash P (Str.ofString "height"), .str (Str.ofString "height") t2, .int 2 th⟩, ⟨PyData.keyHash P (Str.ofString "rows"), .str (Str.ofString "rows") t3, .ref r⟩] 3) ∈ led)
    (m3 : (r, listOf [Value.ref r1, Value.ref r2].toArray k) ∈ led) (m4 : (r1, listOf [Value.int c tc, Value.int c tc, Value.int c tc].toArray k1) ∈ led) (m5 : (r2, listOf [Value.int c tc, Value.int c tc, Value.int c tc].toArray k2) ∈ led)
    (hP : PlaneL P led (.ref pa) W H f) (_ : oc.data = .cell (some (.int c tc))) (mc : (ca, oc) ∈ led)
    (g : ∀ nw ta o m t1 t2 n, v = .ref ta → (o, m) ∈ ratios → (ta, tupOf [.int o t1, .int m t2] n) ∈ nw → PlaneL P nw (.ref pa) W H f → PlaneL P nw (.ref a) 3 2 (fun _ _ => c) → (ca, oc) ∈ nw → News h₀ L h nw → G) : G := by
  obtain ⟨nw, ta, o, m, t1, t2, n, e1, e2, e3, e4, e5, e6, e7⟩ := lawTail N e n1 n2 n3 n4 m1 m2 m3 m4 m5 hP mc
  exact g nw ta o m t1 t2 n e1 e2 e3 e4 e5 e6 e7
theorem lawLoopK {G : Prop} {P : Params} {led : Led} {h₀ h : Heap} {L l pa ca : Addr} {v1 v2 : Value} {k W1 H1 W2 H2 : Nat} {c : Int} {tc : Tok} {W H : Nat} {f : Nat → Nat → Int} {oc : Obj} (N : News h₀ L h led) (m : (l, listOf [v1, v2].toArray k) ∈ led)
    (p1 : PlaneL P led v1 W1 H1 (fun _ _ => c)) (p2 : PlaneL P led v2 W2 H2 (fun _ _ => c)) (hP : PlaneL P led (.ref pa) W H f) (hc : oc.data = .cell (some (.int c tc))) (mc : (ca, oc) ∈ led)
    (g : ∀ (nx : Led) (pv : Value) (vs : List Value), pv = .ref pa → vs.length ≤ 2 → (∀ (i : Nat) (v : Value), vs[i]? = some v → ∃ W' H', PlaneL P nx v W' H' (fun _ _ => c)) → (l, listOf vs.toArray k) ∈ nx → PlaneL P nx pv W H f → (ca, oc) ∈ nx → News h₀ L h nx → G) : G := by
  refine g led _ [v1, v2] rfl (Nat.le_refl 2) ?_ m hP mc N
  intro i v e
  match i, e with
  | 0, e => obtain rfl := Option.some.inj e; exact ⟨_, _, p1⟩
  | 1, e => obtain rfl := Option.some.inj e; exact ⟨_, _, p2⟩
  | i + 2, e => simp at e
theorem rowConst {W : Nat} {c : Int} {j i : Nat} {rs : List Value} {u : Value} (h : IntsAre rs (rowOf W (fun _ _ => c) j)) (hu : rs[i]? = some u) : ∃ t, u = .int c t := by
  have hi : i < rs.length := (List.getElem?_eq_some_iff.mp hu).1
  rw [h.length, rowOf_length] at hi
  obtain ⟨t, e⟩ := h.get i c (rowOf_get hi)
  rw [hu] at e
  exact ⟨t, Option.some.inj e⟩
theorem elemNo {prog : Program} {w : World} {A : Around} {env : Env} {ifs : List Expr} {elt : Expr} {Inv : List Value → Prop} {ys : List Value} {h : Heap} {s : Shared} {tk : Nat} (k : Inv ys) :
    ElemOk prog w A env ifs elt Inv ys h s false { s with heap := h, toks := tk } := ⟨tk, rfl, by rw [if_neg Bool.false_ne_true]; exact k⟩
theorem elemNoB {prog : Program} {w : World} {A : Around} {env : Env} {ifs : List Expr} {elt : Expr} {Inv : List Value → Prop} {ys : List Value} {h : Heap} {s : Shared} {tk : Nat} {b : Bool} (hb : b = false) (k : Inv ys) :
    ElemOk prog w A env ifs elt Inv ys h s b { s with heap := h, toks := tk } := by subst hb; exact elemNo k
theorem neNil {prog : Program} {w : World} {A : Around} {E : Value → Shared → Prop} {s : Shared} {h₀ : Heap} {L a b : Addr} {news : Led} {k1 k2 : Nat} {Q : Value → Shared → Prop} (N : News h₀ L s.heap news) (m1 : (a, listOf ([] : List Value).toArray k1) ∈ news) (m2 : (b, listOf ([] : List Value).toArray k2) ∈ news)
    (hu : A.units + 64 < cLine) (h : ∀ tk, Q (.bool false) { s with toks := tk }) : wpAny (model prog w) A (compareOp .NotEq (.ref a) (.ref b)) Q E s := neSame N m1 .nil m2 .nil hu h
theorem words_pool0 : True := by
  k_with "call ref" => (k_here; (with_reducible show wpAny _ _ (call (Value.ref 84) _) _ _ _); k_dflt (refine' call_cls ?k1 ?k2 ?k3 ?k4 ?k5 ?k6 ?_; (case k1 => k_asm); (case k2 => k_asm); (case k3 => k_asm); (case k4 => k_is); (case k5 => k_is); (case k6 => k_is); k_whole; intro xc9 dc9 hc9 Fc9 Nc9 lc9 mc9; (try k_lt lc9); (try k_lt2 mc9); (try k_sweep); k_enter))
  k_with "exec For Name List cons nil" => walk_at "nt_for"
  k_with "compareOp NotEq ref ref" => (k_here; (with_reducible show wpAny _ _ (compareOp CmpOp.NotEq (Value.ref _) (Value.ref _)) _ _ _); k_dflt (refine' neNil ?nN ?n1 ?n3 ?n5 ?_; (case nN => k_asm); (case n1 => k_mem); (case n3 => k_mem); (case n5 => walk_at "nt_room")); intro tk9; (try dsimp only))
  k_with "call ref" => (k_here; (with_reducible show wpAny _ _ (call (Value.ref 204) _) _ _ _); refine stopIt ?_)
  exact True.intro
set_option maxHeartbeats 8000000 in
theorem top : PySem.Challenge.rw_nt0552_01.Holds := hd (by
  k_go0
  w_top off
  (all_goals try k_fold)
  rename Below _ _ _ _ => K9
  dsimp only [PyProof.Rows.Top.heap] at K9
  (try (rename Ground _ _ _ _ _ _ _ _ _ => q1; clear q1))
  (try (rename Hook.says _ _ _ => q1; clear q1))
  (try (rename Glob _ _ _ _ _ _ _ _ => q1; clear q1))
  (try (rename Tables _ _ _ _ => q1; clear q1))
  (try (rename TopE _ _ _ _ => q1; clear q1))
  (try (rename TopW _ _ _ => q1; clear q1))
  (try (rename BMod _ _ _ _ _ => q1; clear q1))
  (try (rename Flt.MathXP _ _ _ => q1; clear q1))
  (try (rename LooseAre _ _ _ => q1; clear q1))
  (try (rename Heap.CodeRec _ _ _ => q1; clear q1))
  (try (rename ReadsAll _ _ _ _ => q1; clear q1))
  (try (rename Well _ _ _ _ => q1; clear q1))
  (try (rename Reads _ _ _ _ => q1; clear q1))
  (try (rename ReadsAllW _ _ _ _ _ _ => q1; clear q1))
  k_steps
  unfold Halt
  rename News _ _ _ _ => Nk
  rename Fr _ _ _ _ => Fk
  revert Nk Fk
  (repeat (rename News _ _ _ _ => q1; clear q1))
  (repeat (rename Fr _ _ _ _ => q1; clear q1))
  (try (rename Dflts _ _ _ => q1; clear q1))
  (repeat (rename CellsAre _ _ => q1; clear q1))
  (repeat (rename IntsAre _ _ => q1; clear q1))
  intro Nk Fk
  rename World => w9
  revert w9
  set_option tactic.hygienic false in intros
  k_dflt (refine' CtrS.use (c_one _ _ _ _ _ ?p1 ?p2) ?B ?F ?X ?N ?T ?hk ?K ?S ?P ?Z ?o ?hd ?hu ?_; walk_at "nt_args"; (case K => walk_at "nt_take"); (case Z => k_mem); (case p1 => exact Nat.succ_pos _); (case p2 => exact Nat.le_of_ble_eq_true rfl); (case S => exact Split.nil _); (case P => assumption); (case o => (repeat (first | (refine' offConsNe ?oa ?_; (case oa => with_reducible assumption)) | (refine' offConsGt ?oa ?_; (case oa => walk_at "nt_pick")) | (refine' offConsGt ?oa ?_; (case oa => (refine' Nat.lt_trans ?ob ?oc; (case oc => with_reducible assumption); (case ob => walk_at "nt_pick")))))); (rename OwnOff _ (_ :: _ :: _) => oz9; exact fun p hp b hb => oz9 p hp b (List.mem_cons.mpr (.inl (List.mem_singleton.mp hb))))))
  intro r9 tl8 y09 y19 u09 u19 n9 h9 tk9 F9 N9 ok9 o8 a8 e8
  obtain ⟨e7, i9, e6⟩ := e8
  subst e7
  (try simp only [List.nil_append, List.cons_append, List.append_assoc] at N9)
  k_dflt (refine' lawTailK N9 e6 ?n1 ?n2 ?n3 ?n4 ?m1 ?m2 ?m3 ?m4 ?m5 ?hP ?hc ?mc ?_; (case n1 => k_mem); (case n2 => k_mem); (case n3 => k_mem); (case n4 => k_mem); (case m1 => k_mem); (case m2 => k_mem); (case m3 => k_mem); (case m4 => k_mem); (case m5 => k_mem); (case hP => walk_at "nt_plane"); (case hc => assumption); (case mc => k_mem))
  intro nw ta ow mo t1 t2 n8 e5 hra mt hPl hFl mc Nw
  subst e5
  clear N9 e6 Nk Fk o8 a8
  k_sweep
  (try k_fold)
  k_steps
  unfold Halt
  rename Fr _ _ _ _ => F2
  rename News _ _ _ _ => N2
  k_dflt (refine' lawLoopK (W := Wp) (H := Hp) (f := fp) N2 ?m ?p1 ?p2 ?hP ?hc ?mc ?_; (case m => k_mem); (case p1 => walk_at "nt_plane"); (case p2 => walk_at "nt_plane"); (case hc => assumption); (case hP => walk_at "nt_plane"); (case mc => k_mem))
  intro nx pv vs hpv hvs hall ml hPl2 mc2 Nx
  refine nt_list (vs := vs) (k := 0) (σ := Unit) (fun _ => []) nx (fun _ => [(Str.ofString "plane", pv)]) (fun i c tl => tl = []) [] () rfl ml F2 Nx (by walk_at "nt_sub") (fun _ => rfl) offNone (by intro p hp; rw [List.mem_singleton.mp hp, hpv]; with_unfolding_all rfl) rfl ?turn ?done
  case turn =>
    rintro i v c tl u h tk own hv rfl ho hap F3 N3
    (try simp only [List.nil_append] at N3)
    clear ho hap
    obtain ⟨W8, H8, pa8, pd8, pr8, rvs8, k8, t18, t28, t38, tw8, th8, rfl, m1, m2, m3, hR, b1, b2, b3, b4⟩ := hall i v hv
    k_sweep
    (try k_fold)
    k_steps
    rename Fr _ _ _ _ => F4
    rename News _ _ _ _ => N4
    refine ⟨pr8, rvs8, k8, _, fun i j ys => ys = [], rfl, rfl, F4, N4, by walk_at "nt_in", by rw [hR.1]; omega, rfl, ?size, ?inner, ?fin⟩
    case size =>
      rintro i j ys rfl
      exact Nat.zero_le _
    case inner =>
      rintro i5 v5 I oI C oC D ys m₂ h5 tk5 E' hv5 rfl hC hmx F5 N5
      have hi5 : i5 < H8 := by rw [← hR.1]; exact (List.getElem?_eq_some_iff.mp hv5).1
      obtain ⟨v6, hv6, ra, rs, kr, rfl, mr, hI6⟩ := hR.2 i5 hi5
      rw [hv5] at hv6
      obtain rfl := Option.some.inj hv6
      k_sweep
      k_steps
      rename Fr _ _ _ _ => Fz
      rename News _ _ _ _ => Nz
      refine ⟨_, _, oC, rs.length, _, rfl, Fz, Nz, ⟨m₂, hC, hmx⟩, .inl ⟨ra, rs, kr, rfl, by walk_at "nt_in", rfl, rfl⟩, ?_, ?_⟩
      · rintro j u5 h6 tk6 oC6 ys6 m₃ E6 hj hu rfl hC6 hmx6 hmy6 F6 N6
        obtain ⟨t6, rfl⟩ := rowConst hI6 hu
        refine wpAny_tests_one ?_
        k_sweep
        (try k_fold)
        k_steps
        exact elemNoB (by simp) rfl
      · rintro ys6 h6
        exact h6
    case fin =>
      rintro ys rfl
      unfold LCg.FinE
      intro D h7 tk7 F7 N7 off7
      k_sweep
      (try k_unfold)
      (try simp only [List.cons_append, List.nil_append])
      (try dsimp only)
      k_steps
      rename Fr _ _ _ _ => Fz
      rename News _ _ _ _ => Nz
      unfold TurnPostX
      exact TurnEndX.intro () [] Fz Nz (by walk_at "nt_sub") (by walk_at "nt_ps") Ap.nil rfl
  case done =>
    rintro c tl u h tk rfl ho hap F3 N3
    (try simp only [List.nil_append] at N3)
    clear ho hap
    k_sweep
    (try k_unfold)
    (try simp only [List.cons_append, List.nil_append])
    (try dsimp only)
    k_steps)
end Nt
theorem PySem.Challenge.cw_nt0552_01_holds : PySem.Challenge.rw_nt0552_01.Holds :=
  Nt.top
