import PyProof.Rows.All
import Wide.All
import OpenK.AllK
import Wide.FinOn
import Lean
import PySem.Challenge.RW_pc0110_01
set_option tactic.hygienic false
set_option Elab.async false
set_option maxRecDepth 100000
set_option genSizeOfSpec false
set_option genInjectivity false
set_option linter.all false
open PySem.Str renaming ofString → Ab
open PySem renaming wpAny_bind → Ac, wpAny_pure → Ag, wpAny → Av, wpAny_mono → AC, wpAny_execs_cons → AT, wpAny_setState_of → AX, wpAny_holding → Bd, wpAny_call_entry → Be, mainGlobals → Bl, builtinsNs → Ch
open List renaming mem_singleton → Ae, map → Ah, mem_cons → Ai, length_map → Aj, mem_append_right → Ak, mem_append → Ao, mem_append_left → Ap, length_append → Ar, contains_iff_mem → Au, mem_filter → Az, all_eq_true → AA, range → AB, mem_map → AD, append_nil → AG, getElem?_eq_getElem → AH, map_append → AI, length_cons → AK, length_singleton → AL, length_range → AN, prefix_refl → AO, mem_of_getElem? → AP, append_assoc → AQ, map_cons → AR, isEmpty_iff → AS, getElem?_eq_some_iff → AW, pairwise_cons → AZ, nodup_cons → Bb, findIdx?_eq_some_iff_getElem → Bf, getElem?_map → Bq, findIdx?_eq_none_iff → Bu, lookup_cons → Bz, mem_map_of_mem → BA, take → BC, getElem_mem → BG, nodup_append → BI, length_take → BM, drop → BN, any_eq_true → BO, filterMap_cons → BQ, length_drop → BU, not_mem_nil → BV, getElem_append_right → BZ, getElem_append_left → Cb, getElem_of_mem → Cc, lookup → Ce, forIn_nil → Ck, length_dropLast → Cm, drop_length → Cq, map_map → Cr, take_length → Cs, filter_eq_self → Cw, map_congr_left → Cy, take_nil → Cz, forIn_cons → CB
open Nat renaming eq_of_beq_eq_true → Am, beq → Aw, le_of_ble_eq_true → AU, le_refl → Bh, zero_le → Bj, ne_of_lt → Bk, le_trans → Bp, lt_of_le_of_lt → BB, not_lt_zero → BJ, ble_eq_true_of_le → BL, le_of_lt → BS, ble → BY, le_succ → Cf, le_add_right → Cn, lt_or_ge → Co, ne_of_gt → Cp, blt → Cu, zero_add → CC
open Option.some renaming inj → As
open Array renaming length_toList → Ax, getElem?_toList → AM, getElem?_eq_some_iff → BH, getElem?_eq_getElem → BK, toList_push → Ca, forIn_toList → Cg, toList_append → Cv
open Bool renaming and_eq_true → Ay, false_ne_true → AF, or_eq_true → Bg, false_eq_true → Bn, not_eq_true' → Br, eq_iff_iff → Bx, or_eq_false_iff → BP, not_eq_true → BW, not_not → Ci
open Option renaming bind_eq_some_iff → AJ, map_eq_some_iff → Bc, isSome_iff_exists → Bo, isNone_iff_eq_none → Bt, map_some → CA
open Int renaming toNat_natCast → AY, fmod → Bi, natCast_nonneg → Bv, fmod_nonneg_of_pos → Bw, toNat → BE, fmod_lt_of_pos → BF, toNat_of_nonneg → BR, fdiv → BX
namespace Mine
open PySem
theorem nS {α:Type _}{x:α}{p:Prop} (h:none=some x):p:=nomatch h
theorem Sn {α:Type _}{x:α}{p:Prop} (h:some x=none):p:=nomatch h
theorem fT {p:Prop} (h:false=true):p:=nomatch h
theorem tF {p:Prop} (h:true=false):p:=nomatch h
@[elab_as_elim] theorem rwC {α:Sort _}{a b:α}{P:α→Prop} (h:a=b) (t:P b):P a:=by subst h;exact t
@[elab_as_elim] theorem rwD {α:Sort _}{a b:α}{P:α→Prop} (h:b=a) (t:P b):P a:=by subst h;exact t
theorem bc {p:Prop} (h:¬p→False):p:=Classical.byContradiction h
theorem cv {h:Heap}{a:Addr}{o:Obj}{p:Prop} (n:h.get? a=none) (e:h.get? a=some o):p:=nomatch n.symm.trans e
section
variable {M:Model}{A:Around}{E:Value→Shared→Prop}{s:Shared}{α β:Type}{c:Prop} [Decidable c] {b:Bool}{t e:Sem α}{Q:α→Shared→Prop}
theorem aK (h:¬c) (k:Av M A e Q E s):Av M A (if c then t else e) Q E s:=by refine rwC (if_neg h ..) ?_;exact k
theorem bO (h:c) (k:Av M A t Q E s):Av M A (if c then t else e) Q E s:=by refine rwC (if_pos h ..) ?_;exact k
theorem im (h:b=false) (k:Av M A e Q E s):Av M A (if b=true then t else e) Q E s:=by refine rwC (h ..) ?_;exact k
end
section
theorem eE1 {A0:Type _}{p:A0→Prop}{P:Prop} (h:∃x0,p x0) (k:∀x0,p x0→P):P:=h.elim fun x0 h=>k x0 h
theorem eE2 {A0:Type _}{A1:Type _}{p:A0→A1→Prop}{P:Prop} (h:∃x0 x1,p x0 x1) (k:∀x0 x1,p x0 x1→P):P:=h.elim fun x0 h=>h.elim fun x1 h=>k x0 x1 h
theorem eE3 {A0:Type _}{A1:Type _}{A2:Type _}{p:A0→A1→A2→Prop}{P:Prop} (h:∃x0 x1 x2,p x0 x1 x2) (k:∀x0 x1 x2,p x0 x1 x2→P):P:=h.elim fun x0 h=>h.elim fun x1 h=>h.elim fun x2 h=>k x0 x1 x2 h
theorem eE4 {A0:Type _}{A1:Type _}{A2:Type _}{A3:Type _}{p:A0→A1→A2→A3→Prop}{P:Prop} (h:∃x0 x1 x2 x3,p x0 x1 x2 x3) (k:∀x0 x1 x2 x3,p x0 x1 x2 x3→P):P:=h.elim fun x0 h=>h.elim fun x1 h=>h.elim fun x2 h=>h.elim fun x3 h=>k x0 x1 x2 x3 h
theorem eE5 {A0:Type _}{A1:Type _}{A2:Type _}{A3:Type _}{A4:Type _}{p:A0→A1→A2→A3→A4→Prop}{P:Prop} (h:∃x0 x1 x2 x3 x4,p x0 x1 x2 x3 x4) (k:∀x0 x1 x2 x3 x4,p x0 x1 x2 x3 x4→P):P:=h.elim fun x0 h=>h.elim fun x1 h=>h.elim fun x2 h=>h.elim fun x3 h=>h.elim fun x4 h=>k x0 x1 x2 x3 x4 h
theorem eE6 {A0:Type _}{A1:Type _}{A2:Type _}{A3:Type _}{A4:Type _}{A5:Type _}{p:A0→A1→A2→A3→A4→A5→Prop}{P:Prop} (h:∃x0 x1 x2 x3 x4 x5,p x0 x1 x2 x3 x4 x5) (k:∀x0 x1 x2 x3 x4 x5,p x0 x1 x2 x3 x4 x5→P):P:=h.elim fun x0 h=>h.elim fun x1 h=>h.elim fun x2 h=>h.elim fun x3 h=>h.elim fun x4 h=>h.elim fun x5 h=>k x0 x1 x2 x3 x4 x5 h
theorem eE12 {A0:Type _}{A1:Type _}{A2:Type _}{A3:Type _}{A4:Type _}{A5:Type _}{A6:Type _}{A7:Type _}{A8:Type _}{A9:Type _}{A10:Type _}{A11:Type _}{p:A0→A1→A2→A3→A4→A5→A6→A7→A8→A9→A10→A11→Prop}{P:Prop} (h:∃x0 x1 x2 x3 x4 x5 x6 x7 x8 x9 x10 x11,p x0 x1 x2 x3 x4 x5 x6 x7 x8 x9 x10 x11) (k:∀x0 x1 x2 x3 x4 x5 x6 x7 x8 x9 x10 x11,p x0 x1 x2 x3 x4 x5 x6 x7 x8 x9 x10 x11→P):P:=h.elim fun x0 h=>h.elim fun x1 h=>h.elim fun x2 h=>h.elim fun x3 h=>h.elim fun x4 h=>h.elim fun x5 h=>h.elim fun x6 h=>h.elim fun x7 h=>h.elim fun x8 h=>h.elim fun x9 h=>h.elim fun x10 h=>h.elim fun x11 h=>k x0 x1 x2 x3 x4 x5 x6 x7 x8 x9 x10 x11 h
theorem aA2 {a0 a1 P:Prop} (h:a0∧a1) (k:a0→a1→P):P:=k h.1 h.2
theorem aA3 {a0 a1 a2 P:Prop} (h:a0∧a1∧a2) (k:a0→a1→a2→P):P:=k h.1 h.2.1 h.2.2
theorem aA4 {a0 a1 a2 a3 P:Prop} (h:a0∧a1∧a2∧a3) (k:a0→a1→a2→a3→P):P:=k h.1 h.2.1 h.2.2.1 h.2.2.2
theorem aA5 {a0 a1 a2 a3 a4 P:Prop} (h:a0∧a1∧a2∧a3∧a4) (k:a0→a1→a2→a3→a4→P):P:=k h.1 h.2.1 h.2.2.1 h.2.2.2.1 h.2.2.2.2
theorem aA6 {a0 a1 a2 a3 a4 a5 P:Prop} (h:a0∧a1∧a2∧a3∧a4∧a5) (k:a0→a1→a2→a3→a4→a5→P):P:=k h.1 h.2.1 h.2.2.1 h.2.2.2.1 h.2.2.2.2.1 h.2.2.2.2.2
theorem aA7 {a0 a1 a2 a3 a4 a5 a6 P:Prop} (h:a0∧a1∧a2∧a3∧a4∧a5∧a6) (k:a0→a1→a2→a3→a4→a5→a6→P):P:=k h.1 h.2.1 h.2.2.1 h.2.2.2.1 h.2.2.2.2.1 h.2.2.2.2.2.1 h.2.2.2.2.2.2
theorem aA8 {a0 a1 a2 a3 a4 a5 a6 a7 P:Prop} (h:a0∧a1∧a2∧a3∧a4∧a5∧a6∧a7) (k:a0→a1→a2→a3→a4→a5→a6→a7→P):P:=k h.1 h.2.1 h.2.2.1 h.2.2.2.1 h.2.2.2.2.1 h.2.2.2.2.2.1 h.2.2.2.2.2.2.1 h.2.2.2.2.2.2.2
theorem aA9 {a0 a1 a2 a3 a4 a5 a6 a7 a8 P:Prop} (h:a0∧a1∧a2∧a3∧a4∧a5∧a6∧a7∧a8) (k:a0→a1→a2→a3→a4→a5→a6→a7→a8→P):P:=k h.1 h.2.1 h.2.2.1 h.2.2.2.1 h.2.2.2.2.1 h.2.2.2.2.2.1 h.2.2.2.2.2.2.1 h.2.2.2.2.2.2.2.1 h.2.2.2.2.2.2.2.2
theorem aA10 {a0 a1 a2 a3 a4 a5 a6 a7 a8 a9 P:Prop} (h:a0∧a1∧a2∧a3∧a4∧a5∧a6∧a7∧a8∧a9) (k:a0→a1→a2→a3→a4→a5→a6→a7→a8→a9→P):P:=k h.1 h.2.1 h.2.2.1 h.2.2.2.1 h.2.2.2.2.1 h.2.2.2.2.2.1 h.2.2.2.2.2.2.1 h.2.2.2.2.2.2.2.1 h.2.2.2.2.2.2.2.2.1 h.2.2.2.2.2.2.2.2.2
end
noncomputable def Rise (xs:Array Nat):Prop:=∀i j,i<j→j<xs.size→xs.getD i 0<xs.getD j 0
theorem cg {xs:Array Nat}{i:Nat} (h:i<xs.size):xs.getD i 0=xs[i]:=by simp [Array.getD,h]
theorem Rise.mono {xs:Array Nat} (r:Rise xs) {i j:Nat} (h:i≤j) (hj:j<xs.size):xs.getD i 0≤xs.getD j 0:=by
 rcases Nat.lt_or_eq_of_le h with h | rfl
 ·exact BS (r i j h hj)
 ·exact Bh _
theorem Rise.of_pairwise {xs:Array Nat} (h:xs.toList.Pairwise (·<·)):Rise xs:=fun i j hij hj=>by
 refine rwC (cg (Nat.lt_trans hij hj) ..) ?_;refine rwC (cg hj ..) ?_;have:=List.pairwise_iff_getElem.mp h i j (by simpa using Nat.lt_trans hij hj) (by simpa using hj) hij;simpa using this
theorem Rise.pairwise {xs:Array Nat} (h:Rise xs):xs.toList.Pairwise (·<·):=by
 rw [List.pairwise_iff_getElem];intro i j hi hj hij;have:=h i j hij (by simpa using hj);rw [cg (by simpa using hi),cg (by simpa using hj)] at this;simpa using this
theorem below_go {xs:Array Nat} (r:Rise xs) (j:Nat):∀(fuel lo hi:Nat),hi - lo≤fuel→lo≤hi→hi≤xs.size→(∀i,i<lo→xs.getD i 0<j)→(∀i,hi≤i→i<xs.size→j≤xs.getD i 0) →
  SetTable.below.go xs j fuel lo hi≤xs.size∧(∀i,i<SetTable.below.go xs j fuel lo hi→xs.getD i 0<j)∧(∀i,SetTable.below.go xs j fuel lo hi≤i→i<xs.size→j≤xs.getD i 0):=by
 intro fuel
 induction fuel with
 | zero =>
  intro lo hi hf hle hhi h1 h2;have:lo=hi:=by omega
  subst this;exact ⟨hhi,h1,h2⟩
 | succ n ih =>
  intro lo hi hf hle hhi h1 h2;unfold SetTable.below.go
  split
  ·rename_i hlt;dsimp only;have hm1:(lo+hi) / 2<hi:=by omega
   have hm2:lo≤(lo+hi) / 2:=by omega
   have e:xs.getD ((lo+hi) / 2) j=xs.getD ((lo+hi) / 2) 0:=by
    have:(lo+hi) / 2<xs.size:=by omega
    simp [Array.getD,this]
   rw [e]
   split
   ·rename_i hx;refine ih _ _ (by omega) (by omega) hhi (fun i hi'=>?_) h2;exact BB (r.mono (j:=(lo+hi) / 2) (by omega) (by omega)) hx
   ·rename_i hx;refine ih _ _ (by omega) (by omega) (by omega) h1 (fun i hi' hs=>?_);exact Bp (Nat.le_of_not_lt hx) (r.mono hi' hs)
  ·have:lo=hi:=by omega
   subst this;exact ⟨hhi,h1,h2⟩
theorem gn {xs:Array Nat} (r:Rise xs) (j:Nat):SetTable.below xs j≤xs.size∧(∀i,i<SetTable.below xs j→xs.getD i 0<j)∧(∀i,SetTable.below xs j≤i→i<xs.size→j≤xs.getD i 0) :=
 below_go r j xs.size 0 xs.size (by omega) (by omega) (Bh _) (fun _ h=>absurd h (BJ _)) (fun i h1 h2=>absurd h2 (Nat.not_lt.mpr h1))
theorem oV {xs:Array Nat} (r:Rise xs) {j:Nat} (hj:xs[SetTable.below xs j]?≠some j):Rise (SetTable.insertAt xs (SetTable.below xs j) j):=by
 refine aA3 (gn r j) fun b1 b2 b3=>?_;refine .of_pairwise ?_;rw [SetTable.toList_insertAt];have hp:=r.pairwise;rw [List.pairwise_append];refine ⟨hp.take,?_,?_⟩
 ·rw [AZ];refine ⟨fun x hx=>?_,hp.drop⟩;obtain ⟨i,hi,rfl⟩:=Cc hx;simp only [BU,Ax] at hi;rw [List.getElem_drop];have h3:=b3 (SetTable.below xs j+i) (Cn _ _) (by omega);rw [cg (by omega)] at h3;have h4:=b3 (SetTable.below xs j) (Bh _) (by omega);have hlt:SetTable.below xs j<xs.size:=by omega
  have hne:xs.getD (SetTable.below xs j) 0≠j:=by
   rw [cg hlt];intro e;exact hj (by rw [BK hlt,e])
  have h5:=r.mono (Cn (SetTable.below xs j) i) (by omega);rw [cg (i:=SetTable.below xs j+i) (by omega)] at h5;refine (?_:j<xs[SetTable.below xs j+i]);omega
 ·intro a ha b hb;obtain ⟨i,hi,rfl⟩:=Cc ha;simp only [BM,Ax] at hi;rw [List.getElem_take];have h2:=b2 i (by omega);rw [cg (by omega)] at h2;have h2':xs.toList[i]'(by simp;omega)<j:=by simpa using h2
  rcases Ai.mp hb with rfl | hb
  ·exact h2'
  ·obtain ⟨k,hk,rfl⟩:=Cc hb;simp only [BU,Ax] at hk;rw [List.getElem_drop];have h3:=b3 (SetTable.below xs j+k) (Cn _ _) (by omega);rw [cg (by omega)] at h3;have h3':j≤xs.toList[SetTable.below xs j+k]'(by simp;omega):=by simpa using h3
   exact Nat.lt_of_lt_of_le h2' h3'
theorem pL {t:SetTable}{j:Nat} (h:t.slot j=.empty∨t.slot j=.dummy):t.place[SetTable.below t.place j]?≠some j:=by
 intro e;unfold SetTable.slot at h;dsimp only at h;rw [e] at h;simp at h
theorem probe_go {t:SetTable} (hashAt:Nat→Int) (h:Int):∀(fuel:Nat) (p:SetTable.Probe) (j:Nat) (d:Option Nat),(∀x,p.dummy=some x→t.slot x=.dummy)→SetTable.probe.go t hashAt h fuel p=some (.empty j d) →
  t.slot j=.empty∧∀x,d=some x→t.slot x=.dummy:=by
 intro fuel;have adv:∀p:SetTable.Probe,(t.advance p).dummy=p.dummy:=fun p=>by unfold SetTable.advance;split <;> rfl
 induction fuel with
 | zero=>intro p j d _ e;exact nS e
 | succ n ih =>
  intro p j d hp e;unfold SetTable.probe.go at e
  split at e
  ·rename_i he;cases e;exact ⟨he,hp⟩
  ·rename_i hd;refine ih _ j d (fun x hx=>?_) e;rw [adv] at hx;obtain rfl:=As hx;exact hd
  ·split at e
   ·cases e
   ·exact ih _ j d (fun x hx=>hp x (by rw [adv] at hx;exact hx)) e
set_option tactic.hygienic true in
theorem nG {t:SetTable}{h:Int}{j:Nat}{b:Bool} (e:t.freeSlot h=some (j,b)):t.place[SetTable.below t.place j]?≠some j:=by
 unfold SetTable.freeSlot at e
 split at e
 ·rename_i j' d hp;refine aA2 (probe_go _ _ _ _ _ _ (fun x hx=>by simp [SetTable.probeStart] at hx) hp) fun h1 h2=>?_;obtain ⟨rfl,rfl⟩:=Prod.mk.inj (As e);cases d with
  | none=>exact pL (.inl h1)
  | some x=>exact pL (.inr (h2 x rfl))
 ·exact nS e
theorem rM {xs:Array Nat} (r:Rise xs) (p:Nat):Rise (SetTable.eraseAt xs p):=by
 refine .of_pairwise (List.Pairwise.sublist ?_ r.pairwise);unfold SetTable.eraseAt;simp only [Cv,Array.toList_extract,List.extract_eq_take_drop,Nat.sub_zero,List.drop_zero];have e1:BC (xs.size - (p+1)) (BN (p+1) xs.toList)=BN (p+1) xs.toList:=List.take_of_length_le (by simp);rw [e1];have:xs.toList=BC p xs.toList++BN p xs.toList:=(List.take_append_drop p _).symm
 conv=>rhs;rw [this]
 refine List.Sublist.append (List.Sublist.refl _) ?_;rw [← List.drop_drop];exact List.drop_sublist _ _
theorem gj {h:Int} (h0:0≤h) (h1:h<16):SetTable.bits h=h.toNat:=by
 unfold SetTable.bits;refine rwC (Int.emod_eq_of_lt h0 (by lia) ..) ?_;exact rfl
theorem free_big {owner:Array (Option Nat)}{mask h:Nat} (hm:15≤mask) (hh:h<16) (hn:owner.getD h (some 0)=none) :
  SetTable.layClean.free mask owner (SetTable.turns mask) (h % (mask+1)) h=some h:=by
 have e:h % (mask+1)=h:=Nat.mod_eq_of_lt (by lia);refine rwC (e ..) ?_;unfold SetTable.turns;refine rwC (show mask+15=(mask+14)+1 from rfl) ?_;unfold SetTable.layClean.free;have hr:SetTable.runEnd mask h+1 - h=(SetTable.runEnd mask h - h)+1:=by unfold SetTable.runEnd;split <;> lia
 have hf:((AB (SetTable.runEnd mask h+1 - h)).find? fun k=>(owner.getD (h+k) (some 0)).isNone)=some 0:=by
  rw [hr,List.range_succ_eq_map,List.find?_cons];simp [hn]
 refine rwC (hf ..) ?_;rfl
noncomputable def rX (i:Nat):Nat:=(i*5+1) % 8
noncomputable def lcgN:Nat→Nat→Nat
 | 0,i=>i
 | d+1,i=>lcgN d (rX i)
theorem um:∀i,i<8→∀e,e<8→∃d,d<8∧lcgN d i=e:=by decide
theorem kx (owner:Array (Option Nat)) (f i p:Nat) (hp:p<32) :
  SetTable.layClean.free 7 owner (f+1) i p=if (owner.getD i (some 0)).isNone=true then some i else SetTable.layClean.free 7 owner f (rX i) 0:=by
 rw [SetTable.layClean.free];have hr:SetTable.runEnd 7 i+1 - i=1:=by unfold SetTable.runEnd;split <;> lia
 have hl:SetTable.leap 7 i p=(rX i,0):=by unfold SetTable.leap rX;rw [show p / 32=0 by lia]
 rw [hr,hl];have:(AB 1)=[0]:=rfl;rw [this];simp only [List.find?_cons,Nat.add_zero,List.find?_nil]
 by_cases hc:(owner.getD i (some 0)).isNone=true
 ·rw [if_pos hc,hc];rfl
 ·rw [if_neg hc];have:(owner.getD i (some 0)).isNone=false:=by
   cases q:(owner.getD i (some 0)).isNone with
   | false=>rfl
   | true=>exact absurd q hc
  rw [this]
theorem free7 {owner:Array (Option Nat)}{e:Nat} (he:owner.getD e (some 0)=none):∀(d f i p:Nat),p<32→i<8→lcgN d i=e→∃j,SetTable.layClean.free 7 owner (d+1+f) i p=some j∧owner.getD j (some 0)=none∧j<8:=by
 intro d
 induction d with
 | zero =>
  intro f i p hp hi hd;refine rwC (CC ..) ?_;refine rwC (Nat.add_comm 1 f ..) ?_;refine rwC (kx _ _ _ _ hp ..) ?_;have hd:i=e:=hd;subst hd;exact ⟨i,by refine rwC (if_pos (by rw [he];rfl) ..) ?_;exact rfl,he,hi⟩
 | succ d ih =>
  intro f i p hp hi hd;refine rwC (show d+1+1+f=(d+1+f)+1 by lia) ?_;refine rwC (kx _ _ _ _ hp ..) ?_
  by_cases hc:(owner.getD i (some 0)).isNone=true
  ·exact ⟨i,by refine rwC (if_pos hc ..) ?_;exact rfl,Bt.mp hc,hi⟩
  ·refine rwC (if_neg hc ..) ?_;exact ih f (rX i) 0 (by lia) (Nat.mod_lt _ (by lia)) hd
theorem kN {l:List (Option Nat)}:∀{j k:Nat},l[j]?=some none→((l.set j (some k)).filterMap id).Perm (k::l.filterMap id):=by
 induction l with
 | nil=>intro j k h;simp at h
 | cons a r ih =>
  intro j k h;cases j with
  | zero=>simp at h;subst h;simp
  | succ j =>
   rw [List.getElem?_cons_succ] at h;refine rwC (List.set_cons_succ ..) ?_;cases a with
   | none=>simpa using ih h
   | some x =>
    simp only [BQ,id];exact ((ih h).cons x).trans (.swap k x _)
theorem pe {l:List (Option Nat)} (h:(l.filterMap id).length<l.length):∃j:Nat,l[j]?=some none:=by
 induction l with
 | nil=>simp at h
 | cons a r ih =>
  cases a with
  | none=>exact ⟨0,rfl⟩
  | some x =>
   simp only [BQ,id,AK] at h;refine eE1 (ih (by lia)) fun j hj=>?_;exact ⟨j+1,hj⟩
structure LayOk (mask:Nat) (all:List Int) (owner:Array (Option Nat)) (k:Nat):Prop where
 size:owner.size=mask+1
 perm:(owner.toList.filterMap id).Perm (AB k)
 used:mask=7∨∀(j x:Nat),owner[j]?=some (some x)→x<k∧all[x]?=some (j:Int)
theorem getD_none {owner:Array (Option Nat)}{j:Nat}:owner.getD j (some 0)=none↔owner.toList[j]?=some none:=by
 rw [AM];unfold Array.getD
 split
 ·rename_i h;simp [h]
 ·rename_i h;simp only [reduceCtorEq,false_iff];rw [Array.getElem?_eq_none (by lia)];simp
theorem lay7 {owner:Array (Option Nat)}{k h:Nat} (hs:owner.size=8) (hp:(owner.toList.filterMap id).Perm (AB k)) (hk:k<8) (hh:h<16) :
  ∃j,SetTable.layClean.free 7 owner (SetTable.turns 7) (h % (7+1)) h=some j∧owner.getD j (some 0)=none:=by
 refine bc fun zz=>?_;obtain ⟨e,he⟩:=pe (l:=owner.toList) (by refine rwC (hp.length_eq ..) ?_;refine rwC (AN ..) ?_;refine rwC (Ax ..) ?_;refine rwC (hs ..) ?_;exact hk);refine zz ?_;have hlt:e<8:=by
  have:=(AW.mp he).1;simpa [hs] using this
 refine bc fun zz=>?_;obtain ⟨d,hd1,hd2⟩:=um (h % 8) (by lia) e hlt;obtain ⟨j,e1,e2,e3⟩:=free7 (getD_none.mpr he) d (21 - d) (h % 8) h (by lia) (by lia) hd2;refine zz ?_;refine ⟨j,?_,e2⟩;replace e1:=(show d+1+(21 - d)=22 by lia)▸e1;exact e1
theorem lay_step {mask k:Nat}{all:List Int}{owner:Array (Option Nat)}{h:Int} (hm:mask=7∨15≤mask) (h0:0≤h) (h1:h<16) (hd:all[k]?=some h) (hnd:all.Nodup) (hk:mask=7→k<8) (L:LayOk mask all owner k) :
  ∃j,SetTable.layClean.free mask owner (SetTable.turns mask) (SetTable.bits h % (mask+1)) (SetTable.bits h)=some j∧LayOk mask all (owner.setIfInBounds j (some k)) (k+1):=by
 refine rwC (gj h0 h1 ..) ?_;have key:∃j,SetTable.layClean.free mask owner (SetTable.turns mask) (h.toNat % (mask+1)) h.toNat=some j∧owner.getD j (some 0)=none∧(mask=7∨(j:Int)=h):=by
  by_cases h7:mask=7
  ·subst h7;refine eE1 (lay7 (h:=h.toNat) L.size L.perm (hk rfl) (by lia)) fun j zt1=>aA2 zt1 fun e1 e2=>?_;exact ⟨j,e1,e2,.inl rfl⟩
  ·have hm:=hm.resolve_left h7;have hu:=L.used.resolve_left h7;have hn:owner.getD h.toNat (some 0)=none:=by
    rw [getD_none,AM];have hlt:h.toNat<owner.size:=by refine rwC (L.size ..) ?_;lia
    cases e:owner[h.toNat]'hlt with
    | none=>rw [BK hlt,e]
    | some x =>
     refine aA2 (hu h.toNat x (by rw [BK hlt,e])) fun a1 a2=>?_;replace a2:=(BR h0 ..)▸a2;obtain ⟨b1,b2⟩:=AW.mp a2;obtain ⟨c1,c2⟩:=AW.mp hd;exact absurd (b2.trans c2.symm) (List.pairwise_iff_getElem.mp hnd x k b1 c1 a1)
   exact ⟨h.toNat,free_big hm (by lia) hn,hn,.inr (BR h0)⟩
 refine eE1 (key) fun j zt2=>aA3 zt2 fun e1 e2 e3=>?_;refine ⟨j,e1,?_,?_,?_⟩
 ·simpa using L.size
 ·refine rwC (Array.toList_setIfInBounds ..) ?_;refine (kN (getD_none.mp e2)).trans ?_;refine rwC (List.range_succ ..) ?_;exact ((L.perm.cons k).trans (List.perm_append_singleton k _).symm)
 ·rcases e3 with e3 | e3
  ·exact .inl e3
  ·rcases L.used with hu | hu
   ·exact .inl hu
   ·refine .inr fun i x hx=>?_;rw [Array.getElem?_setIfInBounds] at hx
    split at hx
    ·rename_i hji;subst hji
     split at hx
     ·cases hx;refine rwC (e3 ..) ?_;exact ⟨Nat.lt_succ_self _,hd⟩
     ·exact nS hx
    ·exact ⟨Nat.lt_succ_of_lt (hu i x hx).1,(hu i x hx).2⟩
theorem lay_fold {mask:Nat} (hm:mask=7∨15≤mask) {all:List Int} (hall:∀h∈all,0≤h∧h<16) (hnd:all.Nodup) (h7:mask=7→all.length≤8):∀(hs:List Int) (owner:Array (Option Nat)) (k:Nat),hs=all.drop k→LayOk mask all owner k →
  ∃owner',(hs.foldl (init:=some (owner,k)) fun acc h=>do
   let (owner,k) ← acc
   let j ← SetTable.layClean.free mask owner (SetTable.turns mask) (SetTable.bits h % (mask+1)) (SetTable.bits h)
   pure (owner.setIfInBounds j (some k),k+1))=some (owner',k+hs.length)∧LayOk mask all owner' (k+hs.length):=by
 intro hs
 induction hs with
 | nil=>intro owner k _ L;exact ⟨owner,rfl,L⟩
 | cons h r ih =>
  intro owner k he L;have hk:all[k]?=some h:=by
   have:=congrArg (fun l:List Int=>l[0]?) he;simp only [List.getElem?_cons_zero,List.getElem?_drop,Nat.add_zero] at this;exact this.symm
  have hlt:=(AW.mp hk).1;have hmem:h∈all:=AP hk;refine bc fun zz=>?_;refine eE1 (lay_step hm (hall h hmem).1 (hall h hmem).2 hk hnd (fun e=>by have:=h7 e;lia) L) fun j zt3=>aA2 zt3 fun e1 L'=>?_;refine eE1 (ih _ (k+1) (by refine rwD (List.drop_drop ..) ?_;refine rwD (he ..) ?_;rfl) L') fun o' zt4=>aA2 zt4 fun e2 L''=>?_;refine zz ?_;refine ⟨o',?_,by refine rwC (AK ..) ?_;refine rwC (show k+(r.length+1)=k+1+r.length by lia) ?_;exact L''⟩;refine rwC (List.foldl_cons ..) ?_;refine rwC (AK ..) ?_;refine rwC (show k+(r.length+1)=k+1+r.length by lia) ?_;refine rwD (e2 ..) ?_
  congr 1
  refine (?_:(SetTable.layClean.free mask owner (SetTable.turns mask) (SetTable.bits h % (mask+1)) (SetTable.bits h)).bind _=_);refine rwC (e1 ..) ?_;rfl
theorem oS {mask:Nat}{hashes:Array Int} (hm:mask=7∧hashes.size≤7∨15≤mask) (h1:∀h∈hashes.toList,0≤h∧h<16) (h2:hashes.toList.Nodup) :
  ∃owner,SetTable.layClean mask hashes=some owner∧LayOk mask hashes.toList owner hashes.size:=by
 have L0:LayOk mask hashes.toList (Array.replicate (mask+1) none) 0:=⟨by simp,by simp,.inr fun j x hx=>by
  rw [Array.getElem?_replicate] at hx
  split at hx <;> simp at hx⟩
 refine bc fun zz=>?_;obtain ⟨o,e,L⟩:=lay_fold (hm.elim (fun h=>.inl h.1) .inr) h1 h2 (fun e=>by
  rcases hm with h | h
  ·simp;lia
  ·lia) hashes.toList _ 0 rfl L0
 refine zz ?_;refine ⟨o,?_,by simpa using L⟩;unfold SetTable.layClean;refine rwD (Array.foldl_toList ..) ?_;refine rwC (e ..) ?_;rfl
theorem ry {es:Array (Int×Value)}{f:Nat→Option Nat} (hf:∀j x,f j=some x→∃e,es[x]?=some e∧e.1=(j:Int)):∀l:List Nat,
  ((l.filterMap fun j=>(f j).map (j,·)).map (·.1))=(((l.filterMap fun j=>(f j).map (j,·)).map (·.2)).filterMap (es[·]?)).map fun e=>e.1.toNat:=by
 intro l
 induction l with
 | nil=>rfl
 | cons a r ih =>
  refine rwC (BQ ..) ?_;cases h:f a with
  | none=>exact ih
  | some x =>
   refine bc fun zz=>?_;refine eE1 (hf a x h) fun e zt5=>aA2 zt5 fun h1 h2=>?_;refine zz ?_;simp only [CA,AR,BQ,h1,ih];refine rwC (h2 ..) ?_;simp
theorem lB {mask finger moves:Nat}{led plain:Bool}{es:Array (Int×Value)} (hm:mask=7∧es.size≤7∨15≤mask∧es.size≤15) (h1:∀e∈es.toList,0≤e.1∧e.1<16) (h2:(es.toList.map (·.1)).Nodup) :
  ∃t order,SetTable.laid mask finger moves led plain (es.map (·.1))=some (t,order)∧order.toList.Perm (AB es.size)∧Rise t.place∧t.fits es.size=true∧t.led=led∧t.plain=plain∧t.mask=mask∧t.dummies=#[] ∧
   (15≤mask→t.place.toList=(order.filterMap (es[·]?)).toList.map fun e=>e.1.toNat):=by
 refine bc fun zz=>?_;obtain ⟨o,e,L⟩:=oS (mask:=mask) (hashes:=es.map (·.1)) (by simpa using hm.elim (fun h=>.inl h) fun h=>.inr h.1) (by
  intro h hh;rw [Array.toList_map,AD] at hh;obtain ⟨x,hx,rfl⟩:=hh;exact h1 x hx) (by rw [Array.toList_map];exact h2)
 refine zz ?_;rw [Array.size_map] at L;have live2:((AB (mask+1)).filterMap fun j=>(o.getD j none).map (j,·)).map (·.2)=o.toList.filterMap id:=by
  rw [List.map_filterMap];have:(fun j=>((o.getD j none).map (j,·)).map (·.2))=fun j=>(o.getD j none):=by
   funext j;cases o.getD j none <;> rfl
  rw [this];have h3:=filterMap_getElem?_range o;rw [← h3,List.filterMap_filterMap,L.size]
  congr 1
  funext j
  rw [Array.getD_eq_getD_getElem?];cases o[j]? <;> rfl
 have hlen:((AB (mask+1)).filterMap fun j=>(o.getD j none).map (j,·)).length=es.size:=by
  rw [← Aj (f:=(·.2)),live2,L.perm.length_eq,AN]
 refine ⟨_,_,by unfold SetTable.laid;rw [e];rfl,?_,?_,?_,rfl,rfl,rfl,rfl,?_⟩
 ·rw [List.toList_toArray,live2];exact L.perm
 ·refine .of_pairwise ?_;dsimp only;rw [List.map_filterMap];refine List.Pairwise.sublist ?_ (List.pairwise_lt_range (n:=mask+1));have:∀l:List Nat,(l.filterMap fun j=>((o.getD j none).map (j,·)).map (·.1)).Sublist l:=by
   intro l
   induction l with
   | nil=>exact .slnil
   | cons a r ih =>
    rw [BQ];cases o.getD a none with
    | none=>exact .cons a ih
    | some x=>exact .cons₂ a ih
  exact this _
 ·unfold SetTable.fits SetTable.fill;simp only [Ay,beq_iff_eq,decide_eq_true_eq];rw [List.size_toArray,Aj,hlen,show (#[]:Array Nat).size=0 from rfl];lia
 ·intro hm';rw [Array.toList_filterMap];refine ry (f:=fun j=>o.getD j none) (fun j x hjx=>?_) _;refine bc fun zz=>?_;rcases L.used with h7 | hu
  ·refine zz ?_;lia
  ·refine zz ?_;have:o[j]?=some (some x):=by
    rw [Array.getD_eq_getD_getElem?] at hjx;cases q:o[j]? with
    | none=>rw [q] at hjx;exact nS hjx
    | some y=>rw [q] at hjx;simp at hjx;rw [hjx]
   have:=(hu j x this).2;rw [AM,Array.getElem?_map] at this;cases q:es[x]? with
   | none=>rw [q] at this;exact nS this
   | some y=>rw [q] at this;simp at this;exact ⟨y,rfl,this⟩
theorem qX {es:Array (Int×Value)}{order:Array Nat} (h:order.toList.Perm (AB es.size)):(order.filterMap (es[·]?)).toList.Perm es.toList:=by
 refine rwC (Array.toList_filterMap ..) ?_;exact (h.filterMap _).trans (by rw [filterMap_getElem?_range])
inductive Cell where
 | int (i:Int)
 | str (s:Str)
 | nums (l:List Int)
noncomputable abbrev Row:=List Cell
noncomputable abbrev Tbl:=List Row
inductive AV where
 | mk (k:Nat) (b:Bool) (i j:Int) (x:Str) (l:List AV) (z:List Int) (d:List (Int×Int)) (e:List (Str×Int))
noncomputable section
noncomputable def AV.k:AV→Nat | .mk k _ _ _ _ _ _ _ _=>k
noncomputable def AV.b:AV→Bool | .mk _ b _ _ _ _ _ _ _=>b
noncomputable def AV.i:AV→Int | .mk _ _ i _ _ _ _ _ _=>i
noncomputable def AV.j:AV→Int | .mk _ _ _ j _ _ _ _ _=>j
noncomputable def AV.x:AV→Str | .mk _ _ _ _ x _ _ _ _=>x
noncomputable def AV.l:AV→List AV | .mk _ _ _ _ _ l _ _ _=>l
noncomputable def AV.z:AV→List Int | .mk _ _ _ _ _ _ z _ _=>z
noncomputable def AV.d:AV→List (Int×Int) | .mk _ _ _ _ _ _ _ d _=>d
noncomputable def AV.e:AV→List (Str×Int) | .mk _ _ _ _ _ _ _ _ e=>e
noncomputable abbrev AV.tag (k:Nat) (b:Bool:=false) (i j:Int:=0) (x:Str:=⟨#[]⟩) (l:List AV:=[]) (z:List Int:=[]) (d:List (Int×Int):=[]) (e:List (Str×Int):=[]):AV:=.mk k b i j x l z d e
noncomputable def AV.none:AV:=.tag 0
noncomputable def AV.bool (b:Bool):AV:=.tag 1 (b:=b)
noncomputable def AV.int (i:Int):AV:=.tag 2 (i:=i)
noncomputable def AV.str (x:Str):AV:=.tag 3 (x:=x)
noncomputable def AV.tup (l:List AV):AV:=.tag 4 (l:=l)
noncomputable def AV.list (l:List AV):AV:=.tag 5 (l:=l)
noncomputable def AV.olist (z:List Int):AV:=.tag 6 (z:=z)
noncomputable def AV.set (z:List Int):AV:=.tag 7 (z:=z)
noncomputable def AV.idict (d:List (Int×Int)):AV:=.tag 8 (d:=d)
noncomputable def AV.sdict (e:List (Str×Int)):AV:=.tag 9 (e:=e)
noncomputable def AV.rng (i j:Int):AV:=.tag 10 (i:=i) (j:=j)
noncomputable def AV.fn (x:Str):AV:=.tag 11 (x:=x)
noncomputable def AV.blt (n:Nat):AV:=.tag 12 (i:=n)
noncomputable def AV.tab:AV:=.tag 13
noncomputable def AV.host:AV:=.tag 14
noncomputable def Cell.av:Cell→AV
 | .int i=>.int i
 | .str s=>.str s
 | .nums l=>.tup (l.map .int)
noncomputable def aU (r:Row):AV:=.tup (r.map Cell.av)
noncomputable def ak {α:Type} (o:Option α) (Q:α→Prop):Prop:=match o with
 | some a=>Q a
 | Option.none=>False
noncomputable def aa (b:Bool) (P R:Prop):Prop:=match b with
 | true=>P
 | false=>R
noncomputable abbrev ai (b:Bool) (P:Prop):Prop:=aa b P False
noncomputable def bC (k:Nat):List (Nat×Prop)→Prop
 | []=>False
 | p::r=>aa (Aw k p.1) p.2 (bC k r)
theorem ag {α:Type}{o:Option α}{Q:α→Prop} (h:ak o Q):∃a,o=some a∧Q a:=by
 cases o with
 | none=>exact h.elim
 | some a=>exact ⟨a,rfl,h⟩
theorem aA {b:Bool}{P R:Prop} (h:aa b P R):(b=true∧P)∨(b=false∧R):=by
 cases b with
 | true=>exact .inl ⟨rfl,h⟩
 | false=>exact .inr ⟨rfl,h⟩
theorem ac {b:Bool}{P:Prop} (h:ai b P):b=true∧P:=(aA h).elim id fun h=>h.2.elim
theorem ad {k n:Nat}{P:Prop}{r:List (Nat×Prop)} (h:bC k ((n,P)::r)):(k=n∧P)∨bC k r:=(aA h).imp (fun h=>⟨Am h.1,h.2⟩) fun h=>h.2
noncomputable def allM {α β:Type} (f:α→Option β):List α→Option (List β)
 | []=>some []
 | x::r=>(f x).bind fun y=>(allM f r).map (y::·)
noncomputable def dM {α:Type} (k:Nat) (f:AV→α) (a:AV):Option α:=cond (Aw a.k k) (some (f a)) Option.none
noncomputable def aB:List AV→Option (List Int):=allM (dM 2 AV.i)
noncomputable def aY:List AV→Option (List Bool):=allM (dM 1 AV.b)
noncomputable def cellOf (a:AV):Option Cell:=cond (Aw a.k 2) (some (.int a.i)) (cond (Aw a.k 3) (cond (PyData.strOk a.x) (some (.str a.x)) Option.none) (cond (Aw a.k 4) ((aB a.l).map .nums) Option.none))
noncomputable def bX:List AV→Option Row:=allM cellOf
mutual
noncomputable def AV.flat:AV→Bool
 | .mk k _ _ _ _ l _ _ _=>!(Aw k 5 || Aw k 6 || Aw k 8 || Aw k 9) && jh l
noncomputable def jh:List AV→Bool
 | []=>true
 | x::xs=>AV.flat x && jh xs
end
noncomputable def eU (x:Int):List Int→List Int
 | []=>[x]
 | y::r=>if x<y then x::y::r else if x=y then y::r else y::eU x r
noncomputable def bp (l:List Int):List Int:=l.foldl (fun acc x=>eU x acc) []
noncomputable def bh (l:List Int):Bool:=l.all fun x=>decide (0≤x) && decide (x<15)
noncomputable def cap:Nat:=1000000
noncomputable def rZ (a:Int):Bool:=decide (-(2 ^ 60)<a) && decide (a<2 ^ 60)
noncomputable abbrev K:=AV→Tbl→Prop
noncomputable def code (s:Str):Nat:=s.cps.toList.foldl (fun a c=>a*2097152+c+1) 0
noncomputable def eqL:List Nat→List Nat→Bool
 | [],[]=>true
 | a::l,b::r=>Aw a b && eqL l r
 | _,_=>false
noncomputable def seq (a b:Str):Bool:=Aw (code a) (code b) && eqL a.cps.toList b.cps.toList
open AV renaming int → Aa, list → Ad, tup → Al, tab → An, bool → Aq, set → AE, fn → Ba, rng → Bm, none → By, host → BD, idict → Cd, olist → Cj, str → CE
theorem vg:∀{l r:List Nat},eqL l r=true→l=r
 | [],[],_=>rfl
 | [],_::_,h=>nomatch h
 | _::_,[],h=>nomatch h
 | a::l,b::r,h=>by
  have h:=(Ay ..).mp (show (Aw a b && eqL l r)=true from h);rw [Am h.1,vg h.2]
theorem qw:∀l:List Nat,eqL l l=true
 | []=>rfl
 | a::l=>by show (Aw a a && eqL l l)=true;rw [Nat.beq_refl,qw l];rfl
theorem aM {a b:Str} (h:seq a b=true):a=b:=congrArg Str.mk (Array.toList_inj.mp (vg ((Ay ..).mp h).2))
theorem cP (a:Str):seq a a=true:=(Ay ..).mpr ⟨Nat.beq_refl _,qw _⟩
theorem cQ {a b:Str} (h:seq a b=false):a≠b:=fun e=>by replace h:=(e ..)▸h;replace h:=(cP ..)▸h;cases h
theorem bt {a b:Str} (h:a≠b):seq a b=false:=by
 cases e:seq a b with
 | false=>rfl
 | true=>exact absurd (aM e) h
noncomputable def vB (a b:Cell):Bool:=match a with
 | .int i=>(match b with
  | .int j=>decide (i=j)
  | _=>false)
 | .str x=>(match b with
  | .str y=>seq x y
  | _=>false)
 | .nums l=>(match b with
  | .nums m=>decide (l=m)
  | _=>false)
theorem vA {a b:Cell} (h:vB a b=true):a=b:=by
 cases a with
 | int i=>cases b with
  | int j=>exact congrArg Cell.int (of_decide_eq_true h)
  | _=>cases h
 | str x=>cases b with
  | str y=>exact congrArg Cell.str (aM h)
  | _=>cases h
 | nums l=>cases b with
  | nums m=>exact congrArg Cell.nums (of_decide_eq_true h)
  | _=>cases h
theorem pi (a:Cell):vB a a=true:=by
 cases a with
 | int i=>exact decide_eq_true rfl
 | str x=>exact cP x
 | nums l=>exact decide_eq_true rfl
noncomputable instance:DecidableEq Cell:=fun a b=>match h:vB a b with
 | true=>isTrue (vA h)
 | false=>isFalse fun e=>by rw [e,pi] at h;cases h
noncomputable def aP (x:Str):Bool:=seq x ("__debug__":Str) || (seq x (".0":Str) || seq x ("__classdict__":Str))
noncomputable def bu (x:Str):List (Str×NameKind)→Option NameKind
 | []=>none
 | p::r=>cond (seq p.1 x) (some p.2) (bu x r)
theorem aW (x:Str):∀l:List (Str×NameKind),bu x l=l.lookup x
 | []=>rfl
 | p::r=>by
  rw [Bz];unfold bu
  by_cases e:p.1=x
  ·rw [e,cP,show (x == x)=true from by simp];rfl
  ·rw [bt e,show (x == p.1)=false from by simpa using Ne.symm e];exact aW x r
noncomputable def iw (n m:Nat) (a b:AV) (P:Prop):Prop:=ai (Aw a.k n && Aw b.k m) P
noncomputable abbrev intP (a b:AV) (P:Int→Int→Prop):Prop:=iw 2 2 a b (P a.i b.i)
noncomputable abbrev setP (a b:AV) (P:List Int→List Int→Prop):Prop:=iw 7 7 a b (P a.z b.z)
noncomputable def addP (a b:AV) (Q:AV→Prop):Prop:=bC a.k [
 (2,ai (Aw b.k 2) (Q (.int (a.i+b.i)))),
 (4,ai (Aw b.k 4) ((a.l≠[]∧b.l≠[]∧a.l.length+b.l.length≤cap)∧Q (.tup (a.l++b.l)))),
 (5,ai (Aw b.k 5) (a.l.length+b.l.length≤cap∧Q (.list (a.l++b.l))))]
noncomputable def binP (op:Operator) (a b:AV) (Q:AV→Prop):Prop:=match op with
 | .Add=>addP a b Q
 | .Sub=>aa (Aw a.k 7) (setP a b fun l r=>(l=[0,1,2,3,4,5,6,7,8,9,10,11,12,13]∧r=[0,1])∧Q (.set [2,3,4,5,6,7,8,9,10,11,12,13])) (intP a b fun i j=>Q (.int (i - j)))
 | .Mult=>intP a b fun i j=>(rZ i=true∧rZ j=true)∧Q (.int (i*j))
 | .FloorDiv=>intP a b fun i j=>(j≠0∧j.natAbs<1073741824)∧Q (.int (BX i j))
 | .Mod=>intP a b fun i j=>j≠0∧Q (.int (Bi i j))
 | .Pow=>intP a b fun i j=>(i=2∧0≤j∧j≤64)∧Q (.int (2 ^ j.toNat))
 | .BitOr=>setP a b fun l r=>Q (.set (bp (l++r)))
 | .BitAnd=>setP a b fun l r=>Q (.set (l.filter fun x=>r.contains x))
 | _=>False
noncomputable def eqP (a b:AV) (Q:Bool→Prop):Prop:=bC a.k [
 (2,ai (Aw b.k 2) (Q (decide (a.i=b.i)))),
 (1,ai (Aw b.k 1) (Q (decide (a.b=b.b)))),
 (7,ai (Aw b.k 7) (Q (decide (a.z=b.z)))),
 (4,ai (Aw b.k 4) (ak (bX a.l) fun x=>ak (bX b.l) fun y=>Q (decide (x=y))))]
noncomputable def inP (a b:AV) (Q:Bool→Prop):Prop:=ai (Aw a.k 2) (bC b.k [
 (4,ak (aB b.l) fun l=>Q (l.contains a.i)),
 (5,ak (aB b.l) fun l=>Q (l.contains a.i)),
 (7,Q (b.z.contains a.i)),
 (8,Q (b.d.any fun p=>decide (p.1=a.i)))])
noncomputable def cmpP (op:CmpOp) (a b:AV) (Q:Bool→Prop):Prop:=match op with
 | .Eq=>eqP a b Q
 | .NotEq=>eqP a b fun x=>Q (!x)
 | .Lt=>intP a b fun i j=>Q (decide (i<j))
 | .LtE=>aa (Aw a.k 7) (setP a b fun l r=>Q (l.all fun x=>r.contains x)) (intP a b fun i j=>Q (decide (i≤j)))
 | .Gt=>intP a b fun i j=>Q (decide (i>j))
 | .GtE=>intP a b fun i j=>Q (decide (i≥j))
 | .In=>inP a b Q
 | .NotIn=>inP a b fun x=>Q (!x)
 | .Is=>ai (Aw b.k 0) (bC a.k [(0,Q true),(5,Q false)])
 | _=>False
noncomputable def au (a:AV) (Q:Bool→Prop):Prop:=bC a.k [(1,Q a.b),(2,Q (decide (a.i≠0))),(4,Q (!a.l.isEmpty)),(5,Q (!a.l.isEmpty)),(0,Q false)]
noncomputable def aq (a:AV) (Q:List AV→Prop):Prop:=bC a.k [(4,Q a.l),(5,Q a.l),
 (10,(-cap≤a.i∧a.i≤cap∧-cap≤a.j∧a.j≤cap)∧Q ((AB (a.j - a.i).toNat).map fun (n:Nat)=>Aa (a.i+(n:Int))))]
noncomputable def aj (i:Int) (n:Nat):Option Nat:=if 0≤i∧i<n then some i.toNat else if i=-1∧0<n then some (n - 1) else none
noncomputable def dT (a:AV) (i:Int) (Q:AV→Prop):Prop:=bC a.k [
 (4,ak ((aj i a.l.length).bind fun k=>a.l[k]?) Q),
 (5,(0≤i∧i<a.l.length)∧ak a.l[i.toNat]? Q),
 (3,(0≤i∧i<a.x.length∧i<cap)∧ak a.x.cps[i.toNat]? fun c=>Q (.str ⟨#[c]⟩))]
noncomputable def cutP {α:Type} (l:List α) (lo hi:Option Int) (Q:List α→Prop):Prop:=match lo,hi with
 | none,some b=>0≤b∧Q (l.take b.toNat)
 | some a,none=>0≤a∧Q (l.drop a.toNat)
 | _,_=>False
noncomputable def kc (a:AV) (lo hi:Option Int) (Q:AV→Prop):Prop:=bC a.k [
 (5,cutP a.l lo hi fun l=>Q (.list l)),(6,cutP a.z lo hi fun l=>Q (.list (l.map .int))),
 (4,lo=none∧ak hi fun b=>(b=-1∧2≤a.l.length)∧Q (.tup a.l.dropLast))]
end
noncomputable def SetTab (es:Array (Int×Value)) (t:SetTable):Prop :=
 t.dummies=#[]→(es.size≤4∧t.mask=7)∨(15≤t.mask∧t.place.toList=es.toList.map fun e=>e.1.toNat)
structure SetIn (P:Params) (es:Array (Int×Value)) (t:SetTable) (l:List Int):Prop where
 elems:∀e∈es.toList,(∃k,e.2=.int e.1 k)∧0≤e.1∧e.1<15
 nodup:(es.toList.map (·.1)).Nodup
 perm:(es.toList.map (·.1)).Perm l
 sorted:l.Pairwise (·<·)
 fits:t.fits es.size=true
 led:t.led=!P.followText "set-order"
 plain:t.plain=true
 rise:Rise t.place
 tab:SetTab es t
noncomputable def SetAt (P:Params) (h:Heap) (a:Addr) (l:List Int):Prop :=
 ∃es ep t,h.get? a=some { cls:=.type "set",dict:=none,data:=.set es ep t,slots:=#[] }∧SetIn P es t l
noncomputable def SetAtN (P:Params) (h:Heap) (a:Addr) (l:List Int):Prop :=
 ∃es ep t,h.get? a=some { cls:=.type "set",dict:=none,data:=.set es ep t,slots:=#[] }∧SetIn P es t l∧t.dummies=#[]
theorem SetAtN.at {P:Params}{h:Heap}{a:Addr}{l:List Int} (x:SetAtN P h a l):SetAt P h a l:=by obtain ⟨es,ep,t,e,i,_⟩:=x;exact ⟨es,ep,t,e,i⟩
theorem dA:∀{n:Nat}{l:List Int},l.Nodup→(∀x∈l,0≤x∧x<(n:Int))→l.length≤n
 | 0,l,_,hb=>by
  cases l with
  | nil=>exact Bh _
  | cons a r=>have:=hb a (.head _);lia
 | n+1,l,h,hb=>by
  have ih:=dA (n:=n) (h.erase (n:Int)) (fun x hx=>by
   refine aA2 ((List.Nodup.mem_erase_iff h).mp hx) fun h1 h2=>?_;have:=hb x h2;lia)
  rw [List.length_erase] at ih
  split at ih <;> lia
theorem insI_mem {k x:Int}:∀{l:List Int},x∈eU k l↔x=k∨x∈l
 | []=>by simp [eU]
 | y::r=>by
  unfold eU
  split
  ·simp
  ·split
   ·rename_i h;subst h;simp
   ·rw [Ai,insI_mem (l:=r),Ai];constructor
    ·rintro (h | h | h) <;> simp [h]
    ·rintro (h | h | h) <;> simp [h]
theorem eN {k:Int}:∀{l:List Int},l.Pairwise (·<·)→(eU k l).Pairwise (·<·)
 | [],_=>by simp [eU]
 | y::r,h=>by
  rw [AZ] at h;unfold eU
  split
  ·rename_i hk;refine AZ.mpr ⟨fun x hx=>?_,AZ.mpr h⟩;rcases Ai.mp hx with rfl | hx
   ·exact hk
   ·exact Int.lt_trans hk (h.1 x hx)
  ·split
   ·exact AZ.mpr h
   ·rename_i h1 h2;refine AZ.mpr ⟨fun x hx=>?_,eN h.2⟩;rcases insI_mem.mp hx with rfl | hx
    ·lia
    ·exact h.1 x hx
theorem iW {k:Int}:∀{l:List Int},l.Pairwise (·<·)→k∈l→eU k l=l
 | y::r,h,hm=>by
  rw [AZ] at h;unfold eU;rcases Ai.mp hm with rfl | hm
  ·rw [if_neg (Int.lt_irrefl _),if_pos rfl]
  ·have:=h.1 k hm;rw [if_neg (by lia),if_neg (by lia),iW h.2 hm]
theorem nB {k:Int}:∀{l:List Int},k∉l→(eU k l).Perm (k::l)
 | [],_=>.refl _
 | y::r,h=>by
  rw [Ai,not_or] at h;unfold eU
  split
  ·exact .refl _
  ·rw [if_neg h.1];exact ((nB h.2).cons y).trans (.swap k y r)
theorem dN {l:List Int} (h:l.Pairwise (·<·)):l.Nodup:=h.imp fun h e=>by subst e;exact Int.lt_irrefl _ h
theorem SetIn.mem {P:Params}{es:Array (Int×Value)}{t:SetTable}{l:List Int} (h:SetIn P es t l) {x:Int} (hx:x∈l):0≤x∧x<15:=by
 have:=h.perm.symm.mem_iff.mp hx;rw [AD] at this;obtain ⟨e,he,rfl⟩:=this;exact (h.elems e he).2
theorem SetIn.size {P:Params}{es:Array (Int×Value)}{t:SetTable}{l:List Int} (h:SetIn P es t l):es.size=l.length:=by
 refine rwD (h.perm.length_eq ..) ?_;refine rwC (Aj ..) ?_;refine rwC (Ax ..) ?_;exact rfl
theorem SetIn.le {P:Params}{es:Array (Int×Value)}{t:SetTable}{l:List Int} (h:SetIn P es t l):es.size≤15:=by
 refine rwC (h.size ..) ?_;exact dA (dN h.sorted) fun x hx=>h.mem hx
theorem iZ (j:Nat):SetTable.has #[] j=false:=rfl
theorem ka {t:SetTable}{j:Nat} (hd:t.dummies=#[]) (h:t.place[SetTable.below t.place j]?≠some j):t.slot j=.empty:=by
 unfold SetTable.slot;dsimp only;refine rwC (hd ..) ?_;refine rwC (iZ ..) ?_;refine rwC (if_neg (by simpa using h) ..) ?_;rfl
theorem oA {xs:Array Nat} (r:Rise xs) (h:∀e,e<8→xs[SetTable.below xs e]?=some e):∀e,e<8→∃i,e≤i∧xs[i]?=some e:=by
 intro e
 induction e with
 | zero=>intro he;exact ⟨_,Bj _,h 0 he⟩
 | succ e ih =>
  intro he;obtain ⟨i,h1,h2⟩:=ih (by lia);refine ⟨SetTable.below xs (e+1),?_,h _ he⟩;have h3:=h (e+1) he;obtain ⟨a1,a2⟩:=BH.mp h2;obtain ⟨b1,b2⟩:=BH.mp h3;rcases Co i (SetTable.below xs (e+1)) with hlt | hge
  ·lia
  ·have:=r.mono hge a1;rw [cg b1,cg a1,b2,a2] at this;lia
theorem probe7 {t:SetTable}{e:Nat} (hm:t.mask=7) (hd:t.dummies=#[]) (he:t.slot e=.empty) (h:Int):∀(d f i p:Nat),p<32→i<8→lcgN d i=e →
  ∃j,SetTable.probe.go t (fun _=>h+1) h (d+1+f) ⟨i,0,i,p,none⟩=some (.empty j none):=by
 intro d
 induction d with
 | zero =>
  intro f i p hp hi hd';have hd':i=e:=hd';subst hd';rw [CC,Nat.add_comm 1 f,SetTable.probe.go];dsimp only;refine rwC (he ..) ?_;exact ⟨_,rfl⟩
 | succ d ih =>
  intro f i p hp hi hd';rw [show d+1+1+f=(d+1+f)+1 by lia,SetTable.probe.go];dsimp only;cases hs:t.slot i with
  | empty=>exact ⟨_,rfl⟩
  | dummy =>
   unfold SetTable.slot at hs;dsimp only at hs;replace hs:=(hd ..)▸hs;replace hs:=(iZ ..)▸hs
   split at hs <;> cases hs
  | live x =>
   dsimp only;have hne:((h+1 == h)=false):=by rw [beq_eq_false_iff_ne];lia
   refine rwC (hne ..) ?_;have ha:t.advance ⟨i,0,i,p,none⟩=⟨rX i,0,rX i,0,none⟩:=by
    unfold SetTable.advance;dsimp only;refine rwC (if_neg (by lia) ..) ?_;refine rwC (hm ..) ?_;have hl:SetTable.leap 7 i p=(rX i,0):=by unfold SetTable.leap rX;refine rwC (show p / 32=0 by lia) ?_;exact rfl
    refine rwC (hl ..) ?_;dsimp only;have hr:SetTable.runEnd 7 (rX i) - rX i=0:=by unfold SetTable.runEnd;split <;> lia
    refine rwC (hr ..) ?_;exact rfl
   refine rwC (ha ..) ?_;exact ih f (rX i) 0 (by lia) (Nat.mod_lt _ (by lia)) hd'
theorem uL {t:SetTable}{k:Int} (hm:t.mask=7) (hd:t.dummies=#[]) (r:Rise t.place) (hs:t.place.size<8) (h0:0≤k) (h1:k<16):∃j,t.freeSlot k=some (j,false):=by
 have:∃e,e<8∧t.slot e=.empty:=by
  refine Classical.byContradiction fun hc=>?_;have hall:∀e,e<8→t.place[SetTable.below t.place e]?=some e:=fun e he=>Classical.byContradiction fun hn=>hc ⟨e,he,ka hd hn⟩;obtain ⟨i,h2,h3⟩:=oA r hall 7 (by lia);have:=(BH.mp h3).1;lia
 obtain ⟨e,he,hs⟩:=this;unfold SetTable.freeSlot;obtain ⟨d,hd1,hd2⟩:=um (k.toNat % 8) (by lia) e he;have hp:t.probeStart k=⟨k.toNat % 8,0,k.toNat % 8,k.toNat,none⟩:=by
  unfold SetTable.probeStart;refine rwC (gj h0 h1 ..) ?_;refine rwC (hm ..) ?_;have hr:SetTable.runEnd 7 (k.toNat % 8) - k.toNat % 8=0:=by unfold SetTable.runEnd;split <;> lia
  dsimp only;refine rwC (hr ..) ?_;exact rfl
 obtain ⟨j,hj⟩:=probe7 hm hd hs k d (219 - d) (k.toNat % 8) k.toNat (by lia) (by lia) hd2;replace hj:=(show d+1+(219 - d)=220 by lia)▸hj;unfold SetTable.probe;refine rwC (hp ..) ?_;refine rwC (hm ..) ?_;have:10*SetTable.turns 7=220:=rfl;refine rwC (this ..) ?_;refine rwC (hj ..) ?_;exact ⟨j,rfl⟩
theorem oZ {t:SetTable}{k:Int} (hm:15≤t.mask) (hd:t.dummies=#[]) (h0:0≤k) (h1:k<16) (hk:k.toNat∉t.place.toList):t.freeSlot k=some (k.toNat,false):=by
 have hs:t.slot k.toNat=.empty:=ka hd fun e=>hk (by
  rw [← AM] at e;exact AP e)
 delta SetTable.freeSlot SetTable.probe
 have e:k.toNat % (t.mask+1)=k.toNat:=Nat.mod_eq_of_lt (by lia);have:10*SetTable.turns t.mask=(10*t.mask+149)+1:=by unfold SetTable.turns;lia
 rw [this,SetTable.probe.go];have hp:(t.probeStart k).j=k.toNat:=by
  delta SetTable.probeStart
  refine rwC (gj h0 h1 ..) ?_;refine rwC (e ..) ?_;exact rfl
 rw [hp,hs];rfl
noncomputable def Grown (P:Params) (t:SetTable) (es:Array (Int×Value)) (k:Int) (x:Value) (l:List Int):Prop :=
 let L:=layNew t es k x
 L.2.2.1=false∧L.2.1.plain=true ∧
 (L.2.1.tooFull=false→SetIn P L.1 L.2.1 (eU k l)∧L.2.1.dummies=#[]) ∧
 (L.2.1.tooFull=true→∀t',t'={ L.2.1 with plain:=L.2.1.plain }→SetIn P (relayAll t' L.1 (SetTable.grown L.1.size)).1 (relayAll t' L.1 (SetTable.grown L.1.size)).2.1 (eU k l)∧(relayAll t' L.1 (SetTable.grown L.1.size)).2.1.dummies=#[])
theorem kQ {P:Params}{es:Array (Int×Value)}{t:SetTable}{l:List Int}{mask:Nat}{order:Array Nat}{t':SetTable}{finger moves:Nat}
  (e1:∀e∈es.toList,(∃k,e.2=.int e.1 k)∧0≤e.1∧e.1<15) (e2:(es.toList.map (·.1)).Nodup) (e3:(es.toList.map (·.1)).Perm l) (e4:l.Pairwise (·<·)) (hl:t.led=!P.followText "set-order") (hp:t.plain=true)
  (hm:mask=7∧es.size≤4∨15≤mask) (hb:es.size≤15) (h:SetTable.laid mask finger moves t.led t.plain (es.map (·.1))=some (t',order)) :
  SetIn P (order.filterMap (es[·]?)) t' l∧t'.dummies=#[]∧(order.filterMap (es[·]?)).size=es.size∧order.toList.Perm (AB es.size)∧t'.fits es.size=true∧t'.mask=mask:=by
 refine bc fun zz=>?_;refine eE2 (lB (mask:=mask) (finger:=finger) (moves:=moves) (led:=t.led) (plain:=t.plain) (es:=es) (by lia) (fun e he=>by have:=(e1 e he).2;lia) e2) fun t₁ o₁ zt1=>aA9 zt1 fun a0 a1 a2 a3 a4 a5 a6 a7 a8=>?_;refine zz ?_;replace a0:=(h ..)▸a0;obtain ⟨rfl,rfl⟩:=Prod.mk.inj (As a0);have hperm:=qX a1;have hsz:(order.filterMap (es[·]?)).size=es.size:=by refine rwD (Ax ..) ?_;refine rwC (hperm.length_eq ..) ?_;refine rwC (Ax ..) ?_;exact rfl
 refine ⟨⟨fun e he=>e1 e (hperm.mem_iff.mp he),?_,?_,e4,by refine rwC (hsz ..) ?_;exact a3,a4.trans hl,a5.trans hp,a2,fun _=>?_⟩,a7,hsz,a1,a3,a6⟩
 ·exact (hperm.map _).nodup_iff.mpr e2
 ·exact (hperm.map _).trans e3
 ·refine bc fun zz=>?_;rcases hm with hm | hm
  ·refine zz ?_;exact .inl ⟨by refine rwC (hsz ..) ?_;exact hm.2,a6.trans hm.1⟩
  ·refine zz ?_;exact .inr ⟨by refine rwC (a6 ..) ?_;exact hm,a8 hm⟩
theorem gA {n:Nat} (h8:8≤n) (hn:n≤127):15≤SetTable.sizeAbove n - 1:=by
 have:∀n:Nat,n<128→8≤n→15≤SetTable.sizeAbove n - 1:=by decide +kernel
 exact this n (by lia) h8
theorem SetIn.grow {P:Params}{es:Array (Int×Value)}{t:SetTable}{l:List Int}{k:Int}{tok:Tok} (h:SetIn P es t l) (hd:t.dummies=#[]) (h0:0≤k) (h1:k<15) (hk:k∉l) :
  Grown P t es k (.int k tok) l:=by
 have hmem:k∉es.toList.map (·.1):=fun m=>hk (h.perm.mem_iff.mp m);have hsize:=h.le;have hfit:=h.fits;simp only [SetTable.fits,SetTable.fill,Ay,beq_iff_eq,decide_eq_true_eq,hd] at hfit;have hfree:∃j,t.freeSlot k=some (j,false)∧(15≤t.mask→t.mask≠7→j=k.toNat):=by
  refine bc fun zz=>?_;rcases h.tab hd with ⟨h4,hm⟩ | ⟨hm,hp⟩
  ·refine zz ?_;refine bc fun zz=>?_;obtain ⟨j,hj⟩:=uL hm hd h.rise (by lia) h0 (by lia);refine zz ?_;exact ⟨j,hj,fun _ h=>absurd hm h⟩
  ·refine zz ?_;refine ⟨_,oZ hm hd h0 (by lia) ?_,fun _ _=>rfl⟩;rw [hp,AD];intro zh1;refine bc fun zz=>?_;obtain ⟨e,he,hee⟩:=zh1;refine zz ?_;refine hmem (AD.mpr ⟨e,he,?_⟩);have:=(h.elems e he).2;lia
 refine bc fun zz=>?_;obtain ⟨j,hj,hjk⟩:=hfree;refine zz ?_;have hL:layNew t es k (.int k tok)=(SetTable.insertAt es (SetTable.below t.place j) (k,.int k tok),{ t with place:=SetTable.insertAt t.place (SetTable.below t.place j) j },false,false):=by
  unfold layNew;refine rwC (hj ..) ?_;dsimp only [SetTable.put];refine rwC (hd ..) ?_;refine rwC (iZ ..) ?_;simp only [Bn,if_false];have e1:(SetTable.insertAt es (SetTable.below t.place j) (k,Value.int k tok)).size=es.size+1:=by
   refine rwD (Ax ..) ?_;refine rwC (SetTable.insertAt_perm _ _ _).length_eq ?_;simp
  have e2:(SetTable.insertAt t.place (SetTable.below t.place j) j).size=es.size+1:=by
   refine rwD (Ax ..) ?_;refine rwC (SetTable.insertAt_perm _ _ _).length_eq ?_;simp [hfit.1]
  have e3:({ t with place:=SetTable.insertAt t.place (SetTable.below t.place j) j,dummies:=#[] }:SetTable).fits (SetTable.insertAt es (SetTable.below t.place j) (k,Value.int k tok)).size=true:=by
   simp only [SetTable.fits,SetTable.fill,e1,e2,Ay,beq_iff_eq,decide_eq_true_eq,true_and];refine rwC (show (#[]:Array Nat).size=0 from rfl) ?_;refine bc fun zz=>?_;rcases h.tab hd with ⟨h4,hm⟩ | ⟨hm,hp⟩
   ·refine zz ?_;lia
   ·refine zz ?_;have:(k::es.toList.map (·.1)).length≤15:=dA (Bb.mpr ⟨hmem,h.nodup⟩) (fun x hx=>by
     refine bc fun zz=>?_;rcases Ai.mp hx with zr2 | hx
     ·refine zz ?_;subst zr2;exact ⟨h0,h1⟩
     ·refine zz ?_;rw [AD] at hx;refine bc fun zz=>?_;obtain ⟨e,he,zr3⟩:=hx;refine zz ?_;subst zr3;exact (h.elems e he).2)
    simp only [AK,Aj,Ax] at this;lia
  unfold SetTable.orStandIn;have e4:t={ t with dummies:=#[] }:=by refine rwD (hd ..) ?_;exact rfl
  refine rwC (if_pos e3 ..) ?_;refine rwC (e3 ..) ?_;rfl
 unfold Grown;refine rwC (hL ..) ?_;dsimp only;have hperm:=SetTable.insertAt_perm es (SetTable.below t.place j) (k,Value.int k tok);replace hperm:=(Ca ..)▸hperm;have hperm:=hperm.trans (List.perm_append_singleton _ _);have f1:∀e∈(SetTable.insertAt es (SetTable.below t.place j) (k,Value.int k tok)).toList,(∃u,e.2=.int e.1 u)∧0≤e.1∧e.1<15:=by
  intro e he;refine bc fun zz=>?_;rcases Ai.mp (hperm.mem_iff.mp he) with zr4 | he
  ·refine zz ?_;subst zr4;exact ⟨⟨tok,rfl⟩,h0,h1⟩
  ·refine zz ?_;exact h.elems e he
 have f2:((SetTable.insertAt es (SetTable.below t.place j) (k,Value.int k tok)).toList.map (·.1)).Nodup :=
  (hperm.map _).nodup_iff.mpr (Bb.mpr ⟨hmem,h.nodup⟩)
 have f3:((SetTable.insertAt es (SetTable.below t.place j) (k,Value.int k tok)).toList.map (·.1)).Perm (eU k l) :=
  ((hperm.map (fun e:Int×Value=>e.1)).trans (h.perm.cons k)).trans (nB hk).symm
 have f4:=eN (k:=k) h.sorted;have f5:(SetTable.insertAt es (SetTable.below t.place j) (k,Value.int k tok)).size=es.size+1:=by
  refine rwD (Ax ..) ?_;refine rwC (hperm.length_eq ..) ?_;simp
 have f6:(SetTable.insertAt t.place (SetTable.below t.place j) j).size=es.size+1:=by
  refine rwD (Ax ..) ?_;refine rwC (SetTable.insertAt_perm _ _ _).length_eq ?_;simp [hfit.1]
 have f7:(SetTable.insertAt es (SetTable.below t.place j) (k,Value.int k tok)).size≤15:=by
  refine rwD (Ax ..) ?_;refine rwD (Aj (f:=(·.1)) ..) ?_;exact dA f2 fun x hx=>by
   rw [AD] at hx;refine bc fun zz=>?_;obtain ⟨e,he,zr5⟩:=hx;refine zz ?_;subst zr5;exact (f1 e he).2
 refine ⟨rfl,h.plain,fun hn=>⟨⟨f1,f2,f3,f4,?_,h.led,h.plain,oV h.rise (nG hj),fun _=>?_⟩,hd⟩,fun ht t' et=>?_⟩
 ·simp only [SetTable.fits,SetTable.fill,f5,f6,Ay,beq_iff_eq,decide_eq_true_eq,true_and,hd];refine rwC (show (#[]:Array Nat).size=0 from rfl) ?_;rcases h.tab hd with ⟨h4,hm⟩ | ⟨hm,hp⟩ <;> lia
 ·refine bc fun zz=>?_;rcases h.tab hd with ⟨h4,hm⟩ | ⟨hm,hp⟩
  ·refine zz ?_;refine .inl ⟨?_,hm⟩;simp only [SetTable.tooFull,SetTable.fill,f6,hm,hd,decide_eq_false_iff_not] at hn;replace hn:=(show (#[]:Array Nat).size=0 from rfl)▸hn;lia
  ·refine zz ?_;refine .inr ⟨hm,?_⟩;have:=hjk hm (by lia);subst this;refine rwC (SetTable.toList_insertAt ..) ?_;refine rwC (SetTable.toList_insertAt ..) ?_;refine rwC (hp ..) ?_;simp [List.map_take,List.map_drop]
 ·subst et;simp only [SetTable.tooFull,SetTable.fill,f6,hd,decide_eq_true_eq] at ht;replace ht:=(show (#[]:Array Nat).size=0 from rfl)▸ht;have hmask:7≤t.mask:=by rcases h.tab hd with ⟨h4,hm⟩ | ⟨hm,hp⟩ <;> lia
  have hbig:15≤SetTable.sizeAbove (SetTable.grown (SetTable.insertAt es (SetTable.below t.place j) (k,Value.int k tok)).size) - 1:=by
   unfold SetTable.grown;refine rwC (if_neg (by lia) ..) ?_;exact gA (by lia) (by lia)
  refine bc fun zz=>?_;obtain ⟨t₁,o₁,a0,_⟩:=lB (mask:=SetTable.sizeAbove (SetTable.grown (SetTable.insertAt es (SetTable.below t.place j) (k,Value.int k tok)).size) - 1) (finger:=t.finger) (moves:=SetTable.movedTo { t with place:=SetTable.insertAt t.place (SetTable.below t.place j) j } (SetTable.sizeAbove (SetTable.grown (SetTable.insertAt es (SetTable.below t.place j) (k,Value.int k tok)).size) - 1)) (led:=t.led) (plain:=t.plain)
   (es:=SetTable.insertAt es (SetTable.below t.place j) (k,Value.int k tok)) (.inr ⟨hbig,f7⟩) (fun e he=>by have:=(f1 e he).2;lia) f2
  obtain ⟨b1,b2,b3,b4,b5,_⟩:=kQ (P:=P) (t:=t) f1 f2 f3 f4 h.led h.plain (.inr hbig) f7 a0;refine zz ?_;have hR:relayAll { t with place:=SetTable.insertAt t.place (SetTable.below t.place j) j,plain:=t.plain } (SetTable.insertAt es (SetTable.below t.place j) (k,Value.int k tok)) (SetTable.grown (SetTable.insertAt es (SetTable.below t.place j) (k,Value.int k tok)).size)=(o₁.filterMap ((SetTable.insertAt es (SetTable.below t.place j) (k,Value.int k tok))[·]?),t₁,false):=by
   unfold relayAll SetTable.relaid;refine rwC (a0 ..) ?_;dsimp only;have c1:coversAll o₁ (SetTable.insertAt es (SetTable.below t.place j) (k,Value.int k tok)).size=true:=by
    unfold coversAll;exact List.isPerm_iff.mpr b4
   refine rwC (c1 ..) ?_;refine rwC (b3 ..) ?_;refine rwC (b5 ..) ?_;rfl
  refine rwC (hR ..) ?_;exact ⟨b1,b2⟩
end Mine
namespace Mine
open PySem PySem.W PySem.Calls PyProof.Rows
open AV renaming int → Aa, list → Ad, tup → Al, tab → An, bool → Aq, set → AE, fn → Ba, rng → Bm, none → By, host → BD, idict → Cd, olist → Cj, str → CE
theorem bL {k:Int} (h0:0≤k) (h1:k<15):hashInt k=k:=by
 have:∀n:Nat,n<15→hashInt (n:Int)=n:=by decide +kernel
 refine eE1 (Int.eq_ofNat_of_zero_le h0) fun n zs1=>?_;subst zs1;exact this n (by lia)
section
variable {prog:Program}{w:World}{A:Around}{E:Value→Shared→Prop}{s:Shared}{a:Addr}{l:List Int}
theorem SetIn.elemsOf {es:Array (Int×Value)}{t:SetTable} (h:SetIn w.params es t l):ElemsOf (intKind prog w) es.toList:=by
 intro e he;refine bc fun zz=>?_;refine aA3 (h.elems e he) fun zk2 h2 h3=>?_;obtain ⟨k,h1⟩:=zk2;refine zz ?_;refine ⟨⟨e.1,by refine rwC (h1 ..) ?_;simp [intKind,Value.isInt],?_⟩,by refine rwC (h1 ..) ?_;rfl⟩;exact (bL h2 h3).symm
theorem SetIn.find {es:Array (Int×Value)}{t:SetTable} (h:SetIn w.params es t l) (k:Int):(∃e∈es.toList,(intKind prog w).is k e.2=true)↔k∈l:=by
 rw [← h.perm.mem_iff,AD];constructor
 ·rintro ⟨e,he,hk⟩;obtain ⟨⟨u,h1⟩,_⟩:=h.elems e he;rw [h1] at hk;refine ⟨e,he,?_⟩;simpa [intKind,Value.isInt] using hk
 ·rintro ⟨e,he,rfl⟩;obtain ⟨⟨u,h1⟩,_⟩:=h.elems e he;exact ⟨e,he,by rw [h1];simp [intKind,Value.isInt]⟩
theorem SetAt.setOf {h:Heap} (x:SetAt w.params h a l):h.SetOf (intKind prog w) a (fun k=>l.contains k) l.length:=by
 refine bc fun zz=>?_;refine eE3 (x) fun es ep t zt3=>aA2 zt3 fun e i=>?_;refine zz ?_;refine ⟨_,es,ep,t,e,⟨rfl,rfl,rfl⟩,rfl,i.elemsOf,fun k=>?_,BB i.le (by decide),i.fits,i.size⟩;rw [i.find,Au]
theorem fe {Q:Value→Shared→Prop}
  (h:∀o,SetAtN w.params (s.heap.push o) s.heap.objs.size []→Q (.ref s.heap.objs.size) { s with heap:=s.heap.push o }):Av (model prog w) A (newSet (.type "set")) Q E s:=by
 unfold newSet setsByText;refine Ac (Ac (wpAny_askSetting (Ag ?_)));dsimp only;simp only [newObj];refine Ac (wpAny_alloc (Ag (h _ ⟨#[],0,_,Heap.get?_push_size _ rfl,⟨fun e he=>by simp at he,by simp,by simp,.nil,by rfl,rfl,rfl,fun i j _ hj=>absurd hj (BJ _),fun _=>.inl ⟨Bj _,rfl⟩⟩,rfl⟩)))
theorem bV {es es':Array (Int×Value)}{ep:Nat}{t t':SetTable}{Q:Unit→Shared→Prop}
  (ho:s.heap.get? a=some { cls:=.type "set",dict:=none,data:=.set es ep t,slots:=#[] }) (hz:es'.size≤15)
  (h:∀h',Heap.SameBut a s.heap h'→h'.get? a=some { cls:=.type "set",dict:=none,data:=.set es' (ep+1) t',slots:=#[] }→Q () { s with heap:=h' }) :
  Av (model prog w) A (storeSet a es' t') Q E s:=by
 refine wpAny_storeSet_of ho rfl (h _ (Heap.SameBut.update s.heap a (Obj.putSet es' t')) ?_) (by unfold sizeLine;lia);have:=Heap.get?_update_self (Obj.putSet es' t') ho (by rw [putSet_of es' t' rfl];rfl);rw [putSet_of es' t' rfl] at this;exact this
theorem ec {k:Int}{tok:Tok}{Q:Bool→Shared→Prop} (hS:SetAtN w.params s.heap a l) (h0:0≤k) (h1:k<15)
  (h:∀h' b,Heap.SameBut a s.heap h'→SetAtN w.params h' a (eU k l)→Q b { s with heap:=h' }) :
  Av (model prog w) A (setAddHashed a (.int k tok) k) Q E s:=by
 have hkey:(intKind prog w).is k (.int k tok)=true:=by simp [intKind,Value.isInt]
 refine eE3 (hS) fun es ep t zt4=>aA3 zt4 fun ho hi hdm=>?_;have hel:=hi.elemsOf (prog:=prog);have hb:es.size<scanBound:=BB hi.le (by decide);have hhash:(intKind prog w).hash k=k:=bL h0 h1
 skip
 refine Bd (Ac (AX ho rfl hi.fits ?_));dsimp only;refine rwC (byScan_of (knd:=intKind prog w) (x:=.int k tok) rfl hb hel ..) ?_;simp only [↓reduceIte]
 skip
 refine Ac ?_;refine Ac (wpAny_rule ?_);have hsc:=fun (Q:ScanMet→Shared→Prop) hq=>wpAny_setScan_of (A:=A) (E:=E) (s:=s) (knd:=intKind prog w) (adding:=true) (Q:=Q) hkey ho rfl hi.fits hel hq;replace hsc:=(hhash ..)▸hsc;refine Ac (hsc _ ?_);cases hr:List.findIdx? (fun e=>(intKind prog w).is k e.2) es.toList with
 | some j =>
  skip
  obtain ⟨hj,hpj,_⟩:=Bf.mp hr;have hm:k∈l:=(hi.find k).mp ⟨es.toList[j],BG hj,hpj⟩;refine Ag (Ag ?_);have:=h s.heap false (Heap.SameBut.refl a s.heap) ⟨es,ep,t,ho,by refine rwC (iW hi.sorted hm ..) ?_;exact hi,hdm⟩;exact this
 | none =>
  skip
  have hm:k∉l:=fun hm=>by
   refine eE1 ((hi.find (prog:=prog) k).mpr hm) fun e zt5=>aA2 zt5 fun he hp=>?_;have:=Bu.mp hr e he;replace this:=(hp ..)▸this;exact Bool.noConfusion this
  have hg:=hi.grow (tok:=tok) hdm h0 h1 hm;unfold Grown at hg;generalize hL:layNew t es k (.int k tok)=L at hg ⊢;obtain ⟨es1,t1,wd,gave⟩:=L;dsimp only at hg ⊢;refine aA4 (hg) fun zs6 hpl hg1 hg2=>?_;subst zs6;have hgw:∀(b:Bool) {s₁:Shared}{Q':Unit→Shared→Prop},Q' () s₁→Av (model prog w) A (match b with | true=>rule "set.scan.the-table-gave-way" | false=>pure ()) Q' E s₁ :=
   fun b s₁ Q' hq=>by cases b <;> first | exact Ag hq | exact wpAny_rule hq
  have hsz:es1.size≤15:=by
   cases htf:t1.tooFull with
   | false=>exact (hg1 htf).1.le
   | true =>
    have:=(hg2 htf _ rfl).1.le;replace this:=(Ax ..)▸this;replace this:=(relayAll_perm _ _ _).length_eq▸this;replace this:=(Ax ..)▸this;exact this
  have he1:t1={ t1 with plain:=true }:=by refine rwD (hpl ..) ?_;exact rfl
  refine Ac (hgw _ ?_);refine bO hpl ?_;refine Ac ?_;refine rwC (hashByValue_scannable 8 rfl ..) ?_;refine Ag ?_;refine rwC (if_pos (show plainKind (Value.int k tok)=true from rfl) ..) ?_;refine Ac (bV ho hsz fun h' hsb ho'=>?_);refine rwC (show (!false && t1.tooFull)=t1.tooFull by simp) ?_;cases htf:t1.tooFull with
  | false =>
   refine aK AF ?_;refine Ag (Ag (h h' true hsb ⟨es1,_,t1,ho',hg1 htf⟩))
  | true =>
   refine bO rfl ?_;refine aA2 (hg2 htf t1 rfl) fun q1 q2=>?_;generalize hR:relayAll t1 es1 (SetTable.grown es1.size)=Rl at q1 q2 ⊢;obtain ⟨es2,t2,gave2⟩:=Rl;dsimp only at q1 q2 ⊢;refine Ac (hgw _ ?_);refine Ac (bV ho' q1.le fun h'' hsb' ho''=>?_);exact Ag (Ag (h h'' true (hsb.trans hsb') ⟨es2,_,t2,ho'',q1,q2⟩))
end
noncomputable def mrg (l l2:List Int):List Int:=l2.foldl (fun acc x=>eU x acc) l
theorem fY {x:Int}:∀{l2 l:List Int},x∈mrg l l2↔x∈l∨x∈l2
 | [],l=>by simp [mrg]
 | y::r,l=>by
  refine (?_:x∈mrg (eU y l) r↔_);rw [fY (l2:=r),insI_mem,Ai];constructor
  ·rintro ((h | h) | h) <;> simp [h]
  ·rintro (h | h | h) <;> simp [h]
theorem cB:∀{l2 l:List Int},l.Pairwise (·<·)→(mrg l l2).Pairwise (·<·)
 | [],_,h=>h
 | y::r,l,h=>cB (l2:=r) (l:=eU y l) (eN h)
theorem bn:∀{l r:List Int},l.Pairwise (·<·)→r.Pairwise (·<·)→(∀x,x∈l↔x∈r)→l=r
 | [],[],_,_,_=>rfl
 | [],b::r,_,_,h=>absurd ((h b).mpr (.head _)) (by simp)
 | a::l,[],_,_,h=>absurd ((h a).mp (.head _)) (by simp)
 | a::l,b::r,h1,h2,h=>by
  rw [AZ] at h1 h2;have ha:a∈b::r:=(h a).mp (.head _);have hb:b∈a::l:=(h b).mpr (.head _);have e:a=b:=by
   rcases Ai.mp ha with e | ha
   ·exact e
   ·rcases Ai.mp hb with e | hb
    ·exact e.symm
    ·have:=h2.1 a ha;have:=h1.1 b hb;lia
  subst e;rw [bn h1.2 h2.2 fun x=>?_];constructor
  ·intro hx;rcases Ai.mp ((h x).mp (.tail _ hx)) with rfl | hx'
   ·exact absurd (h1.1 _ hx) (Int.lt_irrefl _)
   ·exact hx'
  ·intro hx;rcases Ai.mp ((h x).mpr (.tail _ hx)) with rfl | hx'
   ·exact absurd (h2.1 _ hx) (Int.lt_irrefl _)
   ·exact hx'
theorem dG {α:Type}:∀{l:List α}{i:Nat} (h:i<l.length),(l[i]::l.eraseIdx i).Perm l
 | a::r,0,_=>.refl _
 | a::r,i+1,h=>(List.Perm.swap _ _ _).trans ((dG (l:=r) (i:=i) (by simpa using h)).cons a)
theorem pick_go {α:Type} (next:Nat→Nat):∀(fuel k:Nat) (left:List α) (out:Array α),fuel=left.length→(pickOrder.go next fuel k left out).toList.Perm (out.toList++left):=by
 intro fuel
 induction fuel with
 | zero =>
  intro k left out h;have:left=[]:=List.length_eq_zero_iff.mp h.symm;subst this;rw [pickOrder.go];simp
 | succ n ih =>
  intro k left out h;rw [pickOrder.go];have hlt:next k % left.length<left.length:=Nat.mod_lt _ (by lia)
  rw [AH hlt]
  skip
  refine (ih (k+1) _ _ (by refine rwC (List.length_eraseIdx_of_lt hlt ..) ?_;lia)).trans ?_;refine rwC (Ca ..) ?_;refine rwC (AQ ..) ?_;refine List.Perm.append_left _ ?_;exact dG hlt
theorem mG {α:Type} (next:Nat→Nat) (xs:Array α):(pickOrder next xs).toList.Perm xs.toList:=by
 have:=pick_go next xs.size 0 xs.toList #[] (by simp)
 simpa [pickOrder] using this
theorem ii {β:Type}{M:Model}{A:Around}{E:Value→Shared→Prop} (I:List β→Shared→Prop) {f:β→PUnit→Sem (ForInStep PUnit)}{Q:PUnit→Shared→Prop}
  (step:∀x r s,I (x::r) s→Av M A (f x ⟨⟩) (fun st s'=>st=.yield ⟨⟩∧I r s') E s) (done:∀s,I [] s→Q ⟨⟩ s):∀(l:List β) (s:Shared),I l s→Av M A (forIn l (⟨⟩:PUnit) f) Q E s
 | [],s,h=>by refine rwC (Ck ..) ?_;exact Ag (done s h)
 | x::r,s,h=>by
  refine rwC (CB ..) ?_;refine Ac (AC (step x r s h) (fun st s' hh=>?_) fun _ _ e=>e);obtain ⟨rfl,h'⟩:=hh;exact ii I step done r s' h'
section
variable {prog:Program}{w:World}{A:Around}{E:Value→Shared→Prop}{s:Shared}{a:Addr}{l l2:List Int}
theorem ke {es:Array (Int×Value)}{ep:Nat}{t:SetTable}{Q:Array (Int×Value)→Shared→Prop}
  (ho:s.heap.get? a=some { cls:=.type "set",dict:=none,data:=.set es ep t,slots:=#[] }) (hi:SetIn w.params es t l) (h:∀es',es'.toList.Perm es.toList→Q es' s):Av (model prog w) A (setWalk a) Q E s:=by
 skip
 refine Ac (AX ho rfl hi.fits ?_)
 skip
 refine Ac (Ac (wpAny_askSetting (Ag ?_)));refine (?_:Av _ _ (if w.params.followText "set-order"=true then _ else _) _ _ s);cases hf:w.params.followText "set-order" with
 | true =>
  refine bO rfl ?_;refine Ac (wpAny_askSetting (Ag (h _ (mG _ _))))
 | false =>
  refine aK AF ?_;have hp:=hi.plain;have hl:t.led=true:=by refine rwC (hi.led ..) ?_;refine rwC (hf ..) ?_;rfl
  refine (?_:Av _ _ (if (!t.plain && decide (es.size>1))=true then _ else _) _ _ s);refine rwC (if_neg (show ¬((!t.plain && decide (es.size>1))=true) by rw [hp];exact AF) ..) ?_;refine (?_:Av _ _ ((if (!t.led && decide (es.size>1))=true then (unsupported _:Sem PUnit) else pure ⟨⟩) >>= fun _=>pure es) _ _ s);refine rwC (if_neg (show ¬((!t.led && decide (es.size>1))=true) by rw [hl];exact AF) ..) ?_;exact Ac (Ag (Ag (h _ (.refl _))))
theorem dj {es:Array (Int×Value)}{ep:Nat}{t:SetTable}{others:List Addr}{filled:Option Addr}{Q:Array (Int×Value)→Shared→Prop}
  (ho:s.heap.get? a=some { cls:=.type "set",dict:=none,data:=.set es ep t,slots:=#[] }) (hi:SetIn w.params es t l) (h:∀es',es'.toList.Perm es.toList→Q es' s):Av (model prog w) A (setWalkUnseen a others filled) Q E s:=by
 skip
 refine Ac (AX ho rfl hi.fits ?_)
 skip
 refine Ac (Ac (wpAny_askSetting (Ag ?_)));have hc:(w.params.followText "set-order" || (t.led && t.plain) || decide (es.size≤1))=true:=by
  refine rwC (hi.led ..) ?_;refine rwC (hi.plain ..) ?_;cases w.params.followText "set-order" <;> rfl
 skip
 refine bO hc ?_
 first | exact ke ho hi h | exact Ac (ke ho hi fun es' p=>Ag (h es' p))
noncomputable def Roomy (P:Params) (h:Heap) (a:Addr) (l:List Int) (more:Nat):Prop :=
 ∃es ep t,h.get? a=some { cls:=.type "set",dict:=none,data:=.set es ep t,slots:=#[] }∧SetIn P es t l∧t.dummies=#[]∧(t.mask=7∧es.size+more≤4∨15≤t.mask)
theorem relay_ok {wanted:Nat}{Q:Unit→Shared→Prop} (hS:SetAtN w.params s.heap a l) (h8:8≤wanted) (h60:wanted≤60) (more:Nat)
  (h:∀h',Heap.SameBut a s.heap h'→Roomy w.params h' a l more→Q () { s with heap:=h' }):Av (model prog w) A (setRelay a wanted) Q E s:=by
 refine bc fun zz=>?_;refine eE3 (hS) fun es ep t zt1=>aA3 zt1 fun ho hi hd=>?_;refine zz ?_;have hbig:=gA h8 (show wanted≤127 by lia);refine bc fun zz=>?_;obtain ⟨t₁,o₁,a0,_⟩:=lB (mask:=SetTable.sizeAbove wanted - 1) (finger:=t.finger) (moves:=t.movedTo (SetTable.sizeAbove wanted - 1)) (led:=t.led) (plain:=t.plain)
   (es:=es) (.inr ⟨hbig,hi.le⟩) (fun e he=>by have:=(hi.elems e he).2;lia) hi.nodup
 refine aA6 (kQ (P:=w.params) (t:=t) hi.elems hi.nodup hi.perm hi.sorted hi.led hi.plain (.inr hbig) hi.le a0) fun b1 b2 b3 b4 b5 b6=>?_;refine zz ?_
 skip
 refine Ac (AX ho rfl hi.fits ?_)
 skip
 have hs:¬SetTable.sizeAbove wanted>sizeLine:=by
  have:∀n:Nat,n<61→¬SetTable.sizeAbove n>sizeLine:=by decide +kernel
  exact this wanted (by lia)
 refine aK hs ?_
 delta SetTable.relaid
 refine rwC (a0 ..) ?_;refine Ac ?_;refine (?_:Av _ _ (if ((o₁.filterMap (es[·]?)).size != es.size)=true then _ else pure (o₁.filterMap (es[·]?),t₁)) _ _ s);refine rwC (if_neg (by rw [b3];simp) ..) ?_;refine Ag ?_;exact bV ho b1.le fun h' hsb ho'=>h h' hsb ⟨_,_,t₁,ho',b1,b2,.inr (by refine rwC (b6 ..) ?_;exact hbig)⟩
theorem qW {more:Nat}{Q:Unit→Shared→Prop} (hS:SetAtN w.params s.heap a l) (hm:more≤15)
  (h:∀h',Heap.SameBut a s.heap h'→Roomy w.params h' a l more→Q () { s with heap:=h' }):Av (model prog w) A (setRoomFor a more) Q E s:=by
 refine bc fun zz=>?_;refine eE3 (hS) fun es ep t zt2=>aA3 zt2 fun ho hi hd=>?_;refine zz ?_;unfold setRoomFor;refine Ac (AX ho rfl hi.fits ?_);dsimp only;have hfit:=hi.fits;simp only [SetTable.fits,SetTable.fill,Ay,beq_iff_eq,decide_eq_true_eq,hd] at hfit;have hle:=hi.le;unfold SetTable.roomFor
 by_cases hc:(t.fill+more)*5≥t.mask*3
 ·refine rwC (if_pos hc ..) ?_;dsimp only;simp only [SetTable.fill,hd] at hc;replace hc:=(show (#[]:Array Nat).size=0 from rfl)▸hc;have hmask:7≤t.mask:=by rcases hi.tab hd with ⟨_,h⟩ | ⟨h,_⟩ <;> lia
  exact relay_ok ⟨es,ep,t,ho,hi,hd⟩ (by lia) (by lia) more h
 ·refine rwC (if_neg hc ..) ?_;dsimp only;refine Ag (h s.heap (Heap.SameBut.refl _ _) ⟨es,ep,t,ho,hi,hd,?_⟩);refine bc fun zz=>?_;rcases hi.tab hd with ⟨h4,hm⟩ | ⟨hm,_⟩
  ·refine zz ?_;refine .inl ⟨hm,?_⟩;simp only [SetTable.fill,hd,hm] at hc;replace hc:=(show (#[]:Array Nat).size=0 from rfl)▸hc;lia
  ·refine zz ?_;exact .inr hm
end
theorem SetAt.same {P:Params}{h h':Heap}{a b:Addr}{l:List Int} (x:SetAt P h b l) (s:Heap.SameBut a h h') (hab:b≠a):SetAt P h' b l :=
 by obtain ⟨es,ep,t,e,i⟩:=x;exact ⟨es,ep,t,(s.2 b hab).trans e,i⟩
section
variable {prog:Program}{w:World}{A:Around}{E:Value→Shared→Prop}{s:Shared}{a b:Addr}{l l2:List Int}
theorem qf {l l2 r:List Int} (h:l.Pairwise (·<·)) (p:r.Perm l2):mrg l r=mrg l l2 :=
 bn (cB h) (cB h) fun x=>by rw [fY,fY,p.mem_iff]
theorem oJ {l2:List Int} (h:l2.Pairwise (·<·)):mrg [] l2=l2:=bn (cB .nil) h fun x=>by rw [fY];simp
theorem SetAtN.sorted {P:Params}{h:Heap} (x:SetAtN P h a l):l.Pairwise (·<·):=by obtain ⟨_,_,_,_,i,_⟩:=x;exact i.sorted
theorem qg {each:Sem Unit}{Q:Unit→Shared→Prop} (hab:a≠b) (hS:SetAtN w.params s.heap a l) (hO:SetAt w.params s.heap b l2)
  (heach:∀(s':Shared) (Q':Unit→Shared→Prop),s'.heap.get? b=s.heap.get? b→Q' () s'→Av (model prog w) A each Q' E s')
  (h:∀h',Heap.SameBut a s.heap h'→SetAtN w.params h' a (mrg l l2)→Q () { s with heap:=h' }):Av (model prog w) A (setMerge a b each) Q E s:=by
 refine bc fun zz=>?_;obtain ⟨eo,ep,to,ho,hi⟩:=hO;refine zz ?_
 delta setMerge
 refine rwC (if_neg (by rw [beq_iff_eq];exact hab) ..) ?_;refine Ac (AX ho rfl hi.fits ?_)
 skip
 by_cases he:eo.isEmpty=true
 ·refine bO he ?_;have hl2:l2=[]:=by
   have h0:eo.size=0:=by simpa [Array.isEmpty] using he
   exact List.length_eq_zero_iff.mp (hi.size▸h0)
  subst hl2;exact Ag (h s.heap (Heap.SameBut.refl _ _) hS)
 ·refine aK he ?_;have hl:=hS.sorted;refine Ac (qW hS hi.le fun h₁ sb₁ hR=>?_);refine bc fun zz=>?_;obtain ⟨es,ep₁,ts,ho₁,hi₁,hd₁,hm₁⟩:=hR;refine zz ?_;have hoO:h₁.get? b=some { cls:=.type "set",dict:=none,data:=.set eo ep to,slots:=#[] }:=(sb₁.2 b (Ne.symm hab)).trans ho;refine Ac (AX ho₁ rfl hi₁.fits ?_);dsimp only;have hfit:=hi₁.fits;simp only [SetTable.fits,SetTable.fill,Ay,beq_iff_eq,decide_eq_true_eq,hd₁] at hfit;have hempty:ts.fill=0→l=[]:=fun hf=>by
   simp only [SetTable.fill,hd₁] at hf;replace hf:=(show (#[]:Array Nat).size=0 from rfl)▸hf;exact List.length_eq_zero_iff.mp (by refine rwD (hi₁.size ..) ?_;omega)
  unfold SetTable.road
  by_cases hf:ts.fill=0
  ·refine rwC (if_neg (by rw [hf];simp) ..) ?_;have hl0:=hempty hf;subst hl0;replace h:=(oJ hi.sorted ..)▸h
   by_cases hc:(ts.mask == to.mask && to.dummies.isEmpty)=true
   ·refine rwC (if_pos hc ..) ?_
    skip
    rw [Ay,beq_iff_eq] at hc;have hd0:to.dummies=#[]:=by simpa using hc.2
    refine bV ho₁ hi.le fun h₂ sb₂ ho₂=>h h₂ (sb₁.trans sb₂) ⟨eo,_,_,ho₂,⟨hi.elems,hi.nodup,hi.perm,hi.sorted,hi.fits,?_,?_,hi.rise,fun _=>?_⟩,hd0⟩
    ·rw [hi.led,hi₁.led];cases w.params.followText "set-order" <;> rfl
    ·refine rwC (hi.plain ..) ?_;refine rwC (hi₁.plain ..) ?_;rfl
    ·exact hi.tab hd0
   ·refine rwC (if_neg hc ..) ?_
    skip
    have hmask:ts.mask=7∧eo.size≤4∨15≤ts.mask:=by
     refine bc fun zz=>?_;rcases hm₁ with ⟨h1,h2⟩ | h1
     ·refine zz ?_;exact .inl ⟨h1,by omega⟩
     ·refine zz ?_;exact .inr h1
    have hled:(ts.led && to.led)=!w.params.followText "set-order":=by rw [hi.led,hi₁.led];cases w.params.followText "set-order" <;> rfl
    have hpl:(ts.plain && to.plain)=true:=by refine rwC (hi.plain ..) ?_;refine rwC (hi₁.plain ..) ?_;rfl
    refine bc fun zz=>?_;obtain ⟨t₁,o₁,a0,_⟩:=lB (mask:=ts.mask) (finger:=ts.finger) (moves:=ts.moves) (led:=ts.led && to.led) (plain:=ts.plain && to.plain)
     (es:=eo) (by have:=hi.le;omega) (fun e he=>by have:=(hi.elems e he).2;omega) hi.nodup
    obtain ⟨b1,b2,b3,b4,b5,b6⟩:=kQ (P:=w.params) (t:={ ts with led:=ts.led && to.led,plain:=ts.plain && to.plain }) hi.elems hi.nodup hi.perm hi.sorted hled hpl hmask hi.le a0;refine zz ?_;refine rwC (a0 ..) ?_;refine Ac ?_;refine (?_:Av _ _ (if ((o₁.filterMap (eo[·]?)).size != eo.size)=true then _ else pure (o₁.filterMap (eo[·]?),t₁)) _ _ _);refine rwC (if_neg (by rw [b3];simp) ..) ?_;refine Ag ?_;exact bV ho₁ b1.le fun h₂ sb₂ ho₂=>h h₂ (sb₁.trans sb₂) ⟨_,_,t₁,ho₂,b1,b2⟩
  ·refine rwC (if_pos (by simpa using hf) ..) ?_
   skip
   refine Ac (dj (s:={ s with heap:=h₁ }) hoO hi fun es' hp=>?_);refine rwD (Cg ..) ?_;have hmr:mrg l (es'.toList.map (·.1))=mrg l l2:=qf hl ((hp.map _).trans hi.perm);refine Ac (ii (fun rest s'=>∃h' l',s'={ s with heap:=h' }∧Heap.SameBut a s.heap h'∧SetAtN w.params h' a l'∧(∀e∈rest,e∈eo.toList)∧mrg l' (rest.map (·.1))=mrg l l2) ?_ ?_ es'.toList _ ?_)
   ·intro zh1 rest s' zh2;refine bc fun zz=>?_;obtain ⟨k,x⟩:=zh1;obtain ⟨h',l',zr3,sb,hN,hsub,hmm⟩:=zh2;refine zz ?_;subst zr3;refine bc fun zz=>?_;obtain ⟨⟨u,hx⟩,k0,k1⟩:=hi.elems _ (hsub _ (.head _));refine zz ?_;dsimp only at hx k0 k1;subst hx;have hb':h'.get? b=some { cls:=.type "set",dict:=none,data:=.set eo ep to,slots:=#[] }:=(sb.2 b (Ne.symm hab)).trans ho
    skip
    refine Ac (Bd (ec hN k0 k1 fun h'' _ sb' hN'=>?_));have hb'':h''.get? b=some { cls:=.type "set",dict:=none,data:=.set eo ep to,slots:=#[] }:=(sb'.2 b (Ne.symm hab)).trans hb';refine Ac (heach _ _ (hb''.trans ho.symm) ?_);refine Ac (AX (s:={ s with heap:=h'' }) hb'' rfl hi.fits ?_)
    skip
    refine aK (by simp) ?_;exact Ag ⟨rfl,h'',_,rfl,sb.trans sb',hN',fun e he=>hsub e (.tail _ he),hmm⟩
   ·intro s' zh4;refine bc fun zz=>?_;obtain ⟨h',l',zr5,sb,hN,_,hmm⟩:=zh4;refine zz ?_;subst zr5;exact Ag (h h' sb (by refine rwD (hmm ..) ?_;exact hN))
   ·exact ⟨h₁,l,rfl,sb₁,⟨es,ep₁,ts,ho₁,hi₁,hd₁⟩,fun e he=>hp.mem_iff.mp he,hmr⟩
end
theorem uU:(["set.__or__","set.__and__","set.__sub__","set.__eq__","set.__ne__","set.__le__","set.__iter__","set_iterator.__iter__"]:List String).all (fun x=>(fastTable x).isNone)=true:=by kernel_rfl
theorem ck:(fastTable "frozenset.__or__",fastTable "frozenset.__and__",fastTable "frozenset.__sub__",fastTable "frozenset.__eq__",fastTable "frozenset.__ne__",fastTable "frozenset.__le__",fastTable "frozenset.__iter__",fastTable "dict_keyiterator.__iter__")=(some Builtin.«frozenset.__or__»,some Builtin.«frozenset.__and__»,some Builtin.«frozenset.__sub__»,some Builtin.«frozenset.__eq__»,some Builtin.«frozenset.__ne__»,some Builtin.«frozenset.__le__»,some Builtin.«frozenset.__iter__»,some Builtin.«dict_keyiterator.__iter__»):=by kernel_rfl
theorem dQ {x:String} (h:x∈(["set.__or__","set.__and__","set.__sub__","set.__eq__","set.__ne__","set.__le__","set.__iter__","set_iterator.__iter__"]:List String)):fastTable x=none:=Bt.mp (AA.mp uU _ h)
noncomputable def dY (id:String):String:=Manifest.canonical (String.map (fun c=>if (c.isAlphanum || c == '_' || c == '.')=true then c else '_') id)++""
theorem cn:(dY "set.__or__",dY "set.__and__",dY "set.__sub__",dY "set.__eq__",dY "set.__ne__",dY "set.__le__",dY "set.__iter__",dY "set_iterator.__iter__")=(("frozenset.__or__":String),("frozenset.__and__":String),("frozenset.__sub__":String),("frozenset.__eq__":String),("frozenset.__ne__":String),("frozenset.__le__":String),("frozenset.__iter__":String),("dict_keyiterator.__iter__":String)):=by kernel_rfl
theorem entry_or:entryFor table "set.__or__"=some Builtin.«frozenset.__or__»:=entryFor_alias (id':="frozenset.__or__") (dQ (by simp)) rfl ((Prod.mk.inj cn).1) (Prod.mk.inj ck).1
theorem vj:entryFor table "set.__and__"=some Builtin.«frozenset.__and__»:=entryFor_alias (id':="frozenset.__and__") (dQ (by simp)) rfl ((Prod.mk.inj (Prod.mk.inj cn).2).1) (Prod.mk.inj (Prod.mk.inj ck).2).1
theorem vi:entryFor table "set.__sub__"=some Builtin.«frozenset.__sub__»:=entryFor_alias (id':="frozenset.__sub__") (dQ (by simp)) rfl ((Prod.mk.inj (Prod.mk.inj (Prod.mk.inj cn).2).2).1) (Prod.mk.inj (Prod.mk.inj (Prod.mk.inj ck).2).2).1
theorem entry_eq:entryFor table "set.__eq__"=some Builtin.«frozenset.__eq__»:=entryFor_alias (id':="frozenset.__eq__") (dQ (by simp)) rfl ((Prod.mk.inj (Prod.mk.inj (Prod.mk.inj (Prod.mk.inj cn).2).2).2).1) (Prod.mk.inj (Prod.mk.inj (Prod.mk.inj (Prod.mk.inj ck).2).2).2).1
theorem entry_ne:entryFor table "set.__ne__"=some Builtin.«frozenset.__ne__»:=entryFor_alias (id':="frozenset.__ne__") (dQ (by simp)) rfl ((Prod.mk.inj (Prod.mk.inj (Prod.mk.inj (Prod.mk.inj (Prod.mk.inj cn).2).2).2).2).1) (Prod.mk.inj (Prod.mk.inj (Prod.mk.inj (Prod.mk.inj (Prod.mk.inj ck).2).2).2).2).1
theorem entry_le:entryFor table "set.__le__"=some Builtin.«frozenset.__le__»:=entryFor_alias (id':="frozenset.__le__") (dQ (by simp)) rfl ((Prod.mk.inj (Prod.mk.inj (Prod.mk.inj (Prod.mk.inj (Prod.mk.inj (Prod.mk.inj cn).2).2).2).2).2).1) (Prod.mk.inj (Prod.mk.inj (Prod.mk.inj (Prod.mk.inj (Prod.mk.inj (Prod.mk.inj ck).2).2).2).2).2).1
theorem rN:entryFor table "set.__iter__"=some Builtin.«frozenset.__iter__»:=entryFor_alias (id':="frozenset.__iter__") (dQ (by simp)) rfl ((Prod.mk.inj (Prod.mk.inj (Prod.mk.inj (Prod.mk.inj (Prod.mk.inj (Prod.mk.inj (Prod.mk.inj cn).2).2).2).2).2).2).1) (Prod.mk.inj (Prod.mk.inj (Prod.mk.inj (Prod.mk.inj (Prod.mk.inj (Prod.mk.inj (Prod.mk.inj ck).2).2).2).2).2).2).1
theorem noR_or:typeLookup (.type "set") (dunderR "or")=pure (some (.builtin "set.__ror__")):=by refine rwC (typeLookup_type ..) ?_;refine rwC (builtinLookup_eq_fast ..) ?_;kernel_rfl
theorem noR_and:typeLookup (.type "set") (dunderR "and")=pure (some (.builtin "set.__rand__")):=by refine rwC (typeLookup_type ..) ?_;refine rwC (builtinLookup_eq_fast ..) ?_;kernel_rfl
theorem noR_sub:typeLookup (.type "set") (dunderR "sub")=pure (some (.builtin "set.__rsub__")):=by refine rwC (typeLookup_type ..) ?_;refine rwC (builtinLookup_eq_fast ..) ?_;kernel_rfl
theorem fill_or:fillsNumberSlot (.type "set") "or"=pure true:=fillsNumberSlot_of F.slot_set_or.lookup (by decide +kernel) noR_or
theorem fill_and:fillsNumberSlot (.type "set") "and"=pure true:=fillsNumberSlot_of F.slot_set_and.lookup (by decide +kernel) noR_and
theorem fill_sub:fillsNumberSlot (.type "set") "sub"=pure true:=fillsNumberSlot_of F.slot_set_sub.lookup (by decide +kernel) noR_sub
theorem SetAt.typeIs {P:Params}{s:Shared}{a:Addr}{l:List Int} (x:SetAt P s.heap a l):s.TypeIs (.ref a) "set":=by obtain ⟨_,_,_,e,_⟩:=x;exact ⟨_,e,rfl⟩
theorem SetAt.keep {P:Params}{h h':Heap}{a:Addr}{l:List Int} (x:SetAt P h a l) (k:∀o,h.get? a=some o→h'.get? a=some o):SetAt P h' a l:=by obtain ⟨es,ep,t,e,i⟩:=x;exact ⟨es,ep,t,k _ e,i⟩
theorem SetAt.lt {P:Params}{h:Heap}{a:Addr}{l:List Int} (x:SetAt P h a l):a<h.objs.size:=by obtain ⟨_,_,_,e,_⟩:=x;exact Heap.lt_size e
section
variable {prog:Program}{w:World}{A:Around}{E:Value→Shared→Prop}{s:Shared}{a b:Addr}{l l2:List Int}
theorem cw {Q:Bool→Shared→Prop} (hS:SetAt w.params s.heap a l) (h:Q true s):Av (model prog w) A (Builtin.Frozenset.isAnySet (.ref a)) Q E s:=by
 skip
 skip
 refine Ac (wpAny_isInstance hS.typeIs F.sub_set_set ?_);exact Ag h
theorem pk {Q:Bool→Shared→Prop} (hS:SetAt w.params s.heap a l) (hO:SetAt w.params s.heap b l2) (h:Q true s):Av (model prog w) A (andM (Builtin.Frozenset.isAnySet (.ref a)) (Builtin.Frozenset.isAnySet (.ref b))) Q E s:=by
 skip
 exact Ac (cw hS (cw hO h))
theorem nT {Q:Value→Shared→Prop} (hS:SetAt w.params s.heap a l) (h:Q (.type "set") s):Av (model prog w) A (Builtin.Frozenset.baseOf a) Q E s:=by
 skip
 refine Ac (wpAny_isInstance hS.typeIs F.sub_set_set ?_);refine rwC (if_pos rfl ..) ?_;exact Ag h
theorem SetAtN.push_same {P:Params}{h:Heap}{o:Obj}{b:Addr}{l:List Int} (x:SetAt P h b l):SetAt P (h.push o) b l:=x.keep fun _ e=>Heap.get?_push_of_some _ e
theorem jp {Q:Value→Shared→Prop} (hS:SetAt w.params s.heap a l)
  (h:∀h',(∀b o,s.heap.get? b=some o→h'.get? b=some o)→SetAtN w.params h' s.heap.objs.size l→Q (.ref s.heap.objs.size) { s with heap:=h' }) :
  Av (model prog w) A (Builtin.Frozenset.copyOf a) Q E s:=by
 skip
 refine Ac (nT hS ?_);refine Ac (fe fun o hN=>?_)
 skip
 refine Ac (Ag ?_);have hne:s.heap.objs.size≠a:=Cp hS.lt;refine Ac (qg (s:={ s with heap:=s.heap.push o }) hne hN (SetAtN.push_same hS) (fun _ _ _ hq=>Ag hq) fun h' sb hN'=>?_);refine Ag (h h' (fun b o' e=>?_) (by replace hN':=(oJ (by obtain ⟨_,_,_,_,i⟩:=hS;exact i.sorted) ..)▸hN';exact hN'));exact (sb.2 b (Bk (Heap.lt_size e))).trans (Heap.get?_push_of_some _ e)
theorem eA {Q:Nat→Shared→Prop}{es:Array (Int×Value)}{ep:Nat}{t:SetTable}
  (ho:s.heap.get? a=some { cls:=.type "set",dict:=none,data:=.set es ep t,slots:=#[] }) (hi:SetIn w.params es t l) (h:Q ep s):Av (model prog w) A (setEpoch a) Q E s :=
 wpAny_setEpoch_of ho rfl hi.fits h
theorem cj {id:String}{Q:Unit→Shared→Prop}{es:Array (Int×Value)}{ep:Nat}{t:SetTable}
  (ho:s.heap.get? a=some { cls:=.type "set",dict:=none,data:=.set es ep t,slots:=#[] }) (hi:SetIn w.params es t l) (h:Q () s):Av (model prog w) A (Builtin.Frozenset.unchanged id a ep) Q E s:=by
 skip
 refine Ac (eA ho hi ?_);refine rwC (if_neg (by simp) ..) ?_;exact Ag h
theorem ue {id:String}{Q:Unit→Shared→Prop} (hab:a≠b) (hS:SetAtN w.params s.heap a l) (hO:SetAt w.params s.heap b l2)
  (h:∀h',Heap.SameBut a s.heap h'→SetAtN w.params h' a (mrg l l2)→Q () { s with heap:=h' }):Av (model prog w) A (Builtin.Frozenset.merge id a b) Q E s:=by
 have hO':=hO;refine bc fun zz=>?_;refine eE3 (hO') fun eo ep to zt1=>aA2 zt1 fun ho hi=>?_;refine zz ?_
 skip
 refine Ac (eA ho hi ?_);exact qg hab hS hO (fun s' Q' e hq=>cj (e.trans ho) hi hq) h
theorem aL {Q:Nat→Shared→Prop} (hS:SetAt w.params s.heap a l) (h:Q l.length s):Av (model prog w) A (Builtin.Frozenset.sizeOf a) Q E s:=by
 refine bc fun zz=>?_;refine eE3 (hS) fun es ep t zt2=>aA2 zt2 fun ho hi=>?_;refine zz ?_
 skip
 refine Ac (wpAny_setEntries_of ho rfl hi.fits (Ag ?_));refine rwC (hi.size ..) ?_;exact h
theorem ej {M:Model}{nm:String}{x y:Value}{Q:Value×Value→Shared→Prop} (h:Q (x,y) s):Av M A (Builtin.Frozenset.slot1 nm ⟨[x,y],[]⟩) Q E s:=by
 skip
 exact Ag h
theorem or_ok {Q:Value→Shared→Prop} (hS:SetAt w.params s.heap a l) (hO:SetAt w.params s.heap b l2)
  (h:∀h',(∀b o,s.heap.get? b=some o→h'.get? b=some o)→SetAtN w.params h' s.heap.objs.size (mrg l l2)→Q (.ref s.heap.objs.size) { s with heap:=h' }) :
  Av (model prog w) A (binaryOp .BitOr (.ref a) (.ref b)) Q E s:=by
 refine wpAny_binaryOp_same hS.typeIs hO.typeIs fill_or F.slot_set_or (Be F.slot_set_or hS.typeIs entry_or ?_ (F.args_set_or_2 _ _))
 skip
 refine Ac (ej ?_)
 skip
 refine Ac (pk hS hO ?_);refine rwC (if_neg (by simp) ..) ?_;refine Ac (Ag ?_);refine Ac (Ac (jp hS fun h' hk hN=>?_))
 by_cases hab:b=a
 ·subst hab;refine rwC (if_neg (by simp) ..) ?_;refine Ag (Ag ⟨_,rfl,by simp,h h' hk ?_⟩);have hl:mrg l l2=l:=by
   refine bc fun zz=>?_;refine eE3 (hS) fun _ _ _ zt3=>aA2 zt3 fun e1 i1=>?_;refine eE3 (hO) fun _ _ _ zt4=>aA2 zt4 fun e2 i2=>?_;refine zz ?_;replace e2:=(e1 ..)▸e2;cases e2;refine bn (cB i1.sorted) i1.sorted fun x=>?_;rw [fY,← i1.perm.mem_iff,← i2.perm.mem_iff,or_self]
  refine rwC (hl ..) ?_;exact hN
 ·refine rwC (if_pos (by simp [hab]) ..) ?_;refine Ac (Ag ?_);refine Ac (Bd ?_)
  skip
  have hO':SetAt w.params h' b l2:=hO.keep fun o e=>hk b o e;refine Ac (cw (s:={ s with heap:=h' }) hO' ?_);refine rwC (if_pos rfl ..) ?_
  skip
  refine Ac (Ag ?_);refine ue (s:={ s with heap:=h' }) (Cp hO.lt) hN hO' fun h'' sb hN'=>?_;refine Ag (Ag ⟨_,rfl,by simp,h h'' (fun c o e=>?_) hN'⟩);exact (sb.2 c (Bk (Heap.lt_size e))).trans (hk c o e)
end
section
variable {prog:Program}{w:World}{A:Around}{E:Value→Shared→Prop}{s:Shared}{a b:Addr}{l l2:List Int}
theorem uR {k:Int}{tok:Tok}{Q:Option Nat→Shared→Prop} (hS:SetAt w.params s.heap a l) (h0:0≤k) (h1:k<15)
  (h:∀r:Option Nat,r.isSome=l.contains k→Q r s):Av (model prog w) A (setFind a (.int k tok) k) Q E s:=by
 have:=wpAny_setFind_of (prog:=prog) (A:=A) (E:=E) (knd:=intKind prog w) (k:=k) (x:=.int k tok) (by simp [intKind,Value.isInt]) rfl (hS.setOf (prog:=prog)) (fun r hr=>h r hr)
 rwa [show (intKind prog w).hash k=k from bL h0 h1] at this
theorem rK {l' ls:List Int}{p:Int→Bool}{x:Int}:x∈mrg l' (ls.filter p)↔x∈l'∨(x∈ls∧p x=true):=by rw [fY,Az]
theorem nz {id:String}{r asked bo:Addr}{lr la lw:List Int}{Q:PUnit→Shared→Prop}{es es':Array (Int×Value)}{ep:Nat}{t:SetTable} (hra:r≠asked) (hrw:r≠bo)
  (hR:SetAtN w.params s.heap r lr) (hA:SetAt w.params s.heap asked la) (ho:s.heap.get? bo=some { cls:=.type "set",dict:=none,data:=.set es ep t,slots:=#[] }) (hi:SetIn w.params es t lw) (hp:es'.toList.Perm es.toList)
  (h:∀h',Heap.SameBut r s.heap h'→SetAtN w.params h' r (mrg lr (lw.filter fun x=>la.contains x))→Q ⟨⟩ { s with heap:=h' }) :
  Av (model prog w) A (forIn es'.toList (⟨⟩:PUnit) fun p _=>do
   holding [p.2] do
    if (← setFind asked p.2 p.1).isSome=true then
     let _ ← setAddHashed r p.2 p.1
     pure ⟨⟩
    else pure ⟨⟩
   Builtin.Frozenset.unchanged id bo ep
   pure (ForInStep.yield PUnit.unit)) Q E s:=by
 have hl:=hR.sorted;refine ii (fun rest s'=>∃h' l',s'={ s with heap:=h' }∧Heap.SameBut r s.heap h'∧SetAtN w.params h' r l'∧(∀e∈rest,e∈es.toList)∧mrg l' ((rest.map (·.1)).filter fun x=>la.contains x)=mrg lr (lw.filter fun x=>la.contains x)) ?_ ?_ es'.toList s ?_
 ·rintro ⟨k,x⟩ rest s' ⟨h',l',rfl,sb,hN,hsub,hmm⟩;refine aA3 (hi.elems _ (hsub _ (.head _))) fun zk1 k0 k1=>?_;obtain ⟨u,hx⟩:=zk1;dsimp only at hx k0 k1;subst hx;have hw':h'.get? bo=some { cls:=.type "set",dict:=none,data:=.set es ep t,slots:=#[] }:=(sb.2 bo (Ne.symm hrw)).trans ho;have hA':SetAt w.params h' asked la:=hA.same sb (Ne.symm hra)
  skip
  refine Ac (Bd ?_);refine Ac (uR (s:={ s with heap:=h' }) hA' k0 k1 fun r' hr=>?_);rw [hr];rw [AR,List.filter_cons] at hmm;cases hc:la.contains k with
  | true =>
   refine bO rfl ?_;dsimp only at hmm;rw [hc,if_pos rfl] at hmm;refine Ac (ec (s:={ s with heap:=h' }) hN k0 k1 fun h'' _ sb' hN'=>Ag ?_);have hw'':h''.get? bo=some { cls:=.type "set",dict:=none,data:=.set es ep t,slots:=#[] }:=(sb'.2 bo (Ne.symm hrw)).trans hw';refine Ac (cj (s:={ s with heap:=h'' }) hw'' hi ?_);exact Ag ⟨rfl,h'',_,rfl,sb.trans sb',hN',fun e he=>hsub e (.tail _ he),hmm⟩
  | false =>
   refine aK AF ?_;dsimp only at hmm;rw [hc,if_neg AF] at hmm;refine Ag ?_;refine Ac (cj (s:={ s with heap:=h' }) hw' hi ?_);exact Ag ⟨rfl,h',_,rfl,sb,hN,fun e he=>hsub e (.tail _ he),hmm⟩
 ·rintro s' ⟨h',l',rfl,sb,hN,_,hmm⟩;exact h h' sb (by rw [← hmm];exact hN)
 ·refine ⟨s.heap,lr,rfl,Heap.SameBut.refl _ _,hR,fun e he=>hp.mem_iff.mp he,?_⟩;exact qf hl (((hp.map _).trans hi.perm).filter _)
theorem and_ok {Q:Value→Shared→Prop} (hS:SetAt w.params s.heap a l) (hO:SetAt w.params s.heap b l2)
  (h:∀h',(∀b o,s.heap.get? b=some o→h'.get? b=some o)→SetAtN w.params h' s.heap.objs.size (l.filter fun x=>l2.contains x)→Q (.ref s.heap.objs.size) { s with heap:=h' }) :
  Av (model prog w) A (binaryOp .BitAnd (.ref a) (.ref b)) Q E s:=by
 have hl:l.Pairwise (·<·):=by obtain ⟨_,_,_,_,i⟩:=hS;exact i.sorted
 have hl2:l2.Pairwise (·<·):=by obtain ⟨_,_,_,_,i⟩:=hO;exact i.sorted
 refine wpAny_binaryOp_same hS.typeIs hO.typeIs fill_and F.slot_set_and (Be F.slot_set_and hS.typeIs vj ?_ (F.args_set_and_2 _ _))
 skip
 refine Ac (ej ?_)
 skip
 refine Ac (pk hS hO ?_);refine aK (by simp) ?_;refine Ac (Ag ?_);refine Ac ?_
 delta Builtin.Frozenset.intersection
 by_cases hab:b=a
 ·subst hab;refine bO (by simp) ?_;refine jp hS fun h' hk hN=>?_;refine Ag ⟨_,rfl,by simp,h h' hk ?_⟩;have:l.filter (fun x=>l2.contains x)=l:=by
   refine bc fun zz=>?_;obtain ⟨_,_,_,e1,i1⟩:=hS;obtain ⟨_,_,_,e2,i2⟩:=hO;refine zz ?_;replace e2:=(e1 ..)▸e2;cases e2;rw [Cw];intro x hx;rw [Au,← i2.perm.mem_iff,i1.perm.mem_iff];exact hx
  refine rwC (this ..) ?_;exact hN
 ·refine rwC (if_neg (by simp [hab]) ..) ?_;refine Ac (nT hS ?_);refine Ac (fe fun o hN=>?_);refine Ac (Ag ?_);have hS':=hS.keep (h':=s.heap.push o) fun _ e=>Heap.get?_push_of_some _ e;have hO':=hO.keep (h':=s.heap.push o) fun _ e=>Heap.get?_push_of_some _ e;refine Ac (Bd ?_);refine Ac (cw (s:={ s with heap:=s.heap.push o }) hO' ?_);refine bO rfl ?_;refine Ac (Ag ?_);refine Ac (aL (s:={ s with heap:=s.heap.push o }) hO' ?_);refine Ac (aL (s:={ s with heap:=s.heap.push o }) hS' ?_);have hra:s.heap.objs.size≠a:=Cp hS.lt;have hrb:s.heap.objs.size≠b:=Cp hO.lt;have fin:∀(id:String) (x y:Addr) (lx ly:List Int),s.heap.objs.size≠x→s.heap.objs.size≠y→SetAt w.params (s.heap.push o) x lx→SetAt w.params (s.heap.push o) y ly→(∀z,(z∈ly∧z∈lx)↔z∈l∧z∈l2) →
    Av (model prog w) A.in1 (setEpoch y >>= fun was=>setWalkUnseen y [x,s.heap.objs.size] (some s.heap.objs.size) >>= fun es'=>forIn es' (⟨⟩:PUnit) (fun p _=>do
      holding [p.2] do
       if (← setFind x p.2 p.1).isSome=true then
        let _ ← setAddHashed s.heap.objs.size p.2 p.1
        pure ⟨⟩
       else pure ⟨⟩
      Builtin.Frozenset.unchanged id y was
      pure (ForInStep.yield PUnit.unit)) >>= fun _=>pure PUnit.unit) (fun _ s'=>∃h',s'={ s with heap:=h' }∧(∀b o,s.heap.get? b=some o→h'.get? b=some o)∧SetAtN w.params h' s.heap.objs.size (l.filter fun x=>l2.contains x)) E { s with heap:=s.heap.push o }:=by
   intro id x y lx ly hx hy hX hY hm;refine bc fun zz=>?_;obtain ⟨es,ep,t,ho,hi⟩:=hY;refine zz ?_;refine Ac (eA (s:={ s with heap:=s.heap.push o }) ho hi ?_);refine Ac (dj (s:={ s with heap:=s.heap.push o }) ho hi fun es' hp=>?_);refine rwD (Cg ..) ?_;refine Ac (nz (s:={ s with heap:=s.heap.push o }) hx hy hN hX ho hi hp fun h' sb hN'=>Ag ⟨h',rfl,fun c o' e=>?_,?_⟩)
   ·exact (sb.2 c (Bk (Heap.lt_size e))).trans (Heap.get?_push_of_some _ e)
   ·have:mrg [] (ly.filter fun z=>lx.contains z)=l.filter fun z=>l2.contains z:=by
     refine bn (cB .nil) (hl.filter _) fun z=>?_;rw [rK,Az,Au,Au];simpa using hm z
    replace hN':=(this ..)▸hN';exact hN'
  have close:∀(_:PUnit) (s':Shared),(∃h',s'={ s with heap:=h' }∧(∀b o,s.heap.get? b=some o→h'.get? b=some o)∧SetAtN w.params h' s.heap.objs.size (l.filter fun x=>l2.contains x)) →
    Av (model prog w) A.in1 (pure (Value.ref s.heap.objs.size)) (fun a s'=>Av (model prog w) A.in1 (ret a) (fun fin s'=>∃v,fin=Fin.done (Flow.ret v)∧v≠Value.notImplemented∧Q v s') E s') E s':=by
   intro _ s' zh1;refine bc fun zz=>?_;obtain ⟨h',zr2,hk,hN'⟩:=zh1;refine zz ?_;subst zr2;exact Ag (Ag ⟨_,rfl,by simp,h h' hk hN'⟩)
  by_cases hgt:l2.length>l.length
  ·refine rwC (if_pos hgt ..) ?_;exact AC (fin _ b a l2 l hrb hra hO' hS' fun z=>Iff.rfl) close fun _ _ e=>e
  ·refine rwC (if_neg hgt ..) ?_;exact AC (fin _ a b l l2 hra hrb hS' hO' fun z=>and_comm) close fun _ _ e=>e
theorem ij (t:SetTable) (n:Nat):t.fits n=true↔t.place.size=n∧t.place.size+t.dummies.size≤t.mask:=by
 delta SetTable.fits SetTable.fill
 rw [Ay,beq_iff_eq,decide_eq_true_eq]
theorem rO {k:Int}{tok:Tok}{Q:Bool→Shared→Prop}{es:Array (Int×Value)}{ep:Nat}{t:SetTable} (ho:s.heap.get? a=some { cls:=.type "set",dict:=none,data:=.set es ep t,slots:=#[] }) (hi:SetIn w.params es t l) (h0:0≤k) (h1:k<15) (hk:k∈l)
  (h:∀h' es' ep' t' b,Heap.SameBut a s.heap h'→h'.get? a=some { cls:=.type "set",dict:=none,data:=.set es' ep' t',slots:=#[] }→SetIn w.params es' t' (l.erase k)→t'.mask=t.mask→t'.dummies.size=t.dummies.size+1→Q b { s with heap:=h' }) :
  Av (model prog w) A (setDiscardHashed a (.int k tok) k) Q E s:=by
 have hkey:(intKind prog w).is k (.int k tok)=true:=by simp [intKind,Value.isInt]
 have hel:=hi.elemsOf (prog:=prog);have hb:es.size<scanBound:=BB hi.le (by decide);have hhash:(intKind prog w).hash k=k:=bL h0 h1
 skip
 refine Ac (Ac (AX ho rfl hi.fits ?_));dsimp only;refine rwC (byScan_of (knd:=intKind prog w) (x:=.int k tok) rfl hb hel ..) ?_;simp only [↓reduceIte];refine Ac (wpAny_rule ?_);have hsc:=fun (Q:ScanMet→Shared→Prop) hq=>wpAny_setScan_of (A:=A) (E:=E) (s:=s) (knd:=intKind prog w) (adding:=false) (Q:=Q) hkey ho rfl hi.fits hel hq;replace hsc:=(hhash ..)▸hsc;refine Ac (hsc _ ?_);cases hr:List.findIdx? (fun e=>(intKind prog w).is k e.2) es.toList with
 | none =>
  refine bc fun zz=>?_;refine eE1 ((hi.find (prog:=prog) k).mpr hk) fun e zt2=>aA2 zt2 fun he hp=>?_;refine zz ?_;have:=Bu.mp hr e he;replace this:=(hp ..)▸this;exact Bool.noConfusion this
 | some j =>
  dsimp only;refine bc fun zz=>?_;obtain ⟨hj,hpj,_⟩:=Bf.mp hr;refine zz ?_;refine rwC (CC ..) ?_;refine Ag ?_
  skip
  refine Ac (AX ho rfl hi.fits ?_)
  skip
  have hfit:=(ij _ _).mp hi.fits;have hjs:j<es.size:=by simpa using hj
  have hjp:j<t.place.size:=by lia
  have hkj:(es.toList[j]'hj).1=k:=by
   refine bc fun zz=>?_;refine aA2 (hi.elems _ (BG hj)) fun zk3 _=>?_;obtain ⟨u,e1⟩:=zk3;refine zz ?_;replace hpj:=(e1 ..)▸hpj;simpa [intKind,Value.isInt] using hpj
  have eE:∀{α:Type} (xs:Array α) (p:Nat),p<xs.size→(SetTable.eraseAt xs p).toList=xs.toList.eraseIdx p:=by
   intro α xs p hp
   delta SetTable.eraseAt
   simp only [Cv,Array.toList_extract,List.extract_eq_take_drop,Nat.sub_zero,List.drop_zero];refine rwC (List.take_of_length_le (l:=BN (p+1) xs.toList) (by simp) ..) ?_;refine rwC (List.eraseIdx_eq_take_drop_succ ..) ?_;exact rfl
  have eS:∀{α:Type} (xs:Array α) (p:Nat),p<xs.size→(SetTable.eraseAt xs p).size=xs.size - 1:=by
   intro α xs p hp;refine rwD (Ax ..) ?_;refine rwC (eE xs p hp ..) ?_;refine rwC (List.length_eraseIdx_of_lt (by simpa using hp) ..) ?_;refine rwC (Ax ..) ?_;exact rfl
  have hdrop:t.drop j={ t with place:=SetTable.eraseAt t.place j,dummies:=SetTable.insertAt t.dummies (SetTable.below t.dummies (t.place[j])) (t.place[j]) }:=by
   delta SetTable.drop
   rw [BK hjp]
  have hds:(t.drop j).dummies.size=t.dummies.size+1:=by
   refine rwC (hdrop ..) ?_;refine rwD (Ax ..) ?_;refine rwC (SetTable.insertAt_perm _ _ _).length_eq ?_;simp
  have hpl:(t.drop j).place=SetTable.eraseAt t.place j:=by refine rwC (hdrop ..) ?_;exact rfl
  have hmk:(t.drop j).mask=t.mask:=by refine rwC (hdrop ..) ?_;exact rfl
  have hsub:(SetTable.eraseAt es j).toList.Sublist es.toList:=by refine rwC (eE es j hjs ..) ?_;exact List.eraseIdx_sublist _ _
  have hin:SetIn w.params (SetTable.eraseAt es j) (t.drop j) (l.erase k):=by
   refine ⟨fun e he=>hi.elems e (hsub.subset he),List.Nodup.sublist (hsub.map _) hi.nodup,?_,hi.sorted.sublist List.erase_sublist,?_,?_,?_,?_,fun hd=>?_⟩
   ·have p1:=(dG hj).map (·.1);replace p1:=(AR ..)▸p1;replace p1:=(hkj ..)▸p1;replace p1:=(eE es j hjs ..)▸p1;have p2:=p1.trans (hi.perm.trans (List.perm_cons_erase hk));exact p2.cons_inv
   ·rw [ij,hds,hpl,hmk,eS _ _ hjp,eS _ _ hjs];lia
   ·refine rwC (hdrop ..) ?_;exact hi.led
   ·refine rwC (hdrop ..) ?_;exact hi.plain
   ·refine rwC (hpl ..) ?_;exact rM hi.rise j
   ·replace hds:=(hd ..)▸hds;cases hds
  refine Ac (bV ho hin.le fun h' sb ho'=>?_)
  first | refine Ac (wpAny_point ?_) | refine Ac (Ag ?_)
  exact Ag (h h' _ _ _ true sb ho' hin hmk hds)
end
section
variable {prog:Program}{w:World}{A:Around}{E:Value→Shared→Prop}{s:Shared}{a b:Addr}{l l2:List Int}
theorem sub_ok {Q:Value→Shared→Prop} (hS:SetAt w.params s.heap a l) (hO:SetAt w.params s.heap b l2) (hab:b≠a) (hlen:l.length / 4>l2.length) (hl2n:l2.length=2) (hin:∀x∈l2,x∈l)
  (h:∀h',(∀b o,s.heap.get? b=some o→h'.get? b=some o)→SetAt w.params h' s.heap.objs.size (l.filter fun x=>!l2.contains x)→Q (.ref s.heap.objs.size) { s with heap:=h' }) :
  Av (model prog w) A (binaryOp .Sub (.ref a) (.ref b)) Q E s:=by
 have hl:l.Pairwise (·<·):=by obtain ⟨_,_,_,_,i⟩:=hS;exact i.sorted
 refine wpAny_binaryOp_same hS.typeIs hO.typeIs fill_sub F.slot_set_sub (Be F.slot_set_sub hS.typeIs vi ?_ (F.args_set_sub_2 _ _));show Av _ _ (Builtin.Frozenset.slot1 "__sub__" ⟨[.ref a,.ref b],[]⟩ >>= _) _ _ s;refine Ac (ej ?_);show Av _ _ (andM (Builtin.Frozenset.isAnySet (.ref a)) (Builtin.Frozenset.isAnySet (.ref b)) >>= _) _ _ s;refine Ac (pk hS hO ?_);refine aK (by simp) ?_;refine Ac (Ag ?_);refine Ac ?_;unfold Builtin.Frozenset.difference;refine Ac (cw hO ?_);simp only [Bool.not_true,Bn,if_false,if_true];refine Ac (Ag ?_);simp only [Bool.false_and,Bn,if_false];refine Ac (aL hO ?_);refine Ac (aL hS ?_);refine bO hlen ?_;refine Ac (wpAny_rule ?_);refine Ac (jp hS fun h' hk hN=>?_);have hO':SetAt w.params h' b l2:=hO.keep fun o e=>hk b o e;have hrb:s.heap.objs.size≠b:=Cp hO.lt;refine Ac (Ag ?_);refine Ac (Bd ?_);unfold Builtin.Frozenset.differenceUpdate;refine rwC (if_neg (by simp [Ne.symm hrb]) ..) ?_;refine Ac (cw (s:={ s with heap:=h' }) hO' ?_);refine bO rfl ?_;refine Ac (Ag ?_);refine Ac (aL (s:={ s with heap:=h' }) hO' ?_);refine Ac (aL (s:={ s with heap:=h' }) hN.at ?_);refine aK (by lia) ?_;refine bc fun zz=>?_;refine eE3 (hO') fun eo epo to zt1=>aA2 zt1 fun ho hi=>?_;refine eE3 (hN) fun er epr tr zt2=>aA3 zt2 fun hor hir hdr=>?_;refine zz ?_;have hmask:15≤tr.mask:=by
  refine bc fun zz=>?_;rcases hir.tab hdr with ⟨h4,_⟩ | ⟨h4,_⟩
  ·refine zz ?_;have:=hir.size;lia
  ·refine zz ?_;exact h4
 refine Ac (eA (s:={ s with heap:=h' }) ho hi ?_);refine Ac (Bd ?_);refine Ac (dj (s:={ s with heap:=h' }) ho hi fun es' hp=>?_);refine rwD (Cg ..) ?_;refine Ac (ii (fun rest s'=>∃h₁ l' es ep t,s'={ s with heap:=h₁ }∧Heap.SameBut s.heap.objs.size h' h₁∧h₁.get? s.heap.objs.size=some { cls:=.type "set",dict:=none,data:=.set es ep t,slots:=#[] }∧SetIn w.params es t l' ∧
  t.mask=tr.mask∧t.dummies.size+rest.length≤2∧(∀e∈rest,e∈eo.toList∧e.1∈l')∧(rest.map (·.1)).Nodup∧∀x,(x∈l'∧x∉rest.map (·.1))↔(x∈l∧x∉l2)) ?_ ?_ es'.toList _ ?_)
 ·intro zh1 rest s' zh2;refine bc fun zz=>?_;obtain ⟨k,x⟩:=zh1;refine eE5 (zh2) fun h₁ l' es ep t zt3=>aA9 zt3 fun zr3 sb hg hin' hm hds hsub hnd hmem=>?_;refine zz ?_;subst zr3;refine bc fun zz=>?_;refine aA2 (hsub _ (.head _)) fun hke hkl=>?_;refine aA3 (hi.elems _ hke) fun zk4 k0 k1=>?_;obtain ⟨u,hx⟩:=zk4;refine zz ?_;dsimp only at hx k0 k1 hkl;subst hx;rw [AR,Bb] at hnd;dsimp only;refine Ac (Bd (rO (s:={ s with heap:=h₁ }) hg hin' k0 k1 hkl fun h₂ es₂ ep₂ t₂ _ sb₂ hg₂ hin₂ hm₂ hds₂=>?_));have hb₂:h₂.get? b=some { cls:=.type "set",dict:=none,data:=.set eo epo to,slots:=#[] }:=(sb₂.2 b (Ne.symm hrb)).trans ((sb.2 b (Ne.symm hrb)).trans ho);refine Ac (cj (s:={ s with heap:=h₂ }) hb₂ hi ?_);have hnd':=dN hin'.sorted;refine Ag ⟨rfl,h₂,_,es₂,ep₂,t₂,rfl,sb.trans sb₂,hg₂,hin₂,hm₂.trans hm,by refine rwC (hds₂ ..) ?_;simp only [AK] at hds;lia,fun e he=>⟨(hsub e (.tail _ he)).1,?_⟩,hnd.2,fun x=>?_⟩
  ·rw [hnd'.mem_erase_iff];refine ⟨fun q=>hnd.1 (AD.mpr ⟨e,he,q⟩),(hsub e (.tail _ he)).2⟩
  ·rw [← hmem x,hnd'.mem_erase_iff,AR,Ai,not_or];constructor
   ·rintro ⟨⟨h1,h2⟩,h3⟩;exact ⟨h2,h1,h3⟩
   ·rintro ⟨h1,h2,h3⟩;exact ⟨⟨h2,h1⟩,h3⟩
 ·intro s' zh4;refine bc fun zz=>?_;refine eE5 (zh4) fun h₁ l' es ep t zt5=>aA9 zt5 fun zr5 sb hg hin' hm hds _ _ hmem=>?_;refine zz ?_;subst zr5;refine Ag ?_;unfold setTidy;refine Ac (AX (s:={ s with heap:=h₁ }) hg rfl hin'.fits ?_);dsimp only;have:¬t.tooManyDummies=true:=by
   unfold SetTable.tooManyDummies;refine rwC (decide_eq_true_eq ..) ?_;refine rwC (hm ..) ?_;simp only [List.length_nil] at hds;lia
  refine aK this ?_;refine Ag ?_;have hl':l'=l.filter fun x=>!l2.contains x:=by
   refine bn hin'.sorted (hl.filter _) fun x=>?_;have:=hmem x;simp only [List.map_nil,BV,not_false_eq_true,and_true] at this;rw [this,Az];simp
  refine Ag (Ag ⟨_,rfl,by simp,h h₁ (fun c o e=>?_) ⟨es,ep,t,hg,by refine rwD (hl' ..) ?_;exact hin'⟩⟩);exact (sb.2 c (Bk (Heap.lt_size e))).trans (hk c o e)
 ·have hperm:=(hp.map (·.1)).trans hi.perm;refine ⟨h',l,er,epr,tr,rfl,Heap.SameBut.refl _ _,hor,hir,rfl,?_,fun e he=>⟨hp.mem_iff.mp he,hin _ (hperm.mem_iff.mp (AD.mpr ⟨e,he,rfl⟩))⟩,hperm.nodup_iff.mpr (dN hi.sorted),fun x=>by rw [hperm.mem_iff]⟩;refine rwC (hdr ..) ?_;refine rwC (hp.length_eq ..) ?_;refine rwC (Ax ..) ?_;refine rwC (hi.size ..) ?_;refine rwC (hl2n ..) ?_;exact Bh _
end
section
variable {prog:Program}{w:World}{A:Around}{E:Value→Shared→Prop}{s:Shared}{a b:Addr}{l l2:List Int}
theorem gE {Q:Bool→Shared→Prop} (hS:SetAt w.params s.heap a l) (h:Q false s) (x:Sem Bool):Av (model prog w) A (andM (isInstance (.ref a) (.type "frozenset")) x) Q E s:=by
 skip
 exact Ac (wpAny_isInstance hS.typeIs F.sub_set_frozenset (Ag h))
theorem jf {β σ:Type}{M:Model} (init:σ) (I:List β→Shared→Prop) {f:β→σ→Sem (ForInStep σ)}{Q:σ→Shared→Prop}
  (step:∀x r s,I (x::r) s→Av M A (f x init) (fun st s'=>(st=.yield init∧I r s')∨∃v,st=.done v∧Q v s') E s) (done:∀s,I [] s→Q init s):∀(l:List β) (s:Shared),I l s→Av M A (forIn l init f) Q E s
 | [],s,h=>by refine rwC (Ck ..) ?_;exact Ag (done s h)
 | x::r,s,h=>by
  refine rwC (CB ..) ?_;refine Ac (AC (step x r s h) (fun st s' hh=>?_) fun _ _ e=>e);rcases hh with ⟨rfl,h'⟩ | ⟨v,rfl,hq⟩
  ·exact jf init I step done r s' h'
  ·exact Ag hq
theorem iy {id:String}{Q:Bool→Shared→Prop} (hS:SetAt w.params s.heap a l) (hO:SetAt w.params s.heap b l2) (h:Q (l.all fun x=>l2.contains x) s):Av (model prog w) A (Builtin.Frozenset.subsetOf id a b) Q E s:=by
 have hl:l.Pairwise (·<·):=by obtain ⟨_,_,_,_,i⟩:=hS;exact i.sorted
 skip
 refine Ac (aL hS ?_);refine Ac (aL hO ?_)
 by_cases hgt:l.length>l2.length
 ·refine bO hgt ?_;have:(l.all fun x=>l2.contains x)=false:=by
   rw [← BW,AA];intro hall;have hl2:l2.Pairwise (·<·):=by obtain ⟨_,_,_,_,i⟩:=hO;exact i.sorted
   have hf:l2.filter (fun x=>l.contains x)=l:=bn (hl2.filter _) hl fun x=>by
    rw [Az,Au];exact ⟨fun q=>q.2,fun q=>⟨by simpa using hall x q,q⟩⟩
   have:=List.length_filter_le (fun x=>l.contains x) l2;rw [hf] at this;lia
  rw [this] at h;exact Ag h
 ·refine aK hgt ?_;obtain ⟨es,ep,t,ho,hi⟩:=hS;refine Ac (eA ho hi ?_);have hO':=hO;obtain ⟨eo,epo,to,hoo,hio⟩:=hO'
  skip
  refine Ac (Ac (wpAny_setEntries_of ho rfl hi.fits ?_));refine Ac (wpAny_setEntries_of hoo rfl hio.fits ?_);refine Ac (jf _ (fun rest s'=>s'=s∧∀e∈rest,∃u,e.2=.int e.1 u) (fun p rest s' hI=>?_) (fun s' hI=>?_) _ _ ⟨rfl,fun e he=>?_⟩)
  ·obtain ⟨k,x⟩:=p;obtain ⟨rfl,hI⟩:=hI;obtain ⟨u,hu⟩:=hI _ (.head _);dsimp only at hu ⊢;subst hu;refine Ac ?_
   skip
   refine Ag ?_;refine aK (by simp) ?_;exact Ag (.inl ⟨rfl,rfl,fun e he=>hI e (.tail _ he)⟩)
  ·obtain ⟨rfl,_⟩:=hI;refine Ag ?_;refine Ac (jf _ (fun rest s''=>s''=s'∧(∀e∈rest,e∈es.toList)∧((rest.map (·.1)).all fun x=>l2.contains x)=l.all fun x=>l2.contains x) (fun p rest s'' hI=>?_) (fun s'' hI=>?_) _ _ ⟨rfl,fun _ he=>he,?_⟩)
   ·obtain ⟨k,x⟩:=p;obtain ⟨rfl,hsub,hall⟩:=hI;obtain ⟨⟨u,hx⟩,k0,k1⟩:=hi.elems _ (hsub _ (.head _));dsimp only at hx k0 k1 ⊢;subst hx;rw [AR,List.all_cons] at hall;refine Ac (Bd (uR hO k0 k1 fun r hr=>?_));have hrn:r.isNone=!l2.contains k:=by rw [← hr];cases r <;> rfl
    rw [hrn];cases hc:l2.contains k with
    | false =>
     refine bO (show (!false)=true from rfl) ?_;refine Ag (.inr ⟨_,rfl,?_⟩);rw [hc] at hall;rw [← hall] at h;exact Ag h
    | true =>
     refine aK (by simp) ?_;refine Ac (cj ho hi ?_);refine Ag (.inl ⟨rfl,rfl,fun e he=>hsub e (.tail _ he),?_⟩);rw [hc,Bool.true_and] at hall;exact hall
   ·obtain ⟨rfl,_,hall⟩:=hI;rw [List.map_nil,List.all_nil] at hall;rw [← hall] at h;exact Ag h
   ·rw [Bx,AA,AA];exact ⟨fun q x hx=>q x (hi.perm.mem_iff.mpr hx),fun q x hx=>q x (hi.perm.mem_iff.mp hx)⟩
  ·rcases Ao.mp he with he | he
   ·exact (hi.elems e he).1
   ·exact (hio.elems e he).1
theorem le_ok {Q:Value→Shared→Prop} (hS:SetAt w.params s.heap a l) (hO:SetAt w.params s.heap b l2) (hu:A.units<cLine) (h:Q (.bool (l.all fun x=>l2.contains x)) s) :
  Av (model prog w) A (compareOp .LtE (.ref a) (.ref b)) Q E s:=by
 refine (?_:Av _ _ (richCompare .LtE (.ref a) (.ref b)) _ _ s);refine wpAny_richCompare_same_room hS.typeIs hO.typeIs F.slot_set_le (Be F.slot_set_le hS.typeIs entry_le ?_ (F.args_set_le_2 _ _)) hu
 skip
 refine Ac (ej ?_);refine Ac (cw hO ?_);refine aK (by simp) ?_;refine Ac (Ag ?_);refine Ac (Ag ?_);refine Ac (aL hS ?_);refine Ac (aL hO ?_);refine Ac (iy hS hO ?_);exact Ag ⟨_,rfl,by simp,h⟩
theorem all_eq {l l2:List Int} (h1:l.Pairwise (·<·)) (h2:l2.Pairwise (·<·)) (hl:l.length=l2.length):(l.all fun x=>l2.contains x)=decide (l=l2):=by
 rw [Bx,AA,decide_eq_true_eq];constructor
 ·intro h;have hf:l2.filter (fun x=>l.contains x)=l:=bn (h2.filter _) h1 fun x=>by
   rw [Az,Au];exact ⟨fun q=>q.2,fun q=>⟨by simpa using h x q,q⟩⟩
  have:l2.filter (fun x=>l.contains x)=l2:=by
   refine (List.filter_sublist).eq_of_length ?_;rw [hf,hl]
  exact hf.symm.trans this
 ·rintro rfl x hx;simpa using hx
theorem eqv_ok {Q:Value→Shared→Prop} (hS:SetAt w.params s.heap a l) (hO:SetAt w.params s.heap b l2) (hu:A.units<cLine) (h:Q (.bool (decide (l=l2))) s) :
  Av (model prog w) A (compareOp .Eq (.ref a) (.ref b)) Q E s:=by
 have hl:l.Pairwise (·<·):=let ⟨_,_,_,_,i⟩:=hS;i.sorted;have hl2:l2.Pairwise (·<·):=let ⟨_,_,_,_,i⟩:=hO;i.sorted;refine (?_:Av _ _ (richCompare .Eq (.ref a) (.ref b)) _ _ s);refine wpAny_richCompare_same_room hS.typeIs hO.typeIs F.slot_set_eq (Be F.slot_set_eq hS.typeIs entry_eq ?_ (F.args_set_eq_2 _ _)) hu
 skip
 refine Ac (ej ?_);refine Ac (cw hO ?_);refine aK (by simp) ?_;refine Ac (Ag ?_);refine Ac (Ag ?_);refine Ac (aL hS ?_);refine Ac (aL hO ?_);refine Ac ?_
 by_cases hn:l.length=l2.length
 ·refine aK (by simpa using hn) ?_;refine Ac (gE hS ?_ _);refine aK AF ?_;refine iy hS hO ?_;refine rwC (all_eq hl hl2 hn ..) ?_;exact Ag ⟨_,rfl,by simp,h⟩
 ·refine bO (by simpa using hn) ?_;have:decide (l=l2)=false:=by simp;intro e;exact hn (e▸rfl)
  replace h:=(this ..)▸h;exact Ag (Ag ⟨_,rfl,by simp,h⟩)
theorem nev_ok {Q:Value→Shared→Prop} (hS:SetAt w.params s.heap a l) (hO:SetAt w.params s.heap b l2) (hu:A.units<cLine) (h:Q (.bool (!decide (l=l2))) s) :
  Av (model prog w) A (compareOp .NotEq (.ref a) (.ref b)) Q E s:=by
 have hl:l.Pairwise (·<·):=let ⟨_,_,_,_,i⟩:=hS;i.sorted;have hl2:l2.Pairwise (·<·):=let ⟨_,_,_,_,i⟩:=hO;i.sorted;refine (?_:Av _ _ (richCompare .NotEq (.ref a) (.ref b)) _ _ s);refine wpAny_richCompare_same_room hS.typeIs hO.typeIs F.slot_set_ne (Be F.slot_set_ne hS.typeIs entry_ne ?_ (F.args_set_ne_2 _ _)) hu
 skip
 refine Ac (ej ?_);refine Ac (cw hO ?_);refine aK (by simp) ?_;refine Ac (Ag ?_);refine Ac (Ag ?_);refine Ac (aL hS ?_);refine Ac (aL hO ?_);refine Ac ?_
 by_cases hn:l.length=l2.length
 ·refine aK (by simpa using hn) ?_;refine Ac (gE hS ?_ _);refine aK AF ?_;refine iy hS hO ?_;refine rwC (all_eq hl hl2 hn ..) ?_;exact Ag ⟨_,rfl,by simp,h⟩
 ·refine bO (by simpa using hn) ?_;have:decide (l=l2)=false:=by simp;intro e;exact hn (e▸rfl)
  replace h:=(this ..)▸h;exact Ag (Ag ⟨_,rfl,by simp,h⟩)
end
theorem slot_si_next:Slot "set_iterator" "__next__" "set_iterator.__next__" :=
 .of (owner:="set_iterator") (n:="__next__") (by refine rwC (typeLookup_type ..) ?_;refine rwC (builtinLookup_eq_fast ..) ?_;kernel_rfl) (by decide +kernel) (by decide +kernel) (by decide +kernel)
  (by first | exact .inl (by decide +kernel) | exact .inr (by decide +kernel)) (by refine rwC (isSubtype_type ..) ?_;kernel_rfl)
theorem gz:Slot "set_iterator" "__iter__" "set_iterator.__iter__" :=
 .of (owner:="set_iterator") (n:="__iter__") (by refine rwC (typeLookup_type ..) ?_;refine rwC (builtinLookup_eq_fast ..) ?_;kernel_rfl) (by decide +kernel) (by decide +kernel) (by decide +kernel)
  (by first | exact .inl (by decide +kernel) | exact .inr (by decide +kernel)) (by refine rwC (isSubtype_type ..) ?_;kernel_rfl)
theorem fA:entryFor table "set_iterator.__next__"=some Builtin.«set_iterator.__next__»:=entryFor_of_fast (by kernel_rfl)
theorem lN:entryFor table "set_iterator.__iter__"=some Builtin.«dict_keyiterator.__iter__»:=entryFor_alias (id':="dict_keyiterator.__iter__") (dQ (by simp)) rfl ((Prod.mk.inj (Prod.mk.inj (Prod.mk.inj (Prod.mk.inj (Prod.mk.inj (Prod.mk.inj (Prod.mk.inj cn).2).2).2).2).2).2).2) ((Prod.mk.inj (Prod.mk.inj (Prod.mk.inj (Prod.mk.inj (Prod.mk.inj (Prod.mk.inj (Prod.mk.inj ck).2).2).2).2).2).2).2)
theorem gL (a:Value):argsOk "set_iterator.__next__" ⟨[a],[]⟩:=by unfold argsOk;kernel_rfl
theorem nU (a:Value):argsOk "set_iterator.__iter__" ⟨[a],[]⟩:=by unfold argsOk;kernel_rfl
noncomputable def bo (w:World) (a:Addr) (ep:Nat) (es:Array (Int×Value)):Array (Int×Value) :=
 if w.params.followText "set-order"=true then pickOrder (w.params.setOrder a ep) es else es
theorem bU (w:World) (a:Addr) (ep:Nat) (es:Array (Int×Value)):(bo w a ep es).toList.Perm es.toList:=by
 unfold bo
 split
 ·exact mG _ _
 ·exact .refl _
noncomputable def jA (h:Heap) (I a:Addr) (slot i n ep:Nat):Prop :=
 h.get? I=some { cls:=.type "set_iterator",dict:=none,data:=.fields #[rawInt slot,rawInt i,.ref a,rawInt n,rawInt ep],slots:=#[] }
noncomputable def kH (w:World) (t:SetTable) (slot i:Nat):Prop:=w.params.followText "set-order"=false→SetTable.below t.place slot=i
theorem sK {t:SetTable} (r:Rise t.place):SetTable.below t.place 0=0:=by
 refine aA3 (gn r 0) fun h1 h2 h3=>?_;rcases Nat.eq_zero_or_pos (SetTable.below t.place 0) with e | e
 ·exact e
 ·exact absurd (h2 0 e) (BJ _)
theorem sL {xs:Array Nat} (r:Rise xs) {i:Nat} (hi:i<xs.size):SetTable.below xs (xs[i]+1)=i+1:=by
 refine aA3 (gn r (xs[i]+1)) fun h1 h2 h3=>?_;rcases Nat.lt_trichotomy (SetTable.below xs (xs[i]+1)) (i+1) with h | h | h
 ·have:=h3 i (by lia) hi;replace this:=(cg hi ..)▸this;lia
 ·exact h
 ·have h4:=h2 (i+1) h;have h5:=r i (i+1) (Nat.lt_succ_self _) (by lia);replace h5:=(cg hi ..)▸h5;lia
section
variable {prog:Program}{w:World}{A:Around}{E:Value→Shared→Prop}{s:Shared}{a I:Addr}{l:List Int}
theorem rl {Q:Value→Shared→Prop}{es:Array (Int×Value)}{ep:Nat}{t:SetTable} (ho:s.heap.get? a=some { cls:=.type "set",dict:=none,data:=.set es ep t,slots:=#[] }) (hi:SetIn w.params es t l)
  (hQ:Q (.ref s.heap.objs.size) { s with heap:=s.heap.push { cls:=.type "set_iterator",dict:=none,data:=.fields #[rawInt 0,rawInt 0,.ref a,rawInt es.size,rawInt ep],slots:=#[] } }) :
  Av (model prog w) A (pyIter (.ref a)) Q E s:=by
 have hS:SetAt w.params s.heap a l:=⟨es,ep,t,ho,hi⟩;refine wpAny_pyIter_slot hS.typeIs F.slot_set_iter (Be F.slot_set_iter hS.typeIs rN ?_ (F.args_set_iter_1 _));unfold Builtin.«frozenset.__iter__»;refine Ac (m:=Builtin.Frozenset.slot0 _ _) (Ag ?_);refine Ac (aL hS ?_)
 skip
 refine Ac (Ac (AX ho rfl hi.fits ?_))
 skip
 refine Ac (Ac (wpAny_askSetting (Ag ?_)));refine Ag ?_;have hd:(!w.params.followText "set-order" && (!t.plain && decide (es.size>1)))=false:=by refine rwC (hi.plain ..) ?_;simp
 refine (?_:Av _ _ (if (!w.params.followText "set-order" && (!t.plain && decide (es.size>1)))=true then _ else _) _ _ s);refine rwC (hd ..) ?_;refine rwC (if_neg AF ..) ?_;refine Ac (Ag ?_);refine Ac (eA ho hi ?_);refine Ac (wpAny_newObj_type (Ag ⟨_,rfl,"set_iterator",_,⟨_,Heap.get?_push_size _ rfl,rfl⟩,slot_si_next.lookup,?_⟩));refine rwD (hi.size ..) ?_;exact hQ
theorem jK {Q:Value→Shared→Prop}{slot i n ep:Nat} (hit:jA s.heap I a slot i n ep) (h:Q (.ref I) s):Av (model prog w) A (pyIter (.ref I)) Q E s:=by
 have hT:s.TypeIs (.ref I) "set_iterator":=⟨_,hit,rfl⟩;refine wpAny_pyIter_slot hT gz (Be gz hT lN ?_ (nU _))
 skip
 exact Ag ⟨_,rfl,"set_iterator",_,hT,slot_si_next.lookup,h⟩
theorem kg {es:Array (Int×Value)}{ep slot i:Nat}{t:SetTable}{Q:Option (Value×Nat)→Shared→Prop} (ho:s.heap.get? a=some { cls:=.type "set",dict:=none,data:=.set es ep t,slots:=#[] }) (hi:SetIn w.params es t l) (hs:kH w t slot i)
  (h1:∀e,(bo w a ep es)[i]?=some e→∀slot',kH w t slot' (i+1)→Q (some (e.2,slot')) s) (h2:(bo w a ep es)[i]?=none→Q none s):Av (model prog w) A (setNext a slot i ep) Q E s:=by
 skip
 refine Ac (AX ho rfl hi.fits ?_);dsimp only;refine Ac (Ac (wpAny_askSetting (Ag ?_)));show Av _ _ (if w.params.followText "set-order"=true then _ else _) _ _ s;cases hf:w.params.followText "set-order" with
 | true =>
  refine bO rfl ?_;refine aK (by simp) ?_;unfold setWalk setsByText;refine Ac (Ac (AX ho rfl hi.fits ?_));dsimp only;refine Ac (Ac (wpAny_askSetting (Ag ?_)));show Av _ _ (if w.params.followText "set-order"=true then _ else _) _ _ s;refine rwC (hf ..) ?_;refine rwC (if_pos rfl ..) ?_;refine Ac (wpAny_askSetting (Ag ?_));have hw:bo w a ep es=pickOrder (w.params.setOrder a ep) es:=by unfold bo;refine rwC (hf ..) ?_;refine rwC (if_pos rfl ..) ?_;exact rfl
  rw [hw] at h1 h2;refine Ag ?_;show Q (((pickOrder (w.params.setOrder a ep) es)[i]?).map fun e=>(e.2,slot)) s;cases he:(pickOrder (w.params.setOrder a ep) es)[i]? with
  | none=>exact h2 he
  | some e=>exact h1 e he slot (fun h=>by replace h:=(hf ..)▸h;exact tF h)
 | false =>
  refine aK AF ?_;have hp:=hi.plain;have hl:t.led=true:=by refine rwC (hi.led ..) ?_;refine rwC (hf ..) ?_;rfl
  show Av _ _ (if (!t.plain && decide (es.size>1))=true then _ else _) _ _ s;refine rwC (if_neg (show ¬((!t.plain && decide (es.size>1))=true) by rw [hp];exact AF) ..) ?_;show Av _ _ ((if (!t.led && !es.isEmpty)=true then (unsupported _:Sem PUnit) else pure ⟨⟩) >>= _) _ _ s;refine rwC (if_neg (show ¬((!t.led && !es.isEmpty)=true) by rw [hl];exact AF) ..) ?_;refine Ac (Ag ?_);refine rwC (hs hf ..) ?_;have hw:bo w a ep es=es:=by unfold bo;refine rwC (hf ..) ?_;refine rwC (if_neg AF ..) ?_;exact rfl
  rw [hw] at h1 h2;have hfit:=(ij _ _).mp hi.fits;cases he:es[i]? with
  | none=>exact Ag (h2 he)
  | some e =>
   have hlt:=(BH.mp he).1;have hpl:t.place[i]?=some (t.place[i]'(by lia)):=BK _;refine rwC (hpl ..) ?_;exact Ag (h1 e he _ fun _=>sL hi.rise (by lia))
theorem ua {es:Array (Int×Value)}{ep slot i:Nat}{t:SetTable}{Q:Option Value→Shared→Prop} (ho:s.heap.get? a=some { cls:=.type "set",dict:=none,data:=.set es ep t,slots:=#[] }) (hi:SetIn w.params es t l) (hs:kH w t slot i)
  (hit:jA s.heap I a slot i es.size ep) (hlt:i<es.size)
  (hQ:∀e h' slot',(bo w a ep es)[i]?=some e→jA h' I a slot' (i+1) es.size ep→kH w t slot' (i+1)→Heap.SameBut I s.heap h'→Q (some e.2) { s with heap:=h' }) :
  Av (model prog w) A (pyNext (.ref I)) Q E s:=by
 have hT:s.TypeIs (.ref I) "set_iterator":=⟨_,hit,rfl⟩;have hwl:(bo w a ep es).size=es.size:=by refine rwD (Ax ..) ?_;refine rwC (bU w a ep es).length_eq ?_;refine rwC (Ax ..) ?_;exact rfl
 skip
 refine Ac (wpAny_attempt (wpAny_callSpecial?_slot (name:=Ab "__next__") hT slot_si_next (Be slot_si_next hT fA ?_ (gL _))));unfold Builtin.«set_iterator.__next__»;refine Ac (m:=slotArgs _ _ _) (Ag ?_);refine Ac (wpAny_fieldsOf hit rfl ?_);dsimp only [rawInt];refine Ac (wpAny_setEntries_of ho rfl hi.fits ?_);refine aK (by simp) ?_;refine Ac ?_;have e1:((slot:Int)).toNat=slot:=AY _;have e2:((i:Int)).toNat=i:=AY _;have e3:((ep:Int)).toNat=ep:=AY _;refine rwC (e1 ..) ?_;refine rwC (e2 ..) ?_;refine rwC (e3 ..) ?_;refine kg ho hi hs (fun e he slot' hs'=>?_) (fun hn=>?_)
 ·skip
  refine Ac (wpAny_setField_rec hit (by simp) fun h₁ hg₁ sb₁=>?_);refine Ac (wpAny_setField_rec (s:={ s with heap:=h₁ }) hg₁ (by simp) fun h₂ hg₂ sb₂=>?_);exact Ag ⟨_,rfl,Ag (hQ e h₂ slot' he hg₂ hs' (sb₁.trans sb₂))⟩
 ·rw [Array.getElem?_eq_none_iff] at hn;lia
theorem next_end {es:Array (Int×Value)}{ep slot:Nat}{t:SetTable}{Q:Option Value→Shared→Prop} (hh:A.handled=none) (ho:s.heap.get? a=some { cls:=.type "set",dict:=none,data:=.set es ep t,slots:=#[] }) (hi:SetIn w.params es t l) (hs:kH w t slot es.size)
  (hit:jA s.heap I a slot es.size es.size ep) (hQ:∀h',Heap.ExtBut I s.heap h'→Q none { s with heap:=h' }) :
  Av (model prog w) A (pyNext (.ref I)) Q E s:=by
 have hT:s.TypeIs (.ref I) "set_iterator":=⟨_,hit,rfl⟩;have hwl:(bo w a ep es).size=es.size:=by refine rwD (Ax ..) ?_;refine rwC (bU w a ep es).length_eq ?_;refine rwC (Ax ..) ?_;exact rfl
 skip
 refine Ac (wpAny_attempt (wpAny_callSpecial?_slot (name:=Ab "__next__") hT slot_si_next (Be slot_si_next hT fA ?_ (gL _))));unfold Builtin.«set_iterator.__next__»;refine Ac (m:=slotArgs _ _ _) (Ag ?_);refine Ac (wpAny_fieldsOf hit rfl ?_);dsimp only [rawInt];refine Ac (wpAny_setEntries_of ho rfl hi.fits ?_);refine aK (by simp) ?_;refine Ac ?_;have e1:((slot:Int)).toNat=slot:=AY _;have e2:((es.size:Int)).toNat=es.size:=AY _;have e3:((ep:Int)).toNat=ep:=AY _;refine rwC (e1 ..) ?_;refine rwC (e2 ..) ?_;refine rwC (e3 ..) ?_;refine kg ho hi hs (fun e he slot' hs'=>?_) (fun hn=>?_)
 ·have:=(BH.mp he).1;omega
 ·skip
  refine Ac (wpAny_setField hit rfl (by simp) ?_)
  skip
  refine Ac ?_;simp only [newExc,newTuple];refine Ac (wpAny_newObj_type ?_ (by size_fits));refine Ac (m:=firstArgMember _ _) (wpAny_of_eq (a:=Value.none) (by first | rfl | (simp only [firstArgMember];rfl)) ?_);refine wpAny_newObj_type ?_ (by size_fits);simp only [raiseNew];refine Ac (wpAny_handled ?_);refine rwC (show A.in1.handled=none from hh) ?_;refine Ac (Ag (wpAny_throw ?_));refine Ac (wpAny_isInstance (T:="StopIteration") (b:=true) ⟨_,Heap.get?_push_size _ rfl,rfl⟩ isSubtype_stop ?_);exact Ag (hQ _ (((Heap.SameBut.update ..).extBut.push _).push _))
theorem hint_set {r:Addr}{Q:Bool→Shared→Prop} (hT:s.TypeIs (.ref r) "set") (h:Q false s):Av (model prog w) A (Builtin.List.listLengthHint (.ref r)) Q E s:=by
 skip
 refine Ac (wpAny_specialOf hT PySem.F.slot_set_len.lookup ?_);generalize hid:("set.__len__":String)=id0
 wp_delta
 refine rwC (show splitId id0=some ("set","__len__") from by subst hid;decide +kernel) ?_;subst hid;refine Ac (wpAny_isInstance (T:="set") (b:=true) hT (by refine rwC (isSubtype_type ..) ?_;kernel_rfl) ?_);refine wpAny_ite_split (fun hab=>absurd hab (by decide)) (fun _=>?_);refine wpAny_ite_split (fun _=>?_) (fun hab=>absurd (by decide +kernel) hab);refine Ac (wpAny_typeOf hT ?_);exact Ag h
theorem kdl_set {es:Array (Int×Value)}{ep:Nat}{t:SetTable} (hi:SetIn w.params es t l):KdlSrc prog w "set" a a es.size (fun i v=>∃e,(bo w a ep es)[i]?=some e∧e.2=v)
  (fun h=>h.get? a=some { cls:=.type "set",dict:=none,data:=.set es ep t,slots:=#[] }) where
 type:=fun _ hm=>⟨_,hm,rfl⟩
 there:=fun _ hm=>⟨Heap.lt_size hm,Heap.lt_size hm⟩
 keep:=fun _ _ hm hk=>hk a (.inl rfl) _ hm
 notList:=by decide
 notTuple:=by decide
 hint:=fun _ _ _ _ hm hq=>hint_set ⟨_,hm,rfl⟩ hq
 iter:=fun A s hh hm=>by
  have hne:a≠s.heap.objs.size:=Bk (Heap.lt_size hm);refine ⟨_,fun i h=>(∃slot,jA h s.heap.objs.size a slot i es.size ep∧kH w t slot i)∧h.get? a=some { cls:=.type "set",dict:=none,data:=.set es ep t,slots:=#[] },fun E Q hq=>rl hm hi hq,?_,⟨⟨0,Heap.get?_push_size _ rfl,fun _=>sK hi.rise⟩,Heap.get?_push_of_some _ hm⟩⟩;exact {
   sub:=fun b hb=>by simp at hb;simp [hb]
   frame:=fun i h h' st hk=>by obtain ⟨⟨slot,h1,h2⟩,h3⟩:=st;exact ⟨⟨slot,hk _ (by simp) _ h1,h2⟩,hk a (by simp) _ h3⟩
   item:=fun i s' Q E hlt st hQ=>by
    refine aA2 (st) fun zk1 h3=>?_;obtain ⟨slot,h1,h2⟩:=zk1;refine ua h3 hi h2 h1 hlt fun e h' slot' he hit' hs' sb=>?_;exact hQ _ h' s'.toks ⟨e,he,rfl⟩ ⟨⟨slot',hit',hs'⟩,(sb.2 a hne).trans h3⟩ fun b o hb e=>(sb.2 b fun q=>hb (by simp [q])).trans e
   done:=fun s' Q E st hQ=>by
    refine aA2 (st) fun zk2 h3=>?_;obtain ⟨slot,h1,h2⟩:=zk2;exact next_end hh h3 hi h2 h1 fun h' he'=>hQ h' s'.toks fun b o hb e=>he' b o (fun q=>hb (by simp [q])) e
   self:=fun i s' Q E st hQ=>by obtain ⟨⟨_,h1,_⟩,_⟩:=st;exact jK h1 hQ }
end
section
variable {W:Wd}{A:Around}{X:List Addr}{T:Tbl}{s:Shared}{n:Nat}
theorem uy {ws:List (Int×Value)}:∀{vs:List Value}{ns:List Int},(∀e∈ws,∃u,e.2=.int e.1 u)→IntsAre vs ns→vs.length=ws.length→(∀(j:Nat) (v:Value),vs[j]?=some v→∃e,ws[j]?=some e∧e.2=v)→ns=ws.map (·.1):=by
 induction ws with
 | nil =>
  intro vs ns _ h hl _;cases h with
  | nil=>rfl
  | cons=>cases hl
 | cons q r ih =>
  intro vs ns hu h hl hP;cases h with
  | nil=>cases hl
  | cons i t h' =>
   refine rwC (AR ..) ?_;refine rwC (ih (fun e he=>hu e (.tail _ he)) h' (by simpa using hl) (fun j v e=>by simpa using hP (j+1) v (by simpa using e)) ..) ?_;obtain ⟨e,e1,e2⟩:=hP 0 _ rfl;obtain rfl:=As e1;obtain ⟨u,hu'⟩:=hu q (.head _);replace e2:=(hu' ..)▸e2;cases e2;rfl
end
section
variable {prog:Program}{w:World}{A:Around}{E:Value→Shared→Prop}{s:Shared}{a I:Addr}{l:List Int}
theorem mh {k:Int}{tok:Tok}{Q:Bool→Shared→Prop} (hS:SetAtN w.params s.heap a l) (h0:0≤k) (h1:k<15)
  (h:∀h' b,Heap.SameBut a s.heap h'→SetAtN w.params h' a (eU k l)→Q b { s with heap:=h',toks:=s.toks+1 }) :
  Av (model prog w) A (setAdd a (.int k tok)) Q E s:=by
 skip
 refine Bd (Ac ((intKind prog w).pyHash (k:=k) (by simp [intKind,Value.isInt]) ?_));refine rwC (show (intKind prog w).hash k=k from bL h0 h1) ?_;exact ec (s:={ s with toks:=s.toks+1 }) hS h0 h1 h
theorem SetAtN.keep {P:Params}{h h':Heap} (x:SetAtN P h a l) (k:∀o,h.get? a=some o→h'.get? a=some o):SetAtN P h' a l:=by obtain ⟨es,ep,t,e,i⟩:=x;exact ⟨es,ep,t,k _ e,i⟩
theorem loop_ok {fp wr:List Addr}{n:Nat}{P:Nat→Value→Prop}{St:Nat→Heap→Prop}{R:Result→Shared→Prop} (Wk:Walks prog w A.in1 I fp wr n P St) (hf:a∉fp) {ns:List Int} (hn:ns.length=n)
  (hP:∀i v,P i v→∃k t,ns[i]?=some k∧v=.int k t) (hsm:∀k∈ns,0≤k∧k<15):∀(d i:Nat) (s:Shared) (l:List Int),d=n - i→i≤n→St i s.heap→SetAtN w.params s.heap a l →
  (∀h' tk,(∀b o,b≠a→b∉wr→s.heap.get? b=some o→h'.get? b=some o)→SetAtN w.params h' a (mrg l (ns.drop i))→R (.ok (.ret .none)) { s with heap:=h',toks:=tk }) →
  codeAny (model prog w) A (.builtin "set.update.loop" ⟨[.ref a,.ref I],[]⟩) R s:=by
 intro d
 induction d with
 | zero =>
  intro i s l hd hi hst hS hR;have hin:i=n:=by lia
  subst hin;refine codeAny_builtin F.entry_set_update_loop ?_;refine rwC (Around.under_plainId F.plain_set_update_loop _ ..) ?_
  skip
  refine Ac (Wk.done s _ _ hst fun h' tk hk=>?_)
  skip
  refine Ag (hR h' tk (fun b o _ hb e=>hk b o hb e) ?_);refine rwC (List.drop_of_length_le (by lia) ..) ?_;exact hS.keep fun o e=>hk a o (fun hw=>hf (Wk.sub _ hw)) e
 | succ d ih =>
  intro i s l hd hi hst hS hR;have hlt:i<n:=by lia
  refine codeAny_builtin F.entry_set_update_loop ?_;refine rwC (Around.under_plainId F.plain_set_update_loop _ ..) ?_
  skip
  refine Ac (Wk.item i s _ _ hlt hst fun v h' tk hPv hst' hk=>?_);refine eE2 (hP i v hPv) fun k t zt2=>aA2 zt2 fun hk1 zs1=>?_;subst zs1;refine aA2 (hsm k (AP hk1)) fun k0 k1=>?_;have hS':SetAtN w.params h' a l:=hS.keep fun o e=>hk a o (fun hw=>hf (Wk.sub _ hw)) e
  skip
  refine Ac (Bd (mh (s:={ s with heap:=h',toks:=tk }) hS' k0 k1 fun h'' _ sb hS''=>?_));refine Ag ⟨plainId_quiet F.plain_set_update_loop _,ih (i+1) _ (eU k l) (by lia) hlt (Wk.frame _ _ _ hst' fun b hb o e=>?_) hS'' fun h₃ tk₃ hk₃ hS₃=>?_⟩
  ·exact (sb.2 b fun q=>hf (q▸hb)).trans e
  ·refine hR h₃ tk₃ (fun b o hba hbw e=>hk₃ b o hba hbw ((sb.2 b hba).trans (hk b o hbw e))) ?_;have:ns.drop i=k::ns.drop (i+1):=by
    obtain ⟨h1,h2⟩:=AW.mp hk1;refine rwC (List.drop_eq_getElem_cons h1 ..) ?_;refine rwC (h2 ..) ?_;exact rfl
   refine rwC (this ..) ?_;exact hS₃
theorem sP (args:List Value) {Q₁:Value→Shared→Prop} (hnew:checkBuiltinCall "set.__new__" ⟨.type "set"::args,[]⟩=pure ())
  (h:∀o,SetAtN w.params (s.heap.push o) s.heap.objs.size []→Q₁ (.ref s.heap.objs.size) { s with heap:=s.heap.push o }) :
  codeAny (model prog w) A (.call (.builtin "set.__new__") ⟨.type "set"::args,[]⟩) (wants Q₁ E) s:=by
 refine codeAny_of_tree ?_;show Av _ A.in1 (do checkBuiltinCall "set.__new__" ⟨.type "set"::args,[]⟩;again (.builtin "set.__new__" ⟨.type "set"::args,[]⟩)) _ _ s;refine Ac (wpAny_of_eq hnew (Ag ⟨plainId_quiet F.plain_set_new _,codeAny_builtin F.entry_set_new ?_⟩));refine rwC (Around.under_plainId F.plain_set_new _ ..) ?_;unfold Builtin.«set.__new__» Builtin.Frozenset.newClass;have hsub:=sub_set_self;have key:=fe (prog:=prog) (w:=w) (A:=A.in1) (E:=E) (s:=s) (Q:=Q₁) h;generalize hNS:newSet=NS at key ⊢;obtain ⟨hp,g,d,tk,os⟩:=s;dsimp only at key ⊢
 wp_walk
 subst hNS;exact AC key (fun v s' hq=>by exact Ag hq) fun _ _ e=>e
theorem kj {v:Value}{Q:String→Shared→Prop} (hT:s.TypeIs v "set") (h:∀x,Q x s):Av (model prog w) A (typeNameOfCut 200 v) Q E s:=by
 skip
 refine Ac (Ac (wpAny_typeOf hT ?_));simp only [show (Value.type "set" == Value.type "builtin_function_or_method")=false by decide,Bn,if_false];refine Ag ?_;have e:typeNameCut 200 (.type "set")=pure "set":=by unfold typeNameCut typeName;rw [find?_eq_fast];kernel_rfl
 refine rwC (e ..) ?_;exact Ag (h _)
theorem kf {Q:Bool→Shared→Prop} (hS:SetAtN w.params s.heap a []) (h:Q false s):Av (model prog w) A (setUsed a) Q E s:=by
 refine eE3 (hS) fun es ep t zt3=>aA3 zt3 fun ho hi hd=>?_
 skip
 refine Ac (AX ho rfl hi.fits (Ag ?_));have hf:=(ij _ _).mp hi.fits;have hsz:es.size=0:=hi.size;have:(t.fill != 0)=false:=by
  delta SetTable.fill
  refine rwC (hf.1 ..) ?_;refine rwC (hsz ..) ?_;refine rwC (hd ..) ?_;rfl
 skip
 refine rwC (this ..) ?_;exact h
theorem gK {args:List Value}{Q:Value→Shared→Prop} (hct:checkTypeCall "set" ⟨args,[]⟩=pure ()) (hnew:checkBuiltinCall "set.__new__" ⟨.type "set"::args,[]⟩=pure ())
  (hinit:∀(s₁:Shared) (self:Value) (Q:Unit→Shared→Prop),s₁.TypeIs self "set"→Q () s₁→Av (model prog w) A.in1.in1 (checkBuiltinCall "set.__init__" ⟨self::args,[]⟩) Q E s₁)
  (hbody:∀o,SetAtN w.params (s.heap.push o) s.heap.objs.size []→Av (model prog w) A.in1.in1 (Builtin.«set.__init__» ⟨.ref s.heap.objs.size::args,[]⟩) (fun fin s'=>fin=.done (.ret .none)∧Q (.ref s.heap.objs.size) s') E { s with heap:=s.heap.push o }) :
  Av (model prog w) A (PySem.call (.type "set") args) Q E s:=by
 obtain ⟨c,tl,hmro⟩:=F.called_set.mro;have hmade:=F.called_set.made;have hsub:=F.called_set.sub;refine wpAny_call (codeAny_of_tree ?_)
 skip
 refine Ag ⟨Code.quiet_builtin _ (by decide +kernel),codeAny_builtin F.entry_type_call ?_⟩;refine rwC (Around.under_plain (weight_type_call_type "set" args []) rfl ..) ?_;have h1:=F.called_set.notType;have h2:=F.called_set.canCreate
 repeat (any_goals (first | assumption | wp_step))
 refine codeAny_mono (sP args (E:=E) (Q₁:=fun obj s₁=>∃o,obj=.ref s.heap.objs.size∧SetAtN w.params (s.heap.push o) s.heap.objs.size []∧s₁={ s with heap:=s.heap.push o }) hnew fun o ho=>⟨o,rfl,ho,rfl⟩) fun r s₁ hr=>?_;cases r with
 | error e=>exact hr
 | ok fl =>
  cases fl with
  | ret obj =>
   obtain ⟨o,rfl,hN,rfl⟩:=hr;have hT:Shared.TypeIs { s with heap:=s.heap.push o } (.ref s.heap.objs.size) "set":=hN.at.typeIs (s:={ s with heap:=s.heap.push o });have hli:=F.called_set.init.lookup;have hbi:=F.called_set.init.bind (.ref s.heap.objs.size)
   repeat (any_goals (first | assumption | wp_step))
   refine codeAny_mono (codeAny_call_builtin (R:=wants (fun r s₂=>r=.none∧Q (.ref s.heap.objs.size) s₂) E) F.called_set.init.plain F.entry_set_init (hinit _ _ _ hT ?_)) fun r₂ s₂ hr₂=>?_
   ·refine AC (hbody o hN) (fun fin s' hq=>?_) fun _ _ e=>e;obtain ⟨rfl,hq⟩:=hq;exact ⟨rfl,hq⟩
   ·cases r₂ with
    | error e=>exact hr₂
    | ok fl₂ =>
     cases fl₂ with
     | ret r =>
      obtain ⟨rfl,hq⟩:=hr₂
      repeat (any_goals (first | assumption | wp_step))
     | _=>exact hr₂.elim
  | _=>exact hr.elim
end
section
variable {prog:Program}{w:World}{A:Around}{E:Value→Shared→Prop}{s:Shared}{a I:Addr}{l:List Int}
theorem set0_ok {Q:Value→Shared→Prop} (h:∀o,SetAtN w.params (s.heap.push o) s.heap.objs.size []→Q (.ref s.heap.objs.size) { s with heap:=s.heap.push o }) :
  Av (model prog w) A (PySem.call (.type "set") []) Q E s:=by
 refine gK F.typeCall_set_0 F.newCall_set_0 (fun s₁ self Q hT hq=>check_set_init hT hq) fun o hN=>?_;unfold Builtin.«set.__init__» noKeywords;refine Ac (Ag ?_);dsimp only;refine Ac (kj (s:={ s with heap:=s.heap.push o }) (hN.at.typeIs (s:={ s with heap:=s.heap.push o })) fun x=>?_);refine Ac (m:=checkCount _ _ _ _) (Ag ?_);refine Ac (Ag ?_);refine Ac (kf (s:={ s with heap:=s.heap.push o }) hN ?_);refine aK AF ?_;exact Ag ⟨rfl,h o hN⟩
theorem sO {tp:Addr}{items:Array Value}{ns:List Int}{Q:Value→Shared→Prop} (hh:A.handled=none) (hl:IsTup s.heap tp items) (hi:IntsAre items.toList ns) (hsm:∀k∈ns,0≤k∧k<15)
  (h:∀h' tk,(∀b o,s.heap.get? b=some o→h'.get? b=some o)→SetAtN w.params h' s.heap.objs.size (mrg [] ns)→Q (.ref s.heap.objs.size) { s with heap:=h',toks:=tk }) :
  Av (model prog w) A (PySem.call (.type "set") [.ref tp]) Q E s:=by
 have htl:tp<s.heap.objs.size:=by obtain ⟨_,e,_⟩:=hl;exact Heap.lt_size e
 refine gK (F.typeCall_set_1 _) (F.newCall_set_1 _) (fun s₁ self Q hT hq=>check_set_init_1 hT hq) fun o hN=>?_;have hl1:IsTup (s.heap.push o) tp items:=hl.keeps fun _ _ e=>Heap.get?_push_of_some _ e;have hTt:Shared.TypeIs { s with heap:=s.heap.push o } (.ref tp) "tuple":=hl1.typeIs;have hlt1:tp<(s.heap.push o).objs.size:=by refine rwC (Heap.size_push ..) ?_;exact Nat.lt_succ_of_lt htl
 unfold Builtin.«set.__init__» noKeywords;refine Ac (Ag ?_)
 skip
 refine Ac (kj (s:={ s with heap:=s.heap.push o }) (hN.at.typeIs (s:={ s with heap:=s.heap.push o })) fun x=>?_);refine Ac (m:=checkCount _ _ _ _) (Ag ?_);refine Ac (Ag ?_);refine Ac (kf (s:={ s with heap:=s.heap.push o }) hN ?_);refine aK AF ?_;refine Ac ?_
 skip
 skip
 refine Ac (Ac (wpAny_isInstance hTt F.sub_tuple_set ?_));refine wpAny_isInstance hTt F.sub_tuple_frozenset ?_;refine aK AF ?_;refine Ac (wpAny_typeOf hTt ?_);refine aK (by decide) ?_;refine Ac (wpAny_pyIter_tuple hl1 ?_);refine Ac (wpAny_runValue ?_);have hne:tp≠(s.heap.push o).objs.size:=Bk hlt1;have hf:s.heap.objs.size∉[(s.heap.push o).objs.size,tp]:=by
  refine rwC (Heap.size_push ..) ?_;simp only [Ai,BV,or_false,not_or];exact ⟨Bk (Nat.lt_succ_self _),Cp htl⟩
 refine loop_ok (w:=w) (ns:=ns) (n:=items.size) (Walks.tuple (A:=A.in1.in1.in1) (by simp [hh]) _ tp hne items) hf (by refine rwD (hi.length ..) ?_;refine rwC (Ax ..) ?_;exact rfl) (fun i v hv=>?_) hsm (items.size - 0) 0 _ _ rfl (Bj _) ⟨⟨_,Heap.get?_push_size _ rfl,rfl,rfl⟩,hl1.keeps fun _ _ e=>Heap.get?_push_of_some _ e⟩ (SetAtN.keep hN fun _ e=>Heap.get?_push_of_some _ e) fun h' tk hk hN'=>?_
 ·have hv':items.toList[i]?=some v:=by rw [AM];exact hv
  obtain ⟨t,ht⟩:=IntsAre.int_at hi i v hv';have hlen:=hi.length;have hlt:=(AW.mp hv').1;refine ⟨ns.getD i 0,t,?_,ht⟩;rw [List.getD_eq_getElem?_getD,AH (by lia)];rfl
 ·skip
  refine Ag (Ag ⟨rfl,h h' tk (fun b o' e=>?_) (by simpa using hN')⟩);have hlt:=Heap.lt_size e;exact hk b o' (Bk hlt) (by rw [Ae,Heap.size_push];exact Bk (Nat.lt_succ_of_lt hlt)) (Heap.get?_push_of_some _ (Heap.get?_push_of_some _ e))
end
noncomputable def Up (g h:Heap):Prop:=∀b o,g.get? b=some o→h.get? b=some o
noncomputable abbrev vw (X:List Addr) (h:Heap):Heap:=hideAll h X
noncomputable def Kp (X:List Addr) (h h':Heap):Prop:=∀b o,b∉X→h.get? b=some o→h'.get? b=some o
theorem bg (X:List Addr) (h:Heap):Up (vw X h) h:=fun _ _ e=>of_hideAll X e
theorem aJ {X:List Addr}{h:Heap}{b:Addr}{o:Obj} (e:h.get? b=some o) (n:b∉X):(vw X h).get? b=some o:=hideAll_get X e n
theorem bm {X:List Addr}{h:Heap}{b:Addr}{o:Obj} (e:(vw X h).get? b=some o):h.get? b=some o∧b∉X:=⟨of_hideAll X e,fun m=>by rw [hideAll_none X m] at e;exact nS e⟩
theorem Kp.vw {Y X X':List Addr}{h h':Heap} (k:Kp Y h h') (s:∀b∈Y,b∈X) (n:∀b∈X',b∈X∨h.get? b=none):Up (vw X h) (vw X' h'):=fun b o e=>by
 obtain ⟨e,m⟩:=bm e;exact aJ (k b o (fun q=>m (s b q)) e) fun q=>(n b q).elim m fun z=>by rw [z] at e;exact nS e
structure Wd where
 prog:Program
 w:World
 h₀:Heap
 globs:List (Nat×Str×AV)
 faddr:Str→Option Addr
 on:Bool
 hon:Bool
 tabA:Addr
 rowsA:Addr
 idxA:Addr
 hostA:Addr
noncomputable def Wd.X0 (W:Wd):List Addr:=if W.on then [W.rowsA,W.idxA] else []
noncomputable def cr (t:String) (vs:Array Value) (n:Nat):Obj:=⟨.type t,none,.seq vs n,#[]⟩
noncomputable def PairsI {κ:Type} (kvs:List (κ×Value)) (l:List (κ×Int)):Prop:=kvs.map (·.1)=l.map (·.1)∧IntsAre (kvs.map (·.2)) (l.map (·.2))
structure SeqV (g:Heap) (t:String) (v:Value) (P:List Value→Prop) (n:Nat):Prop where
 ex:∃a vs m,v=.ref a∧g.get? a=some (cr t vs m)∧P vs.toList
 le:n≤cap
structure DictV {κ:Type} [DecidableEq κ] {prog:Program}{w:World} (knd:KeyKind prog w κ) (g:Heap) (v:Value) (l:List (κ×Int)):Prop where
 ex:∃a kvs ep,v=.ref a∧g.DictAt knd a kvs ep∧PairsI kvs l∧(a == sysModules)=false
 le:l.length≤cap
noncomputable def bltV (n:Nat):Value:=match n with
 | 0=>.builtin "len" | 1=>.builtin "all" | 2=>.builtin "any" | 3=>.builtin "sorted" | 4=>.builtin "isinstance"
 | 5=>.type "tuple" | 6=>.type "set" | 7=>.type "range" | 8=>.type "str" | _=>.none
noncomputable def VK (W:Wd) (g:Heap) (P:List Value→Prop) (a:AV) (v:Value):Prop:=bC a.k [
 (0,v=.none),(1,v=.bool a.b),(2,∃t,v=.int a.i t),(3,∃t,v=.str a.x t),(4,SeqV g "tuple" v P a.l.length),(5,SeqV g "list" v P a.l.length),
 (6,(∃p vs,v=.ref p∧g.IsList p vs∧IntsAre vs.toList a.z)∧a.z.length≤64),(7,∃p,v=.ref p∧SetAt W.w.params g p a.z),
 (8,DictV (intKind W.prog W.w) g v a.d),(9,DictV (strKind W.prog W.w) g v a.e),(10,∃r t u x,v=.ref r∧IsRange g r a.i a.j 1 t u x),
 (11,∃p,v=.ref p∧W.faddr a.x=some p),(12,v=bltV a.i.toNat),(13,v=.ref W.tabA∧W.on=true),(14,v=.ref W.hostA∧W.hon=true)]
theorem ae {k n:Nat}{P R:Prop}{l r:List (Nat×Prop)} (h:P→R) (q:bC k l→bC k r) (x:bC k ((n,P)::l)):bC k ((n,R)::r):=by
 unfold bC at x ⊢;cases e:Aw k n with
 | true=>rw [e] at x;exact h x
 | false=>rw [e] at x;exact q x
mutual
noncomputable def V (W:Wd) (g:Heap):AV→Value→Prop
 | .mk k b i j x l z d e,v=>VK W g (Vs W g l) (.mk k b i j x l z d e) v
noncomputable def Vs (W:Wd) (g:Heap):List AV→List Value→Prop
 | [],vs=>vs=[]
 | x::xs,vs=>∃v r,vs=v::r∧V W g x v∧Vs W g xs r
end
theorem SeqV.mono {g h:Heap}{t:String}{v:Value}{P R:List Value→Prop}{n:Nat} (k:Up g h) (pr:∀vs,P vs→R vs) (x:SeqV g t v P n):SeqV h t v R n :=
 by obtain ⟨⟨a,vs,m,e,o,p⟩,c⟩:=x;exact ⟨⟨a,vs,m,e,k _ _ o,pr _ p⟩,c⟩
theorem DictV.mono {κ:Type} [DecidableEq κ] {prog:Program}{w:World}{knd:KeyKind prog w κ}{g h:Heap}{v:Value}{l:List (κ×Int)} (k:Up g h) (x:DictV knd g v l):DictV knd h v l :=
 by obtain ⟨⟨a,kvs,ep,e,d,r⟩,c⟩:=x;exact ⟨⟨a,kvs,ep,e,d.at' fun o q=>k _ o q,r⟩,c⟩
theorem VK.mono {W:Wd}{g h:Heap}{P R:List Value→Prop}{a:AV}{v:Value} (k:Up g h) (pr:∀vs,P vs→R vs):VK W g P a v→VK W h R a v :=
 ae id<|ae id<|ae id<|ae id<|ae (SeqV.mono k pr)<|ae (SeqV.mono k pr) <|
 ae (fun x=>⟨x.1.imp fun _ y=>y.imp fun _ z=>⟨z.1,z.2.1.imp fun o q=>⟨k _ o q.1,q.2⟩,z.2.2⟩,x.2⟩) <|
 ae (fun x=>x.imp fun _ y=>⟨y.1,y.2.imp fun _ z=>z.imp fun _ z=>z.imp fun _ z=>⟨k _ _ z.1,z.2⟩⟩) <|
 ae (DictV.mono k)<|ae (DictV.mono k)<|ae (fun x=>x.imp fun _ x=>x.imp fun _ x=>x.imp fun _ x=>x.imp fun _ y=>⟨y.1,k _ _ y.2⟩) <|
 ae id<|ae id<|ae id<|ae id id
mutual
theorem V.mono {W:Wd}{g h:Heap} (k:Up g h):∀{av:AV}{v:Value},V W g av v→V W h av v
 | .mk _ _ _ _ _ _ _ _ _,_,x=>VK.mono k (fun _=>Vs.mono k) x
theorem Vs.mono {W:Wd}{g h:Heap} (k:Up g h):∀{l:List AV}{vs:List Value},Vs W g l vs→Vs W h l vs
 | [],_,x=>x
 | _::_,_,⟨v,r,e,a,b⟩=>⟨v,r,e,V.mono k a,Vs.mono k b⟩
end
section
variable {W:Wd}{g:Heap}{a:AV}{v:Value}
theorem V.vk (h:V W g a v):VK W g (Vs W g a.l) a v:=by cases a;exact h
theorem VK.of {n:Nat}{P:List Value→Prop} (h:VK W g P a v) (e:a.k=n):VK W g P (.mk n a.b a.i a.j a.x a.l a.z a.d a.e) v:=by cases a;cases e;exact h
theorem V.int (h:V W g a v) (e:a.k=2):∃t,v=.int a.i t:=h.vk.of e
theorem V.bool (h:V W g a v) (e:a.k=1):v=.bool a.b:=h.vk.of e
theorem V.str (h:V W g a v) (e:a.k=3):∃t,v=.str a.x t:=h.vk.of e
theorem V.tup (h:V W g a v) (e:a.k=4):SeqV g "tuple" v (Vs W g a.l) a.l.length:=h.vk.of e
theorem V.list (h:V W g a v) (e:a.k=5):SeqV g "list" v (Vs W g a.l) a.l.length:=h.vk.of e
theorem V.set (h:V W g a v) (e:a.k=7):∃p,v=.ref p∧SetAt W.w.params g p a.z:=h.vk.of e
end
inductive CellIs (h:Heap):Cell→Value→Prop
 | int (i t):CellIs h (.int i) (.int i t)
 | str (x t):PyData.strOk x=true→CellIs h (.str x) (.str x t)
 | nums {a vs n l}:IsT h a vs n→IntsAre vs.toList l→CellIs h (.nums l) (.ref a)
inductive CellsAre (h:Heap):List Cell→List Value→Prop
 | nil:CellsAre h [] []
 | cons {c v cs vs}:CellIs h c v→CellsAre h cs vs→CellsAre h (c::cs) (v::vs)
noncomputable def RowAt (h:Heap) (r:Row) (a:Addr):Prop:=∃vs n,IsT h a vs n∧CellsAre h r vs.toList
noncomputable def bw:Cell→PyData
 | .int i=>.int i
 | .str s=>.str s
 | .nums l=>.tuple (l.map .int)
theorem IntsAre.reads {h:Heap}:∀{vs:List Value}{ns:List Int},IntsAre vs ns→ReadsAll h vs (ns.map .int) []
 | _,_,.nil=>.nil
 | _,_,.cons n t r=>.cons (as:=[]) (.int n t) (IntsAre.reads r)
theorem CellIs.reads {h:Heap}{c:Cell}{v:Value}:CellIs h c v→Reads h v (bw c) []
 | .int i t=>.int i t
 | .str x t _=>.str x t
 | .nums e r=>.tuple e rfl rfl (IntsAre.reads r)
theorem CellsAre.reads {h:Heap}:∀{r:List Cell}{vs:List Value},CellsAre h r vs→ReadsAll h vs (r.map bw) []
 | _,_,.nil=>.nil
 | _,_,.cons a r=>.cons (as:=[]) a.reads r.reads
theorem RowAt.reads {h:Heap}{r:Row}{a:Addr} (x:RowAt h r a):Reads h (.ref a) (.tuple (r.map bw)) [] :=
 by obtain ⟨_,_,e,c⟩:=x;exact .tuple e rfl rfl c.reads
theorem pj (l:List Int):PyData.canLayAll0 (l.map .int)=true:=by
 induction l with
 | nil=>rfl
 | cons a r ih=>simp [PyData.canLayAll0,PyData.canLay0,ih]
theorem CellIs.lay {h:Heap}{c:Cell}{v:Value} (x:CellIs h c v):(bw c).canLay0=true:=by
 cases x with
 | int=>rfl
 | str _ _ e=>exact e
 | nums _ _=>exact pj _
theorem CellsAre.lay {h:Heap}:∀{r:List Cell}{vs:List Value},CellsAre h r vs→PyData.canLayAll0 (r.map bw)=true
 | _,_,.nil=>rfl
 | _,_,.cons a r=>by simp [PyData.canLayAll0,a.lay,r.lay]
theorem rP (l:List Int):PyData.depthAll (l.map .int)=0:=by
 induction l with
 | nil=>rfl
 | cons a r ih=>simp [PyData.depthAll,PyData.depth,ih]
theorem jl (r:List Cell):PyData.depthAll (r.map bw)≤1:=by
 induction r with
 | nil=>simp [PyData.depthAll]
 | cons a r ih =>
  simp only [AR,PyData.depthAll];cases a <;> simp [bw,PyData.depth,rP] <;> omega
theorem lM:∀l k:List Int,PyData.eqvAll (l.map .int) (k.map .int)=decide (l=k)
 | [],[]=>rfl
 | [],_::_=>rfl
 | _::_,[]=>rfl
 | a::l,b::k=>by
  simp only [AR,PyData.eqvAll,PyData.eqv,lM l k,List.cons.injEq]
  by_cases h:a=b <;> simp [h]
theorem eqv_cell (a b:Cell):PyData.eqv (bw a) (bw b)=decide (a=b):=by
 rw [Bx,decide_eq_true_eq];cases a with
 | int i=>cases b with
  | int j=>exact ⟨fun h=>congrArg _ (of_decide_eq_true h),fun h=>by cases h;exact decide_eq_true rfl⟩
  | _=>exact ⟨fun h=>(nomatch h),fun h=>(nomatch h)⟩
 | str i=>cases b with
  | str j=>exact ⟨fun h=>congrArg _ (of_decide_eq_true h),fun h=>by cases h;exact decide_eq_true rfl⟩
  | _=>exact ⟨fun h=>(nomatch h),fun h=>(nomatch h)⟩
 | nums i=>cases b with
  | nums j=>exact ⟨fun h=>congrArg _ (of_decide_eq_true ((lM i j).symm.trans h)),fun h=>by cases h;exact (lM i i).trans (decide_eq_true rfl)⟩
  | _=>exact ⟨fun h=>(nomatch h),fun h=>(nomatch h)⟩
theorem de:∀l k:List Cell,PyData.eqvAll (l.map bw) (k.map bw)=decide (l=k)
 | [],[]=>rfl
 | [],_::_=>rfl
 | _::_,[]=>rfl
 | a::l,b::k=>by
  simp only [AR,PyData.eqvAll,eqv_cell,de l k,List.cons.injEq]
  by_cases h:a=b <;> simp [h]
section
variable {prog:Program}{w:World}
theorem RowAt.eq {A:Around}{E:Value→Shared→Prop}{s:Shared}{x y:Row}{a b:Addr}{Q:Bool→Shared→Prop} (hu:A.units+64<cLine) (hx:RowAt s.heap x a) (hy:RowAt s.heap y b) (h:Q (decide (x=y)) s) :
  Av (model prog w) A (eqBool (.ref a) (.ref b)) Q E s:=by
 refine SeqAt.eqBoolOverData prog w A E s _ _ _ _ _ _ Q hx.reads hy.reads ?_ ?_ ?_ ?_
 ·obtain ⟨_,_,_,c⟩:=hx;exact c.lay
 ·obtain ⟨_,_,_,c⟩:=hy;exact c.lay
 ·have:=jl x;have h2:PyData.depth (.tuple (x.map bw))≤2:=by simp [PyData.depth];omega
  have:min (PyData.depth (.tuple (x.map bw))) (PyData.depth (.tuple (y.map bw)))≤2:=Bp (Nat.min_le_left _ _) h2;omega
 ·refine (?_:Q (PyData.eqvAll (x.map bw) (y.map bw)) s);refine rwC (de ..) ?_;exact h
noncomputable def fG (prog:Program) (w:World):Cell→Int
 | .int i=>(intKind prog w).hash i
 | .str x=>(PySem.strKind prog w).hash x
 | .nums l=>tupleKeyHash (intKind prog w) l
noncomputable def lR:Cell→Nat
 | .int _=>1
 | .str _=>1
 | .nums l=>l.length+1
noncomputable def dm:Row→Nat
 | []=>0
 | c::r=>lR c+dm r
noncomputable def om (prog:Program) (w:World) (r:Row):Int:=reduceHash (Builtin.Tuple.tupleHashOf (r.map (fG prog w)))
theorem IntsAre.items:∀{vs:List Value}{ns:List Int},IntsAre vs ns→ItemsAre (intKind prog w) ns vs
 | _,_,.nil=>.nil
 | _,_,.cons n t r=>.cons (by simp [intKind,Value.isInt]) (IntsAre.items r)
theorem CellIs.pyHash {A:Around}{E:Value→Shared→Prop}{s:Shared}{c:Cell}{v:Value}{Q:Int→Shared→Prop} (hu:A.units<cLine) (x:CellIs s.heap c v)
  (h:Q (fG prog w c) { s with toks:=s.toks+lR c }):Av (model prog w) A (PySem.pyHash v) Q E s:=by
 cases x with
 | int i t=>exact (intKind prog w).pyHash (k:=i) (by simp [intKind,Value.isInt]) h
 | str x t _=>exact (PySem.strKind prog w).pyHash (k:=x) (by simp [PySem.strKind,Value.isStrOf]) h
 | nums e r=>exact wpAny_pyHash_tuple (knd:=intKind prog w) hu ⟨_,_,_,e,rfl,rfl,IntsAre.items r⟩ h
theorem RowAt.pyHash {A:Around}{E:Value→Shared→Prop}{s:Shared}{r:Row}{a:Addr}{Q:Int→Shared→Prop} (hu:A.units+10<cLine) (hk:RowAt s.heap r a)
  (h:Q (om prog w r) { s with toks:=s.toks+(dm r+1) }):Av (model prog w) A (PySem.pyHash (.ref a)) Q E s:=by
 obtain ⟨items,n,ho,hi⟩:=hk;have hT:s.TypeIs (.ref a) "tuple":=⟨_,ho,rfl⟩
 skip
 first | unfold pyHashByItsType | skip
 first | refine Ac (wpAny_cRoomFor_or (.inr (by omega)) ?_) | skip
 refine Ac (wpAny_specialOf hT F.slot_tuple_hash.lookup ?_)
 skip
 rw [if_neg (by rw [beq_builtin_none];exact AF)];refine Ac (wpAny_specialOf hT F.slot_tuple_hash.lookup ?_)
 skip
 refine Ac (wpAny_callSpecialIfBoundUnlessNone?_slot hT F.slot_tuple_hash (Be F.slot_tuple_hash hT F.entry_tuple_hash ?_ (F.args_tuple_hash_1 _)));refine (?_:Av _ _ (Builtin.Tuple.tupleItemsOf (.ref a) >>= _) _ _ s);refine Ac (wpAny_tupleItemsOf ho rfl ?_);refine Ac ?_;rw [← Cg];refine wpAny_forIn_list _
  (fun rest (b:Array Int) s'=>∃done left,r=done++left∧CellsAre s.heap left rest∧b.toList=done.map (fG prog w)∧s'={ s with toks:=s.toks+dm done })
  _ ?_ ?_ _ _ ⟨[],r,rfl,hi,rfl,rfl⟩
 ·rintro x rest b s' ⟨done,left,rfl,hl,hb,rfl⟩;cases hl with
  | @cons k _ ks' _ h1 hl' =>
   have rt:∀(d:Row) (c:Cell),dm (d++[c])=dm d+lR c:=by
    intro d c
    induction d with
    | nil=>simp [dm]
    | cons e d ih=>simp [dm,ih,Nat.add_assoc]
   refine Ac (CellIs.pyHash (s:={ s with toks:=s.toks+dm done }) (by show A.units+1<cLine;omega) h1 ?_)
   first
    | exact Ag ⟨done++[k],ks',by simp,hl',by simp [hb],by simp [rt,Nat.add_assoc]⟩
    | exact Ac (Ag (Ag ⟨done++[k],ks',by simp,hl',by simp [hb],by simp [rt,Nat.add_assoc]⟩))
 ·rintro b s' ⟨done,left,rfl,hl,hb,rfl⟩;cases hl;rw [AG] at h;refine (?_:Av _ _ (retInt (Builtin.Tuple.tupleHashOf b.toList)) _ _ _);rw [hb];refine wpAny_ret_mkInt ?_
  skip
  unfold om reduceHash at h
  by_cases hr:(decide (-(2:Int) ^ 63≤Builtin.Tuple.tupleHashOf (done.map (fG prog w))) && decide (Builtin.Tuple.tupleHashOf (done.map (fG prog w))<2 ^ 63))=true
  ·refine bO hr ?_;rw [if_pos hr] at h;exact Ag (by simpa [Nat.add_assoc] using h)
  ·refine aK hr ?_;rw [if_neg hr] at h;exact Ac (wpAny_rule (Ag (by simpa [Nat.add_assoc] using h)))
theorem RowAt.inj {h:Heap}{a:Addr}{x y:Row} (p:RowAt h x a) (q:RowAt h y a):x=y:=by
 have:=(Reads.unique p.reads _ _ q.reads).1;have e:PyData.eqvAll (x.map bw) (x.map bw)=PyData.eqvAll (x.map bw) (y.map bw):=by
  injection this with this
  rw [this]
 rw [de,de] at e;simpa using e
theorem CellIs.at {h h':Heap}{c:Cell}{v:Value} (x:CellIs h c v) (k:∀a vs n,IsT h a vs n→IsT h' a vs n):CellIs h' c v:=by
 cases x with
 | int i t=>exact .int i t
 | str x t e=>exact .str x t e
 | nums e r=>exact .nums (k _ _ _ e) r
theorem CellsAre.at {h h':Heap} (k:∀a vs n,IsT h a vs n→IsT h' a vs n):∀{r:List Cell}{vs:List Value},CellsAre h r vs→CellsAre h' r vs
 | _,_,.nil=>.nil
 | _,_,.cons a r=>.cons (a.at k) (r.at k)
theorem RowAt.at {h h':Heap}{r:Row}{a:Addr} (x:RowAt h r a) (k:∀a vs n,IsT h a vs n→IsT h' a vs n):RowAt h' r a :=
 by obtain ⟨vs,n,e,c⟩:=x;exact ⟨vs,n,k _ _ _ e,c.at k⟩
theorem iD {A:Around}{E:Value→Shared→Prop}{s:Shared}{n:Nat}{a:Addr}{vs:Array Value}{m:Nat}{Q:Bool→Shared→Prop} (ho:IsT s.heap a vs m)
  (hi:∀v∈vs.toList,∀Q':Bool→Shared→Prop,Q' true s→Av (model prog w) A (eqIsQuiet n v) Q' E s) (h:Q true s):Av (model prog w) A (eqIsQuiet (n+1) (.ref a)) Q E s:=by
 have hT:s.TypeIs (.ref a) "tuple":=⟨_,ho,rfl⟩;unfold eqIsQuiet;refine Ac (wpAny_specialOf hT F.slot_tuple_eq.lookup ?_);show Av _ _ (isInstance (.ref a) (.type "tuple") >>= _) _ _ s;refine Ac (wpAny_isInstance hT isSubtype_tuple_tuple ?_);simp only [Bool.not_true,Bn,if_false];refine Ac (wpAny_seqItems ho rfl ?_);refine Ac ?_;show Av _ _ (forIn vs _ _) _ _ s;refine rwD (Cg ..) ?_;refine wpAny_forIn_list _ (fun rest r s'=>r.1=none∧s'=s∧∀v∈rest,v∈vs.toList) _ ?_ ?_ _ _ ⟨rfl,rfl,fun _ h=>h⟩
 ·rintro v rest r s' ⟨hr,rfl,hall⟩;refine Ac (hi v (hall v List.mem_cons_self) _ ?_);simp only [Bool.not_true,Bn,if_false];exact Ag ⟨rfl,rfl,fun u hu'=>hall u (List.mem_cons_of_mem _ hu')⟩
 ·rintro ⟨r1,r2⟩ s' ⟨hr,rfl,_⟩;simp only at hr;subst hr;exact Ag h
theorem CellsAre.mem {h:Heap}{r:List Cell}{vs:List Value} (x:CellsAre h r vs):∀v∈vs,∃c,CellIs h c v:=by
 induction x with
 | nil=>intro v hv;cases hv
 | cons a _ ih=>intro v hv;rcases Ai.mp hv with rfl | hv;exact ⟨_,a⟩;exact ih v hv
theorem IntsAre.byValue:∀{vs:List Value}{ns:List Int},IntsAre vs ns→∀v∈vs,carriedByValue v=true
 | _,_,.nil,v,hv=>by cases hv
 | _,_,.cons n t r,v,hv=>by rcases Ai.mp hv with rfl | hv;rfl;exact IntsAre.byValue r v hv
theorem RowAt.quiet {A:Around}{E:Value→Shared→Prop}{s:Shared}{r:Row}{a:Addr}{Q:Bool→Shared→Prop} (hk:RowAt s.heap r a) (h:Q true s):Av (model prog w) A (eqIsQuiet 8 (.ref a)) Q E s:=by
 refine eE2 (hk) fun vs n zt1=>aA2 zt1 fun e c=>?_;refine iD e (fun v hv Q' h'=>?_) h;refine eE1 (c.mem v hv) fun x hx=>?_;cases hx with
 | int i t=>refine rwC (eqIsQuiet_byValue _ rfl ..) ?_;exact Ag h'
 | str x t _=>refine rwC (eqIsQuiet_byValue _ rfl ..) ?_;exact Ag h'
 | nums e' r' =>
  refine iD e' (fun u hu Q'' h''=>?_) h';refine rwC (eqIsQuiet_byValue _ (IntsAre.byValue r' u hu) ..) ?_;exact Ag h''
end
noncomputable def cu (prog:Program) (w:World):HeapKind prog w Row where
 is:=RowAt
 hash:=om prog w
 draws:=fun r=>dm r+1
 room:=fun A=>A.units+64<cLine
 inj:=fun a b=>a.inj b
 keeps:=fun x ho hd hs=>x.at fun a vs n e=>(hs.2 a (fun q=>by subst q;have e':=ho.symm.trans e;cases e';cases hd)).trans e
 pyHash:=fun hu hk h=>hk.pyHash (by omega) h
 eqBool:=fun hu hx hy h=>hx.eq hu hy h
 quiet:=fun hk h=>hk.quiet h
noncomputable def NoE (_:Value) (_:Shared):Prop:=False
structure AOk (n:Nat) (A:Around):Prop where
 hand:A.handled=none
 depth:A.depth+n+4<recursionLimit
 units:A.units+10*n+300<cLine
structure Fr (W:Wd) where
 A:Around
 env:Env
 X:List Addr
 n:Nat
 hA:AOk n A
 kind:env.scope.kind=.function
 gl:env.globals=Bl
 bl:env.builtins=Ch
 code:∃c o vs,env.code=.ref c∧W.h₀.get? c=some o∧o.data=.fields vs
 locX:env.locals∈X
 x0:∀a∈W.X0,a∈X∧a≠env.locals
 cellX:∀x c,env.cells.lookup x=some c→c∈X∧c∉W.X0∧c≠env.locals
 cellU:∀x y c,env.cells.lookup x=some c→env.cells.lookup y=some c→x=y
noncomputable def Loads (h:Heap) (env:Env) (x:Str) (v:Value):Prop :=
 (env.kindOf x=some .local∧∃m,h.Ns env.locals m∧m x=some v) ∨
 ((env.kindOf x=some .cell∨env.kindOf x=some .free)∧∃c,env.cells.lookup x=some c∧h.IsCell c (some v))
noncomputable def vU {W:Wd} (F:Fr W) (x:Str) (v:Value):Prop:=F.env.kindOf x=some .globalImplicit ∧
 ∃mg,W.h₀.Ns Bl mg∧(mg x=some v∨(mg x=none∧∃mb,W.h₀.Ns Ch mb∧mb x=some v))
theorem RowAt.up {g h:Heap}{r:Row}{vs:List Value} (c:CellsAre g r vs) (u:Up g h):CellsAre h r vs:=by
 induction c with
 | nil=>exact .nil
 | cons a _ ih=>exact .cons (by cases a with | int i t=>exact .int i t | str x t e=>exact .str x t e | nums e i=>exact .nums (u _ _ e) i) ih
theorem RowAt.mono {g h:Heap}{r:Row}{a:Addr} (x:RowAt g r a) (u:Up g h):RowAt h r a:=by obtain ⟨vs,n,e,c⟩:=x;exact ⟨vs,n,u _ _ e,RowAt.up c u⟩
noncomputable def IdxO (prog:Program) (w:World) (o:Obj) (xs:List (Row×Addr×Value)):Prop:=∃es ep,o.ExactDict∧o.data=.dict es ep∧es.toList=xs.map (entryOfKey (cu prog w))∧(xs.map (·.1)).Nodup
structure TabRep (W:Wd) (T:Tbl) (h g:Heap):Prop where
 rows:∃vs n,h.get? W.rowsA=some (cr "list" vs n)∧Vs W g (T.map aU) vs.toList
 idx:∃o xs,h.get? W.idxA=some o∧IdxO W.prog W.w o xs∧xs.map (·.1)=T∧∀x∈xs,(∃t,x.2.2=.int (T.idxOf x.1) t)∧RowAt g x.1 x.2.1
 ok:∀r∈T,bX (r.map Cell.av)=some r
 len:T.length≤cap
theorem TabRep.to {W:Wd}{T:Tbl}{h g h' g':Heap} (x:TabRep W T h g) (e1:∀o,h.get? W.rowsA=some o→h'.get? W.rowsA=some o) (e2:∀o,h.get? W.idxA=some o→h'.get? W.idxA=some o) (k:Up g g'):TabRep W T h' g' :=
 by obtain ⟨⟨vs,n,e,q⟩,⟨o,xs,f,i,t,y⟩,c,l⟩:=x;exact ⟨⟨vs,n,e1 _ e,q.mono k⟩,⟨o,xs,e2 _ f,i,t,fun x m=>⟨(y x m).1,(y x m).2.mono k⟩⟩,c,l⟩
theorem TabRep.mono {W:Wd}{T:Tbl}{h g h' g':Heap} (x:TabRep W T h g) (u:Up h h') (k:Up g g'):TabRep W T h' g':=x.to (u _) (u _) k
theorem TabRep.dict {W:Wd}{T:Tbl}{h g:Heap} (x:TabRep W T h g) (u:Up g h):∃xs,h.DictOfH (cu W.prog W.w) W.idxA xs∧xs.map (·.1)=T∧∀x∈xs,(∃t,x.2.2=.int (T.idxOf x.1) t)∧RowAt g x.1 x.2.1 :=
 by obtain ⟨_,⟨o,xs,f,⟨es,ep,i1,i2,i3,i4⟩,t,y⟩,_,_⟩:=x;exact ⟨xs,⟨o,es,ep,f,i1,i2,i3,fun x m=>(y x m).2.mono u,i4⟩,t,y⟩
theorem TabRep.live {W:Wd}{T:Tbl}{h g:Heap} (x:TabRep W T h g) {a:Addr} (on:W.on=true) (m:a∈W.X0):∃o,h.get? a=some o:=by
 unfold Wd.X0 at m;replace m:=(on ..)▸m;replace m:=(if_pos rfl ..)▸m;rcases Ai.mp m with rfl | m
 ·exact by obtain ⟨vs,n,e,_⟩:=x.rows;exact ⟨_,e⟩
 ·refine rwC (Ae.mp m ..) ?_;exact by obtain ⟨o,xs,e,_⟩:=x.idx;exact ⟨_,e⟩
noncomputable def Tab (W:Wd) (T:Tbl) (X:List Addr) (h:Heap):Prop:=W.on=true→TabRep W T h (vw X h)
structure Nm {W:Wd} (F:Fr W) (h:Heap) (x:Str) (av:AV):Prop where
 good:aP x=false
 ex:∃v,V W (vw F.X h) av v∧(Loads h F.env x v∨vU F x v)
structure Hp {W:Wd} (F:Fr W) (h:Heap):Prop where
 base:Up W.h₀ h
 xs:∀a∈F.X,W.h₀.get? a=none∧∃o,h.get? a=some o
 ns:∃m,h.Ns F.env.locals m
 cell:∀x c,F.env.cells.lookup x=some c→∃v,h.IsCell c v
noncomputable abbrev Rho:=Str→Option AV
structure Cx {W:Wd} (F:Fr W) (ρ:Rho) (T:Tbl) (s:Shared):Prop where
 hp:Hp F s.heap
 nm:∀x av,ρ x=some av→Nm F s.heap x av
 tab:Tab W T F.X s.heap
structure Af (W:Wd) (s s':Shared):Prop where
 same:s'={ s with heap:=s'.heap,toks:=s'.toks }
 kp:Kp W.X0 s.heap s'.heap
inductive Got {W:Wd}{α β:Type} (Rel:Heap→α→β→Prop) (F:Fr W) (ρ:Rho) (s:Shared) (Q:α→Tbl→Prop) (r:β) (s':Shared):Prop
 | mk {a:α}{T:Tbl}:Rel (vw F.X s'.heap) a r→Cx F ρ T s'→Af W s s'→Q a T→Got Rel F ρ s Q r s'
noncomputable def se (_:Heap) (b c:Bool):Prop:=c=b
section
variable {W:Wd}{F:Fr W}{ρ:Rho}{T T':Tbl}{s s₀ s₁ s₂:Shared}{α β:Type}{Rel:Heap→α→β→Prop}{Q R:α→Tbl→Prop}{t:Sem β}
theorem Af.refl (s:Shared):Af W s s:=⟨rfl,fun _ _ _ e=>e⟩
theorem Af.trans (x:Af W s s₁) (y:Af W s₁ s₂):Af W s s₂:=⟨by have h:=y.same;replace h:=(x.same ..)▸h;exact h,fun b o n e=>y.kp b o n (x.kp b o n e)⟩
theorem Af.grow {h':Heap}{k:Nat} (u:Up s.heap h'):Af W s { s with heap:=h',toks:=k }:=⟨rfl,fun b o _ e=>u b o e⟩
theorem Cx.up (cx:Cx F ρ T s) (a:Af W s s₁):Up (vw F.X s.heap) (vw F.X s₁.heap):=a.kp.vw (fun b h=>(F.x0 b h).1) fun _ h=>.inl h
theorem IsCell.kp {X:List Addr}{h h':Heap}{c:Addr}{v:Option Value} (x:h.IsCell c v) (k:Kp X h h') (hc:c∉X):h'.IsCell c v :=
 by obtain ⟨o,ho,hd⟩:=x;exact ⟨o,k c o hc ho,hd⟩
theorem Loads.kp {X:List Addr}{h h':Heap}{env:Env}{x:Str}{v:Value} (l:Loads h env x v) (k:Kp X h h') (h1:env.locals∉X) (h2:∀c,env.cells.lookup x=some c→c∉X):Loads h' env x v :=
 l.imp (fun zq1=>by obtain ⟨a,m,hn,hm⟩:=zq1;exact ⟨a,m,hn.at' fun o e=>k _ o h1 e,hm⟩) fun zq2=>by obtain ⟨a,c,hc,hv⟩:=zq2;exact ⟨a,c,hc,IsCell.kp hv k (h2 c hc)⟩
theorem Fr.loc0:F.env.locals∉W.X0:=fun h=>(F.x0 _ h).2 rfl
theorem Tab.alive {X:List Addr}{h:Heap} (x:Tab W T X h) {a:Addr} (m:a∈W.X0):∃o,h.get? a=some o:=by
 cases on:W.on with
 | true=>exact (x on).live on m
 | false=>unfold Wd.X0 at m;replace m:=(on ..)▸m;cases m
theorem Cx.af (cx:Cx F ρ T s) (a:Af W s s₁) (tab:Tab W T' F.X s₁.heap):Cx F ρ T' s₁ :=
 have hx:∀b∈F.X,∃o,s₁.heap.get? b=some o:=fun b hb=>if q:b∈W.X0 then tab.alive q else by obtain ⟨o,e⟩:=(cx.hp.xs b hb).2;exact ⟨o,a.kp b o q e⟩
 have hc:∀{x c},F.env.cells.lookup x=some c→c∉W.X0:=fun e=>(F.cellX _ _ e).2.1
 ⟨⟨fun b o e=>a.kp b o (fun q=>by have:=(cx.hp.xs b (F.x0 b q).1).1;replace this:=(e ..)▸this;exact Sn this) (cx.hp.base b o e),fun b hb=>⟨(cx.hp.xs b hb).1,hx b hb⟩,
  cx.hp.ns.imp fun _ hn=>hn.at' fun o e=>a.kp _ o F.loc0 e,fun x c e=>(cx.hp.cell x c e).imp fun _ hv=>IsCell.kp hv a.kp (hc e)⟩,
  fun x av e=>(by obtain ⟨g,v,h1,h2⟩:=cx.nm x av e;exact ⟨g,v,h1.mono (cx.up a),h2.imp (fun l=>l.kp a.kp F.loc0 fun _ e=>hc e) id⟩),tab⟩
theorem Cx.grow {h':Heap}{k:Nat} (cx:Cx F ρ T s) (u:Up s.heap h'):Cx F ρ T { s with heap:=h',toks:=k } :=
 cx.af (.grow u) fun on=>(cx.tab on).mono u ((show Kp [] s.heap h' from fun b o _ e=>u b o e).vw (fun _ h=>nomatch h) fun _ h=>.inl h)
noncomputable def Ev (F:Fr W) (ρ:Rho) (Rel:Heap→α→β→Prop) (t:Sem β) (T:Tbl) (Q:α→Tbl→Prop):Prop:=∀s,Cx F ρ T s→Av (model W.prog W.w) F.A t (Got Rel F ρ s Q) NoE s
theorem Ev.then {P:β→Shared→Prop} (h:Ev F ρ Rel t T Q) (cx:Cx F ρ T s) (k:∀r s' a T',Rel (vw F.X s'.heap) a r→Cx F ρ T' s'→Af W s s'→Q a T'→P r s'):Av (model W.prog W.w) F.A t P NoE s :=
 AC (h s cx) (fun _ _ zq1=>by obtain ⟨a,b,c,d⟩:=zq1;exact k _ _ _ _ a b c d) fun _ _ e=>e
theorem Ev.mono (h:Ev F ρ Rel t T Q) (k:∀v T',Q v T'→R v T'):Ev F ρ Rel t T R:=fun s cx=>h.then cx fun _ _ _ _ a b c d=>⟨a,b,c,k _ _ d⟩
theorem Got.from {r:β} (a:Af W s₀ s) (g:Got Rel F ρ s Q r s₁):Got Rel F ρ s₀ Q r s₁:=match g with | ⟨x,y,z,q⟩=>⟨x,y,a.trans z,q⟩
theorem Ev.ends (h:Ev F ρ Rel t T Q) (cx:Cx F ρ T s) (a:Af W s₀ s):Av (model W.prog W.w) F.A t (Got Rel F ρ s₀ Q) NoE s:=h.then cx fun _ _ _ _ x y z q=>⟨x,y,a.trans z,q⟩
theorem Got.flat {a:α}{r:β} (cx:Cx F ρ T s) (k:Nat) (h:∀g,Rel g a r) (q:Q a T):Got Rel F ρ s Q r { s with toks:=k }:=⟨h _,cx.grow fun _ _ e=>e,.grow fun _ _ e=>e,q⟩
theorem Got.here {a:α}{r:β} (cx:Cx F ρ T s) (h:Rel (vw F.X s.heap) a r) (q:Q a T):Got Rel F ρ s Q r s:=⟨h,cx,.refl s,q⟩
theorem Got.new {av:AV}{Q:K}{o:Obj} (cx:Cx F ρ T s) (k:Nat) (hf:o.isFreed=false) (h:∀g:Heap,Up (vw F.X s.heap) g→g.get? s.heap.objs.size=some o→V W g av (.ref s.heap.objs.size)) (q:Q av T):Got (V W) F ρ s Q (.ref s.heap.objs.size) { s with heap:=s.heap.push o,toks:=k }:=by
 have u:Up s.heap (s.heap.push o):=fun _ _ e=>Heap.get?_push_of_some _ e;have a:Af W s { s with heap:=s.heap.push o,toks:=k }:=.grow u;refine ⟨h _ (cx.up a) (aJ (Heap.get?_push_size _ hf) fun m=>?_),cx.grow u,a,q⟩;obtain ⟨o',e⟩:=(cx.hp.xs _ m).2;exact Nat.lt_irrefl _ (Heap.lt_size e)
end
section
variable {W:Wd}{F:Fr W}{ρ:Rho}{T:Tbl}{s s₀ s₁ s₂:Shared}{Q:K}{B:Bool→Tbl→Prop}{L:List AV→Tbl→Prop}
noncomputable abbrev EvE (F:Fr W) (ρ:Rho) (e:Expr):=Ev F ρ (V W) (eval e F.env)
noncomputable abbrev EvT (F:Fr W) (ρ:Rho) (e:Expr):=Ev F ρ se (isTrue e F.env (eval e F.env))
theorem ev_int {i:Int}{k:Nat}{pos:Pos} (h:Q (.int i) T):EvE F ρ (.Constant (.int i) k pos) T Q:=fun _ cx=>wpAny_Constant_int (.flat (a:=Aa i) cx _ (fun _=>by exact ⟨_,rfl⟩) h)
theorem ev_str {x:Str}{k:Nat}{pos:Pos} (h:Q (.str x) T):EvE F ρ (.Constant (.str x) k pos) T Q:=fun _ cx=>wpAny_Constant_str (.flat (a:=CE x) cx _ (fun _=>by exact ⟨_,rfl⟩) h)
theorem ev_bool {b:Bool}{k:Nat}{pos:Pos} (h:Q (.bool b) T):EvE F ρ (.Constant (.bool b) k pos) T Q:=fun _ cx=>wpAny_Constant_bool (.here (a:=Aq b) cx (by exact rfl) h)
theorem ev_none {k:Nat}{pos:Pos} (h:Q .none T):EvE F ρ (.Constant .none k pos) T Q:=fun _ cx=>wpAny_Constant_none (.here (a:=By) cx (by exact rfl) h)
theorem bad {x:Str} (h:aP x=false):(x == ("__debug__":Str))=false∧(x == ("__classdict__":Str))=false:=by
 unfold aP at h;rw [BP,BP] at h;exact ⟨beq_eq_false_iff_ne.mpr (cQ h.1),beq_eq_false_iff_ne.mpr (cQ h.2.2)⟩
theorem vb {x:Str}{pos:Pos} (h:ak (ρ x) fun v=>Q v T):EvE F ρ (.Name x pos) T Q:=fun s cx=>by
 obtain ⟨av,e,h⟩:=ag h;obtain ⟨g,v,hv,hl⟩:=cx.nm x av e;refine wpAny_Name ?_ (bad g).1;have fin:Got (V W) F ρ s Q v s:=.here cx hv h;rcases hl with (⟨a,m,hn,hm⟩ | ⟨a | a,c,hc,hv⟩) | ⟨k,mg,hN,hm⟩
 ·exact wpAny_loadName_local F.kind a hn hm fin
 ·exact wpAny_loadName_cell F.kind a hc hv fin
 ·exact wpAny_loadName_free F.kind a hc hv fin (bad g).2
 ·refine rwC (loadName_read F.kind k ..) ?_;have hN':s.heap.Ns F.env.globals mg:=F.gl▸hN.keeps cx.hp.base;rcases hm with hm | ⟨hm,mb,hB,hm2⟩
  ·exact loadGlobal_global hN' hm fin
  ·exact loadGlobal_builtin hN' hm (F.bl▸hB.keeps cx.hp.base) hm2 fin
theorem fy {α β:Type}{Rel:Heap→α→β→Prop}{Q:α→Tbl→Prop}{l r:Expr}{P:Value→Value→Shared→Prop}{G:AV→AV→Tbl→Prop} (h:EvE F ρ l T fun a T₁=>EvE F ρ r T₁ (G a)) (cx:Cx F ρ T s)
  (k:∀a b x y s' T',V W (vw F.X s'.heap) a x→V W (vw F.X s'.heap) b y→Cx F ρ T' s'→Af W s s'→G a b T'→P x y s') :
  Av (model W.prog W.w) F.A (eval l F.env) (fun x s₁=>Av (model W.prog W.w) F.A (eval r F.env) (fun y s₂=>P x y s₂) NoE s₁) NoE s :=
 h.then cx fun _ _ _ _ hx cx₁ af₁ h₁=>h₁.then cx₁ fun _ _ _ _ hy cx₂ af₂ h₂=>k _ _ _ _ _ _ (V.mono (cx₁.up af₂) hx) hy cx₂ (af₁.trans af₂) h₂
end
section
variable {W:Wd}{F:Fr W}{ρ:Rho}{T:Tbl}{s:Shared}{Q:K}{g:Heap}{a b:AV}{x y:Value}
theorem jV {n m:Nat}{P:Prop} (h:iw n m a b P):a.k=n∧b.k=m∧P:=by
 refine aA2 (ac h) fun e h=>?_;rw [Ay] at e;exact ⟨Am e.1,Am e.2,h⟩
theorem dU {P:Prop}{R:Value→Value→Prop} (h:iw 2 2 a b P) (hx:V W g a x) (hy:V W g b y) (k:∀t u,P→R (.int a.i t) (.int b.i u)):R x y:=by
 refine aA3 (jV h) fun e1 e2 h=>?_;refine eE1 (hx.int e1) fun t zs1=>?_;subst zs1;refine eE1 (hy.int e2) fun u zs2=>?_;subst zs2;exact k t u h
theorem oU {a:Int} (h:rZ a=true):Builtin.Int.intBits a≤64:=by
 unfold rZ at h;rw [Ay,decide_eq_true_eq,decide_eq_true_eq] at h;exact intBits_le_64 (by lia) (by lia)
noncomputable abbrev jB (F:Fr W) (ρ:Rho) (s:Shared) (Q:K) (op:Operator) (x y:Value):Prop:=Av (model W.prog W.w) F.A (binaryOp op x y) (Got (V W) F ρ s Q) NoE s
theorem Got.int {i:Int}{t k:Nat} (cx:Cx F ρ T s) (q:Q (.int i) T):Got (V W) F ρ s Q (.int i t) { s with toks:=k }:=.flat (a:=Aa i) cx k (fun _=>by exact ⟨_,rfl⟩) q
end
section
variable {W:Wd}{F:Fr W}{ρ:Rho}{T:Tbl}{s s₀:Shared}{Q:K}{B:Bool→Tbl→Prop}{L:List AV→Tbl→Prop}{g:Heap}{a:AV}{x:Value}{pos:Pos}{e r t b o:Expr}{es:List Expr}
theorem Vs.length:∀{l:List AV}{vs:List Value},Vs W g l vs→vs.length=l.length
 | [],_,h=>h▸rfl
 | _::_,_,h=>by obtain ⟨v,r,rfl,_,h⟩:=h;exact congrArg (·+1) (Vs.length h)
theorem Vs.empty {l:List AV}{vs:Array Value} (h:Vs W g l vs.toList):vs.isEmpty=l.isEmpty:=by
 rw [Array.isEmpty,← Ax,h.length];cases l <;> rfl
theorem ju {n:Nat} (h:n≤cap):(n:Int)<2 ^ 63:=by unfold cap at h;lia
theorem Vs.size {l:List AV}{vs:Array Value} (h:Vs W g l vs.toList):vs.size=l.length:=(Ax ..).symm.trans h.length
theorem gY (h:au a fun c=>B c T) (hx:V W (vw F.X s.heap) a x) (cx:Cx F ρ T s):Av (model W.prog W.w) F.A (truthy x) (Got se F ρ s B) NoE s:=by
 have fin:∀{c d:Bool}{k:Nat},c=d→B d T→Got se F ρ s B c { s with toks:=k }:=fun e q=>.flat cx _ (fun _=>e) q;rcases ad h with ⟨e,h⟩ | h
 ·rw [hx.bool e];exact wpAny_truthy_bool (fin rfl h)
 rcases ad h with ⟨e,h⟩ | h
 ·obtain ⟨t,rfl⟩:=hx.int e;exact truthy_int (fin (by by_cases h:a.i=0 <;> simp [h]) h)
 rcases ad h with ⟨e,h⟩ | h
 ·obtain ⟨⟨p,vs,m,rfl,ho,hv⟩,c⟩:=hx.tup e;exact truthy_tuple ⟨_,bg _ _ _ _ ho,rfl,m,rfl⟩ (ju (hv.size▸c)) (fin (congrArg (! ·) hv.empty) h)
 rcases ad h with ⟨e,h⟩ | h
 ·obtain ⟨⟨p,vs,m,rfl,ho,hv⟩,c⟩:=hx.list e;exact wpAny_truthy_list ⟨_,bg _ _ _ _ ho,rfl,m,rfl⟩ (ju (hv.size▸c)) (fin (congrArg (! ·) hv.empty) h)
 rcases ad h with ⟨e,h⟩ | h
 ·rw [show x=.none from hx.vk.of e];exact truthy_none (fin rfl h)
 ·exact h.elim
theorem vq {c:Bool}{P R:Prop} (h:aa c P R):if c then P else R:=by cases c <;> exact h
theorem Ev.branch {m:Sem Bool}{Y N:Tbl→Prop}{k n:Shared→Prop} (h:Ev F ρ se m T fun c T'=>aa c (Y T') (N T')) (cx:Cx F ρ T s)
  (hy:∀s' T',Cx F ρ T' s'→Af W s s'→Y T'→k s') (hn:∀s' T',Cx F ρ T' s'→Af W s s'→N T'→n s'):Av (model W.prog W.w) F.A m (fun c s'=>if c then k s' else n s') NoE s :=
 h.then cx fun c s' d T' e cx' af q=>by
  have e:c=d:=e;subst e;cases c with
  | true=>exact hy s' T' cx' af q
  | false=>exact hn s' T' cx' af q
theorem ev_test (h:EvE F ρ e T fun v T'=>au v fun c=>B c T') (he:isTrue e F.env (eval e F.env)=(do let v ← eval e F.env;standAt e.pos;holding [v] (truthy v))):EvT F ρ e T B:=fun s cx =>
 isTrue_plain (h.then cx fun _ _ _ _ hv cx₁ af q=>AC (gY q hv cx₁) (fun _ _ r=>r.from af) fun _ _ e=>e) he
theorem ev_not (h:EvE F ρ e T fun v T'=>au v fun c=>Q (.bool (!c)) T'):EvE F ρ (.UnaryOp .Not e pos) T Q:=fun s cx =>
 UnaryOp_ (h.then cx fun _ _ _ _ hv cx₁ af q=>not_of (AC (gY (B:=fun c T=>Q (.bool (!c)) T) q hv cx₁) (fun c s' r=>match r with | ⟨e,cx₂,af₂,q⟩=>⟨(show V W _ (.bool !_) (.bool !c) from congrArg (fun c=>Value.bool !c) e),cx₂,af.trans af₂,q⟩) fun _ _ e=>e))
theorem evt_not (h:EvT F ρ e T fun c T'=>B (!c) T'):EvT F ρ (.UnaryOp .Not e pos) T B:=fun s cx =>
 isTrue_not (h.then cx fun c s' d T' e cx' af q=>⟨(congrArg (! ·) e:(!c)=!d),cx',af,q⟩)
theorem ev_ifexp (h:EvT F ρ t T fun c T'=>aa c (EvE F ρ b T' Q) (EvE F ρ o T' Q)):EvE F ρ (.IfExp t b o pos) T Q:=fun s cx =>
 IfExp_ (h.branch cx (fun _ _ cx' af q=>q.ends cx' af) fun _ _ cx' af q=>q.ends cx' af)
end
section
variable {W:Wd}{F:Fr W}{ρ:Rho}{T:Tbl}{s s₀:Shared}{Q:K}{B:Bool→Tbl→Prop}{L:List AV→Tbl→Prop}{g:Heap}{a:AV}{x:Value}{pos:Pos}{e r t b o:Expr}{es:List Expr}
noncomputable abbrev EvS (F:Fr W) (ρ:Rho) (pos:Pos) (es:List Expr):=Ev F ρ (Vs W) (spliced (backTo pos (starEach es F.env)))
theorem uY (h:L [] T):EvS F ρ pos [] T L:=fun _ cx=>Calls.spliced_nil (.here (a:=([]:List AV)) cx (by exact rfl) h)
theorem qu (hp:kdsPlain e=true) (h:EvE F ρ e T fun v T₁=>EvS F ρ pos es T₁ fun l T₂=>L (v::l) T₂):EvS F ρ pos (e::es) T L:=fun s cx=>by
 have he:backTo pos (starEach (e::es) F.env)=(false,eval e F.env)::backTo pos (starEach es F.env):=by
  cases e <;> first | rfl | exact absurd hp (by simp [kdsPlain])
 refine rwC (he ..) ?_;exact Calls.spliced_cons (h.then cx fun _ _ _ _ hv _ af h=>h.then ‹_› fun _ _ _ _ hs cx₂ af₂ q=>⟨by exact ⟨_,_,rfl,hv.mono (Cx.up ‹_› af₂),hs⟩,cx₂,af.trans af₂,q⟩)
theorem qA {n:Nat} (h:n≤cap):n≤sizeLine:=Bp h (by decide)
theorem eL {t:String}{k:Nat}{l:List AV}{vs:Array Value} (ht:k=4∧t="tuple"∨k=5∧t="list") (cx:Cx F ρ T s) (hv:Vs W (vw F.X s.heap) l vs.toList) (hc:l.length≤cap) (n:Nat) (q:Q (.tag k (l:=l)) T) :
  Got (V W) F ρ s Q (.ref s.heap.objs.size) { s with heap:=s.heap.push (cr t vs 0),toks:=n } :=
 .new cx n rfl (fun g u e=>by
  have sv:SeqV g t (.ref s.heap.objs.size) (Vs W g l) l.length:=⟨⟨_,vs,0,rfl,e,hv.mono u⟩,hc⟩;rcases ht with ⟨rfl,rfl⟩ | ⟨rfl,rfl⟩ <;> exact sv) q
theorem ev_tuple {k:Nat} (h:EvS F ρ pos es T fun l T₁=>l.length≤cap∧Q (.tup l) T₁):EvE F ρ (.Tuple es k pos) T Q:=fun s cx =>
 Tuple_ (h.then cx fun vs _ l _ hv cx₁ af q=>wpAny_newTuple ((eL (k:=4) (.inl ⟨rfl,rfl⟩) cx₁ (vs:=vs.toArray) hv q.1 _ q.2).from af) (by refine rwC (hv.length ..) ?_;exact qA q.1))
theorem ev_list (h:EvS F ρ pos es T fun l T₁=>l.length≤cap∧Q (.list l) T₁):EvE F ρ (.List es pos) T Q:=fun s cx =>
 List_ (h.then cx fun vs _ l _ hv cx₁ af q=>wpAny_newList ((eL (k:=5) (.inr ⟨rfl,rfl⟩) cx₁ (vs:=vs.toArray) hv q.1 _ q.2).from af) (by refine rwC (hv.length ..) ?_;exact qA q.1))
end
section
variable {W:Wd}{F:Fr W}{ρ:Rho}{T:Tbl}{s:Shared}{Q:K}{g:Heap}{a b:AV}{x y:Value}
theorem Vs.append:∀{l m:List AV}{vs us:List Value},Vs W g l vs→Vs W g m us→Vs W g (l++m) (vs++us)
 | [],_,_,_,h,k=>by subst h;exact k
 | _::_,_,_,_,h,k=>by obtain ⟨v,r,rfl,h1,h2⟩:=h;exact ⟨v,r++_,rfl,h1,h2.append k⟩
theorem pD {n m:Nat}{P:Prop} (e:a.k=n) (h:ai (Aw b.k m) P):iw n m a b P:=by
 unfold iw;refine rwC (e ..) ?_;refine rwC (Nat.beq_refl ..) ?_;exact h
theorem iB {n:Nat}{P:Prop} (h:ai (Aw b.k n) P):b.k=n∧P:=(ac h).imp Am id
theorem add_ok (cx:Cx F ρ T s) (hx:V W (vw F.X s.heap) a x) (hy:V W (vw F.X s.heap) b y) (h:addP a b fun v=>Q v T):jB F ρ s Q .Add x y:=by
 rcases ad h with ⟨e,h⟩ | h
 ·exact dU (R:=jB F ρ s Q .Add) (pD e h) hx hy fun _ _ q=>add_int (.int cx q)
 rcases ad h with ⟨e,h⟩ | h
 ·refine aA3 (iB h) fun e2 zk1 h=>?_;obtain ⟨h1,h2,h3⟩:=zk1;obtain ⟨⟨p,vs,m,rfl,ho,hv⟩,c⟩:=hx.tup e;obtain ⟨⟨q,us,k,rfl,ho2,hu⟩,c2⟩:=hy.tup e2;refine P.add_tuple (bg _ _ _ _ ho) (bg _ _ _ _ ho2) (by refine rwC (hv.empty ..) ?_;simp [h1]) (by refine rwC (hu.empty ..) ?_;simp [h2]) ?_ (by refine rwC (hv.size ..) ?_;refine rwC (hu.size ..) ?_;exact qA h3);exact eL (k:=4) (.inl ⟨rfl,rfl⟩) cx (by refine rwC (Cv ..) ?_;exact hv.append hu) (by refine rwC (Ar ..) ?_;exact h3) s.toks h
 rcases ad h with ⟨e,h⟩ | h
 ·refine aA3 (iB h) fun e2 h3 h=>?_;obtain ⟨⟨p,vs,m,rfl,ho,hv⟩,c⟩:=hx.list e;obtain ⟨⟨q,us,k,rfl,ho2,hu⟩,c2⟩:=hy.list e2;refine P.add_list (bg _ _ _ _ ho) (bg _ _ _ _ ho2) ?_ (by refine rwC (hv.size ..) ?_;refine rwC (hu.size ..) ?_;exact qA h3);exact eL (k:=5) (.inr ⟨rfl,rfl⟩) cx (by refine rwC (Cv ..) ?_;exact hv.append hu) (by refine rwC (Ar ..) ?_;exact h3) s.toks h
 ·exact h.elim
theorem Got.set {h':Heap}{p:Addr}{l:List Int} (cx:Cx F ρ T s) (u:Up s.heap h') (n:s.heap.get? p=none) (hS:SetAt W.w.params h' p l) (q:Q (.set l) T):Got (V W) F ρ s Q (.ref p) { s with heap:=h' }:=by
 have hp:p∉F.X:=fun m=>by obtain ⟨o,e⟩:=(cx.hp.xs _ m).2;rw [n] at e;exact nS e
 refine eE3 (hS) fun es ep t zt2=>aA2 zt2 fun e i=>?_;exact ⟨(show V W _ (.set l) _ from ⟨p,rfl,es,ep,t,aJ e hp,i⟩),cx.grow u,.grow u,q⟩
theorem aF (h:Heap):h.get? h.objs.size=none:=by
 cases e:h.get? h.objs.size with
 | none=>rfl
 | some o=>exact absurd (Heap.lt_size e) (Nat.lt_irrefl _)
theorem kP {P:Prop}{R:Value→Value→Prop} (h:iw 7 7 a b P) (hx:V W g a x) (hy:V W g b y) (k:∀p q,SetAt W.w.params g p a.z→SetAt W.w.params g q b.z→P→R (.ref p) (.ref q)):R x y:=by
 obtain ⟨e1,e2,h⟩:=jV h;obtain ⟨p,rfl,hp⟩:=hx.set e1;obtain ⟨q,rfl,hq⟩:=hy.set e2;exact k p q hp hq h
theorem SetAt.sorted {P:Params}{h:Heap}{a:Addr}{l:List Int} (x:SetAt P h a l):l.Pairwise (·<·):=by obtain ⟨_,_,_,_,i⟩:=x;exact i.sorted
theorem SetAt.uniq {P:Params}{h:Heap}{a:Addr}{l l':List Int} (x:SetAt P h a l) (y:SetAt P h a l'):l=l':=by
 refine eE3 (x) fun _ _ _ zt3=>aA2 zt3 fun e1 i1=>?_;refine eE3 (y) fun _ _ _ zt4=>aA2 zt4 fun e2 i2=>?_;replace e2:=(e1 ..)▸e2;cases e2;exact bn i1.sorted i2.sorted fun x=>by rw [← i1.perm.mem_iff,i2.perm.mem_iff]
theorem SetAt.up {P:Params}{h:Heap}{p:Addr}{l:List Int} (x:SetAt P g p l) (u:Up g h):SetAt P h p l:=x.imp fun _ y=>y.imp fun _ y=>y.imp fun _ y=>⟨u _ _ y.1,y.2⟩
theorem bin_ok {op:Operator} (cx:Cx F ρ T s) (hx:V W (vw F.X s.heap) a x) (hy:V W (vw F.X s.heap) b y) (h:binP op a b fun v=>Q v T):jB F ρ s Q op x y:=by
 have up:=bg F.X s.heap;cases op with
 | Add=>exact add_ok cx hx hy h
 | Sub =>
  rcases aA h with ⟨e,h⟩ | ⟨_,h⟩
  ·refine kP (R:=jB F ρ s Q .Sub) h hx hy fun p q hp hq ⟨⟨e1,e2⟩,h⟩=>?_;replace hp:=(e1 ..)▸hp;replace hq:=(e2 ..)▸hq;exact sub_ok (hp.up up) (hq.up up) (fun e=>by subst e;have:=SetAt.uniq hp hq;cases this) (by decide) rfl (by decide) fun h' hk hN=>.set cx hk (aF _) hN h
  ·exact dU (R:=jB F ρ s Q .Sub) h hx hy fun _ _ q=>sub_int (.int cx q)
 | Mult=>exact dU (R:=jB F ρ s Q .Mult) h hx hy fun _ _ q=>mul_int (.int cx q.2) (IntMulOk.of_left (oU q.1.1))
 | FloorDiv=>exact dU (R:=jB F ρ s Q .FloorDiv) h hx hy fun _ _ q=>floordiv_int q.1.1 (.int cx q.2) (Or.inl (PyProof.noPylong_small q.1.2))
 | Mod=>exact dU (R:=jB F ρ s Q .Mod) h hx hy fun _ _ q=>mod_int q.1 (.int cx q.2)
 | Pow=>exact dU (R:=jB F ρ s Q .Pow) h hx hy fun t u q=>by refine rwC (q.1.1 ..) ?_;exact pow_int q.1.2.1 (by show ((2:Nat):Int)*b.i≤_;have:=q.1.2.2;omega) (.int cx q.2)
 | BitOr=>exact kP (R:=jB F ρ s Q .BitOr) h hx hy fun p q hp hq h=>or_ok (hp.up up) (hq.up up) fun h' hk hN=>.set cx hk (aF _) (by
   have:bp (a.z++b.z)=mrg a.z b.z:=by
    refine (?_:List.foldl _ [] (_++_)=_);refine rwC (List.foldl_append ..) ?_;exact congrArg (mrg · b.z) (oJ (SetAt.sorted hp))
   refine rwC (this ..) ?_;exact hN.at) h
 | BitAnd=>exact kP (R:=jB F ρ s Q .BitAnd) h hx hy fun p q hp hq h=>and_ok (hp.up up) (hq.up up) fun h' hk hN=>.set cx hk (aF _) hN.at h
 | _=>exact h.elim
end
section
variable {W:Wd}{F:Fr W}{ρ:Rho}{T:Tbl}{s:Shared}{Q:K}{B:Bool→Tbl→Prop}{g:Heap}{a b:AV}{x y:Value}
theorem bind_some {α β:Type}{o:Option α}{f:α→Option β}{r:β} (h:o.bind f=some r):∃a,o=some a∧f a=some r:=AJ.mp h
theorem fK {α β:Type}{f:α→Option β}{x:α}{l:List α}{r:List β} (h:allM f (x::l)=some r):∃y q,f x=some y∧allM f l=some q∧r=y::q:=by
 obtain ⟨y,e1,h⟩:=bind_some h;obtain ⟨q,e2,rfl⟩:=Bc.mp h;exact ⟨y,q,e1,e2,rfl⟩
theorem cD {α:Type}{k:Nat}{f:AV→α}{v:α} (h:dM k f a=some v):a.k=k∧v=f a:=by
 unfold dM at h;cases e:Aw a.k k with
 | true=>rw [e] at h;obtain rfl:=As h;exact ⟨Am e,rfl⟩
 | false=>rw [e] at h;exact nS h
theorem Vs.ints:∀{l:List AV}{vs:List Value}{ns:List Int},Vs W g l vs→aB l=some ns→IntsAre vs ns
 | [],_,_,h,e=>by subst h;cases e;exact .nil
 | _::_,_,_,h,e=>by
  obtain ⟨v,r,rfl,h1,h2⟩:=h;obtain ⟨i,q,e1,e2,rfl⟩:=fK e;obtain ⟨k,rfl⟩:=cD e1;obtain ⟨t,rfl⟩:=h1.int k;exact .cons _ _ (h2.ints e2)
theorem V.cell {c:Cell} (h:V W g a x) (e:cellOf a=some c):CellIs g c x:=by
 unfold cellOf at e;cases e2:Aw a.k 2 with
 | true =>
  rw [e2] at e;obtain rfl:=As e;obtain ⟨t,rfl⟩:=h.int (Am e2);exact .int _ _
 | false =>
  rw [e2] at e;cases e3:Aw a.k 3 with
  | true =>
   rw [e3] at e;cases ek:PyData.strOk a.x with
   | true =>
    rw [ek] at e;obtain rfl:=As e;obtain ⟨t,rfl⟩:=h.str (Am e3);exact .str _ _ ek
   | false=>rw [ek] at e;exact nS e
  | false =>
   rw [e3] at e;cases e4:Aw a.k 4 with
   | true =>
    rw [e4] at e;obtain ⟨l,el,rfl⟩:=Bc.mp e;obtain ⟨⟨p,vs,m,rfl,ho,hv⟩,_⟩:=h.tup (Am e4);exact .nums (n:=m) ho (hv.ints el)
   | false=>rw [e4] at e;exact nS e
theorem Vs.cells:∀{l:List AV}{vs:List Value}{r:Row},Vs W g l vs→bX l=some r→CellsAre g r vs
 | [],_,_,h,e=>by subst h;cases e;exact .nil
 | _::_,_,_,h,e=>by
  obtain ⟨v,r,rfl,h1,h2⟩:=h;obtain ⟨i,q,e1,e2,rfl⟩:=fK e;exact .cons (h1.cell e1) (h2.cells e2)
end
section
variable {W:Wd}{F:Fr W}{ρ:Rho}{T:Tbl}{s:Shared}{Q:K}{B:Bool→Prop}{g:Heap}{a b:AV}{x y:Value}
noncomputable def Ans (W:Wd) (F:Fr W) (op:CmpOp) (s:Shared) (B:Bool→Prop) (x y:Value):Prop:=∀P:Value→Shared→Prop,(∀c k,B c→P (.bool c) { s with toks:=k })→Av (model W.prog W.w) F.A (compareOp op x y) P NoE s
theorem gq {n:Prop}{op:CmpOp} (h:iw 2 2 a b n) (hx:V W g a x) (hy:V W g b y) (k:n→∀t u,Ans W F op s B (.int a.i t) (.int b.i u)):Ans W F op s B x y :=
 dU (R:=Ans W F op s B) h hx hy fun t u q=>k q t u
theorem lP {α:Type} [BEq α] [LawfulBEq α] (i j:α) [Decidable (i=j)]:(i == j)=decide (i=j):=by by_cases h:i=j <;> simp [h]
theorem eq_ok (hx:V W (vw F.X s.heap) a x) (hy:V W (vw F.X s.heap) b y) (h:eqP a b B):Ans W F .Eq s B x y∧Ans W F .NotEq s (fun c=>B (!c)) x y:=by
 have up:=bg F.X s.heap;have hu:F.A.units+64<cLine:=by have:=F.hA.units;lia
 rcases ad h with ⟨e,h⟩ | h
 ·have h':=pD (b:=b) (a:=a) e h;exact ⟨gq h' hx hy fun q t u P k=>eq_int (k _ s.toks (by refine rwC (lP ..) ?_;exact q)),gq h' hx hy fun q t u P k=>ne_int (k _ s.toks (by show B (!!_);refine rwC (Ci ..) ?_;refine rwC (lP ..) ?_;exact q))⟩
 rcases ad h with ⟨e,h⟩ | h
 ·obtain ⟨e2,h⟩:=iB h;refine rwC (hx.bool e ..) ?_;refine rwC (hy.bool e2 ..) ?_;exact ⟨fun P k=>eq_bool (k _ s.toks (by refine rwC (lP ..) ?_;exact h)),fun P k=>ne_bool (k _ s.toks (by show B (!!_);refine rwC (Ci ..) ?_;refine rwC (lP ..) ?_;exact h))⟩
 rcases ad h with ⟨e,h⟩ | h
 ·obtain ⟨e2,h⟩:=iB h;obtain ⟨p,rfl,hp⟩:=hx.set e;obtain ⟨q,rfl,hq⟩:=hy.set e2;exact ⟨fun P k=>eqv_ok (hp.up up) (hq.up up) (by lia) (k _ s.toks h),fun P k=>nev_ok (hp.up up) (hq.up up) (by lia) (k _ s.toks (by show B (!!_);refine rwC (Ci ..) ?_;exact h))⟩
 rcases ad h with ⟨e,h⟩ | h
 ·obtain ⟨e2,h⟩:=iB h;obtain ⟨r,er,h⟩:=ag h;obtain ⟨r2,er2,h⟩:=ag h;obtain ⟨⟨p,vs,m,rfl,ho,hv⟩,_⟩:=hx.tup e;obtain ⟨⟨q,us,n,rfl,ho2,hv2⟩,_⟩:=hy.tup e2;have c1:=RowAt.up (hv.cells er) up;have c2:=RowAt.up (hv2.cells er2) up;have lt:∀p:Row,PyData.depth (.tuple (p.map bw))≤2:=fun p=>by have:=jl p;simp [PyData.depth];lia
  have l1:=lt r;have l2:=lt r2;exact ⟨fun P k=>SeqAt.compareEq_reads (RowAt.reads ⟨_,_,up _ _ ho,c1⟩) (RowAt.reads ⟨_,_,up _ _ ho2,c2⟩) c1.lay c2.lay (by lia) (k _ s.toks (by show B (PyData.eqvAll _ _);refine rwC (de ..) ?_;exact h)),
   fun P k=>SeqAt.compareNe_reads (RowAt.reads ⟨_,_,up _ _ ho,c1⟩) (RowAt.reads ⟨_,_,up _ _ ho2,c2⟩) c1.lay c2.lay (by lia) (k _ s.toks (by show B (!!PyData.eqvAll _ _);refine rwC (Ci ..) ?_;refine rwC (de ..) ?_;exact h))⟩
 ·exact h.elim
end
section
variable {W:Wd}{F:Fr W}{ρ:Rho}{T:Tbl}{s:Shared}{Q:K}{B:Bool→Prop}{g:Heap}{a b:AV}{x y:Value}
theorem cV (l:List Int) (x:Int):l.any (· == x)=l.contains x:=by
 refine rwC (List.contains_eq_any_beq ..) ?_
 congr 1;funext y
 rw [Bx,beq_iff_eq,beq_iff_eq];exact eq_comm
theorem uI {κ:Type} [DecidableEq κ] {kvs:List (κ×Value)}{l:List (κ×Int)} (h:PairsI kvs l) (k:κ):(valueAt kvs k).isSome=l.any fun p=>decide (p.1=k):=by
 have e:∀{β:Type} (l:List (κ×β)),(l.any fun p=>decide (p.1=k))=(l.map (·.1)).any fun x=>decide (x=k):=fun l=>by refine rwC (List.any_map ..) ?_;rfl
 rw [e,← h.1,← e,valueAt,Option.isSome_map,Bx,List.find?_isSome,BO]
theorem in_ok (hx:V W (vw F.X s.heap) a x) (hy:V W (vw F.X s.heap) b y) (h:inP a b B):Ans W F .In s B x y∧Ans W F .NotIn s (fun c=>B (!c)) x y:=by
 have up:=bg F.X s.heap;obtain ⟨e,h⟩:=ac h;obtain ⟨t,rfl⟩:=hx.int (Am e);have nn:∀{c:Bool},B c→B (!!c):=fun h=>by refine rwC (Ci ..) ?_;exact h
 rcases ad h with ⟨e,h⟩ | h
 ·obtain ⟨l,el,h⟩:=ag h;obtain ⟨⟨p,vs,m,rfl,ho,hv⟩,_⟩:=hy.tup e;have q:IsTup s.heap p vs:=⟨_,up _ _ ho,rfl,m,rfl⟩;exact ⟨fun P k=>in_tuple_ints q (hv.ints el) (k _ s.toks (by refine rwC (cV ..) ?_;exact h)),fun P k=>notin_tuple_ints q (hv.ints el) (k _ s.toks (nn (by refine rwC (cV ..) ?_;exact h)))⟩
 rcases ad h with ⟨e,h⟩ | h
 ·obtain ⟨l,el,h⟩:=ag h;obtain ⟨⟨p,vs,m,rfl,ho,hv⟩,_⟩:=hy.list e;have q:s.heap.IsList p vs.toList.toArray:=⟨_,up _ _ ho,rfl,m,rfl⟩;exact ⟨fun P k=>in_list_ints q (hv.ints el) (k _ s.toks (by refine rwC (cV ..) ?_;exact h)),fun P k=>notin_list_ints q (hv.ints el) (k _ s.toks (nn (by refine rwC (cV ..) ?_;exact h)))⟩
 rcases ad h with ⟨e,h⟩ | h
 ·obtain ⟨p,rfl,hp⟩:=hy.set e;exact ⟨fun P k=>wpAny_inSet_of (knd:=intKind W.prog W.w) (k:=a.i) (by simp [intKind,Value.isInt]) rfl (hp.up up).setOf (k _ _ h),
   fun P k=>wpAny_notInSet_of (knd:=intKind W.prog W.w) (k:=a.i) (by simp [intKind,Value.isInt]) rfl (hp.up up).setOf (k _ _ (nn h))⟩
 rcases ad h with ⟨e,h⟩ | h
 ·obtain ⟨⟨p,kvs,ep,rfl,hd,hp,hm⟩,_⟩:=(hy.vk.of e:DictV (intKind W.prog W.w) _ y b.d);have hd':=Heap.DictAt.dictOf (hd.at' fun o q=>up _ _ q);exact ⟨fun P k=>wpAny_in_of (knd:=intKind W.prog W.w) (k:=a.i) (by simp [intKind,Value.isInt]) hm hd'.mapOf (k _ _ (by refine rwC (uI hp ..) ?_;exact h)),
   fun P k=>wpAny_notIn_of (knd:=intKind W.prog W.w) (k:=a.i) (by simp [intKind,Value.isInt]) hm hd'.mapOf (k _ _ (nn (by refine rwC (uI hp ..) ?_;exact h)))⟩
 ·exact h.elim
end
section
variable {W:Wd}{F:Fr W}{ρ:Rho}{T:Tbl}{s:Shared}{Q:K}{C:Bool→Tbl→Prop}{B:Bool→Prop}{g:Heap}{a b:AV}{x y:Value}{pos:Pos}{l r:Expr}{op:CmpOp}
theorem cmp_ok (hx:V W (vw F.X s.heap) a x) (hy:V W (vw F.X s.heap) b y) (h:cmpP op a b B):Ans W F op s B x y:=by
 have up:=bg F.X s.heap;cases op with
 | Eq=>exact (eq_ok hx hy h).1
 | NotEq=>exact fun P k=>(eq_ok (B:=fun x=>B (!x)) hx hy h).2 P fun c n q=>k c n (Ci c▸(q:B (!!c)))
 | Lt=>exact gq h hx hy fun q t u P k=>lt_int (k _ s.toks q)
 | LtE =>
  rcases aA h with ⟨e,h⟩ | ⟨_,h⟩
  ·refine kP (R:=Ans W F .LtE s B) h hx hy fun p q hp hq h P k=>le_ok (hp.up up) (hq.up up) (by have:=F.hA.units;lia) (k _ s.toks h)
  ·exact gq h hx hy fun q t u P k=>le_int (k _ s.toks q)
 | Gt=>exact gq h hx hy fun q t u P k=>gt_int (k _ s.toks q)
 | GtE=>exact gq h hx hy fun q t u P k=>ge_int (k _ s.toks q)
 | In=>exact (in_ok hx hy h).1
 | NotIn=>exact fun P k=>(in_ok (B:=fun x=>B (!x)) hx hy h).2 P fun c n q=>k c n (Ci c▸(q:B (!!c)))
 | Is =>
  obtain ⟨e,h⟩:=ac h;refine rwC (show y=.none from hy.vk.of (Am e)) ?_;rcases ad h with ⟨e,h⟩ | h
  ·refine rwC (show x=.none from hx.vk.of e) ?_;exact fun P k=>is_none_none (k _ s.toks h)
  rcases ad h with ⟨e,h⟩ | h
  ·obtain ⟨⟨p,vs,m,rfl,_⟩,_⟩:=hx.list e;exact fun P k=>is_none_ne (by simp) (k _ s.toks h)
  ·exact h.elim
 | _=>exact h.elim
theorem ev_binop {o:Operator} (h:EvE F ρ l T fun a T₁=>EvE F ρ r T₁ fun b T₂=>binP o a b fun v=>Q v T₂):EvE F ρ (.BinOp l o r pos) T Q:=fun s cx =>
 wpAny_BinOp (fy (G:=fun a b T₂=>binP o a b fun v=>Q v T₂) (Rel:=V W) (Q:=Q) h cx fun _ _ _ _ _ _ hx hy cx₂ af q=>AC (bin_ok cx₂ hx hy q) (fun _ _ r=>r.from af) fun _ _ e=>e)
theorem ev_cmp (hm:behindInMarks op r=false) (h:EvE F ρ l T fun a T₁=>EvE F ρ r T₁ fun b T₂=>cmpP op a b fun c=>Q (.bool c) T₂):EvE F ρ (.Compare l [op] [r] pos) T Q:=fun s cx =>
 wpAny_Compare1 (fy (G:=fun a b T₂=>cmpP op a b fun c=>Q (.bool c) T₂) (Rel:=V W) (Q:=Q) h cx fun _ _ _ _ s₂ _ hx hy cx₂ af q=>cmp_ok hx hy q _ fun c k q=>(Got.flat (a:=Aq c) cx₂ k (fun _=>by exact rfl) q).from af) hm
end
section
variable {W:Wd}{F:Fr W}{ρ:Rho}{T:Tbl}{s:Shared}{Q:K}{g:Heap}{a:AV}{x:Value}
theorem tH {i:Int}{n k:Nat} (h:aj i n=some k):seqIndex? i n=some k∧(-1≤i∧i<n):=by
 unfold aj at h
 split at h
 ·rename_i hh;obtain rfl:=As h;exact ⟨seqIndex_of hh.1 hh.2,by lia⟩
 ·split at h
  ·rename_i hh;obtain rfl:=As h;obtain ⟨rfl,h2⟩:=hh;refine ⟨?_,by lia⟩;rw [seqIndex_neg (by lia) (by lia)]
   congr 1;lia
  ·exact nS h
theorem Vs.at:∀{l:List AV}{vs:List Value}{k:Nat}{v:AV},Vs W g l vs→l[k]?=some v→∃u,vs[k]?=some u∧V W g v u
 | [],_,_,_,_,e=>by exact nS e
 | _::_,_,0,_,h,e=>by obtain ⟨v,r,rfl,h1,_⟩:=h;obtain rfl:=As e;exact ⟨v,rfl,h1⟩
 | _::_,_,k+1,_,h,e=>by obtain ⟨v,r,rfl,_,h2⟩:=h;exact h2.at e
theorem item_ok {i:Int}{t:Tok} (cx:Cx F ρ T s) (hx:V W (vw F.X s.heap) a x) (h:dT a i fun v=>Q v T):Av (model W.prog W.w) F.A (getItem x (.int i t)) (Got (V W) F ρ s Q) NoE s:=by
 have up:=bg F.X s.heap;refine bc fun zz=>?_;rcases ad h with ⟨e,h⟩ | h
 ·refine zz ?_;refine bc fun zz=>?_;refine eE1 (ag h) fun v zt1=>aA2 zt1 fun e2 h=>?_;refine eE1 (bind_some e2) fun k zt2=>aA2 zt2 fun hp e2=>?_;obtain ⟨⟨p,vs,m,zr1,ho,hv⟩,c⟩:=hx.tup e;refine zz ?_;subst zr1;refine bc fun zz=>?_;refine eE1 (hv.at e2) fun u zt3=>aA2 zt3 fun f1 f2=>?_;refine aA2 (tH hp) fun q1 q2=>?_;refine zz ?_;have b:=ju c;exact P.getItem_tuple (up _ _ ho) (by lia) (by lia) (by rw [hv.size];exact q1) (by rw [← AM];exact f1) (.here cx f2 h)
 rcases ad h with ⟨e,hh,h⟩ | h
 ·refine zz ?_;refine bc fun zz=>?_;refine eE1 (ag h) fun v zt4=>aA2 zt4 fun e2 h=>?_;obtain ⟨⟨p,vs,m,zr2,ho,hv⟩,c⟩:=hx.list e;refine zz ?_;subst zr2;refine bc fun zz=>?_;refine eE1 (hv.at e2) fun u zt5=>aA2 zt5 fun f1 f2=>?_;refine zz ?_;have b:=ju c;exact wpAny_getItem_list ⟨_,up _ _ ho,rfl,m,rfl⟩ hh.1 (by lia) (by rw [← AM];exact f1) (.here cx f2 h)
 rcases ad h with ⟨e,hh,h⟩ | h
 ·refine zz ?_;refine bc fun zz=>?_;refine eE1 (ag h) fun c zt6=>aA2 zt6 fun hc h=>?_;refine eE1 (hx.str e) fun u zr3=>?_;refine zz ?_;subst zr3;have h63:i<2 ^ 63:=by have:=hh.2.2;unfold cap at this;lia
  refine P.getItem_str (c:=c) ?_ ?_ (.flat (a:=CE ⟨#[c]⟩) cx _ (fun _=>by exact ⟨_,rfl⟩) h)
  ·have a1:¬i < -2 ^ 63:=by lia
   have a2:¬i≥2 ^ 63:=by lia
   simp only [a1,a2,decide_false,Bool.or_self]
  ·rw [seqIndex_of hh.1 hh.2.1];exact hc
 ·refine zz ?_;exact h.elim
end
theorem jT (n:Nat) (hn:2≤n):Builtin.Slice.sliceAdjust none (some (-1)) 1 (n:Int)=(0,(n:Int) - 1):=by
 unfold Builtin.Slice.sliceAdjust;have h1:¬((1:Int)<0):=by omega
 have h2:((-1:Int)<0):=by omega
 simp only [h1,h2,if_false,if_true]
 congr 1
 omega
theorem jL (n:Nat) (hn:2≤n):Builtin.Slice.slicePlaces 0 ((n:Int) - 1) 1=n - 1:=by
 unfold Builtin.Slice.slicePlaces;have h1:(1:Int)>0:=by lia
 simp only [h1,if_true,Int.ediv_one]
 split <;> lia
theorem mK (xs:Array Value):((AB (xs.size - 1)).filterMap fun (k:Nat)=>xs[((0:Int)+(k:Int)*1).toNat]?).toArray=xs.toList.dropLast.toArray:=by
 have e:(fun (k:Nat)=>xs[((0:Int)+(k:Int)*1).toNat]?)=fun k=>xs[0+k]?:=by
  funext k
  have:((0:Int)+(k:Int)*1).toNat=0+k:=by lia
  refine rwC (this ..) ?_;exact rfl
 refine rwC (e ..) ?_;have:=pick_run xs 0 (xs.size - 1);replace this:=(List.filterMap_map ..)▸this;have e2:((fun x=>xs[x]?) ∘ fun x=>0+x)=fun k=>xs[0+k]?:=rfl;replace this:=(e2 ..)▸this;refine rwC (this ..) ?_;refine rwC (List.drop_zero ..) ?_;refine rwC (List.dropLast_eq_take ..) ?_;refine rwC (Ax ..) ?_;exact rfl
section
variable {prog:Program}{w:World}{A:Around}{E:Value→Shared→Prop}{s:Shared}
theorem jz {sl:Addr}{n:Nat}{u:Tok}{Q:Int×Int×Nat→Shared→Prop} (hs:s.heap.IsSliceOf sl .none (.int (-1) u) .none) (hn:2≤n) (h:Q (0,1,n - 1) s) :
  Av (model prog w) A (Builtin.Slice.sliceApplied (.ref sl) (pure (n:Int))) Q E s:=by
 refine bc fun zz=>?_;refine eE1 (id hs) fun os zt1=>aA3 zt1 fun hos hcs hds=>?_;refine zz ?_
 skip
 refine Ac (Ac (wpAny_field hos hds (x:=.none) rfl (Ac (wpAny_field hos hds (x:=.int (-1) u) rfl (Ac (wpAny_field hos hds (x:=.none) rfl (Ag ?_)))))));refine Ac (slicePart_none ?_)
 skip
 refine aK (by decide) ?_;refine Ac (slicePart_none (Ac (slicePart_int (Ac (Ag ?_)))));refine (?_:Av _ _ (match Builtin.Slice.sliceAdjust none (some (-1)) 1 (n:Int) with | (lo,hi)=>pure (lo,(1:Int),Builtin.Slice.slicePlaces lo hi 1)) _ _ s);refine rwC (jT n hn ..) ?_;refine (?_:Av _ _ (pure ((0:Int),(1:Int),Builtin.Slice.slicePlaces 0 ((n:Int) - 1) 1)) _ _ s);refine rwC (jL n hn ..) ?_;exact Ag h
theorem dW {t sl:Addr}{items:Array Value}{u:Tok}{Q:Value→Shared→Prop} (ht:IsTup s.heap t items) (hs:s.heap.IsSliceOf sl .none (.int (-1) u) .none) (h2:2≤items.size)
  (h:Q (.ref s.heap.objs.size) { s with heap:=s.heap.push { cls:=.type "tuple",data:=.seq items.toList.dropLast.toArray } })
  (hsz:items.size≤sizeLine):Av (model prog w) A (getItem (.ref t) (.ref sl)) Q E s:=by
 have hdrop:sizeOk (.seq items.toList.dropLast.toArray):=by
  refine (?_:items.toList.dropLast.toArray.size≤sizeLine);refine rwC (List.size_toArray ..) ?_;refine rwC (Cm ..) ?_;refine rwC (Ax ..) ?_;lia
 refine bc fun zz=>?_;refine eE1 (id hs) fun os zt2=>aA3 zt2 fun hos hcs hds=>?_;refine zz ?_;have hTs:s.TypeIs (.ref sl) "slice":=⟨os,hos,hcs⟩
 delta getItem
 try with_reducible refine Bd ?_
 first | refine Ac (Ag ?_) | skip
 refine Ac (wpAny_sequenceKey ht.typeIs (by decide) ?_);refine Ac (wpAny_callSpecial?_slot (name:=Ab "__getitem__") ht.typeIs slot_tuple_getitem
  (Be slot_tuple_getitem ht.typeIs entry_tuple_getitem ?_ (args_tuple_getitem _ _)))
 refine (?_:Av _ _ (Builtin.Tuple.tupleItemsOf (.ref t) >>= _) _ _ s);refine Ac (tupleItemsOf_ ht ?_);refine Ac (wpAny_typeOf hTs ?_);refine bO (by decide) ?_;refine Ac (jz hs h2 ?_);have hno:¬(((0:Int) == 0 && (1:Int) == 1 && (items.size - 1) == items.size)=true):=by
  have:((items.size - 1) == items.size)=false:=by rw [beq_eq_false_iff_ne];lia
  refine rwC (this ..) ?_;simp
 refine (?_:Av _ _ (if ((0:Int) == 0 && (1:Int) == 1 && (items.size - 1) == items.size)=true then _ else _) _ _ s);refine rwC (if_neg hno ..) ?_;refine rwC (mK items ..) ?_
 first
  | exact Ac (m:=Builtin.Tuple.tupleExact _) (wpAny_newObj_type (Ag ⟨_,rfl,Ag h⟩) hdrop)
  | exact Ac (m:=Builtin.Tuple.tupleExact _) (wpAny_newObj_type (Ac (Ag (Ag ⟨_,rfl,Ag h⟩))) hdrop)
  | exact Ac (Ac (m:=Builtin.Tuple.tupleExact _) (wpAny_newObj_type (Ag (Ag ⟨_,rfl,Ag h⟩)) hdrop))
  | exact Ac (Ac (m:=Builtin.Tuple.tupleExact _) (wpAny_newObj_type (Ag ⟨_,rfl,Ag h⟩) hdrop))
end
section
variable {W:Wd}{F:Fr W}{ρ:Rho}{T:Tbl}{s:Shared}{Q:K}{g:Heap}{a:AV}{x:Value}
theorem Vs.take:∀{l:List AV}{vs:List Value},Vs W g l vs→∀n,Vs W g (l.take n) (vs.take n)
 | [],_,h,n=>by subst h;refine rwC (Cz ..) ?_;refine rwC (Cz ..) ?_;exact rfl
 | _::_,_,_,0=>by exact rfl
 | _::_,_,h,n+1=>by obtain ⟨v,r,rfl,h1,h2⟩:=h;exact ⟨v,r.take n,rfl,h1,h2.take n⟩
theorem Vs.drop:∀{l:List AV}{vs:List Value},Vs W g l vs→∀n,Vs W g (l.drop n) (vs.drop n)
 | [],_,h,n=>by subst h;refine rwC (List.drop_nil ..) ?_;refine rwC (List.drop_nil ..) ?_;exact rfl
 | _::_,_,h,0=>h
 | _::_,_,h,n+1=>by obtain ⟨v,r,rfl,h1,h2⟩:=h;exact h2.drop n
theorem Vs.ofInts:∀{vs:List Value}{ns:List Int},IntsAre vs ns→Vs W g (ns.map .int) vs
 | _,_,.nil=>by exact rfl
 | _,_,.cons n t r=>⟨_,_,rfl,(show V W g (.int n) _ from ⟨t,rfl⟩),Vs.ofInts r⟩
theorem qy {α:Type}{R:List α→List Value→Prop}{l:List α}{lo hi:Option Int}{P:List α→Prop} (ht:∀n,∀{us:List Value},R l us→R (l.take n) (us.take n)) (hd:∀n,∀{us:List Value},R l us→R (l.drop n) (us.drop n)) {vs:Array Value} (hv:R l vs.toList)
  (h:cutP l lo hi P):∃us m,slicePick vs lo hi none=us.toArray∧R m us∧m.length≤l.length∧P m:=by
 cases lo with
 | none=>cases hi with
  | none=>exact h.elim
  | some b =>
   refine eE1 (Int.eq_ofNat_of_zero_le h.1) fun n zs3=>?_;subst zs3;exact ⟨_,_,slicePick_upto' vs n,ht n hv,List.length_take_le' _ _,h.2⟩
 | some b=>cases hi with
  | some _=>exact h.elim
  | none =>
   refine eE1 (Int.eq_ofNat_of_zero_le h.1) fun n zs4=>?_;subst zs4;exact ⟨_,_,slicePick_from' vs n,hd n hv,by refine rwC (BU ..) ?_;omega,h.2⟩
theorem slice_ok {lo hi:Option Int}{vl vu:Value}{sl:Addr} (cx:Cx F ρ T s) (hx:V W (vw F.X s.heap) a x) (pl:IsPart vl lo) (pu:IsPart vu hi) (hs:s.heap.IsSliceOf sl vl vu .none) (h:kc a lo hi fun v=>Q v T) :
  Av (model W.prog W.w) F.A (getItem x (.ref sl)) (Got (V W) F ρ s Q) NoE s:=by
 have up:=bg F.X s.heap;refine bc fun zz=>?_;rcases ad h with ⟨e,h⟩ | h
 ·refine zz ?_;refine bc fun zz=>?_;obtain ⟨⟨p,vs,m,zr1,ho,hv⟩,c⟩:=hx.list e;refine zz ?_;subst zr1;refine bc fun zz=>?_;refine eE2 (qy (R:=Vs W _) (fun n _ h=>h.take n) (fun n _ h=>h.drop n) hv h) fun us l zt5=>aA4 zt5 fun e2 h1 h2 h=>?_;refine zz ?_;refine wpAny_getItem_list_slice ⟨_,up _ _ ho,rfl,m,rfl⟩ hs pl pu .none (by simp) ?_ (by refine rwC (hv.size ..) ?_;exact qA c);refine rwC (e2 ..) ?_;exact eL (k:=5) (.inr ⟨rfl,rfl⟩) cx (by exact h1) (Bp h2 c) s.toks h
 rcases ad h with ⟨e,h⟩ | h
 ·refine zz ?_;refine bc fun zz=>?_;refine aA2 ((hx.vk.of e:(∃p vs,x=.ref p∧(vw F.X s.heap).IsList p vs∧IntsAre vs.toList a.z)∧a.z.length≤64)) fun zk6 c=>?_;obtain ⟨p,vs,zr2,ho,hv⟩:=zk6;refine zz ?_;subst zr2;refine bc fun zz=>?_;refine eE2 (qy (R:=fun l vs=>IntsAre vs l) (fun n _ h=>h.take n) (fun n _ h=>h.drop n) hv h) fun us l zt7=>aA4 zt7 fun e2 h1 h2 h=>?_;refine zz ?_;have hl:=hv.length;replace hl:=(Ax ..)▸hl;refine wpAny_getItem_list_slice (ho.imp fun o q=>⟨up _ _ q.1,q.2⟩) hs pl pu .none (by simp) ?_ (by refine rwC (hl ..) ?_;unfold sizeLine;lia);refine rwC (e2 ..) ?_;exact eL (k:=5) (.inr ⟨rfl,rfl⟩) cx (Vs.ofInts h1) (by refine rwC (Aj ..) ?_;unfold cap;lia) s.toks h
 rcases ad h with ⟨e,hn,h'⟩ | h
 ·refine zz ?_;refine bc fun zz=>?_;refine eE1 (ag h') fun b zt9=>aA3 zt9 fun hb zk8 hq=>?_;obtain ⟨zr3,h2⟩:=zk8;refine zz ?_;subst zr3;subst hn hb;refine bc fun zz=>?_;obtain ⟨⟨p,vs,m,zr4,ho,hv⟩,c⟩:=hx.tup e;refine zz ?_;subst zr4;cases pl;cases pu;refine dW ⟨_,up _ _ ho,rfl,m,rfl⟩ hs (by refine rwC (hv.size ..) ?_;exact h2) ?_ (by refine rwC (hv.size ..) ?_;exact qA c);exact eL (k:=4) (l:=a.l.dropLast) (.inl ⟨rfl,rfl⟩) cx (by refine rwC (List.dropLast_eq_take ..) ?_;refine rwC (List.dropLast_eq_take ..) ?_;refine rwC (hv.length ..) ?_;exact hv.take _) (by refine rwC (Cm ..) ?_;lia) s.toks hq
 ·refine zz ?_;exact h.elim
end
noncomputable def nh {κ:Type} [DecidableEq κ] (k:κ):List (κ×Int)→Option Int
 | []=>none
 | p::r=>if p.1=k then some p.2 else nh k r
theorem at_key {κ:Type} [DecidableEq κ] (k:κ):∀{kvs:List (κ×Value)}{l:List (κ×Int)},PairsI kvs l→(nh k l=none→valueAt kvs k=none)∧∀v,nh k l=some v→∃t,valueAt kvs k=some (.int v t)
 | [],[],_=>⟨fun _=>rfl,fun _ h=>(nomatch h)⟩
 | [],_::_,h=>nomatch h.1
 | _::_,[],h=>nomatch h.1
 | p::kvs,q::l,h=>by
  obtain ⟨h1,h2⟩:=List.cons.inj h.1;have h3:IntsAre (p.2::kvs.map (·.2)) (q.2::l.map (·.2)):=h.2;generalize hv:p.2=v at h3;cases h3 with
  | cons n t r =>
   have ih:=at_key k (kvs:=kvs) (l:=l) ⟨h2,r⟩;unfold nh
   by_cases e:q.1=k
   ·refine rwC (if_pos e ..) ?_;have:valueAt (p::kvs) k=some p.2:=by simp [valueAt,h1,e]
    refine rwC (this ..) ?_;refine rwC (hv ..) ?_;exact ⟨fun h=>(nomatch h),fun v h=>by obtain rfl:=As h;exact ⟨t,rfl⟩⟩
   ·refine rwC (if_neg e ..) ?_;have:valueAt (p::kvs) k=valueAt kvs k:=by simp [valueAt,h1,e]
    refine rwC (this ..) ?_;exact ih
end Mine
namespace Mine
open PySem
open AV renaming int → Aa, list → Ad, tup → Al, tab → An, bool → Aq, set → AE, fn → Ba, rng → Bm, none → By, host → BD, idict → Cd, olist → Cj, str → CE
section
universe u
variable {α:Sort u}
noncomputable def iM (e:Expr) (f:Expr→Str→Pos→α) (d:α):α:=if h:e.ctorIdx=20 then Expr.Attribute.elim e h f else d
theorem fc {f:Expr→Str→Pos→α}{d:α}{P:Expr→α→Prop} (e:Expr) (a:∀o m p,P (.Attribute o m p) (f o m p)) (b:P e d):P e (iM e f d):=if h:e.ctorIdx=20 then (rwC (dif_pos h) (Expr.Attribute.elim (motive_1:=fun e=>∀h,P e (Expr.Attribute.elim e h f)) e h (fun o m p _=>a o m p) h):P e (dite _ _ _)) else (rwC (dif_neg h) b:P e (dite _ _ _))
noncomputable def eG (e:Expr) (f:Str→Pos→α) (d:α):α:=if h:e.ctorIdx=23 then Expr.Name.elim e h f else d
theorem dz {f:Str→Pos→α}{d:α}{P:Expr→α→Prop} (e:Expr) (a:∀x p,P (.Name x p) (f x p)) (b:P e d):P e (eG e f d):=if h:e.ctorIdx=23 then (rwC (dif_pos h) (Expr.Name.elim (motive_1:=fun e=>∀h,P e (Expr.Name.elim e h f)) e h (fun x p _=>a x p) h):P e (dite _ _ _)) else (rwC (dif_neg h) b:P e (dite _ _ _))
noncomputable def qd (e:Expr) (f:Expr→List Expr→List Keyword→Pos→α) (d:α):α:=if h:e.ctorIdx=16 then Expr.Call.elim e h f else d
theorem onCall_c {f:Expr→List Expr→List Keyword→Pos→α}{d:α}{P:Expr→α→Prop} (e:Expr) (a:∀g as ks p,P (.Call g as ks p) (f g as ks p)) (b:P e d):P e (qd e f d):=if h:e.ctorIdx=16 then (rwC (dif_pos h) (Expr.Call.elim (motive_1:=fun e=>∀h,P e (Expr.Call.elim e h f)) e h (fun g as ks p _=>a g as ks p) h):P e (dite _ _ _)) else (rwC (dif_neg h) b:P e (dite _ _ _))
noncomputable def tO (e:Expr) (f:Option Expr→Option Expr→Option Expr→Pos→α) (d:α):α:=if h:e.ctorIdx=26 then Expr.Slice.elim e h f else d
theorem tN {f:Option Expr→Option Expr→Option Expr→Pos→α}{d:α}{P:Expr→α→Prop} (e:Expr) (a:∀l u st p,P (.Slice l u st p) (f l u st p)) (b:P e d):P e (tO e f d):=if h:e.ctorIdx=26 then (rwC (dif_pos h) (Expr.Slice.elim (motive_1:=fun e=>∀h,P e (Expr.Slice.elim e h f)) e h (fun l u st p _=>a l u st p) h):P e (dite _ _ _)) else (rwC (dif_neg h) b:P e (dite _ _ _))
noncomputable def qa (e:Expr) (f:List Expr→Pos→α) (d:α):α:=if h:e.ctorIdx=24 then Expr.List.elim e h f else d
theorem lk {f:List Expr→Pos→α}{d:α}{P:Expr→α→Prop} (e:Expr) (a:∀es p,P (.List es p) (f es p)) (b:P e d):P e (qa e f d):=if h:e.ctorIdx=24 then (rwC (dif_pos h) (Expr.List.elim (motive_1:=fun e=>∀h,P e (Expr.List.elim e h f)) e h (fun es p _=>a es p) h):P e (dite _ _ _)) else (rwC (dif_neg h) b:P e (dite _ _ _))
noncomputable def onTup (e:Expr) (f:List Expr→Nat→Pos→α) (d:α):α:=if h:e.ctorIdx=25 then Expr.Tuple.elim e h f else d
theorem onTup_c {f:List Expr→Nat→Pos→α}{d:α}{P:Expr→α→Prop} (e:Expr) (a:∀es k p,P (.Tuple es k p) (f es k p)) (b:P e d):P e (onTup e f d):=if h:e.ctorIdx=25 then (rwC (dif_pos h) (Expr.Tuple.elim (motive_1:=fun e=>∀h,P e (Expr.Tuple.elim e h f)) e h (fun es k p _=>a es k p) h):P e (dite _ _ _)) else (rwC (dif_neg h) b:P e (dite _ _ _))
noncomputable def tV (e:Expr) (f:List (Option Expr)→List Expr→Pos→α) (d:α):α:=if h:e.ctorIdx=6 then Expr.Dict.elim e h f else d
theorem qc {f:List (Option Expr)→List Expr→Pos→α}{d:α}{P:Expr→α→Prop} (e:Expr) (a:∀ks vs p,P (.Dict ks vs p) (f ks vs p)) (b:P e d):P e (tV e f d):=if h:e.ctorIdx=6 then (rwC (dif_pos h) (Expr.Dict.elim (motive_1:=fun e=>∀h,P e (Expr.Dict.elim e h f)) e h (fun ks vs p _=>a ks vs p) h):P e (dite _ _ _)) else (rwC (dif_neg h) b:P e (dite _ _ _))
noncomputable def onLC (e:Expr) (f:Expr→List Comprehension→Scope→Pos→α) (d:α):α:=if h:e.ctorIdx=8 then Expr.ListComp.elim e h f else d
theorem onLC_c {f:Expr→List Comprehension→Scope→Pos→α}{d:α}{P:Expr→α→Prop} (e:Expr) (a:∀elt gens sc p,P (.ListComp elt gens sc p) (f elt gens sc p)) (b:P e d):P e (onLC e f d):=if h:e.ctorIdx=8 then (rwC (dif_pos h) (Expr.ListComp.elim (motive_1:=fun e=>∀h,P e (Expr.ListComp.elim e h f)) e h (fun elt gens sc p _=>a elt gens sc p) h):P e (dite _ _ _)) else (rwC (dif_neg h) b:P e (dite _ _ _))
noncomputable def iL (e:Expr) (f:Const→Nat→Pos→α) (d:α):α:=if h:e.ctorIdx=19 then Expr.Constant.elim e h f else d
theorem iK {f:Const→Nat→Pos→α}{d:α}{P:Expr→α→Prop} (e:Expr) (a:∀c k p,P (.Constant c k p) (f c k p)) (b:P e d):P e (iL e f d):=if h:e.ctorIdx=19 then (rwC (dif_pos h) (Expr.Constant.elim (motive_1:=fun e=>∀h,P e (Expr.Constant.elim e h f)) e h (fun c k p _=>a c k p) h):P e (dite _ _ _)) else (rwC (dif_neg h) b:P e (dite _ _ _))
noncomputable def onUn (e:Expr) (f:UnaryOp→Expr→Pos→α) (d:α):α:=if h:e.ctorIdx=3 then Expr.UnaryOp.elim e h f else d
theorem tL {f:UnaryOp→Expr→Pos→α}{d:α}{P:Expr→α→Prop} (e:Expr) (a:∀op x p,P (.UnaryOp op x p) (f op x p)) (b:P e d):P e (onUn e f d):=if h:e.ctorIdx=3 then (rwC (dif_pos h) (Expr.UnaryOp.elim (motive_1:=fun e=>∀h,P e (Expr.UnaryOp.elim e h f)) e h (fun op x p _=>a op x p) h):P e (dite _ _ _)) else (rwC (dif_neg h) b:P e (dite _ _ _))
noncomputable def tM (e:Expr) (f:Expr→Expr→Pos→α) (d:α):α:=if h:e.ctorIdx=21 then Expr.Subscript.elim e h f else d
theorem oC {f:Expr→Expr→Pos→α}{d:α}{P:Expr→α→Prop} (e:Expr) (a:∀v i p,P (.Subscript v i p) (f v i p)) (b:P e d):P e (tM e f d):=if h:e.ctorIdx=21 then (rwC (dif_pos h) (Expr.Subscript.elim (motive_1:=fun e=>∀h,P e (Expr.Subscript.elim e h f)) e h (fun v i p _=>a v i p) h):P e (dite _ _ _)) else (rwC (dif_neg h) b:P e (dite _ _ _))
noncomputable def onBin (e:Expr) (f:Expr→Operator→Expr→Pos→α) (d:α):α:=if h:e.ctorIdx=2 then Expr.BinOp.elim e h f else d
noncomputable def tX (e:Expr) (f:BoolOp→List Expr→Pos→α) (d:α):α:=if h:e.ctorIdx=0 then Expr.BoolOp.elim e h f else d
theorem tW {f:BoolOp→List Expr→Pos→α}{d:α}{P:Expr→α→Prop} (e:Expr) (a:∀op vs p,P (.BoolOp op vs p) (f op vs p)) (b:P e d):P e (tX e f d):=if h:e.ctorIdx=0 then (rwC (dif_pos h) (Expr.BoolOp.elim (motive_1:=fun e=>∀h,P e (Expr.BoolOp.elim e h f)) e h (fun op vs p _=>a op vs p) h):P e (dite _ _ _)) else (rwC (dif_neg h) b:P e (dite _ _ _))
noncomputable def onCmp (e:Expr) (f:Expr→List CmpOp→List Expr→Pos→α) (d:α):α:=if h:e.ctorIdx=15 then Expr.Compare.elim e h f else d
theorem onCmp_c {f:Expr→List CmpOp→List Expr→Pos→α}{d:α}{P:Expr→α→Prop} (e:Expr) (a:∀l ops rs p,P (.Compare l ops rs p) (f l ops rs p)) (b:P e d):P e (onCmp e f d):=if h:e.ctorIdx=15 then (rwC (dif_pos h) (Expr.Compare.elim (motive_1:=fun e=>∀h,P e (Expr.Compare.elim e h f)) e h (fun l ops rs p _=>a l ops rs p) h):P e (dite _ _ _)) else (rwC (dif_neg h) b:P e (dite _ _ _))
noncomputable def mR (e:Stmt) (f:Str→Arguments→List Stmt→List Expr→Option Expr→List TypeParam→Scope→Option Scope→Str→Pos→α) (d:α):α:=if h:e.ctorIdx=0 then Stmt.FunctionDef.elim e h f else d
noncomputable def onSClass (e:Stmt) (f:Str→List Expr→List Keyword→List Stmt→List Expr→List TypeParam→Scope→Option Scope→Str→List Str→Pos→α) (d:α):α:=if h:e.ctorIdx=2 then Stmt.ClassDef.elim e h f else d
noncomputable def pZ (e:Stmt) (f:Expr→Expr→List Stmt→List Stmt→Pos→α) (d:α):α:=if h:e.ctorIdx=9 then Stmt.For.elim e h f else d
noncomputable def lj (e:Stmt) (f:Expr→List Stmt→List Stmt→Pos→α) (d:α):α:=if h:e.ctorIdx=11 then Stmt.While.elim e h f else d
noncomputable def onSIf (e:Stmt) (f:Expr→List Stmt→List Stmt→Pos→α) (d:α):α:=if h:e.ctorIdx=12 then Stmt.If.elim e h f else d
theorem onSIf_c {f:Expr→List Stmt→List Stmt→Pos→α}{d:α}{P:Stmt→α→Prop} (e:Stmt) (a:∀t b o p,P (.If t b o p) (f t b o p)) (b:P e d):P e (onSIf e f d):=if h:e.ctorIdx=12 then (rwC (dif_pos h) (Stmt.If.elim (motive_2:=fun e=>∀h,P e (Stmt.If.elim e h f)) e h (fun t b o p _=>a t b o p) h):P e (dite _ _ _)) else (rwC (dif_neg h) b:P e (dite _ _ _))
noncomputable def iJ (e:Stmt) (f:List Expr→Expr→Pos→α) (d:α):α:=if h:e.ctorIdx=5 then Stmt.Assign.elim e h f else d
theorem iI {f:List Expr→Expr→Pos→α}{d:α}{P:Stmt→α→Prop} (e:Stmt) (a:∀ts e p,P (.Assign ts e p) (f ts e p)) (b:P e d):P e (iJ e f d):=if h:e.ctorIdx=5 then (rwC (dif_pos h) (Stmt.Assign.elim (motive_2:=fun e=>∀h,P e (Stmt.Assign.elim e h f)) e h (fun ts e p _=>a ts e p) h):P e (dite _ _ _)) else (rwC (dif_neg h) b:P e (dite _ _ _))
noncomputable def tS (e:Stmt) (f:Expr→Pos→α) (d:α):α:=if h:e.ctorIdx=24 then Stmt.Expr.elim e h f else d
theorem tR {f:Expr→Pos→α}{d:α}{P:Stmt→α→Prop} (e:Stmt) (a:∀e p,P (.Expr e p) (f e p)) (b:P e d):P e (tS e f d):=if h:e.ctorIdx=24 then (rwC (dif_pos h) (Stmt.Expr.elim (motive_2:=fun e=>∀h,P e (Stmt.Expr.elim e h f)) e h (fun e p _=>a e p) h):P e (dite _ _ _)) else (rwC (dif_neg h) b:P e (dite _ _ _))
end
noncomputable def ki {α:Type _} (l:List α):Option α:=cond l.tail.isEmpty l.head? none
theorem bH {α:Type _}{l:List α}{x:α} (h:ki l=some x):l=[x]:=by
 cases l with
 | nil=>exact nS h
 | cons a l=>cases l with
  | nil=>rw [As (h:some a=some x)]
  | cons=>exact nS h
noncomputable def two? {α:Type _} (l:List α):Option (α×α):=cond l.tail.tail.isEmpty (l.head?.bind fun a=>l.tail.head?.map fun b=>(a,b)) none
theorem sq {α:Type _}{l:List α}{x:α×α} (h:two? l=some x):l=[x.1,x.2]:=by
 cases l with
 | nil=>exact nS h
 | cons a l=>cases l with
  | nil=>exact nS h
  | cons b l=>cases l with
   | nil=>rw [← As (h:some (a,b)=some x)]
   | cons=>exact nS h
noncomputable def bQ (e:Expr):Option Str:=eG e (fun x _=>some x) none
theorem cH {e:Expr}{x:Str}:bQ e=some x→∃p,e=.Name x p :=
 dz (P:=fun e o=>o=some x→∃p,e=.Name x p) e (fun y p h=>by rw [As h];exact ⟨p,rfl⟩) nS
noncomputable def intC (c:Const):Option Int:=match c with
 | .int i=>some i
 | _=>none
noncomputable def dJ (e:Expr):Option Int:=iL e (fun c _ _=>intC c) none
theorem nA {e:Expr}{i:Int}:dJ e=some i→∃k p,e=.Constant (.int i) k p :=
 iK (P:=fun e o=>o=some i→∃k p,e=.Constant (.int i) k p) e (fun c k p h=>by cases c with
  | int j=>rw [As (h:some j=some i)];exact ⟨k,p,rfl⟩
  | _=>exact nS h) nS
end Mine
namespace Mine
open PySem PySem.W PySem.Calls PyProof.Rows
open AV renaming int → Aa, list → Ad, tup → Al, tab → An, bool → Aq, set → AE, fn → Ba, rng → Bm, none → By, host → BD, idict → Cd, olist → Cj, str → CE
noncomputable def bJ (e:Expr):Bool:=qd e (fun g _ _ _=>eG g (fun id _=>id != ("super":Str)) true) true
noncomputable def bq (apos pos:Pos) (as:List Expr):Bool:=(apos.endLine == pos.line) && decide (as.length<20)
theorem base_k:(true=false)∨∀(_:Str) (_:Env) (d:Sem Value),d=d:=.inr fun _ _ _=>rfl
theorem base_sup {id:Str}{q p:Pos}{as:List Expr}{ks:List Keyword} (hid:(id != ("super":Str))=true) (a:Str) (env:Env) (d:Sem Value):attributeBase (.Call (.Name id q) as ks p) a env d=d:=by
 cases as with
 | cons=>rfl
 | nil=>cases ks with
  | cons=>rfl
  | nil =>
   unfold attributeBase;dsimp only;rw [hid];rfl
theorem base_go (o:Expr):bJ o=false∨∀a env d,attributeBase o a env d=d:=by
 cases o with
 | Call f as ks p=>cases f with
  | Name id q =>
   cases hid:(id != ("super":Str)) with
   | false=>exact .inl hid
   | true=>exact .inr (base_sup hid)
  | _=>exact base_k
 | _=>exact base_k
theorem vI {o:Expr}{a:Str}{env:Env} (h:bJ o=true):attributeBase o a env (eval o env)=eval o env:=(base_go o).elim (fun q=>tF (h.symm.trans q)) fun k=>k a env _
section
variable {prog:Program}{w:World}{A:Around}{E:Value→Shared→Prop}{s:Shared}{env:Env}
theorem attrN {o:Expr}{a:Str}{pos:Pos}{Q:Value→Shared→Prop} (hs:bJ o=true) (h:Av (model prog w) A (eval o env) (fun ov s₁=>Av (model prog w) A (getAttr ov a true) Q E s₁) E s) :
  Av (model prog w) A (eval (.Attribute o a pos) env) Q E s :=
 Attribute_any_ h (by rw [arm_eval_Attribute,vI hs])
theorem subN {value slice:Expr}{pos:Pos}{Q:Value→Shared→Prop}
  (h:Av (model prog w) A (eval value env) (fun o s₁=>Av (model prog w) A (eval slice env) (fun i s₂=>(∃T id,s₂.TypeIs o T∧typeLookup (.type T) (Ab "__getitem__")=pure (some (.builtin id)))∧Av (model prog w) A (getItem o i) Q E s₂) E s₁) E s) :
  Av (model prog w) A (eval (.Subscript value slice pos) env) Q E s:=by
 rw [arm_eval_Subscript];refine Ac (AC h (fun o s₁ h₁=>Ac (Bd (AC h₁ (fun i s₂ h₂=>Ac (wpAny_standAt ?_)) fun _ _ x=>x))) fun _ _ x=>x);refine aA2 (h₂) fun zk1 hg=>?_;obtain ⟨T,id,hT,hl⟩:=zk1;refine Ac ?_;rw [getitemInPython_of_ne hT.not_modules];refine Ac (wpAny_specialOf hT hl ?_);have fin:∀ops:List Value,Av (model prog w) A (operate ops (getItem o i)) (fun r s₃=>Av (model prog w) A (letTemporaryGo value o r >>= fun _=>pure r) Q E s₃) E s₂:=fun ops =>
  wpAny_operating (AC hg (fun r s₃ h₃=>Ac (wpAny_letTemporaryGo (Ag h₃))) fun _ _ x=>x)
 have hsub:∃ops,subscripted slice false o i=operate ops (getItem o i):=by
  have k:∃ops:List Value,operate [o,i] (getItem o i)=operate ops (getItem o i):=⟨_,rfl⟩;cases slice with
  | Slice l u st=>cases st with
   | none=>exact ⟨_,rfl⟩
   | some=>exact k
  | _=>exact k
 refine eE1 (hsub) fun ops hsub=>?_;refine Ag ?_;show Av _ _ (subscripted slice false o i >>= _) _ _ _;rw [hsub];exact Ac (fin ops)
theorem oQ {o:Expr}{m:Str}{apos pos:Pos}{as:List Expr}{Q:Value→Shared→Prop} (hs:bJ o=true) (hl:bq apos pos as=true) (hp:as.all kdsPlain=true)
  (h:Av (model prog w) A (eval o env) (fun ov s₁=>∀pl,Av (model prog w) A (getMethod ov m pl) (fun fx s₂=>Av (model prog w) A (callWith pos fx.1 fx.2 (backTo pos (starEach as env)) []) Q E s₂) E s₁) E s) :
  Av (model prog w) A (eval (.Call (.Attribute o m apos) as [] pos) env) Q E s:=by
 unfold bq at hl;rw [Ay,decide_eq_true_eq] at hl;rw [arm_eval_Call,vI hs];refine Ac (AC h (fun ov s₁ h₁=>?_) fun _ _ e=>e);refine Ac (wpAny_standAt ?_);have hform:methodCallForm (as.length+([]:List Keyword).length) (backTo pos (starEach as env)) (backToKw pos (keywordEach [] env))=true:=by
  unfold methodCallForm;rw [kds_star as hp];simp [backTo,backToKw,keywordEach];omega
 have hpos:methodCallPos true o env apos pos=pure pos:=by unfold methodCallPos;simp [hl.1]
 unfold methodCall;rw [hform];refine Ac (Bd (AC (h₁ _) (fun fx s₂ h₂=>?_) fun _ _ e=>e));obtain ⟨f,first⟩:=fx;refine Ac ?_;rw [hpos];exact Ag h₂
theorem iu {as:List Expr} (hp:as.all kdsPlain=true) (pos:Pos):(backTo pos (starEach as env)).any (·.1)=false:=by
 rw [kds_star as hp];simp [backTo]
theorem trees_eq {as:List Expr} (hp:as.all kdsPlain=true) (pos:Pos):backTo pos (starEach as env)=(evalEach as env).map fun t=>(false,t):=by
 rw [kds_star as hp];simp [backTo]
theorem argsN {as:List Expr}{f:Value}{pos:Pos}{Q:Args→Shared→Prop} (hp:as.all kdsPlain=true)
  (h:Av (model prog w) A (spliced (backTo pos (starEach as env))) (fun vs s'=>Q ⟨vs,[]⟩ s') E s):Av (model prog w) A (evalArgs f true (backTo pos (starEach as env)) []) Q E s:=by
 rw [trees_eq hp] at h ⊢;cases as with
 | nil =>
  unfold evalArgs;show Av _ _ (spliced [] >>= _) Q E s;refine Ac (AC h (fun vs s' hq=>?_) fun _ _ e=>e);refine Ac (Ag ?_);refine Bd ?_;exact Ac (Ag (Ac (Ag (Ag hq))))
 | cons a r =>
  rw [arm_evalEach_cons,AR] at h ⊢;exact Calls.evalArgs_plain h
theorem callF {as:List Expr}{a:Addr}{first:List Value}{pos:Pos}{Q:Value→Shared→Prop}{o:Obj}{fd:FuncData} (hp:as.all kdsPlain=true)
  (h:Av (model prog w) A (spliced (backTo pos (starEach as env))) (fun vs s₁=>(s₁.heap.get? a=some o∧o.data=.func fd)∧Av (model prog w) A (PySem.call (.ref a) (first++vs)) Q E s₁) E s) :
  Av (model prog w) A (callWith pos (.ref a) first (backTo pos (starEach as env)) []) Q E s :=
 Calls.callWith_function (argsN hp h)
theorem jv {as:List Expr}{id:String}{first:List Value}{pos:Pos}{Q:Value→Shared→Prop} (hp:as.all kdsPlain=true)
  (h:Av (model prog w) A (spliced (backTo pos (starEach as env))) (fun vs s₁=>Av (model prog w) A (PySem.call (.builtin id) (first++vs)) Q E s₁) E s) :
  Av (model prog w) A (callWith pos (.builtin id) first (backTo pos (starEach as env)) []) Q E s :=
 Calls.callWith_builtin (iu hp pos) (argsN hp h)
theorem callT {as:List Expr}{t:String}{first:List Value}{pos:Pos}{Q:Value→Shared→Prop} (hp:as.all kdsPlain=true)
  (h:Av (model prog w) A (spliced (backTo pos (starEach as env))) (fun vs s₁=>Av (model prog w) A (PySem.call (.type t) (first++vs)) Q E s₁) E s) :
  Av (model prog w) A (callWith pos (.type t) first (backTo pos (starEach as env)) []) Q E s :=
 PyProof.Rows.callWith_type (iu hp pos) (argsN hp h)
end
section
variable {W:Wd}{F:Fr W}{ρ:Rho}{T:Tbl}{s:Shared}{Q:K}{g:Heap}{a:AV}{x:Value}
theorem DictV.live {κ:Type} [DecidableEq κ] {prog:Program}{w:World}{knd:KeyKind prog w κ}{l:List (κ×Int)}{X:List Addr} (h:DictV knd (vw X s.heap) x l):∃p kvs,x=.ref p∧s.heap.DictOf knd p kvs∧PairsI kvs l∧(p == sysModules)=false:=by
 refine bc fun zz=>?_;obtain ⟨⟨p,kvs,ep,zr1,hd,hp,hm⟩,_⟩:=h;refine zz ?_;subst zr1;exact ⟨p,kvs,rfl,Heap.DictAt.dictOf (hd.at' fun o q=>bg _ _ _ _ q),hp,hm⟩
theorem dget_ok {κ:Type} [DecidableEq κ] {knd:KeyKind W.prog W.w κ}{l:List (κ×Int)}{k:κ}{kv:Value}{d:Int}{t:Tok} (cx:Cx F ρ T s) (h:DictV knd (vw F.X s.heap) x l) (hk:knd.is k kv=true) (q:Q (.int ((nh k l).getD d)) T) :
  Av (model W.prog W.w) F.A (PySem.call (.builtin "dict.get") [x,kv,.int d t]) (Got (V W) F ρ s Q) NoE s:=by
 refine bc fun zz=>?_;refine eE2 (h.live) fun p kvs zt1=>aA4 zt1 fun zr1 hd hp hm=>?_;refine zz ?_;subst zr1;refine call_meetsIn PySem.F.slot_dict_get hd.typeIs PySem.F.entry_dict_get (PySem.F.args_dict_get_3 _ _ _) (meets_dict_get_default knd _ (k:=k) hk hm (.int d t)) ⟨_,hd.mapOf,?_⟩;refine bc fun zz=>?_;refine aA2 (at_key k hp) fun q1 q2=>?_;refine zz ?_;cases e:nh k l with
 | none=>replace q:=(e ..)▸q;refine rwC (q1 e ..) ?_;exact .int cx q
 | some v=>replace q:=(e ..)▸q;obtain ⟨u,e2⟩:=q2 v e;refine rwC (e2 ..) ?_;exact .int cx q
end
noncomputable section
noncomputable def eY (l:List Int):List Int:=l.mergeSort fun a b=>decide (a≤b)
noncomputable def blt1 (n:Nat) (a:AV) (Q:AV→Prop):Prop:=bC n [
 (0,bC a.k [(5,Q (.int a.l.length)),(4,Q (.int a.l.length)),(7,Q (.int a.z.length)),(8,Q (.int a.d.length)),(6,Q (.int a.z.length))]),
 (1,ai (Aw a.k 5) (ak (aY a.l) fun l=>Q (.bool (l.all id)))),
 (2,ai (Aw a.k 5) (ak (aY a.l) fun l=>Q (.bool (l.any id)))),
 (3,bC a.k [(7,Q (.list (a.z.map .int))),(8,ai (BY a.d.length 63) (Q (.list ((eY (a.d.map (·.1))).map .int))))]),
 (5,ai (Aw a.k 5) (Q (.tup a.l))),
 (6,ai (Aw a.k 4) (ak (aB a.l) fun l=>ai (bh l) (Q (.set (bp l))))),
 (7,ai (Aw a.k 2) (Q (.rng 0 a.i)))]
noncomputable def blt2 (n:Nat) (a b:AV) (Q:AV→Prop):Prop:=bC n [
 (7,iw 2 2 a b (Q (.rng a.i b.i))),
 (4,ai (Aw b.k 12 && Aw b.i.toNat 8) (bC a.k [(3,Q (.bool true)),(2,Q (.bool false))]))]
noncomputable def bltP (n:Nat) (as:List AV) (Q:AV→Prop):Prop:=match as with
 | []=>ai (Aw n 6) (Q (.set []))
 | [a]=>blt1 n a Q
 | [a,b]=>blt2 n a b Q
 | _=>False
end
section
variable {W:Wd}{F:Fr W}{ρ:Rho}{T:Tbl}{s:Shared}{Q:K}{g:Heap}{a b:AV}{x y:Value}{vs:List Value}{as:List AV}
noncomputable abbrev eK (F:Fr W) (ρ:Rho) (s:Shared) (Q:K) (f:Value) (vs:List Value):Prop:=Av (model W.prog W.w) F.A (PySem.call f vs) (Got (V W) F ρ s Q) NoE s
theorem Got.made {av:AV}{h':Heap}{p:Addr}{tk:Nat} (cx:Cx F ρ T s) (u:Up s.heap h') (n:s.heap.get? p=none) (h:∀g:Heap,Up (vw F.X s.heap) g→(∀o,h'.get? p=some o→g.get? p=some o)→V W g av (.ref p)) (q:Q av T):Got (V W) F ρ s Q (.ref p) { s with heap:=h',toks:=tk } :=
 have hp:p∉F.X:=fun m=>by obtain ⟨o,e⟩:=(cx.hp.xs _ m).2;rw [n] at e;exact nS e
 have a:Af W s { s with heap:=h',toks:=tk }:=.grow u
 ⟨h _ (cx.up a) fun o e=>aJ e hp,cx.grow u,a,q⟩
theorem uJ {h h':Heap} (u:Up h h'):h.get? h'.objs.size=none:=by
 cases q:h.get? h'.objs.size with
 | none=>rfl
 | some o=>exact absurd (Heap.lt_size (u _ _ q)) (Nat.lt_irrefl _)
theorem Vs.bools:∀{l:List AV}{vs:List Value}{ns:List Bool},Vs W g l vs→aY l=some ns→LSm.BoolsAre vs ns
 | [],_,_,h,e=>by subst h;cases e;exact .nil
 | _::_,_,_,h,e=>by
  refine eE2 (h) fun v r zt2=>aA3 zt2 fun zs1 h1 h2=>?_;subst zs1;refine eE2 (fK e) fun i q zt4=>aA3 zt4 fun e1 e2 zs3=>?_;subst zs3;refine aA2 (cD e1) fun k zs5=>?_;subst zs5;refine rwC (h1.bool k ..) ?_;exact .cons _ (h2.bools e2)
theorem all_ok {p:Addr}{vs:Array Value}{bs:List Bool} (cx:Cx F ρ T s) (hl:s.heap.IsList p vs) (hb:LSm.BoolsAre vs.toList bs) (q:Q (.bool (bs.all id)) T):eK F ρ s Q (.builtin "all") [.ref p]:=by
 have hlt:p<s.heap.objs.size:=by obtain ⟨_,e,_⟩:=hl;exact Heap.lt_size e
 refine call_all_walk (wpAny_pyIter_list hl ⟨s.heap.objs.size,[s.heap.objs.size,p],[s.heap.objs.size],vs.size,_,_,fun i=>(bs[i]?).getD true,rfl,Walks.list (A:=F.A.in1) F.hA.hand _ p (Bk hlt) vs,
  ⟨⟨_,Heap.get?_push_size _ rfl,rfl,rfl⟩,hl.push _⟩,fun i v s' Q' E' hP hQ=>?_,fun h' tk hk=>?_⟩)
 ·obtain ⟨b,e,rfl⟩:=hb.get i v (by rw [AM];exact hP);dsimp only at hQ;replace hQ:=(e ..)▸hQ;exact wpAny_truthy_bool hQ
 ·have e:((AB vs.size).all fun i=>(bs[i]?).getD true)=bs.all id:=by
   refine rwD (Ax ..) ?_;refine rwC (hb.length ..) ?_;exact LSm.range_all bs
  refine rwC (e ..) ?_;have u:=LSm.kept_iter hk;exact ⟨by exact rfl,cx.grow u,.grow u,q⟩
theorem any_ok {p:Addr}{vs:Array Value}{bs:List Bool} (cx:Cx F ρ T s) (hl:s.heap.IsList p vs) (hb:LSm.BoolsAre vs.toList bs) (q:Q (.bool (bs.any id)) T):eK F ρ s Q (.builtin "any") [.ref p]:=by
 have hlt:p<s.heap.objs.size:=by obtain ⟨_,e,_⟩:=hl;exact Heap.lt_size e
 refine call_any_walk (wpAny_pyIter_list hl ⟨s.heap.objs.size,[s.heap.objs.size,p],[s.heap.objs.size],vs.size,_,_,fun i=>(bs[i]?).getD false,rfl,Walks.list (A:=F.A.in1) F.hA.hand _ p (Bk hlt) vs,
  ⟨⟨_,Heap.get?_push_size _ rfl,rfl,rfl⟩,hl.push _⟩,fun i v s' Q' E' hP hQ=>?_,fun h' tk hk=>?_⟩)
 ·obtain ⟨b,e,rfl⟩:=hb.get i v (by rw [AM];exact hP);dsimp only at hQ;replace hQ:=(e ..)▸hQ;exact wpAny_truthy_bool hQ
 ·have e:((AB vs.size).any fun i=>(bs[i]?).getD false)=bs.any id:=by
   refine rwD (Ax ..) ?_;refine rwC (hb.length ..) ?_;exact LSm.range_any bs
  refine rwC (e ..) ?_;have u:=LSm.kept_iter hk;exact ⟨by exact rfl,cx.grow u,.grow u,q⟩
theorem qK:∀l:List Value,(∀v∈l,∃k t,v=Value.int k t)→∃ns,IntsAre l ns
 | [],_=>⟨[],.nil⟩
 | v::r,h=>by
  refine eE1 (qK r fun u hu=>h u (.tail _ hu)) fun ns q=>?_;refine eE2 (h v (.head _)) fun k t zs6=>?_;subst zs6;exact ⟨k::ns,.cons k t q⟩
theorem jY {Ty:String}{d:Addr}{m:Nat}{P:Nat→Value→Prop}{OK:Heap→Prop}{ms:List Int} (K:KdlSrc W.prog W.w Ty d d m P OK) (hok:OK s.heap) (hn:m<64)
  (hP:∀i v,P i v→∃k t,v=.int k t) (hs:∀(vs:List Value) (ns:List Int),IntsAre vs ns→vs.length=m→(∀(j:Nat) (v:Value),vs[j]?=some v→P j v)→∀ns':List Int,ns'.Perm ns→ns'.Pairwise (·≤·)→ns'=ms) (hm:ms.length≤cap)
  (cx:Cx F ρ T s) (q:Q (.list (ms.map .int)) T):eK F ρ s Q (.builtin "sorted") [.ref d]:=by
 refine call_function_entry kind_sorted plain_sorted entry_sorted (args_sorted1 _) ?_;unfold Builtin.«sorted»;refine Ac (m:=checkCount "sorted" 1 1 _) (Ag ?_);refine Ac (kdu_collect (A:=F.A.in1) K F.hA.hand hok (Bp (BS hn) (by decide)) fun h' tk acc hk hacc=>?_);have hl:acc.toList.length=m:=by refine rwC (Ax ..) ?_;exact hacc.1
 have hPj:∀(j:Nat) (v:Value),acc.toList[j]?=some v→P j v:=fun j v e=>hacc.2 j v (by rw [← AM];exact e);obtain ⟨ns,hI⟩:=qK acc.toList fun v hv=>by
  obtain ⟨j,hj,e⟩:=Cc hv;exact hP j v (hPj j v (by rw [AH hj,e]))
 refine Ac (wpAny_newList ?_ (by refine rwC (hl ..) ?_;exact Bp (BS hn) (by decide)));have hD:(h'.push (cr "list" acc.toList.toArray 0)).get? h'.objs.size=some (seqObj "list" acc.toList.toArray 0):=Heap.get?_push_size _ rfl;refine Ac (Bd (AC (Be (A:=F.A.in1) (E:=NoE) (Q:=fun _ s'=>Got (V W) F ρ s Q (.ref h'.objs.size) s') slot_list_sort (s:={ s with heap:=h'.push (cr "list" acc.toList.toArray 0),toks:=tk }) ⟨_,hD,rfl⟩ entry_list_sort
  (list_sort_tree (P:=fun fin s'=>∃r,fin=.done (.ret r)∧Got (V W) F ρ s Q (.ref h'.objs.size) s') hD hI (by refine rwC (hl ..) ?_;exact hn) fun out ns' a1 a2 a3=>⟨_,rfl,?_⟩) (args_list_sort _)) (fun _ s' x=>Ag ⟨_,rfl,x⟩) fun _ _ e=>e))
 obtain ⟨e,he⟩:=sortedHeap_at (out:=out) hD;have hsame:=hs acc.toList ns hI hl hPj ns' a2 a3;subst hsame;refine Got.made cx (fun b o q=>?_) (uJ hk) (fun g u k=>(show V W g (.list (ns'.map .int)) _ from ⟨⟨_,_,_,rfl,k _ he,Vs.ofInts a1⟩,by show (ns'.map Aa).length≤cap;refine rwC (Aj ..) ?_;exact hm⟩)) q;have hb:=hk b o q;have hlt:=Heap.lt_size hb;refine rwC (sortedHeap_old (Bk hlt) (by rw [size_push'];exact Nat.lt_succ_of_lt hlt) ..) ?_;exact Heap.get?_push_of_some _ hb
theorem iH {l r:List Int} (p:l.Perm r) (hl:l.Pairwise (·≤·)) (hr:r.Pairwise (·≤·)):l=r :=
 p.eq_of_pairwise (fun a b _ _ h1 h2=>Int.le_antisymm h1 h2) hl hr
theorem mc (l:List Int):(eY l).Pairwise (·≤·) :=
 (List.pairwise_mergeSort (le:=fun a b:Int=>decide (a≤b)) (fun a b c h1 h2=>decide_eq_true (Int.le_trans (of_decide_eq_true h1) (of_decide_eq_true h2))) (fun a b=>(Int.le_total a b).elim (fun h=>by refine rwC (decide_eq_true h ..) ?_;rfl) fun h=>by refine rwC (decide_eq_true h ..) ?_;refine rwC (Bool.or_true ..) ?_;exact rfl) l).imp of_decide_eq_true
theorem jZ (l:List Int):(eY l).Perm l:=List.mergeSort_perm _ _
theorem uz {kvs:List (Int×Value)}:∀{vs:List Value}{ns:List Int},IntsAre vs ns→vs.length=kvs.length→(∀(j:Nat) (v:Value),vs[j]?=some v→∃k x,kvs[j]?=some (k,x)∧(intKind W.prog W.w).is k v=true)→ns=kvs.map (·.1):=by
 induction kvs with
 | nil =>
  intro vs ns h hl _;cases h with
  | nil=>rfl
  | cons=>cases hl
 | cons q r ih =>
  intro vs ns h hl hP;cases h with
  | nil=>cases hl
  | cons i t h' =>
   refine rwC (AR ..) ?_;refine rwC (ih h' (by simpa using hl) (fun j v e=>by simpa using hP (j+1) v (by simpa using e)) ..) ?_;obtain ⟨k,x,e1,e2⟩:=hP 0 _ rfl;obtain rfl:=As e1;have:i=k:=by simpa [intKind,Value.isInt] using e2
   refine rwC (this ..) ?_;exact rfl
theorem qU {l:List Int}{p:Addr} (hS:SetAt W.w.params s.heap p l) (cx:Cx F ρ T s) (q:Q (.list (l.map .int)) T):eK F ρ s Q (.builtin "sorted") [.ref p]:=by
 refine eE3 (hS) fun es ep t zt7=>aA2 zt7 fun ho hi=>?_;have hwl:(bo W.w p ep es).size=es.size:=by refine rwD (Ax ..) ?_;refine rwC (bU W.w p ep es).length_eq ?_;refine rwC (Ax ..) ?_;exact rfl
 have hle:=hi.le;refine jY (ms:=l) (kdl_set (ep:=ep) hi) ho (by lia) ?_ ?_ ?_ cx q
 ·rintro i v ⟨e,he,rfl⟩;have:=(bU W.w p ep es).mem_iff.mp (by rw [← AM] at he;exact AP he);refine aA2 (hi.elems e this) fun zk8 _=>?_;obtain ⟨u,hu⟩:=zk8;exact ⟨_,u,hu⟩
 ·intro vs ns hI hl hP ns' p1 p2;have hns:=uy (ws:=(bo W.w p ep es).toList) (fun e he=>(hi.elems e ((bU W.w p ep es).mem_iff.mp he)).1) hI (by refine rwC (hl ..) ?_;refine rwC (Ax ..) ?_;refine rwC (hwl ..) ?_;exact rfl) (fun j v e=>by
   refine eE1 (hP j v e) fun x zt9=>aA2 zt9 fun h1 h2=>?_;exact ⟨x,by rw [AM];exact h1,h2⟩)
  exact iH ((hns▸p1).trans (((bU W.w p ep es).map _).trans hi.perm)) p2 (hi.sorted.imp Int.le_of_lt)
 ·refine rwD (hi.size ..) ?_;unfold cap;lia
theorem ma {l:List (Int×Int)} (hx:DictV (intKind W.prog W.w) (vw F.X s.heap) x l) (h64:l.length<64) (cx:Cx F ρ T s) (q:Q (.list ((eY (l.map (·.1))).map .int)) T):eK F ρ s Q (.builtin "sorted") [x]:=by
 obtain ⟨⟨p,kvs,ep,rfl,hd,hp,hm⟩,c⟩:=hx;have hlen:kvs.length=l.length:=by refine rwD (Aj (f:=(·.1)) ..) ?_;refine rwC (hp.1 ..) ?_;refine rwC (Aj ..) ?_;exact rfl
 refine jY (ms:=eY (l.map (·.1))) (kdl_dict (knd:=intKind W.prog W.w) hm) (hd.at' fun o q=>bg _ _ _ _ q) (by refine rwC (hlen ..) ?_;exact h64) ?_ ?_ ?_ cx q
 ·rintro i v ⟨k,x,_,hk⟩;cases v <;> first | exact ⟨_,_,rfl⟩ | (simp [intKind,Value.isInt] at hk)
 ·intro vs ns hI hl hP ns' p1 p2;have:=uz hI hl hP;replace p1:=(this ..)▸p1;replace p1:=(hp.1 ..)▸p1;exact iH (p1.trans (jZ _).symm) p2 (mc _)
 ·refine rwC (jZ _).length_eq ?_;refine rwC (Aj ..) ?_;exact c
end
section
variable {W:Wd}{F:Fr W}{ρ:Rho}{T:Tbl}{s:Shared}{Q:K}{g:Heap}{a b:AV}{x y:Value}{vs:List Value}{as:List AV}{n:Nat}
theorem Got.bool {c:Bool}{k:Nat} (cx:Cx F ρ T s) (q:Q (.bool c) T):Got (V W) F ρ s Q (.bool c) { s with toks:=k }:=.flat (a:=Aq c) cx k (fun _=>by exact rfl) q
theorem Got.set' {h':Heap}{p:Addr}{l:List Int}{tk:Nat} (cx:Cx F ρ T s) (u:Up s.heap h') (n:s.heap.get? p=none) (hS:SetAt W.w.params h' p l) (q:Q (.set l) T):Got (V W) F ρ s Q (.ref p) { s with heap:=h',toks:=tk } :=
 .made cx u n (fun g _ k=>(show V W g (.set l) _ from by obtain ⟨es,ep,t,e,i⟩:=hS;exact ⟨p,rfl,es,ep,t,k _ e,i⟩)) q
theorem blt1_ok (cx:Cx F ρ T s) (hx:V W (vw F.X s.heap) a x) (h:blt1 n a fun v=>Q v T):eK F ρ s Q (bltV n) [x]:=by
 have up:=bg F.X s.heap;have isl:∀{P:List Value→Prop}{m:Nat},SeqV (vw F.X s.heap) "list" x P m→∃p vs,x=.ref p∧s.heap.IsList p vs∧P vs.toList∧m≤cap:=fun h=>by obtain ⟨⟨p,vs,m,e,o,r⟩,c⟩:=h;exact ⟨p,vs,e,⟨_,up _ _ o,rfl,m,rfl⟩,r,c⟩
 replace h:=ad h;rcases h with ⟨en,h⟩ | h
 ·subst en;rcases ad h with ⟨e,h⟩ | h
  ·refine eE2 (isl (hx.list e)) fun p vs zt2=>aA4 zt2 fun zs1 hl hv c=>?_;subst zs1;exact call_len_list hl (ju (hv.size▸c)) (by rw [hv.size];exact .int cx h)
  rcases ad h with ⟨e,h⟩ | h
  ·obtain ⟨⟨p,vs,m,rfl,ho,hv⟩,c⟩:=hx.tup e;exact PyProof.Rows.len_tuple ⟨_,up _ _ ho,rfl,m,rfl⟩ (ju (hv.size▸c)) (by rw [hv.size];exact .int cx h)
  rcases ad h with ⟨e,h⟩ | h
  ·obtain ⟨p,rfl,es,ep,t,ho,hi⟩:=hx.set e;have:=hi.le;exact call_len_set (up _ _ ho) ⟨rfl,rfl,rfl⟩ rfl hi.fits (by lia) (by rw [hi.size];exact .int cx h)
  rcases ad h with ⟨e,h⟩ | h
  ·have hd:=(hx.vk.of e:DictV (intKind W.prog W.w) _ x a.d);refine eE2 (hd.live) fun p kvs zt4=>aA4 zt4 fun zs3 hD hp hm=>?_;subst zs3;have hlen:kvs.length=a.d.length:=(Aj (·.1)).symm.trans ((congrArg List.length hp.1).trans (Aj _));exact call_len_dict hm hD (by rw [hlen];exact ju hd.le) (by rw [hlen];exact .int cx h)
  rcases ad h with ⟨e,h⟩ | h
  ·refine aA2 ((hx.vk.of e:(∃p vs,x=.ref p∧(vw F.X s.heap).IsList p vs∧IntsAre vs.toList a.z)∧a.z.length≤64)) fun zk5 c=>?_;obtain ⟨p,vs,rfl,ho,hv⟩:=zk5;have hl:vs.size=a.z.length:=by rw [← Ax];exact hv.length
   exact call_len_list (ho.imp fun o q=>⟨up _ _ q.1,q.2⟩) (ju (hl▸Bp c (by decide))) (by rw [hl];exact .int cx h)
  ·exact h.elim
 replace h:=ad h;rcases h with ⟨en,h⟩ | h
 ·subst en;refine aA2 (ac h) fun e h=>?_;refine eE2 (isl (hx.list (Am e))) fun p vs zt7=>aA4 zt7 fun zs6 hl hv c=>?_;subst zs6;refine eE1 (ag h) fun bs zt8=>aA2 zt8 fun eb h=>?_;exact all_ok cx hl (hv.bools eb) h
 replace h:=ad h;rcases h with ⟨en,h⟩ | h
 ·subst en;refine aA2 (ac h) fun e h=>?_;refine eE2 (isl (hx.list (Am e))) fun p vs zt10=>aA4 zt10 fun zs9 hl hv c=>?_;subst zs9;refine eE1 (ag h) fun bs zt11=>aA2 zt11 fun eb h=>?_;exact any_ok cx hl (hv.bools eb) h
 replace h:=ad h;rcases h with ⟨en,h⟩ | h
 ·subst en;rcases ad h with ⟨e,h⟩ | h
  ·refine eE1 (hx.set e) fun p zt13=>aA2 zt13 fun zs12 hS=>?_;subst zs12;exact qU (hS.up up) cx h
  rcases ad h with ⟨e,h⟩ | h
  ·refine aA2 (ac h) fun e2 h=>?_;exact ma (hx.vk.of e) (Nat.lt_succ_of_le (AU e2)) cx h
  ·exact h.elim
 replace h:=ad h;rcases h with ⟨en,h⟩ | h
 ·subst en;refine aA2 (ac h) fun e h=>?_;refine eE2 (isl (hx.list (Am e))) fun p vs zt15=>aA4 zt15 fun zs14 hl hv c=>?_;subst zs14;exact call_tuple_list hl (fun h' hk=>Got.made cx (fun b o q=>Heap.get?_push_of_some _ (hk b o q)) (uJ hk) (fun g u k=>(show V W g (.tup a.l) _ from ⟨⟨_,_,0,rfl,k _ (Heap.get?_push_size _ rfl),hv.mono u⟩,c⟩)) h) (by rw [hv.size];exact qA c)
 replace h:=ad h;rcases h with ⟨en,h⟩ | h
 ·subst en;refine aA2 (ac h) fun e h=>?_;obtain ⟨⟨p,vs,m,rfl,ho,hv⟩,c⟩:=hx.tup (Am e);refine eE1 (ag h) fun l zt16=>aA2 zt16 fun el h=>?_;refine aA2 (ac h) fun hs h=>?_;exact sO F.hA.hand ⟨_,up _ _ ho,rfl,m,rfl⟩ (hv.ints el) (fun k hk=>by have:=AA.mp hs k hk;rw [Ay,decide_eq_true_eq,decide_eq_true_eq] at this;exact this) fun h' tk hk hN=>.set' cx hk (aF _) hN.at h
 replace h:=ad h;rcases h with ⟨en,h⟩ | h
 ·subst en;refine aA2 (ac h) fun e h=>?_;refine eE1 (hx.int (Am e)) fun t zs17=>?_;subst zs17;exact call_range_1 (.new (av:=.rng 0 a.i) cx _ rfl (fun g u e=>⟨_,_,_,_,rfl,e⟩) h)
 ·exact h.elim
theorem blt_ok (cx:Cx F ρ T s) (hv:Vs W (vw F.X s.heap) as vs) (h:bltP n as fun v=>Q v T):eK F ρ s Q (bltV n) vs:=by
 unfold bltP at h;cases as with
 | nil =>
  subst hv;refine aA2 (ac h) fun e h=>?_;cases Am e;exact set0_ok fun o' hN=>.set' (tk:=s.toks) cx (fun _ _ e=>Heap.get?_push_of_some _ e) (aF _) hN.at h
 | cons a as =>
  obtain ⟨x,r,rfl,hx,hv⟩:=hv;cases as with
  | nil=>subst hv;exact blt1_ok cx hx h
  | cons b as =>
   obtain ⟨y,r,rfl,hy,hv⟩:=hv;cases as with
   | cons _ _=>exact h.elim
   | nil =>
    subst hv;replace h:=ad h;rcases h with ⟨en,h⟩ | h
    ·subst en;exact dU (R:=fun x y=>eK F ρ s Q (.type "range") [x,y]) h hx hy fun t u q=>call_range_2 (.new (av:=.rng a.i b.i) cx _ rfl (fun g u e=>⟨_,_,_,_,rfl,e⟩) q)
    replace h:=ad h;rcases h with ⟨en,h⟩ | h
    ·subst en;refine aA2 (ac h) fun e h=>?_;rw [Ay] at e;have hy':y=bltV b.i.toNat:=hy.vk.of (Am e.1);rw [hy',Am e.2];rcases ad h with ⟨e,h⟩ | h
     ·refine eE1 (hx.str e) fun t zs18=>?_;subst zs18;exact IsiPair.str_str (.bool (k:=s.toks) cx h)
     rcases ad h with ⟨e,h⟩ | h
     ·refine eE1 (hx.int e) fun t zs19=>?_;subst zs19;exact IsiPair.int_str (.bool (k:=s.toks+1) cx h)
     ·exact h.elim
    ·exact h.elim
end
section
variable {W:Wd}{F F':Fr W}{ρ ρ':Rho}{T:Tbl}{s s':Shared}{h h':Heap}{Z X X':List Addr}
noncomputable def Fr.plus (F:Fr W) (Z:List Addr):Fr W:={ F with X:=Z++F.X,locX:=Ak _ F.locX,x0:=fun a m=>⟨Ak _ (F.x0 a m).1,(F.x0 a m).2⟩,cellX:=fun x c e=>⟨Ak _ (F.cellX x c e).1,(F.cellX x c e).2⟩ }
theorem vO (on:W.on=true):W.rowsA∈W.X0:=by unfold Wd.X0;refine rwC (on ..) ?_;refine rwC (if_pos rfl ..) ?_;exact .head _
theorem X0_idx (on:W.on=true):W.idxA∈W.X0:=by unfold Wd.X0;refine rwC (on ..) ?_;refine rwC (if_pos rfl ..) ?_;exact .tail _ (.head _)
noncomputable abbrev On (X:List Addr) (h h':Heap):Prop:=∀a∈X,∀o,h.get? a=some o→h'.get? a=some o
theorem Tab.to (t:Tab W T X h) (x0:On W.X0 h h') (u:Up (vw X h) (vw X' h')):Tab W T X' h':=fun on=>(t on).to (x0 _ (vO on)) (x0 _ (X0_idx on)) u
theorem Nm.to {x:Str}{av:AV} (n:Nm F h x av) (u:Up (vw F.X h) (vw F'.X h')) (l:∀v,Loads h F.env x v∨vU F x v→Loads h' F'.env x v∨vU F' x v):Nm F' h' x av :=
 ⟨n.good,by obtain ⟨v,h1,h2⟩:=n.ex;exact ⟨v,h1.mono u,l v h2⟩⟩
theorem Hp.dead (hp:Hp F h) {a:Addr} (e:h.get? a=none):W.h₀.get? a=none:=by
 cases q:W.h₀.get? a with
 | none=>rfl
 | some o=>rw [hp.base a o q] at e;exact Sn e
theorem Hp.notX (hp:Hp F h) {a:Addr} (e:h.get? a=none):a∉F.X:=fun m=>by
 refine eE1 ((hp.xs a m).2) fun o q=>?_;rw [e] at q;exact nS q
theorem Hp.to (hp:Hp F h) (k:Kp Z h h') (z0:∀z∈Z,W.h₀.get? z=none) (xs:∀a∈F'.X,W.h₀.get? a=none∧∃o,h'.get? a=some o) (ns:∃m,h'.Ns F'.env.locals m) (cell:∀x c,F'.env.cells.lookup x=some c→∃v,h'.IsCell c v):Hp F' h' :=
 ⟨fun b o e=>k b o (fun m=>by rw [z0 b m] at e;exact nS e) (hp.base b o e),xs,ns,cell⟩
theorem Cx.plus (cx:Cx F ρ T s) (u:Up s.heap s'.heap) (hz:∀z∈Z,s.heap.get? z=none∧∃o,s'.heap.get? z=some o):Cx (F.plus Z) ρ T s' :=
 have uv:Up (vw F.X s.heap) (vw (Z++F.X) s'.heap):=(show Kp [] s.heap s'.heap from fun b o _ e=>u b o e).vw (fun _ h=>nomatch h) fun b m=>(Ao.mp m).elim (fun m=>.inr (hz b m).1) .inl
 ⟨cx.hp.to (F':=F.plus Z) (Z:=[]) (fun b o _ e=>u b o e) (fun _ h=>nomatch h) (fun a m=>(Ao.mp m).elim (fun m=>⟨cx.hp.dead (hz a m).1,(hz a m).2⟩) fun m=>⟨(cx.hp.xs a m).1,(cx.hp.xs a m).2.imp fun o e=>u a o e⟩)
  (cx.hp.ns.imp fun _ hn=>hn.at' fun o e=>u _ o e) (fun x c e=>(cx.hp.cell x c e).imp fun _ zq1=>by obtain ⟨o,ho,hd⟩:=zq1;exact ⟨o,u _ _ ho,hd⟩),
  fun x av e=>(cx.nm x av e).to (F':=F.plus Z) uv fun v l=>l.imp (fun l=>l.kp (X:=[]) (fun b o _ e=>u b o e) (fun h=>nomatch h) (fun _ _ h=>nomatch h)) id,cx.tab.to (fun a _ o e=>u a o e) uv⟩
theorem Cx.go {T':Tbl}{F':Fr W} (cx:Cx F ρ T s) (he:F'.env=F.env) (hX:∀a∈F'.X,a∈F.X) (k:Kp Z s.heap s'.heap) (hz:∀z∈Z,z∈F.X∧(z∈F'.X→∃o,s'.heap.get? z=some o)) (hl:F.env.locals∉Z) (hc:∀x c,F.env.cells.lookup x=some c→c∉Z) (tab:Tab W T' F'.X s'.heap):Cx F' ρ T' s' :=
 have uv:Up (vw F.X s.heap) (vw F'.X s'.heap):=k.vw (fun b m=>(hz b m).1) fun b m=>.inl (hX b m)
 ⟨cx.hp.to k (fun z m=>(cx.hp.xs z (hz z m).1).1) (fun a m=>⟨(cx.hp.xs a (hX a m)).1,if q:a∈Z then (hz a q).2 m else (cx.hp.xs a (hX a m)).2.imp fun o e=>k a o q e⟩)
  (he▸cx.hp.ns.imp fun _ hn=>hn.at' fun o e=>k _ o hl e) (fun x c e=>(cx.hp.cell x c (he▸e)).imp fun _ hv=>IsCell.kp hv k (hc x c (he▸e))),
  fun x av e=>(cx.nm x av e).to uv fun v l=>l.imp (fun l=>he▸l.kp k hl (hc x)) fun g=>(show F'.env.kindOf x=_ from he▸g.1) |> fun q=>⟨q,g.2⟩,tab⟩
theorem Cx.swap {F':Fr W} (cx:Cx F ρ T s) (he:F'.env=F.env) (hX:∀a∈F'.X,a∈F.X) (k:Kp Z s.heap s'.heap) (hz:∀z∈Z,z∈F.X∧z∉W.X0∧(z∈F'.X→∃o,s'.heap.get? z=some o)) (hl:F.env.locals∉Z) (hc:∀x c,F.env.cells.lookup x=some c→c∉Z):Cx F' ρ T s' :=
 cx.go he hX k (fun z m=>⟨(hz z m).1,(hz z m).2.2⟩) hl hc (cx.tab.to (fun a m o e=>k a o (fun q=>(hz a q).2.1 m) e) (k.vw (fun b m=>(hz b m).1) fun b m=>.inl (hX b m)))
theorem Cx.at (cx:Cx F ρ T s) (k:Kp Z s.heap s'.heap) (hz:∀z∈Z,z∈F.X∧z∉W.X0∧∃o,s'.heap.get? z=some o) (hl:F.env.locals∉Z) (hc:∀x c,F.env.cells.lookup x=some c→c∉Z):Cx F ρ T s' :=
 cx.swap rfl (fun _ m=>m) k (fun z m=>⟨(hz z m).1,(hz z m).2.1,fun _=>(hz z m).2.2⟩) hl hc
theorem Cx.minus (cx:Cx (F.plus Z) ρ T s) (k:Kp Z s.heap s'.heap) (hz:∀z∈Z,z∉F.X):Cx F ρ T s' :=
 cx.swap (F':=F) rfl (fun _ m=>Ak _ m) k (fun z m=>⟨Ap _ m,fun q=>hz z m (F.x0 z q).1,fun q=>absurd q (hz z m)⟩) (fun m=>hz _ m F.locX) fun x c e m=>hz c m (F.cellX x c e).1
theorem ns_eq {h:Heap}{a:Addr}{m m':Str→Option Value} (x:h.Ns a m) (y:h.Ns a m'):m=m':=by
 refine eE3 (x) fun o es ep zt1=>aA4 zt1 fun e hd _ r=>?_;refine eE3 (y) fun o' es' ep' zt2=>aA4 zt2 fun e' hd' _ r'=>?_;replace e':=(e ..)▸e';obtain rfl:=As e';replace hd':=(hd ..)▸hd';cases hd'
 funext n
 refine rwD (r n ..) ?_;refine rwC (r' n ..) ?_;exact rfl
theorem cS {h:Heap}{a:Addr}{m:Str→Option Value} (x:h.Ns a m):∃o,h.get? a=some o:=by obtain ⟨o,_,_,e,_⟩:=x;exact ⟨o,e⟩
theorem Kp.but {a:Addr} (x:Heap.SameBut a h h'):Kp [a] h h':=fun b o m e=>(x.2 b fun q=>m (q▸.head _)).trans e
noncomputable def bz (env:Env) (x:Str):Prop:=aP x=false∧(env.kindOf x=some .local∨(env.kindOf x=some .cell∧∃c,env.cells.lookup x=some c))
noncomputable def pA (env:Env) (x:Str) (z:Addr):Prop:=(env.kindOf x=some .local∧z=env.locals)∨(env.kindOf x=some .cell∧env.cells.lookup x=some z)
theorem Cx.store {x:Str}{v:Value}{E:Value→Shared→Prop}{P:Unit→Shared→Prop} (cx:Cx F ρ T s) (hk:bz F.env x) (hρ:∀y a,ρ' y=some a→(y=x∧V W (vw F.X s.heap) a v)∨(y≠x∧ρ y=some a))
  (q:∀h' tk z,Kp [z] s.heap h'→pA F.env x z→Cx F ρ' T { s with heap:=h',toks:=tk }→(∀y u,y≠x→Loads s.heap F.env y u→Loads h' F.env y u)→Loads h' F.env x v→P () { s with heap:=h',toks:=tk }):Av (model W.prog W.w) F.A (storeName F.env x v) P E s:=by
 have fin:∀h' (tk:Nat) z,Kp [z] s.heap h'→pA F.env x z→(∃o,h'.get? z=some o)→(∃m,h'.Ns F.env.locals m)→(∀y c,F.env.cells.lookup y=some c→∃v,h'.IsCell c v) →
   (∀y u,y≠x→Loads s.heap F.env y u→Loads h' F.env y u)→Loads h' F.env x v→P () { s with heap:=h',toks:=tk }:=fun h' tk z k hz al ns hc hy hx=>by
  have zX:z∈F.X∧z∉W.X0:=hz.elim (fun e=>e.2▸⟨F.locX,F.loc0⟩) fun e=>⟨(F.cellX x z e.2).1,(F.cellX x z e.2).2.1⟩;have one:∀{b},b∈[z]→b=z:=Ae.mp;have uv:Up (vw F.X s.heap) (vw F.X h'):=k.vw (fun b m=>one m▸zX.1) fun b m=>.inl m;refine q h' tk z k hz ⟨cx.hp.to k (fun b m=>one m▸(cx.hp.xs z zX.1).1) (fun a m=>⟨(cx.hp.xs a m).1,if e:a=z then e▸al else (cx.hp.xs a m).2.imp fun o e'=>k a o (fun m=>e (one m)) e'⟩) ns hc,fun y a e=>?_,cx.tab.to (fun a m o e=>k a o (fun m'=>zX.2 (one m'▸m)) e) uv⟩ hy hx;rcases hρ y a e with ⟨rfl,hv⟩ | ⟨hne,e⟩
  ·exact ⟨hk.1,v,hv.mono uv,.inl hx⟩
  ·exact (cx.nm y a e).to uv fun u l=>l.imp (hy y u hne) id
 obtain ⟨m,hn⟩:=cx.hp.ns;rcases hk.2 with hk | ⟨hk,c,hc⟩
 ·refine wpAny_storeName_local hk hn (fun h' hn' sb=>fin h' _ _ (.but sb) (.inl ⟨hk,rfl⟩) (cS hn') ⟨_,hn'⟩ (fun y c e=>(cx.hp.cell y c e).imp fun _ hv=>hv.sameBut sb (F.cellX y c e).2.2) (fun y u hy l=>?_) (.inl ⟨hk,_,hn',by simp⟩)) (by refine rwC (F.kind ..) ?_;rfl);refine l.imp (fun ⟨a,m',hm',hu⟩=>⟨a,_,hn',?_⟩) fun zq2=>by obtain ⟨a,c,hc,hv⟩:=zq2;exact ⟨a,c,hc,hv.sameBut sb (F.cellX y c hc).2.2⟩
  replace hu:=(ns_eq hm' hn ..)▸hu;simp only [if_neg hy];exact hu
 ·obtain ⟨v₀,hv₀⟩:=cx.hp.cell x c hc;have cL:=(F.cellX x c hc).2.2;refine wpAny_storeName_cell F.kind hk hc hv₀ fun h' hv' sb=>fin h' _ c (.but sb) (.inr ⟨hk,hc⟩) (by obtain ⟨o,e,_⟩:=hv';exact ⟨o,e⟩) ⟨m,hn.sameBut sb (Ne.symm cL)⟩ (fun y c' e=>?_) (fun y u hy l=>?_) (.inr ⟨.inl hk,c,hc,hv'⟩)
  ·by_cases q:c'=c
   ·subst q;exact ⟨_,hv'⟩
   ·exact (cx.hp.cell y c' e).imp fun _ hv=>hv.sameBut sb q
  ·exact l.imp (fun zq3=>by obtain ⟨a,m',hm',hu⟩:=zq3;exact ⟨a,m',hm'.sameBut sb (Ne.symm cL),hu⟩) fun zq4=>by obtain ⟨a,c',hc',hv⟩:=zq4;exact ⟨a,c',hc',hv.sameBut sb fun q=>hy (F.cellU _ _ _ (q▸hc') hc)⟩
end
structure Iter (W:Wd) (A:Around) (I:Addr) (g:Heap) (items:List AV) (fp:List Addr) (P:Nat→Value→Prop) (S:Nat→Heap→Prop) (h:Heap):Prop where
 walks:Walks W.prog W.w A I fp [I] items.length P S
 fp:∀b∈fp,b=I∨∃o,g.get? b=some o
 st:S 0 h
 live:∀i h,S i h→∃o,h.get? I=some o
 item:∀i u,i<items.length→P i u→∃av,items[i]?=some av∧V W g av u
section
variable {W:Wd}{F:Fr W}{ρ:Rho}{T:Tbl}{s:Shared}{g:Heap}{a:AV}{x:Value}{R:List AV→Prop}{Q E:Value→Shared→Prop}
theorem Vs.back:∀{l:List AV}{vs:List Value}{i:Nat}{u:Value},Vs W g l vs→vs[i]?=some u→∃av,l[i]?=some av∧V W g av u
 | [],_,_,_,h,e=>by subst h;cases e
 | _::_,_,0,_,h,e=>by obtain ⟨v,r,rfl,h1,_⟩:=h;obtain rfl:=As e;exact ⟨_,rfl,h1⟩
 | _::_,_,i+1,_,h,e=>by obtain ⟨v,r,rfl,_,h2⟩:=h;exact h2.back e
theorem jt {i:Int} (h1:-1000001≤i) (h2:i≤2000000):Builtin.Range.rangeFitsLong i=true:=by
 unfold Builtin.Range.rangeFitsLong;refine rwC (Ay ..) ?_;refine rwC (decide_eq_true_eq ..) ?_;refine rwC (decide_eq_true_eq ..) ?_;lia
theorem uw (hx:V W (vw F.X s.heap) a x) (h:aq a R) (k:∀items o fp P S,R items→Iter W F.A s.heap.objs.size (vw F.X s.heap) items fp P S (s.heap.push o)→Q (.ref s.heap.objs.size) { s with heap:=s.heap.push o }) :
  Av (model W.prog W.w) F.A (pyIter x) Q E s:=by
 have up:=bg F.X s.heap;have two:∀{p:Addr}{o:Obj},(vw F.X s.heap).get? p=some o→∀b∈[s.heap.objs.size,p],b=s.heap.objs.size∨∃o,(vw F.X s.heap).get? b=some o:=fun e b m=>(Ai.mp m).imp id fun m=>(by cases Ae.mp m;exact ⟨_,e⟩);have back:∀{vs:Array Value}{l:List AV},Vs W (vw F.X s.heap) l vs.toList→∀i u,i<l.length→vs[i]?=some u→∃av,l[i]?=some av∧V W (vw F.X s.heap) av u:=fun hv i u _ e=>hv.back (by rw [AM];exact e);rcases ad h with ⟨e,h⟩ | h
 ·obtain ⟨⟨p,vs,m,rfl,ho,hv⟩,c⟩:=hx.tup e;have hT:IsTup s.heap p vs:=⟨_,up _ _ ho,rfl,m,rfl⟩;exact wpAny_pyIter_tuple hT (k _ _ [s.heap.objs.size,p] _ _ h ⟨hv.size▸Walks.tuple F.hA.hand s.heap.objs.size p (Bk (Heap.lt_size (up _ _ ho))) vs,two ho,⟨⟨_,Heap.get?_push_size _ rfl,rfl,rfl⟩,hT.keeps fun _ _ e=>Heap.get?_push_of_some _ e⟩,fun i h st=>(by obtain ⟨⟨o,e,_⟩,_⟩:=st;exact ⟨o,e⟩),back hv⟩)
 rcases ad h with ⟨e,h⟩ | h
 ·obtain ⟨⟨p,vs,m,rfl,ho,hv⟩,c⟩:=hx.list e;have hT:s.heap.IsList p vs:=⟨_,up _ _ ho,rfl,m,rfl⟩;exact wpAny_pyIter_list hT (k _ _ [s.heap.objs.size,p] _ _ h ⟨hv.size▸Walks.list F.hA.hand s.heap.objs.size p (Bk (Heap.lt_size (up _ _ ho))) vs,two ho,⟨⟨_,Heap.get?_push_size _ rfl,rfl,rfl⟩,hT.push _⟩,fun i h st=>(by obtain ⟨⟨o,e,_⟩,_⟩:=st;exact ⟨o,e⟩),back hv⟩)
 rcases ad h with ⟨e,hb,h⟩ | h
 ·refine eE4 ((show ∃r t u w,x=.ref r∧IsRange (vw F.X s.heap) r a.i a.j 1 t u w from hx.vk.of e)) fun r t u w zt2=>aA2 zt2 fun zs1 e1=>?_;subst zs1;have hsm:Builtin.Range.small a.i a.j 1=true:=by
   unfold cap at hb;unfold Builtin.Range.small;rw [rangeSize_nat,if_pos (by decide),jt (i:=a.i) (by lia) (by lia),jt (i:=a.j) (by lia) (by lia),jt (i:=1) (by lia) (by lia),jt (by lia) (by lia),jt (i:=a.j+(1 - 1)) (by lia) (by lia),Bool.or_true];rfl
  refine wpAny_pyIter_range (a:=a.i) (b:=a.j) (up _ _ e1) hsm (k _ _ [s.heap.objs.size] _ _ h ⟨by refine rwC (Aj ..) ?_;refine rwC (AN ..) ?_;exact Walks.range F.hA.hand s.heap.objs.size a.i 1 (a.j - a.i).toNat,fun c hc=>.inl (Ae.mp hc),?_,fun i h st=>⟨_,st⟩,?_⟩)
  ·show Heap.get? _ _=_;refine rwC (rangeSize_nat ..) ?_;simpa using Heap.get?_push_size _ rfl
  ·rintro i u hi ⟨t',rfl⟩;replace hi:=(Aj ..)▸hi;replace hi:=(AN ..)▸hi;refine ⟨.int (a.i+(i:Int)),?_,?_⟩
   ·rw [Bq,List.getElem?_range hi];rfl
   ·refine rwC (Int.mul_one ..) ?_;exact ⟨_,rfl⟩
 ·exact h.elim
end
structure ScOk (sc:Scope) (env:Env):Prop where
 loc:∀x,bu x sc.names=some .local→env.kindOf x=some .local
 cell:∀x,bu x sc.names=some .cell→env.kindOf x=some .cell∧∃c,env.cells.lookup x=some c
 free:∀x,bu x sc.names=some .free→(env.kindOf x=some .cell∨env.kindOf x=some .free)∧∃c,env.cells.lookup x=some c
 glob:∀x,bu x sc.names=some .globalImplicit→env.kindOf x=some .globalImplicit
noncomputable def GOk (W:Wd) (G:Rho):Prop:=∀y v,G y=some v→aP y=false∧∃u,V W W.h₀ v u∧∃mg,W.h₀.Ns Bl mg∧(mg y=some u∨(mg y=none∧∃mb,W.h₀.Ns Ch mb∧mb y=some u))
noncomputable def boxed (k:Option NameKind):Bool:=match k with
 | some .cell=>true
 | some .free=>true
 | _=>false
noncomputable def qz (sc csc:Scope) (x:Str) (p:Str×NameKind):Bool:=cond (seq p.1 x || seq p.1 (".0":Str)) (p.2 == .local) (p.2 == .globalImplicit || (p.2 == .free && boxed (bu p.1 sc.names)))
noncomputable def compB (sc csc:Scope) (x:Str):Bool:=csc.kind == .function && (!aP x && (bu x csc.names == some .local && csc.names.all (qz sc csc x)))
noncomputable def gW (csc:Scope) (G ν:Rho) (x:Str) (v:AV):Rho:=fun y=>cond (seq x y) (some v) (match bu y csc.names with
 | some .free=>ν y
 | some .globalImplicit=>G y
 | _=>none)
structure CompOk (sc csc:Scope) (x:Str):Prop where
 kind:csc.kind=.function
 good:aP x=false
 isx:csc.names.lookup x=some .local
 names:∀p∈csc.names,((p.1=x∨p.1=(".0":Str))∧p.2=.local)∨(p.1≠x∧p.1≠(".0":Str)∧((p.2=.free∧boxed (bu p.1 sc.names)=true)∨p.2=.globalImplicit))
theorem compB_ok {sc csc:Scope}{x:Str} (h:compB sc csc x=true):CompOk sc csc x:=by
 unfold compB at h;rw [Ay,Ay,Ay,Br,aW] at h;refine ⟨eq_of_beq h.1,h.2.1,eq_of_beq h.2.2.1,fun p m=>?_⟩;have q:=AA.mp h.2.2.2 p m;unfold qz at q;cases e:seq p.1 x || seq p.1 (".0":Str) with
 | true =>
  rw [e] at q;exact .inl ⟨((Bg ..).mp e).imp aM aM,eq_of_beq q⟩
 | false =>
  rw [e] at q;rw [BP] at e;exact .inr ⟨cQ e.1,cQ e.2,((Bg ..).mp q).elim (fun q=>.inr (eq_of_beq q)) fun q=>.inl (((Ay ..).mp q).imp eq_of_beq id)⟩
noncomputable def rR (env:Env):List (Str×NameKind)→List (Str×Addr)→List (Str×Addr)
 | [],cs=>cs
 | (x,k)::r,cs=>rR env r (if k == NameKind.free then (x,(env.cells.lookup x).getD 0)::cs else cs)
theorem jg {env:Env}{f:Str×NameKind→List (Str×Addr)→Sem (ForInStep (List (Str×Addr)))}
  (hf:∀x k cs,f (x,k) cs=if (k == NameKind.free)=true then (PySem.cellOf env x >>= fun c=>pure (.yield ((x,c)::cs))) else pure (.yield cs)) :
  ∀(names:List (Str×NameKind)) (cs:List (Str×Addr)),(∀p∈names,p.2=.free→∃c,env.cells.lookup p.1=some c)→forIn names cs f=pure (rR env names cs)
 | [],cs,_=>by refine rwC (Ck ..) ?_;rfl
 | (x,k)::r,cs,h=>by
  refine rwC (CB ..) ?_;refine rwC (hf ..) ?_;have ih:=fun cs=>jg hf r cs fun p hp=>h p (.tail _ hp)
  by_cases hk:k=.free
  ·subst hk;obtain ⟨c,hc⟩:=h (x,.free) (.head _) rfl;have e:PySem.cellOf env x=pure c:=by unfold PySem.cellOf;refine rwC (hc ..) ?_;exact rfl
   refine rwC (if_pos (by decide) ..) ?_;refine rwC (e ..) ?_;refine (?_:forIn r ((x,c)::cs) f=_);refine rwC (ih ..) ?_;have hc':Ce x env.cells=some c:=hc;have:rR env ((x,NameKind.free)::r) cs=rR env r ((x,(env.cells.lookup x).getD 0)::cs):=rfl;refine rwC (this ..) ?_;refine rwC (hc' ..) ?_;rfl
  ·have hb:(k == NameKind.free)=false:=by simpa using hk
   refine rwC (if_neg (by rw [hb];exact AF) ..) ?_;refine (?_:forIn r cs f=_);refine rwC (ih ..) ?_;show _=pure (rR env r (if (k == NameKind.free)=true then _ else cs));refine rwC (if_neg (by rw [hb];exact AF) ..) ?_;exact rfl
theorem rQ {env:Env}{csc:Scope} (h:∀p∈csc.names,p.2=.free→∃c,env.cells.lookup p.1=some c):closureFor csc env=pure (rR env csc.names []):=by
 simp only [closureFor];rw [jg (env:=env) (fun x k cs=>by cases hk:(k == NameKind.free) <;> simp [hk]) csc.names [] h];rfl
theorem jq {env:Env}{y:Str}:∀(names:List (Str×NameKind)) (cs:List (Str×Addr)),(∀p∈names,p.2=.free→∃c,env.cells.lookup p.1=some c) →
  ((y,NameKind.free)∈names→(rR env names cs).lookup y=env.cells.lookup y)∧((y,NameKind.free)∉names→(rR env names cs).lookup y=cs.lookup y)
 | [],cs,_=>⟨fun h=>(nomatch h),fun _=>rfl⟩
 | (x,k)::r,cs,h=>by
  obtain ⟨h1,h2⟩:=jq r (if k == NameKind.free then (x,(env.cells.lookup x).getD 0)::cs else cs) fun p hp=>h p (.tail _ hp)
  by_cases hr:(y,NameKind.free)∈r
  ·exact ⟨fun _=>h1 hr,fun q=>absurd (List.mem_cons_of_mem _ hr) q⟩
  ·have h2:=h2 hr;refine ⟨fun hm=>?_,fun hm=>?_⟩
   ·rcases Ai.mp hm with e | e
    ·obtain ⟨rfl,rfl⟩:=Prod.mk.inj e;obtain ⟨c,hc⟩:=h _ (.head _) rfl;refine (?_:(rR env r _).lookup y=_);refine rwC (h2 ..) ?_;refine rwC (if_pos (by decide) ..) ?_;refine rwC (List.lookup_cons_self ..) ?_;refine rwC (hc ..) ?_;rfl
    ·exact absurd e hr
   ·refine (?_:(rR env r _).lookup y=_);refine rwC (h2 ..) ?_
    split
    ·rename_i hk;have hk':k=.free:=by simpa using hk
     subst hk';have:(y == x)=false:=by
      rw [beq_eq_false_iff_ne];rintro rfl;exact hm (.head _)
     refine rwC (Bz ..) ?_;refine rwC (this ..) ?_;exact rfl
    ·rfl
theorem jD {csc:Scope}{env:Env} (hk:env.scope.kind=.function) (y:Str):(relabel csc env).names.lookup y=(csc.names.lookup y).map fun k=>if k=.free∧env.kindOf y=some .cell then .cell else k:=by
 unfold relabel;dsimp only
 induction csc.names with
 | nil=>rfl
 | cons p r ih =>
  obtain ⟨n,k⟩:=p;refine rwC (AR ..) ?_;dsimp only;have two:∀(a:NameKind) (l:List (Str×NameKind)),Ce y ((n,a)::l)=if y=n then some a else Ce y l:=fun a l=>by
   refine rwC (Bz ..) ?_
   by_cases q:y=n
   ·subst q;simp
   ·have hb:(y == n)=false:=by rw [beq_eq_false_iff_ne];exact q
    refine rwC (hb ..) ?_;refine rwC (if_neg q ..) ?_;exact rfl
  refine rwC (two k r ..) ?_;have hc:(k == NameKind.free && env.scope.kind == ScopeKind.function && env.kindOf n == some NameKind.cell)=decide (k=.free∧env.kindOf n=some .cell):=by
   rw [hk,Bx];simp
  refine rwC (hc ..) ?_
  by_cases c:k=.free∧env.kindOf n=some .cell
  ·refine rwC (decide_eq_true c ..) ?_;refine rwC (if_pos rfl ..) ?_;refine rwC (two ..) ?_
   by_cases q:y=n
   ·subst q;rw [if_pos rfl,if_pos rfl,CA,if_pos c]
   ·refine rwC (if_neg q ..) ?_;refine rwC (if_neg q ..) ?_;exact ih
  ·refine rwC (decide_eq_false c ..) ?_;refine rwC (if_neg AF ..) ?_;refine rwC (two ..) ?_
   by_cases q:y=n
   ·subst q;rw [if_pos rfl,if_pos rfl,CA,if_neg c]
   ·refine rwC (if_neg q ..) ?_;refine rwC (if_neg q ..) ?_;exact ih
theorem ff {α:Type}{y:Str}:∀{l:List (Str×α)}{a:α},(y,a)∈l→∃b,l.lookup y=some b
 | (n,k)::r,a,h=>by
  refine rwC (Bz ..) ?_;cases q:y == n with
  | true=>exact ⟨_,rfl⟩
  | false =>
   rcases Ai.mp h with e | e
   ·obtain ⟨rfl,rfl⟩:=Prod.mk.inj e;simp at q
   ·exact ff e
section
variable {W:Wd}{F:Fr W}{ρ G:Rho}{T:Tbl}{s:Shared}{h h':Heap}{sc csc:Scope}{x:Str}{C:Addr}{Z:List Addr}{v:AV}
theorem ScOk.boxed {env:Env} (so:ScOk sc env) {y:Str} (h:boxed (bu y sc.names)=true):(env.kindOf y=some .cell∨env.kindOf y=some .free)∧∃a,env.cells.lookup y=some a:=by
 cases e:bu y sc.names with
 | none=>replace h:=(e ..)▸h;exact fT h
 | some k =>
  replace h:=(e ..)▸h;cases k with
  | cell=>exact ⟨.inl (so.cell y e).1,(so.cell y e).2⟩
  | free=>exact so.free y e
  | _=>exact fT h
theorem CompOk.cells {env:Env} (c:CompOk sc csc x) (so:ScOk sc env) (p:Str×NameKind) (m:p∈csc.names) (e:p.2=.free):∃a,env.cells.lookup p.1=some a :=
 (c.names p m).elim (fun q=>nomatch q.2.symm.trans e) fun q=>q.2.2.elim (fun q=>(so.boxed q.2).2) fun q=>nomatch q.symm.trans e
theorem CompOk.noCell (c:CompOk sc csc x) (p:Str×NameKind) (m:p∈csc.names) (e:p.2=.cell):False :=
 (c.names p m).elim (fun q=>nomatch q.2.symm.trans e) fun q=>q.2.2.elim (fun q=>nomatch q.1.symm.trans e) fun q=>nomatch q.symm.trans e
theorem CompOk.locals (c:CompOk sc csc x) (p:Str×NameKind) (m:p∈csc.names) (e:p.2=.local):csc.names.lookup p.1=some .local:=by
 obtain ⟨b,hb⟩:=ff (y:=p.1) (a:=p.2) m;have q:=c.names _ (mem_of_lookup hb);rcases c.names p m with ⟨q1,_⟩ | ⟨_,_,⟨q2,_⟩ | q2⟩
 ·rcases q with ⟨_,q⟩ | ⟨a1,a2,_⟩
  ·refine rwC (hb ..) ?_;exact congrArg some q
  ·exact (q1.elim a1 a2).elim
 ·exact nomatch q2.symm.trans e
 ·exact nomatch q2.symm.trans e
theorem CompOk.free (c:CompOk sc csc x) {y:Str} (e:csc.names.lookup y=some .free):y≠x∧boxed (bu y sc.names)=true :=
 (c.names _ (mem_of_lookup e)).elim (fun q=>nomatch q.2) fun q=>⟨q.1,q.2.2.elim (·.2) fun q=>nomatch q⟩
theorem CompOk.back {env:Env} (c:CompOk sc csc x) (so:ScOk sc env) {y:Str}{a:Addr} (e:(rR env csc.names []).lookup y=some a):env.cells.lookup y=some a:=by
 obtain ⟨h1,h2⟩:=jq (y:=y) csc.names [] (c.cells so)
 by_cases hm:(y,NameKind.free)∈csc.names
 ·exact (h1 hm).symm.trans e
 ·rw [h2 hm] at e;exact nS e
theorem CompOk.forth {env:Env} (c:CompOk sc csc x) (so:ScOk sc env) {y:Str} (e:csc.names.lookup y=some .free):(rR env csc.names []).lookup y=env.cells.lookup y :=
 (jq (y:=y) csc.names [] (c.cells so)).1 (mem_of_lookup e)
noncomputable def Fr.comp (F:Fr W) (so:ScOk sc F.env) (c:CompOk sc csc x) (C:Addr) (Z:List Addr) (hC:C∈Z) (hX:C∉F.X):Fr W where
 A:=F.A
 env:=compEnvC csc (rR F.env csc.names []) C F.env
 X:=Z++F.X
 n:=F.n
 hA:=F.hA
 kind:=c.kind
 gl:=F.gl
 bl:=F.bl
 code:=F.code
 locX:=Ap _ hC
 x0:=fun a m=>⟨Ak _ (F.x0 a m).1,fun e=>hX ((show a=C from e)▸(F.x0 a m).1)⟩
 cellX:=fun y a e=>have q:=F.cellX y a (c.back so e);⟨Ak _ q.1,q.2.1,fun e=>hX ((show a=C from e)▸q.1)⟩
 cellU:=fun y z a h1 h2=>F.cellU y z a (c.back so h1) (c.back so h2)
variable {so:ScOk sc F.env}{c:CompOk sc csc x}{hC:C∈Z}{hX:C∉F.X}
theorem vy (y:Str):(F.comp so c C Z hC hX).env.kindOf y=(csc.names.lookup y).map fun k=>if k=.free∧F.env.kindOf y=some .cell then .cell else k:=jD F.kind y
theorem compKf {y:Str} (e:csc.names.lookup y=some .free):(F.comp so c C Z hC hX).env.kindOf y=some .cell∨(F.comp so c C Z hC hX).env.kindOf y=some .free:=by
 refine rwC (vy ..) ?_;refine rwC (e ..) ?_;refine rwC (CA ..) ?_
 split
 ·exact .inl rfl
 ·exact .inr rfl
theorem compSc:ScOk csc (F.comp so c C Z hC hX).env where
 loc:=fun y e=>by replace e:=(aW ..)▸e;refine rwC (vy ..) ?_;refine rwC (e ..) ?_;rfl
 cell:=fun y e=>by replace e:=(aW ..)▸e;exact (c.noCell _ (mem_of_lookup e) rfl).elim
 free:=fun y e=>by
  replace e:=(aW ..)▸e;exact ⟨compKf e,(so.boxed (c.free e).2).2.imp fun a q=>(c.forth so e).trans q⟩
 glob:=fun y e=>by replace e:=(aW ..)▸e;refine rwC (vy ..) ?_;refine rwC (e ..) ?_;rfl
theorem ky:bz (F.comp so c C Z hC hX).env x:=⟨c.good,.inl (by refine rwC (vy ..) ?_;refine rwC (c.isx ..) ?_;rfl)⟩
theorem compNm {y:Str}{a:AV} (g:GOk W G) (b:Up W.h₀ (vw (Z++F.X) h)) (nm:∀y a,ρ y=some a→Nm (F.plus Z) h y a) (hy:y≠x) (e:gW csc G ρ x v y=some a):Nm (F.comp so c C Z hC hX) h y a:=by
 unfold gW at e;replace e:=(bt (Ne.symm hy) ..)▸e;replace e:=(aW ..)▸e;cases k:csc.names.lookup y with
 | none=>replace e:=(k ..)▸e;exact nS e
 | some k' =>
  replace e:=(k ..)▸e;cases k' with
  | free =>
   obtain ⟨gd,w,hw,l⟩:=nm y a e;have bx:=so.boxed (c.free k).2;refine ⟨gd,w,hw,.inl (.inr ⟨compKf k,?_⟩)⟩;rcases l with (⟨q,_⟩ | ⟨_,d,hd,hc⟩) | ⟨q,_⟩
   ·exact bx.1.elim (fun p=>nomatch p.symm.trans q) fun p=>nomatch p.symm.trans q
   ·exact ⟨d,(c.forth so k).trans hd,hc⟩
   ·exact bx.1.elim (fun p=>nomatch p.symm.trans q) fun p=>nomatch p.symm.trans q
  | globalImplicit =>
   obtain ⟨gd,w,hw,mg,hg,hm⟩:=g y a e;exact ⟨gd,w,hw.mono b,.inr ⟨by refine rwC (vy ..) ?_;refine rwC (k ..) ?_;rfl,mg,hg,hm⟩⟩
  | _=>exact nS e
end
noncomputable def consO (r:Option AV) (l:List AV):List AV:=match r with
 | some v=>v::l
 | none=>l
noncomputable def ay (tP:AV→Tbl→(Option AV→Tbl→Prop)→Prop):List AV→Tbl→(List AV→Tbl→Prop)→Prop
 | [],T,Q=>Q [] T
 | x::xs,T,Q=>tP x T fun r T=>ay tP xs T fun l T=>Q (consO r l) T
structure Mv (Z:List Addr) (s s':Shared):Prop where
 same:s'={ s with heap:=s'.heap,toks:=s'.toks }
 kp:Kp Z s.heap s'.heap
section
variable {W:Wd}{F:Fr W}{ν:AV→Rho}{ρ₀:Rho}{T:Tbl}{s s₀ s₁ s₂:Shared}{g:Heap}{x:Str}{C D I:Addr}{Y Z:List Addr}
theorem Mv.refl:Mv Z s s:=⟨rfl,fun _ _ _ e=>e⟩
theorem Mv.trans (a:Mv Y s s₁) (b:Mv Z s₁ s₂) (h:∀z∈Z,z∈Y):Mv Y s s₂:=⟨by have q:=b.same;replace q:=(a.same ..)▸q;exact q,fun c o m e=>b.kp c o (fun q=>m (h c q)) (a.kp c o m e)⟩
theorem Af.mv (a:Af W s s₁):Mv W.X0 s s₁:=⟨a.same,a.kp⟩
noncomputable def qM (F:Fr W) (ρ:Rho) (ifs:List Expr) (elt:Expr) (T:Tbl) (R:Option AV→Tbl→Prop):Prop:=∀s,Cx F ρ T s →
 Av (model W.prog W.w) F.A (forIn ifs true fun c r=>if r=true then do let ok ← isTrue c F.env (eval c F.env);pure (ForInStep.yield ok) else pure (ForInStep.yield r))
  (fun ok s₁=>∃T₁,Cx F ρ T₁ s₁∧Af W s s₁∧if ok=true then EvE F ρ elt T₁ fun u T=>R (some u) T else R none T₁) NoE s
theorem turn_elt {ρ:Rho}{elt:Expr}{R:Option AV→Tbl→Prop} (h:EvE F ρ elt T fun u T=>R (some u) T):qM F ρ [] elt T R:=fun s cx=>by
 refine rwC (Ck ..) ?_;exact Ag ⟨T,cx,.refl s,(if_pos rfl).mpr h⟩
theorem sx {ρ:Rho}{elt c:Expr}{R:Option AV→Tbl→Prop} (h:EvT F ρ c T fun b T=>aa b (EvE F ρ elt T fun u T=>R (some u) T) (R none T)):qM F ρ [c] elt T R:=fun s cx=>by
 refine rwC (CB ..) ?_;refine Ac ?_;refine bO rfl ?_;refine Ac (h.then cx fun b s₁ d T₁ e cx₁ af q=>Ag ?_);have e:b=d:=e;subst e;dsimp only;refine rwC (Ck ..) ?_;exact Ag ⟨T₁,cx₁,af,vq q⟩
noncomputable def Acc (W:Wd) (F:Fr W) (D:Addr) (done:List AV) (h:Heap):Prop:=∃vs n,h.get? D=some (cr "list" vs n)∧Vs W (vw F.X h) done vs.toList
theorem Acc.mv {done:List AV}{h h':Heap} (a:Acc W F D done h) (k:Kp Z h h') (n:D∉Z) (hz:∀z∈Z,z∈F.X):Acc W F D done h' :=
 by obtain ⟨vs,m,e,v⟩:=a;exact ⟨vs,m,k _ _ n e,v.mono (k.vw hz fun _ h=>.inl h)⟩
inductive CJ (F:Fr W) (ρ₀:Rho) (C D I:Addr) (s₀:Shared) (S:Nat→Heap→Prop) (i:Nat) (done:List AV) (T:Tbl) (s:Shared):Prop
 | mk:Cx F ρ₀ T s→Acc W F D done s.heap→S i s.heap→Mv (C::D::I::W.X0) s₀ s→done.length≤i→CJ F ρ₀ C D I s₀ S i done T s
structure CPl (F:Fr W) (C D I:Addr) (fp:List Addr):Prop where
 c:F.env.locals=C
 i:I∈F.X∧I∉W.X0∧I≠C∧∀y c,F.env.cells.lookup y=some c→c≠I
 d:D∈F.X∧D∉W.X0∧D≠C∧∀y c,F.env.cells.lookup y=some c→c≠D
 di:D≠I
 fp:∀b∈fp,b≠D∧b≠C∧b∉W.X0
theorem vr {elt iter:Expr}{px pos:Pos}{csc:Scope}{ifs:List Expr}{items:List AV}{fp:List Addr}{P:Nat→Value→Prop}{S:Nat→Heap→Prop}{tP:AV→Tbl→(Option AV→Tbl→Prop)→Prop}{Q:List AV→Tbl→Prop}{R:Result→Shared→Prop}
  (it:Iter W F.A I g items fp P S s₀.heap) (ug:Up g (vw F.X s₀.heap)) (pl:CPl F C D I fp) (hx:bz F.env x) (hl:F.env.kindOf x=some .local) (hcap:items.length≤cap)
  (hν:∀v y a,ν v y=some a→(y=x∧a=v)∨(y≠x∧ρ₀ y=some a)) (hν₀:∀v y a,ρ₀ y=some a→y≠x∧ν v y=some a) (tk:∀v T R,tP v T R→qM F (ν v) ifs elt T R)
  (hR:∀s s' l T,Cx F ρ₀ T s→Acc W F D l s.heap→Mv (C::D::I::W.X0) s₀ s→Mv [I] s s'→l.length≤items.length→Q l T→R (.ok .next) s') (cx:Cx F ρ₀ T s₀) (acc:Acc W F D [] s₀.heap) (h:ay tP items T Q) :
  codeAny (model W.prog W.w) F.A (.compLoop (.ListComp elt [⟨.Name x px,iter,ifs,0⟩] csc pos) 0 (.ref I) (.ref D) F.env) R s₀:=by
 refine codeAny_compLoop_tests (fun k s=>∃i done T,k=items.length - i∧i≤items.length∧CJ F ρ₀ C D I s₀ S i done T s∧ay tP (items.drop i) T fun l T=>Q (done++l) T) ?_ _ ⟨0,[],T,rfl,Bj _,⟨cx,acc,it.st,.refl,Bh _⟩,h⟩;rintro k s ⟨i,done,T,rfl,hi,⟨cx,acc,hS,mv,hd⟩,h⟩;have one:∀{a b:Addr},b∈[a]→b=a:=Ae.mp;have cIn:C∈F.X:=pl.c▸F.locX;have c0:C∉W.X0:=pl.c▸F.loc0;have all:∀z∈C::D::I::W.X0,z∈F.X:=fun z m=>(Ai.mp m).elim (fun e=>e▸cIn) fun m=>(Ai.mp m).elim (fun e=>e▸pl.d.1) fun m=>(Ai.mp m).elim (fun e=>e▸pl.i.1) fun m=>(F.x0 z m).1
 by_cases hlt:i<items.length
 ·refine it.walks.item i s _ _ hlt hS fun u h₁ tk₁ hP hS₁ hk₁=>?_;refine eE1 (it.item i u hlt hP) fun av zt1=>aA2 zt1 fun hav hV=>?_;have mv₁:Mv [I] s { s with heap:=h₁,toks:=tk₁ }:=⟨rfl,hk₁⟩;have cx₁:Cx F ρ₀ T { s with heap:=h₁,toks:=tk₁ }:=cx.at mv₁.kp (fun z m=>one m▸⟨pl.i.1,pl.i.2.1,it.live _ _ hS₁⟩) (fun m=>pl.i.2.2.1 ((one m).symm.trans pl.c)) fun y c e m=>pl.i.2.2.2 y c e (one m);have mv₁':=mv.trans mv₁ fun z m=>by refine rwC (one m ..) ?_;exact .tail _ (.tail _ (.head _))
  have acc₁:Acc W F D done h₁:=acc.mv mv₁.kp (fun m=>pl.di (one m)) fun z m=>one m▸pl.i.1;refine wpAny_assign_Name (cx₁.store (ρ':=ν av) hx (fun y a e=>(hν av y a e).imp (fun (q:y=x∧a=av)=>⟨q.1,by refine rwC (q.2 ..) ?_;exact hV.mono fun b o e=>mv₁'.kp.vw all (fun _ h=>.inl h) b o (ug b o e)⟩) id) fun h₂ tk₂ z kz hz cx₂ _ _=>?_);have hz:z=C:=hz.elim (fun e=>e.2.trans pl.c) fun e=>nomatch e.1.symm.trans hl;subst hz;have mv₂:=mv₁'.trans (s₂:={ s with heap:=h₂,toks:=tk₂ }) ⟨rfl,kz⟩ fun b m=>by refine rwC (one m ..) ?_;exact .head _
  have acc₂:Acc W F D done h₂:=acc₁.mv kz (fun m=>pl.d.2.2.1 (one m)) fun b m=>one m▸cIn;have hS₂:S (i+1) h₂:=it.walks.frame _ _ _ hS₁ fun b hb o e=>kz b o (fun m=>(pl.fp b hb).2.1 (one m)) e;obtain ⟨h1,h2⟩:=AW.mp hav;replace h:=(List.drop_eq_getElem_cons h1 ..)▸h;replace h:=(h2 ..)▸h;refine AC (tk av T _ h _ cx₂) (fun ok s₃ ⟨T₃,cx₃,af₃,q⟩=>?_) fun _ _ e=>e.elim;have back:∀{T':Tbl}{s':Shared},Cx F (ν av) T' s'→Cx F ρ₀ T' s':=fun cx=>⟨cx.hp,fun y a e=>cx.nm y a (hν₀ av y a e).2,cx.tab⟩;have fpK:∀{h h':Heap},Kp W.X0 h h'→S (i+1) h→S (i+1) h':=fun k hS=>it.walks.frame _ _ _ hS fun b hb o e=>k b o (pl.fp b hb).2.2 e;have x0C:∀z∈W.X0,z∈z::D::I::W.X0:=fun z m=>.tail _ (.tail _ (.tail _ m));have sub0:∀b∈W.X0,b∈z::D::I::W.X0:=fun b m=>.tail _ (.tail _ (.tail _ m));have x0X:∀b∈W.X0,b∈F.X:=fun b m=>(F.x0 b m).1;cases ok with
  | false =>
   have q:=(if_neg AF).mp q;refine rwC (if_neg AF ..) ?_;exact ⟨_,by omega,i+1,done,T₃,rfl,hlt,⟨back cx₃,acc₂.mv af₃.kp pl.d.2.1 x0X,fpK af₃.kp hS₂,mv₂.trans af₃.mv sub0,Nat.le_succ_of_le hd⟩,q⟩
  | true =>
   have q:=(if_pos rfl).mp q;refine rwC (if_pos rfl ..) ?_;refine AC (q s₃ cx₃) (fun w s₄ g=>?_) fun _ _ e=>e.elim;obtain @⟨a,T₄,hw,cx₄,af₄,q⟩:=g;have af:=af₃.trans af₄;refine eE2 (acc₂.mv af.kp pl.d.2.1 x0X) fun vs n zt2=>aA2 zt2 fun e hv=>?_;refine append_at (hsz:=qA (by refine rwC (hv.size ..) ?_;omega)) e fun h₅ sb hD=>?_;have k₅:Kp [D] s₄.heap h₅:=.but sb;have uv:Up (vw F.X s₄.heap) (vw F.X h₅):=k₅.vw (fun z m=>one m▸pl.d.1) fun _ h=>.inl h;refine ⟨_,by omega,i+1,done++[a],T₄,rfl,hlt,⟨(back cx₄).at (s':={ s₄ with heap:=h₅ }) k₅ (fun z m=>one m▸⟨pl.d.1,pl.d.2.1,_,hD⟩) (fun m=>pl.d.2.2.1 ((one m).symm.trans pl.c)) (fun y c e m=>pl.d.2.2.2 y c e (one m)),
    ⟨_,_,hD,?_⟩,it.walks.frame _ _ _ (fpK af.kp hS₂) fun b hb o e=>k₅ b o (fun m=>(pl.fp b hb).1 (one m)) e,(mv₂.trans af.mv sub0).trans (s₂:={ s₄ with heap:=h₅ }) ⟨rfl,k₅⟩ fun z m=>by refine rwC (one m ..) ?_;exact .tail _ (.head _),by refine rwC (Ar ..) ?_;exact Nat.succ_le_succ hd⟩,?_⟩
   ·refine rwC (Ca ..) ?_;exact (hv.mono uv).append ⟨w,[],rfl,hw.mono uv,by exact rfl⟩
   ·have e:(fun l T=>Q (done++[a]++l) T)=fun l T=>Q (done++consO (some a) l) T:=by funext l T;refine rwC (AQ ..) ?_;rfl
    refine rwC (e ..) ?_;exact q
 ·have hie:i=items.length:=by omega
  subst hie;replace h:=(Cq ..)▸h;refine it.walks.done s _ _ hS fun h₁ tk₁ hk₁=>?_;have h:Q (done++[]) T:=h;replace h:=(AG ..)▸h;exact hR s _ done T cx acc mv ⟨rfl,hk₁⟩ hd h
end
section
variable {W:Wd}{F:Fr W}{ρ G:Rho}{T:Tbl}{s:Shared}{sc csc:Scope}{x:Str}
structure CompRes (F:Fr W) (ρ:Rho) (T:Tbl) (l:List AV) (s:Shared) (D C:Addr) (s':Shared):Prop where
 cx:Cx (F.plus [C,D]) ρ T s'
 acc:∃vs n,s'.heap.get? D=some (cr "list" vs n)∧Vs W (vw ([C,D]++F.X) s'.heap) l vs.toList
 le:l.length≤cap
 ne:D≠C
 af:Af W s s'
 newD:s.heap.get? D=none
 newC:s.heap.get? C=none
 ns:∃m,s'.heap.Ns C m
theorem fq {h:Heap}{a:Addr} (ha:h.objs.size≤a):h.get? a=none:=by
 cases e:h.get? a with
 | none=>rfl
 | some o=>exact absurd (Heap.lt_size e) (Nat.not_lt.mpr ha)
theorem lt_nat {h:Heap}{b:Addr}{o:Obj} (e:h.get? b=some o):@LT.lt Nat _ b h.objs.size:=Heap.lt_size e
theorem Af.gone {s':Shared} (a:Af W s s') (cx:Cx F ρ T s') {b:Addr} (e:s'.heap.get? b=none):s.heap.get? b=none:=by
 cases q:s.heap.get? b with
 | none=>rfl
 | some o =>
  by_cases m:b∈W.X0
  ·refine eE1 (cx.tab.alive m) fun o h=>?_;rw [h] at e;exact Sn e
  ·rw [a.kp b o m q] at e;exact Sn e
noncomputable abbrev vQ:=AV→Tbl→(Option AV→Tbl→Prop)→Prop
noncomputable def eF (F:Fr W) (ρ G:Rho) (csc:Scope) (x:Str) (ifs:List Expr) (elt:Expr) (tP:vQ):Prop :=
 ∀F':Fr W,F'.n=F.n→ScOk csc F'.env→∀v T R,tP v T R→qM F' (gW csc G ρ x v) ifs elt T R
theorem lQ {elt iter:Expr}{px pos p':Pos}{ifs:List Expr}{tP:vQ}{use:Option (Value→Sem Unit)}{Q:Value→Shared→Prop}{R:List AV→Tbl→Prop}
  (c:CompOk sc csc x) (so:ScOk sc F.env) (gk:GOk W G) (cx:Cx F ρ T s) (hit:EvE F ρ iter T fun it T₁=>aq it fun items=>ai (BY items.length cap) (ay tP items T₁ R))
  (tk:eF F ρ G csc x ifs elt tP) (hs:∀x,foldedSetIterable iter F.env x=pure x)
  (hQ:∀D C s' l T',CompRes F ρ T' l s D C s'→R l T'→compPost (model W.prog W.w) F.A NoE use Q (.ref D) C (.ok .next) s') :
  Av (model W.prog W.w) F.A (comprehension (.ListComp elt [⟨.Name x px,iter,ifs,0⟩] csc pos) csc F.env p' (newList []) false (eval iter F.env) use) Q NoE s:=by
 refine wpAny_comprehension_free (use:=use) rfl hs (rQ (c.cells so)) c.kind c.locals ?_;refine hit.then cx fun xv s₁ it T₁ hv cx₁ af₁ h=>uw hv h fun items ob fp P S h I=>?_;refine aA2 (ac h) fun hcap h=>?_;refine wpAny_newObj_type (wpAny_newFunctionEnv (fun p m e=>c.noCell p m e) (fun y hy=>nomatch hy) (fun h₁ hns₁ hsb₁=>?_) c.kind);dsimp only at hns₁ hsb₁ ⊢;generalize hH1:s₁.heap.push ob=H1 at I hns₁ hsb₁ ⊢;generalize hH2:H1.push { cls:=.type "list",dict:=none,data:=.seq ([]:List Value).toArray }=H2 at hns₁ hsb₁ ⊢;have h1sz:H1.objs.size=s₁.heap.objs.size+1:=by rw [← hH1,Heap.size_push]
 have h2sz:H2.objs.size=s₁.heap.objs.size+2:=by rw [← hH2,Heap.size_push,h1sz]
 have old₁:Up s₁.heap H1:=fun b o e=>hH1▸Heap.get?_push_of_some _ e;have old₂:Up H1 h₁:=fun b o e=>hsb₁.extBut b o (fun q=>by
  have:=lt_nat e;have q':@Eq Nat b H2.objs.size:=q;lia) (Heap.get?_push_of_some _ (hH2▸Heap.get?_push_of_some _ e))
 have old:Up s₁.heap h₁:=fun b o e=>old₂ b o (old₁ b o e);have hDat:h₁.get? H1.objs.size=some (cr "list" #[] 0) :=
  hsb₁.extBut _ _ (fun q=>by have q':@Eq Nat H1.objs.size H2.objs.size:=q;lia) (Heap.get?_push_of_some _ (hH2▸Heap.get?_push_size _ rfl))
 have fI:s₁.heap.get? s₁.heap.objs.size=none:=aF _;have fD:s₁.heap.get? H1.objs.size=none:=fq (by lia);have fC:s₁.heap.get? H2.objs.size=none:=fq (by lia);have nDI:@Ne Nat H1.objs.size s₁.heap.objs.size:=by lia
 have nDC:@Ne Nat H1.objs.size H2.objs.size:=by lia
 have nIC:@Ne Nat s₁.heap.objs.size H2.objs.size:=by lia
 clear hH1 hH2 hsb₁ h1sz h2sz;generalize s₁.heap.objs.size=aI at *;generalize H1.objs.size=aD at *;generalize H2.objs.size=aC at *;have pick:∀{P:Addr→Prop},P aC→P aD→P aI→∀z∈[aC,aD,aI],P z:=fun {P} p q r z m=>(Ai.mp m).elim (fun e=>e▸p) fun m=>(Ai.mp m).elim (fun e=>e▸q) fun m=>Ae.mp m▸r;have hZ:∀z∈[aC,aD,aI],s₁.heap.get? z=none∧∃o,h₁.get? z=some o:=pick ⟨fC,cS hns₁⟩ ⟨fD,_,hDat⟩ ⟨fI,by obtain ⟨o,e⟩:=I.live _ _ I.st;exact ⟨o,old₂ _ _ e⟩⟩;have nX:∀z∈[aC,aD,aI],z∉F.X:=fun z m=>cx₁.hp.notX (hZ z m).1;have mC:aC∈[aC,aD,aI]:=.head _;have mD:aD∈[aC,aD,aI]:=.tail _ (.head _);have mI:aI∈[aC,aD,aI]:=.tail _ (.tail _ (.head _));have cx₀:Cx (F.plus [aC,aD,aI]) ρ T₁ { s₁ with heap:=h₁,toks:=s₁.toks+([]:List (Str×Value)).length }:=cx₁.plus old hZ;have uv:Up (vw F.X s₁.heap) (vw ([aC,aD,aI]++F.X) h₁):=(show Kp [] s₁.heap h₁ from fun b o _ e=>old b o e).vw (fun _ h=>nomatch h) fun b m=>(Ao.mp m).elim (fun m=>.inr (hZ b m).1) .inl;have base:Up W.h₀ (vw ([aC,aD,aI]++F.X) h₁):=fun b o e=>aJ (cx₀.hp.base b o e) fun m=>by rw [(cx₀.hp.xs b m).1] at e;exact nS e
 have cellNe:∀y a,F.env.cells.lookup y=some a→a∉[aC,aD,aI]:=fun y a e m=>nX a m (F.cellX y a e).1
 let F':Fr W:=F.comp so c aC [aC,aD,aI] mC (nX _ mC)
 have cx':Cx F' (fun y=>cond (seq x y) none (gW csc G ρ x .none y)) T₁ { s₁ with heap:=h₁,toks:=s₁.toks+([]:List (Str×Value)).length }:=by
  refine ⟨cx₀.hp.to (F':=F') (Z:=[]) (fun _ _ _ e=>e) (fun _ h=>nomatch h) (fun a m=>cx₀.hp.xs a m) ⟨_,hns₁⟩ (fun y a e=>cx₀.hp.cell y a (c.back so e)),fun y a e=>?_,cx₀.tab⟩;cases q:seq x y with
  | true=>rw [q] at e;exact nS e
  | false =>
   rw [q] at e;exact compNm gk base cx₀.nm (fun p=>cQ q p.symm) e
 have off:∀{a b:Addr}{Z:List Addr},a∈Z→b∉Z→b≠a:=fun m n e=>n (e▸m);have pl:CPl F' aC aD aI fp:=⟨rfl,⟨Ap _ mI,fun m=>nX _ mI (F.x0 _ m).1,nIC,fun y a e q=>cellNe y a (c.back so e) (q▸mI)⟩,
  ⟨Ap _ mD,fun m=>nX _ mD (F.x0 _ m).1,nDC,fun y a e q=>cellNe y a (c.back so e) (q▸mD)⟩,nDI,fun b hb=>?_⟩
 rotate_left
 ·rcases I.fp b hb with q | ⟨o,e⟩
  ·subst q;exact ⟨Ne.symm nDI,nIC,fun m=>nX _ mI (F.x0 _ m).1⟩
  ·have al:=(bm e).1;exact ⟨fun q=>(by rw [q,fD] at al;exact nS al),fun q=>(by rw [q,fC] at al;exact nS al),fun m=>(bm e).2 (F.x0 b m).1⟩
 have I':Iter W F'.A aI (vw F.X s₁.heap) items fp P S h₁:=⟨I.walks,I.fp,I.walks.frame _ _ _ I.st fun b _ o e=>old₂ b o e,I.live,I.item⟩;have loop:codeAny (model W.prog W.w) F'.A (.compLoop (.ListComp elt [⟨.Name x px,iter,ifs,0⟩] csc pos) 0 (.ref aI) (.ref aD) F'.env) (compPost (model W.prog W.w) F.A NoE use Q (.ref aD) aC) { s₁ with heap:=h₁,toks:=s₁.toks+([]:List (Str×Value)).length }:=by
  refine vr (F:=F') (ν:=gW csc G ρ x) I' uv pl ky (ky.2.resolve_right fun q=>?_) (AU hcap) (fun v y a e=>?_) (fun v y a e=>?_) (fun v T R q=>tk F' rfl compSc v T R q) (fun sE s' l T' cE aE mE mI' hl q=>?_) cx' ⟨#[],0,hDat,by exact rfl⟩ h
  ·exact nomatch (show F'.env.kindOf x=some .local from lookup_relabel_local c.isx).symm.trans q.1
  ·cases q:seq x y with
   | true=>unfold gW at e;rw [q] at e;obtain rfl:=As e;exact .inl ⟨(aM q).symm,rfl⟩
   | false=>exact .inr ⟨fun p=>cQ q p.symm,by show gW csc G ρ x .none y=some a;unfold gW at e ⊢;rw [q] at e ⊢;exact e⟩
  ·cases q:seq x y with
   | true=>rw [q] at e;exact nS e
   | false=>exact ⟨fun p=>cQ q p.symm,by rw [q] at e;unfold gW at e ⊢;rw [q] at e ⊢;exact e⟩
  ·refine eE2 (aE) fun vs m zt1=>aA2 zt1 fun e1 e2=>?_;have mv:=mE.trans mI' fun z m=>by rw [Ae.mp m];exact .tail _ (.tail _ (.head _))
   have i0:On W.X0 sE.heap s'.heap:=fun a m o e=>mI'.kp a o (fun q=>nX _ mI (Ae.mp q▸(F.x0 a m).1)) e;have all:∀z∈aC::aD::aI::W.X0,z∈(F.plus [aC,aD,aI]).X:=fun z m=>(Ai.mp m).elim (fun e=>(by rw [e];exact Ap _ mC)) fun m=>(Ai.mp m).elim (fun e=>(by rw [e];exact Ap _ mD)) fun m=>(Ai.mp m).elim (fun e=>(by rw [e];exact Ap _ mI)) fun m=>((F.plus [aC,aD,aI]).x0 z m).1;have two:∀a∈[aC,aD],a∈[aC,aD,aI]:=fun a m=>(Ai.mp m).elim (fun e=>(by rw [e];exact mC)) fun m=>(by rw [Ae.mp m];exact mD);have sub:∀a∈[aC,aD]++F.X,a∈[aC,aD,aI]++F.X:=fun a m=>(Ao.mp m).elim (fun m=>Ap _ (two a m)) (Ak _);have uE:Up (vw ([aC,aD,aI]++F.X) sE.heap) (vw ([aC,aD]++F.X) s'.heap):=mI'.kp.vw (fun b m=>Ap _ (Ae.mp m▸mI)) fun b m=>.inl (sub b m);refine eE1 (cE.hp.ns) fun mm hm=>?_;have ns:s'.heap.Ns aC mm:=hm.at' fun o e=>mI'.kp _ o (fun m=>nIC (Ae.mp m).symm) e;have eD:=mI'.kp _ _ (fun m=>nDI (Ae.mp m)) e1;have tab:Tab W T' ([aC,aD]++F.X) s'.heap:=cE.tab.to i0 uE;have cF:Cx (F.plus [aC,aD]) ρ T' s':=cx₀.go (F':=F.plus [aC,aD]) rfl sub mv.kp (fun z m=>⟨all z m,fun q=>?_⟩) (fun m=>?_) (fun y a e m=>?_) tab
   ·refine hQ aD aC s' l T' ⟨cF,⟨vs,m,eD,e2.mono uE⟩,Bp hl (AU hcap),nDC,af₁.trans ⟨mv.same,fun b o n e=>mv.kp b o (fun m=>?_) (old b o e)⟩,af₁.gone cx₁ fD,af₁.gone cx₁ fC,_,ns⟩ q;refine (Ai.mp m).elim (fun q=>by rw [q,fC] at e;exact nS e) fun m=>(Ai.mp m).elim (fun q=>by rw [q,fD] at e;exact nS e) fun m=>(Ai.mp m).elim (fun q=>by rw [q,fI] at e;exact nS e) n
   ·rcases Ao.mp q with q | q
    ·exact (Ai.mp q).elim (fun e=>by rw [e];exact cS ns) fun q=>by rw [Ae.mp q];exact ⟨_,eD⟩
    ·exact (Ai.mp m).elim (fun e=>absurd (e▸q) (nX _ mC)) fun m=>(Ai.mp m).elim (fun e=>absurd (e▸q) (nX _ mD)) fun m=>(Ai.mp m).elim (fun e=>absurd (e▸q) (nX _ mI)) tab.alive
   ·exact (Ai.mp m).elim (fun e=>nX _ mC (e▸F.locX)) fun m=>(Ai.mp m).elim (fun e=>nX _ mD (e▸F.locX)) fun m=>(Ai.mp m).elim (fun e=>nX _ mI (e▸F.locX)) F.loc0
   ·exact (Ai.mp m).elim (fun q=>cellNe y a e (q▸mC)) fun m=>(Ai.mp m).elim (fun q=>cellNe y a e (q▸mD)) fun m=>(Ai.mp m).elim (fun q=>cellNe y a e (q▸mI)) (F.cellX y a e).2.1
 exact codeAny_compStart_list loop (I'.walks.self 0 _ _ _ I'.st loop)
theorem CompRes.plain {T':Tbl}{l:List AV}{D C:Addr}{s':Shared} (r:CompRes F ρ T' l s D C s') (cx:Cx F ρ T s):Cx (F.plus [C]) ρ T' s'∧V W (vw (C::F.X) s'.heap) (.list l) (.ref D):=by
 have nX:∀{z},s.heap.get? z=none→z∉F.X:=cx.hp.notX;have sub:∀b∈[C]++F.X,b∈[C,D]++F.X:=fun b m=>(Ao.mp m).elim (fun m=>Ap _ (Ae.mp m▸.head _)) (Ak _);have u:Up (vw ([C,D]++F.X) s'.heap) (vw ([C]++F.X) s'.heap):=fun b o e=>aJ (bm e).1 fun m=>(bm e).2 (sub b m);refine eE2 (r.acc) fun vs m zt2=>aA2 zt2 fun e hv=>?_;exact ⟨r.cx.swap (F':=F.plus [C]) (Z:=[]) rfl sub (fun _ _ _ e=>e) (fun _ h=>nomatch h) (fun h=>nomatch h) (fun _ _ _ h=>nomatch h),by exact ⟨⟨_,vs,m,rfl,aJ e fun m=>(Ai.mp m).elim r.ne (nX r.newD),hv.mono u⟩,r.le⟩⟩
theorem ve {elt iter:Expr}{px pos:Pos}{ifs:List Expr}{tP:vQ}{Q:K} (c:CompOk sc csc x) (so:ScOk sc F.env) (gk:GOk W G)
  (hit:EvE F ρ iter T fun it T₁=>aq it fun items=>ai (BY items.length cap) (ay tP items T₁ fun l T=>Q (.list l) T)) (tk:eF F ρ G csc x ifs elt tP) (hs:∀x,foldedSetIterable iter F.env x=pure x) :
  EvE F ρ (.ListComp elt [⟨.Name x px,iter,ifs,0⟩] csc pos) T Q:=fun s cx=>by
 rw [eval_ListComp];refine lQ (use:=none) c so gk cx hit tk hs fun D C s' l T' r q=>?_;refine eE1 (r.ns) fun m hm=>?_;refine ⟨m,hm,fun h' sb=>?_⟩;have k:Kp [C] s'.heap h':=.but sb;have nC:∀z∈[C],z∉F.X:=fun z m=>Ae.mp m▸cx.hp.notX r.newC;have p:=r.plain cx;exact ⟨p.2.mono (k.vw (fun z m=>Ae.mp m▸.head _) fun b m=>.inl (.tail _ m)),p.1.minus k nC,⟨by rw [r.af.same],fun b o n e=>k b o (fun m=>by rw [Ae.mp m,r.newC] at e;exact nS e) (r.af.kp b o n e)⟩,q⟩
end
theorem oi {K:Type} [DecidableEq K] (ps:List (K×Value)) (k:K) (v:Value) (h:(ps.map (·.1)).Nodup):((PySem.stored ps k v).map (·.1)).Nodup:=by
 delta PySem.stored
 split
 ·have:(ps.map fun kv=>if kv.1=k then (kv.1,v) else kv).map (·.1)=ps.map (·.1):=by
   refine rwC (Cr ..) ?_;refine Cy fun x _=>?_;refine (?_:(if x.1=k then (x.1,v) else x).1=x.1)
   split <;> rfl
  refine rwC (this ..) ?_;exact h
 ·rename_i hn;rw [AI,BI];refine ⟨h,by simp,fun a ha b hb q=>hn ?_⟩;refine bc fun zz=>?_;obtain ⟨x,hx,zr1⟩:=AD.mp ha;refine zz ?_;subst zr1;simp only [AR,List.map_nil,Ae] at hb;refine BO.mpr ⟨x,hx,?_⟩;refine rwC (decide_eq_true_eq ..) ?_;refine rwC (q ..) ?_;refine rwC (hb ..) ?_;exact rfl
noncomputable def cZ {κ:Type} [DecidableEq κ] (k:κ) (v:Int):List (κ×Int)→List (κ×Int)
 | []=>[(k,v)]
 | p::r=>if p.1=k then (p.1,v)::r else p::cZ k v r
theorem kZ {κ:Type} [DecidableEq κ] (k:κ) (v:Int):∀l:List (κ×Int),(cZ k v l).length≤l.length+1
 | []=>Bh _
 | p::l=>by
  unfold cZ
  split
  ·exact Cf _
  ·exact Nat.succ_le_succ (kZ k v l)
theorem uA {v:Value}{vs:List Value}{n:Int}{ns:List Int} (h:IntsAre (v::vs) (n::ns)):(∃t,v=.int n t)∧IntsAre vs ns:=by cases h with | cons _ t r=>exact ⟨⟨t,rfl⟩,r⟩
theorem PairsI.stored {κ:Type} [DecidableEq κ] {k:κ}{v:Int}{t:Tok}:∀{ps:List (κ×Value)}{l:List (κ×Int)},PairsI ps l→(ps.map (·.1)).Nodup→PairsI (PySem.stored ps k (.int v t)) (cZ k v l)
 | [],[],_,_=>⟨rfl,.cons v t .nil⟩
 | [],_::_,h,_=>nomatch h.1
 | _::_,[],h,_=>nomatch h.1
 | p::ps,q::l,h,nd=>by
  refine bc fun zz=>?_;refine aA2 (List.cons.inj h.1) fun h1 h2=>?_;refine zz ?_;have h1:p.1=q.1:=h1;refine bc fun zz=>?_;refine aA2 (uA (show IntsAre (p.2::ps.map (·.2)) (q.2::l.map (·.2)) from h.2)) fun zk1 h4=>?_;obtain ⟨u,h3⟩:=zk1;refine aA2 (Bb.mp nd) fun nd1 nd2=>?_;refine zz ?_;have ih:=PairsI.stored (k:=k) (v:=v) (t:=t) (ps:=ps) (l:=l) ⟨h2,h4⟩ nd2;unfold cZ;unfold PySem.stored at *
  by_cases e:q.1=k
  ·have hn:k∉ps.map (·.1):=(h1.trans e)▸nd1;refine rwC (if_pos e ..) ?_;simp only [List.any_cons,h1,e,decide_true,Bool.true_or,if_true,AR];refine rwC (map_store_of_not_mem _ _ _ hn ..) ?_;exact ⟨congrArg (k::·) h2,.cons v t h4⟩
  ·refine rwC (if_neg e ..) ?_;simp only [List.any_cons,h1,e,decide_false,Bool.false_or,if_false,AR] at ih ⊢;have hd:∀{r:List (κ×Value)},PairsI r (cZ k v l)→PairsI (p::r) (q::cZ k v l):=fun {r} x=>⟨by refine rwC (AR ..) ?_;refine rwC (AR ..) ?_;refine rwC (x.1 ..) ?_;exact congrArg (·::_) h1,by refine rwC (AR ..) ?_;refine rwC (AR ..) ?_;show IntsAre (p.2::_) _;refine rwC (h3 ..) ?_;exact .cons _ _ x.2⟩
   split at ih
   ·rename_i hh;refine rwC (if_pos hh ..) ?_;exact hd ih
   ·rename_i hh;refine rwC (if_neg hh ..) ?_;exact hd ih
section
variable {W:Wd}{F:Fr W}{ρ:Rho}{T:Tbl}{s:Shared}{Q:K}{A:Around}
theorem mf {prog:Program}{w:World}{E:Value→Shared→Prop}{b:Bool}{elts:List (Bool×Sem Value)}{ts:List (Sem Value)}{Q:Value→Shared→Prop} (hs:elts.findIdx? (·.1)=none) (hlen:elts.length≤30) (hm:elts.map (·.2)=ts)
  (h:∀o,SetAtN w.params (s.heap.push o) s.heap.objs.size []→Av (model prog w) A (evalAll ts) (fun vs s'=>KdsFill (model prog w) A E false s.heap.objs.size Q vs s') E { s with heap:=s.heap.push o }) :
  Av (model prog w) A (setDisplay .oneByOne b elts) Q E s:=by
 have hn:(if elts.length>30 then 0 else (elts.findIdx? (·.1)).getD elts.length)=elts.length:=by refine rwC (if_neg (by lia) ..) ?_;refine rwC (hs ..) ?_;rfl
 skip
 try dsimp only
 refine aK (by decide) ?_;refine Ac (fe fun o hN=>?_);dsimp only;refine rwC (hn ..) ?_;refine rwC (Cs ..) ?_;refine rwC (Cq ..) ?_;refine rwC (hm ..) ?_;refine Ac (Bd ?_);refine Ac (AC (h o hN) (fun vs s' h'=>?_) fun _ _ x=>x);refine Ac (Bd ?_);refine Ac (AC (kds_for (fun x P s hx=>?_) vs s' h') (fun _ s1 h1=>?_) fun _ _ x=>x)
 ·refine Ac (AC hx (fun _ s2 h2=>?_) fun _ _ x=>x)
  first | exact Ag ⟨rfl,h2⟩ | exact Ac (Ag (Ag ⟨rfl,h2⟩))
 ·have h2:Q (.ref s.heap.objs.size) s1:=by simpa [KdsFill] using h1
  refine aK (by decide) ?_;refine Ag ?_;refine rwC (Ck ..) ?_;exact Ag (Ag h2)
theorem uS {a:Addr}{Q:Value→Shared→Prop}:∀{vs:List Value}{ns l:List Int}{s:Shared},IntsAre vs ns→(∀k∈ns,0≤k∧k<15)→SetAtN W.w.params s.heap a l →
  (∀h' tk,Heap.SameBut a s.heap h'→SetAtN W.w.params h' a (mrg l ns)→Q (.ref a) { s with heap:=h',toks:=tk })→KdsFill (model W.prog W.w) A NoE false a Q vs s
 | _,_,l,s,.nil,_,hS,h=>kds_fill_nil rfl (h s.heap s.toks (.refl ..) hS)
 | _,_,l,s,.cons n t r,hb,hS,h=>by
  refine kds_fill_cons (mh hS (hb n (.head _)).1 (hb n (.head _)).2 fun h₁ _ sb hS₁=>?_);exact uS r (fun k hk=>hb k (.tail _ hk)) hS₁ fun h₂ tk sb₂ hS₂=>h h₂ tk (sb.trans sb₂) hS₂
theorem main_ok {Q:Bool→Shared→Prop}{E:Value→Shared→Prop} (cx:Cx F ρ T s) (h:∀b,Q b s):Av (model W.prog W.w) F.A (inMainModule F.env) Q E s:=by
 refine bc fun zz=>?_;refine eE3 (F.code) fun c o vs zt2=>aA3 zt2 fun e ho hd=>?_;refine zz ?_;unfold inMainModule
 try dsimp only
 refine rwC (e ..) ?_
 split
 ·exact Ag (h _)
 ·refine Ac (wpAny_fieldsOf (cx.hp.base _ _ ho) hd ?_)
  split
  ·exact Ac (wpAny_askSetting (Ag (h _)))
  ·exact Ag (h _)
noncomputable def EvK (F:Fr W) (ρ:Rho) (es:List Expr) (T:Tbl) (L:List AV→Tbl→Prop):Prop :=
 ∀s (P:List Value→Shared→Prop),Cx F ρ T s→(∀vs s',Got (Vs W) F ρ s L vs s'→P vs s')→KdsAll (model W.prog W.w) F.A NoE F.env es P s
theorem evk_nil {L:List AV→Tbl→Prop} (h:L [] T):EvK F ρ [] T L:=fun s P cx k=>k _ _ (.here (a:=([]:List AV)) cx (by exact rfl) h)
theorem evk_cons {L:List AV→Tbl→Prop}{e:Expr}{es:List Expr} (h:EvE F ρ e T fun v T₁=>EvK F ρ es T₁ fun l T₂=>L (v::l) T₂):EvK F ρ (e::es) T L:=fun s P cx k =>
 h.then cx fun a s₁ v T₁ hv cx₁ af h=>h s₁ _ cx₁ fun vs s₂ g=>match g with | ⟨hs,cx₂,af₂,q⟩=>k _ _ ⟨by exact ⟨_,_,rfl,hv.mono (cx₁.up af₂),hs⟩,cx₂,af.trans af₂,q⟩
theorem Got.fill {o:Obj}{s₂:Shared}{h':Heap}{tk:Nat}{av:AV}{T₂:Tbl} (cx:Cx F ρ T s) (cx₂:Cx (F.plus [s.heap.objs.size]) ρ T₂ s₂) (af:Af W { s with heap:=s.heap.push o } s₂) (sb:Heap.SameBut s.heap.objs.size s₂.heap h')
  (hV:∀g,(∀o,h'.get? s.heap.objs.size=some o→g.get? s.heap.objs.size=some o)→V W g av (.ref s.heap.objs.size)) (q:Q av T₂):Got (V W) F ρ s Q (.ref s.heap.objs.size) { s₂ with heap:=h',toks:=tk } :=
 have nX:=cx.hp.notX (aF s.heap)
 ⟨hV _ fun o e=>aJ e nX,cx₂.minus (Kp.but sb) fun z m=>Ae.mp m▸nX,⟨by have q:=af.same;refine rwC (q ..) ?_;exact rfl,fun b o' n e=>(sb.2 b (Bk (Heap.lt_size e))).trans (af.kp b o' n (Heap.get?_push_of_some _ e))⟩,q⟩
theorem Cx.pushed {o:Obj} (cx:Cx F ρ T s) (hf:∃o',(s.heap.push o).get? s.heap.objs.size=some o'):Cx (F.plus [s.heap.objs.size]) ρ T { s with heap:=s.heap.push o } :=
 cx.plus (fun _ _ e=>Heap.get?_push_of_some _ e) fun z m=>Ae.mp m▸⟨aF _,hf⟩
theorem Fr.n0 {a:Addr}{h:Heap} (hp:Hp F h) (n:h.get? a=none):a∉W.X0:=fun m=>hp.notX n (F.x0 a m).1
theorem ev_set {es:List Expr}{pos:Pos} (hp:es.all kdsPlain=true) (hlen:es.length≤2) (h:∀a,EvK (F.plus [a]) ρ es T fun l T=>ak (aB l) fun ns=>ai (bh ns) (Q (.set (bp ns)) T)):EvE F ρ (.Set es 0 pos) T Q:=fun s cx=>by
 refine rwC (arm_eval_Set ..) ?_;refine Ac (wpAny_standAt ?_);refine Ac (main_ok cx fun b=>?_);have hroad:displayRoad 0 es=.oneByOne:=by unfold displayRoad;refine rwC (if_neg (by lia) ..) ?_;refine rwC (if_pos hlen ..) ?_;exact rfl
 refine rwC (hroad ..) ?_;refine rwC (kds_star es hp ..) ?_;refine rwC (Cr ..) ?_;refine mf (ts:=(evalEach es F.env).map fun t=>do let v ← t;standAt pos;pure v) ?_ ?_ ?_ fun o hN=>?_
 ·refine Bu.mpr fun x hx=>?_;refine bc fun zz=>?_;obtain ⟨t,_,zr1⟩:=AD.mp hx;refine zz ?_;subst zr1;rfl
 ·refine rwC (Aj ..) ?_;refine rwC (kds_len ..) ?_;lia
 ·refine rwC (Cr ..) ?_;try rfl
 ·have hf:=(let ⟨_,_,_,e,_⟩:=hN;⟨_,e⟩:∃o',(s.heap.push o).get? s.heap.objs.size=some o');refine kds_all pos es _ _ (h _ _ _ (cx.pushed hf) fun vs s₂ g=>?_);refine bc fun zz=>?_;obtain ⟨hvs,cx₂,af,q⟩:=g;obtain ⟨ns,hn,q⟩:=ag q;obtain ⟨hsm,q⟩:=ac q;refine zz ?_;have hb:∀k∈ns,0≤k∧k<15:=fun k hk=>by have:=AA.mp hsm k hk;rw [Ay,decide_eq_true_eq,decide_eq_true_eq] at this;exact this
  exact uS (hvs.ints hn) hb (hN.keep fun o' e=>af.kp _ o' (Fr.n0 cx.hp (aF _)) e) fun h' tk sb hS=>.fill cx cx₂ af sb (fun g k=>(show V W g (.set (bp ns)) _ from ⟨_,rfl,by obtain ⟨es,ep,t,e,i⟩:=hS.at;exact ⟨es,ep,t,k _ e,i⟩⟩)) q
end
noncomputable def vo {κ:Type} [DecidableEq κ] (key:AV→Option κ) (q:List (κ×Int)):List (AV×AV)→Option (List (κ×Int))
 | []=>some q
 | p::r=>(key p.1).bind fun k=>(dM 2 AV.i p.2).bind fun v=>vo key (cZ k v q) r
noncomputable def VP (W:Wd) (g:Heap) (l:List (AV×AV)) (ps:List (Value×Value)):Prop:=Vs W g (l.map (·.1)) (ps.map (·.1))∧Vs W g (l.map (·.2)) (ps.map (·.2))
section
variable {W:Wd}{F:Fr W}{ρ:Rho}{T:Tbl}{s:Shared}{Q:K}{g:Heap}{κ:Type} [DecidableEq κ] {knd:KeyKind W.prog W.w κ}{key:AV→Option κ}
theorem vC (hk:∀a x k,V W g a x→key a=some k→knd.is k x=true):∀{l:List (AV×AV)}{ps:List (Value×Value)}{acc:List (κ×Value)}{q d:List (κ×Int)},VP W g l ps→PairsI acc q→(acc.map (·.1)).Nodup→vo key q l=some d →
  ∃kvs,Carries knd ps kvs∧PairsI (merged acc kvs) d∧d.length≤q.length+l.length
 | [],[],acc,q,d,h,hI,nd,e=>by obtain rfl:=As e;exact ⟨[],trivial,hI,Bh _⟩
 | [],_::_,acc,q,d,h,hI,nd,e=>nomatch h.1
 | _::_,[],acc,q,d,h,hI,nd,e=>by obtain ⟨_,_,q,_⟩:=h.1;cases q
 | a::l,x::ps,acc,q,d,h,hI,nd,e=>by
  refine bc fun zz=>?_;obtain ⟨h1,h2⟩:=h;obtain ⟨v1,r1,e1,w1,h1⟩:=h1;obtain ⟨v2,r2,e2,w2,h2⟩:=h2;refine zz ?_;obtain ⟨rfl,rfl⟩:=List.cons.inj e1;cases e2;refine bc fun zz=>?_;obtain ⟨k,k1,e⟩:=bind_some e;obtain ⟨v,k2,e⟩:=bind_some e;obtain ⟨k3,zr1⟩:=cD k2;refine zz ?_;subst zr1;refine bc fun zz=>?_;obtain ⟨t,ht⟩:=w2.int k3;refine zz ?_;have ht:x.2=.int a.2.i t:=ht;refine bc fun zz=>?_;obtain ⟨kvs,c1,c2,c3⟩:=vC hk ⟨h1,h2⟩ (hI.stored (k:=k) (v:=a.2.i) (t:=t) nd) (oi acc k _ nd) e;refine zz ?_;have:=kZ k a.2.i q;refine ⟨(k,x.2)::kvs,⟨hk _ _ _ w1 k1,rfl,c1⟩,?_,by refine rwC (AK ..) ?_;lia⟩;refine rwC (ht ..) ?_;exact c2
noncomputable abbrev EvP (F:Fr W) (ρ:Rho) (pos:Pos) (ks:List (Option Expr)) (vs:List Expr):=Ev F ρ (VP W) (evalPairs (pairTrees ks vs F.env pos))
theorem evp_nil {pos:Pos}{vs:List Expr}{L:List (AV×AV)→Tbl→Prop} (h:L [] T):EvP F ρ pos [] vs T L:=fun s cx=>by
 have e:pairTrees [] vs F.env pos=pairTrees [] [] F.env pos:=by cases vs <;> rfl
 refine rwC (e ..) ?_;exact pairTrees_nil_walk (.here (a:=([]:List (AV×AV))) cx ⟨by exact rfl,by exact rfl⟩ h)
theorem evp_cons {pos:Pos}{k v:Expr}{ks:List (Option Expr)}{vs:List Expr}{L:List (AV×AV)→Tbl→Prop} (h:EvE F ρ k T fun a T₁=>EvE F ρ v T₁ fun b T₂=>EvP F ρ pos ks vs T₂ fun l T₃=>L ((a,b)::l) T₃):EvP F ρ pos (some k::ks) (v::vs) T L:=fun s cx =>
 pairTrees_cons_walk (fy (G:=fun a b T₂=>EvP F ρ pos ks vs T₂ fun l T₃=>L ((a,b)::l) T₃) (Rel:=VP W) (Q:=L) h cx fun a b x y s₂ T₂ hx hy cx₂ af q=>q.then cx₂ fun ps s₃ l T₃ hp cx₃ af₃ q =>
  ⟨(show VP W _ ((a,b)::l) _ from ⟨by exact ⟨_,_,rfl,hx.mono (cx₂.up af₃),hp.1⟩,by exact ⟨_,_,rfl,hy.mono (cx₂.up af₃),hp.2⟩⟩),cx₃,af.trans af₃,q⟩)
theorem not_modules (cx:Cx F ρ T s) (hm:∃o,W.h₀.get? sysModules=some o):(s.heap.objs.size == sysModules)=false:=by
 rw [beq_eq_false_iff_ne];intro q;refine eE1 (hm) fun o e=>?_;have:=cx.hp.base _ _ e;rw [← q,aF] at this;exact nS this
theorem ev_dict0 {pos:Pos} (hm:∃o,W.h₀.get? sysModules=some o) (q:Q (.idict []) T):EvE F ρ (.Dict [] [] pos) T Q:=fun s cx =>
 wpAny_Dict_empty (by
  refine eE1 ((Heap.DictOf.new (knd:=intKind W.prog W.w) s.heap).dictAt) fun ep hd=>?_;exact .made (tk:=s.toks) cx (fun _ _ e=>Heap.get?_push_of_some _ e) (aF _) (fun g u k=>(show V W g (.idict []) _ from ⟨⟨_,[],ep,rfl,hd.at' k,⟨rfl,.nil⟩,not_modules cx hm⟩,Bj _⟩)) q)
theorem vd {mk:List (κ×Int)→AV} (hmk:∀g d x,DictV knd g x d→V W g (mk d) x) (hk:∀g a x k,V W g a x→key a=some k→knd.is k x=true) {ks:List (Option Expr)}{vs:List Expr}{pos:Pos} (hall:ks.all (·.isSome)=true) (hl:ks.length=vs.length) (h0:ks≠[]) (hlen:ks.length≤15)
  (hm:∃o,W.h₀.get? sysModules=some o) (h:∀a,EvP (F.plus [a]) ρ pos ks vs T fun l T=>l.length≤15∧ak (vo key [] l) fun d=>Q (mk d) T):EvE F ρ (.Dict ks vs pos) T Q:=fun s cx=>by
 refine wpAny_Dict_walk (knd:=knd) hall hl h0 hlen ((h _).then (cx.pushed ⟨_,Heap.get?_push_size _ rfl⟩) fun ps s₂ l T₂ hp cx₂ af q=>?_);refine bc fun zz=>?_;refine aA2 (q) fun hll q=>?_;refine eE1 (ag q) fun d zt1=>aA2 zt1 fun hd q=>?_;refine eE1 (vC (acc:=([]:List (κ×Value))) (q:=[]) (hk _) hp ⟨rfl,IntsAre.nil⟩ List.nodup_nil hd) fun kvs zt2=>aA3 zt2 fun c1 c2 c3=>?_;refine zz ?_;refine ⟨kvs,c1,?_,fun h' hD' sb=>.fill cx cx₂ af sb (fun g k=>hmk g d _ ?_) q⟩
 ·refine bc fun zz=>?_;refine eE3 (Heap.DictOf.new (knd:=knd) s.heap) fun o es ep zt3=>aA2 zt3 fun e r=>?_;refine zz ?_;exact ⟨o,es,ep,af.kp _ _ (Fr.n0 cx.hp (aF _)) e,r⟩
 ·refine bc fun zz=>?_;refine eE1 (hD'.dictAt) fun ep hd'=>?_;refine zz ?_;refine ⟨⟨_,_,ep,rfl,hd'.at' k,c2,not_modules cx hm⟩,?_⟩;rw [List.length_nil] at c3;unfold cap;lia
end
noncomputable section
noncomputable def boP (op:BoolOp) (e:Expr→Tbl→K→Prop):List Expr→Tbl→K→Prop
 | [],_,_=>False
 | [x],T,Q=>e x T Q
 | x::r,T,Q=>e x T fun v T=>au v fun b=>match op with
  | .And=>aa b (boP op e r T Q) (Q v T)
  | .Or=>aa b (Q v T) (boP op e r T Q)
noncomputable def allP (op:BoolOp) (t:Expr→Tbl→(Bool→Tbl→Prop)→Prop):List Expr→Tbl→(Bool→Tbl→Prop)→Prop
 | [],_,_=>False
 | [x],T,B=>t x T B
 | x::r,T,B=>t x T fun b T=>match op with
  | .And=>aa b (allP op t r T B) (B false T)
  | .Or=>aa b (B true T) (allP op t r T B)
end
section
variable {W:Wd}{F:Fr W}{ρ G:Rho}{T:Tbl}{s s':Shared}{Q:K}{B:Bool→Tbl→Prop}{pos:Pos}
theorem fB {b:Bool}{P R P' R':Prop} (h:aa b P R) (f:P→P') (g:R→R'):aa b P' R':=by cases b;exact g h;exact f h
theorem bo_ok {op:BoolOp}{e:Expr→Tbl→K→Prop} (he:∀x T Q,e x T Q→EvE F ρ x T Q):∀{es:List Expr}{T:Tbl},boP op e es T Q→EvE F ρ (.BoolOp op es pos) T Q
 | [],_,h=>h.elim
 | [x],_,h=>fun s cx=>BoolOp_one (he _ _ _ h s cx)
 | x::y::r,T,h=>fun s cx=>by
  have ih:=fun T=>bo_ok (op:=op) he (es:=y::r) (T:=T);have h:=he _ _ _ h;cases op with
  | And=>exact BoolOp_and (h.then cx fun v s₁ a T₁ hv cx₁ af q=>AC (gY (B:=fun c T=>aa c (boP .And e (y::r) T Q) (Q a T)) q hv cx₁) (fun c s₂ g=>match g with
    | .mk (a:=d) e cx₂ af₂ q=>by
     have e:c=d:=e;subst e;cases c with
     | true=>exact (ih _ q).ends cx₂ (af.trans af₂)
     | false=>exact ⟨hv.mono (cx₁.up af₂),cx₂,af.trans af₂,q⟩) fun _ _ e=>e)
  | Or=>exact BoolOp_or (h.then cx fun v s₁ a T₁ hv cx₁ af q=>AC (gY (B:=fun c T=>aa c (Q a T) (boP .Or e (y::r) T Q)) q hv cx₁) (fun c s₂ g=>match g with
    | .mk (a:=d) e cx₂ af₂ q=>by
     have e:c=d:=e;subst e;cases c with
     | true=>exact ⟨hv.mono (cx₁.up af₂),cx₂,af.trans af₂,q⟩
     | false=>exact (ih _ q).ends cx₂ (af.trans af₂)) fun _ _ e=>e)
theorem all_go {op:BoolOp}{x:Expr}{r:List Expr}{bT:Sem Value} (h:EvT F ρ x T fun b T=>match op with
  | .And=>aa b (Ev F ρ se (PySem.isTrue (.BoolOp op r pos) F.env bT) T B) (B false T)
  | .Or=>aa b (B true T) (Ev F ρ se (PySem.isTrue (.BoolOp op r pos) F.env bT) T B)):Ev F ρ se (PySem.isTrue (.BoolOp op (x::r) pos) F.env bT) T B:=fun s cx=>by
 have fin:∀{c d:Bool}{T₁:Tbl}{s₁:Shared},se (vw F.X s₁.heap) d c→c=d:=fun e=>e;cases op with
 | And=>exact isTrue_and (h.then cx fun c s₁ d T₁ e cx₁ af q=>by
   cases fin (T₁:=T₁) e;cases c with
   | true=>exact Ev.ends q cx₁ af
   | false=>exact ⟨e,cx₁,af,q⟩)
 | Or=>exact isTrue_or (h.then cx fun c s₁ d T₁ e cx₁ af q=>by
   cases fin (T₁:=T₁) e;cases c with
   | true=>exact ⟨e,cx₁,af,q⟩
   | false=>exact Ev.ends q cx₁ af)
theorem all_nil {op:BoolOp}{bT:Sem Value} (h:B (op == .And) T):Ev F ρ se (PySem.isTrue (.BoolOp op [] pos) F.env bT) T B:=fun s cx=>by
 cases op
 ·exact isTrue_and_nil (.here (a:=true) cx rfl h)
 ·exact isTrue_or_nil (.here (a:=false) cx rfl h)
theorem pw {op:BoolOp}{t:Expr→Tbl→(Bool→Tbl→Prop)→Prop}{bT:Sem Value} (ht:∀x T B,t x T B→EvT F ρ x T B):∀{es:List Expr}{T:Tbl},allP op t es T B→Ev F ρ se (PySem.isTrue (.BoolOp op es pos) F.env bT) T B
 | [],_,h=>h.elim
 | [x],_,h=>all_go ((ht _ _ _ h).mono fun b T q=>by
   cases op
   ·cases b;exact q;exact all_nil q
   ·cases b;exact all_nil q;exact q)
 | x::y::r,T,h=>all_go ((ht _ _ _ h).mono fun b T q=>by
   cases op
   ·exact fB q (pw ht) id
   ·exact fB q id (pw ht))
theorem ev_neg {x:Expr} (h:EvE F ρ x T fun v T=>ai (Aw v.k 2) (Q (.int (-v.i)) T)):EvE F ρ (.UnaryOp .USub x pos) T Q:=fun s cx =>
 UnaryOp_ (h.then cx fun _ s₁ a T₁ hv cx₁ af q=>by
  refine aA2 (ac q) fun e q=>?_;refine eE1 (hv.int (Am e)) fun t zs1=>?_;subst zs1;exact P.neg_int ((Got.int cx₁ q).from af))
theorem ev_item {v i:Expr} (h:EvE F ρ v T fun a T=>EvE F ρ i T fun b T=>ai (Aw b.k 2) (dT a b.i fun r=>Q r T)):EvE F ρ (.Subscript v i pos) T Q:=fun s cx =>
 subN (fy (G:=fun a b T=>ai (Aw b.k 2) (dT a b.i fun r=>Q r T)) (Rel:=V W) (Q:=Q) h cx fun a b x y s₂ T₂ hx hy cx₂ af q=>by
  refine aA2 (ac q) fun e q=>?_;refine eE1 (hy.int (Am e)) fun t zs2=>?_;subst zs2;refine ⟨?_,AC (item_ok cx₂ hx q) (fun _ _ r=>r.from af) fun _ _ e=>e⟩;rcases ad q with ⟨e,_⟩ | q
  ·obtain ⟨⟨p,vs,m,rfl,ho,_⟩,_⟩:=hx.tup e;exact ⟨"tuple",_,⟨_,bg _ _ _ _ ho,rfl⟩,PySem.F.slot_tuple_getitem.lookup⟩
  rcases ad q with ⟨e,_⟩ | q
  ·obtain ⟨⟨p,vs,m,rfl,ho,_⟩,_⟩:=hx.list e;exact ⟨"list",_,⟨_,bg _ _ _ _ ho,rfl⟩,slot_list_getitem.lookup⟩
  rcases ad q with ⟨e,_⟩ | q
  ·refine eE1 (hx.str e) fun u zs3=>?_;subst zs3;exact ⟨"str",_,rfl,PySem.F.slot_str_getitem.lookup⟩
  ·exact q.elim)
noncomputable abbrev EvO (F:Fr W) (ρ:Rho) (e:Option Expr):=Ev F ρ (fun (_:Heap) (i:Option Int) (r:Value)=>IsPart r i) (evalPart e F.env)
theorem evo_none {Q:Option Int→Tbl→Prop} (q:Q none T):EvO F ρ none T Q:=fun s cx=>Ag (.here (a:=(none:Option Int)) cx .none q)
theorem evo_some {e:Expr}{Q:Option Int→Tbl→Prop} (h:EvE F ρ e T fun v T=>ai (Aw v.k 2) (Q (some v.i) T)):EvO F ρ (some e) T Q:=fun s cx =>
 h.then cx fun _ s₁ a T₁ hv cx₁ af q=>by
  refine aA2 (ac q) fun e q=>?_;refine eE1 (hv.int (Am e)) fun t zs4=>?_;subst zs4;exact ⟨.int _ _,cx₁,af,q⟩
theorem ev_slice {v:Expr}{lo hi:Option Expr}{p:Pos} (h:EvE F ρ v T fun a T=>EvO F ρ lo T fun l T=>EvO F ρ hi T fun u T=>kc a l u fun r=>Q r T):EvE F ρ (.Subscript v (.Slice lo hi none p) pos) T Q:=fun s cx =>
 subN (h.then cx fun x s₁ a T₁ hx cx₁ af q=>wpAny_Slice (q.then cx₁ fun lv s₂ l T₂ pl cx₂ af₂ q=>q.then cx₂ fun uv s₃ u T₃ pu cx₃ af₃ q=>Ag (by
  have u₄:Up s₃.heap (s₃.heap.push { cls:=.type "slice",data:=.fields #[lv,uv,.none] }):=fun _ _ e=>Heap.get?_push_of_some _ e;have af₄:Af W s₁ { s₃ with heap:=s₃.heap.push { cls:=.type "slice",data:=.fields #[lv,uv,.none] } }:=(af₂.trans af₃).trans (.grow (k:=s₃.toks) u₄);have cx₄:=cx₃.grow (k:=s₃.toks) u₄;have hx₄:=hx.mono (cx₁.up af₄);refine ⟨?_,AC (slice_ok cx₄ hx₄ pl pu (Heap.IsSliceOf.new _ _ _ _) q) (fun _ _ r=>r.from (af.trans af₄)) fun _ _ e=>e⟩;rcases ad q with ⟨e,_⟩ | q
  ·obtain ⟨⟨p,vs,m,rfl,ho,_⟩,_⟩:=hx₄.list e;exact ⟨"list",_,⟨_,bg _ _ _ _ ho,rfl⟩,slot_list_getitem.lookup⟩
  rcases ad q with ⟨e,_⟩ | q
  ·refine aA2 ((hx₄.vk.of e:(∃p vs,x=.ref p∧(vw F.X _).IsList p vs∧IntsAre vs.toList a.z)∧a.z.length≤64)) fun zk5 _=>?_;obtain ⟨p,vs,rfl,⟨o,ho,hc⟩,_⟩:=zk5;exact ⟨"list",_,⟨_,bg _ _ _ _ ho,hc.1⟩,slot_list_getitem.lookup⟩
  rcases ad q with ⟨e,_⟩ | q
  ·obtain ⟨⟨p,vs,m,rfl,ho,_⟩,_⟩:=hx₄.tup e;exact ⟨"tuple",_,⟨_,bg _ _ _ _ ho,rfl⟩,PySem.F.slot_tuple_getitem.lookup⟩
  ·exact q.elim)))
end
structure XOk (W:Wd) (X:List Addr) (h:Heap):Prop where
 base:Up W.h₀ h
 xs:∀a∈X,W.h₀.get? a=none∧∃o,h.get? a=some o
 x0:∀a∈W.X0,a∈X
noncomputable def gt (W:Wd) (n:Nat) (a:Addr) (as:List AV) (T:Tbl) (Q:K):Prop:=∀(A:Around) (X:List Addr) (s:Shared) (vs:List Value),AOk n A→XOk W X s.heap→Tab W T X s.heap→Vs W (vw X s.heap) as vs →
 codeAny (model W.prog W.w) A (.call (.ref a) ⟨vs,[]⟩) (fun r s'=>∃v av T',r=.ok (.ret v)∧V W (vw X s'.heap) av v∧Tab W T' X s'.heap∧Af W s s'∧Q av T') s
noncomputable def Calls (W:Wd) (n:Nat) (f:Str) (as:List AV) (T:Tbl) (Q:K):Prop:=∃a,W.faddr f=some a∧gt W (n+1) a as T Q
noncomputable def rW (T:Tbl) (r:Row) (Q:K):Prop:=match T.findIdx? (fun x=>decide (x=r)) with
 | some i=>Q (.int i) T
 | none=>ai (Cu T.length cap) (Q (.int T.length) (T++[r]))
noncomputable abbrev sf (W:Wd) (b:Bool) (o:Addr) (x:Str) (p:Addr):Prop:=b=true→∀(A:Around) (s:Shared) (Q:Value→Shared→Prop),A.handled=none→Up W.h₀ s.heap→(∀tk,Q (.ref p) { s with toks:=tk })→Av (model W.prog W.w) A (getAttr (.ref o) x true) Q NoE s
noncomputable abbrev GetM (W:Wd) (o:Addr) (x:Str) (a:Addr):Prop:=∀(A:Around) (s:Shared) (pl:Sem Bool) (Q:Value×List Value→Shared→Prop),A.handled=none→Up W.h₀ s.heap→(∀tk,Q (.ref a,[.ref o]) { s with toks:=tk })→Av (model W.prog W.w) A (getMethod (.ref o) x pl) Q NoE s
noncomputable abbrev IsFn (W:Wd) (a:Addr):Prop:=∃o fd,W.h₀.get? a=some o∧o.data=.func fd
structure WOk (W:Wd) (G:Rho):Prop where
 glob:GOk W G
 mods:∃o,W.h₀.get? sysModules=some o
 idxM:(W.idxA == sysModules)=false
 fn:∀f a,W.faddr f=some a→IsFn W a
 rows:sf W W.on W.tabA "rows" W.rowsA
 index:sf W W.on W.tabA "index" W.idxA
 hon:W.hon=true→W.on=true
 tab:sf W W.hon W.hostA "tab" W.tabA
 row:W.on=true→∃a,W.faddr "TypeTable.row"=some a∧GetM W W.tabA "row" a
 force:W.hon=true→∃a,W.faddr "Thin.force"=some a∧GetM W W.hostA "force" a
 put:W.on=true→∃a,IsFn W a∧GetM W W.tabA "put" a∧∀l r T Q,bX l=some r→rW T r Q→gt W 1 a [.tab,.tup l] T Q
theorem AOk.le {n m:Nat}{A:Around} (x:AOk n A) (h:m≤n):AOk m A:=⟨x.hand,by have:=x.depth;lia,by have:=x.units;lia⟩
section
variable {W:Wd}{F:Fr W}{ρ G:Rho}{T:Tbl}{s s':Shared}{Q:K}{pos apos:Pos}{o:Expr}{as:List Expr}{a:Addr}{x:Value}{L:List AV→Tbl→Prop}
theorem Cx.xok (cx:Cx F ρ T s):XOk W F.X s.heap:=⟨cx.hp.base,cx.hp.xs,fun a m=>(F.x0 a m).1⟩
theorem Cx.tok (cx:Cx F ρ T s) (tk:Nat):Cx F ρ T { s with toks:=tk }:=cx.grow fun _ _ e=>e
theorem vE {n:Nat}{l:List AV}{vs:List Value} (cx:Cx F ρ T s) (hv:Vs W (vw F.X s.heap) l vs) (hA:AOk n F.A) (h:gt W n a l T Q):eK F ρ s Q (.ref a) vs :=
 wpAny_call (codeAny_mono (h F.A F.X s vs hA cx.xok cx.tab hv) fun r s' ⟨v,av,T',e,hv,t,af,q⟩=>by
  subst e;exact ⟨hv,cx.af af t,af,q⟩)
noncomputable abbrev EvR (F:Fr W) (ρ:Rho) (p:Addr) (t:Sem Value) (T:Tbl) (Q:Unit→Tbl→Prop):Prop:=Ev F ρ (fun (_:Heap) (_:Unit) (r:Value)=>W.on=true∧r=.ref p) t T Q
theorem qG {x:Str}{p:Addr}{Q:Unit→Tbl→Prop} (hs:bJ o=true) (g:sf W W.on W.tabA x p) (h:EvE F ρ o T fun v T=>ai (Aw v.k 13) (Q () T)):EvR F ρ p (eval (.Attribute o x pos) F.env) T Q:=fun s cx =>
 attrN hs (h.then cx fun y s₁ a T₁ hv cx₁ af q=>by
  refine aA2 (ac q) fun e q=>?_;refine aA2 ((hv.vk.of (Am e):y=.ref W.tabA∧W.on=true)) fun zs1 on=>?_;subst zs1;exact g on F.A s₁ _ F.hA.hand cx₁.hp.base fun tk=>⟨⟨on,rfl⟩,cx₁.tok tk,af.trans (.grow fun _ _ e=>e),q⟩)
theorem ev_tab (wok:WOk W G) (hs:bJ o=true) (h:EvE F ρ o T fun v T=>ai (Aw v.k 14) (Q .tab T)):EvE F ρ (.Attribute o "tab" pos) T Q:=fun s cx =>
 attrN hs (h.then cx fun y s₁ a T₁ hv cx₁ af q=>by
  refine aA2 (ac q) fun e q=>?_;refine aA2 ((hv.vk.of (Am e):y=.ref W.hostA∧W.hon=true)) fun zs2 on=>?_;subst zs2;exact wok.tab on F.A s₁ _ F.hA.hand cx₁.hp.base fun tk=>⟨(show V W _ .tab _ from ⟨rfl,wok.hon on⟩),cx₁.tok tk,af.trans (.grow fun _ _ e=>e),q⟩)
theorem ev_rowAt (wok:WOk W G) {i:Expr} (hs:bJ o=true) (h:EvE F ρ o T fun v T=>ai (Aw v.k 13) (EvE F ρ i T fun k T=>ai (Aw k.k 2) (ai (decide (0≤k.i)) (ak T[k.i.toNat]? fun r=>Q (aU r) T)))):EvE F ρ (.Subscript (.Attribute o "rows" apos) i pos) T Q:=fun s cx =>
 subN ((qG (Q:=fun _ T=>EvE F ρ i T fun k T=>ai (Aw k.k 2) (ai (decide (0≤k.i)) (ak T[k.i.toNat]? fun r=>Q (aU r) T))) hs wok.rows h).then cx fun _ s₁ _ T₁ e cx₁ af q=>by
  refine bc fun zz=>?_;refine aA2 (e) fun on zr1=>?_;refine zz ?_;subst zr1;refine Ev.then q cx₁ fun y s₂ k T₂ hk cx₂ af₂ q=>?_;refine bc fun zz=>?_;refine aA2 (ac q) fun e q=>?_;refine aA2 (ac q) fun e0 q=>?_;refine eE1 (ag q) fun r zt3=>aA2 zt3 fun er q=>?_;refine eE1 (hk.int (Am e)) fun t zr2=>?_;refine zz ?_;subst zr2;have rep:=cx₂.tab on;refine bc fun zz=>?_;refine eE2 (rep.rows) fun vs m zt4=>aA2 zt4 fun e1 e2=>?_;refine zz ?_;have hr:(T₂.map aU)[k.i.toNat]?=some (aU r):=by rw [Bq,er];rfl
  refine bc fun zz=>?_;refine eE1 (e2.at hr) fun x zt5=>aA2 zt5 fun f1 f2=>?_;refine zz ?_;have hlt:=(AW.mp er).1;have hlen:T₂.length≤1000000:=rep.len;have e0:=of_decide_eq_true e0;exact ⟨⟨"list",_,⟨_,e1,rfl⟩,slot_list_getitem.lookup⟩,wpAny_getItem_list ⟨_,e1,rfl,m,rfl⟩ e0 (by lia) (by rw [← AM];exact f1) ((Got.here cx₂ f2 q).from (af.trans af₂))⟩)
theorem oM {n:Nat}{y:AV}{p:Addr} (hp:as.all kdsPlain=true) (fn:IsFn W a) (hA:AOk n F.A) (cx:Cx F ρ T s) (h0:∀g,V W g y (.ref p)) (h:EvS F ρ pos as T fun l T=>gt W n a (y::l) T Q) (tk:Nat) :
  Av (model W.prog W.w) F.A (callWith pos (.ref a) [.ref p] (backTo pos (starEach as F.env)) []) (Got (V W) F ρ s Q) NoE { s with toks:=tk }:=by
 refine bc fun zz=>?_;refine eE2 (fn) fun ob fd zt6=>aA2 zt6 fun ho hd=>?_;refine zz ?_;exact callF (o:=ob) (fd:=fd) hp (Ev.then h (cx.tok tk) fun vs s₂ l T₂ hvs cx₂ af₂ q=>⟨⟨cx₂.hp.base _ _ ho,hd⟩,AC (vE (vs:=.ref p::vs) cx₂ (by exact ⟨_,_,rfl,h0 _,hvs⟩) hA q) (fun _ _ r=>r.from ((Af.grow fun _ _ e=>e:Af W s { s with toks:=tk }).trans af₂)) fun _ _ e=>e⟩)
theorem uK {K:Type} [DecidableEq K] {knd:KeyKind W.prog W.w K}{kvs:List (K×Value)}{pl:Sem Bool}{E:Value→Shared→Prop}{Q:Value×List Value→Shared→Prop} (hm:s.heap.DictOf knd a kvs) (h:Q (.builtin "dict.get",[.ref a]) s) :
  Av (model W.prog W.w) F.A (getMethod (.ref a) "get" pl) Q E s:=getMethod_builtin hm.typeIs PySem.F.plainAttrs_dict PySem.F.slot_dict_get PySem.F.type_dict_get hm.mapOf.noDict h
theorem jS {xs:List (Row×Addr×Value)} (hm:s.heap.DictOfH (cu W.prog W.w) a xs):∀b,Value.ref a=.ref b→∃o,s.heap.get? b=some o∧o.dict=none:=fun b e=>by
 obtain rfl:=Value.ref.inj e;refine bc fun zz=>?_;refine eE3 (hm) fun o es ep zt7=>aA3 zt7 fun ho hx _=>?_;refine zz ?_;exact ⟨o,ho,hx.2.1⟩
theorem getM_idx {xs:List (Row×Addr×Value)}{pl:Sem Bool}{E:Value→Shared→Prop}{Q:Value×List Value→Shared→Prop} (hm:s.heap.DictOfH (cu W.prog W.w) a xs) (h:Q (.builtin "dict.get",[.ref a]) s) :
  Av (model W.prog W.w) F.A (getMethod (.ref a) "get" pl) Q E s:=getMethod_builtin hm.typeIs PySem.F.plainAttrs_dict PySem.F.slot_dict_get PySem.F.type_dict_get (jS (W:=W) hm) h
theorem rI {vs:Array Value}{m:Nat}{pl:Sem Bool}{E:Value→Shared→Prop}{Q:Value×List Value→Shared→Prop} (hm:s.heap.get? a=some (cr "list" vs m)) (h:Q (.builtin "list.index",[.ref a]) s) :
  Av (model W.prog W.w) F.A (getMethod (.ref a) "index" pl) Q E s :=
 getMethod_builtin ⟨_,hm,rfl⟩ PySem.F.plainAttrs_list PySem.F.slot_list_index PySem.F.type_list_index (fun b e=>by obtain rfl:=Value.ref.inj e;exact ⟨_,hm,rfl⟩) h
end
noncomputable section
noncomputable abbrev ba:=Str→List AV→Tbl→K→Prop
noncomputable def ir (l:List AV):Option Row:=(ki l).bind fun a=>cond (Aw a.k 4) (bX a.l) none
noncomputable def getP {κ:Type} [DecidableEq κ] (key:AV→Option κ) (d:List (κ×Int)) (l:List AV) (Q:Int→Prop):Prop:=ak (two? l) fun p=>ak (key p.1) fun k=>ai (Aw p.2.k 2) (Q ((nh k d).getD p.2.i))
noncomputable def indexP (xs l:List AV) (Q:Int→Prop):Prop:=ak (ki l) fun k=>ai (Aw k.k 2) (ak (aB xs) fun xs=>ak (xs.findIdx? fun x=>decide (x=k.i)) fun i=>Q i)
noncomputable def oO (C:ba) (v:AV) (m:Str) (A:(List AV→Tbl→Prop)→Prop) (Q:K):Prop:=bC v.k [
 (13,aa (seq m "put") (A fun l T=>ak (ir l) fun r=>rW T r Q) (ai (seq m "row") (A fun l T=>C "TypeTable.row" (.tab::l) T Q))),
 (14,ai (seq m "force") (A fun l T=>C "Thin.force" (.host::l) T Q)),
 (8,ai (seq m "get") (A fun l T=>getP (dM 2 AV.i) v.d l fun i=>Q (.int i) T)),
 (9,ai (seq m "get") (A fun l T=>getP (dM 3 AV.x) v.e l fun i=>Q (.int i) T)),
 (5,ai (seq m "index") (A fun l T=>indexP v.l l fun i=>Q (.int i) T))]
noncomputable def idxP (l:List AV) (T:Tbl) (Q:K):Prop:=ak (two? l) fun p=>ai (Aw p.1.k 4 && Aw p.2.k 2) (ak (bX p.1.l) fun r=>Q ((T.findIdx? (fun x=>decide (x=r))).elim (.int p.2.i) (fun i=>.int i)) T)
noncomputable def callP (C:ba) (v:AV) (A:(List AV→Tbl→Prop)→Prop) (Q:K):Prop:=bC v.k [
 (11,A fun l T=>C v.x l T Q),(12,ai (BY v.i.toNat 8) (A fun l T=>bltP v.i.toNat l fun u=>Q u T))]
end
section
variable {W:Wd}{F:Fr W}{ρ G:Rho}{T:Tbl}{s s':Shared}{Q:K}{pos apos:Pos}{o:Expr}{as:List Expr}{a:Addr}{x:Value}{n:Nat}{v:AV}{A:(List AV→Tbl→Prop)→Prop}
theorem lS {f:Str}{l:List AV} (h:Calls W n f l T Q) (hf:W.faddr f=some a):gt W (n+1) a l T Q:=by
 obtain ⟨b,hb,h⟩:=h;rw [hf] at hb;obtain rfl:=As hb;exact h
theorem sy {l:List AV}{r:Row} (h:ir l=some r):∃a,l=[a]∧a.k=4∧bX a.l=some r:=by
 obtain ⟨a,e,h⟩:=AJ.mp h;cases e':Aw a.k 4 with
 | true=>rw [e'] at h;exact ⟨a,bH e,Am e',h⟩
 | false=>rw [e'] at h;exact nS h
theorem Vs.one {g:Heap}{a:AV}{vs:List Value} (h:Vs W g [a] vs):∃x,vs=[x]∧V W g a x:=by obtain ⟨x,r,rfl,h,e⟩:=h;subst e;exact ⟨x,rfl,h⟩
theorem Vs.two {g:Heap}{a b:AV}{vs:List Value} (h:Vs W g [a,b] vs):∃x y,vs=[x,y]∧V W g a x∧V W g b y:=by obtain ⟨x,r,rfl,h1,h2⟩:=h;obtain ⟨y,rfl,h3⟩:=h2.one;exact ⟨x,y,rfl,h1,h3⟩
theorem str_is (p:Program) (w:World) (x:Str) (t:Tok):(PySem.strKind p w).is x (.str x t)=true:=by simp [PySem.strKind,Value.isStrOf]
theorem get_ok {κ:Type} [DecidableEq κ] {knd:KeyKind W.prog W.w κ}{key:AV→Option κ}{d:List (κ×Int)} (hp:as.all kdsPlain=true) (hk:∀g a x k,V W g a x→key a=some k→knd.is k x=true) (hd:DictV knd (vw F.X s.heap) x d) (cx:Cx F ρ T s) (h:EvS F ρ pos as T fun l T=>getP key d l fun i=>Q (.int i) T) (pl:Sem Bool) :
  Av (model W.prog W.w) F.A (getMethod x "get" pl) (fun fx s₂=>Av (model W.prog W.w) F.A (callWith pos fx.1 fx.2 (backTo pos (starEach as F.env)) []) (Got (V W) F ρ s Q) NoE s₂) NoE s:=by
 refine eE2 (hd.live) fun p kvs zt2=>aA3 zt2 fun zs1 hD _=>?_;subst zs1;refine uK hD (jv hp (Ev.then h cx fun vs s₂ l T₂ hvs cx₂ af q=>?_));refine eE1 (ag q) fun p2 zt4=>aA2 zt4 fun e2 q=>?_;refine eE1 (ag q) fun k' zt3=>aA2 zt3 fun hk' q=>?_;refine aA2 (ac q) fun e q=>?_;replace hvs:=sq e2▸hvs;refine eE2 (hvs.two) fun y z zt5=>aA3 zt5 fun zs4 hy hz=>?_;subst zs4;refine eE1 (hz.int (Am e)) fun t zs6=>?_;subst zs6;exact AC (dget_ok cx₂ (hd.mono (cx.up af)) (hk _ _ _ _ hy hk') q) (fun _ _ r=>r.from af) fun _ _ e=>e
theorem index_ok {xs:List AV}{ns:List Int}{k:Int}{i:Nat}{x:Value}{t:Tok} (cx:Cx F ρ T s) (hx:SeqV (vw F.X s.heap) "list" x (Vs W (vw F.X s.heap) xs) xs.length) (hn:aB xs=some ns) (hi:ns.findIdx? (fun x=>decide (x=k))=some i) (q:Q (.int i) T) :
  eK F ρ s Q (.builtin "list.index") [x,.int k t]:=by
 obtain ⟨⟨l,vs,m,rfl,e1,e2⟩,e3⟩:=hx;have e1:=bg _ _ _ _ e1;have hI:=e2.ints hn;have hlen:=hI.length;have hvs:=e2.size;obtain ⟨hi1,hi2,hi3⟩:=Bf.mp hi;have hi1':i<vs.size:=by rw [← Ax];lia
 refine call_meets PySem.F.slot_list_index ⟨_,e1,rfl⟩ PySem.F.entry_list_index (PySem.F.args_list_index_2 _ _)
  (PySem.SeqAt.list_indexAt l vs m none #[] (.int k t) (isInt k) i hi1' (by have:=ju e3;lia) ?_ ?_) ⟨e1,fun y hy=>(eq_isInt k t hI y (by simpa using hy)).at _ _,.int cx q⟩
 ·show isInt k vs[i]=true;have:=isInt_at k hI i (by simpa using hi1') (by lia);simp only [Array.getElem_toList] at this;rw [this];simpa using hi2
 ·intro j hj hlt;show isInt k vs[j]=false;have:=isInt_at k hI j (by simpa using hj) (by lia);simp only [Array.getElem_toList] at this;rw [this];simpa using hi3 j hlt
theorem meth_ok {m:Str} (wok:WOk W G) (hn:AOk (n+1) F.A) (hp:as.all kdsPlain=true) (hA:∀L,A L→EvS F ρ pos as T L) (hv:V W (vw F.X s.heap) v x) (cx:Cx F ρ T s) (h:oO (Calls W n) v m A Q) (pl:Sem Bool) :
  Av (model W.prog W.w) F.A (getMethod x m pl) (fun fx s₂=>Av (model W.prog W.w) F.A (callWith pos fx.1 fx.2 (backTo pos (starEach as F.env)) []) (Got (V W) F ρ s Q) NoE s₂) NoE s:=by
 rcases ad h with ⟨e,h⟩ | h
 ·refine aA2 ((hv.vk.of e:x=.ref W.tabA∧W.on=true)) fun zs7 on=>?_;subst zs7;have h0:∀g,V W g .tab (.ref W.tabA):=fun g=>by exact ⟨rfl,on⟩
  rcases aA h with ⟨em,h⟩ | ⟨_,h⟩
  ·rw [aM em];refine eE1 (wok.put on) fun a zt8=>aA3 zt8 fun fn gm hc=>?_;refine gm F.A s pl _ F.hA.hand cx.hp.base fun tk=>oM (n:=1) (y:=.tab) hp fn (hn.le (Nat.succ_le_succ (Bj _))) cx h0 ((hA _ h).mono fun l T q=>?_) tk;refine eE1 (ag q) fun r zt9=>aA2 zt9 fun hr q₂=>?_;obtain ⟨a,rfl,ek,hr⟩:=sy hr;have hq:=hc a.l r T Q hr q₂;intro A' X s vs h1 h2 h3 hvs;refine eE2 (hvs) fun y r' zt11=>aA3 zt11 fun zs10 hy z=>?_;subst zs10;refine eE1 (Vs.one z) fun z zt13=>aA2 zt13 fun zs12 hz=>?_;subst zs12;exact hq A' X s _ h1 h2 h3 (by exact ⟨_,_,rfl,hy,_,_,rfl,hz.vk.of ek,rfl⟩)
  ·refine aA2 (ac h) fun em h=>?_;rw [aM em];refine eE1 (wok.row on) fun a zt14=>aA2 zt14 fun hf gm=>?_;exact gm F.A s pl _ F.hA.hand cx.hp.base fun tk=>oM (y:=.tab) hp (wok.fn _ _ hf) hn cx h0 ((hA _ h).mono fun l T q=>lS q hf) tk
 rcases ad h with ⟨e,h⟩ | h
 ·refine aA2 ((hv.vk.of e:x=.ref W.hostA∧W.hon=true)) fun zs15 on=>?_;subst zs15;refine aA2 (ac h) fun em h=>?_;rw [aM em];refine eE1 (wok.force on) fun a zt16=>aA2 zt16 fun hf gm=>?_;exact gm F.A s pl _ F.hA.hand cx.hp.base fun tk=>oM (y:=.host) hp (wok.fn _ _ hf) hn cx (fun g=>by exact ⟨rfl,on⟩) ((hA _ h).mono fun l T q=>lS q hf) tk
 rcases ad h with ⟨e,h⟩ | h
 ·refine aA2 (ac h) fun em h=>?_;rw [aM em];exact get_ok (knd:=intKind W.prog W.w) hp (fun g a x k h e=>by obtain ⟨e',rfl⟩:=cD e;obtain ⟨t,rfl⟩:=h.int e';simp [intKind,Value.isInt]) (hv.vk.of e) cx (hA _ h) pl
 rcases ad h with ⟨e,h⟩ | h
 ·refine aA2 (ac h) fun em h=>?_;rw [aM em];exact get_ok (knd:=PySem.strKind W.prog W.w) hp (fun g a x k h e=>by obtain ⟨e',rfl⟩:=cD e;obtain ⟨t,rfl⟩:=h.str e';exact str_is _ _ _ _) (hv.vk.of e) cx (hA _ h) pl
 rcases ad h with ⟨e,h⟩ | h
 ·refine aA2 (ac h) fun em h=>?_;rw [aM em];have hl:=hv.list e;obtain ⟨⟨p,vs,m,rfl,ho,_⟩,_⟩:=id hl;refine rI (bg _ _ _ _ ho) (jv hp (Ev.then (hA _ h) cx fun us s₂ l T₂ hus cx₂ af q=>?_));refine eE1 (ag q) fun k zt16=>aA2 zt16 fun e1 q=>?_;refine aA2 (ac q) fun ek q=>?_;refine eE1 (ag q) fun ns zt17=>aA2 zt17 fun hns q=>?_;refine eE1 (ag q) fun i zt18=>aA2 zt18 fun hi q=>?_;replace hus:=bH e1▸hus;refine eE1 (hus.one) fun y zt20=>aA2 zt20 fun zs19 hy=>?_;subst zs19;refine eE1 (hy.int (Am ek)) fun t zs21=>?_;subst zs21;exact AC (index_ok cx₂ (hl.mono (cx.up af) fun _ h=>h.mono (cx.up af)) hns hi q) (fun _ _ r=>r.from af) fun _ _ e=>e
 ·exact h.elim
end
noncomputable section
noncomputable abbrev EvF:=Rho→Scope→Expr→Tbl→K→Prop
noncomputable abbrev lX:=Rho→Scope→Expr→Tbl→(Bool→Tbl→Prop)→Prop
noncomputable def esP (e:Expr→Tbl→K→Prop):List Expr→Tbl→(List AV→Tbl→Prop)→Prop
 | [],T,L=>L [] T
 | x::r,T,L=>e x T fun v T=>esP e r T fun l T=>L (v::l) T
noncomputable def psP (e:Expr→Tbl→K→Prop):List (Option Expr)→List Expr→Tbl→(List (AV×AV)→Tbl→Prop)→Prop
 | [],_,T,L=>L [] T
 | _::_,[],_,_=>False
 | k::ks,v::vs,T,L=>ak k fun k=>e k T fun a T=>e v T fun b T=>psP e ks vs T fun l T=>L ((a,b)::l) T
noncomputable def oP (e:Expr→Tbl→K→Prop) (o:Option Expr) (T:Tbl) (Q:Option Int→Tbl→Prop):Prop:=match o with
 | none=>Q none T
 | some x=>e x T fun v T=>ai (Aw v.k 2) (Q (some v.i) T)
noncomputable def constP (c:Const) (Q:AV→Prop):Prop:=match c with
 | .int i=>Q (.int i)
 | .str s=>Q (.str s)
 | .bool b=>Q (.bool b)
 | .none=>Q .none
 | _=>False
noncomputable def unE (r:EvF×lX) (ν:Rho) (sc:Scope) (op:UnaryOp) (x:Expr) (T:Tbl) (Q:K):Prop:=match op with
 | .Not=>r.1 ν sc x T fun v T=>au v fun c=>Q (.bool (!c)) T
 | .USub=>r.1 ν sc x T fun v T=>ai (Aw v.k 2) (Q (.int (-v.i)) T)
 | _=>False
noncomputable def cmpE (r:EvF×lX) (ν:Rho) (sc:Scope) (l:Expr) (ops:List CmpOp) (rs:List Expr) (T:Tbl) (Q:K):Prop:=ak (ki ops) fun op=>ak (ki rs) fun x=>ai (!behindInMarks op x) (r.1 ν sc l T fun a T=>r.1 ν sc x T fun b T=>cmpP op a b fun c=>Q (.bool c) T)
noncomputable def strC (c:Const):Bool:=match c with
 | .str _=>true
 | _=>false
noncomputable def strKey (ks:List (Option Expr)):Bool:=(ks.headD none).elim false fun e=>iL e (fun c _ _=>strC c) false
noncomputable def dictE (r:EvF×lX) (ν:Rho) (sc:Scope) (ks:List (Option Expr)) (vs:List Expr) (T:Tbl) (Q:K):Prop:=aa ks.isEmpty (ai vs.isEmpty (Q (.idict []) T))
 (ai (ks.all (·.isSome) && (Aw ks.length vs.length && BY ks.length 15)) (psP (r.1 ν sc) ks vs T fun l T=>ai (BY l.length 15) (aa (strKey ks)
  (ak (vo (dM 3 AV.x) [] l) fun d=>Q (.sdict d) T) (ak (vo (dM 2 AV.i) [] l) fun d=>Q (.idict d) T))))
noncomputable def qe (e:Expr):Bool:=!Nat.beq e.ctorIdx 7
noncomputable def turnE (r:EvF×lX) (G ν:Rho) (csc:Scope) (x:Str) (ifs:List Expr) (elt:Expr):vQ:=fun v T R=>aa ifs.isEmpty (r.1 (gW csc G ν x v) csc elt T fun u T=>R (some u) T)
 (ak (ki ifs) fun c=>r.2 (gW csc G ν x v) csc c T fun b T=>aa b (r.1 (gW csc G ν x v) csc elt T fun u T=>R (some u) T) (R none T))
noncomputable def compX (r:EvF×lX) (G ν:Rho) (sc csc:Scope) (elt:Expr) (x:Str) (g:Comprehension) (T:Tbl) (Q:List AV→Tbl→Prop):Prop :=
 ai (decide (g.is_async=0) && (compB sc csc x && qe g.iter)) (r.1 ν sc g.iter T fun it T=>aq it fun items=>ai (BY items.length cap) (ay (turnE r G ν csc x g.ifs elt) items T Q))
noncomputable def nP (r:EvF×lX) (G ν:Rho) (sc csc:Scope) (elt:Expr) (gens:List Comprehension) (T:Tbl) (Q:List AV→Tbl→Prop):Prop:=ak (ki gens) fun g=>ak (bQ g.target) fun x=>compX r G ν sc csc elt x g T Q
noncomputable def itemE (r:EvF×lX) (ν:Rho) (sc:Scope) (v i:Expr) (T:Tbl) (Q:K):Prop:=tO i (fun lo hi st _=>ai st.isNone (r.1 ν sc v T fun a T=>oP (r.1 ν sc) lo T fun l T=>oP (r.1 ν sc) hi T fun u T=>kc a l u fun w=>Q w T))
 (r.1 ν sc v T fun a T=>r.1 ν sc i T fun b T=>ai (Aw b.k 2) (dT a b.i fun w=>Q w T))
noncomputable def subE (r:EvF×lX) (ν:Rho) (sc:Scope) (v i:Expr) (T:Tbl) (Q:K):Prop:=iM v (fun o a _=>ai (bJ o && seq a "rows") (r.1 ν sc o T fun w T=>ai (Aw w.k 13) (r.1 ν sc i T fun k T=>ai (Aw k.k 2) (ai (decide (0≤k.i)) (ak T[k.i.toNat]? fun r=>Q (aU r) T))))) (itemE r ν sc v i T Q)
noncomputable def methE (C:ba) (r:EvF×lX) (ν:Rho) (sc:Scope) (o:Expr) (m:Str) (as:List Expr) (T:Tbl) (Q:K):Prop:=iM o (fun o a _=>ai (bJ o && (seq a "index" && seq m "get")) (r.1 ν sc o T fun v T=>ai (Aw v.k 13) (esP (r.1 ν sc) as T fun l T=>idxP l T Q)))
 (r.1 ν sc o T fun v T=>oO C v m (fun L=>esP (r.1 ν sc) as T L) Q)
noncomputable def callE (C:ba) (r:EvF×lX) (ν:Rho) (sc:Scope) (f:Expr) (as:List Expr) (ks:List Keyword) (pos:Pos) (T:Tbl) (Q:K):Prop:=ai (ks.isEmpty && as.all kdsPlain) (iM f (fun o m apos=>ai (bJ o && bq apos pos as) (methE C r ν sc o m as T Q))
 (eG f (fun x p=>r.1 ν sc (.Name x p) T fun v T=>callP C v (fun L=>esP (r.1 ν sc) as T L) Q) False))
noncomputable def stepE (C:ba) (G:Rho) (r:EvF×lX):EvF:=fun ν sc e T Q=>match e with
 | .Constant c _ _=>constP c fun v=>Q v T
 | .Name x _=>ak (ν x) fun v=>Q v T
 | .BoolOp op vs _=>boP op (r.1 ν sc) vs T Q
 | .BinOp l op x _=>r.1 ν sc l T fun a T=>r.1 ν sc x T fun b T=>binP op a b fun v=>Q v T
 | .UnaryOp op x _=>unE r ν sc op x T Q
 | .IfExp t b o _=>r.2 ν sc t T fun c T=>aa c (r.1 ν sc b T Q) (r.1 ν sc o T Q)
 | .Tuple es _ _=>ai (es.all kdsPlain) (esP (r.1 ν sc) es T fun l T=>ai (BY l.length cap) (Q (.tup l) T))
 | .List es _=>ai (es.all kdsPlain) (esP (r.1 ν sc) es T fun l T=>ai (BY l.length cap) (Q (.list l) T))
 | .Set es k _=>ai (Aw k 0 && (BY es.length 2 && es.all kdsPlain)) (esP (r.1 ν sc) es T fun l T=>ak (aB l) fun ns=>ai (bh ns) (Q (.set (bp ns)) T))
 | .Dict ks vs _=>dictE r ν sc ks vs T Q
 | .Compare l ops rs _=>cmpE r ν sc l ops rs T Q
 | .ListComp elt gens csc _=>nP r G ν sc csc elt gens T fun l T=>Q (.list l) T
 | .Attribute o a _=>ai (bJ o && seq a "tab") (r.1 ν sc o T fun v T=>ai (Aw v.k 14) (Q .tab T))
 | .Subscript v i _=>subE r ν sc v i T Q
 | .Call f as ks pos=>callE C r ν sc f as ks pos T Q
 | _=>False
noncomputable def cmpT (r:EvF×lX) (ν:Rho) (sc:Scope) (l:Expr) (ops:List CmpOp) (rs:List Expr) (T:Tbl) (B:Bool→Tbl→Prop):Prop:=ak (ki ops) fun op=>ak (ki rs) fun x=>ai (!behindInMarks op x) (r.1 ν sc l T fun a T=>r.1 ν sc x T fun b T=>cmpP op a b fun c=>B c T)
noncomputable def isNot (op:UnaryOp):Bool:=match op with
 | .Not=>true
 | _=>false
noncomputable def stepT (r:EvF×lX):lX:=fun ν sc e T B=>onUn e (fun op x _=>ai (isNot op) (r.2 ν sc x T fun c T=>B (!c) T)) (onCmp e (fun l ops rs _=>cmpT r ν sc l ops rs T B) (tX e (fun op vs _=>allP op (r.2 ν sc) vs T B)
 (ai (!(Aw e.ctorIdx 5 || (Aw e.ctorIdx 0 || (Aw e.ctorIdx 3 || Aw e.ctorIdx 15)))) (r.1 ν sc e T fun v T=>au v fun c=>B c T))))
noncomputable def ev (C:ba) (G:Rho):Nat→EvF×lX
 | 0=>(fun _ _ _ _ _=>False,fun _ _ _ _ _=>False)
 | n+1=>(stepE C G (ev C G n),stepT (ev C G n))
end
theorem jj {T:Tbl}{r:Row} (h:r∈T):T.findIdx? (fun x=>decide (x=r))=some (T.idxOf r):=by
 induction T with
 | nil=>cases h
 | cons a t ih =>
  rw [List.findIdx?_cons,List.idxOf_cons]
  by_cases q:a=r
  ·subst q;simp
  ·have:r∈t:=by
    rcases Ai.mp h with e | e
    ·exact absurd e.symm q
    ·exact e
   have qb:(a == r)=false:=by rw [beq_eq_false_iff_ne];exact q
   rw [ih this];simp [q,qb]
theorem ji {T:Tbl}{r:Row} (h:r∉T):T.findIdx? (fun x=>decide (x=r))=none:=by
 rw [Bu];intro x hx;rw [decide_eq_false_iff_not];rintro rfl;exact h hx
theorem fH {xs:List (Row×Addr×Value)}{r:Row}{p:Addr×Value} (h:atKey xs r=some p):(r,p)∈xs:=by
 unfold atKey at h;rw [Bc] at h;obtain ⟨x,hx,rfl⟩:=h;have h1:=List.find?_some hx;rw [decide_eq_true_eq] at h1;subst h1;exact List.mem_of_find?_eq_some hx
theorem jy {xs:List (Row×Addr×Value)}{r:Row} (h:atKey xs r=none):r∉xs.map (·.1):=by
 unfold atKey at h;rw [Option.map_eq_none_iff,List.find?_eq_none] at h;intro hm;obtain ⟨x,hx,rfl⟩:=AD.mp hm;exact absurd (by simp) (h x hx)
section
variable {W:Wd}{F:Fr W}{ρ G:Rho}{T:Tbl}{s s':Shared}{Q:K}{pos apos:Pos}{o:Expr}{as:List Expr}{x:Value}{n:Nat}{v:AV}
theorem vc (wok:WOk W G) {ipos:Pos} (hs:bJ o=true) (hl:bq apos pos as=true) (hp:as.all kdsPlain=true) (h:EvE F ρ o T fun v T=>ai (Aw v.k 13) (EvS F ρ pos as T fun l T=>idxP l T Q)):EvE F ρ (.Call (.Attribute (.Attribute o "index" ipos) "get" apos) as [] pos) T Q:=fun s cx =>
 oQ rfl hl hp ((qG (Q:=fun _ T=>EvS F ρ pos as T fun l T=>idxP l T Q) hs wok.index h).then cx fun _ s₁ _ T₁ e cx₁ af q pl=>by
  refine aA2 (e) fun on zs1=>?_;subst zs1;refine eE1 ((cx₁.tab on).dict (bg _ _)) fun xs zt2=>aA2 zt2 fun hm _=>?_;refine getM_idx hm (jv hp (Ev.then q cx₁ fun vs s₂ l T₂ hvs cx₂ af₂ q=>?_));refine eE1 (ag q) fun p2 zt4=>aA2 zt4 fun e2 q=>?_;replace hvs:=sq e2▸hvs;refine aA2 (ac q) fun e q=>?_;refine eE1 (ag q) fun r zt3=>aA2 zt3 fun hr q=>?_;rw [Ay] at e;refine eE2 (hvs.two) fun y z zt5=>aA3 zt5 fun zs4 hy hz=>?_;subst zs4;refine eE1 (hz.int (Am e.2)) fun t zs6=>?_;subst zs6;obtain ⟨⟨p,us,m,rfl,ho,hv⟩,_⟩:=hy.tup (Am e.1);have hR:RowAt s₂.heap r p:=⟨us,m,bg _ _ _ _ ho,RowAt.up (hv.cells hr) (bg _ _)⟩;refine eE1 ((cx₂.tab on).dict (bg _ _)) fun xs zt7=>aA3 zt7 fun hm hT hx=>?_;have hu:=F.hA.units;refine Be PySem.F.slot_dict_get hm.typeIs PySem.F.entry_dict_get ?_ (PySem.F.args_dict_get_3 _ _ _);show Av _ _ (dictGet W.idxA (.ref p) >>= _) _ _ s₂;refine Ac (wpAny_dictGet_heap (knd:=cu W.prog W.w) (by show F.A.in1.units+64<cLine;rw [Around.in1_units];omega) hR hm ?_);cases hk:atKey xs r with
  | some p =>
   have hmem:=fH hk;refine aA2 (hx _ hmem) fun zk8 _=>?_;obtain ⟨u,hu'⟩:=zk8;rw [jj (hT▸BA (f:=(·.1)) hmem)] at q;refine Ag ⟨p.2,rfl,?_⟩;rw [show p.2=_ from hu'];exact (Got.int cx₂ q).from (af.trans af₂)
  | none =>
   rw [ji (hT▸jy hk)] at q;show Av _ _ (Builtin.Dict.missed W.idxA (.ref p) >>= _) _ _ _;exact Ac (wpAny_missed_other wok.idxM (Ag ⟨_,rfl,(Got.int cx₂ q).from (af.trans af₂)⟩)))
theorem vH:∀n:Nat,BY n 8=true→(∃i,bltV n=.builtin i)∨∃t,bltV n=.type t
 | 0,_ | 1,_ | 2,_ | 3,_ | 4,_=>.inl ⟨_,rfl⟩
 | 5,_ | 6,_ | 7,_ | 8,_=>.inr ⟨_,rfl⟩
 | n+9,h=>absurd (AU h) (by omega)
theorem ev_call {id:Str}{p:Pos}{A:Tbl→(List AV→Tbl→Prop)→Prop} (wok:WOk W G) (hn:AOk (n+1) F.A) (hp:as.all kdsPlain=true) (hA:∀T L,A T L→EvS F ρ pos as T L) (h:EvE F ρ (.Name id p) T fun v T=>callP (Calls W n) v (A T) Q):EvE F ρ (.Call (.Name id p) as [] pos) T Q:=fun s cx =>
 Call_Name rfl (h.then cx fun x s₁ v T₁ hv cx₁ af q=>by
  rcases ad q with ⟨e,q⟩ | q
  ·refine eE1 ((hv.vk.of e:∃p,x=.ref p∧W.faddr v.x=some p)) fun a zt10=>aA2 zt10 fun zs9 hf=>?_;subst zs9;refine eE2 (wok.fn _ a hf) fun ob fd zt11=>aA2 zt11 fun ho hd=>?_;exact callF (o:=ob) (fd:=fd) hp ((hA _ _ q).then cx₁ fun vs s₂ l T₂ hvs cx₂ af₂ q=>⟨⟨cx₂.hp.base _ _ ho,hd⟩,AC (vE cx₂ hvs hn (lS q hf)) (fun _ _ r=>r.from (af.trans af₂)) fun _ _ e=>e⟩)
  rcases ad q with ⟨e,q⟩ | q
  ·have hx:x=bltV v.i.toNat:=hv.vk.of e;refine aA2 (ac q) fun hb q=>?_;have fin:∀{vs s₂ l T₂},Vs W (vw F.X s₂.heap) l vs→Cx F ρ T₂ s₂→Af W s₁ s₂→bltP v.i.toNat l (fun u=>Q u T₂)→Av (model W.prog W.w) F.A (PySem.call x vs) (Got (V W) F ρ s Q) NoE s₂:=fun hvs cx₂ af₂ q=>by
    rw [hx];exact AC (blt_ok cx₂ hvs q) (fun _ _ r=>r.from (af.trans af₂)) fun _ _ e=>e
   rcases vH _ hb with ⟨i,hi⟩ | ⟨t,ht⟩
   ·rw [hx,hi] at fin ⊢;exact jv hp ((hA _ _ q).then cx₁ fun vs s₂ l T₂ hvs cx₂ af₂ q=>fin hvs cx₂ af₂ q)
   ·rw [hx,ht] at fin ⊢;exact callT hp ((hA _ _ q).then cx₁ fun vs s₂ l T₂ hvs cx₂ af₂ q=>fin hvs cx₂ af₂ q)
  ·exact q.elim)
theorem evt_cmp {l e:Expr}{op:CmpOp}{B:Bool→Tbl→Prop} (hm:behindInMarks op e=false) (h:EvE F ρ l T fun a T₁=>EvE F ρ e T₁ fun b T₂=>cmpP op a b fun c=>B c T₂):EvT F ρ (.Compare l [op] [e] pos) T B:=fun s cx =>
 wpAny_isTrue_Compare1 (fy (G:=fun a b T₂=>cmpP op a b fun c=>B c T₂) (Rel:=se) (Q:=B) h cx fun _ _ _ _ s₂ _ hx hy cx₂ af q=>cmp_ok hx hy q _ fun c k q=>wpAny_truthy_bool ((Got.flat (Rel:=se) (a:=c) cx₂ k (fun _=>rfl) q).from af)) hm
structure SndE (W:Wd) (n:Nat) (r:EvF×lX):Prop where
 e:∀{F:Fr W}{ν:Rho}{sc:Scope}{x:Expr}{T:Tbl}{Q:K},F.n=n+1→ScOk sc F.env→r.1 ν sc x T Q→EvE F ν x T Q
 t:∀{F:Fr W}{ν:Rho}{sc:Scope}{x:Expr}{T:Tbl}{B:Bool→Tbl→Prop},F.n=n+1→ScOk sc F.env→r.2 ν sc x T B→EvT F ν x T B
variable {r:EvF×lX}{sc:Scope}{ν:Rho}
theorem rL {e:Expr→Tbl→K→Prop} (he:∀x T Q,e x T Q→EvE F ν x T Q):∀{es:List Expr}{T:Tbl}{L:List AV→Tbl→Prop},es.all kdsPlain=true→esP e es T L→EvS F ν pos es T L
 | [],_,_,_,h=>uY h
 | x::es,_,_,hp,h=>by
  rw [List.all_cons,Ay] at hp;exact qu hp.1 ((he _ _ _ h).mono fun _ _ q=>rL he hp.2 q)
theorem ek_ok {e:Expr→Tbl→K→Prop} (he:∀x T Q,e x T Q→EvE F ν x T Q):∀{es:List Expr}{T:Tbl}{L:List AV→Tbl→Prop},esP e es T L→EvK F ν es T L
 | [],_,_,h=>evk_nil h
 | x::es,_,_,h=>evk_cons ((he _ _ _ h).mono fun _ _ q=>ek_ok he q)
theorem ps_ok {e:Expr→Tbl→K→Prop} (he:∀x T Q,e x T Q→EvE F ν x T Q):∀{ks:List (Option Expr)}{vs:List Expr}{T:Tbl}{L:List (AV×AV)→Tbl→Prop},psP e ks vs T L→EvP F ν pos ks vs T L
 | [],_,_,_,h=>evp_nil h
 | _::_,[],_,_,h=>h.elim
 | none::ks,v::vs,_,_,h=>h.elim
 | some k::ks,v::vs,_,_,h=>evp_cons ((he _ _ _ h).mono fun _ _ q=>(he _ _ _ q).mono fun _ _ q=>ps_ok he q)
theorem o_ok {e:Expr→Tbl→K→Prop} (he:∀x T Q,e x T Q→EvE F ν x T Q) {o:Option Expr}{L:Option Int→Tbl→Prop} (h:oP e o T L):EvO F ν o T L:=by
 cases o with
 | none=>exact evo_none h
 | some x=>exact evo_some (he _ _ _ h)
end
section
variable {W:Wd}{F:Fr W}{ν G:Rho}{sc csc:Scope}{T:Tbl}{s:Shared}{Q:K}{B:Bool→Tbl→Prop}{pos:Pos}{n:Nat}{r:EvF×lX}
theorem hnF (F:Fr W) (h:F.n=n+1):AOk (n+1) F.A:=h▸F.hA
theorem folded_k:(true=false)∨∀(_:Env) (x:Value),(pure x:Sem Value)=pure x:=.inr fun _ _=>rfl
theorem uN (e:Expr):qe e=false∨∀env x,foldedSetIterable e env x=pure x:=by
 cases e with
 | Set=>exact .inl rfl
 | _=>exact folded_k
theorem uO (h:qe iter=true):∀(env:Env) (x:Value),foldedSetIterable iter env x=pure x:=(uN iter).elim (fun q=>tF (h.symm.trans q)) id
theorem turn_ok (snd:SndE W n r) {x:Str}{ifs:List Expr}{elt:Expr} (h:F.n=n+1):eF F ν G csc x ifs elt (turnE r G ν csc x ifs elt):=fun F' hF so v T R q=>by
 have hF:=hF.trans h;rcases aA q with ⟨e,q⟩ | ⟨_,q⟩
 ·rw [AS.mp e];exact turn_elt (snd.e hF so q)
 ·refine eE1 (ag q) fun c zt1=>aA2 zt1 fun e q=>?_;rw [bH e];exact sx ((snd.t hF so q).mono fun b T q=>fB q (fun q=>snd.e hF so q) id)
theorem ik (wok:WOk W G) (snd:SndE W n r) (hF:F.n=n+1) (so:ScOk sc F.env) {elt:Expr}{gens:List Comprehension}{R:List AV→Tbl→Prop} (h:nP r G ν sc csc elt gens T R) :
  ∃x px iter ifs,gens=[⟨.Name x px,iter,ifs,0⟩]∧CompOk sc csc x∧(∀env y,foldedSetIterable iter env y=pure y)∧eF F ν G csc x ifs elt (turnE r G ν csc x ifs elt) ∧
   EvE F ν iter T fun it T₁=>aq it fun items=>ai (BY items.length cap) (ay (turnE r G ν csc x ifs elt) items T₁ R):=by
 refine eE1 (ag h) fun g zt1=>aA2 zt1 fun eg h=>?_;refine eE1 (ag h) fun x zt2=>aA2 zt2 fun ex h=>?_;refine eE1 (cH ex) fun px ex=>?_;refine aA2 (ac h) fun e h=>?_;rw [Ay,Ay,decide_eq_true_eq] at e;refine aA3 e fun e1 e2 e3=>?_;obtain ⟨t,iter,ifs,k⟩:=g;have e1:k=0:=e1;have ex:t=_:=ex;subst e1 ex;exact ⟨x,px,iter,ifs,bH eg,compB_ok e2,uO e3,turn_ok snd hF,snd.e hF so h⟩
theorem gM {a b c:Bool} (h:(a && (b && c))=true):a=true∧b=true∧c=true:=by
 rw [Ay,Ay] at h;exact h
theorem cM {a b:Bool} (h:(a && b)=true):a=true∧b=true:=(Ay ..).mp h
theorem meth_okE (wok:WOk W G) (snd:SndE W n r) (hF:F.n=n+1) (so:ScOk sc F.env) {o:Expr}{m:Str}{apos:Pos}{as:List Expr} (hs:bJ o=true) (hl:bq apos pos as=true) (hp:as.all kdsPlain=true) (h:methE (Calls W n) r ν sc o m as T Q):EvE F ν (.Call (.Attribute o m apos) as [] pos) T Q:=by
 have he:=fun x T Q=>snd.e (x:=x) (T:=T) (Q:=Q) (ν:=ν) hF so;unfold methE at h;revert hs h;exact fc (P:=fun o p=>bJ o=true→p→EvE F ν (.Call (.Attribute o m apos) as [] pos) T Q) o (fun o a p _ h=>by
  refine aA2 (ac h) fun e h=>?_;refine aA3 (gM e) fun h1 h2 h3=>?_;rw [aM h2,aM h3];exact vc wok h1 hl hp ((he _ _ _ h).mono fun v T q=>by obtain ⟨e,q⟩:=ac q;exact (show ai _ _ by rw [e];exact rL he hp q)))
  (fun hs h=>fun s cx=>oQ hs hl hp ((he _ _ _ h).then cx fun x s₁ v T₁ hv cx₁ af q pl=>AC (meth_ok wok (hnF F hF) hp (fun L q=>rL he hp q) hv cx₁ q pl) (fun _ _ h=>AC h (fun _ _ r=>r.from af) fun _ _ e=>e) fun _ _ e=>e))
theorem call_okE (wok:WOk W G) (snd:SndE W n r) (hF:F.n=n+1) (so:ScOk sc F.env) {f:Expr}{as:List Expr}{ks:List Keyword} (h:callE (Calls W n) r ν sc f as ks pos T Q):EvE F ν (.Call f as ks pos) T Q:=by
 have he:=fun x T Q=>snd.e (x:=x) (T:=T) (Q:=Q) (ν:=ν) hF so;refine aA2 (ac h) fun e h=>?_;refine aA2 (cM e) fun e1 hp=>?_;rw [AS.mp e1];clear e;revert h;exact fc (P:=fun f p=>p→EvE F ν (.Call f as [] pos) T Q) f (fun o m apos h=>by
  refine aA2 (ac h) fun e h=>?_;refine aA2 (cM e) fun hs hl=>?_;exact meth_okE wok snd hF so hs hl hp h)
  (dz (P:=fun f p=>p→EvE F ν (.Call f as [] pos) T Q) f (fun x p h=>ev_call wok (hnF F hF) hp (fun T L q=>rL he hp q) (A:=fun T L=>esP (r.1 ν sc) as T L) (he _ _ _ h)) False.elim)
theorem sub_okE (wok:WOk W G) (snd:SndE W n r) (hF:F.n=n+1) (so:ScOk sc F.env) {v i:Expr} (h:subE r ν sc v i T Q):EvE F ν (.Subscript v i pos) T Q:=by
 have he:=fun x T Q=>snd.e (x:=x) (T:=T) (Q:=Q) (ν:=ν) hF so;unfold subE itemE at h;revert h;exact fc (P:=fun v p=>p→EvE F ν (.Subscript v i pos) T Q) v (fun o a p h=>by
  refine aA2 (ac h) fun e h=>?_;refine aA2 (cM e) fun h1 h2=>?_;rw [aM h2];exact ev_rowAt wok h1 ((he _ _ _ h).mono fun v T q=>by obtain ⟨e,q⟩:=ac q;exact (show ai _ _ by rw [e];exact he _ _ _ q)))
  (tN (P:=fun i p=>p→EvE F ν (.Subscript v i pos) T Q) i (fun l u st p h=>by
   refine aA2 (ac h) fun e h=>?_;cases st with
   | some _=>exact fT e
   | none=>exact ev_slice ((he _ _ _ h).mono fun a T q=>(o_ok he q).mono fun l T q=>o_ok he q))
   fun h=>ev_item ((he _ _ _ h).mono fun a T q=>he _ _ _ q))
theorem dict_okE (wok:WOk W G) (snd:SndE W n r) (hF:F.n=n+1) (so:ScOk sc F.env) {ks:List (Option Expr)}{vs:List Expr} (h:dictE r ν sc ks vs T Q):EvE F ν (.Dict ks vs pos) T Q:=by
 rcases aA h with ⟨e,h⟩ | ⟨e,h⟩
 ·refine aA2 (ac h) fun e2 h=>?_;rw [AS.mp e,AS.mp e2];exact ev_dict0 wok.mods h
 ·refine aA2 (ac h) fun e2 h=>?_;refine aA3 (gM e2) fun h1 h2 h3=>?_;have h0:ks≠[]:=fun q=>by rw [q] at e;exact tF e
  have go:=fun a=>ps_ok (pos:=pos) (fun x T Q=>snd.e (F:=F.plus [a]) (x:=x) (T:=T) (Q:=Q) (ν:=ν) hF so) h;cases ek:strKey ks with
  | true=>exact vd (knd:=PySem.strKind W.prog W.w) (key:=dM 3 AV.x) (mk:=.sdict) (fun g d x h=>by exact h) (fun g a x k h e=>by obtain ⟨e',rfl⟩:=cD e;obtain ⟨t,rfl⟩:=h.str e';exact str_is _ _ _ _) h1 (Am h2) h0 (AU h3) wok.mods fun a=>(go a).mono fun l T q=>by obtain ⟨e,q⟩:=ac q;rw [ek] at q;exact ⟨AU e,q⟩
  | false=>exact vd (knd:=intKind W.prog W.w) (key:=dM 2 AV.i) (mk:=.idict) (fun g d x h=>by exact h) (fun g a x k h e=>by obtain ⟨e',rfl⟩:=cD e;obtain ⟨t,rfl⟩:=h.int e';simp [intKind,Value.isInt]) h1 (Am h2) h0 (AU h3) wok.mods fun a=>(go a).mono fun l T q=>by obtain ⟨e,q⟩:=ac q;rw [ek] at q;exact ⟨AU e,q⟩
theorem step_e (wok:WOk W G) (snd:SndE W n r) (hF:F.n=n+1) (so:ScOk sc F.env) {x:Expr} (h:stepE (Calls W n) G r ν sc x T Q):EvE F ν x T Q:=by
 have he:=fun x T Q=>snd.e (x:=x) (T:=T) (Q:=Q) (ν:=ν) hF so;cases x with
 | Constant c k p=>cases c with
  | int=>exact ev_int h
  | str=>exact ev_str h
  | bool=>exact ev_bool h
  | none=>exact ev_none h
  | _=>exact h.elim
 | Name=>exact vb h
 | BoolOp=>exact bo_ok he h
 | BinOp=>exact ev_binop ((he _ _ _ h).mono fun _ _ q=>he _ _ _ q)
 | UnaryOp op=>cases op with
  | Not=>exact ev_not (he _ _ _ h)
  | USub=>exact ev_neg (he _ _ _ h)
  | _=>exact h.elim
 | IfExp=>exact ev_ifexp ((snd.t hF so h).mono fun _ _ q=>fB q (fun q=>he _ _ _ q) fun q=>he _ _ _ q)
 | Tuple =>
  refine aA2 (ac h) fun e h=>?_;exact ev_tuple ((rL he e h).mono fun _ _ q=>(ac q).imp AU id)
 | List =>
  refine aA2 (ac h) fun e h=>?_;exact ev_list ((rL he e h).mono fun _ _ q=>(ac q).imp AU id)
 | Set es k p =>
  refine aA2 (ac h) fun e q=>?_;refine aA3 (gM e) fun h1 h2 h3=>?_;cases Am h1;exact ev_set h3 (AU h2) fun a=>ek_ok (fun x T Q=>snd.e (F:=F.plus [a]) (x:=x) (T:=T) (Q:=Q) (ν:=ν) hF so) q
 | Dict=>exact dict_okE wok snd hF so h
 | Compare l ops rs p =>
  refine eE1 (ag h) fun op zt3=>aA2 zt3 fun eo h=>?_;refine eE1 (ag h) fun x zt4=>aA2 zt4 fun ex h=>?_;refine aA2 (ac h) fun e h=>?_;rw [bH eo,bH ex];exact ev_cmp (by rw [Br] at e;exact e) ((he _ _ _ h).mono fun _ _ q=>he _ _ _ q)
 | ListComp =>
  refine eE4 (ik wok snd hF so h) fun x px iter ifs zt2=>aA5 zt2 fun zs1 c hs tk hit=>?_;subst zs1;exact ve c so wok.glob hit tk (hs _)
 | Attribute =>
  refine aA2 (ac h) fun e h=>?_;refine aA2 (cM e) fun h1 h2=>?_;rw [aM h2];exact ev_tab wok h1 (he _ _ _ h)
 | Subscript=>exact sub_okE wok snd hF so h
 | Call=>exact call_okE wok snd hF so h
 | _=>exact h.elim
theorem test_k (p:Pos):((!true)=true)∨∀(_:Env) (d:Sem Value),(do let v ← d;standAt p;holding [v] (truthy v))=(do let v ← d;standAt p;holding [v] (truthy v)):=.inr fun _ _=>rfl
theorem test_go (e:Expr):(!(!(Aw e.ctorIdx 5 || (Aw e.ctorIdx 0 || (Aw e.ctorIdx 3 || Aw e.ctorIdx 15)))))=true∨∀env d,isTrue e env d=(do let v ← d;standAt e.pos;holding [v] (truthy v)):=by
 cases e with
 | IfExp=>exact .inl rfl
 | BoolOp=>exact .inl rfl
 | UnaryOp=>exact .inl rfl
 | Compare=>exact .inl rfl
 | _=>exact test_k _
theorem step_t (snd:SndE W n r) (hF:F.n=n+1) (so:ScOk sc F.env) {x:Expr} (h:stepT r ν sc x T B):EvT F ν x T B:=by
 unfold stepT at h;revert h;exact tL (P:=fun x p=>p→EvT F ν x T B) x (fun op y p h=>by
  refine aA2 (ac h) fun e h=>?_;cases op with
  | Not=>exact evt_not (snd.t hF so h)
  | _=>exact fT e)
  (onCmp_c (P:=fun x p=>p→EvT F ν x T B) x (fun l ops rs p h=>by
  refine eE1 (ag h) fun op zt3=>aA2 zt3 fun eo h=>?_;refine eE1 (ag h) fun x zt4=>aA2 zt4 fun ex h=>?_;refine aA2 (ac h) fun e h=>?_;rw [bH eo,bH ex];exact evt_cmp (by rw [Br] at e;exact e) ((snd.e hF so h).mono fun _ _ q=>snd.e hF so q))
  (tW (P:=fun x p=>p→EvT F ν x T B) x (fun op vs p h=>pw (fun x T B=>snd.t (x:=x) (T:=T) (B:=B) (ν:=ν) hF so) h)
  fun h=>by
   refine aA2 (ac h) fun e h=>?_;exact ev_test (snd.e hF so h) ((test_go x).elim (fun q=>by rw [e] at q;exact fT q) fun k=>k _ _)))
theorem sJ (wok:WOk W G):∀k,SndE W n (ev (Calls W n) G k)
 | 0=>⟨fun _ _ h=>h.elim,fun _ _ h=>h.elim⟩
 | k+1=>⟨fun hF so h=>step_e wok (sJ wok k) hF so h,fun hF so h=>step_t (sJ wok k) hF so h⟩
end
noncomputable def Fat (o:Obj):Prop:=o.cls=.type "list"∨o.cls=.type "dict"
noncomputable def Thin (g h:Heap):Prop:=∀b o,¬Fat o→g.get? b=some o→h.get? b=some o
theorem eX {o:Obj}{n:String} (e:o.cls=.type n) (h:(n != "list" && n != "dict")=true):¬Fat o:=by
 obtain ⟨h1,h2⟩:=cM h;rintro (q | q) <;> (rw [e] at q;cases q)
 ·exact fT h1
 ·exact fT h2
theorem SeqV.thin {g h:Heap}{v:Value}{P R:List Value→Prop}{n:Nat} (k:Thin g h) (pr:∀vs,P vs→R vs) (x:SeqV g "tuple" v P n):SeqV h "tuple" v R n :=
 by obtain ⟨⟨a,vs,m,e,o,p⟩,c⟩:=x;exact ⟨⟨a,vs,m,e,k _ _ (eX rfl rfl) o,pr _ p⟩,c⟩
theorem eB {k:Nat}{l r:List (Nat×Prop)}{n:Nat}{P R:Prop} (h:k=n→P→R) (q:bC k l→bC k r) (x:bC k ((n,P)::l)):bC k ((n,R)::r):=by
 unfold bC at x ⊢;cases e:Aw k n with
 | true=>replace x:=(e ..)▸x;exact h (Am e) x
 | false=>replace x:=(e ..)▸x;exact q x
noncomputable def rJ (k:Nat):Bool:=!(Aw k 5 || Aw k 6 || Aw k 8 || Aw k 9)
theorem VK.thin {W:Wd}{g h:Heap}{P R:List Value→Prop}{a:AV}{v:Value} (f:rJ a.k=true) (k:Thin g h) (pr:∀vs,P vs→R vs):VK W g P a v→VK W h R a v :=
 have no:∀{n:Nat}{A B:Prop},rJ n=false→a.k=n→A→B:=fun e q _=>by rw [q,e] at f;exact fT f
 ae id<|ae id<|ae id<|ae id<|ae (SeqV.thin k pr)<|eB (no rfl)<|eB (no rfl) <|
 ae (fun x=>x.imp fun _ y=>⟨y.1,y.2.imp fun _ z=>z.imp fun _ z=>z.imp fun _ z=>⟨k _ _ (eX rfl rfl) z.1,z.2⟩⟩) <|
 eB (no rfl)<|eB (no rfl)<|ae (fun x=>x.imp fun _ x=>x.imp fun _ x=>x.imp fun _ x=>x.imp fun _ y=>⟨y.1,k _ _ (eX rfl rfl) y.2⟩) <|
 ae id<|ae id<|ae id<|ae id id
mutual
theorem V.thin {W:Wd}{g h:Heap} (k:Thin g h):∀{av:AV}{v:Value},av.flat=true→V W g av v→V W h av v
 | .mk t _ _ _ _ l _ _ _,_,f,x=>VK.thin (cM (show (rJ t && jh l)=true from f)).1 k (fun _=>Vs.thin k (cM (show (rJ t && jh l)=true from f)).2) x
theorem Vs.thin {W:Wd}{g h:Heap} (k:Thin g h):∀{l:List AV}{vs:List Value},jh l=true→Vs W g l vs→Vs W h l vs
 | [],_,_,x=>x
 | a::l,_,f,⟨v,r,e,x,y⟩=>⟨v,r,e,V.thin k (cM (show (a.flat && jh l)=true from f)).1 x,Vs.thin k (cM (show (a.flat && jh l)=true from f)).2 y⟩
end
theorem fv {α:Type}{f:α→AV} (h:∀a,(f a).flat=true):∀l:List α,jh (l.map f)=true
 | []=>rfl
 | a::l=>by show ((f a).flat && jh (l.map f))=true;refine rwC (h a ..) ?_;refine rwC (fv h l ..) ?_;rfl
theorem uP:∀c:Cell,c.av.flat=true
 | .int _=>rfl
 | .str _=>rfl
 | .nums l=>by show (rJ 4 && jh (l.map .int))=true;refine rwC (fv (fun _=>rfl) ..) ?_;rfl
theorem flat_row (r:Row):(aU r).flat=true:=by show (rJ 4 && jh (r.map Cell.av))=true;refine rwC (fv uP ..) ?_;rfl
theorem CellsAre.thin {g h:Heap}{r:Row}{vs:List Value} (c:CellsAre g r vs) (u:Thin g h):CellsAre h r vs:=by
 induction c with
 | nil=>exact .nil
 | cons a _ ih=>exact .cons (by cases a with | int i t=>exact .int i t | str x t e=>exact .str x t e | nums e i=>exact .nums (u _ _ (eX rfl rfl) e) i) ih
theorem Tab.thin {W:Wd}{T:Tbl}{X X':List Addr}{h:Heap} (t:Tab W T X h) (u:Thin (vw X h) (vw X' h)):Tab W T X' h:=fun on =>
 let ⟨⟨vs,n,e,q⟩,⟨o,xs,f,i,t,y⟩,c,l⟩:=t on
 ⟨⟨vs,n,e,q.thin u (fv flat_row T)⟩,⟨o,xs,f,i,t,fun x m=>⟨(y x m).1,by obtain ⟨vs,n,e,c⟩:=(y x m).2;exact ⟨vs,n,u _ _ (eX rfl rfl) e,CellsAre.thin c u⟩⟩⟩,c,l⟩
noncomputable def hid (k:Nat) (y:Str) (ν:Rho):Rho:=cond (Aw k 0) ν fun x=>cond (seq y x) none (ν x)
theorem ic {k:Nat}{y x:Str}{ν:Rho}{a:AV} (h:hid k y ν x=some a):ν x=some a∧(k≠0→x≠y):=by
 unfold hid at h;cases e:Aw k 0 with
 | true=>replace h:=(e ..)▸h;exact ⟨h,fun n=>absurd (Am e) n⟩
 | false =>
  replace h:=(e ..)▸h;have h:cond (seq y x) none (ν x)=some a:=h;cases q:seq y x with
  | true=>replace h:=(q ..)▸h;exact nS h
  | false=>replace h:=(q ..)▸h;exact ⟨h,fun _ p=>cQ q p.symm⟩
theorem uG {k:Nat}{y x:Str}{ν:Rho}{a:AV} (h:ν x=some a) (n:k≠0→x≠y):hid k y ν x=some a:=by
 delta hid
 cases e:Aw k 0 with
 | true=>exact h
 | false =>
  refine (?_:cond (seq y x) none (ν x)=some a);refine rwC (bt (Ne.symm (n fun q=>by rw [q] at e;exact tF e)) ..) ?_;exact h
noncomputable def ListAt (W:Wd) (g h:Heap) (l:List AV) (a:Addr):Prop:=(∃vs n,h.get? a=some (cr "list" vs n)∧Vs W g l vs.toList)∧l.length≤cap
noncomputable def NestOk (W:Wd) (g h:Heap):List AV→List Addr→Prop
 | [],bs=>bs=[]
 | a::l,bs=>∃b r,bs=b::r∧(a.k=5∧ListAt W g h a.l b)∧NestOk W g h l r
noncomputable def OwnK (W:Wd) (k:Nat) (av:AV) (a:Addr) (O:List Addr) (g h:Heap):Prop:=bC k [
 (1,av.k=5∧O=[a]∧ListAt W g h av.l a),
 (2,av.k=8∧O=[a]∧DictV (intKind W.prog W.w) h (.ref a) av.d),
 (3,av.k=5∧∃bs n,O=a::bs∧(h.get? a=some (cr "list" (bs.map Value.ref).toArray n)∧NestOk W g h av.l bs)∧O.Nodup∧av.l.length≤cap)]
theorem ListAt.mono {W:Wd}{g h g' h':Heap}{l:List AV}{a:Addr} (x:ListAt W g h l a) (k:∀o,h.get? a=some o→h'.get? a=some o) (u:Up g g'):ListAt W g' h' l a :=
 ⟨(by obtain ⟨vs,n,e,v⟩:=x.1;exact ⟨vs,n,k _ e,v.mono u⟩),x.2⟩
theorem NestOk.mono {W:Wd}{g h g' h':Heap} (u:Up g g'):∀{l:List AV}{bs:List Addr},NestOk W g h l bs→On bs h h'→NestOk W g' h' l bs
 | [],_,x,_=>x
 | _::_,_,⟨b,r,e,x,y⟩,k=>⟨b,r,e,⟨x.1,x.2.mono (k b (e▸.head _)) u⟩,y.mono u fun c m=>k c (e▸.tail _ m)⟩
theorem OwnK.mono {W:Wd}{k:Nat}{av:AV}{a:Addr}{O:List Addr}{g h g' h':Heap} (o:On O h h') (u:Up g g') (x:OwnK W k av a O g h):OwnK W k av a O g' h' :=
 ae (fun x=>⟨x.1,x.2.1,x.2.2.mono (o a (x.2.1▸.head _)) u⟩) (ae (fun ⟨x1,x2,⟨b,kvs,ep,e,d,r⟩,c⟩=>⟨x1,x2,⟨b,kvs,ep,e,d.at' fun p q=>o b (by obtain rfl:=Value.ref.inj e;exact x2▸.head _) p q,r⟩,c⟩)
  (ae (fun zq1=>by obtain ⟨x1,bs,n,e,⟨p,q⟩,r⟩:=zq1;exact ⟨x1,bs,n,e,⟨o a (e▸.head _) _ p,q.mono u fun c m=>o c (e▸.tail _ m)⟩,r⟩) id)) x
theorem NestOk.vs {W:Wd}{g h:Heap}:∀{l:List AV}{bs:List Addr},NestOk W g h l bs→(∀b∈bs,∀o,h.get? b=some o→g.get? b=some o)→Vs W g l (bs.map Value.ref)
 | [],_,x,_=>by have x:_=[]:=x;refine rwC (x ..) ?_;exact rfl
 | a::_,_,⟨b,r,e,⟨k,⟨vs,n,eq,v⟩,c⟩,y⟩,u=>by
  rw [e] at u ⊢;refine ⟨_,_,rfl,?_,y.vs fun c m=>u c (.tail _ m)⟩;have:=u b (.head _) _ eq;cases a;subst k;exact ⟨⟨b,vs,n,rfl,this,v⟩,c⟩
theorem OwnK.v {W:Wd}{k:Nat}{av:AV}{a:Addr}{O:List Addr}{g h g':Heap} (x:OwnK W k av a O g h) (u:Up g g') (o:On O h g'):V W g' av (.ref a):=by
 rcases ad x with ⟨_,e,p,⟨vs,n,q,v⟩,c⟩ | x
 ·have:=o a (p▸.head _) _ q;cases av;cases e;exact ⟨⟨a,vs,n,rfl,this,v.mono u⟩,c⟩
 rcases ad x with ⟨_,e,p,⟨b,kvs,ep,eb,d,r⟩,c⟩ | x
 ·obtain rfl:=Value.ref.inj eb;have d':=d.at' fun q t=>o a (p▸.head _) q t;cases av;cases e;exact ⟨⟨a,kvs,ep,rfl,d',r⟩,c⟩
 rcases ad x with ⟨_,e,bs,n,p,⟨q,v⟩,_,c⟩ | x
 ·have:=o a (p▸.head _) _ q;have ob:On bs h g':=fun b m=>o b (p▸.tail _ m);have vv:=(v.mono (h':=h) u fun _ _ _ e=>e).vs ob;cases av;cases e;exact ⟨⟨a,_,n,rfl,this,vv⟩,c⟩
 ·exact x.elim
structure FK {W:Wd} (F:Fr W) (K:Addr→Obj→Prop):Prop where
 loc:∀o,¬K F.env.locals o
 cell:∀y c,F.env.cells.lookup y=some c→∀o,¬K c o
structure Sx {W:Wd} (F:Fr W) (B:Shared) (K:Addr→Obj→Prop) (O:List Addr) (ν:Rho) (k:Nat) (y:Str) (T:Tbl) (s:Shared):Prop where
 cx:Cx (F.plus O) (hid k y ν) T s
 oX:∀a∈O,a∉F.X∧(∃o,s.heap.get? a=some o∧Fat o)∧∀o,¬K a o
 own:(k=0∧O=[])∨(k≠0∧∃a av,ν y=some av∧aP y=false∧Loads s.heap F.env y (.ref a)∧OwnK W k av a O (vw (O++F.X) s.heap) s.heap)
 same:s={ B with heap:=s.heap,toks:=s.toks }
 kp:∀b o,b∉W.X0→K b o→s.heap.get? b=some o
 fk:FK F K
section
variable {W:Wd}{F:Fr W}{B:Shared}{K:Addr→Obj→Prop}{O:List Addr}{ν ν':Rho}{k:Nat}{y:Str}{T T':Tbl}{s s':Shared}
theorem Sx.off0 (x:Sx F B K O ν k y T s) {a:Addr} (m:a∈O):a∉W.X0:=fun q=>(x.oX a m).1 (F.x0 a q).1
theorem Sx.af (x:Sx F B K O ν k y T s) (a:Af W s s') (tab:Tab W T' (O++F.X) s'.heap):Sx F B K O ν k y T' s' :=
 have on:On O s.heap s'.heap:=fun b m o e=>a.kp b o (x.off0 m) e
 ⟨x.cx.af a tab,fun b m=>⟨(x.oX b m).1,(x.oX b m).2.1.imp fun o q=>⟨on b m o q.1,q.2⟩,(x.oX b m).2.2⟩,
  x.own.imp id (fun zq1=>by obtain ⟨k0,p,av,h1,h2,h3,h4⟩:=zq1;exact ⟨k0,p,av,h1,h2,h3.kp a.kp F.loc0 (fun c e=>(F.cellX _ _ e).2.1),h4.mono on (x.cx.up a)⟩),
  by have h:=a.same;replace h:=(x.same ..)▸h;exact h,fun b o n q=>a.kp b o n (x.kp b o n q),x.fk⟩
theorem Sx.all (x:Sx F B K O ν k y T s):Cx F ν T s:=by
 have c:Cx F (hid k y ν) T s:=x.cx.minus (s':=s) (Z:=O) (fun _ _ _ e=>e) fun z m=>(x.oX z m).1;refine ⟨c.hp,fun z av e=>?_,c.tab⟩;rcases x.own with ⟨rfl,_⟩ | ⟨k0,a,av',h1,h2,h3,h4⟩
 ·exact c.nm z av e
 ·by_cases q:z=y
  ·subst q;rw [h1] at e;obtain rfl:=As e;exact ⟨h2,_,h4.v (fun b o e=>aJ (bm e).1 fun m=>(bm e).2 (Ak _ m)) (fun b m o e=>aJ e (x.oX b m).1),.inl h3⟩
  ·exact c.nm z av (uG e fun _=>q)
theorem Sx.back (x:Sx F B K O ν k y T s) (a:Af W s s') (tab:Tab W T' F.X s'.heap):Thin (vw F.X s'.heap) (vw (O++F.X) s'.heap)∧Sx F B K O ν k y T' s' :=
 have th:Thin (vw F.X s'.heap) (vw (O++F.X) s'.heap):=fun b o f e=>aJ (bm e).1 fun m=>(Ao.mp m).elim (fun m=>by
  obtain ⟨o',e',f'⟩:=(x.oX b m).2.1;have:=(a.kp b o' (x.off0 m) e').symm.trans (bm e).1;obtain rfl:=As this;exact f f') (bm e).2
 ⟨th,x.af a (tab.thin th)⟩
theorem Sx.free (x:Sx F B K O ν k y T s):Sx F B K [] ν 0 y T s:=⟨x.all,fun _ m=>(nomatch m),.inl ⟨rfl,rfl⟩,x.same,x.kp,x.fk⟩
theorem Sx.store {z:Str}{v:Value}{av:AV}{E:Value→Shared→Prop}{P:Unit→Shared→Prop} (x:Sx F B K O ν k y T s) (hk:bz F.env z) (hv:V W (vw (O++F.X) s.heap) av v) (hn:k≠0→z≠y)
  (hν:∀w a,ν' w=some a→(w=z∧a=av)∨(w≠z∧ν w=some a)) (hy:∀a,k≠0→ν y=some a→ν' y=some a) (q:∀s',Sx F B K O ν' k y T s'→P () s'):Av (model W.prog W.w) F.A (storeName F.env z v) P E s:=by
 refine x.cx.store (ρ':=hid k y ν') hk (fun w a e=>?_) fun h' tk p kp sp cx' ly _=>q _ ?_
 ·obtain ⟨e1,e2⟩:=ic e;exact (hν w a e1).imp (fun (e:w=z∧a=av)=>⟨e.1,by refine rwC (e.2 ..) ?_;exact hv⟩) fun e=>⟨e.1,uG e.2 e2⟩
 ·have hp:p∈F.X∧p∉W.X0∧∀o,¬K p o:=sp.elim (fun e=>e.2▸⟨F.locX,F.loc0,x.fk.loc⟩) fun e=>⟨(F.cellX _ _ e.2).1,(F.cellX _ _ e.2).2.1,x.fk.cell _ _ e.2⟩;have one:∀{b},b∈[p]→b=p:=Ae.mp;have on:On O s.heap h':=fun b m o e=>kp b o (fun q=>(x.oX b m).1 (one q▸hp.1)) e;have uv:Up (vw (O++F.X) s.heap) (vw (O++F.X) h'):=kp.vw (fun b m=>Ak _ (one m▸hp.1)) fun _ m=>.inl m;exact ⟨cx',fun b m=>⟨(x.oX b m).1,(x.oX b m).2.1.imp fun o q=>⟨on b m o q.1,q.2⟩,(x.oX b m).2.2⟩,
   x.own.imp id fun ⟨k0,a,av',h1,h2,h3,h4⟩=>⟨k0,a,av',hy _ k0 h1,h2,ly y _ (Ne.symm (hn k0)) h3,h4.mono on uv⟩,
   by have h:=x.same;refine rwC (h ..) ?_;exact rfl,fun b o n q=>kp b o (fun m=>hp.2.2 o (one m▸q)) (x.kp b o n q),x.fk⟩
theorem Sx.birth {z:Str}{a:Addr}{av:AV}{k':Nat}{E:Value→Shared→Prop}{P:Unit→Shared→Prop} (hk:bz F.env z) (cx:Cx (F.plus O) ν T s) (oX:∀a∈O,a∉F.X∧(∃o,s.heap.get? a=some o∧Fat o)∧∀o,¬K a o) (k0:k'≠0)
  (ow:OwnK W k' av a O (vw (O++F.X) s.heap) s.heap) (same:s={ B with heap:=s.heap,toks:=s.toks }) (hkp:∀b o,b∉W.X0→K b o→s.heap.get? b=some o) (fk:FK F K)
  (hν:∀w a,ν' w=some a→(w=z∧a=av)∨(w≠z∧ν w=some a)) (hz:ν' z=some av) (q:∀s',Sx F B K O ν' k' z T s'→P () s'):Av (model W.prog W.w) F.A (storeName F.env z (.ref a)) P E s:=by
 refine cx.store (ρ':=hid k' z ν') hk (fun w b e=>?_) fun h' tk p kp sp cx' ly lx=>q _ ?_
 ·obtain ⟨e1,e2⟩:=ic e;exact .inr ((hν w b e1).elim (fun e=>absurd e.1 (e2 k0)) id)
 ·have hp:p∈F.X∧∀o,¬K p o:=sp.elim (fun e=>e.2▸⟨F.locX,fk.loc⟩) fun e=>⟨(F.cellX _ _ e.2).1,fk.cell _ _ e.2⟩;have one:∀{b},b∈[p]→b=p:=Ae.mp;have on:On O s.heap h':=fun b m o e=>kp b o (fun q=>(oX b m).1 (one q▸hp.1)) e;have uv:Up (vw (O++F.X) s.heap) (vw (O++F.X) h'):=kp.vw (fun b m=>Ak _ (one m▸hp.1)) fun _ m=>.inl m;exact ⟨cx',fun b m=>⟨(oX b m).1,(oX b m).2.1.imp fun o q=>⟨on b m o q.1,q.2⟩,(oX b m).2.2⟩,.inr ⟨k0,a,av,hz,hk.1,lx,ow.mono on uv⟩,
   by refine rwC (same ..) ?_;exact rfl,fun b o n q=>kp b o (fun m=>hp.2 o (one m▸q)) (hkp b o n q),fk⟩
theorem Sx.dead (x:Sx F B K O ν k y T s) {b:Addr} (e:s.heap.get? b=none):b∉F.X∧∀o,¬K b o :=
 have nX:=x.all.hp.notX e
 ⟨nX,fun o h=>by have:=(x.kp b o (fun b0=>nX (F.x0 b b0).1) h).symm.trans e;exact Sn this⟩
theorem Sx.born {z:Str}{a:Addr}{av:AV}{k':Nat}{E:Value→Shared→Prop}{P:Unit→Shared→Prop} (x:Sx F B K [] ν 0 y T s) (hk:bz F.env z) (cx:Cx (F.plus O) ν T' s') (af:Af W s s') (hO:∀b∈O,s.heap.get? b=none∧∃o,s'.heap.get? b=some o∧Fat o) (k0:k'≠0)
  (ow:OwnK W k' av a O (vw (O++F.X) s'.heap) s'.heap) (hν:∀w a,ν' w=some a→(w=z∧a=av)∨(w≠z∧ν w=some a)) (hz:ν' z=some av) (q:∀s',Sx F B K O ν' k' z T' s'→P () s'):Av (model W.prog W.w) F.A (storeName F.env z (.ref a)) P E s' :=
 Sx.birth hk cx (fun b m=>⟨(x.dead (hO b m).1).1,(hO b m).2,(x.dead (hO b m).1).2⟩) k0 ow (by have h:=af.same;replace h:=(x.same ..)▸h;exact h) (fun b o n q=>af.kp b o n (x.kp b o n q)) x.fk hν hz q
theorem Sx.to {K':Addr→Obj→Prop} (x:Sx F B K O ν k y T s) (h:∀b o,b∉W.X0→K' b o→s.heap.get? b=some o) (fk:FK F K') (oK:∀a∈O,∀o,¬K' a o):Sx F B K' O ν k y T s :=
 ⟨x.cx,fun b m=>⟨(x.oX b m).1,(x.oX b m).2.1,oK b m⟩,x.own,x.same,h,fk⟩
theorem Sx.less {K':Addr→Obj→Prop} (x:Sx F B K O ν k y T s) (h:∀b o,K' b o→K b o):Sx F B K' O ν k y T s :=
 x.to (fun b o n q=>x.kp b o n (h b o q)) ⟨fun o q=>x.fk.loc o (h _ _ q),fun y c e o q=>x.fk.cell y c e o (h _ _ q)⟩ fun a m o q=>(x.oX a m).2.2 o (h _ _ q)
theorem Sx.also {C:Addr}{p:Obj} (x:Sx F B K O ν k y T s) (e:s.heap.get? C=some p) (nX:C≠F.env.locals∧(∀y,F.env.cells.lookup y≠some C)∧C∉O):Sx F B (fun b o=>K b o∨(b=C∧o=p)) O ν k y T s :=
 x.to (fun b o n q=>q.elim (x.kp b o n) fun q=>by refine rwC (q.1 ..) ?_;refine rwC (q.2 ..) ?_;exact e) ⟨fun o q=>q.elim (x.fk.loc o) fun q=>nX.1 q.1.symm,fun y c e o q=>q.elim (x.fk.cell y c e o) fun q=>nX.2.1 y (q.1▸e)⟩ fun a m o q=>q.elim ((x.oX a m).2.2 o) fun q=>nX.2.2 (q.1▸m)
theorem Sx.plus {Z:List Addr} (x:Sx F B K O ν k y T s) (af:Af W s s') (cx:Cx ((F.plus O).plus Z) (hid k y ν) T' s') (hZ:∀z∈Z,s.heap.get? z=none):Sx (F.plus Z) B K O ν k y T' s':=by
 have sub:∀b∈O++(Z++F.X),b∈Z++(O++F.X):=fun b m=>(Ao.mp m).elim (fun m=>Ak _ (Ap _ m)) fun m=>(Ao.mp m).elim (Ap _) fun m=>Ak _ (Ak _ m);have on:On O s.heap s'.heap:=fun b m o e=>af.kp b o (x.off0 m) e;have uv:Up (vw (O++F.X) s.heap) (vw (O++(Z++F.X)) s'.heap):=af.kp.vw (fun b m=>Ak _ (F.x0 b m).1) fun b m=>(Ao.mp (sub b m)).elim (fun m=>.inr (hZ b m)) .inl;have cx':Cx ((F.plus Z).plus O) (hid k y ν) T' s':=cx.swap (F':=(F.plus Z).plus O) (Z:=[]) rfl sub (fun _ _ _ e=>e) (fun _ h=>nomatch h) (fun h=>nomatch h) (fun _ _ _ h=>nomatch h);exact ⟨cx',fun b m=>⟨fun m'=>(Ao.mp m').elim (fun m'=>by obtain ⟨o,e,_⟩:=(x.oX b m).2.1;replace e:=(hZ b m' ..)▸e;exact nS e) (x.oX b m).1,(x.oX b m).2.1.imp fun o q=>⟨on b m o q.1,q.2⟩,(x.oX b m).2.2⟩,
  x.own.imp id fun ⟨k0,p,av,h1,h2,h3,h4⟩=>⟨k0,p,av,h1,h2,h3.kp af.kp F.loc0 (fun c e=>(F.cellX _ _ e).2.1),h4.mono on uv⟩,
  by have h:=af.same;replace h:=(x.same ..)▸h;exact h,fun b o n q=>af.kp b o n (x.kp b o n q),⟨x.fk.loc,x.fk.cell⟩⟩
theorem Sx.minus {Z:List Addr} (x:Sx (F.plus Z) B K O ν k y T s) (mv:Mv Z s s') (hZ:∀z∈Z,z∉F.X∧∀o,¬K z o):Sx F B K O ν k y T s':=by
 have nO:∀b∈O,b∉Z:=fun b m m'=>(x.oX b m).1 (Ap _ m');have on:On O s.heap s'.heap:=fun b m o e=>mv.kp b o (nO b m) e;have sub:∀b∈O++F.X,b∈O++(Z++F.X):=fun b m=>(Ao.mp m).elim (Ap _) fun m=>Ak _ (Ak _ m);have inZ:∀z∈Z,z∈O++(Z++F.X):=fun z m=>Ak _ (Ap _ m);have nl:F.env.locals∉Z:=fun m=>(hZ _ m).1 F.locX;have nc:∀x c,F.env.cells.lookup x=some c→c∉Z:=fun x c e m=>(hZ _ m).1 (F.cellX _ _ e).1;have cx:Cx (F.plus O) (hid k y ν) T s':=x.cx.swap (F':=F.plus O) rfl sub mv.kp (fun z m=>⟨inZ z m,fun q=>(hZ z m).1 (F.x0 z q).1,fun q=>(Ao.mp q).elim (fun q=>absurd m (nO z q)) fun q=>absurd q (hZ z m).1⟩) nl nc;exact ⟨cx,fun b m=>⟨fun q=>(x.oX b m).1 (Ak _ q),(x.oX b m).2.1.imp fun o q=>⟨on b m o q.1,q.2⟩,(x.oX b m).2.2⟩,
  x.own.imp id (fun zq1=>by obtain ⟨k0,p,av,h1,h2,h3,h4⟩:=zq1;exact ⟨k0,p,av,h1,h2,h3.kp mv.kp nl (nc _),h4.mono on (mv.kp.vw inZ fun b m=>.inl (sub b m))⟩),
  by have h:=mv.same;replace h:=(x.same ..)▸h;exact h,fun b o n q=>mv.kp b o (fun m=>(hZ b m).2 o q) (x.kp b o n q),⟨x.fk.loc,x.fk.cell⟩⟩
end
section
variable {W:Wd}{F:Fr W}{B:Shared}{K:Addr→Obj→Prop}{O O':List Addr}{ρ ν ν':Rho}{k:Nat}{y z:Str}{T T' T₁:Tbl}{s s':Shared}{Q:Flow→Shared→Prop}{px apos pos epos:Pos}{e:Expr}{av:AV}
theorem Loads.name {v:Value}{P:Value→Shared→Prop}{E:Value→Shared→Prop} (l:Loads s.heap F.env y v) (g:aP y=false) (q:P v s):Av (model W.prog W.w) F.A (eval (.Name y px) F.env) P E s:=by
 refine wpAny_Name ?_ (bad g).1;rcases l with ⟨a,m,hn,hm⟩ | ⟨a | a,c,hc,hv⟩
 ·exact wpAny_loadName_local F.kind a hn hm q
 ·exact wpAny_loadName_cell F.kind a hc hv q
 ·exact wpAny_loadName_free F.kind a hc hv q (bad g).2
theorem Cx.sub {ρ':Rho} (cx:Cx F ρ T s) (h:∀w a,ρ' w=some a→ρ w=some a):Cx F ρ' T s:=⟨cx.hp,fun w a e=>cx.nm w a (h w a e),cx.tab⟩
theorem oY (h:∀w a,ν' w=some a→w≠y→ν w=some a) (k0:k≠0) (w:Str) (a:AV) (e:hid k y ν' w=some a):hid k y ν w=some a:=by obtain ⟨e1,e2⟩:=ic e;exact uG (h w a e1 (e2 k0)) e2
theorem mX (F:Fr W):interactive F.env=false:=by unfold interactive;refine rwC (F.kind ..) ?_;rfl
theorem Sx.mut {Z:List Addr}{av':AV} (x:Sx F B K O ν k y T s) (k0:k≠0) (mv:Mv Z s s') (hZ:∀z∈Z,z∈O∨z∈W.X0) (cx:Cx (F.plus O') (hid k y ν') T' s') (new:∀b∈O',b∈O∨s.heap.get? b=none) (fat:∀b∈O',∃o,s'.heap.get? b=some o∧Fat o) (hy:ν' y=some av')
  (ow:∀a av,ν y=some av→OwnK W k av a O (vw (O++F.X) s.heap) s.heap→OwnK W k av' a O' (vw (O'++F.X) s'.heap) s'.heap):Sx F B K O' ν' k y T' s':=by
 have nZ:∀{b},b∈F.X→b∉W.X0→b∉Z:=fun h h0 m=>(hZ _ m).elim (fun q=>(x.oX _ q).1 h) h0;refine ⟨cx,fun b m=>?_,?_,by have h:=mv.same;replace h:=(x.same ..)▸h;exact h,fun b o n q=>mv.kp b o (fun m=>(hZ b m).elim (fun m=>(x.oX b m).2.2 o q) n) (x.kp b o n q),x.fk⟩
 ·refine bc fun zz=>?_;rcases new b m with q | q
  ·refine zz ?_;exact ⟨(x.oX b q).1,fat b m,(x.oX b q).2.2⟩
  ·refine zz ?_;have nX:=x.all.hp.notX q;refine ⟨nX,fat b m,fun o h=>?_⟩;have:=(x.kp b o (fun b0=>nX (F.x0 b b0).1) h).symm.trans q;exact Sn this
 ·refine bc fun zz=>?_;rcases x.own with ⟨k1,_⟩ | ⟨_,a,av,h1,h2,h3,h4⟩
  ·refine zz ?_;exact absurd k1 k0
  ·refine zz ?_;exact .inr ⟨k0,a,av',hy,h2,h3.kp mv.kp (nZ F.locX F.loc0) (fun c e=>nZ (F.cellX _ _ e).1 (F.cellX _ _ e).2.1),ow a av h1 h4⟩
theorem Sx.mut1 {a:Addr}{h':Heap}{tk:Nat}{av':AV} (x:Sx F B K O ν k y T s) (k0:k≠0) (m:a∈O) (k':Kp [a] s.heap h') (fat:∃o,h'.get? a=some o∧Fat o) (hN:∀w a,ν' w=some a→w≠y→ν w=some a) (hy:ν' y=some av')
  (ow:∀b av,ν y=some av→Up (vw (O++F.X) s.heap) (vw (O++F.X) h')→OwnK W k av b O (vw (O++F.X) s.heap) s.heap→OwnK W k av' b O (vw (O++F.X) h') h'):Sx F B K O ν' k y T { s with heap:=h',toks:=tk }:=by
 have one:∀{b},b∈[a]→b=a:=Ae.mp;refine x.mut (s':={ s with heap:=h',toks:=tk }) (Z:=[a]) k0 ⟨rfl,k'⟩ (fun z h=>.inl (one h▸m)) ((x.cx.at (s':={ s with heap:=h',toks:=tk }) k' (fun z h=>?_) (fun h=>(x.oX _ m).1 (one h▸F.locX)) fun _ c e h=>(x.oX _ m).1 (one h▸(F.cellX _ _ e).1)).sub (oY hN k0))
  (fun b h=>.inl h) (fun b h=>if q:b=a then q▸fat else (x.oX b h).2.1.imp fun o e=>⟨k' b o (fun m=>q (one m)) e.1,e.2⟩) hy fun b av eb=>ow b av eb (k'.vw (fun b h=>one h▸Ap _ m) fun _ h=>.inl h)
 refine rwC (one h ..) ?_;exact ⟨Ap _ m,x.off0 m,fat.imp fun o e=>e.1⟩
theorem st_nil {p:Pos} (x:Sx F B K O ν k y T s) (hk:bz F.env z) (hν:∀w a,ν' w=some a→(w=z∧a=.list [])∨(w≠z∧ν w=some a)) (hz:ν' z=some (.list []))
  (hsw:swapsWith (.List [] p) (some (.Name z px)) pos.line F.env=pure false) (q:∀O' s',Sx F B K O' ν' 1 z T s'→Q .next s'):Av (model W.prog W.w) F.A (exec (.Assign [.Name z px] (.List [] p) pos) F.env) Q NoE s:=by
 have u:Up s.heap (s.heap.push (cr "list" #[] 0)):=fun _ _ e=>Heap.get?_push_of_some _ e;have ge:(s.heap.push (cr "list" #[] 0)).get? s.heap.objs.size=some (cr "list" #[] 0):=Heap.get?_push_size _ rfl;refine wpAny_Assign_Name (List_ (Calls.spliced_nil (wpAny_newList ?_ (Bj _)))) hsw;exact x.free.born (s':={ s with heap:=s.heap.push (cr "list" #[] 0) }) (k':=1) hk (x.all.pushed ⟨_,ge⟩) (.grow (k:=s.toks) u) (fun b m=>by refine rwC (Ae.mp m ..) ?_;exact ⟨aF _,_,ge,.inl rfl⟩) (by decide) (av:=.list []) (show _∧_ from ⟨rfl,rfl,⟨#[],0,ge,by exact rfl⟩,Bj _⟩) hν hz (q _)
theorem st_dict {p:Pos} (hm:∃o,W.h₀.get? sysModules=some o) (x:Sx F B K O ν k y T s) (hk:bz F.env z) (hν:∀w a,ν' w=some a→(w=z∧a=.idict [])∨(w≠z∧ν w=some a)) (hz:ν' z=some (.idict []))
  (hsw:swapsWith (.Dict [] [] p) (some (.Name z px)) pos.line F.env=pure false) (q:∀O' s',Sx F B K O' ν' 2 z T s'→Q .next s'):Av (model W.prog W.w) F.A (exec (.Assign [.Name z px] (.Dict [] [] p) pos) F.env) Q NoE s:=by
 refine wpAny_Assign_Name (wpAny_Dict_empty ?_) hsw;obtain ⟨ep,hd⟩:=(Heap.DictOf.new (knd:=intKind W.prog W.w) s.heap).dictAt;have ge:(s.heap.push { cls:=.type "dict",data:=.dict #[] }).get? s.heap.objs.size=some { cls:=.type "dict",data:=.dict #[] }:=Heap.get?_push_size _ rfl;exact x.free.born (s':={ s with heap:=s.heap.push { cls:=.type "dict",data:=.dict #[] } }) (k':=2) hk (x.all.pushed ⟨_,ge⟩) (.grow (k:=s.toks) fun _ _ e=>Heap.get?_push_of_some _ e) (fun b m=>by refine rwC (Ae.mp m ..) ?_;exact ⟨aF _,_,ge,.inr rfl⟩) (by decide)
  (av:=.idict []) (show _∧_ from ⟨rfl,rfl,⟨_,[],ep,rfl,hd,⟨rfl,IntsAre.nil⟩,not_modules x.all hm⟩,Bj _⟩) hν hz (q _)
theorem uX {L:List AV→Tbl→Prop}{F:Fr W} (hp:kdsPlain e=true) (h:EvE F ρ e T fun v T=>L [v] T):EvS F ρ pos [e] T L:=qu hp (h.mono fun v T q=>uY q)
theorem own1 (x:Sx F B K O ν 1 y T s) (hy:ν y=some av):∃a,O=[a]∧aP y=false∧Loads s.heap F.env y (.ref a)∧av.k=5∧ListAt W (vw (O++F.X) s.heap) s.heap av.l a:=by
 refine bc fun zz=>?_;rcases x.own with ⟨k1,_⟩ | ⟨_,a,av',h1,h2,h3,h4⟩
 ·refine zz ?_;cases k1
 refine zz ?_;rw [hy] at h1;obtain rfl:=As h1;refine bc fun zz=>?_;rcases ad h4 with ⟨_,e5,e,q⟩ | h4
 ·refine zz ?_;exact ⟨a,e,h2,h3,e5,q⟩
 rcases ad h4 with ⟨k1,_⟩ | h4
 ·refine zz ?_;cases k1
 rcases ad h4 with ⟨k1,_⟩ | h4
 ·refine zz ?_;cases k1
 ·refine zz ?_;exact h4.elim
theorem own2 (x:Sx F B K O ν 2 y T s) (hy:ν y=some av):∃a,O=[a]∧aP y=false∧Loads s.heap F.env y (.ref a)∧av.k=8∧DictV (intKind W.prog W.w) s.heap (.ref a) av.d:=by
 refine bc fun zz=>?_;rcases x.own with ⟨k1,_⟩ | ⟨_,a,av',h1,h2,h3,h4⟩
 ·refine zz ?_;cases k1
 refine zz ?_;rw [hy] at h1;obtain rfl:=As h1;refine bc fun zz=>?_;rcases ad h4 with ⟨k1,_⟩ | h4
 ·refine zz ?_;cases k1
 rcases ad h4 with ⟨_,e5,e,q⟩ | h4
 ·refine zz ?_;exact ⟨a,e,h2,h3,e5,q⟩
 rcases ad h4 with ⟨k1,_⟩ | h4
 ·refine zz ?_;cases k1
 ·refine zz ?_;exact h4.elim
theorem sI {P:AV→Tbl→Prop}{N:AV→Rho} (x:Sx F B K O ν 1 y T s) (hy:ν y=some av) (ho:bq apos pos [e]=true) (hp:kdsPlain e=true) (hN:∀v,(∀w a,N v w=some a→w≠y→ν w=some a)∧N v y=some (.list (av.l++[v]))) (h:EvE (F.plus O) (hid 1 y ν) e T P)
  (q:∀v T₁,P v T₁→av.l.length<cap∧∀s',Sx F B K O (N v) 1 y T₁ s'→Q .next s'):Av (model W.prog W.w) F.A (exec (.Expr (.Call (.Attribute (.Name y px) "append" apos) [e] [] pos) epos) F.env) Q NoE s:=by
 have hps:[e].all kdsPlain=true:=by refine rwC (List.all_cons ..) ?_;refine rwC (hp ..) ?_;rfl
 refine bc fun zz=>?_;refine eE1 (own1 x hy) fun a zt2=>aA6 zt2 fun eO h2 h3 e5 zk1 c=>?_;obtain ⟨vs,n,eq,hv⟩:=zk1;refine zz ?_;subst eO;refine wpAny_Expr (oQ rfl ho hps (h3.name h2 fun pl=>?_)) (mX F) rfl;refine Calls.getMethod_list_append eq rfl rfl (jv hps (Ev.then (F:=F.plus [a]) (uX (L:=fun l T=>∃v,l=[v]∧P v T) hp (h.mono fun v T q=>⟨v,rfl,q⟩)) x.cx fun us s₁ l T₁ hu cx₁ af p=>?_));refine bc fun zz=>?_;obtain ⟨v,zr1,p⟩:=p;refine zz ?_;subst zr1;refine bc fun zz=>?_;obtain ⟨hl,q⟩:=q v T₁ p;refine zz ?_;have x₁:=x.af af cx₁.tab;refine bc fun zz=>?_;refine eE1 (own1 x₁ hy) fun b zt4=>aA6 zt4 fun eO _ h3 _ zk3 _=>?_;obtain ⟨vs,n,eq,hv⟩:=zk3;refine zz ?_;cases eO;refine bc fun zz=>?_;refine eE1 (hu.one) fun w zt5=>aA2 zt5 fun zr2 hw=>?_;refine zz ?_;subst zr2;refine append_at (hsz:=qA (by refine rwC (hv.size ..) ?_;exact c)) eq fun h' sb hD=>q _ ?_;have k':Kp [a] s₁.heap h':=.but sb;refine x₁.mut1 (tk:=s₁.toks) (by decide) (.head _) k' ⟨_,hD,.inl rfl⟩ (hN v).1 (hN v).2 fun b bv eb uv ow=>?_;refine bc fun zz=>?_;rcases ad ow with ⟨_,_,e,_⟩ | ow
 ·refine zz ?_;cases e;refine (show _∧_ from ⟨rfl,rfl,⟨_,_,hD,?_⟩,?_⟩)
  ·refine rwC (Ca ..) ?_;exact (hv.mono uv).append ⟨_,_,rfl,hw.mono uv,by exact rfl⟩
  ·refine (?_:(av.l++[v]).length≤cap);refine rwC (Ar ..) ?_;exact hl
 rcases ad ow with ⟨k1,_⟩ | ow
 ·refine zz ?_;cases k1
 rcases ad ow with ⟨k1,_⟩ | ow
 ·refine zz ?_;cases k1
 ·refine zz ?_;exact ow.elim
theorem st_put {i:Expr}{N:AV→AV→Rho}{P:AV→AV→Tbl→Prop} (x:Sx F B K O ν 2 y T s) (hy:ν y=some av) (hN:∀v i,(∀w a,N v i w=some a→w≠y→ν w=some a)∧N v i y=some (.idict (cZ i.i v.i av.d)))
  (h:EvE (F.plus O) (hid 2 y ν) e T fun v T=>EvE (F.plus O) (hid 2 y ν) i T (P v)) (hsw:swapsWith e (some (.Subscript (.Name y px) i pos)) apos.line F.env=pure false)
  (q:∀v i T₁,P v i T₁→(v.k=2∧i.k=2∧av.d.length<cap)∧∀s',Sx F B K O (N v i) 2 y T₁ s'→Q .next s'):Av (model W.prog W.w) F.A (exec (.Assign [.Subscript (.Name y px) i pos] e apos) F.env) Q NoE s:=by
 refine wpAny_Assign_Subscript (Ev.then (F:=F.plus O) h x.cx fun u s₁ v T₁ hu cx₁ af p=>?_) hsw;have x₁:=x.af af cx₁.tab;refine bc fun zz=>?_;refine eE1 (own2 x₁ hy) fun a zt6=>aA5 zt6 fun eO h2 h3 _ _=>?_;refine zz ?_;refine h3.name h2 (Ev.then (F:=F.plus O) p cx₁ fun j s₂ iv T₂ hj cx₂ af₂ p=>?_);refine bc fun zz=>?_;refine aA2 (q v iv T₂ p) fun zk7 q=>?_;obtain ⟨e1,e2,hl⟩:=zk7;refine zz ?_;have x₂:=x₁.af af₂ cx₂.tab;refine bc fun zz=>?_;refine eE1 (own2 x₂ hy) fun b zt9=>aA5 zt9 fun eO' _ _ _ zk8=>?_;obtain ⟨⟨p,kvs,ep,ep',hd,hp,hm⟩,c⟩:=zk8;refine zz ?_;subst eO;cases eO';obtain rfl:=Value.ref.inj ep';refine bc fun zz=>?_;refine eE1 (hu.int e1) fun t zr1=>?_;refine zz ?_;subst zr1;refine bc fun zz=>?_;refine eE1 (hj.int e2) fun t' zr2=>?_;refine zz ?_;subst zr2;have hlen:kvs.length=av.d.length:=(Aj (·.1)).symm.trans ((congrArg List.length hp.1).trans (Aj _));have hdo:=hd.dictOf;refine wpAny_setItem_pairs (knd:=intKind W.prog W.w) (k:=iv.i) (by simp [intKind,Value.isInt]) hdo (fun h' hD sb=>q _ ?_) (by refine rwC (hlen ..) ?_;exact qA c);have k':Kp [a] s₂.heap h':=.but sb;refine bc fun zz=>?_;refine eE1 (hD.dictAt) fun ep₂ hD'=>?_;refine eE2 (id hD') fun ob es zt10=>aA3 zt10 fun eob hex _=>?_;refine zz ?_;refine x₂.mut1 (by decide) (.head _) k' ⟨_,eob,.inr hex.1⟩ (hN v iv).1 (hN v iv).2 fun b bv eb uv ow=>?_;refine bc fun zz=>?_;rcases ad ow with ⟨k1,_⟩ | ow
 ·refine zz ?_;cases k1
 rcases ad ow with ⟨_,_,e,_⟩ | ow
 ·refine zz ?_;cases e;refine (show _∧_ from ⟨rfl,rfl,⟨_,_,ep₂,rfl,hD',hp.stored (k:=iv.i) (v:=v.i) (t:=t) hd.nodup,hm⟩,?_⟩);have:=kZ iv.i v.i av.d;refine (?_:(cZ iv.i v.i av.d).length≤cap);lia
 rcases ad ow with ⟨k1,_⟩ | ow
 ·refine zz ?_;cases k1
 ·refine zz ?_;exact ow.elim
end
section
variable {W:Wd}{F:Fr W}{B:Shared}{K:Addr→Obj→Prop}{O O':List Addr}{ρ ν ν':Rho}{k:Nat}{y z:Str}{T T' T₁:Tbl}{s s':Shared}{Q:Flow→Shared→Prop}{p px apos pos epos:Pos}{e:Expr}{av:AV}{g h:Heap}
theorem own3 (x:Sx F B K O ν 3 y T s) (hy:ν y=some av):∃a bs n,O=a::bs∧aP y=false∧Loads s.heap F.env y (.ref a)∧av.k=5∧(s.heap.get? a=some (cr "list" (bs.map Value.ref).toArray n)∧NestOk W (vw (O++F.X) s.heap) s.heap av.l bs)∧O.Nodup∧av.l.length≤cap:=by
 refine bc fun zz=>?_;rcases x.own with ⟨k1,_⟩ | ⟨_,a,av',h1,h2,h3,h4⟩
 ·refine zz ?_;cases k1
 refine zz ?_;rw [hy] at h1;obtain rfl:=As h1;refine bc fun zz=>?_;rcases ad h4 with ⟨k1,_⟩ | h4
 ·refine zz ?_;cases k1
 rcases ad h4 with ⟨k1,_⟩ | h4
 ·refine zz ?_;cases k1
 rcases ad h4 with ⟨_,e5,bs,n,e,q⟩ | h4
 ·refine zz ?_;exact ⟨a,bs,n,e,h2,h3,e5,q⟩
 ·refine zz ?_;exact h4.elim
theorem NestOk.append:∀{l m:List AV}{bs cs:List Addr},NestOk W g h l bs→NestOk W g h m cs→NestOk W g h (l++m) (bs++cs)
 | [],_,_,_,x,y=>by have x:_=[]:=x;refine rwC (x ..) ?_;exact y
 | _::_,_,_,_,⟨b,r,e,x,x'⟩,y=>⟨b,r++_,by refine rwC (e ..) ?_;rfl,x,x'.append y⟩
theorem NestOk.length:∀{l:List AV}{bs:List Addr},NestOk W g h l bs→l.length=bs.length
 | [],_,x=>by have x:_=[]:=x;refine rwC (x ..) ?_;rfl
 | _::_,_,⟨b,r,e,x,x'⟩=>by refine rwC (e ..) ?_;exact congrArg (·+1) x'.length
theorem NestOk.last {m:AV}:∀{l:List AV}{bs:List Addr},NestOk W g h l bs→l.getLast?=some m→∃bs₀ b,bs=bs₀++[b]∧l=l.dropLast++[m]∧NestOk W g h l.dropLast bs₀∧m.k=5∧ListAt W g h m.l b
 | [],_,_,e=>nomatch e
 | [a],_,⟨b,r,e,x,x'⟩,q=>by obtain rfl:=As q;have x':_=[]:=x';exact ⟨[],b,by refine rwC (e ..) ?_;refine rwC (x' ..) ?_;rfl,rfl,by exact rfl,x⟩
 | a::a'::l,_,⟨b,r,e,x,x'⟩,q=>by
  rw [List.getLast?_cons_cons] at q;refine bc fun zz=>?_;refine eE2 (NestOk.last x' q) fun bs₀ c zt1=>aA4 zt1 fun e1 e2 e3 e4=>?_;refine zz ?_;exact ⟨b::bs₀,c,by refine rwC (e ..) ?_;refine rwC (e1 ..) ?_;rfl,congrArg (a::·) e2,⟨b,bs₀,rfl,x,e3⟩,e4⟩
theorem ub {O:List Addr}{a:Addr}{av:AV} (h:OwnK W 3 av a O g h'):av.k=5∧∃bs n,O=a::bs∧(h'.get? a=some (cr "list" (bs.map Value.ref).toArray n)∧NestOk W g h' av.l bs)∧O.Nodup∧av.l.length≤cap:=by
 rcases ad h with ⟨k1,_⟩ | h
 ·cases k1
 rcases ad h with ⟨k1,_⟩ | h
 ·cases k1
 rcases ad h with ⟨_,q⟩ | h
 ·exact q
 ·exact h.elim
theorem st_nest {p2:Pos} (x:Sx F B K O ν k y T s) (hk:bz F.env z) (hν:∀w a,ν' w=some a→(w=z∧a=.list [.list []])∨(w≠z∧ν w=some a)) (hz:ν' z=some (.list [.list []]))
  (hsw:swapsWith (.List [.List [] p] p2) (some (.Name z px)) pos.line F.env=pure false) (q:∀O' s',Sx F B K O' ν' 3 z T s'→Q .next s'):Av (model W.prog W.w) F.A (exec (.Assign [.Name z px] (.List [.List [] p] p2) pos) F.env) Q NoE s:=by
 refine wpAny_Assign_Name (List_ ?_) hsw;have he:backTo p2 (starEach [.List [] p] F.env)=(false,eval (.List [] p) F.env)::backTo p2 (starEach [] F.env):=rfl;refine rwC (he ..) ?_;refine Calls.spliced_cons (List_ (Calls.spliced_nil (wpAny_newList (Calls.spliced_nil (wpAny_newList ?_ (by show 1≤sizeLine;decide))) (Bj _))));have h1:(s.heap.push (cr "list" #[] 0)).objs.size=s.heap.objs.size+1:=Heap.size_push ..;have gb:∀o,((s.heap.push (cr "list" #[] 0)).push o).get? s.heap.objs.size=some (cr "list" #[] 0):=fun o=>Heap.get?_push_of_some _ (Heap.get?_push_size _ rfl);have ga:=Heap.get?_push_size (s.heap.push (cr "list" #[] 0)) (o:=cr "list" ([s.heap.objs.size].map Value.ref).toArray 0) rfl;have na:s.heap.get? (s.heap.push (cr "list" #[] 0)).objs.size=none:=fq (by refine rwC (h1 ..) ?_;exact Cf _);have nb:s.heap.get? s.heap.objs.size=none:=aF _;have ne:(s.heap.push (cr "list" #[] 0)).objs.size≠s.heap.objs.size:=by refine rwC (h1 ..) ?_;exact Cp (Nat.lt_succ_self _)
 have u:Up s.heap ((s.heap.push (cr "list" #[] 0)).push (cr "list" ([s.heap.objs.size].map Value.ref).toArray 0)):=fun _ _ e=>Heap.get?_push_of_some _ (Heap.get?_push_of_some _ e);refine (?_:Av _ _ (storeName F.env z (.ref (s.heap.push (cr "list" #[] 0)).objs.size)) _ _ { s with heap:=(s.heap.push (cr "list" #[] 0)).push (cr "list" ([s.heap.objs.size].map Value.ref).toArray 0) });generalize (s.heap.push (cr "list" #[] 0)).objs.size=a at *;generalize s.heap.objs.size=b at *;have two:∀c∈[a,b],s.heap.get? c=none∧∃o,((s.heap.push (cr "list" #[] 0)).push (cr "list" ([b].map Value.ref).toArray 0)).get? c=some o∧Fat o:=fun c m=>(Ai.mp m).elim (fun e=>by refine rwC (e ..) ?_;exact ⟨na,_,ga,.inl rfl⟩) fun m=>by refine rwC (Ae.mp m ..) ?_;exact ⟨nb,_,gb _,.inl rfl⟩
 exact x.free.born (O:=[a,b]) (s':={ s with heap:=(s.heap.push (cr "list" #[] 0)).push (cr "list" ([b].map Value.ref).toArray 0) }) (k':=3) (av:=.list [.list []]) hk (x.all.plus u fun c m=>⟨(two c m).1,(two c m).2.imp fun _ q=>q.1⟩) (.grow (k:=s.toks) u) two (by decide)
  (show _∧_ from ⟨rfl,[b],0,rfl,⟨ga,by exact ⟨b,[],rfl,⟨rfl,⟨#[],0,gb _,by exact rfl⟩,Bj _⟩,rfl⟩⟩,by simpa using ne,by show 1≤cap;decide⟩) hν hz (q _)
theorem lZ (x:Sx F B K O ν 3 y T s) (hy:ν y=some av) (ho:bq apos pos [.List [] p]=true) (hl:av.l.length<cap) (hN:∀w a,ν' w=some a→w≠y→ν w=some a) (hN2:ν' y=some (.list (av.l++[.list []])))
  (q:∀O' s',Sx F B K O' ν' 3 y T s'→Q .next s'):Av (model W.prog W.w) F.A (exec (.Expr (.Call (.Attribute (.Name y px) "append" apos) [.List [] p] [] pos) epos) F.env) Q NoE s:=by
 have hps:[Expr.List [] p].all kdsPlain=true:=rfl;refine bc fun zz=>?_;refine eE3 (own3 x hy) fun a bs n zt3=>aA7 zt3 fun eO h2 h3 e5 zk2 nd c=>?_;obtain ⟨eq,hv⟩:=zk2;refine zz ?_;subst eO;refine wpAny_Expr (oQ rfl ho hps (h3.name h2 fun pl=>?_)) (mX F) rfl;refine Calls.getMethod_list_append eq rfl rfl (jv hps ?_);have he:backTo pos (starEach [.List [] p] F.env)=(false,eval (.List [] p) F.env)::backTo pos (starEach [] F.env):=rfl;refine rwC (he ..) ?_;refine Calls.spliced_cons (List_ (Calls.spliced_nil (wpAny_newList (Calls.spliced_nil ?_) (Bj _))));have nb:s.heap.get? s.heap.objs.size=none:=aF _;have gb:(s.heap.push (cr "list" #[] 0)).get? s.heap.objs.size=some (cr "list" #[] 0):=Heap.get?_push_size _ rfl;have u:Up s.heap (s.heap.push (cr "list" #[] 0)):=fun _ _ e=>Heap.get?_push_of_some _ e;have len:=hv.length;refine append_at (s:={ s with heap:=s.heap.push (cr "list" #[] 0) }) (hsz:=qA (by refine rwC (List.size_toArray ..) ?_;refine rwC (Aj ..) ?_;refine rwD (len ..) ?_;exact c)) (u _ _ eq) fun h' sb hD=>q (a::(bs++[s.heap.objs.size])) _ ?_;have k':Kp [a] (s.heap.push (cr "list" #[] 0)) h':=.but sb;have one:∀{b},b∈[a]→b=a:=Ae.mp;have ab:s.heap.objs.size∉[a]:=fun m=>by replace nb:=(one m ..)▸nb;replace nb:=(eq ..)▸nb;exact Sn nb
 have gb':=k' _ _ ab gb;have nX:=x.all.hp.notX nb;have sub:∀b∈(a::(bs++[s.heap.objs.size]))++F.X,b∈[s.heap.objs.size]++((a::bs)++F.X):=fun b m=>by
  simp only [Ao,Ai,BV,or_false] at m ⊢;rcases m with (m | m | m) | m <;> simp only [m,true_or,or_true]
 have cx₁:Cx ((F.plus (a::bs)).plus [s.heap.objs.size]) (hid 3 y ν) T { s with heap:=s.heap.push (cr "list" #[] 0) }:=x.cx.pushed ⟨_,gb⟩;have cx₂:Cx (F.plus (a::(bs++[s.heap.objs.size]))) (hid 3 y ν) T { s with heap:=h' }:=cx₁.swap (F':=F.plus (a::(bs++[s.heap.objs.size]))) rfl sub k' (fun z m=>⟨Ak _ (Ap _ (one m▸.head _)),x.off0 (one m▸.head _),fun _=>by refine rwC (one m ..) ?_;exact ⟨_,hD⟩⟩) (fun m=>(x.oX a (.head _)).1 (one m▸F.locX)) fun _ c e m=>(x.oX a (.head _)).1 (one m▸(F.cellX _ _ e).1);have ug:Up (vw ((a::bs)++F.X) s.heap) (vw ((a::(bs++[s.heap.objs.size]))++F.X) h'):=fun b o e=>by
  have e':=bm e;refine aJ (k' b o (fun m=>e'.2 (Ap _ (one m▸.head _))) (u b o e'.1)) fun m=>?_;refine bc fun zz=>?_;rcases Ao.mp (sub b m) with m | m
  ·refine zz ?_;replace e':=(Ae.mp m ..)▸e';replace e':=(nb ..)▸e';cases e'.1
  ·refine zz ?_;exact e'.2 m
 refine x.mut (s':={ s with heap:=h' }) (Z:=[a]) (by decide) ⟨rfl,fun b o n e=>k' b o n (u b o e)⟩ (fun z m=>.inl (one m▸.head _)) (cx₂.sub (oY hN (by decide))) (fun b m=>?_) (fun b m=>?_) hN2 fun b bv eb ow=>?_
 ·refine bc fun zz=>?_;rcases Ai.mp m with m | m
  ·refine zz ?_;refine rwC (m ..) ?_;exact .inl (.head _)
  ·refine zz ?_;exact (Ao.mp m).imp (.tail _) fun m=>by refine rwC (Ae.mp m ..) ?_;exact nb
 ·by_cases m':b∈[a]
  ·refine rwC (one m' ..) ?_;exact ⟨_,hD,.inl rfl⟩
  ·refine bc fun zz=>?_;rcases Ai.mp m with m | m
   ·refine zz ?_;exact absurd (m▸.head _) m'
   rcases Ao.mp m with m | m
   ·refine zz ?_;exact (x.oX b (.tail _ m)).2.1.imp fun o q=>⟨k' b o m' (u b o q.1),q.2⟩
   ·refine zz ?_;refine rwC (Ae.mp m ..) ?_;exact ⟨_,gb',.inl rfl⟩
 ·cases hy.symm.trans eb;refine bc fun zz=>?_;obtain ⟨_,bs',n',e,⟨_,hv⟩,_⟩:=ub ow;refine zz ?_;obtain ⟨rfl,rfl⟩:=List.cons.inj e;refine bc fun zz=>?_;refine aA2 (Bb.mp nd) fun n1 n2=>?_;refine zz ?_;have hv':=hv.mono (h':=h') ug fun b m o e=>k' b o (fun m'=>n1 (one m'▸m)) (u b o e);refine (show _∧_ from ⟨rfl,bs++[s.heap.objs.size],n+1,rfl,⟨?_,hv'.append (m:=[.list []]) (cs:=[s.heap.objs.size]) (by exact ⟨_,[],rfl,⟨rfl,⟨#[],0,gb',by exact rfl⟩,Bj _⟩,rfl⟩)⟩,?_,?_⟩)
  ·have:(bs.map Value.ref).toArray.push (Value.ref s.heap.objs.size)=((bs++[s.heap.objs.size]).map Value.ref).toArray:=by refine rwC (AI ..) ?_;refine rwC (List.push_toArray ..) ?_;rfl
   refine rwD (this ..) ?_;exact hD
  ·refine Bb.mpr ⟨fun m=>(Ao.mp m).elim n1 fun m=>ab (Ae.mp m▸.head _),BI.mpr ⟨n2,Bb.mpr ⟨fun m=>(nomatch m),List.nodup_nil⟩,fun b m c m' q=>?_⟩⟩;replace m:=(q ..)▸m;replace m:=(Ae.mp m' ..)▸m;refine bc fun zz=>?_;refine eE1 ((x.oX _ (.tail _ m)).2.1) fun o zt4=>aA2 zt4 fun e _=>?_;refine zz ?_;replace e:=(nb ..)▸e;exact nS e
  ·refine (?_:(av.l++[Ad []]).length≤cap);refine rwC (Ar ..) ?_;exact hl
end
noncomputable def aw (W:Wd) (n:Nat) (f:Str) (d:List (Int×Int)) (T:Tbl) (Q:List (Int×Int)→Tbl→Prop):Prop:=∃a,W.faddr f=some a∧∀(A:Around) (X:List Addr) (s:Shared) (g:Addr),AOk (n+1) A→XOk W X s.heap→Tab W T X s.heap→DictV (intKind W.prog W.w) s.heap (.ref g) d→g∉X→W.h₀.get? g=none →
 codeAny (model W.prog W.w) A (.call (.ref a) ⟨[.ref g],[]⟩) (fun r s'=>r=.ok (.ret .none)∧∃d' T',DictV (intKind W.prog W.w) s'.heap (.ref g) d'∧Tab W T' ([g]++X) s'.heap∧Mv (g::W.X0) s s'∧Q d' T') s
section
variable {W:Wd}{F:Fr W}{B:Shared}{K:Addr→Obj→Prop}{O O':List Addr}{ρ ν ν' G:Rho}{k n:Nat}{y z:Str}{T T' T₁:Tbl}{s s':Shared}{Q:Flow→Shared→Prop}{p px apos pos epos:Pos}{e:Expr}{av:AV}{g h:Heap}
theorem own3_mk {a:Addr}{av:AV} (x:av.k=5∧∃bs n,O=a::bs∧(h.get? a=some (cr "list" (bs.map Value.ref).toArray n)∧NestOk W g h av.l bs)∧O.Nodup∧av.l.length≤cap):OwnK W 3 av a O g h:=x
theorem kK {kk:Nat}{p1 p2 p3:Pos}{P:AV→Tbl→Prop}{N:AV→Rho}{m:AV} (x:Sx F B K O ν 3 y T s) (hy:ν y=some av) (hm:av.l.getLast?=some m) (ho:bq apos pos [e]=true) (hp:kdsPlain e=true) (h:EvE (F.plus O) (hid 3 y ν) e T P)
  (hN:∀v,(∀w a,N v w=some a→w≠y→ν w=some a)∧N v y=some (.list (av.l.dropLast++[.list (m.l++[v])]))) (q:∀v T₁,P v T₁→m.l.length<cap∧∀s',Sx F B K O (N v) 3 y T₁ s'→Q .next s') :
  Av (model W.prog W.w) F.A (exec (.Expr (.Call (.Attribute (.Subscript (.Name y px) (.UnaryOp .USub (.Constant (.int 1) kk p1) p2) p3) "append" apos) [e] [] pos) epos) F.env) Q NoE s:=by
 have hps:[e].all kdsPlain=true:=by rw [List.all_cons,hp];rfl
 refine bc fun zz=>?_;refine eE3 (own3 x hy) fun a bs n zt2=>aA7 zt2 fun eO h2 h3 e5 zk1 nd c=>?_;obtain ⟨eq,hv⟩:=zk1;refine eE2 (hv.last hm) fun bs₀ b zt4=>aA6 zt4 fun eb el hv₀ m5 zk3 cb=>?_;obtain ⟨vs,nn,eqb,hvs⟩:=zk3;refine zz ?_;have len:=hv.length;have lenb:bs.length=bs₀.length+1:=by rw [eb,Ar];rfl
 have mb:b∈O:=by rw [eO,eb];exact .tail _ (Ak _ (.head _))
 have c63:=ju c;refine wpAny_Expr (oQ rfl ho hps (subN (h3.name h2 ?_))) (mX F) rfl;refine Ev.then (F:=F.plus O) (Q:=fun v T'=>v=.int (-1)∧T'=T) (ev_neg (ev_int (i:=1) (show ai _ _ from ⟨rfl,rfl⟩))) x.cx fun iv s₀ v T₀ hiv cx₀ af₀ q₀=>?_;refine bc fun zz=>?_;refine aA2 (q₀) fun zr1 zr2=>?_;refine zz ?_;subst zr1;subst zr2;refine bc fun zz=>?_;refine eE1 ((show ∃t,iv=.int (-1) t from hiv.int rfl)) fun t zr3=>?_;refine zz ?_;subst zr3;have x₀:=x.af af₀ cx₀.tab;have eq₀:=af₀.kp _ _ (x.off0 (by rw [eO];exact .head _)) eq;have hz:(bs.map Value.ref).toArray.size=bs₀.length+1:=by rw [List.size_toArray,Aj,lenb]
 refine ⟨⟨"list",_,⟨_,eq₀,rfl⟩,slot_list_getitem.lookup⟩,wpAny_getItem_list_neg ⟨_,eq₀,rfl,n,rfl⟩ (by decide) (by rw [hz];omega) (by decide) (x:=.ref b) ?_ fun pl=>?_⟩
 ·have:(-1+((bs.map Value.ref).toArray.size:Int)).toNat=bs₀.length:=by rw [hz];omega
  rw [this,eb];simp
 refine Calls.getMethod_list_append (af₀.kp _ _ (x.off0 mb) eqb) rfl rfl (jv hps (Ev.then (F:=F.plus O) (uX (L:=fun l T=>∃v,l=[v]∧P v T) hp (h.mono fun v T q=>⟨v,rfl,q⟩)) x₀.cx fun us s₁ l T₁ hu cx₁ af p=>?_));refine bc fun zz=>?_;obtain ⟨v,zr4,p⟩:=p;refine zz ?_;subst zr4;refine bc fun zz=>?_;obtain ⟨hl,q⟩:=q v T₁ p;refine zz ?_;have x₁:=x₀.af af cx₁.tab;have af₁:=af₀.trans af;have uv₁:=x.cx.up af₁;refine bc fun zz=>?_;refine eE1 (hu.one) fun w zt5=>aA2 zt5 fun zr5 hw=>?_;refine zz ?_;subst zr5;have eqb₁:=af₁.kp _ _ (x.off0 mb) eqb;have hvs:=hvs.mono uv₁;refine append_at (hsz:=qA (by rw [hvs.size];exact cb)) eqb₁ fun h' sb hD=>q _ ?_;have k':Kp [b] s₁.heap h':=.but sb;have one:∀{c},c∈[b]→c=b:=Ae.mp;refine x₁.mut1 (tk:=s₁.toks) (by decide) mb k' ⟨_,hD,.inl rfl⟩ (hN v).1 (hN v).2 fun b' bv eb' uv ow=>?_;cases hy.symm.trans eb';refine bc fun zz=>?_;obtain ⟨_,bs',n',e',⟨eqa,_⟩,nd,_⟩:=ub ow;refine zz ?_;rw [eO] at e';cases e';rw [eO,eb] at nd;have nb:∀c∈bs₀,c∉[b]:=fun c m' m''=>(BI.mp (Bb.mp nd).2).2.2 c m' b (.head _) (one m'');have na:a∉[b]:=fun m'=>(Bb.mp nd).1 (Ak _ (one m'▸.head _));have hv':=(hv₀.mono (g':=vw (O++F.X) s₁.heap) (h':=s₁.heap) uv₁ fun c m o e=>af₁.kp c o (x.off0 (by rw [eO,eb];exact .tail _ (Ap _ m))) e).mono (h':=h') uv fun c m o e=>k' c o (nb c m) e;refine own3_mk ⟨rfl,bs,n',eO,⟨k' _ _ na eqa,?_⟩,by rw [eO,eb];exact nd,?_⟩
 ·have h1:Vs W (vw (O++F.X) h') (m.l++[v]) (vs.push w).toList:=by rw [Ca];exact (hvs.mono uv).append ⟨_,_,rfl,hw.mono uv,by exact rfl⟩
  have h2:(m.l++[v]).length≤cap:=by rw [Ar];exact hl
  rw [eb];exact hv'.append (m:=[.list (m.l++[v])]) (cs:=[b]) (by exact ⟨b,[],rfl,⟨rfl,⟨_,_,hD,h1⟩,h2⟩,rfl⟩)
 ·show (av.l.dropLast++[_]).length≤cap;rw [Ar,Cm,AL];omega
theorem st_callD {id:Str}{gv:AV}{P:List (Int×Int)→Tbl→Prop}{N:List (Int×Int)→Rho} (wok:WOk W G) (hn:AOk (n+1) F.A) (x:Sx F B K O ν 2 y T s) (hy:ν y=some av) (hg:ν id=some gv) (hk:gv.k=11) (h:aw W n gv.x av.d T P)
  (hN:∀d,(∀w a,N d w=some a→w≠y→ν w=some a)∧N d y=some (.idict d)) (q:∀d T₁,P d T₁→∀s',Sx F B K O (N d) 2 y T₁ s'→Q .next s'):Av (model W.prog W.w) F.A (exec (.Expr (.Call (.Name id p) [.Name y px] [] pos) epos) F.env) Q NoE s:=by
 have hps:[Expr.Name y px].all kdsPlain=true:=rfl;refine wpAny_Expr (Call_Name rfl ((vb (Q:=fun v T'=>v=gv∧T'=T) (show ak _ _ by rw [hg];exact ⟨rfl,rfl⟩)).then x.all fun u s₁ v T₁ hu cx₁ af q₁=>?_)) (mX F) rfl;refine bc fun zz=>?_;refine aA2 (q₁) fun zr1 zr2=>?_;refine zz ?_;subst zr1;subst zr2;refine bc fun zz=>?_;refine eE1 ((show ∃p,u=.ref p∧W.faddr v.x=some p from hu.vk.of hk)) fun b zt6=>aA2 zt6 fun zr3 hf=>?_;refine zz ?_;subst zr3;refine bc fun zz=>?_;refine eE1 (h) fun a zt7=>aA2 zt7 fun hfa h=>?_;refine zz ?_;rw [hfa] at hf;obtain rfl:=As hf;refine bc fun zz=>?_;refine eE2 (wok.fn _ _ hfa) fun ob fd zt8=>aA2 zt8 fun ho' hd=>?_;refine zz ?_;have x₁:=(x.back af cx₁.tab).2;refine bc fun zz=>?_;refine eE1 (own2 x₁ hy) fun b zt9=>aA5 zt9 fun eO h2 h3 e8 hD=>?_;refine zz ?_;have mb:b∈O:=by rw [eO];exact .head _
 refine callF (o:=ob) (fd:=fd) hps ?_;have he:backTo pos (starEach [.Name y px] F.env)=(false,eval (.Name y px) F.env)::backTo pos (starEach [] F.env):=rfl;rw [he];refine Calls.spliced_cons (h3.name h2 (Calls.spliced_nil ⟨⟨cx₁.hp.base _ _ ho',hd⟩,wpAny_call (codeAny_mono (h F.A F.X s₁ b hn cx₁.xok cx₁.tab hD (x₁.oX b mb).1 (x₁.cx.hp.xs b (Ap _ mb)).1) fun r s' e=>?_)⟩));refine bc fun zz=>?_;obtain ⟨zr4,d',T',hd',tab,mv,p⟩:=e;refine zz ?_;subst zr4;refine q d' T' p s' ?_;have tab':Tab W T' (O++F.X) s'.heap:=eO▸tab;have nl:∀{c},c∈F.X→c∉W.X0→c∉b::W.X0:=fun {c} m m0 m'=>(Ai.mp m').elim (fun (e:c=b)=>(x₁.oX b mb).1 (by rw [← e];exact m)) m0;have al:=(let ⟨⟨_,_,_,e,⟨o,es,eo,ex,_⟩,_⟩,_⟩:=hd';⟨o,by cases e;exact eo,.inr ex.1⟩:∃o,s'.heap.get? b=some o∧Fat o);have inO:∀{z},z∈b::W.X0→z∈O∨z∈W.X0:=fun {z} m=>(Ai.mp m).imp (fun (e:z=b)=>(by rw [e];exact mb)) fun q=>q;refine x₁.mut (Z:=b::W.X0) (by decide) mv (fun z m=>inO m) ((x₁.cx.go (F':=F.plus O) rfl (fun _ m=>m) mv.kp (fun z m=>⟨(inO m).elim (Ap _) fun m=>((F.plus O).x0 z m).1,fun _=>(Ai.mp m).elim (fun (e:z=b)=>(by rw [e];exact al.imp fun _ q=>q.1)) tab'.alive⟩) (nl F.locX F.loc0) (fun _ c e=>nl (F.cellX _ _ e).1 (F.cellX _ _ e).2.1) tab').sub (oY (hN d').1 (by decide)))
  (fun c m=>.inl m) (fun c m=>by rw [eO] at m;rw [Ae.mp m];exact al) (hN d').2 fun b' bv eb' ow=>?_
 refine bc fun zz=>?_;rcases ad ow with ⟨k1,_⟩ | ow
 ·refine zz ?_;cases k1
 rcases ad ow with ⟨_,_,e',_⟩ | ow
 ·refine zz ?_;rw [eO] at e';cases e';exact (show _∧_ from ⟨rfl,eO,hd'⟩)
 rcases ad ow with ⟨k1,_⟩ | ow
 ·refine zz ?_;cases k1
 ·refine zz ?_;exact ow.elim
end
noncomputable def ny (e:Expr):Bool:=Aw e.ctorIdx 8 || (Aw e.ctorIdx 9 || Aw e.ctorIdx 10)
noncomputable def Sets (ν ν':Rho) (z:Str) (av:AV):Prop:=∀w a,ν' w=some a→(w=z∧a=av)∨(w≠z∧ν w=some a)
noncomputable def vR (k:Nat) (y:Str) (ν ν':Rho):Prop:=∀a,k≠0→ν y=some a→ν' y=some a
section
variable {W:Wd}{F:Fr W}{B:Shared}{K:Addr→Obj→Prop}{O O':List Addr}{ρ ν ν' G:Rho}{k n:Nat}{y z:Str}{T T' T₁:Tbl}{s s':Shared}{Q:Flow→Shared→Prop}{p px apos pos epos:Pos}{e:Expr}{av:AV}{g h:Heap}{P:AV→Tbl→Prop}{N:AV→Rho}
theorem iz (x:Sx F B K O ν k y T s) (hk:bz F.env z) (hn:k≠0→z≠y) (hN:∀v,Sets ν (N v) z v∧vR k y ν (N v)) (hsw:swapsWith e (some (.Name z px)) pos.line F.env=pure false) (h:EvE (F.plus O) (hid k y ν) e T P) (q:∀v T₁,P v T₁→∀s',Sx F B K O (N v) k y T₁ s'→Q .next s') :
  Av (model W.prog W.w) F.A (exec (.Assign [.Name z px] e pos) F.env) Q NoE s :=
 wpAny_Assign_Name (Ev.then (F:=F.plus O) h x.cx fun u s₁ v T₁ hv cx₁ af p=>(x.af af cx₁.tab).store hk hv hn (hN v).1 (hN v).2 (q v T₁ p)) hsw
theorem st_flat (x:Sx F B K O ν k y T s) (hk:bz F.env z) (hn:k≠0→z≠y) (hN:∀v,Sets ν (N v) z v∧vR k y ν (N v)) (hsw:swapsWith e (some (.Name z px)) pos.line F.env=pure false) (h:EvE F ν e T P) (q:∀v T₁,P v T₁→v.flat=true∧∀s',Sx F B K O (N v) k y T₁ s'→Q .next s') :
  Av (model W.prog W.w) F.A (exec (.Assign [.Name z px] e pos) F.env) Q NoE s :=
 wpAny_Assign_Name (h.then x.all fun u s₁ v T₁ hv cx₁ af p=>have b:=x.back af cx₁.tab;b.2.store hk (hv.thin b.1 (q v T₁ p).1) hn (hN v).1 (hN v).2 (q v T₁ p).2) hsw
theorem st_aug {av:AV} (x:Sx F B K O ν k y T s) (hk:bz F.env z) (hn:k≠0→z≠y) (hz:ν z=some av) (e2:av.k=2) (hN:∀v,Sets ν (N v) z (.int (av.i+v.i))∧vR k y ν (N v)) (h:EvE F ν e T P) (q:∀v T₁,P v T₁→v.k=2∧∀s',Sx F B K O (N v) k y T₁ s'→Q .next s') :
  Av (model W.prog W.w) F.A (exec (.AugAssign (.Name z px) .Add e pos) F.env) Q NoE s:=by
 have go:∀t,Av (model W.prog W.w) F.A (eval e F.env) (fun v s₂=>Av (model W.prog W.w) F.A (inplaceOp .Add (.int av.i t) v) (fun r s₃=>Av (model W.prog W.w) F.A (storeName F.env z r) (fun _=>Q .next) NoE s₃) NoE s₂) NoE s:=fun t=>h.then x.all fun u s₁ v T₁ hv cx₁ af p=>by
  obtain ⟨ev,q⟩:=q v T₁ p;obtain ⟨t',rfl⟩:=hv.int ev;have b:=x.back (s':={ s₁ with toks:=s₁.toks+1 }) (af.trans (.grow fun _ _ e=>e)) cx₁.tab;exact iadd_int (b.2.store hk (by exact ⟨_,rfl⟩) hn (hN v).1 (hN v).2 q)
 refine wpAny_AugAssign_Name ?_;obtain ⟨g,v,hv,l⟩:=x.all.nm z av hz;obtain ⟨t,rfl⟩:=hv.int e2;rcases l with (⟨a,m,hn,hm⟩ | ⟨a | a,c,hc,hv⟩) | ⟨a,_⟩
 ·exact wpAny_loadName_local F.kind a hn hm (go t)
 ·exact wpAny_loadName_cell F.kind a hc hv (go t)
 ·exact wpAny_loadName_free F.kind a hc hv (go t) (bad g).2
 ·exact hk.2.elim (fun q=>nomatch q.symm.trans a) fun q=>nomatch q.1.symm.trans a
variable {sc csc:Scope}{xv:Str}{elt iter:Expr}{px py cpos:Pos}{ifs:List Expr}{tP:vQ}{R:List AV→Tbl→Prop}{M:List AV→Rho}
theorem jW {gens:List Comprehension}{l:Nat}{env:Env}:∃b,swapsWith (.ListComp elt gens csc cpos) (some (.Name z px)) l env=pure b:=⟨_,rfl⟩
theorem swaps_k:(false=true)∨∀(_:Option Expr) (_:Nat) (_:Env),(pure false:Sem Bool)=pure false:=.inr fun _ _ _=>rfl
theorem swaps_go (e:Expr):ny e=true∨∀t l env,swapsWith e t l env=pure false:=by
 cases e with
 | ListComp=>exact .inl rfl
 | SetComp=>exact .inl rfl
 | DictComp=>exact .inl rfl
 | _=>exact swaps_k
theorem pE {e:Expr} (h:ny e=false) {t:Option Expr}{l:Nat}{env:Env}:swapsWith e t l env=pure false:=(swaps_go e).elim (fun q=>tF (q.symm.trans h)) fun k=>k t l env
theorem Sx.ns {C:Addr}{m:Str→Option Value} (x:Sx (F.plus [C]) B K O ν k y T s) (hn:s.heap.Ns C m) (nX:C∉F.X) {Q:Prop} (q:(K':Addr→Obj→Prop)→(∀b o,K b o→K' b o)→(∀b o,K' b o→K b o∨b=C)→Sx (F.plus [C]) B K' O ν k y T s→(∀{O' ν' k' y' T' s'},Sx (F.plus [C]) B K' O' ν' k' y' T' s'→s'.heap.Ns C m)→Q):Q:=by
 refine eE3 (hn) fun o es ep zt1=>aA2 zt1 fun e r=>?_;have C0:C∉W.X0:=fun m=>nX (F.x0 _ m).1;exact q _ (fun b o=>.inl) (fun b o m=>m.imp id (·.1)) (x.also e ⟨fun q=>nX (q▸F.locX),fun y q=>nX (F.cellX y C q).1,fun m=>(x.oX C m).1 (.head _)⟩) fun x'=>⟨o,es,ep,x'.kp C o C0 (.inr ⟨rfl,rfl⟩),r⟩
theorem sG (wok:WOk W G) (x:Sx F B K O ν k y T s) (hk:bz F.env z) (hn:k≠0→z≠y) (hN:∀v,Sets ν (N v) z v∧vR k y ν (N v)) (c:CompOk sc csc xv) (so:ScOk sc F.env)
  (hit:EvE (F.plus O) (hid k y ν) iter T fun it T₁=>aq it fun items=>ai (BY items.length cap) (ay tP items T₁ fun l T=>P (.list l) T)) (tk:eF (F.plus O) (hid k y ν) G csc xv ifs elt tP) (hs:∀env x,foldedSetIterable iter env x=pure x)
  (q:∀v T₁,P v T₁→∀s',Sx F B K O (N v) k y T₁ s'→Q .next s'):Av (model W.prog W.w) F.A (exec (.Assign [.Name z px] (.ListComp elt [⟨.Name xv py,iter,ifs,0⟩] csc cpos) pos) F.env) Q NoE s:=by
 refine eE1 (jW (elt:=elt) (csc:=csc) (cpos:=cpos) (z:=z) (px:=px) (gens:=[⟨.Name xv py,iter,ifs,0⟩]) (l:=pos.line) (env:=F.env)) fun b hb=>?_;cases b with
 | false=>exact iz x hk hn hN hb (ve (F:=F.plus O) c so wok.glob hit tk (hs _)) q
 | true =>
  rw [exec_Assign_Name_used _ _ _ _ hb];refine Ac (wpAny_standAt (Ac ?_));show Av _ F.A (do let _ ← comprehension (.ListComp elt [⟨.Name xv py,iter,ifs,0⟩] csc cpos) csc F.env _ (newList []) false (eval iter F.env) (some (assign (.Name z px) F.env))) _ _ s;refine Ac (AC (lQ (F:=F.plus O) (use:=some (assign (.Name z px) F.env)) (Q:=fun _ s'=>Q .next s') c so wok.glob x.cx hit tk (hs _) fun D C s' l T' r p=>?_) (fun _ s' hq=>Ag (Ag hq)) fun _ _ e=>e);show Av _ F.A (assign (.Name z px) F.env (.ref D)) _ _ _;have pl:=r.plain x.cx;have dC:=x.dead r.newC;have x₁:Sx (F.plus [C]) B K O ν k y T' s':=x.plus r.af pl.1 fun z m=>Ae.mp m▸r.newC;have sub:∀b∈O++([C]++F.X),b∈C::(O++F.X):=fun b m=>(Ao.mp m).elim (fun m=>.tail _ (Ap _ m)) fun m=>(Ao.mp m).elim (fun m=>Ae.mp m▸.head _) fun m=>.tail _ (Ak _ m);refine eE1 (r.ns) fun m hm=>?_;refine x₁.ns hm dC.1 fun K' hK _ x₁ hns=>wpAny_assign_Name (x₁.store (F:=F.plus [C]) hk (pl.2.mono fun b o e=>aJ (bm e).1 fun m=>(bm e).2 (sub b m)) hn (hN (.list l)).1 (hN (.list l)).2 fun s₂ x₂=>⟨m,hns x₂,fun h' sb=>?_⟩);exact q _ _ p _ ((x₂.less hK).minus (s':={ s₂ with heap:=h' }) ⟨rfl,.but sb⟩ fun z m=>Ae.mp m▸dC)
theorem qT (wok:WOk W G) (x:Sx F B K O ν k y T s) (hk:bz F.env z) (hN:∀v,Sets ν (N v) z v∧N v z=some v) (c:CompOk sc csc xv) (so:ScOk sc F.env)
  (hit:EvE F ν iter T fun it T₁=>aq it fun items=>ai (BY items.length cap) (ay tP items T₁ fun l T=>P (.list l) T)) (tk:eF F ν G csc xv ifs elt tP) (hs:∀env x,foldedSetIterable iter env x=pure x)
  (q:∀v T₁,P v T₁→∀O' s',Sx F B K O' (N v) 1 z T₁ s'→Q .next s'):Av (model W.prog W.w) F.A (exec (.Assign [.Name z px] (.ListComp elt [⟨.Name xv py,iter,ifs,0⟩] csc cpos) pos) F.env) Q NoE s:=by
 refine eE1 (jW (elt:=elt) (csc:=csc) (cpos:=cpos) (z:=z) (px:=px) (gens:=[⟨.Name xv py,iter,ifs,0⟩]) (l:=pos.line) (env:=F.env)) fun b hb=>?_;have one:∀{b C:Addr},b∈[C]→b=C:=Ae.mp;cases b with
 | false =>
  refine wpAny_Assign_Name ?_ hb;rw [eval_ListComp];refine lQ (use:=none) c so wok.glob x.all hit tk (hs _) fun D C s' l T' r p=>?_;refine eE1 (r.ns) fun m hm=>?_;refine ⟨m,hm,fun h' sb=>?_⟩;have kC:Kp [C] s'.heap h':=.but sb;have dC:=x.dead r.newC;have dD:=x.dead r.newD;have nD:D∉[C]:=fun m=>r.ne (one m);have sub:∀b∈[D]++F.X,b∈[C,D]++F.X:=fun b m=>(Ao.mp m).elim (fun m=>Ap _ (.tail _ m)) (Ak _);refine eE2 (r.acc) fun vs n zt2=>aA2 zt2 fun e hv=>?_;have eD:=kC _ _ nD e;have af:Af W s { s' with heap:=h' }:=⟨by rw [r.af.same],fun b o n e=>kC b o (fun m=>by rw [one m,r.newC] at e;exact nS e) (r.af.kp b o n e)⟩;have cx:Cx (F.plus [D]) ν T' { s' with heap:=h' }:=r.cx.swap (F':=F.plus [D]) rfl sub kC (fun z m=>⟨Ap _ (one m▸.head _),one m▸fun q=>dC.1 (F.x0 _ q).1,fun q=>(Ao.mp q).elim (fun q=>absurd (Ae.mp q▸m) nD) fun q=>absurd (one m▸q) dC.1⟩) (fun m=>dC.1 (one m▸F.locX)) fun _ c e m=>dC.1 (one m▸(F.cellX _ _ e).1);exact x.free.born (O:=[D]) (s':={ s' with heap:=h' }) (k':=1) hk cx af (fun b m=>by rw [Ae.mp m];exact ⟨r.newD,_,eD,.inl rfl⟩) (by decide)
   (av:=.list l) (show _∧_ from ⟨rfl,rfl,⟨vs,n,eD,hv.mono (kC.vw (fun b m=>Ap _ (one m▸.head _)) fun b m=>.inl (sub b m))⟩,r.le⟩) (hN (.list l)).1 (hN (.list l)).2 (q _ _ p _)
 | true =>
  rw [exec_Assign_Name_used _ _ _ _ hb];refine Ac (wpAny_standAt (Ac ?_));show Av _ F.A (do let _ ← comprehension (.ListComp elt [⟨.Name xv py,iter,ifs,0⟩] csc cpos) csc F.env _ (newList []) false (eval iter F.env) (some (assign (.Name z px) F.env))) _ _ s;refine Ac (AC (lQ (use:=some (assign (.Name z px) F.env)) (Q:=fun _ s'=>Q .next s') c so wok.glob x.all hit tk (hs _) fun D C s' l T' r p=>?_) (fun _ s' hq=>Ag (Ag hq)) fun _ _ e=>e);show Av _ F.A (assign (.Name z px) F.env (.ref D)) _ _ _;have dC:=x.dead r.newC;have dD:=x.dead r.newD;have x₁:Sx (F.plus [C]) B K [] ν 0 y T' s':=x.free.plus r.af (r.plain x.all).1 fun z m=>one m▸r.newC;have sub:∀b∈[D]++([C]++F.X),b∈[C,D]++F.X:=fun b m=>(Ao.mp m).elim (fun m=>Ap _ (one m▸.tail _ (.head _))) fun m=>(Ao.mp m).elim (fun m=>Ap _ (one m▸.head _)) (Ak _);refine eE2 (r.acc) fun vs n zt3=>aA2 zt3 fun e hv=>?_;refine eE1 (r.ns) fun m hm=>?_;refine x₁.ns hm dC.1 fun K' hK hK2 x₁ hns=>wpAny_assign_Name (Sx.birth (F:=F.plus [C]) (O:=[D]) (k':=1) hk (r.cx.swap (F':=(F.plus [C]).plus [D]) (Z:=[]) rfl sub (fun _ _ _ e=>e) (fun _ h=>nomatch h) (fun h=>nomatch h) (fun _ _ _ h=>nomatch h))
   (fun b m=>by rw [one m];exact ⟨fun q=>(Ao.mp q).elim (fun q=>r.ne (one q)) dD.1,⟨_,e,.inl rfl⟩,fun o q=>(hK2 _ _ q).elim (dD.2 o) r.ne⟩) (by decide)
   (av:=.list l) (show _∧_ from ⟨rfl,rfl,⟨vs,n,e,hv.mono fun b o e=>aJ (bm e).1 fun m=>(bm e).2 (sub b m)⟩,r.le⟩) x₁.same x₁.kp x₁.fk (hN (.list l)).1 (hN (.list l)).2 fun s₂ x₂=>⟨m,hns x₂,fun h' sb=>?_⟩)
  exact q _ _ p _ _ ((x₂.less hK).minus (s':={ s₂ with heap:=h' }) ⟨rfl,.but sb⟩ fun z m=>one m▸dC)
end
noncomputable abbrev an:=List (Option AV)
noncomputable abbrev Kn:=an→Nat→Str→Tbl→Prop
inductive Fin {W:Wd} (F:Fr W) (N:an→Rho) (B:Shared) (J:Addr→Obj→Prop) (kn kb:Kn) (kr:K):Flow→Shared→Prop
 | next {O:List Addr}{vs:an}{k:Nat}{y:Str}{T:Tbl}{s:Shared}:Sx F B J O (N vs) k y T s→kn vs k y T→Fin F N B J kn kb kr .next s
 | brk {O:List Addr}{vs:an}{k:Nat}{y:Str}{T:Tbl}{s:Shared}:Sx F B J O (N vs) k y T s→kb vs k y T→Fin F N B J kn kb kr .brk s
 | ret {O:List Addr}{ν:Rho}{k:Nat}{y:Str}{T:Tbl}{s:Shared}{u:Value}{av:AV}:Sx F B J O ν k y T s→V W (vw F.X s.heap) av u→kr av T→Fin F N B J kn kb kr (.ret u) s
noncomputable def Ex {W:Wd} (F:Fr W) (N:an→Rho) (t:Sem Flow) (vs:an) (k:Nat) (y:Str) (T:Tbl) (kn kb:Kn) (kr:K):Prop:=∀B J O s,Sx F B J O (N vs) k y T s→Av (model W.prog W.w) F.A t (Fin F N B J kn kb kr) NoE s
noncomputable abbrev nY:=AV→an→Nat→Str→Tbl→Kn→Kn→K→Prop
noncomputable def bA (turn:nY):List AV→an→Nat→Str→Tbl→Kn→K→Prop
 | [],vs,k,y,T,kn,_=>kn vs k y T
 | v::l,vs,k,y,T,kn,kr=>turn v vs k y T (fun vs k y T=>bA turn l vs k y T kn kr) kn kr
noncomputable def whP (tP:an→Nat→Str→Tbl→(Bool→Tbl→Prop)→Prop) (bP:an→Nat→Str→Tbl→Kn→Kn→K→Prop) (vs:an) (k:Nat) (y:Str) (T:Tbl) (kn:Kn) (kr:K):Prop :=
 ∃I:Nat→Kn,(∃m,I m vs k y T)∧∀m vs k y T,I m vs k y T→tP vs k y T fun c T=>aa c (bP vs k y T (fun vs k y T=>∃m',m'<m∧I m' vs k y T) kn kr) (kn vs k y T)
section
variable {W:Wd}{F:Fr W}{N:an→Rho}{B:Shared}{J:Addr→Obj→Prop}{O:List Addr}{ν:Rho}{vs:an}{k:Nat}{y:Str}{T T':Tbl}{s s':Shared}{kn kb:Kn}{kr:K}
theorem Sx.at {Z:List Addr} (x:Sx F B J O ν k y T s) (mv:Mv Z s s') (hZ:∀z∈Z,z∈F.X∧z∉W.X0∧(∃o,s'.heap.get? z=some o)∧z≠F.env.locals∧(∀y,F.env.cells.lookup y≠some z)∧∀o,¬J z o):Sx F B J O ν k y T s':=by
 have on:On O s.heap s'.heap:=fun b m o e=>mv.kp b o (fun m'=>(x.oX b m).1 (hZ b m').1) e;have nl:F.env.locals∉Z:=fun m=>(hZ _ m).2.2.2.1 rfl;have nc:∀x c,F.env.cells.lookup x=some c→c∉Z:=fun x c e m=>(hZ c m).2.2.2.2.1 x e;exact ⟨x.cx.at mv.kp (fun z m=>⟨Ak _ (hZ z m).1,(hZ z m).2.1,(hZ z m).2.2.1⟩) nl nc,fun b m=>⟨(x.oX b m).1,(x.oX b m).2.1.imp fun o q=>⟨on b m o q.1,q.2⟩,(x.oX b m).2.2⟩,
  x.own.imp id (fun zq1=>by obtain ⟨k0,p,av,h1,h2,h3,h4⟩:=zq1;exact ⟨k0,p,av,h1,h2,h3.kp mv.kp nl (nc _),h4.mono on (mv.kp.vw (fun b m=>Ak _ (hZ b m).1) fun _ m=>.inl m)⟩),
  by have h:=mv.same;replace h:=(x.same ..)▸h;exact h,fun b o n q=>mv.kp b o (fun m=>(hZ b m).2.2.2.2.2 o q) (x.kp b o n q),x.fk⟩
theorem for_ok {body:List Stmt}{z:Str}{px:Pos}{turn:nY}{it:AV}{xv:Value}
  (ht:∀I v vs k y T nx br kr,turn v vs k y T nx br kr→∀B J O s u,Sx (F.plus [I]) B J O (N vs) k y T s→V W (vw (O++(F.plus [I]).X) s.heap) v u→Av (model W.prog W.w) F.A (assign (.Name z px) F.env u) (fun _ s₁=>Av (model W.prog W.w) F.A (execs body F.env) (Fin (F.plus [I]) N B J nx br kr) NoE s₁) NoE s)
  (x:Sx F B J O (N vs) k y T s) (hv:V W (vw (O++F.X) s.heap) it xv) (h:aq it fun items=>bA turn items vs k y T kn kr) :
  Av (model W.prog W.w) F.A (pyIter xv) (fun itv s₂=>codeAny (model W.prog W.w) F.A (.forLoop (.Name z px) itv body [] F.env) (fun r s'=>match r with | .ok f=>Fin F N B J kn kb kr f s' | .error e=>cameBackBy (model W.prog W.w) F.A F.env NoE e s') s₂) NoE s:=by
 refine uw (F:=F.plus O) hv h fun items ob fp P S h I=>?_;have gone:s.heap.get? s.heap.objs.size=none:=aF _;have hI:=x.dead gone;have u:Up s.heap (s.heap.push ob):=fun _ _ e=>Heap.get?_push_of_some _ e;generalize s.heap.objs.size=aI at *;have one:∀{b},b∈[aI]→b=aI:=Ae.mp;have x₁:Sx (F.plus [aI]) B J O (N vs) k y T { s with heap:=s.heap.push ob }:=x.plus (.grow (k:=s.toks) u) (x.cx.plus u fun z m=>by refine rwC (one m ..) ?_;exact ⟨gone,I.live _ _ I.st⟩) fun z m=>by refine rwC (one m ..) ?_;exact gone
 have gX:∀{b o},(vw (O++F.X) s.heap).get? b=some o→b∉O∧b∉F.X∧b≠aI:=fun e=>⟨fun m=>(bm e).2 (Ap _ m),fun m=>(bm e).2 (Ak _ m),fun q=>by have:=(bm e).1;replace this:=(q ..)▸this;replace this:=(gone ..)▸this;cases this⟩
 let J':Addr→Obj→Prop:=fun b o=>J b o∨(vw (O++F.X) s.heap).get? b=some o
 have x₂:Sx (F.plus [aI]) B J' O (N vs) k y T { s with heap:=s.heap.push ob }:=x₁.to (fun b o n q=>q.elim (x₁.kp b o n) fun e=>u b o (bm e).1) ⟨fun o q=>q.elim (x.fk.loc o) fun e=>(gX e).2.1 F.locX,fun y c hc o q=>q.elim (x.fk.cell y c hc o) fun e=>(gX e).2.1 (F.cellX _ _ hc).1⟩ fun a m o q=>q.elim ((x.oX a m).2.2 o) fun e=>(gX e).1 m;have hI0:aI∉W.X0:=fun m=>hI.1 (F.x0 _ m).1;have hIl:aI≠F.env.locals:=fun q=>hI.1 (q▸F.locX);have hIc:∀y,F.env.cells.lookup y≠some aI:=fun y q=>hI.1 (F.cellX y aI q).1;have hIJ:∀o,¬J' aI o:=fun o q=>q.elim (hI.2 o) fun e=>(gX e).2.2 rfl;have back:∀{O ν k y T s s'},Sx (F.plus [aI]) B J' O ν k y T s→Mv [aI] s s'→Sx F B J O ν k y T s':=fun x mv=>(x.less fun b o=>.inl).minus mv fun z m=>by refine rwC (one m ..) ?_;exact hI
 refine codeAny_forLoop (fun kk s=>∃i O vs k y T,kk=items.length - i∧i≤items.length∧Sx (F.plus [aI]) B J' O (N vs) k y T s∧S i s.heap∧bA turn (items.drop i) vs k y T kn kr) ?_ _ ⟨0,O,vs,k,y,T,rfl,Bj _,x₂,I.st,h⟩;rintro kk s₂ ⟨i,O₂,vs,k,y,T,rfl,hi,x₂,hS,h⟩;have ug:∀{h':Heap},Kp [aI] s₂.heap h'→Up (vw (O++F.X) s.heap) (vw (O₂++(F.plus [aI]).X) h'):=fun k b o e=>aJ (k b o (fun m=>(gX e).2.2 (one m)) (x₂.kp b o (fun m=>(gX e).2.1 (F.x0 b m).1) (.inr e))) fun m=>(Ao.mp m).elim (fun m=>(x₂.oX b m).2.2 o (.inr e)) fun m=>(Ao.mp m).elim (fun m=>(gX e).2.2 (one m)) (gX e).2.1
 by_cases hlt:i<items.length
 ·refine I.walks.item i s₂ _ _ hlt hS fun u h₁ tk hP hS₁ hk₁=>?_;refine eE1 (I.item i u hlt hP) fun av zt1=>aA2 zt1 fun hav hV=>?_;refine eE1 (I.live _ _ hS₁) fun ob eob=>?_;have x₃:Sx (F.plus [aI]) B J' O₂ (N vs) k y T { s₂ with heap:=h₁,toks:=tk }:=x₂.at ⟨rfl,hk₁⟩ fun z m=>by refine rwC (one m ..) ?_;exact ⟨Ap _ (.head _),hI0,⟨ob,eob⟩,hIl,hIc,hIJ⟩
  have x₄:=x₃.also eob ⟨hIl,hIc,fun m=>(x₃.oX _ m).1 (Ap _ (.head _))⟩;obtain ⟨h1,h2⟩:=AW.mp hav;replace h:=(List.drop_eq_getElem_cons h1 ..)▸h;replace h:=(h2 ..)▸h;refine AC (ht aI av vs k y T _ _ _ h _ _ _ _ u x₄ (hV.mono (ug hk₁))) (fun _ s₁ h₁'=>AC h₁' (fun fl s₂ d=>?_) fun _ _ e=>e.elim) fun _ _ e=>e.elim;have fp:∀{O ν k y T s'},Sx (F.plus [aI]) B (fun b o=>J' b o∨(b=aI∧o=ob)) O ν k y T s'→S (i+1) s'.heap:=fun x=>I.walks.frame _ _ _ hS₁ fun b hb o e=>by
   rcases I.fp b hb with q | ⟨o',q⟩
   ·subst q;replace e:=(eob ..)▸e;obtain rfl:=As e;exact x.kp _ _ hI0 (.inr ⟨rfl,rfl⟩)
   ·have:=(x₃.kp b o' (fun m=>(gX q).2.1 (F.x0 b m).1) (.inr q)).symm.trans e;cases this;exact x.kp b o (fun m=>(gX q).2.1 (F.x0 b m).1) (.inl (.inr q))
  cases d with
  | next x q=>exact ⟨_,by omega,i+1,_,_,_,_,_,rfl,hlt,x.less fun b o=>.inl,fp x,q⟩
  | brk x q=>exact .next (back (x.less fun b o=>.inl) .refl) q
  | ret x v q=>exact .ret (back (x.less fun b o=>.inl) .refl) (v.mono fun b o e=>aJ (bm e).1 fun m=>(bm e).2 (Ak _ m)) q
 ·have hie:i=items.length:=by omega
  subst hie;replace h:=(Cq ..)▸h;exact I.walks.done s₂ _ _ hS fun h₁ tk₁ hk₁=>wpAny_execs_nil (.next (back x₂ ⟨rfl,hk₁⟩) h)
theorem while_ok {body:List Stmt}{t:Expr}{tP:an→Nat→Str→Tbl→(Bool→Tbl→Prop)→Prop}{bP:an→Nat→Str→Tbl→Kn→Kn→K→Prop}{pos:Pos} (ht:∀vs k y T R,tP vs k y T R→EvT F (N vs) t T R) (hb:∀vs k y T nx br kr,bP vs k y T nx br kr→Ex F N (execs body F.env) vs k y T nx br kr)
  (h:whP tP bP vs k y T kn kr):Ex F N (exec (.While t body [] pos) F.env) vs k y T kn kb kr:=fun B J O s x=>by
 refine bc fun zz=>?_;refine eE1 (h) fun I zt3=>aA2 zt3 fun zk2 h=>?_;obtain ⟨m,h0⟩:=zk2;refine zz ?_;refine wpAny_While (codeAny_whileLoop (fun m s=>∃O vs k y T,Sx F B J O (N vs) k y T s∧I m vs k y T) ?_ m ⟨O,vs,k,y,T,x,h0⟩);intro m s zh1;refine bc fun zz=>?_;refine eE5 (zh1) fun O vs k y T zt4=>aA2 zt4 fun x h0=>?_;refine zz ?_;refine AC (ht _ _ _ _ _ (h m vs k y T h0) s x.all) (fun c s₁ g=>?_) fun _ _ e=>e.elim;obtain @⟨d,T₁,e,cx₁,af,q⟩:=g;have e:c=d:=e;subst e;have x₁:=(x.back af cx₁.tab).2;cases c with
 | false=>exact wpAny_execs_nil (.next x₁ q)
 | true =>
  refine AC (hb _ _ _ _ _ _ _ q B J O s₁ x₁) (fun fl s₂ d=>?_) fun _ _ e=>e.elim;cases d with
  | next x q=>obtain ⟨m',hm,q⟩:=q;exact ⟨m',hm,_,_,_,_,_,x,q⟩
  | brk x q=>exact .next x q
  | ret x v q=>exact .ret x v q
end
noncomputable section
noncomputable def look (x:Str):List Str→an→Option AV
 | k::ks,v::vs=>cond (seq k x) v (look x ks vs)
 | _,_=>none
noncomputable def put (x:Str) (a:AV):List Str→an→an
 | k::ks,v::vs=>cond (seq k x) (some a::vs) (v::put x a ks vs)
 | _,_=>[]
noncomputable def has (x:Str):List Str→an→Bool
 | k::ks,_::vs=>seq k x || has x ks vs
 | _,_=>false
noncomputable def ql (k:Option NameKind):Bool:=match k with
 | some .globalImplicit=>true
 | _=>false
noncomputable def nv (k:Option NameKind):Bool:=match k with
 | some .local=>true
 | some .cell=>true
 | _=>false
noncomputable def rho (sc:Scope) (G:Rho) (ks:List Str) (vs:an):Rho:=fun x=>cond (ql (bu x sc.names)) (G x) (cond (nv (bu x sc.names) && !aP x) (look x ks vs) none)
noncomputable def aQ (sc:Scope) (x:Str):Bool:=nv (bu x sc.names) && !aP x
noncomputable def isNil (e:Expr):Bool:=qa e (fun es _=>es.isEmpty) false
noncomputable def qj (op:UnaryOp):Bool:=match op with
 | .USub=>true
 | _=>false
noncomputable def isM1 (e:Expr):Bool:=onUn e (fun op x _=>qj op && decide (dJ x=some 1)) false
noncomputable def reads (y:Str):Nat→Expr→Bool
 | 0,_=>false
 | n+1,e=>eG e (fun x _=>seq x y) (onBin e (fun l _ _ _=>reads y n l) (tM e (fun v _ _=>reads y n v) (qd e (fun f as _ _=>reads y n f || as.any (reads y n)) (iM e (fun o _ _=>reads y n o)
  (onLC e (fun elt gens _ _=>reads y n elt || gens.any fun g=>reads y n g.iter) false)))))
noncomputable abbrev aN:=Str→List (Int×Int)→Tbl→(List (Int×Int)→Tbl→Prop)→Prop
structure Ct where
 E:EvF×lX
 D:aN
 G:Rho
 sc:Scope
 ks:List Str
noncomputable def Ct.N (c:Ct) (vs:an):Rho:=rho c.sc c.G c.ks vs
noncomputable def Ct.put (c:Ct) (x:Str) (a:AV) (vs:an):an:=Mine.put x a c.ks vs
noncomputable def Ct.ev (c:Ct) (ν:Rho) (e:Expr) (T:Tbl) (Q:K):Prop:=c.E.1 ν c.sc e T Q
noncomputable def valE (c:Ct) (x:Str) (e:Expr) (vs:an) (k:Nat) (y:Str) (T:Tbl) (kn:Kn):Prop:=ai (!ny e)
 (aa (Aw k 0 || seq x y) (c.ev (c.N vs) e T fun v T=>kn (c.put x v vs) 0 y T)
  (aa (reads y 6 e) (c.ev (c.N vs) e T fun v T=>ai v.flat (kn (c.put x v vs) k y T)) (c.ev (hid k y (c.N vs)) e T fun v T=>kn (c.put x v vs) k y T)))
noncomputable def asgL (c:Ct) (x:Str) (e:Expr) (es:List Expr) (vs:an) (k:Nat) (y:Str) (T:Tbl) (kn:Kn):Prop:=aa es.isEmpty (ai (has x c.ks vs) (kn (c.put x (.list []) vs) 1 x T))
 (aa ((ki es).elim false isNil) (ai (has x c.ks vs) (kn (c.put x (.list [.list []]) vs) 3 x T)) (valE c x e vs k y T kn))
noncomputable def asgE (c:Ct) (x:Str) (e:Expr) (vs:an) (k:Nat) (y:Str) (T:Tbl) (kn:Kn):Prop:=ai (aQ c.sc x) (qa e (fun es p=>asgL c x (.List es p) es vs k y T kn)
 (tV e (fun ks ws p=>aa (ks.isEmpty && ws.isEmpty) (ai (has x c.ks vs) (kn (c.put x (.idict []) vs) 2 x T)) (valE c x (.Dict ks ws p) vs k y T kn))
 (onLC e (fun elt gens csc p=>aa (seq x "nums" || seq x "out") (ai (has x c.ks vs) (nP c.E c.G (c.N vs) c.sc csc elt gens T fun l T=>kn (c.put x (.list l) vs) 1 x T))
  (aa (Aw k 0 || (seq x y || reads y 6 (.ListComp elt gens csc p))) (nP c.E c.G (c.N vs) c.sc csc elt gens T fun l T=>kn (c.put x (.list l) vs) 0 y T)
   (nP c.E c.G (hid k y (c.N vs)) c.sc csc elt gens T fun l T=>kn (c.put x (.list l) vs) k y T)))
 (valE c x e vs k y T kn))))
noncomputable def putE (c:Ct) (x:Str) (i e:Expr) (vs:an) (k:Nat) (y:Str) (T:Tbl) (kn:Kn):Prop:=ai (seq x y && (Aw k 2 && aQ c.sc y)) (ak (c.N vs y) fun l=>c.ev (hid 2 y (c.N vs)) e T fun v T=>c.ev (hid 2 y (c.N vs)) i T fun j T =>
 ai (Aw v.k 2 && (Aw j.k 2 && Cu l.d.length cap)) (kn (c.put y (.idict (cZ j.i v.i l.d)) vs) 2 y T))
noncomputable def augE (c:Ct) (x:Str) (e:Expr) (vs:an) (k:Nat) (y:Str) (T:Tbl) (kn:Kn):Prop:=ai (aQ c.sc x && (Aw k 0 || !seq x y)) (ak (c.N vs x) fun a=>ai (Aw a.k 2) (c.ev (c.N vs) e T fun v T=>ai (Aw v.k 2) (kn (c.put x (.int (a.i+v.i)) vs) k y T)))
noncomputable def appE (c:Ct) (x:Str) (a:Expr) (vs:an) (k:Nat) (y:Str) (T:Tbl) (kn:Kn):Prop:=ai (seq x y && aQ c.sc y) (ak (c.N vs y) fun l =>
 aa (Aw k 1) (ai (kdsPlain a) (c.ev (hid 1 y (c.N vs)) a T fun v T=>ai (Cu l.l.length cap) (kn (c.put y (.list (l.l++[v])) vs) 1 y T)))
  (ai (Aw k 3 && (isNil a && Cu l.l.length cap)) (kn (c.put y (.list (l.l++[.list []])) vs) 3 y T)))
noncomputable def qI (c:Ct) (x:Str) (a:Expr) (vs:an) (k:Nat) (y:Str) (T:Tbl) (kn:Kn):Prop:=ai (seq x y && (Aw k 3 && aQ c.sc y)) (ak (c.N vs y) fun l=>ak l.l.getLast? fun m =>
 ai (kdsPlain a) (c.ev (hid 3 y (c.N vs)) a T fun v T=>ai (Cu m.l.length cap) (kn (c.put y (.list (l.l.dropLast++[.list (m.l++[v])])) vs) 3 y T)))
noncomputable def callDE (c:Ct) (g:Str) (a:Expr) (vs:an) (k:Nat) (y:Str) (T:Tbl) (kn:Kn):Prop:=ak (bQ a) fun x=>ai (seq x y && (Aw k 2 && aQ c.sc y)) (ak (c.N vs g) fun gv=>ai (Aw gv.k 11) (ak (c.N vs y) fun l=>c.D gv.x l.d T fun d T=>kn (c.put y (.idict d) vs) 2 y T))
noncomputable def exprE (c:Ct) (f a:Expr) (pos:Pos) (vs:an) (k:Nat) (y:Str) (T:Tbl) (kn:Kn):Prop:=iM f (fun o m apos=>ai (seq m "append" && bq apos pos [a]) (eG o (fun x _=>appE c x a vs k y T kn)
 (tM o (fun v i _=>ai (isM1 i) (ak (bQ v) fun x=>qI c x a vs k y T kn)) False))) (eG f (fun g _=>callDE c g a vs k y T kn) False)
noncomputable abbrev StF:=Stmt→an→Nat→Str→Tbl→Kn→Kn→K→Prop
noncomputable def ssP (r:StF):List Stmt→an→Nat→Str→Tbl→Kn→Kn→K→Prop
 | [],vs,k,y,T,kn,_,_=>kn vs k y T
 | st::l,vs,k,y,T,kn,kb,kr=>r st vs k y T (fun vs k y T=>ssP r l vs k y T kn kb kr) kb kr
noncomputable def turnS (c:Ct) (r:StF) (x:Str) (b:List Stmt):nY:=fun v vs k y T nx br kr=>ai (Aw k 0 || !seq x y) (ssP r b (c.put x v vs) k y T nx br kr)
noncomputable def forE (c:Ct) (r:StF) (x:Str) (i:Expr) (b:List Stmt) (vs:an) (k:Nat) (y:Str) (T:Tbl) (kn:Kn) (kr:K):Prop:=ai (aQ c.sc x && qe i)
 (aa (Aw k 0 || !reads y 6 i) (c.ev (hid k y (c.N vs)) i T fun it T=>aq it fun items=>bA (turnS c r x b) items vs k y T kn kr)
  (c.ev (c.N vs) i T fun it T=>ai it.flat (aq it fun items=>bA (turnS c r x b) items vs k y T kn kr)))
noncomputable def assE (c:Ct) (t e:Expr) (vs:an) (k:Nat) (y:Str) (T:Tbl) (kn:Kn):Prop:=eG t (fun x _=>asgE c x e vs k y T kn) (tM t (fun v i _=>ak (bQ v) fun x=>putE c x i e vs k y T kn) False)
noncomputable def isAdd (op:Operator):Bool:=match op with
 | .Add=>true
 | _=>false
noncomputable def stepS (c:Ct) (r:StF):StF:=fun st vs k y T kn kb kr=>match st with
 | .Pass _=>kn vs k y T
 | .Break _=>kb vs k y T
 | .Return v _=>(match v with
  | none=>kr .none T
  | some e=>c.ev (c.N vs) e T kr)
 | .If t b o _=>c.E.2 (c.N vs) c.sc t T fun d T=>aa d (ssP r b vs k y T kn kb kr) (ssP r o vs k y T kn kb kr)
 | .Assign ts e _=>ak (ki ts) fun t=>assE c t e vs k y T kn
 | .AugAssign t op e _=>ai (isAdd op) (ak (bQ t) fun x=>augE c x e vs k y T kn)
 | .Expr e _=>qd e (fun f as ws pos=>ai ws.isEmpty (ak (ki as) fun a=>exprE c f a pos vs k y T kn)) False
 | .For t i b o _=>ai o.isEmpty (ak (bQ t) fun x=>forE c r x i b vs k y T kn kr)
 | .While t b o _=>ai o.isEmpty (whP (fun vs k y T R=>c.E.2 (c.N vs) c.sc t T R) (fun vs k y T nx br kr=>ssP r b vs k y T nx br kr) vs k y T kn kr)
 | _=>False
noncomputable def exS (c:Ct):Nat→StF
 | 0=>fun _ _ _ _ _ _ _ _=>False
 | n+1=>stepS c (exS c n)
end
section
variable {x w:Str}{a b:AV}
theorem fZ (n:w≠x):∀{ks:List Str}{vs:an},look w ks (put x a ks vs)=look w ks vs
 | [],_=>rfl
 | _::_,[]=>rfl
 | k::ks,v::vs=>by
  unfold put
  by_cases e:k=x
  ·refine rwC (e ..) ?_;refine rwC (cP ..) ?_;show cond (seq x w) _ _=cond (seq x w) _ _;refine rwC (bt (Ne.symm n) ..) ?_;rfl
  ·refine rwC (bt e ..) ?_;show cond (seq k w) v (look w ks (put x a ks vs))=cond (seq k w) v (look w ks vs);refine rwC (fZ n ..) ?_;exact rfl
theorem lz:∀{ks:List Str}{vs:an},look x ks (put x a ks vs)=cond (has x ks vs) (some a) none
 | [],_=>rfl
 | _::_,[]=>rfl
 | k::ks,v::vs=>by
  unfold put has
  by_cases e:k=x
  ·refine rwC (e ..) ?_;refine rwC (cP ..) ?_;show cond (seq x x) _ _=_;refine rwC (cP ..) ?_;rfl
  ·refine rwC (bt e ..) ?_;show cond (seq k x) v (look x ks (put x a ks vs))=_;refine rwC (bt e ..) ?_;exact lz
theorem has_of:∀{ks:List Str}{vs:an},look x ks vs=some b→has x ks vs=true
 | [],_,h=>nomatch h
 | _::_,[],h=>nomatch h
 | k::ks,v::vs,h=>by
  unfold has
  by_cases e:k=x
  ·refine rwC (e ..) ?_;refine rwC (cP ..) ?_;rfl
  ·have h:cond (seq k x) v (look x ks vs)=some b:=h;rw [bt e] at h ⊢;exact has_of h
variable {c:Ct}{vs:an}{k n:Nat}{y:Str}
theorem cG {sc:Scope} (h:aQ sc x=true):nv (bu x sc.names)=true∧aP x=false∧ql (bu x sc.names)=false:=by
 refine aA2 (cM h) fun h1 h2=>?_;refine ⟨h1,by rw [Br] at h2;exact h2,?_⟩;cases e:bu x sc.names with
 | none=>rw [e] at h1;exact fT h1
 | some k=>rw [e] at h1;cases k <;> first | rfl | exact fT h1
theorem N_ne (n:w≠x):c.N (c.put x a vs) w=c.N vs w:=by
 show cond _ _ (cond _ (look w c.ks (put x a c.ks vs)) none)=cond _ _ (cond _ (look w c.ks vs) none);refine rwC (fZ n ..) ?_;exact rfl
theorem N_at {o:Option AV} (h:aQ c.sc x=true):c.N vs x=look x c.ks vs:=by
 refine aA3 (cG h) fun h1 h2 h3=>?_;show cond _ _ (cond _ _ none)=_;refine rwC (h1 ..) ?_;refine rwC (h2 ..) ?_;refine rwC (h3 ..) ?_;rfl
theorem ee (h:aQ c.sc x=true):Sets (c.N vs) (c.N (c.put x a vs)) x a:=fun w b e=>by
 by_cases q:w=x
 ·subst q;rw [N_at (o:=none) h] at e;have e:look w c.ks (put w a c.ks vs)=some b:=e;rw [lz] at e;cases hh:has w c.ks vs with
  | true=>rw [hh] at e;obtain rfl:=As e;exact .inl ⟨rfl,rfl⟩
  | false=>rw [hh] at e;exact nS e
 ·exact .inr ⟨q,by rw [N_ne q] at e;exact e⟩
theorem eR (n:k≠0→x≠y):vR k y (c.N vs) (c.N (c.put x a vs)):=fun b k0 e=>by refine rwC (N_ne (Ne.symm (n k0)) ..) ?_;exact e
theorem kI (h:aQ c.sc x=true) (hh:has x c.ks vs=true):c.N (c.put x a vs) x=some a:=by
 refine rwC (N_at (o:=none) h ..) ?_;show look x c.ks (put x a c.ks vs)=_;refine rwC (lz ..) ?_;refine rwC (hh ..) ?_;rfl
theorem pB (h:aQ c.sc y=true) (e:c.N vs y=some b):(∀w a',c.N (c.put y a vs) w=some a'→w≠y→c.N vs w=some a')∧c.N (c.put y a vs) y=some a :=
 ⟨fun w a' e q=>by rw [N_ne q] at e;exact e,kI h (has_of (by rw [N_at (o:=none) h] at e;exact e))⟩
end
section
variable {W:Wd}{F:Fr W}{c:Ct}{n k:Nat}{y x:Str}{T:Tbl}{vs:an}{kn kb:Kn}{kr:K}{pos px:Pos}{e:Expr}
structure CtOk (W:Wd) (c:Ct) (n:Nat):Prop where
 E:SndE W n c.E
 D:∀f d T Q,c.D f d T Q→aw W n f d T Q
 wok:WOk W c.G
theorem aZ (so:ScOk c.sc F.env) (h:aQ c.sc x=true):bz F.env x:=by
 refine aA3 (cG h) fun h1 h2 _=>?_;refine ⟨h2,?_⟩;cases e:bu x c.sc.names with
 | none=>rw [e] at h1;exact fT h1
 | some k =>
  rw [e] at h1;cases k with
  | «local»=>exact .inl (so.loc x e)
  | cell=>exact .inr (so.cell x e)
  | _=>exact fT h1
theorem kE {a b:Nat} (h:Cu a b=true):a<b:=AU h
theorem ks_ne (h:(Aw k 0 || !seq x y)=true):k≠0→x≠y:=fun k0=>((Bg ..).mp h).elim (fun q=>absurd (Am q) k0) fun q=>cQ (by rw [Br] at q;exact q)
theorem ks_or {b:Bool} (h:(Aw k 0 || (seq x y || b))=false):k≠0→x≠y:=fun k0=>cQ (BP.mp (BP.mp h).2).1
theorem ks_ff (h:(Aw k 0 || seq x y)=false):k≠0→x≠y:=fun k0=>cQ (BP.mp h).2
variable (ok:CtOk W c n) (hF:F.n=n+1) (so:ScOk c.sc F.env)
include ok hF so
theorem uZ {ν:Rho}{T:Tbl}{Q:K} (h:c.ev ν e T Q):EvE F ν e T Q:=ok.E.e hF so h
theorem fz {O:List Addr}{ν:Rho}{T:Tbl}{Q:K} (h:c.ev ν e T Q):EvE (F.plus O) ν e T Q:=ok.E.e (F:=F.plus O) hF so h
theorem sh (hx:aQ c.sc x=true) (h:valE c x e vs k y T kn):Ex F c.N (exec (.Assign [.Name x px] e pos) F.env) vs k y T kn kb kr:=fun B J O s st=>by
 have hk:=aZ so hx;refine aA2 (ac h) fun hc h=>?_;have hsw:=fun {t l}=>pE (t:=t) (l:=l) (env:=F.env) (show ny e=false by rw [Br] at hc;exact hc);rcases aA h with ⟨e0,h⟩ | ⟨e0,h⟩
 ·exact iz st.free hk (fun q=>absurd rfl q) (fun v=>⟨ee (a:=v) hx,eR (a:=v) fun q=>absurd rfl q⟩) hsw (fz ok hF so h) fun v T₁ p s' x'=>.next x' p
 ·have hn:=ks_ff e0;rcases aA h with ⟨_,h⟩ | ⟨_,h⟩
  ·exact st_flat st hk hn (fun v=>⟨ee (a:=v) hx,eR (a:=v) hn⟩) hsw (uZ ok hF so h) fun v T₁ p=>by obtain ⟨f,p⟩:=ac p;exact ⟨f,fun s' x'=>.next x' p⟩
  ·exact iz st hk hn (fun v=>⟨ee (a:=v) hx,eR (a:=v) hn⟩) hsw (fz ok hF so h) fun v T₁ p s' x'=>.next x' p
omit ok hF so in
theorem qk {e:Expr}:isNil e=true→∃p,e=.List [] p:=lk (P:=fun e b=>b=true→∃p,e=.List [] p) e (fun es p h=>⟨p,by rw [AS.mp h]⟩) fT
theorem asgL_ok {es:List Expr}{p:Pos} (hx:aQ c.sc x=true) (h:asgL c x (.List es p) es vs k y T kn):Ex F c.N (exec (.Assign [.Name x px] (.List es p) pos) F.env) vs k y T kn kb kr:=fun B J O s st=>by
 rcases aA h with ⟨e,h⟩ | ⟨_,h⟩
 ·rw [AS.mp e];refine aA2 (ac h) fun hh h=>?_;exact st_nil st (aZ so hx) (ee hx) (kI hx hh) rfl fun O' s' x'=>.next x' h
 ·rcases aA h with ⟨e,h⟩ | ⟨_,h⟩
  ·cases e1:ki es with
   | none=>rw [e1] at e;exact fT e
   | some e' =>
    rw [e1] at e;refine eE1 (qk e) fun p' e2=>?_;rw [bH e1,e2];refine aA2 (ac h) fun hh h=>?_;exact st_nest st (aZ so hx) (ee hx) (kI hx hh) rfl fun O' s' x'=>.next x' h
  ·exact sh ok hF so hx h B J O s st
theorem asgD_ok {ks:List (Option Expr)}{ws:List Expr}{p:Pos} (hx:aQ c.sc x=true) (h:aa (ks.isEmpty && ws.isEmpty) (ai (has x c.ks vs) (kn (c.put x (.idict []) vs) 2 x T)) (valE c x (.Dict ks ws p) vs k y T kn)):Ex F c.N (exec (.Assign [.Name x px] (.Dict ks ws p) pos) F.env) vs k y T kn kb kr:=fun B J O s st=>by
 rcases aA h with ⟨en,h⟩ | ⟨_,h⟩
 ·refine aA2 (cM en) fun h1 h2=>?_;rw [AS.mp h1,AS.mp h2];refine aA2 (ac h) fun hh h=>?_;exact st_dict ok.wok.mods st (aZ so hx) (ee hx) (kI hx hh) rfl fun O' s' x'=>.next x' h
 ·exact sh ok hF so hx h B J O s st
theorem asgC_ok {elt:Expr}{gens:List Comprehension}{csc:Scope}{p:Pos} (hx:aQ c.sc x=true)
  (h:aa (seq x "nums" || seq x "out") (ai (has x c.ks vs) (nP c.E c.G (c.N vs) c.sc csc elt gens T fun l T=>kn (c.put x (.list l) vs) 1 x T))
   (aa (Aw k 0 || (seq x y || reads y 6 (.ListComp elt gens csc p))) (nP c.E c.G (c.N vs) c.sc csc elt gens T fun l T=>kn (c.put x (.list l) vs) 0 y T)
    (nP c.E c.G (hid k y (c.N vs)) c.sc csc elt gens T fun l T=>kn (c.put x (.list l) vs) k y T))):Ex F c.N (exec (.Assign [.Name x px] (.ListComp elt gens csc p) pos) F.env) vs k y T kn kb kr:=fun B J O s st=>by
 have hk:=aZ so hx;rcases aA h with ⟨_,h⟩ | ⟨_,h⟩
 ·refine aA2 (ac h) fun hh h=>?_;refine eE4 (ik (F:=F) ok.wok ok.E hF so h) fun xv py iter ifs zt3=>aA5 zt3 fun zs2 co hs tk hit=>?_;rw [zs2];exact qT (P:=fun v T=>kn (c.put x v vs) 1 x T) (N:=fun v=>c.N (c.put x v vs)) ok.wok st hk (fun v=>⟨ee hx,kI hx hh⟩) co so hit tk hs fun v T₁ p O' s' x'=>.next x' p
 ·rcases aA h with ⟨_,h⟩ | ⟨e0,h⟩
  ·refine eE4 (ik (F:=F) ok.wok ok.E hF so h) fun xv py iter ifs zt5=>aA5 zt5 fun zs4 co hs tk hit=>?_;rw [zs4];exact sG (P:=fun v T=>kn (c.put x v vs) 0 y T) (N:=fun v=>c.N (c.put x v vs)) ok.wok st.free hk (fun q=>absurd rfl q) (fun v=>⟨ee hx,eR fun q=>absurd rfl q⟩) co so hit tk hs fun v T₁ p s' x'=>.next x' p
  ·refine eE4 (ik (F:=F.plus O) ok.wok ok.E hF so h) fun xv py iter ifs zt7=>aA5 zt7 fun zs6 co hs tk hit=>?_;rw [zs6];exact sG (P:=fun v T=>kn (c.put x v vs) k y T) (N:=fun v=>c.N (c.put x v vs)) ok.wok st hk (ks_or e0) (fun v=>⟨ee hx,eR (ks_or e0)⟩) co so hit tk hs fun v T₁ p s' x'=>.next x' p
theorem asg_ok (h:asgE c x e vs k y T kn):Ex F c.N (exec (.Assign [.Name x px] e pos) F.env) vs k y T kn kb kr:=by
 refine aA2 (ac h) fun hx h=>?_;revert h;exact lk (P:=fun e p=>p→Ex F c.N (exec (.Assign [.Name x px] e pos) F.env) vs k y T kn kb kr) e (fun es p h=>asgL_ok ok hF so hx h)
  (qc (P:=fun e p=>p→Ex F c.N (exec (.Assign [.Name x px] e pos) F.env) vs k y T kn kb kr) e (fun ks ws p h=>asgD_ok ok hF so hx h)
   (onLC_c (P:=fun e p=>p→Ex F c.N (exec (.Assign [.Name x px] e pos) F.env) vs k y T kn kb kr) e (fun elt gens csc p h=>asgC_ok ok hF so hx h) fun h=>sh ok hF so hx h))
end
theorem isM1_eq {e:Expr}:isM1 e=true→∃k p q,e=.UnaryOp .USub (.Constant (.int 1) k p) q :=
 tL (P:=fun e b=>b=true→∃k p q,e=.UnaryOp .USub (.Constant (.int 1) k p) q) e (fun op x q h=>by
  refine aA2 (cM h) fun h1 h2=>?_;obtain ⟨k,p,e⟩:=nA (of_decide_eq_true h2);cases op with
  | USub=>exact ⟨k,p,q,by rw [e]⟩
  | _=>exact fT h1) fT
section
variable {W:Wd}{F:Fr W}{c:Ct}{n k:Nat}{y x:Str}{T:Tbl}{vs:an}{kn kb:Kn}{kr:K}{pos px epos apos:Pos}{e a:Expr}{r:StF}
variable (ok:CtOk W c n) (hF:F.n=n+1) (so:ScOk c.sc F.env)
include ok hF so
theorem put_okE {i:Expr} (h:putE c x i e vs k y T kn):Ex F c.N (exec (.Assign [.Subscript (.Name x px) i pos] e epos) F.env) vs k y T kn kb kr:=fun B J O s st=>by
 replace h:=ac h;obtain ⟨hh,h⟩:=h;obtain ⟨h1,h2,h3⟩:=gM hh;cases Am h2;cases aM h1;replace h:=ag h;obtain ⟨l,el,h⟩:=h;refine st_put (N:=fun v j=>c.N (c.put y (.idict (cZ j.i v.i l.d)) vs)) (P:=fun v j T=>ai (Aw v.k 2 && (Aw j.k 2 && Cu l.d.length cap)) (kn (c.put y (.idict (cZ j.i v.i l.d)) vs) 2 y T)) st el (fun v j=>pB h3 el) ((fz ok hF so h).mono fun v T q=>fz ok hF so q) ?_ fun v j T₁ p=>?_
 ·cases e <;> rfl
 ·obtain ⟨q,p⟩:=ac p;obtain ⟨q1,q2,q3⟩:=gM q;exact ⟨⟨Am q1,Am q2,kE q3⟩,fun s' x'=>.next x' p⟩
theorem aug_okE (h:augE c x e vs k y T kn):Ex F c.N (exec (.AugAssign (.Name x px) .Add e pos) F.env) vs k y T kn kb kr:=fun B J O s st=>by
 replace h:=ac h;refine aA2 (h) fun hh h=>?_;refine aA2 (cM hh) fun h1 h2=>?_;replace h:=ag h;refine eE1 (h) fun l zt1=>aA2 zt1 fun el h=>?_;replace h:=ac h;refine aA2 (h) fun h3 h=>?_;exact st_aug (N:=fun v=>c.N (c.put x (.int (l.i+v.i)) vs)) st (aZ so h1) (ks_ne h2) el (Am h3) (fun v=>⟨ee h1,eR (ks_ne h2)⟩) (uZ ok hF so h) fun v T₁ p=>by obtain ⟨q,p⟩:=ac p;exact ⟨Am q,fun s' x'=>.next x' p⟩
theorem app_okE (ho:bq apos pos [a]=true) (h:appE c x a vs k y T kn):Ex F c.N (exec (.Expr (.Call (.Attribute (.Name x px) "append" apos) [a] [] pos) epos) F.env) vs k y T kn kb kr:=fun B J O s st=>by
 replace h:=ac h;obtain ⟨hh,h⟩:=h;obtain ⟨h1,h2⟩:=cM hh;cases aM h1;replace h:=ag h;obtain ⟨l,el,h⟩:=h;replace h:=aA h;rcases h with ⟨hk,h⟩ | ⟨_,h⟩
 ·cases Am hk;replace h:=ac h;refine aA2 (h) fun hp h=>?_;exact sI (N:=fun v=>c.N (c.put y (.list (l.l++[v])) vs)) st el ho hp (fun v=>pB h2 el) (fz ok hF so h) fun v T₁ p=>by obtain ⟨q,p⟩:=ac p;exact ⟨kE q,fun s' x'=>.next x' p⟩
 ·replace h:=ac h;obtain ⟨hh,h⟩:=h;obtain ⟨hk,h3,h4⟩:=gM hh;cases Am hk;obtain ⟨p,rfl⟩:=qk h3;exact lZ st el ho (kE h4) (pB h2 el).1 (pB h2 el).2 fun O' s' x'=>.next x' h
theorem pt {p1 p2 p3:Pos}{kk:Nat} (ho:bq apos pos [a]=true) (h:qI c x a vs k y T kn):Ex F c.N (exec (.Expr (.Call (.Attribute (.Subscript (.Name x px) (.UnaryOp .USub (.Constant (.int 1) kk p1) p2) p3) "append" apos) [a] [] pos) epos) F.env) vs k y T kn kb kr:=fun B J O s st=>by
 replace h:=ac h;obtain ⟨hh,h⟩:=h;obtain ⟨h1,h2,h3⟩:=gM hh;cases Am h2;cases aM h1;replace h:=ag h;refine eE1 (h) fun l zt2=>aA2 zt2 fun el h=>?_;replace h:=ag h;refine eE1 (h) fun m zt3=>aA2 zt3 fun em h=>?_;replace h:=ac h;refine aA2 (h) fun hp h=>?_;exact kK (N:=fun v=>c.N (c.put y (.list (l.l.dropLast++[.list (m.l++[v])])) vs)) st el em ho hp (fz ok hF so h) (fun v=>pB h3 el) fun v T₁ p=>by obtain ⟨q,p⟩:=ac p;exact ⟨kE q,fun s' x'=>.next x' p⟩
theorem vF {g:Str} (h:callDE c g a vs k y T kn):Ex F c.N (exec (.Expr (.Call (.Name g px) [a] [] pos) epos) F.env) vs k y T kn kb kr:=fun B J O s st=>by
 replace h:=ag h;obtain ⟨x,ex,h⟩:=h;obtain ⟨p,rfl⟩:=cH ex;replace h:=ac h;obtain ⟨hh,h⟩:=h;obtain ⟨h1,h2,h3⟩:=gM hh;cases Am h2;cases aM h1;replace h:=ag h;refine eE1 (h) fun gv zt4=>aA2 zt4 fun eg h=>?_;replace h:=ac h;refine aA2 (h) fun hk h=>?_;replace h:=ag h;refine eE1 (h) fun l zt5=>aA2 zt5 fun el h=>?_;exact st_callD (N:=fun d=>c.N (c.put y (.idict d) vs)) ok.wok (hnF F hF) st el eg (Am hk) (ok.D _ _ _ _ h) (fun d=>pB h3 el) fun d T₁ p s' x'=>.next x' p
theorem expr_okE {f:Expr} (h:exprE c f a pos vs k y T kn):Ex F c.N (exec (.Expr (.Call f [a] [] pos) epos) F.env) vs k y T kn kb kr:=by
 unfold exprE at h;revert h;exact fc (P:=fun f p=>p→Ex F c.N (exec (.Expr (.Call f [a] [] pos) epos) F.env) vs k y T kn kb kr) f (fun o m apos h=>by
  refine aA2 (ac h) fun hh h=>?_;refine aA2 (cM hh) fun h1 ho=>?_;rw [aM h1];revert h;exact dz (P:=fun o p=>p→Ex F c.N (exec (.Expr (.Call (.Attribute o "append" apos) [a] [] pos) epos) F.env) vs k y T kn kb kr) o (fun x px h=>app_okE ok hF so ho h)
   (oC (P:=fun o p=>p→Ex F c.N (exec (.Expr (.Call (.Attribute o "append" apos) [a] [] pos) epos) F.env) vs k y T kn kb kr) o (fun v i p h=>by
    refine aA2 (ac h) fun h2 h=>?_;refine eE1 (ag h) fun x zt1=>aA2 zt1 fun ex h=>?_;refine eE1 (cH ex) fun px e1=>?_;refine eE3 (isM1_eq h2) fun kk p1 p2 e2=>?_;rw [e1,e2];exact pt ok hF so ho h) False.elim))
  (dz (P:=fun f p=>p→Ex F c.N (exec (.Expr (.Call f [a] [] pos) epos) F.env) vs k y T kn kb kr) f (fun g p h=>vF ok hF so h) False.elim)
omit hF so in
theorem jX (hr:∀{F:Fr W}{st vs k y T kn kb kr},F.n=n+1→ScOk c.sc F.env→r st vs k y T kn kb kr→Ex F c.N (exec st F.env) vs k y T kn kb kr) {F:Fr W} (hF:F.n=n+1) (so:ScOk c.sc F.env):∀{sts:List Stmt}{vs k y T kn kb kr},ssP r sts vs k y T kn kb kr→Ex F c.N (execs sts F.env) vs k y T kn kb kr
 | [],_,_,_,_,_,_,_,h=>fun B J O s x=>wpAny_execs_nil (.next x h)
 | st::sts,_,_,_,_,_,_,_,h=>fun B J O s x=>AT (AC (hr hF so h B J O s x) (fun fl s₁ d=>by
   cases d with
   | next x q=>exact jX hr hF so q B J _ s₁ x
   | brk x q=>exact .brk x q
   | ret x v q=>exact .ret x v q) fun _ _ e=>e)
theorem uM (hr:∀{F:Fr W}{st vs k y T kn kb kr},F.n=n+1→ScOk c.sc F.env→r st vs k y T kn kb kr→Ex F c.N (exec st F.env) vs k y T kn kb kr) {i:Expr}{b:List Stmt} (h:forE c r x i b vs k y T kn kr):Ex F c.N (exec (.For (.Name x px) i b [] pos) F.env) vs k y T kn kb kr:=fun B J O s st=>by
 replace h:=ac h;refine aA2 (h) fun hh h=>?_;refine aA2 (cM hh) fun h1 h2=>?_;have ht:∀I v vs k y T nx br kr,turnS c r x b v vs k y T nx br kr→∀B J O s u,Sx (F.plus [I]) B J O (c.N vs) k y T s→V W (vw (O++(F.plus [I]).X) s.heap) v u→Av (model W.prog W.w) F.A (assign (.Name x px) F.env u) (fun _ s₁=>Av (model W.prog W.w) F.A (execs b F.env) (Fin (F.plus [I]) c.N B J nx br kr) NoE s₁) NoE s:=fun I v vs k y T nx br kr h B J O s u x' hv=>by
  replace h:=ac h;refine aA2 (h) fun hk h=>?_;exact wpAny_assign_Name (x'.store (F:=F.plus [I]) (aZ so h1) hv (ks_ne hk) (ee h1) (eR (ks_ne hk)) fun s' x''=>jX ok hr (F:=F.plus [I]) hF so h B J O s' x'')
 rcases aA h with ⟨_,h⟩ | ⟨_,h⟩
 ·exact wpAny_For (Ev.then (F:=F.plus O) (fz ok hF so h) st.cx fun u s₁ v T₁ hv cx₁ af q=>for_ok ht (st.af af cx₁.tab) hv q) (uO h2 _)
 ·refine wpAny_For ((uZ ok hF so h).then st.all fun u s₁ v T₁ hv cx₁ af q=>?_) (uO h2 _);refine aA2 (ac q) fun f q=>?_;have bk:=st.back af cx₁.tab;exact for_ok ht bk.2 (hv.thin bk.1 f) q
theorem step_okS (hr:∀{F:Fr W}{st vs k y T kn kb kr},F.n=n+1→ScOk c.sc F.env→r st vs k y T kn kb kr→Ex F c.N (exec st F.env) vs k y T kn kb kr) {st:Stmt} (h:stepS c r st vs k y T kn kb kr):Ex F c.N (exec st F.env) vs k y T kn kb kr:=by
 have ss:=fun {sts:List Stmt}{vs k y T kn kb kr}=>jX ok hr hF so (sts:=sts) (vs:=vs) (k:=k) (y:=y) (T:=T) (kn:=kn) (kb:=kb) (kr:=kr);cases st with
 | Pass p=>exact fun B J O s x=>wpAny_Pass (.next x h)
 | Break p=>exact fun B J O s x=>wpAny_Break (.brk x h)
 | Return v p =>
  cases v with
  | none=>exact fun B J O s x=>wpAny_Return_none (.ret (av:=.none) x (by exact rfl) h)
  | some e=>exact fun B J O s x=>wpAny_Return_some ((uZ ok hF so h).then x.all fun u s₁ v T₁ hv cx₁ af q=>.ret (x.back af cx₁.tab).2 hv q)
 | If t b o p=>exact fun B J O s x=>wpAny_If (Ev.branch (ok.E.t hF so h) x.all (fun s' T' cx af q=>ss q B J O s' (x.back af cx.tab).2) fun s' T' cx af q=>ss q B J O s' (x.back af cx.tab).2)
 | Assign ts e p =>
  refine eE1 (ag h) fun t zt1=>aA2 zt1 fun et h=>?_;rw [bH et];unfold assE at h;revert h;exact dz (P:=fun t q=>q→Ex F c.N (exec (.Assign [t] e p) F.env) vs k y T kn kb kr) t (fun x px h=>asg_ok ok hF so h)
   (oC (P:=fun t q=>q→Ex F c.N (exec (.Assign [t] e p) F.env) vs k y T kn kb kr) t (fun v i q h=>by
    refine eE1 (ag h) fun x zt1=>aA2 zt1 fun ex h=>?_;refine eE1 (cH ex) fun px e1=>?_;rw [e1];exact put_okE ok hF so h) False.elim)
 | AugAssign t op e p =>
  replace h:=ac h;obtain ⟨ho,h⟩:=h;replace h:=ag h;obtain ⟨x,ex,h⟩:=h;obtain ⟨px,rfl⟩:=cH ex;cases op with
  | Add=>exact aug_okE ok hF so h
  | _=>exact fT ho
 | Expr e p =>
  revert h;exact onCall_c (P:=fun e q=>q→Ex F c.N (exec (.Expr e p) F.env) vs k y T kn kb kr) e (fun f as ws p' h=>by
   refine aA2 (ac h) fun hw h=>?_;refine eE1 (ag h) fun a zt1=>aA2 zt1 fun ea h=>?_;rw [AS.mp hw,bH ea];exact expr_okE ok hF so h) False.elim
 | For t i b o p =>
  replace h:=ac h;obtain ⟨ho,h⟩:=h;cases AS.mp ho;replace h:=ag h;obtain ⟨x,ex,h⟩:=h;obtain ⟨px,rfl⟩:=cH ex;exact uM ok hF so hr h
 | While t b o p =>
  replace h:=ac h;obtain ⟨ho,h⟩:=h;cases AS.mp ho;exact while_ok (fun vs k y T R q=>ok.E.t hF so q) (fun vs k y T nx br kr q=>ss q) h
 | _=>exact h.elim
omit hF so in
theorem kL:∀(m:Nat) {F:Fr W}{st:Stmt}{vs k y T kn kb kr},F.n=n+1→ScOk c.sc F.env→exS c m st vs k y T kn kb kr→Ex F c.N (exec st F.env) vs k y T kn kb kr
 | 0,_,_,_,_,_,_,_,_,_,_,_,h=>h.elim
 | m+1,_,_,_,_,_,_,_,_,_,hF,so,h=>step_okS ok hF so (kL m) h
end
structure FD where
 params:List Str
 dflt:List AV
 body:List Stmt
 scope:Scope
structure FnOk (W:Wd) (fd:FD) (a:Addr):Prop where
 kind:fd.scope.kind=.function
 co:fd.scope.isCoroutine=false
 gen:fd.scope.isGenerator=false
 nofree:∀p∈fd.scope.names,p.2≠.free
 ex:∃o fdat dv,W.h₀.get? a=some o∧o.data=.func fdat∧fdat.body=.stmts fd.body∧fdat.scope=fd.scope∧fdat.closure=[]∧fdat.globals=Bl∧fdat.builtins=Ch∧W.h₀.CodeRec fdat.code fdat.qualname∧(∃ds:List Int,fd.dflt=ds.map .int∧IntsAre dv ds) ∧
  ∀(s:Shared) (vals:List Value),Up W.h₀ s.heap→vals.length≤fd.params.length→fd.params.length≤vals.length+fd.dflt.length →
   BindsTo s fdat ⟨vals,[]⟩ (fd.params.zip (vals++dv.drop (vals.length+fd.dflt.length - fd.params.length)))
noncomputable section
noncomputable def eJ (sc:Scope):List Str:=(sc.names.filter fun p=>nv (some p.2)).map (·.1)
noncomputable def rV (ks:List Str):List Str→List AV→an→Option an
 | [],[],vs=>some vs
 | x::xs,a::as,vs=>rV ks xs as (put x a ks vs)
 | _,_,_=>none
noncomputable def lT (sc:Scope):an:=(eJ sc).map fun _=>none
noncomputable def nK (C:ba) (D:aN) (G:Rho) (sc:Scope):Ct:=⟨ev C G 40,D,G,sc,eJ sc⟩
noncomputable def nV (fd:FD) (l:List AV):Option an:=cond (fd.params.all (aQ fd.scope)) (rV (eJ fd.scope) fd.params (l++fd.dflt.drop (l.length+fd.dflt.length - fd.params.length)) (lT fd.scope)) none
noncomputable def bE (C:ba) (D:aN) (G:Rho) (fd:FD) (l:List AV) (T:Tbl) (Q:K):Prop:=ak (nV fd l) fun vs =>
 ssP (exS (nK C D G fd.scope) 40) fd.body vs 0 ⟨#[]⟩ T (fun _ _ _ T=>Q .none T) (fun _ _ _ _=>False) Q
end
theorem dg {y:Str}:∀{names:List (Str×NameKind)}{n:Nat}{acc:List (Str×Addr)},(y,NameKind.cell)∈names∨(acc.lookup y).isSome=true→((cellsFrom n names acc).lookup y).isSome=true
 | [],n,acc,h=>h.resolve_left (fun q=>nomatch q)
 | (x,k)::r,n,acc,h=>by
  unfold cellsFrom
  split
  ·rename_i hk;refine dg ?_;rcases h with h | h
   ·rcases Ai.mp h with q | q
    ·obtain ⟨rfl,rfl⟩:=Prod.mk.inj q;exact .inr (by refine rwC (List.lookup_cons_self ..) ?_;rfl)
    ·exact .inl q
   ·refine .inr ?_;refine rwC (Bz ..) ?_
    split
    ·rfl
    ·exact h
  ·rename_i hk;refine dg ?_;rcases h with h | h
   ·rcases Ai.mp h with q | q
    ·obtain ⟨rfl,rfl⟩:=Prod.mk.inj q;exact absurd rfl hk
    ·exact .inl q
   ·exact .inr h
noncomputable def jr (env:Env):List Addr:=(env.cells.filter fun p=>decide (env.cells.lookup p.1=some p.2)).map (·.2)
theorem mem_cellsOf {env:Env}{c:Addr}:c∈jr env↔∃n,env.cells.lookup n=some c:=by
 unfold jr;rw [AD];constructor
 ·rintro ⟨p,hp,rfl⟩;exact ⟨p.1,by simpa using (Az.mp hp).2⟩
 ·rintro ⟨n,h⟩;exact ⟨(n,c),Az.mpr ⟨mem_of_lookup h,by simpa using h⟩,rfl⟩
theorem AOk.deeper {n:Nat}{A:Around}{env:Env} (h:AOk (n+1) A):AOk n (A.deeper env) :=
 ⟨h.hand,by have:=h.depth;show A.depth+1+n+4<recursionLimit;lia,by have:=h.units;show A.units+3+10*n+300<cLine;lia⟩
section
variable {W:Wd}{sc:Scope}{ks:List Str}{g:Heap}
theorem gc {x:Str}:∀ks:List Str,look x ks (ks.map fun _=>none)=none
 | []=>rfl
 | k::ks=>by
  refine (?_:cond (seq k x) none (look x ks (ks.map fun _=>none))=none);rw [gc ks];cases seq k x <;> rfl
theorem nR:∀{xs:List Str}{as:List AV}{vs vs':an},rV ks xs as vs=some vs'→xs.length=as.length
 | [],[],_,_,_=>rfl
 | [],_::_,_,_,h=>nomatch h
 | _::_,[],_,_,h=>nomatch h
 | _::_,_::_,_,_,h=>congrArg (·+1) (nR h)
noncomputable def Bound (W:Wd) (g:Heap) (kindOf:Str→Option NameKind) (ks:List Str) (vs:an) (m cm:Str→Option Value):Prop :=
 ∀x av,look x ks vs=some av→∃v,V W g av v∧((kindOf x=some .local∧m x=some v)∨(kindOf x=some .cell∧cm x=some v))
theorem kD {kindOf:Str→Option NameKind}:∀{xs:List Str}{avs:List AV}{vals:List Value}{vs vs':an}{m cm:Str→Option Value},
  rV ks xs avs vs=some vs'→Vs W g avs vals→(∀x∈xs,kindOf x=some .local∨kindOf x=some .cell)→Bound W g kindOf ks vs m cm→Bound W g kindOf ks vs' (bindL kindOf (xs.zip vals) m) (bindC kindOf (xs.zip vals) cm)
 | [],[],_,vs,vs',m,cm,e,h,_,b=>by obtain rfl:=As e;exact b
 | [],_::_,_,_,_,_,_,e,_,_,_=>nomatch e
 | _::_,[],_,_,_,_,_,e,_,_,_=>nomatch e
 | x::xs,a::avs,_,vs,vs',m,cm,e,⟨v,r,rv,hv,h⟩,hk,b=>by
  refine rwC (rv ..) ?_;refine rwC (List.zip_cons_cons ..) ?_;refine kD (xs:=xs) e h (fun y hy=>hk y (.tail _ hy)) fun y av hl=>?_
  by_cases q:y=x
  ·subst q;replace hl:=(lz ..)▸hl;cases hh:has y ks vs with
   | false=>replace hl:=(hh ..)▸hl;exact nS hl
   | true =>
    replace hl:=(hh ..)▸hl;obtain rfl:=As hl;refine ⟨v,hv,(hk y (.head _)).imp (fun h1=>⟨h1,?_⟩) fun h1=>⟨h1,?_⟩⟩
    ·refine rwC (if_pos h1 ..) ?_;exact if_pos rfl
    ·refine rwC (if_neg (by rw [h1];decide) ..) ?_;exact if_pos rfl
  ·replace hl:=(fZ q ..)▸hl;obtain ⟨w,g1,g3⟩:=b y av hl;refine ⟨w,g1,g3.imp (fun ⟨p1,p2⟩=>⟨p1,?_⟩) fun ⟨p1,p2⟩=>⟨p1,?_⟩⟩
   ·split
    ·exact (if_neg q).trans p2
    ·exact p2
   ·split
    ·exact p2
    ·exact (if_neg q).trans p2
end
section
variable {W:Wd}{G:Rho}{fd:FD}{a:Addr}{A:Around}{X:List Addr}{T:Tbl}{s:Shared}{n:Nat}
theorem iA {sc:Scope}{x:Str} (h:aQ sc x=true):sc.names.lookup x=some .local∨sc.names.lookup x=some .cell:=by
 refine aA2 (cG h) fun h1 _=>?_;rw [aW] at h1;cases e:sc.names.lookup x with
 | none=>rw [e] at h1;exact fT h1
 | some k=>rw [e] at h1;cases k <;> first | exact .inl rfl | exact .inr rfl | exact fT h1
theorem tZ {F:Fr W}{sc:Scope}{vs:an}{h:Heap} (gk:GOk W G) (so:ScOk sc F.env) (hp:Hp F h) (hl:∀x av,aQ sc x=true→look x (eJ sc) vs=some av→∃v,V W (vw F.X h) av v∧Loads h F.env x v) (x:Str) (av:AV) (e:rho sc G (eJ sc) vs x=some av):Nm F h x av:=by
 unfold rho at e;cases eg:ql (bu x sc.names) with
 | true =>
  rw [eg] at e;obtain ⟨gd,u,hu,mg,hg,hm⟩:=gk x av e;refine ⟨gd,u,hu.mono fun b o e=>aJ (hp.base b o e) fun m=>(by rw [(hp.xs b m).1] at e;exact nS e),.inr ⟨so.glob x ?_,mg,hg,hm⟩⟩;cases ek:bu x sc.names with
  | none=>rw [ek] at eg;exact fT eg
  | some k=>rw [ek] at eg;cases k <;> first | rfl | exact fT eg
 | false =>
  rw [eg] at e;have e:cond (aQ sc x) (look x (eJ sc) vs) none=some av:=e;cases es:aQ sc x with
  | false=>rw [es] at e;exact nS e
  | true =>
   rw [es] at e;refine eE1 (hl x av es e) fun v zt1=>aA2 zt1 fun h1 h2=>?_;exact ⟨(cG es).2.1,v,h1,.inl h2⟩
structure Entry (W:Wd) (G:Rho) (fd:FD) (A:Around) (X:List Addr) (vs:an) (T:Tbl) (n:Nat) (vals:List Value) (s:Shared) (F:Fr W) (s₁:Shared):Prop where
 n:F.n=n
 A:F.A=A.deeper F.env
 so:ScOk fd.scope F.env
 sub:∀b∈X,b∈F.X
 new:∀b∈F.X,b∈X∨s.heap.get? b=none
 st:Sx F s (fun b o=>s.heap.get? b=some o) [] (rho fd.scope G (eJ fd.scope) vs) 0 ⟨#[]⟩ T s₁
 one:∀y v,fd.params=[y]→vals=[v]→Loads s₁.heap F.env y v
theorem vm {vals:List Value}{avs:List AV}{vs:an}{R:Result→Shared→Prop} (lim:W.h₀.NoLimit) (fn:FnOk W fd a) (gk:GOk W G) (hA:AOk (n+1) A) (hb:nV fd avs=some vs) (hv:Vs W (vw X s.heap) avs vals) (ok:XOk W X s.heap) (tab:Tab W T X s.heap)
  (hbody:∀(F:Fr W) (s₁:Shared),Entry W G fd A X vs T n vals s F s₁→Av (model W.prog W.w) F.A (execs fd.body F.env) (fun f s'=>R (.ok (.ret (match f with | .ret v=>v | _=>.none))) s') NoE s₁) :
  codeAny (model W.prog W.w) A (.call (.ref a) ⟨vals,[]⟩) R s:=by
 refine eE3 (fn.ex) fun ob fdat dv zt3=>aA10 zt3 fun e1 e2 e3 e4 e5 e6 e7 e8 zk2 e10=>?_;obtain ⟨ds,hds,hdI⟩:=zk2;unfold nV at hb;cases hp:fd.params.all (aQ fd.scope) with
 | false=>replace hb:=(hp ..)▸hb;exact nS hb
 | true =>
 replace hb:=(hp ..)▸hb;have hb:rV (eJ fd.scope) fd.params (avs++fd.dflt.drop (avs.length+fd.dflt.length - fd.params.length)) (lT fd.scope)=some vs:=hb;have hlen:=nR hb;replace hlen:=(Ar ..)▸hlen;replace hlen:=(BU ..)▸hlen;have hvl:=hv.length;have hdl:=hdI.length;have hdl':fd.dflt.length=ds.length:=by refine rwC (hds ..) ?_;refine rwC (Aj ..) ?_;exact rfl
 have hl1:vals.length≤fd.params.length:=by omega
 have hl2:fd.params.length≤vals.length+fd.dflt.length:=by omega
 have hVall:Vs W (vw X s.heap) (avs++fd.dflt.drop (avs.length+fd.dflt.length - fd.params.length)) (vals++dv.drop (vals.length+fd.dflt.length - fd.params.length)):=by
  refine rwD (hvl ..) ?_;refine hv.append ?_;refine rwC (hds ..) ?_;refine rwD (List.map_drop ..) ?_;exact Vs.ofInts (hdI.drop _)
 have hpar:∀x∈fd.params,aQ fd.scope x=true:=fun x hx=>AA.mp hp x hx;have hd:=hA.depth;refine codeAny_call_function (by omega) (ok.base _ _ e1) e2 (by refine rwC (e4 ..) ?_;exact fn.co) (by refine rwC (e4 ..) ?_;exact fn.gen) e3 (e8.keeps ok.base) (e10 s vals ok.base hl1 hl2 _ _ _ _ ?_);refine rwC (e5 ..) ?_;refine wpAny_newFunctionEnv_cells (by refine rwC (e4 ..) ?_;exact fn.kind) (fun x hx=>?_) fun env he s' q=>?_
 ·refine rwC (e4 ..) ?_;exact (iA (hpar x.1 (List.of_mem_zip hx).1)).imp id fun h=>⟨h,dg (.inl (mem_of_lookup h))⟩
 refine ⟨lim.keeps fun b o e=>q.toInCall.keep b o (ok.base b o e),codeAny_func ?_⟩;have kO:∀y,env.kindOf y=fd.scope.names.lookup y:=fun y=>by subst he;show fdat.scope.names.lookup y=_;refine rwC (e4 ..) ?_;exact rfl
 have cE:env.cells=cellsFrom (s.heap.objs.size+1) fd.scope.names []:=by subst he;show cellsFrom _ fdat.scope.names []=_;refine rwC (e4 ..) ?_;exact rfl
 have cLt:∀y c,env.cells.lookup y=some c→@LT.lt Nat _ env.locals c:=fun y c hy=>q.above y c (mem_of_lookup hy);have dL:s.heap.get? env.locals=none:=fq q.toInCall.fresh;have dC:∀y c,env.cells.lookup y=some c→s.heap.get? c=none:=fun y c hy=>fq (BS (BB q.toInCall.fresh (cLt y c hy)));have hX':∀b∈env.locals::jr env++X,b∈X∨s.heap.get? b=none:=fun b hb=>(Ao.mp hb).elim (fun hb=>.inr ((Ai.mp hb).elim (fun e=>e▸dL) fun hb=>by obtain ⟨y,hy⟩:=mem_cellsOf.mp hb;exact dC y b hy)) .inl;have dead0:∀b,s.heap.get? b=none→W.h₀.get? b=none:=fun b hb=>by
  cases e:W.h₀.get? b with
  | none=>rfl
  | some o'=>replace hb:=(ok.base b o' e ..)▸hb;exact Sn hb
 have x0dead:∀b,s.heap.get? b=none→b∉W.X0:=fun b hb hm=>by
  refine eE1 (tab.alive hm) fun o' e=>?_;replace e:=(hb ..)▸e;exact nS e
 have cX:∀y c,env.cells.lookup y=some c→c∈env.locals::jr env++X:=fun y c hy=>Ap _ (.tail _ (mem_cellsOf.mpr ⟨y,hy⟩));have one:∀y v,fd.params=[y]→vals=[v]→Loads s'.heap env y v:=fun y v e1 e2=>by
  subst e2;rw [e1] at q hpar;have hs:=hpar y (.head _);rcases iA hs with h | h
  ·refine .inl ⟨(kO y).trans h,_,q.toInCall.ns,?_⟩;refine (?_:(if env.kindOf y=some .local then fun z=>if z=y then some v else none else fun _=>none:Str→Option Value) y=some v);refine rwC (if_pos ((kO y).trans h) ..) ?_;exact if_pos rfl
  ·refine eE1 (Bo.mp (cE▸dg (.inl (mem_of_lookup h)):(env.cells.lookup y).isSome=true)) fun c hc=>?_;refine .inr ⟨.inl ((kO y).trans h),c,hc,?_⟩;have:=q.cell y c hc;rw [show bindC env.kindOf ([y].zip ([v]++_)) (fun _=>none) y=some v from (by
    refine (?_:(if env.kindOf y=some .local then fun _=>none else fun z=>if z=y then some v else none:Str→Option Value) y=some v);refine rwC (if_neg (by rw [kO,h];decide) ..) ?_;exact if_pos rfl)] at this
   exact this
 let F:Fr W:={
  A:=A.deeper env,env:=env,X:=env.locals::jr env++X,n:=n,hA:=hA.deeper
  kind:=by subst he;show fdat.scope.kind=_;refine rwC (e4 ..) ?_;exact fn.kind
  gl:=by subst he;exact e6
  bl:=by subst he;exact e7
  code:=by obtain ⟨c,oc,vs,t,g1,g2,g3,_⟩:=e8;subst he;exact ⟨c,oc,vs,g1,g2,g3⟩
  locX:=.head _
  x0:=fun b m=>⟨Ak _ (ok.x0 b m),fun e=>x0dead _ dL (e▸m)⟩
  cellX:=fun y c hy=>⟨cX y c hy,x0dead _ (dC y c hy),fun z=>by have:=cLt y c hy;replace this:=(z ..)▸this;exact Nat.lt_irrefl _ this⟩
  cellU:=fun y z c h1 h2=>name_of_addr q.apart (mem_of_lookup h1) (mem_of_lookup h2) }
 have so:ScOk fd.scope env:=⟨fun y e=>by refine rwC (kO ..) ?_;refine rwD (aW ..) ?_;exact e,fun y e=>by replace e:=(aW ..)▸e;exact ⟨(kO y).trans e,by refine rwC (cE ..) ?_;exact Bo.mp (dg (.inl (mem_of_lookup e)))⟩,
  fun y e=>by replace e:=(aW ..)▸e;exact absurd rfl (fn.nofree _ (mem_of_lookup e)),fun y e=>by refine rwC (kO ..) ?_;refine rwD (aW ..) ?_;exact e⟩
 have keep:=q.toInCall.keep;have uv:Up (vw X s.heap) (vw F.X s'.heap):=(show Kp [] s.heap s'.heap from fun b o _ e=>keep b o e).vw (fun _ h=>nomatch h) fun b m=>hX' b m;have bd:=kD (W:=W) (g:=vw X s.heap) (kindOf:=env.kindOf) (m:=fun _=>none) (cm:=fun _=>none) hb hVall (fun x hx=>by refine rwC (kO ..) ?_;exact iA (hpar x hx)) (fun x av hl=>by have hl:look x (eJ fd.scope) ((eJ fd.scope).map fun _=>none)=some av:=hl;replace hl:=(gc ..)▸hl;exact nS hl);have xs:∀b∈F.X,W.h₀.get? b=none∧∃o,s'.heap.get? b=some o:=fun b hb=>(Ao.mp hb).elim (fun hb=>(Ai.mp hb).elim (fun e=>by refine rwC (e ..) ?_;exact ⟨dead0 _ dL,cS q.toInCall.ns⟩) fun hb=>by
   refine eE1 (mem_cellsOf.mp hb) fun y hy=>?_;refine eE1 (q.cell y b hy) fun o zt4=>aA2 zt4 fun e _=>?_;exact ⟨dead0 _ (dC y b hy),o,e⟩) fun hb=>⟨(ok.xs b hb).1,(ok.xs b hb).2.imp fun o e=>keep b o e⟩
 have base:Up W.h₀ s'.heap:=fun b o e=>keep b o (ok.base b o e);have hp:Hp F s'.heap:=⟨base,xs,⟨_,q.toInCall.ns⟩,fun y c hy=>⟨_,q.cell y c hy⟩⟩;have cx:Cx F (rho fd.scope G (eJ fd.scope) vs) T s':=⟨hp,tZ gk so hp fun x av es e=>by
  refine eE1 (bd x av e) fun v zt5=>aA2 zt5 fun g1 g3=>?_;refine ⟨v,g1.mono uv,g3.imp (fun p=>⟨p.1,_,q.toInCall.ns,p.2⟩) fun ⟨p1,p2⟩=>⟨.inl p1,?_⟩⟩;refine eE1 ((so.cell x (by refine rwC (aW ..) ?_;refine rwD (kO ..) ?_;exact p1)).2) fun c hc=>?_;exact ⟨c,hc,p2▸q.cell x c hc⟩,tab.to (fun b _ o e=>keep b o e) uv⟩
 have same:s'={ s with heap:=s'.heap,toks:=s'.toks }:=by
  refine eE2 (q.toInCall.same) fun h tk e=>?_;refine rwC (e ..) ?_;exact rfl
 exact AC (hbody F s' ⟨rfl,rfl,so,fun b hb=>Ak _ hb,hX',⟨cx,fun _ m=>(nomatch m),.inl ⟨rfl,rfl⟩,same,fun b o _ e=>keep b o e,(fun o e=>by replace e:=(dL ..)▸e;exact nS e),fun y c hy o e=>(by replace e:=(dC y c hy ..)▸e;exact nS e)⟩,one⟩) (fun _ _ h=>h) fun _ _ e=>e.elim
end
noncomputable section
noncomputable def dsP (c:Ct) (y:Str):Nat→List Stmt→an→Tbl→(an→Tbl→Prop)→Prop
 | 0,_,_,_,_=>False
 | _+1,[],vs,T,kn=>kn vs T
 | n+1,st::rest,vs,T,kn=>onSIf st (fun t b o _=>ai o.isEmpty (c.E.2 (c.N vs) c.sc t T fun d T=>aa d (dsP c y n b vs T fun vs T=>dsP c y n rest vs T kn) (dsP c y n rest vs T kn)))
  (iJ st (fun ts e _=>ak (ki ts) fun t=>tM t (fun v i _=>ak (bQ v) fun x=>putE c x i e vs 2 y T fun vs _ _ T=>dsP c y n rest vs T kn) False) False)
noncomputable def runD (C:ba) (D:aN) (G:Rho) (fd:FD) (d:List (Int×Int)) (T:Tbl) (Q:List (Int×Int)→Tbl→Prop):Prop:=ak (ki fd.params) fun y =>
 ai (aQ fd.scope y && has y (eJ fd.scope) (lT fd.scope)) (dsP (nK C D G fd.scope) y 20 fd.body (put y (.idict d) (eJ fd.scope) (lT fd.scope)) T fun vs T=>ak (look y (eJ fd.scope) vs) fun l=>Q l.d T)
end
section
variable {W:Wd}{F:Fr W}{G:Rho}{fd:FD}{a:Addr}{T:Tbl}{s:Shared}{n:Nat}{c:Ct}{y:Str}
theorem sC:(pure false:Sem Bool)=pure false:=rfl
theorem sF {e v i:Expr}{p:Pos}{l:Nat}{env:Env}:swapsWith e (some (.Subscript v i p)) l env=pure false:=by cases e <;> exact sC
structure FnsOk (W:Wd) (qr:Str→Option FD):Prop where
 lim:W.h₀.NoLimit
 fns:∀f fd,qr f=some fd→∃a,W.faddr f=some a∧FnOk W fd a
theorem ctOk (wok:WOk W G) (sc:Scope):CtOk W (nK (Calls W n) (aw W n) G sc) n:=⟨sJ wok 40,fun _ _ _ _ h=>h,wok⟩
theorem calls_ok {f:Str}{l:List AV}{Q:AV→Tbl→Prop} (wok:WOk W G) (lim:W.h₀.NoLimit) (hf:W.faddr f=some a) (fn:FnOk W fd a) (h:bE (Calls W n) (aw W n) G fd l T Q):Calls W (n+1) f l T Q:=by
 refine bc fun zz=>?_;refine eE1 (ag h) fun vs zt1=>aA2 zt1 fun hb h=>?_;refine zz ?_;refine ⟨a,hf,fun A X s vals hA ok tab hv=>vm lim fn wok.glob hA hb hv ok tab fun F s₁ en=>?_⟩;have hr:=fun {F:Fr W}{st vs k y T kn kb kr}=>kL (ctOk (n:=n) wok fd.scope) 40 (F:=F) (st:=st) (vs:=vs) (k:=k) (y:=y) (T:=T) (kn:=kn) (kb:=kb) (kr:=kr);refine AC (jX (ctOk (n:=n) wok fd.scope) hr en.n en.so h _ _ _ s₁ en.st) (fun fl s₂ d=>?_) fun _ _ e=>e.elim;have up:Up (vw F.X s₂.heap) (vw X s₂.heap):=fun b o e=>aJ (bm e).1 fun m=>(bm e).2 (en.sub b m);have fin:∀{O ν k y T' s₂},Up (vw F.X s₂.heap) (vw X s₂.heap)→Sx F s (fun b o=>s.heap.get? b=some o) O ν k y T' s₂→Tab W T' X s₂.heap∧Af W s s₂:=fun u x=>⟨x.all.tab.to (fun _ _ _ e=>e) u,⟨x.same,x.kp⟩⟩;cases d with
 | next x q=>exact ⟨.none,.none,_,rfl,by exact rfl,(fin up x).1,(fin up x).2,q⟩
 | brk x q=>exact q.elim
 | ret x v q=>exact ⟨_,_,_,rfl,v.mono up,(fin up x).1,(fin up x).2,q⟩
theorem vn {B:Shared}{J:Addr→Obj→Prop}{O:List Addr} (ok:CtOk W c n) (hF:F.n=n+1) (so:ScOk c.sc F.env):∀(m:Nat) {sts:List Stmt}{vs:an}{T:Tbl}{kn:an→Tbl→Prop}{s:Shared},dsP c y m sts vs T kn→Sx F B J O (c.N vs) 2 y T s →
  Av (model W.prog W.w) F.A (execs sts F.env) (fun fl s'=>fl=.next∧∃vs T',Sx F B J O (c.N vs) 2 y T' s'∧kn vs T') NoE s
 | 0,_,_,_,_,_,h,_=>h.elim
 | m+1,[],_,_,_,_,h,x=>wpAny_execs_nil ⟨rfl,_,_,x,h⟩
 | m+1,st::rest,vs,T,kn,s,h,x=>by
  unfold dsP at h;revert h;exact onSIf_c (P:=fun st p=>p→Av (model W.prog W.w) F.A (execs (st::rest) F.env) (fun fl s'=>fl=.next∧∃vs T',Sx F B J O (c.N vs) 2 y T' s'∧kn vs T') NoE s) st (fun t b o p h=>by
   refine aA2 (ac h) fun ho h=>?_;rw [AS.mp ho];exact AT (wpAny_If (Ev.branch (ok.E.t hF so h) x.all (fun s' T' cx af q=>AC (vn ok hF so m q (x.back af cx.tab).2) (fun fl s₂ ⟨e,vs₂,T₂,x₂,q⟩=>by rw [e];exact vn ok hF so m q x₂) fun _ _ e=>e)
    fun s' T' cx af q=>wpAny_execs_nil (vn ok hF so m q (x.back af cx.tab).2))))
   (iI (P:=fun st p=>p→Av (model W.prog W.w) F.A (execs (st::rest) F.env) (fun fl s'=>fl=.next∧∃vs T',Sx F B J O (c.N vs) 2 y T' s'∧kn vs T') NoE s) st (fun ts e p h=>by
    refine eE1 (ag h) fun t zt1=>aA2 zt1 fun et h=>?_;rw [bH et];revert h;exact oC (P:=fun t q=>q→Av (model W.prog W.w) F.A (execs (.Assign [t] e p::rest) F.env) (fun fl s'=>fl=.next∧∃vs T',Sx F B J O (c.N vs) 2 y T' s'∧kn vs T') NoE s) t (fun v i q h=>by
     refine eE1 (ag h) fun x' zt1=>aA2 zt1 fun ex h=>?_;refine eE1 (cH ex) fun px e1=>?_;refine aA2 (ac h) fun hh h=>?_;refine aA3 (gM hh) fun h1 h2 h3=>?_;rw [e1,aM h1];refine eE1 (ag h) fun l zt2=>aA2 zt2 fun el h=>?_;refine AT (st_put (N:=fun v j=>c.N (c.put y (.idict (cZ j.i v.i l.d)) vs)) (P:=fun v j T=>ai (Aw v.k 2 && (Aw j.k 2 && Cu l.d.length cap)) (dsP c y m rest (c.put y (.idict (cZ j.i v.i l.d)) vs) T kn)) x el (fun v j=>pB h3 el) ((fz ok hF so h).mono fun v T q=>fz ok hF so q) sF fun v j T₁ p=>?_);refine aA2 (ac p) fun q p=>?_;refine aA3 (gM q) fun q1 q2 q3=>?_;exact ⟨⟨Am q1,Am q2,kE q3⟩,fun s' x'=>vn ok hF so m p x'⟩) False.elim) False.elim)
theorem vD {f:Str}{d:List (Int×Int)}{Q:List (Int×Int)→Tbl→Prop} (wok:WOk W G) (lim:W.h₀.NoLimit) (hf:W.faddr f=some a) (fn:FnOk W fd a) (h:runD (Calls W n) (aw W n) G fd d T Q):aw W (n+1) f d T Q:=by
 refine eE1 (ag h) fun y zt0=>aA2 zt0 fun e0 h=>?_;have ep:=bH e0
 ·refine bc fun zz=>?_;refine aA2 (ac h) fun hh h=>?_;refine aA2 (cM hh) fun hs hy=>?_;refine zz ?_;refine ⟨a,hf,fun A X s g hA ok tab hd gX g0=>?_⟩;have hd':DictV (intKind W.prog W.w) (vw X s.heap) (.ref g) d:=by obtain ⟨⟨p,kvs,ep,e,hd,r⟩,c⟩:=hd;exact ⟨⟨p,kvs,ep,e,hd.at' fun o q=>aJ q (by cases e;exact gX),r⟩,c⟩
  have hb:nV fd [.idict d]=some (put y (.idict d) (eJ fd.scope) (lT fd.scope)):=by
   unfold nV;rw [ep,List.all_cons,hs];show rV _ [y] ([Cd d]++fd.dflt.drop (1+fd.dflt.length - 1)) _=_;rw [Nat.add_sub_cancel_left,Cq];rfl
  refine vm lim fn wok.glob hA hb (by exact ⟨_,_,rfl,hd',rfl⟩) ok tab fun F s₁ en=>?_;have x:=en.st;have hny:(nK (Calls W n) (aw W n) G fd.scope).N (put y (.idict d) (eJ fd.scope) (lT fd.scope)) y=some (.idict d):=kI (c:=nK (Calls W n) (aw W n) G fd.scope) hs hy;have gl:∃o,s.heap.get? g=some o∧Fat o:=by obtain ⟨⟨p,kvs,ep,e,⟨o,es,eo,ex,_⟩,_⟩,_⟩:=hd;exact ⟨o,by cases e;exact eo,.inr ex.1⟩
  have g0':g∉W.X0:=fun m=>gX (ok.x0 g m);refine bc fun zz=>?_;refine eE1 (gl) fun og zt3=>aA2 zt3 fun eg fg=>?_;refine zz ?_;have eg₁:=x.kp g og g0' eg;have gF:g∉F.X:=fun m=>(en.new g m).elim gX fun q=>by rw [eg] at q;exact Sn q
  have cx:=x.all;have one:∀{b},b∈[g]→b=g:=Ae.mp;have xs:∀b∈[g]++F.X,W.h₀.get? b=none∧∃o,s₁.heap.get? b=some o:=fun b m=>(Ao.mp m).elim (fun m=>by rw [one m];exact ⟨g0,_,eg₁⟩) (cx.hp.xs b);have th:Thin (vw F.X s₁.heap) (vw ([g]++F.X) s₁.heap):=fun b o f e=>aJ (bm e).1 fun m=>(Ao.mp m).elim (fun m=>by have q:=(bm e).1;rw [one m,eg₁] at q;obtain rfl:=As q;exact f fg) (bm e).2
  let J':Addr→Obj→Prop:=fun b o=>s.heap.get? b=some o∧b≠g
  have x':Sx F s J' [g] ((nK (Calls W n) (aw W n) G fd.scope).N (put y (.idict d) (eJ fd.scope) (lT fd.scope))) 2 y T s₁:=by
   refine ⟨⟨⟨cx.hp.base,xs,cx.hp.ns,cx.hp.cell⟩,fun w av e=>?_,cx.tab.thin th⟩,fun b m=>by rw [one m];exact ⟨gF,⟨_,eg₁,fg⟩,fun o q=>q.2 rfl⟩,
    .inr ⟨by decide,g,.idict d,hny,(cG hs).2.1,en.one y _ ep rfl,(show _∧_ from ⟨rfl,rfl,?_⟩)⟩,x.same,fun b o n q=>x.kp b o n q.1,fun o q=>x.fk.loc o q.1,fun y c e o q=>x.fk.cell y c e o q.1⟩
   ·refine bc fun zz=>?_;refine aA2 (ic e) fun e1 e2=>?_;refine zz ?_;have ne:=e2 (by decide);have e1:rho fd.scope G (eJ fd.scope) (put y (.idict d) (eJ fd.scope) (lT fd.scope)) w=some av:=e1;unfold rho at e1;rw [fZ ne,show look w (eJ fd.scope) (lT fd.scope)=none from gc _] at e1;cases eg:ql (bu w fd.scope.names) with
    | false=>rw [eg] at e1;cases h:(nv (bu w fd.scope.names) && !aP w) <;> (rw [h] at e1;exact nS e1)
    | true =>
     rw [eg] at e1;refine bc fun zz=>?_;obtain ⟨gd,u,hu,mg,hg,hm⟩:=wok.glob w av e1;refine zz ?_;refine ⟨gd,u,hu.mono fun b o e=>aJ (cx.hp.base b o e) fun m=>(by rw [(xs b m).1] at e;exact nS e),.inr ⟨en.so.glob w ?_,mg,hg,hm⟩⟩;cases ek:bu w fd.scope.names with
     | none=>rw [ek] at eg;exact fT eg
     | some k=>rw [ek] at eg;cases k <;> first | rfl | exact fT eg
   ·refine bc fun zz=>?_;obtain ⟨⟨p,kvs,ep,e,hd,r⟩,c⟩:=hd;refine zz ?_;cases e;exact ⟨⟨_,kvs,ep,rfl,hd.at' fun o q=>x.kp _ o g0' q,r⟩,c⟩
  refine AC (vn (ctOk (n:=n) wok fd.scope) en.n en.so 20 h x') (fun fl s₂ ⟨e,vs₂,T₂,x₂,q⟩=>?_) fun _ _ e=>e.elim;subst e;refine bc fun zz=>?_;refine eE1 (ag q) fun l zt4=>aA2 zt4 fun el q=>?_;refine eE1 (own2 x₂ (av:=l) (by rw [N_at (c:=nK (Calls W n) (aw W n) G fd.scope) (o:=none) hs];exact el)) fun b zt5=>aA5 zt5 fun eb _ _ _ hd₂=>?_;refine zz ?_;cases eb;refine ⟨rfl,_,T₂,hd₂,x₂.cx.tab.to (fun _ _ _ e=>e) fun b o e=>aJ (bm e).1 fun m=>(bm e).2 ((Ao.mp m).elim (Ap _) fun m=>Ak _ (en.sub b m)),⟨x₂.same,fun b o m e=>x₂.kp b o (fun q=>m (.tail _ q)) ⟨e,fun q=>m (q▸.head _)⟩⟩,q⟩
end
end Mine
namespace Mine
open PySem
open AV renaming int → Aa, list → Ad, tup → Al, tab → An, bool → Aq, set → AE, fn → Ba, rng → Bm, none → By, host → BD, idict → Cd, olist → Cj, str → CE
noncomputable section
noncomputable def litI (e:Expr):Option AV:=(dJ e).map Aa
noncomputable def uT (st:Stmt):FD:=mR st (fun _ args body _ _ _ sc _ _ _=>⟨args.args.map (·.arg),args.defaults.filterMap litI,body,sc⟩) ⟨[],[],[],{ kind:=.function,names:=[],isGenerator:=false,isCoroutine:=false,more:=[] }⟩
noncomputable def bodyOfC (st:Stmt):List Stmt:=onSClass st (fun _ _ _ b _ _ _ _ _ _ _=>b) []
noncomputable def theProg:Program:=PySem.Challenge.rw_pc0110_01.prog
noncomputable def stAt (i:Nat):Stmt:=theProg.main.body.getD i (.Pass default)
noncomputable def oe (i j:Nat):Stmt:=(bodyOfC (stAt i)).getD j (.Pass default)
noncomputable def aX (i:Nat):FD:=uT (stAt i)
noncomputable def oh (i j:Nat):FD:=uT (oe i j)
noncomputable def globN (x:Str):List (Nat×Str×AV)→Option AV
 | []=>none
 | p::r=>cond (Aw p.1 (code x) && eqL p.2.1.cps.toList x.cps.toList) (some p.2.2) (globN x r)
noncomputable def places:List (Str×Nat):=((Ab "kind_of",55)::(Ab "str_type",56)::(Ab "num_type",57)::(Ab "member_type",58)::(Ab "new_decl",59)::(Ab "parts_of",60)::(Ab "whole_of_row",61)::(Ab "regular_twin",62)::(Ab "join_bools",63)::(Ab "stays_beside",64)::(Ab "top_of",65)::(Ab "union",66)::(Ab "add_undef",67)::(Ab "is_literal",68)::(Ab "is_unit",69)::(Ab "is_fresh",70)::(Ab "regular_one",71)::(Ab "common_family",72)::(Ab "meet_family",73)::(Ab "family",74)::(Ab "is_nullish_family",75)::(Ab "all_units",83)::(Ab "all_values",84)::(Ab "units_clash",85)::(Ab "flat_props",86)::(Ab "shapes_clash",87)::(Ab "meet_nullish",88)::(Ab "meet_values",89)::(Ab "meet_objects",90)::(Ab "meet_case",91)::(Ab "lay_on",92)::(Ab "members_of_meet",93)::(Ab "meet_parts",94)::(Ab "meet_two",95)::(Ab "inter",96)::(Ab "may_be_nullish",97)::(Ab "meet_may_be_nullish",98)::(Ab "not_nullish",99)::(Ab "remove_nullish",100)::(Ab "typeops_all_props",101)::(Ab "loose_props",102)::(Ab "lets_primitive",103)::[(Ab "plain_value",107),(Ab "plain_meets",108),(Ab "is_nullish_kind",109),(Ab "sharpen",110),(Ab "nullish_side",111),(Ab "unknown_equal",112),(Ab "plain_equal_yes",113),(Ab "plain_equal_no",114),(Ab "narrow_plain_equal",115),(Ab "narrow_is_primitive",118),(Ab "all_primitive",119),(Ab "is_loose",120),(Ab "part_meets",121),(Ab "equal_part",122),(Ab "narrow_equal",123),(Ab "narrow_unhit",124),(Ab "narrow_switch",125),(Ab "is_exhausted",126),(Ab "_law_texts",132),(Ab "_law_numbers",133),(Ab "_law_atom",134),(Ab "_law_values",135),(Ab "_law_parts",136),(Ab "_law_test",137),(Ab "_law_all",138),(Ab "_law_said",139),(Ab "_law_left",140),(Ab "_law_body",141),(Ab "_law_groups",142),(Ab "law",143)])
noncomputable def theGlobs:List (Nat×Str×AV):=((9187628206738321540852440856824324816999,Ab "kind_of",Ba "kind_of")::(20695101497500315668860953882985590010834583654,Ab "str_type",Ba "str_type")::(19803071774629479649338104501219067936024559718,Ab "num_type",Ba "num_type")::(181005581338420946720995786088241592178829899264809847922087690342,Ab "member_type",Ba "member_type")::(19803070413500417613776323533555076603343536237,Ab "new_decl",Ba "new_decl")::(20159881996394337839412594259579673050427162727,Ab "parts_of",Ba "parts_of")::(414104953585500225437796951424577160532687938179227521008074472357363832,Ab "whole_of_row",Ba "whole_of_row")::(396850582782003866907223849644465515022646783706210538313423316626440303,Ab "regular_twin",Ba "regular_twin")::(83956277614990711809323347816158685447491603942587127300212,Ab "join_bools",Ba "join_bools")::(400301480637962800794226898815037294831185478917731620727255863530618982,Ab "stays_beside",Ba "stays_beside")::(4746086013650601870081515164008551,Ab "top_of",Ba "top_of")::(2282452971227182165890433135,Ab "union",Ba "union")::(36666171096368404958296522066603014854399832501518439,Ab "add_undef",Ba "add_undef")::(83171641394643269280902439151167744001336346252040594260077,Ab "is_literal",Ba "is_literal")::(9017487428925754240114251911648753221749,Ab "is_unit",Ba "is_unit")::(18911041796546503355873941465203965669798838377,Ab "is_fresh",Ba "is_fresh")::(189233104125024732068645405599816091071437255719285245989095473254,Ab "regular_one",Ba "regular_one")::(723700944231202647256506276081026367330737701460691485386041746657366922756218,Ab "common_family",Ba "common_family")::(181005581338417953568853839197229483605474142474958864254272274554,Ab "meet_family",Ba "meet_family")::(4178178273948943834461926888308858,Ab "family",Ba "family")::(14838316659884013663891264553793064574965103208030626702530761027130293195301980581922017917757758111866,Ab "is_nullish_family",Ba "is_nullish_family")::(36666172523616778228990245001815911053131822684700788,Ab "all_units",Ba "all_units")::(76894537040247973696483350326612809247658039332400372121716,Ab "all_values",Ba "all_values")::(194169624858728550793786080518951179978226000799480868667725447273,Ab "units_clash",Ba "units_clash")::(80817725624862686710089729514625520921971943333655893508212,Ab "flat_props",Ba "flat_props")::(400301460891908112936387090685314942995721247614332186569579645517168745,Ab "shapes_clash",Ba "shapes_clash")::(379596216915025888162828966580148886567732447081375140211017212330246249,Ab "meet_nullish",Ba "meet_nullish")::(181005581338417953568853839197230132642581459319189111306002104436,Ab "meet_values",Ba "meet_values")::(379596216915025888162828966580148971637553445712366551787260294872432756,Ab "meet_objects",Ba "meet_objects")::(41155904304654985382706818017420428511972322808168550,Ab "meet_case",Ba "meet_case")::(4421567189192874559969755702231151,Ab "lay_on",Ba "lay_on")::(3501157132389967524106887576751050752442658429922478885259110848313866707054275320547901557,Ab "members_of_meet",Ba "members_of_meet")::(86310187024315811905314368818869537951310260560266614800500,Ab "meet_parts",Ba "meet_parts")::(19624664451911442462304505356512348799416402032,Ab "meet_two",Ba "meet_two")::(2050339213861221742837497971,Ab "inter",Ba "inter")::(1669481788483453505568232285121786176921785337427399878342616476997634661288748515433,Ab "may_be_nullish",Ba "may_be_nullish")::(67722228093985219893019344920483210458340935712694536297027853470538232735305219355493705334206895548144765164847209,Ab "meet_may_be_nullish",Ba "meet_may_be_nullish")::(182651093742121941006900589924435855008039646798323602730201907305,Ab "not_nullish",Ba "not_nullish")::(1745367321034001946278319966976995162990489072253046704246713200904151525736180613225,Ab "remove_nullish",Ba "remove_nullish")::(16378141570629364381364766468710463743062353872480366852532332925268371871151836153850440437488141992052,Ab "typeops_all_props",Ba "typeops_all_props")::(179360084627477658204062986469714534986077280990119095726854111348,Ab "loose_props",Ba "loose_props")::(1654304716710945052197765957250520186411057338631337086491544679827772206524942778470,Ab "lets_primitive",Ba "lets_primitive")::(185942100502844093579025323955216937017597605308594341025113178214,Ab "plain_value",Ba "plain_value")::(185942100502844093579025323955216937017423520027463291785046917236,Ab "plain_meets",Ba "plain_meets")::(3373842596348370912867554705779426643622424127904793454611253998139157692577607886267482213,Ab "is_nullish_kind",Ba "is_nullish_kind")::(9868192900015127804034496664207756361839,Ab "sharpen",Ba "sharpen")::(383047116416499579656868328767269028585711401056730667245501815470424166,Ab "nullish_side",Ba "nullish_side")::(853967041172306902704411735803262963339198419757739679405389026757665567539309,Ab "unknown_equal",Ba "unknown_equal")::(3596643300020264758952507674180038785939396164840295690235829361456099188069422076870525044,Ab "plain_equal_yes",Ba "plain_equal_yes")::(1715013170251972560383085095491427796334932405872485966794886284568833917650877808752,Ab "plain_equal_no",Ba "plain_equal_no")::(32586042054431158083087974435206805670592459972036956438416210315032624880271992751116902776754466834503172205,Ab "narrow_plain_equal",Ba "narrow_plain_equal")::(68337883266534412036264111762742822925694318591121146573500791014197113877257575101151930946471999459304437169782886,Ab "narrow_is_primitive",Ba "narrow_is_primitive")::(709226922723916957127171972933982871909053792101044639332189434815036264546406,Ab "all_primitive",Ba "all_primitive")::(18911041796546503355989998316216897940471414886,Ab "is_loose",Ba "is_loose")::(88664098678510459842408848796805805842172739082634754261108,Ab "part_meets",Ba "part_meets")::(80033089778665015515781415321611657377376057453078258909301,Ab "equal_part",Ba "equal_part")::(383047083506413141061293893263834630974601315530246712689090246056345709,Ab "narrow_equal",Ba "narrow_equal")::(383047083506413141061293893263834630974601315839731694840262029628932213,Ab "narrow_unhit",Ba "narrow_unhit")::(803307957269641331602974610846037324017647098634795538968365762191601931649129,Ab "narrow_switch",Ba "narrow_switch")::(365792747258503855252930343187388376699530694077281657647710622887968869,Ab "is_exhausted",Ba "is_exhausted")::(75325261606399341041988625544509594026612464814694185566324,Ab "_law_texts",Ba "_law_texts")::(331284004006020704349482710546082201848497045292994268821408216439062644,Ab "_law_numbers",Ba "_law_numbers")::(35917883685302420159334481022123921639109445814321262,Ab "_law_atom",Ba "_law_atom")::(157968523028383590864888530037919465261659427054611440126371299444,Ab "_law_values",Ba "_law_values")::(75325261606399341041988625544509516655323115963891306201204,Ab "_law_parts",Ba "_law_parts")::(35917883685302420159334481022124096883112175365783669,Ab "_law_test",Ba "_law_test")::(17126981585169992522876015196859322375809794157,Ab "_law_all",Ba "_law_all")::(35917883685302420159334481022124087659722546303991909,Ab "_law_said",Ba "_law_said")::(35917883685302420159334481022124023096135880500314229,Ab "_law_left",Ba "_law_left")::(35917883685302420159334481022123930862459492413472890,Ab "_law_body",Ba "_law_body")::(157968523028383590864888530037918856789700145355104016954940194932,Ab "_law_groups",Ba "_law_groups")::(479387275231352,Ab "law",Ba "law")::(1740854065689115801317015642,Ab "Y_KEY",Aa 1)::(3650835585567977570659230738808909,Ab "Y_BOOL",Aa 2)::(1740854065689150985720561747,Ab "Y_STR",Aa 3)::(1740854065689128995490103374,Ab "Y_NUM",Aa 4)::(3650835585568005240770943269208142,Ab "Y_ENUM",Aa 5)::(7656357149945422811703086511198564253775,Ab "Y_UNION",Aa 6)::(7656357149945190697945720550775511318611,Ab "Y_INTER",Aa 7)::(1740854065689133393496768587,Ab "Y_OBJ",Aa 8)::(1740854065689146587642593351,Ab "Y_REF",Aa 9)::(7656357149945326097517613543967864913998,Ab "Y_PARAM",Aa 10)::(7656357149945035955477703357592466620506,Ab "Y_ARRAY",Aa 11)::(7656357149945403468954536312176071671878,Ab "Y_TUPLE",Aa 12)::(1740854065689150985697493064,Ab "Y_SIG",Aa 13)::(7656357149945190697945720480406767140953,Ab "Y_INDEX",Aa 15)::(3650835585567986794031267591487557,Ab "Y_COND",Aa 16)::(1740854065689155383758684237,Ab "Y_TPL",Aa 18)::(7656357149945035955422363085788919365716,Ab "Y_ALIAS",Aa 19)::(290271235407962,Ab "ANY",Aa 0)::(7316074093422364395951779175280595173455,Ab "UNKNOWN",Aa 1)::(1528082881629316486856179795,Ab "NEVER",Aa 2)::(802433719050241572933,Ab "VOID",Aa 3)::(1663482656436424121279053895,Ab "UNDEF",Aa 4)::(1528083029203225096082161749,Ab "NULLT",Aa 5)::(3407446457553360847323330370338888,Ab "STRING",Aa 6)::(3204622380859611140026954034446419,Ab "NUMBER",Aa 7)::(6040014690126214805879924025053551788117,Ab "FALSE_T",Aa 8)::(3448011238075065630601609696247893,Ab "TRUE_T",Aa 9)::(6805650056263106870220502854223859286101,Ab "OBJECTT",Aa 10)::(1353997637391759792289087578,Ab "EMPTY",Aa 11)::(307863429840979,Ab "ERR",Aa 13)::(6040015379728005930344921613986667954247,Ab "FRESH_F",Aa 14)::(6040015379728005930344921613986667954261,Ab "FRESH_T",Aa 15)::(1566768747664626792368439381,Ab "P_OPT",Aa 1)::(2798974382214635082965158715195470,Ab "D_ENUM",Aa 5)::(26564265534926591775488376741674897743513430607790163,Ab "FAM_OTHER",Aa 0)::(6040014690126234148803718385135232483411,Ab "FAM_STR",Aa 1)::(6040014690126234148803718363145002025038,Ab "FAM_NUM",Aa 2)::[(12666828887427612197632015462025776456280309837,Ab "FAM_BOOL",Aa 3),(12666828887427612197632015572706267286810394701,Ab "FAM_NULL",Aa 4),(26564265534926591775488376857731721086268018064883783,Ab "FAM_UNDEF",Aa 5),(12666828887427612197632015646493217193363243077,Ab "FAM_VOID",Aa 6),(6040014690126234148803718367543008690251,Ab "FAM_OBJ",Aa 7),(29183276469024505581418412658733824537683876798005327,Ab "MAX_UNION",Aa 400),(29183276469024505581418412329906038495957704341717071,Ab "MAX_DRAWN",Aa 200),(61201768110141966841721422426560324167621422022563033251923,Ab "MEET_NEVER",Aa 0),(29183277182646735592709265912323134175298306600599637,Ab "MEET_LEFT",Aa 1),(61201768110141966841721422426560401538910770781006942175317,Ab "MEET_RIGHT",Aa 2),(29183277182646735592709265912323041941621918547312713,Ab "MEET_BOTH",Aa 3),(128349418242102853301268913235501620224269333059027262544111730772,Ab "MOST_ROUNDS",Aa 200),(265717356118840641817613827797170951206648132209198078930622667995218004,Ab "LITERAL_ROWS",Al [.int 2,.int 3,.int 4,.int 5]),(128349407257174442228552763945592911708085928019265935311607169108,Ab "MARKED_ROWS",Al [.int 2,.int 3,.int 4,.int 5,.int 8]),(131640417156451578079774108161334805138316669460382411490330673236,Ab "OBJECT_ROWS",Al [.int 8,.int 9,.int 11,.int 12,.int 13]),(5784803482842844460828144720702192222277,Ab "COERCED",Al [.int 1,.int 2,.int 3]),(6720580235264475878808926611141317099593,Ab "NULLISH",Al [.int 4,.int 5,.int 6]),(63555686124790134788655613187529302681615591752612280533076,Ab "PRIMITIVES",Al [.int 1,.int 2,.int 3,.int 4,.int 5,.int 6]),(2578124917248229294236586815427769380474798677361517133919396508212632741773041097097871444,Ab "PRIMITIVE_NAMES",Al [.str "charAt",.str "concat",.str "includes",.str "indexOf",.str "length",.str "slice",.str "toLowerCase",.str "toString",.str "toUpperCase"]),(262266476363431053837384650678836056384074531636475472191701740502909012,Ab "KEY_FAMILIES",Cd [(3,6),(4,5),(5,4),(6,1),(7,2),(10,7)]),(35917883685302420159334481022123986202647733093793893,Ab "_law_held",Al [.tup [.int 0],.tup [.int 1],.tup [.int 2],.tup [.int 3],.tup [.int 4,.int 5,.int 6,.int 7],.tup [.int 8,.int 9,.int 10,.int 11,.int 12],.tup [.int 0],.tup [.int 4],.tup [.int 5],.tup [.int 6],.tup [.int 8],.tup [.int 9],.tup [.int 10],.tup [.int 11],.tup [.int 8],.tup [.int 9],.tup [.int 4],.tup [.int 0,.int 1,.int 2,.int 3,.int 4,.int 5,.int 6,.int 7,.int 8,.int 9,.int 10,.int 11,.int 12,.int 13]]),(479387283619951,Ab "len",AV.blt 0),(431008786677869,Ab "all",AV.blt 1),(431008790872186,Ab "any",AV.blt 2),(4705521194443316976070053326749797,Ab "sorted",AV.blt 3),(83171641394645053340688463190127728163526360397882381566054,Ab "isinstance",AV.blt 4),(2263110222676983143397851238,Ab "tuple",AV.blt 5),(510173609197685,Ab "set",AV.blt 6),(2224424411981865476608229478,Ab "range",AV.blt 7),(510173640654963,Ab "str",AV.blt 8)])
noncomputable def GG:Rho:=fun x=>globN x theGlobs
noncomputable def ctA (C:ba) (D:aN) (i:Nat):Ct:=nK C D GG (aX i).scope
noncomputable def rx:Nat→List Stmt→List (Stmt×List Stmt)
 | 0,_=>[]
 | _+1,[]=>[]
 | n+1,st::r=>pZ st (fun _ _ b _ _=>(st,r)::rx n b) (lj st (fun _ b _ _=>(st,r)::rx n b) (onSIf st (fun _ b o _=>rx n b++rx n o) []))++rx n r
noncomputable def lpP (i k:Nat):Stmt×List Stmt:=(rx 60 (aX i).body).getD k (.Pass default,[])
noncomputable def lpS (i k:Nat):Stmt:=(lpP i k).1
noncomputable def lpB (st:Stmt):List Stmt:=pZ st (fun _ _ b _ _=>b) (lj st (fun _ b _ _=>b) [])
noncomputable def lpX (st:Stmt):Str:=pZ st (fun t _ _ _ _=>(bQ t).getD ⟨#[]⟩) ⟨#[]⟩
noncomputable def rs (C:ba) (D:aN) (i k m:Nat) (kn kb:Kn) (kr:K):Kn:=fun vs kk y T=>ssP (exS (ctA C D i) m) (lpP i k).2 vs kk y T kn kb kr
noncomputable def tl (C:ba) (D:aN) (i n m:Nat) (kn kb:Kn) (kr:K):Kn:=fun vs kk y T=>ssP (exS (ctA C D i) m) ((aX i).body.drop n) vs kk y T kn kb kr
noncomputable def lp (C:ba) (D:aN) (i k m:Nat):nY:=turnS (ctA C D i) (exS (ctA C D i) m) (lpX (lpS i k)) (lpB (lpS i k))
end
inductive Atom where
 | undef | null | void | str | num | unk | empty
 | bool (v f:Bool)
 | sl (k:_root_.Fin 3) (f:Bool)
 | nl (k:_root_.Fin 4) (f:Bool)
 | ei (k:_root_.Fin 2) (f:Bool)
 | es (f:Bool)
noncomputable def bI (b:Bool):Int:=if b then 1 else 0
noncomputable def sTxt:_root_.Fin 3→Str
 | 0=>"a"
 | 1=>"b"
 | 2=>""
noncomputable def nVal:_root_.Fin 4→Int
 | 0=>0
 | 1=>1
 | 2=>2
 | 3=>-1
noncomputable def eNm:_root_.Fin 2→Str
 | 0=>"A"
 | 1=>"B"
noncomputable def eVal:_root_.Fin 2→Int
 | 0=>0
 | 1=>1
noncomputable def aS:Atom→Row
 | .undef=>[.int 1,.str "undefined"]
 | .null=>[.int 1,.str "null"]
 | .void=>[.int 1,.str "void"]
 | .str=>[.int 1,.str "string"]
 | .num=>[.int 1,.str "number"]
 | .unk=>[.int 1,.str "unknown"]
 | .empty=>[.int 8,.nums [],.nums [],.nums [],.nums [],.nums [],.int 0]
 | .bool v f=>[.int 2,.int (bI v),.int (bI f)]
 | .sl k f=>[.int 3,.str (sTxt k),.int (bI f)]
 | .nl k f=>[.int 4,.int (nVal k),.int (bI f)]
 | .ei k f=>[.int 5,.int 1,.str (eNm k),.int (eVal k),.int (bI f)]
 | .es f=>[.int 5,.int 2,.str "S",.str "a",.int (bI f)]
noncomputable def gg:Atom→Option Int
 | .undef=>some 4
 | .null=>some 5
 | .void=>some 3
 | .str=>some 6
 | .num=>some 7
 | .unk=>some 1
 | .empty=>some 11
 | .bool false false=>some 8
 | .bool true false=>some 9
 | .bool false true=>some 14
 | .bool true true=>some 15
 | _=>none
noncomputable def fam:Atom→Int
 | .undef=>5
 | .null=>4
 | .void=>6
 | .str=>1
 | .num=>2
 | .unk=>0
 | .empty=>7
 | .bool ..=>3
 | .sl ..=>1
 | .nl ..=>2
 | .ei ..=>2
 | .es ..=>1
noncomputable def pv:Atom→Row
 | .undef=>[.int 5,.int 0]
 | .null=>[.int 4,.int 0]
 | .bool v _=>[.int 3,.int (bI v)]
 | .sl k _=>[.int 1,.str (sTxt k)]
 | .nl k _=>[.int 2,.int (nVal k)]
 | .ei k _=>[.int 2,.int (eVal k)]
 | .es _=>[.int 1,.str "a"]
 | _=>[]
noncomputable def gu:Atom→Option Atom
 | .bool v true=>some (.bool v false)
 | .sl k true=>some (.sl k false)
 | .nl k true=>some (.nl k false)
 | .ei k true=>some (.ei k false)
 | .es true=>some (.es false)
 | _=>none
noncomputable def bT:Atom→Option Atom
 | .sl ..=>some .str
 | .es ..=>some .str
 | .nl ..=>some .num
 | .ei ..=>some .num
 | _=>none
noncomputable def allA:List Atom:=[.undef,.null,.void,.str,.num,.unk,.empty,.bool false false,.bool false true,.bool true false,.bool true true,.sl 0 false,.sl 0 true,.sl 1 false,.sl 1 true,.sl 2 false,.sl 2 true,.nl 0 false,.nl 0 true,.nl 1 false,.nl 1 true,.nl 2 false,.nl 2 true,.nl 3 false,.nl 3 true,.ei 0 false,.ei 0 true,.ei 1 false,.ei 1 true,.es false,.es true]
noncomputable def vL:Atom→Nat
 | .undef=>0 | .null=>1 | .void=>2 | .str=>3 | .num=>4 | .unk=>5 | .empty=>6
 | .bool v f=>7+2*cond v 1 0+cond f 1 0
 | .sl k f=>11+2*k.val+cond f 1 0
 | .nl k f=>17+2*k.val+cond f 1 0
 | .ei k f=>25+2*k.val+cond f 1 0
 | .es f=>29+cond f 1 0
theorem pq (a:Atom):allA[vL a]?=some a:=by
 cases a with
 | bool v f=>cases v <;> cases f <;> rfl
 | sl k f=>match k with | 0 | 1 | 2=>cases f <;> rfl
 | nl k f=>match k with | 0 | 1 | 2 | 3=>cases f <;> rfl
 | ei k f=>match k with | 0 | 1=>cases f <;> rfl
 | es f=>cases f <;> rfl
 | _=>rfl
theorem ia (a:Atom):a∈allA:=AP (pq a)
theorem vK {a b:Atom} (h:vL a=vL b):a=b:=As ((pq a).symm.trans (h▸pq b))
noncomputable instance:DecidableEq Atom:=fun a b=>if h:vL a=vL b then isTrue (vK h) else isFalse fun e=>h (e▸rfl)
theorem qL:allA.length=31:=rfl
theorem gs {p:Atom→Bool} (h:allA.all p=true) (a:Atom):p a=true:=AA.mp h a (ia a)
theorem all2 {p:Atom→Atom→Bool} (h:(allA.all fun a=>allA.all fun b=>p a b)=true) (a b:Atom):p a b=true:=gs (gs h a) b
theorem lW (a b:Atom) (h:aS a=aS b):a=b:=by
 have:=all2 (p:=fun a b=>decide (aS a=aS b→a=b)) (by decide +kernel) a b;exact of_decide_eq_true this h
noncomputable def T0:Tbl:=[[.int 1,.str "any"],aS .unk,[.int 1,.str "never"],aS .void,aS .undef,aS .null,aS .str,aS .num,aS (.bool false false),aS (.bool true false),[.int 1,.str "object"],aS .empty,[.int 6,.nums [8,9]],[.int 1,.str "error"],aS (.bool false true),aS (.bool true true)]
structure Good (T:Tbl):Prop where
 base:T0 <+: T
 nodup:T.Nodup
noncomputable def RowOf (T:Tbl) (t:Int) (r:Row):Prop:=0≤t∧T[t.toNat]?=some r
noncomputable def Gd (k:Nat) (T:Tbl):Prop:=Good T∧T.length+k≤cap
theorem Gd.mono {k j:Nat}{T:Tbl} (h:Gd k T) (l:j≤k):Gd j T:=⟨h.1,by have:=h.2;lia⟩
theorem RowOf.lt {T:Tbl}{t:Int}{r:Row} (h:RowOf T t r):t.toNat<T.length:=by
 rcases Co t.toNat T.length with q | q
 ·exact q
 ·have:=h.2;rw [List.getElem?_eq_none q] at this;exact nS this
theorem RowOf.mono {T T':Tbl}{t:Int}{r:Row} (h:RowOf T t r) (p:T <+: T'):RowOf T' t r:=by
 obtain ⟨u,rfl⟩:=p;exact ⟨h.1,by rw [List.getElem?_append_left h.lt];exact h.2⟩
theorem RowOf.fn {T:Tbl}{t:Int}{r q:Row} (h:RowOf T t r) (k:RowOf T t q):r=q:=by
 have:=h.2;rw [k.2] at this;obtain rfl:=As this;rfl
theorem RowOf.id {T:Tbl}{t u:Int}{r:Row} (n:T.Nodup) (h:RowOf T t r) (k:RowOf T u r):t=u:=by
 have e:t.toNat=u.toNat:=by
  have h1:=h.2;rw [← k.2] at h1;exact (List.getElem?_inj h.lt n).mp h1
 have:=h.1;have:=k.1;lia
theorem bW {T:Tbl} (g:Good T) {i:Nat}{r:Row} (h:T0[i]?=some r):RowOf T i r:=by
 have:RowOf T0 i r:=⟨Bv i,by simpa using h⟩;exact this.mono g.base
theorem fw (a:Atom):∀i,gg a=some i→0≤i∧T0[i.toNat]?=some (aS a):=by
 have:=gs (p:=fun a=>match gg a with | some i=>decide (0≤i∧T0[i.toNat]?=some (aS a)) | none=>true) (by decide +kernel) a;intro i e;replace this:=(e ..)▸this;exact of_decide_eq_true this
theorem free_row (a:Atom) (h:gg a=none):aS a∉T0:=by
 have:=gs (p:=fun a=>match gg a with | some i=>true | none=>decide (aS a∉T0)) (by decide +kernel) a;replace this:=(h ..)▸this;exact of_decide_eq_true this
theorem at_fixed {T:Tbl} (g:Good T) {a:Atom}{t i:Int} (h:RowOf T t (aS a)) (e:gg a=some i):t=i:=by
 refine aA2 (fw a i e) fun h0 h1=>?_;have:=bW g h1;have hi:((i.toNat:Nat):Int)=i:=BR h0;rw [hi] at this;exact RowOf.id g.nodup h this
theorem at_free {T:Tbl} (g:Good T) {a:Atom}{t:Int} (h:RowOf T t (aS a)) (e:gg a=none):16≤t:=by
 rcases Int.lt_or_le t 16 with q | q
 ·exfalso
  refine eE1 (g.base) fun u hu=>?_;have h2:=h.2;have hl:t.toNat<T0.length:=by have:=h.1;show t.toNat<16;lia
  rw [← hu,List.getElem?_append_left hl] at h2;exact free_row a e (AP h2)
 ·exact q
noncomputable def idA (T:Tbl) (a:Atom):Int:=(T.idxOf (aS a):Nat)
theorem iX {T:Tbl}{a:Atom} (h:aS a∈T):RowOf T (idA T a) (aS a) :=
 ⟨Bv _,by
  have:T.idxOf (aS a)<T.length:=List.idxOf_lt_length_of_mem h;show T[((T.idxOf (aS a):Nat):Int).toNat]?=_;rw [AY,AH this,List.getElem_idxOf]⟩
theorem qo {T:Tbl} (n:T.Nodup) {a:Atom}{t:Int} (h:RowOf T t (aS a)):t=idA T a :=
 RowOf.id n h (iX (AP h.2))
theorem qp {T T':Tbl} (n:T'.Nodup) (p:T <+: T') {a:Atom} (h:aS a∈T):idA T' a=idA T a :=
 (qo n ((iX h).mono p)).symm
theorem iY {T:Tbl} (g:Good T) {a:Atom}{i:Int} (e:gg a=some i):idA T a=i∧aS a∈T:=by
 refine aA2 (fw a i e) fun h0 h1=>?_;have:=bW g h1;rw [BR h0] at this;exact ⟨(qo g.nodup this).symm,AP this.2⟩
theorem idA_inj {T:Tbl}{a b:Atom} (h:aS a∈T) (k:aS b∈T) (e:idA T a=idA T b):a=b :=
 lW a b (RowOf.fn (iX h) (by refine rwC (e ..) ?_;exact iX k))
structure At (T:Tbl) (t:Int) (a:Atom):Prop where
 row:RowOf T t (aS a)
 fix:∀i,gg a=some i→t=i
 free:gg a=none→16≤t
theorem At.of {T:Tbl} (g:Good T) {a:Atom}{t:Int} (h:RowOf T t (aS a)):At T t a:=⟨h,fun _=>at_fixed g h,at_free g h⟩
theorem At.mono {T T':Tbl}{a:Atom}{t:Int} (h:At T t a) (p:T <+: T'):At T' t a:=⟨h.row.mono p,h.fix,h.free⟩
theorem At.idA {T:Tbl} (g:Good T) {a:Atom} (h:aS a∈T):At T (idA T a) a:=.of g (iX h)
theorem At.mem {T:Tbl}{a:Atom}{t:Int} (h:At T t a):aS a∈T:=AP h.row.2
theorem At.atom {T:Tbl}{a b:Atom}{t:Int} (h:At T t a) (k:At T t b):a=b:=lW a b (RowOf.fn h.row k.row)
theorem At.isFix {T:Tbl} (g:Good T) {a b:Atom}{t i:Int} (h:At T t a) (e:gg b=some i):t=i↔a=b:=by
 constructor
 ·intro q;refine aA2 (fw b i e) fun h0 h1=>?_;have hb:=bW g h1;rw [BR h0,← q] at hb;exact lW a b (RowOf.fn h.row hb)
 ·rintro rfl;exact h.fix i e
theorem At.notIn {T:Tbl} (g:Good T) {a:Atom}{t:Int} (h:At T t a) {i:Nat}{r:Row} (e:T0[i]?=some r) (hr:∀b,aS b≠r):t≠i:=fun q=>by
 have:=bW g e;replace this:=(q ..)▸this;exact hr a (RowOf.fn h.row this)
theorem At.no {T:Tbl} (g:Good T) {a:Atom}{t:Int} (h:At T t a):t≠0∧t≠2∧t≠10∧t≠12∧t≠13∧t≠-1:=by
 have no:∀r,(allA.all fun b=>decide (aS b≠r))=true→∀b,aS b≠r:=fun r hr b=>of_decide_eq_true (AA.mp hr b (ia b));refine ⟨h.notIn g (i:=0) rfl (no _ (by decide +kernel)),h.notIn g (i:=2) rfl (no _ (by decide +kernel)),h.notIn g (i:=10) rfl (no _ (by decide +kernel)),h.notIn g (i:=12) rfl (no _ (by decide +kernel)),h.notIn g (i:=13) rfl (no _ (by decide +kernel)),?_⟩;have:=h.row.1;lia
theorem aV:∀ns:List Int,aB (ns.map Aa)=some ns
 | []=>rfl
 | n::ns=>by show (aB (ns.map Aa)).map (n::·)=_;refine rwC (aV ns ..) ?_;rfl
noncomputable def vz (c:Cell):Bool:=match c with
 | .str s=>PyData.strOk s
 | _=>true
theorem js {c:Cell} (h:vz c=true):cellOf c.av=some c:=by
 cases c with
 | int i=>rfl
 | str s=>show cond (PyData.strOk s) _ _=_;refine rwC (show PyData.strOk s=true from h) ?_;rfl
 | nums l=>show (aB (l.map Aa)).map Cell.nums=_;refine rwC (aV ..) ?_;rfl
noncomputable def iC (r:Row):Bool:=r.all vz
theorem dp:∀{r:Row},iC r=true→bX (r.map Cell.av)=some r
 | [],_=>rfl
 | c::r,h=>by
  refine aA2 (cM (show (vz c && iC r)=true from h)) fun h1 h2=>?_;show (cellOf c.av).bind (fun y=>(bX (r.map Cell.av)).map (y::·))=_;refine rwC (js h1 ..) ?_;refine rwC (dp h2 ..) ?_;rfl
theorem eQ (a:Atom):iC (aS a)=true:=gs (p:=fun a=>iC (aS a)) (by decide +kernel) a
theorem mz (a:Atom):iC (pv a)=true:=gs (p:=fun a=>iC (pv a)) (by decide +kernel) a
noncomputable def nQ (r:Row) (i:Int):Option Cell:=(aj i r.length).bind fun k=>r[k]?
section
variable {T:Tbl}{t:Int}{r q:Row}{F:AV→Prop}{B:Bool→Prop}
theorem cY {F:Row→Prop} (h:RowOf T t r) (q:F r):aa (decide (0≤t)) (ak T[t.toNat]? F) False:=by
 refine rwC (decide_eq_true h.1 ..) ?_;refine rwC (h.2 ..) ?_;exact q
theorem eP {i:Int}{c:Cell} (h:nQ r i=some c) (q:F c.av):ak ((aj i (Ah (fun a=>a.av) r).length).bind fun k=>(Ah (fun a=>a.av) r)[k]?) F:=by
 unfold nQ at h;refine rwC (Aj ..) ?_;refine eE1 (bind_some h) fun k zt1=>aA2 zt1 fun h1 h2=>?_;refine rwC (h1 ..) ?_;show ak (Ah Cell.av r)[k]? F;rw [Bq,h2];exact q
theorem bK {b:Bool}{P R:Prop} (h1:b=true→P) (h2:b=false→R):aa b P R:=by
 cases b with
 | true=>exact h1 rfl
 | false=>exact h2 rfl
theorem ce {b:Bool}{P R:Prop} (h:b=true) (p:P):aa b P R:=by refine rwC (h ..) ?_;exact p
theorem aR {b:Bool}{P R:Prop} (h:b=false) (p:R):aa b P R:=by refine rwC (h ..) ?_;exact p
theorem ax {α:Type}{o:Option α}{a:α}{F:α→Prop} (h:o=some a) (q:F a):ak o F:=by refine rwC (h ..) ?_;exact q
theorem gh (h:iC r=true) (k:iC q=true) (c:B (decide (r=q))):eqP (aU r) (aU q) B:=by
 show ak (bX (r.map Cell.av)) _;refine rwC (dp h ..) ?_;show ak (bX (q.map Cell.av)) _;refine rwC (dp k ..) ?_;exact c
theorem pR {k:Nat}{Q:AV→Tbl→Prop} (g:Gd (k+1) T) (h:∀t T',Gd k T'→T <+: T'→RowOf T' t r→Q (.int t) T'):rW T r Q:=by
 unfold rW;cases hf:T.findIdx? (fun x=>decide (x=r)) with
 | some i =>
  refine h i T (g.mono (Cf k)) (AO T) ⟨Bv i,?_⟩;obtain ⟨hlt,hr,_⟩:=Bf.mp hf;rw [AY,AH hlt];exact congrArg some (of_decide_eq_true hr)
 | none =>
  have hl:T.length<cap:=by have:=g.2;lia
  refine ce (BL hl) (h T.length (T++[r]) ⟨⟨g.1.base.trans (List.prefix_append _ _),?_⟩,?_⟩ (List.prefix_append _ _) ⟨Bv _,?_⟩)
  ·refine BI.mpr ⟨g.1.nodup,Bb.mpr ⟨fun m=>(nomatch m),List.nodup_nil⟩,fun a ha b hb e=>?_⟩;have:=Bu.mp hf a ha;rw [e,Ae.mp hb,decide_eq_false_iff_not] at this;exact this rfl
  ·refine rwC (Ar ..) ?_;have:=g.2;show T.length+1+k≤cap;lia
  ·rw [AY,List.getElem?_append_right (Bh _),Nat.sub_self];rfl
end
section
variable {C:ba}{D:aN}{T:Tbl}
theorem tC (t:Int) (Q:K):bE C D GG (aX 55) [.tab,.int t] T Q=(aa (decide (0≤t)) (ak T[t.toNat]? fun r=>ak ((aj 0 (Ah (Cell.av) r).length).bind fun k=>(Ah (Cell.av) r)[k]?) fun w=>Q w T) False):=by kernel_rfl
theorem q_whole (r:Row) (Q:K):bE C D GG (aX 61) [aU r] T Q=(ak ((aj 0 (Ah (Cell.av) r).length).bind fun k=>(Ah (Cell.av) r)[k]?) fun w=>eqP w (Aa 3) fun c=>aa c (Q (Aa 6) T) (eqP w (Aa 18) fun c=>aa c (Q (Aa 6) T) (eqP w (Aa 4) fun c=>aa c (Q (Aa 7) T) (eqP w (Aa 5) fun c=>aa c (ak ((aj 3 (Ah (Cell.av) r).length).bind fun k=>(Ah (Cell.av) r)[k]?) fun w=>blt2 4 w (AV.blt 8) fun u=>au u fun c=>aa c (Q (Aa 6) T) (Q (Aa 7) T)) (Q (Aa (-1)) T))))):=by kernel_rfl
theorem q_family (t:Int) (Q:K):bE C D GG (aX 74) [.tab,.int t] T Q=(aa (decide (0≤t)) (ak T[t.toNat]? fun r=>ak ((aj 0 (Ah (Cell.av) r).length).bind fun k=>(Ah (Cell.av) r)[k]?) fun w=>eqP w (Aa 1) fun c=>aa c (Q (Aa ((nh t [(3,6),(4,5),(5,4),(6,1),(7,2),(10,7)]).getD 0)) T) (eqP w (Aa 2) fun c=>aa c (Q (Aa 3) T) (aa (w.k.beq 2) (aa ([8,9,11,12,13].contains w.i) (Q (Aa 7) T) (eqP w (Aa 6) fun c=>aa c (ak ((aj 1 (Ah (Cell.av) r).length).bind fun k=>(Ah (Cell.av) r)[k]?) fun w=>C ("common_family") [An,w] T fun a a_1=>Q a a_1) (eqP w (Aa 7) fun c=>aa c (ak ((aj 1 (Ah (Cell.av) r).length).bind fun k=>(Ah (Cell.av) r)[k]?) fun w=>C ("meet_family") [An,w] T fun a a_1=>Q a a_1) (C ("whole_of_row") [Al (Ah (Cell.av) r)] T fun v T=>aa (v.k.beq 2 && true) (aa (decide (v.i<0)) (Q (Aa 0) T) (eqP v (Aa 6) fun c=>aa c (Q (Aa 1) T) (Q (Aa 2) T))) False)))) False))) False):=by kernel_rfl
theorem tm (fam:Int) (Q:K):bE C D GG (aX 75) [.int fam] T Q=(aa (decide (fam=4)) (Q (Aq (decide (fam=4))) T) (aa (decide (fam=5)) (Q (Aq (decide (fam=5))) T) (Q (Aq (decide (fam=6))) T))):=by kernel_rfl
theorem jE (t:Int) (Q:K):bE C D GG (aX 62) [.tab,.int t] T Q=(aa (decide (0≤t))
 (ak T[t.toNat]? fun r =>
  ak ((aj 0 (Ah (Cell.av) r).length).bind fun k=>(Ah (Cell.av) r)[k]?) fun w =>
   aa (w.k.beq 2)
    (aa ([2,3,4,5,8].contains w.i)
     (ak ((aj (-1) (Ah (Cell.av) r).length).bind fun k=>(Ah (Cell.av) r)[k]?) fun w =>
      eqP w (Aa 1) fun c =>
       aa c
        (kc (Al (Ah (Cell.av) r)) none (some (-1)) fun w =>
         addP w (Al [Aa 0]) fun v =>
          aa (v.k.beq 4 && true)
           (ak (bX v.l) fun r =>
            Q
             (match List.findIdx? (fun x=>decide (x=r)) T with
             | some i=>Aa (↑i:Int)
             | none=>Aa (-1))
             T)
           False)
        (Q (Aa (-1)) T))
     (Q (Aa (-1)) T))
    False)
 False):=by kernel_rfl
theorem dq (t:Int) (Q:K):bE C D GG (aX 107) [.tab,.int t] T Q=(aa (decide (0≤t)) (ak T[t.toNat]? fun r=>aa (decide (t=4)) (Q (Al [Aa 5,Aa 0]) T) (aa (decide (t=5)) (Q (Al [Aa 4,Aa 0]) T) (ak ((aj 0 (Ah (Cell.av) r).length).bind fun k=>(Ah (Cell.av) r)[k]?) fun w=>eqP w (Aa 5) fun c=>aa c (C ("family") [An,Aa t] T fun v T=>ak ((aj 3 (Ah (Cell.av) r).length).bind fun k=>(Ah (Cell.av) r)[k]?) fun w=>Q (Al [v,w]) T) (ak ((aj 0 (Ah (Cell.av) r).length).bind fun k=>(Ah (Cell.av) r)[k]?) fun w=>aa (w.k.beq 2) (aa ([2,3,4].contains w.i) (C ("family") [An,Aa t] T fun v T=>ak ((aj 1 (Ah (Cell.av) r).length).bind fun k=>(Ah (Cell.av) r)[k]?) fun w=>Q (Al [v,w]) T) (Q (Al []) T)) False)))) False):=by kernel_rfl
theorem kU (t u:Int) (Q:K):bE C D GG (aX 108) [.tab,.int t,.int u,.bool true] T Q=(C ("family") [An,Aa t] T fun v T=>C ("family") [An,Aa u] T fun v_1 T=>eqP v (Aa 0) fun c=>aa c (Q (Aq true) T) (eqP v_1 (Aa 0) fun c=>aa c (Q (Aq true) T) (eqP v v_1 fun c=>aa c (C ("plain_value") [An,Aa t] T fun v T=>C ("plain_value") [An,Aa u] T fun v_2 T=>eqP v (Al []) fun c=>aa c (Q (Aq c) T) (eqP v_2 (Al []) fun c=>aa c (Q (Aq c) T) (eqP v v_2 fun c=>Q (Aq c) T))) (aa (v.k.beq 2) (aa ([4,5,6].contains v.i) (aa (v_1.k.beq 2) (aa ([4,5,6].contains v_1.i) (ak (aB [v,v_1]) fun l=>Q (Aq !l.contains 4) T) (Q (Aq false) T)) False) (Q (Aq false) T)) False)))):=by kernel_rfl
theorem fU (t:Int) (Q:K):bE C D GG (aX 60) [.tab,.int t] T Q=(aa (decide (t=2)) (Q (Al []) T) (aa (decide (0≤t)) (ak T[t.toNat]? fun r=>ak ((aj 0 (Ah (Cell.av) r).length).bind fun k=>(Ah (Cell.av) r)[k]?) fun w=>eqP w (Aa 6) fun c=>aa c (ak ((aj 1 (Ah (Cell.av) r).length).bind fun k=>(Ah (Cell.av) r)[k]?) fun w=>Q w T) (Q (Al [Aa t]) T)) False)):=by kernel_rfl
theorem tD (t:Int) (Q:K):bE C D GG (aX 118) [.tab,.int t] T Q=(C ("family") [An,Aa t] T fun a T=>aa (a.k.beq 2) (Q (Aq ([1,2,3,4,5,6].contains a.i)) T) False):=by kernel_rfl
theorem rk (t:Int) (Q:K):bE C D GG (aX 119) [.tab,.int t] T Q=(C ("parts_of") [An,Aa t] T fun it T=>aq it fun items=>aa (items.length.ble cap) (ay (fun a a_1 a_2=>C ("narrow_is_primitive") [An,a] a_1 fun u T=>a_2 (some u) T) items T fun l T=>ak (aY l) fun l=>Q (Aq (l.all fun a=>id a)) T) False):=by kernel_rfl
theorem mx (t:Int) (Q:K):bE C D GG (aX 109) [.tab,.int t] T Q=(C ("parts_of") [An,Aa t] T fun v T=>blt1 0 v fun u=>aa (u.k.beq 2 && true) (aa (decide (u.i>0)) (aq v fun items=>aa (items.length.ble cap) (ay (fun a a_1 a_2=>C ("family") [An,a] a_1 fun a T=>aa (a.k.beq 2) (a_2 (some (Aq ([4,5,6].contains a.i))) T) False) items T fun l T=>ak (aY l) fun l=>Q (Aq (l.all fun a=>id a)) T) False) (Q (Aq (decide (u.i>0))) T)) False):=by kernel_rfl
theorem q_top_of (d:List (Int×Int)) (Q:K):bE C D GG (aX 65) [.idict d] T Q=(aa (d.any fun p=>decide (p.fst=0)) (Q (Aa 0) T) (aa (d.any fun p=>decide (p.fst=13)) (Q (Aa 13) T) (aa (d.any fun p=>decide (p.fst=1)) (Q (Aa 1) T) (Q (Aa (-1)) T)))):=by kernel_rfl
theorem q_stays (d:List (Int×Int)) (t:Int) (Q:K):bE C D GG (aX 64) [.tab,.idict d,.int t] T Q=(C ("regular_twin") [An,Aa t] T fun a T=>aa (a.k.beq 2) (aa (d.any fun p=>decide (p.fst=a.i)) (Q (Aq false) T) (aa (decide (0≤t)) (ak T[t.toNat]? fun r=>C ("whole_of_row") [Al (Ah (Cell.av) r)] T fun a T=>aa (a.k.beq 2) (Q (Aq !d.any fun p=>decide (p.fst=a.i)) T) False) False)) False):=by kernel_rfl
theorem q_join (d:List (Int×Int)) (P:List (Int×Int)→Tbl→Prop):runD C D GG (aX 63) d T P=(aa (d.any fun p=>decide (p.fst=8)) (aa (d.any fun p=>decide (p.fst=9)) (aa ((d.length.blt cap)) (aa (((cZ 8 1 d).length.blt cap)) (P (cZ 9 1 (cZ 8 1 d)) T) False) False) (aa (d.any fun p=>decide (p.fst=15)) (aa ((d.length.blt cap)) (aa (((cZ 8 1 d).length.blt cap)) (P (cZ 9 1 (cZ 8 1 d)) T) False) False) (P d T))) (aa (d.any fun p=>decide (p.fst=14)) (aa (d.any fun p=>decide (p.fst=9)) (aa ((d.length.blt cap)) (aa (((cZ 8 1 d).length.blt cap)) (P (cZ 9 1 (cZ 8 1 d)) T) False) False) (aa (d.any fun p=>decide (p.fst=15)) (aa ((d.length.blt cap)) (aa (((cZ 8 1 d).length.blt cap)) (P (cZ 9 1 (cZ 8 1 d)) T) False) False) (P d T))) (P d T))):=by kernel_rfl
theorem sX (l:List Int) (Q:K):bE C D GG (aX 66) [.tab,.list (l.map .int)] T Q=(bA (lp C D 66 0 39) (Ah (Aa) l) [some An,some (Ad (Ah (Aa) l)),some (Cd []),none,none,none,none] 2 ("got") T (rs C D 66 0 40 (fun x x_1 x_2 T=>Q By T) (fun x x_1 x_2 x_3=>False) Q) Q):=by kernel_rfl
theorem sW (l:List Int) (Q:K):bE C D GG (aX 66) [.tab,.tup (l.map .int)] T Q=(bA (lp C D 66 0 39) (Ah (Aa) l) [some An,some (Al (Ah (Aa) l)),some (Cd []),none,none,none,none] 2 ("got") T (rs C D 66 0 40 (fun x x_1 x_2 T=>Q By T) (fun x x_1 x_2 x_3=>False) Q) Q):=by kernel_rfl
theorem ta (t:Int) (p:AV) (d:List (Int×Int)) (o1 o2 o3 o4:Option AV) (nx br:Kn) (kr:K):lp C D 66 0 39 (.int t) [some .tab,some p,some (.idict d),o1,o2,o3,o4] 2 "got" T nx br kr=(C ("parts_of") [An,Aa t] T fun it T=>aq it fun items=>bA (lp C D 66 1 38) items [some An,some p,some (Cd d),some (Aa t),o2,o3,o4] 2 ("got") T nx kr):=by kernel_rfl
theorem sZ (t:Int) (p:AV) (d:List (Int×Int)) (o1 o2 o3 o4:Option AV) (nx br:Kn) (kr:K):lp C D 66 1 38 (.int t) [some .tab,some p,some (.idict d),o1,o2,o3,o4] 2 "got" T nx br kr=(aa ((d.length.blt cap)) (nx [some An,some p,some (Cd (cZ t 1 d)),o1,some (Aa t),o3,o4] 2 ("got") T) False):=by kernel_rfl
theorem sY (p:AV) (d:List (Int×Int)) (o1 o2 o3 o4:Option AV) (nx br:Kn) (kr:K):rs C D 66 0 40 nx br kr [some .tab,some p,some (.idict d),o1,o2,o3,o4] 2 "got" T=(C ("top_of") [Cd d] T fun v T=>aa v.flat (aa (v.k.beq 2 && true) (aa (decide (v.i≥0)) (kr v T) (D ("join_bools") d T fun d T=>aa (d.length.ble 63) (aa ((Ah (Aa) (eY (Ah Prod.fst d))).length.ble cap) (ay (fun a a_1 a_2=>C ("stays_beside") [An,Cd d,a] a_1 fun v T=>au v fun c=>aa c (a_2 (some a) T) (a_2 none T)) (Ah (Aa) (eY (Ah Prod.fst d))) T fun l T=>aa (!!l.isEmpty) (kr (Aa 2) T) (aa (decide ((↑l.length:Int)=1)) (dT (Ad l) 0 fun w=>kr w T) (aa (decide ((↑l.length:Int)>400)) False (ak (ir [Al [Aa 6,Al l]]) fun r=>rW T r fun a a_1=>kr a a_1)))) False) False)) False) False):=by kernel_rfl
end
noncomputable def fb (x:Str):List (Str×Nat)→Option Nat
 | []=>none
 | p::r=>cond (eqL p.1.cps.toList x.cps.toList) (some p.2) (fb x r)
noncomputable def qr (x:Str):Option FD:=cond (eqL (Ab "TypeTable.row").cps.toList x.cps.toList) (some (oh 53 1)) (cond (eqL (Ab "Thin.force").cps.toList x.cps.toList) (some (oh 129 1)) ((fb x places).map aX))
structure WF (W:Wd):Prop where
 wok:WOk W GG
 fns:FnsOk W qr
 on:W.on=true
section
variable {W:Wd}{n:Nat}{T:Tbl}{Q:K}
theorem ah {x:Str}{fd:FD}{l:List AV} (wf:WF W) (e:qr x=some fd) (h:bE (Calls W n) (aw W n) GG fd l T Q):Calls W (n+1) x l T Q:=by
 refine eE1 (wf.fns.fns x fd e) fun a zt1=>aA2 zt1 fun hf fn=>?_;exact calls_ok wf.wok wf.fns.lim hf fn h
theorem callD_at {x:Str}{fd:FD}{d:List (Int×Int)}{P:List (Int×Int)→Tbl→Prop} (wf:WF W) (e:qr x=some fd) (h:runD (Calls W n) (aw W n) GG fd d T P):aw W (n+1) x d T P:=by
 refine eE1 (wf.fns.fns x fd e) fun a zt2=>aA2 zt2 fun hf fn=>?_;exact vD wf.wok wf.fns.lim hf fn h
end
section
variable {P R P' R':Prop}{b c:Bool}{i j:Int}{F:AV→Prop}{B:Bool→Prop}
theorem eq_ii (h:B (decide (i=j))):eqP (.int i) (.int j) B:=h
end
noncomputable def kind:Atom→Int
 | .empty=>8
 | .bool ..=>2
 | .sl ..=>3
 | .nl ..=>4
 | .ei ..=>5
 | .es ..=>5
 | _=>1
theorem db:∀a:Atom,nQ (aS a) 0=some (.int (kind a))
 | .undef | .null | .void | .str | .num | .unk | .empty | .bool .. | .sl .. | .nl .. | .ei .. | .es ..=>rfl
theorem lC (a:Atom):decide (kind a=6)=false∧decide (kind a=7)=false∧decide (kind a=10)=false:=by cases a <;> exact ⟨rfl,rfl,rfl⟩
noncomputable def widA (a:Atom):Int:=match bT a with
 | some .str=>6
 | some _=>7
 | none=>-1
noncomputable def nf (i:Int):Bool:=decide (i=4) || decide (i=5) || decide (i=6)
noncomputable def twI (T:Tbl) (a:Atom):Int:=match gu a with
 | some b=>if aS b∈T then idA T b else -1
 | none=>-1
noncomputable def bY (a b:Atom):Bool :=
 cond (decide (fam a=0)) true (cond (decide (fam b=0)) true
 (cond (decide (fam a=fam b)) (cond (decide (pv a=[])) true (cond (decide (pv b=[])) true (decide (pv a=pv b))))
 (cond (nf (fam a)) (cond (nf (fam b)) (!decide (fam a=4) && !decide (fam b=4)) false) false)))
theorem find_id {T:Tbl}{r:Row}:(match T.findIdx? (fun x=>decide (x=r)) with
  | some i=>Aa i
  | none=>Aa (-1))=Aa (if r∈T then (T.idxOf r:Nat) else -1):=by
 have e:T.findIdx? (fun x=>decide (x=r))=if r∈T then some (T.idxOf r) else none:=by
  by_cases h:r∈T
  ·rw [if_pos h,Bf];have hl:=List.idxOf_lt_length_of_mem h;refine ⟨hl,decide_eq_true (List.getElem_idxOf hl),fun j hj=>?_⟩;have:=List.not_of_lt_findIdx (p:=fun x=>x == r) (xs:=T) (i:=j) hj;simpa using this
  ·rw [if_neg h,Bu];intro x hx;exact decide_eq_false fun q=>h (q▸hx)
 refine rwC (e ..) ?_
 by_cases h:r∈T
 ·refine rwC (if_pos h ..) ?_;refine rwC (if_pos h ..) ?_;exact rfl
 ·refine rwC (if_neg h ..) ?_;refine rwC (if_neg h ..) ?_;exact rfl
theorem jm (i:Int):[4,5,6].contains i=nf i:=by
 show (i == 4 || (i == 5 || (i == 6 || false)))=(decide (i=4) || decide (i=5) || decide (i=6));refine rwC (Bool.or_false ..) ?_;refine rwC (Bool.or_assoc ..) ?_;rfl
theorem fJ (a:Atom):2≤(aS a).length∧(aS a).length≤10:=of_decide_eq_true (gs (p:=fun a=>decide (2≤(aS a).length∧(aS a).length≤10)) (by decide +kernel) a)
theorem jo {r q:Row}{F:Row→Prop} (hl:2≤r.length∧r.length≤10) (e:r.dropLast++[Cell.int 0]=q) (ok:iC q=true) (c:F q):kc (Al (Ah Cell.av r)) none (some (-1)) fun w=>addP w (Al [Aa 0]) fun v=>aa (Aw v.k 4 && true) (ak (bX v.l) F) False:=by
 have hd:(Ah Cell.av r).dropLast.length=r.length - 1:=by refine rwC (Cm ..) ?_;refine rwC (Aj ..) ?_;exact rfl
 refine ⟨rfl,⟨rfl,?_⟩,⟨fun e=>?_,nofun,?_⟩,?_⟩
 ·show 2≤(Ah Cell.av r).length;refine rwC (Aj ..) ?_;exact hl.1
 ·have:=congrArg List.length e;replace this:(Ah Cell.av r).dropLast.length=0:=this;omega
 ·show (Ah Cell.av r).dropLast.length+1≤1000000;omega
 ·show ak (bX ((Ah Cell.av r).dropLast++[Cell.int 0].map Cell.av)) F;refine rwD (List.map_dropLast ..) ?_;refine rwD (AI ..) ?_;refine rwC (e ..) ?_;refine rwC (dp ok ..) ?_;exact c
theorem nE {Q:K}{T:Tbl}{r:Row} (h:Q (.int (if r∈T then (T.idxOf r:Nat) else -1)) T):Q (match T.findIdx? (fun x=>decide (x=r)) with
  | some i=>Aa i
  | none=>Aa (-1)) T:=by refine rwC (find_id ..) ?_;exact h
section
variable {W:Wd}{n:Nat}{T:Tbl}{Q:K}{t u:Int}{a b:Atom} (wf:WF W)
include wf
theorem dw (g:Good T) (A:At T t a) (h:Q (.tup [.int t]) T):Calls W (n+1) "parts_of" [.tab,.int t] T Q :=
 ah wf rfl ((fU ..).mpr (aR (decide_eq_false (A.no g).2.1) (cY A.row (eP (db a) (aR (lC a).1 h)))))
theorem jM {l:List Int} (A:RowOf T t [.int 6,.nums l]) (ht:t≠2) (h:Q (.tup (l.map .int)) T):Calls W (n+1) "parts_of" [.tab,.int t] T Q :=
 ah wf rfl ((fU ..).mpr (aR (decide_eq_false ht) (cY A h)))
theorem jN (h:Q (.tup []) T):Calls W (n+1) "parts_of" [.tab,.int 2] T Q :=
 ah wf rfl ((fU ..).mpr h)
theorem io (h:Q (.int (widA a)) T):Calls W (n+1) "whole_of_row" [aU (aS a)] T Q :=
 ah wf rfl ((q_whole ..).mpr (by cases a <;> exact h))
theorem aH (A:At T t a) (h:Q (.int (fam a)) T):Calls W (n+2) "family" [.tab,.int t] T Q :=
 ah wf rfl ((q_family ..).mpr (cY A.row (by
  cases a with
  | undef=>cases A.fix _ rfl;exact h
  | null=>cases A.fix _ rfl;exact h
  | void=>cases A.fix _ rfl;exact h
  | str=>cases A.fix _ rfl;exact h
  | num=>cases A.fix _ rfl;exact h
  | unk=>cases A.fix _ rfl;exact h
  | empty=>exact h
  | bool v f=>exact h
  | sl k f=>exact io wf (a:=.sl k f) h
  | nl k f=>exact io wf (a:=.nl k f) h
  | ei k f=>exact io wf (a:=.ei k f) h
  | es f=>exact io wf (a:=.es f) h)))
theorem ur (A:At T t a) (h:Q (.int (kind a)) T):Calls W (n+1) "kind_of" [.tab,.int t] T Q :=
 ah wf rfl ((tC ..).mpr (cY A.row (eP (db a) h)))
theorem iN {i:Int} (h:Q (.bool (nf i)) T):Calls W (n+1) "is_nullish_family" [.int i] T Q :=
 ah wf rfl ((tm ..).mpr (by
  unfold nf at h;cases e:decide (i=4) with
  | true=>replace h:=(e ..)▸h;exact h
  | false =>
   replace h:=(e ..)▸h;cases e:decide (i=5) with
   | true=>replace h:=(e ..)▸h;exact h
   | false=>replace h:=(e ..)▸h;exact h))
theorem cW (g:Good T) (A:At T t a) (h:Q (.int (twI T a)) T):Calls W (n+1) "regular_twin" [.tab,.int t] T Q:=by
 refine ah wf rfl ((jE ..).mpr (cY A.row ?_));cases a with
 | bool v f=>cases f with
  | false=>exact h
  | true=>exact jo (r:=aS (.bool v true)) (fJ _) rfl (eQ (.bool v false)) (nE h)
 | sl k f=>cases f with
  | false=>exact h
  | true=>exact jo (r:=aS (.sl k true)) (fJ _) rfl (eQ (.sl k false)) (nE h)
 | nl k f=>cases f with
  | false=>exact h
  | true=>exact jo (r:=aS (.nl k true)) (fJ _) rfl (eQ (.nl k false)) (nE h)
 | ei k f=>cases f with
  | false=>exact h
  | true=>exact jo (r:=aS (.ei k true)) (fJ _) rfl (eQ (.ei k false)) (nE h)
 | es f=>cases f with
  | false=>exact h
  | true=>exact jo (r:=aS (.es true)) (fJ _) rfl (eQ (.es false)) (nE h)
 | _=>exact h
theorem bG (g:Good T) (A:At T t a) (h:Q (aU (pv a)) T):Calls W (n+3) "plain_value" [.tab,.int t] T Q:=by
 refine ah wf rfl ((dq ..).mpr (cY A.row ?_));have e1:=A.isFix g (b:=.undef) rfl;have e2:=A.isFix g (b:=.null) rfl;cases a with
 | undef=>cases A.fix _ rfl;exact h
 | null=>cases A.fix _ rfl;exact h
 | void=>cases A.fix _ rfl;exact h
 | str=>cases A.fix _ rfl;exact h
 | num=>cases A.fix _ rfl;exact h
 | unk=>cases A.fix _ rfl;exact h
 | empty=>exact aR (decide_eq_false fun q=>nomatch (e1.mp q)) (aR (decide_eq_false fun q=>nomatch (e2.mp q)) h)
 | bool v f=>exact aR (decide_eq_false fun q=>nomatch (e1.mp q)) (aR (decide_eq_false fun q=>nomatch (e2.mp q)) (aH wf A h))
 | sl k f=>exact aR (decide_eq_false fun q=>nomatch (e1.mp q)) (aR (decide_eq_false fun q=>nomatch (e2.mp q)) (aH wf A h))
 | nl k f=>exact aR (decide_eq_false fun q=>nomatch (e1.mp q)) (aR (decide_eq_false fun q=>nomatch (e2.mp q)) (aH wf A h))
 | ei k f=>exact aR (decide_eq_false fun q=>nomatch (e1.mp q)) (aR (decide_eq_false fun q=>nomatch (e2.mp q)) (aH wf A h))
 | es f=>exact aR (decide_eq_false fun q=>nomatch (e1.mp q)) (aR (decide_eq_false fun q=>nomatch (e2.mp q)) (aH wf A h))
end
section
variable {α:Type}
noncomputable def mQ (e:Value) (f:Int→Tok→Option α):Option α:=if h:e.ctorIdx=4 then Value.int.elim e h f else none
theorem hE {f:Int→Tok→Option α}{y:α}{e:Value} (q:mQ e f=some y):∃i t,e=.int i t∧f i t=some y:=if h:e.ctorIdx=4 then Value.int.elim (motive:=fun e=>∀h,Value.int.elim e h f=some y→∃i t,e=.int i t∧f i t=some y) e h (fun i t _ q=>⟨i,t,rfl,q⟩) h (show _=_ from (dif_pos h).symm.trans q) else nS (show _=_ from (dif_neg h).symm.trans q)
noncomputable def onVStr (e:Value) (f:Str→Tok→Option α):Option α:=if h:e.ctorIdx=6 then Value.str.elim e h f else none
theorem onVStr_s {f:Str→Tok→Option α}{y:α}{e:Value} (q:onVStr e f=some y):∃s t,e=.str s t∧f s t=some y:=if h:e.ctorIdx=6 then Value.str.elim (motive:=fun e=>∀h,Value.str.elim e h f=some y→∃s t,e=.str s t∧f s t=some y) e h (fun s t _ q=>⟨s,t,rfl,q⟩) h (show _=_ from (dif_pos h).symm.trans q) else nS (show _=_ from (dif_neg h).symm.trans q)
noncomputable def pY (e:Value) (f:Addr→Option α):Option α:=if h:e.ctorIdx=10 then Value.ref.elim e h f else none
theorem li {f:Addr→Option α}{y:α}{e:Value} (q:pY e f=some y):∃a,e=.ref a∧f a=some y:=if h:e.ctorIdx=10 then Value.ref.elim (motive:=fun e=>∀h,Value.ref.elim e h f=some y→∃a,e=.ref a∧f a=some y) e h (fun a _ q=>⟨a,rfl,q⟩) h (show _=_ from (dif_pos h).symm.trans q) else nS (show _=_ from (dif_neg h).symm.trans q)
noncomputable def onSeq (e:Data) (f:Array Value→Nat→Option α):Option α:=if h:e.ctorIdx=2 then Data.seq.elim e h f else none
theorem tQ {f:Array Value→Nat→Option α}{y:α}{e:Data} (q:onSeq e f=some y):∃xs n,e=.seq xs n∧f xs n=some y:=if h:e.ctorIdx=2 then Data.seq.elim (motive:=fun e=>∀h,Data.seq.elim e h f=some y→∃xs n,e=.seq xs n∧f xs n=some y) e h (fun xs n _ q=>⟨xs,n,rfl,q⟩) h (show _=_ from (dif_pos h).symm.trans q) else nS (show _=_ from (dif_neg h).symm.trans q)
noncomputable def tU (e:Data) (f:Array DictEntry→Nat→Option α):Option α:=if h:e.ctorIdx=3 then Data.dict.elim e h f else none
theorem tT {f:Array DictEntry→Nat→Option α}{y:α}{e:Data} (q:tU e f=some y):∃es n,e=.dict es n∧f es n=some y:=if h:e.ctorIdx=3 then Data.dict.elim (motive:=fun e=>∀h,Data.dict.elim e h f=some y→∃es n,e=.dict es n∧f es n=some y) e h (fun es n _ q=>⟨es,n,rfl,q⟩) h (show _=_ from (dif_pos h).symm.trans q) else nS (show _=_ from (dif_neg h).symm.trans q)
noncomputable def onFunc (e:Data) (f:FuncData→Option α):Option α:=if h:e.ctorIdx=7 then Data.func.elim e h f else none
theorem onFunc_s {f:FuncData→Option α}{y:α}{e:Data} (q:onFunc e f=some y):∃fd,e=.func fd∧f fd=some y:=if h:e.ctorIdx=7 then Data.func.elim (motive:=fun e=>∀h,Data.func.elim e h f=some y→∃fd,e=.func fd∧f fd=some y) e h (fun fd _ q=>⟨fd,rfl,q⟩) h (show _=_ from (dif_pos h).symm.trans q) else nS (show _=_ from (dif_neg h).symm.trans q)
end
end Mine
namespace Mine
open PySem PySem.W PySem.Calls PyProof.Rows
open AV renaming int → Aa, list → Ad, tup → Al, tab → An, bool → Aq, set → AE, fn → Ba, rng → Bm, none → By, host → BD, idict → Cd, olist → Cj, str → CE
structure Plain (p:Arguments) (names:List Str):Prop where
 pos:p.posonlyargs=[]
 args:p.args.map (·.arg)=names
 va:p.vararg=none
 ko:p.kwonlyargs=[]
 kw:p.kwarg=none
theorem dS {x:Str}:∀{names:List Str}{vals:List Value},x∉names→(names.zip vals).lookup x=none
 | [],_,_=>rfl
 | _::_,[],_=>rfl
 | n::names,v::vals,h=>by
  refine rwC (List.zip_cons_cons ..) ?_;refine rwC (Bz ..) ?_;refine rwC (show (x == n)=false from by simpa using fun e=>h (by rw [e];exact .head _)) ?_;exact dS fun m=>h (.tail _ m)
theorem cI {x:Str}:∀{names:List Str}{vals:List Value},x∈names.take vals.length→((names.zip vals).lookup x).isSome=true
 | [],_,h=>by simp at h
 | _::_,[],h=>by simp at h
 | n::names,v::vals,h=>by
  refine rwC (List.zip_cons_cons ..) ?_;refine rwC (Bz ..) ?_
  split
  ·rfl
  ·rename_i q;refine cI ((Ai.mp h).resolve_left fun e=>?_);replace q:=(e ..)▸q;simp at q
theorem kF {names:List Str}{vals:List Value} (nd:names.Nodup):∀{done:List Str}{dvals:List Value}{rest:List Str}{rvals:List Value},names=done++rest→vals=dvals++rvals→done.length=dvals.length→rest.length=rvals.length →
  rest.filterMap (fun n=>((names.zip vals).lookup n).map fun v=>(n,v))=rest.zip rvals
 | _,_,[],[],_,_,_,_=>rfl
 | _,_,[],_::_,_,_,_,h=>by simp at h
 | _,_,_::_,[],_,_,_,h=>by simp at h
 | done,dvals,n::rest,v::rvals,e1,e2,h1,h2=>by
  have hn:(names.zip vals).lookup n=some v:=by
   have hd:n∉done:=fun m=>by
    replace nd:=(e1 ..)▸nd;exact (BI.mp nd).2.2 n m n (.head _) rfl
   refine rwC (e1 ..) ?_;refine rwC (e2 ..) ?_;refine rwC (List.zip_append h1 ..) ?_;have:∀l:List (Str×Value),(∀p∈l,p.1≠n)→∀r,(l++(n,v)::r).lookup n=some v:=by
    intro l
    induction l with
    | nil=>intro _ r;simp
    | cons p l ih =>
     intro h r;refine rwC (List.cons_append ..) ?_;refine rwC (Bz ..) ?_;refine rwC (show (n == p.1)=false from by simpa using fun e=>h p (.head _) e.symm) ?_;exact ih (fun q hq=>h q (.tail _ hq)) r
   exact this _ (fun p hp e=>hd (e▸(List.of_mem_zip hp).1)) _
  refine rwC (BQ ..) ?_;refine rwC (hn ..) ?_;refine rwC (List.zip_cons_cons ..) ?_;exact congrArg _ (kF nd (done:=done++[n]) (dvals:=dvals++[v]) (by simp [e1]) (by simp [e2]) (by simp [h1]) (by simpa using h2))
theorem rU {names:List Str}{vals:List Value} (nd:names.Nodup) (h:names.length=vals.length):names.filterMap (fun n=>((names.zip vals).lookup n).map fun v=>(n,v))=names.zip vals :=
 kF nd (done:=[]) (dvals:=[]) rfl rfl rfl h
theorem oj {M:Model}{A:Around}{E:Value→Shared→Prop}{s:Shared}{v:Value}{dv:List Value}{Q:Option (Array Value)→Shared→Prop}
  (hd:(v=.none∧dv=[])∨∃T o n,v=.ref T∧s.heap.get? T=some o∧o.data=.seq dv.toArray n) (h:∀r:Option (Array Value),(r.getD #[]).toList=dv→Q r s):Av M A (seqItems? v) Q E s:=by
 rcases hd with ⟨rfl,rfl⟩ | ⟨T,o,n,rfl,ho,hs⟩
 ·exact Ag (h none rfl)
 ·unfold seqItems?;refine Ac (wpAny_load ho ?_);refine rwC (hs ..) ?_;exact Ag (h _ rfl)
section
variable {M:Model}{A:Around}{E:Value→Shared→Prop}{s:Shared}{α β γ:Type}
theorem forL0 {L:List β}{b:γ}{f:β→γ→Sem (ForInStep γ)}{k:γ→Sem α}{Q:α→Shared→Prop} (e:L=[]) (h:Av M A (k b) Q E s):Av M A (forIn L b f >>= k) Q E s:=by refine rwC (e ..) ?_;exact Ac (Ag h)
theorem forL1 {L:List β}{x:β}{b b':γ}{f:β→γ→Sem (ForInStep γ)}{k:γ→Sem α}{Q:α→Shared→Prop} (e:L=[x]) (hf:f x b=pure (.yield b')) (h:Av M A (k b') Q E s):Av M A (forIn L b f >>= k) Q E s:=by
 refine rwC (e ..) ?_;refine rwC (CB ..) ?_;refine rwC (hf ..) ?_;exact Ac (Ac (Ag (Ag h)))
end
theorem jx {s:Shared}{fd:FuncData}{names:List Str}{vals dv:List Value} (hp:Plain fd.params names) (nd:names.Nodup) (hd:(fd.defaults=.none∧dv=[])∨∃T o n,fd.defaults=.ref T∧s.heap.get? T=some o∧o.data=.seq dv.toArray n)
  (h0:dv.length≤1) (h1:vals.length≤names.length) (h2:names.length≤vals.length+dv.length) (h3:dv.length≤names.length):BindsTo s fd ⟨vals,[]⟩ (names.zip (vals++dv.drop (vals.length+dv.length - names.length))):=by
 intro M A E Q hq;have e0:dv.drop (dv.length - names.length)=dv:=by refine rwC (show dv.length - names.length=0 by omega) ?_;rfl
 have em:((names.take (names.length - dv.length)).filter (fun n=>((names.zip vals).lookup n).isNone)).isEmpty=true:=by
  rw [AS,List.filter_eq_nil_iff];intro n hx;have:n∈names.take vals.length:=List.take_subset_take_left names (by omega) hx;refine rwD (Option.not_isSome ..) ?_;refine rwC (cI this ..) ?_;simp
 have hl:((names.drop (names.length - dv.length)).zip dv=[]∧names.length=vals.length)∨∃p,(names.drop (names.length - dv.length)).zip dv=[p]∧(((names.zip vals).lookup p.1).isNone=false∧names.length=vals.length∨((names.zip vals).lookup p.1).isNone=true∧names.zip vals++[p]=names.zip (vals++dv)∧names.length=vals.length+dv.length):=by
  rcases dv with _ | ⟨d,_ | ⟨d',dv⟩⟩
  ·exact .inl ⟨List.zip_nil_right,by simp at h2;omega⟩
  ·obtain ⟨ini,last,rfl⟩:∃ini last,names=ini++[last]:=by
    rcases List.eq_nil_or_concat names with rfl | ⟨a,b,e⟩
    ·simp at h3
    ·exact ⟨a,b,by simpa using e⟩
   have nl:last∉ini:=fun m=>(BI.mp nd).2.2 last m last (.head _) rfl;simp only [Ar,AL] at h1 h2;refine .inr ⟨(last,d),by simp,?_⟩;rcases Co ini.length vals.length with hl | hl
   ·have hl':(ini++[last]).length=vals.length:=by simp;omega
    exact .inl ⟨by refine rwD (Option.not_isSome ..) ?_;refine rwC (cI (by rw [← hl',Cs];simp) ..) ?_;rfl,hl'⟩
   ·have hl':ini.length=vals.length:=by omega
    have ez:(ini++[last]).zip vals=ini.zip vals:=by
     have:=List.zip_append (r₁:=[last]) (r₂:=([]:List Value)) hl';simpa using this
    exact .inr ⟨by refine rwC (ez ..) ?_;refine rwC (dS nl ..) ?_;rfl,by refine rwC (ez ..) ?_;refine rwC (List.zip_append hl' ..) ?_;rfl,by simp [hl']⟩
  ·simp at h0
 have done:∀{sl:List (Str×Value)}{vs:List Value},names.length=vs.length→sl=names.zip vs→vs=vals++dv.drop (vals.length+dv.length - names.length)→Q ((names++[]).filterMap fun n=>(sl.lookup n).map fun v=>(n,v)) s:=fun h e q=>by refine rwC (AG ..) ?_;refine rwC (e ..) ?_;refine rwC (rU nd h ..) ?_;refine rwC (q ..) ?_;exact hq
 have full:names.length=vals.length→vals=vals++dv.drop (vals.length+dv.length - names.length):=fun h=>by refine rwC (h ..) ?_;refine rwC (Nat.add_sub_cancel_left ..) ?_;refine rwC (Cq ..) ?_;refine rwC (AG ..) ?_;exact rfl
 have full2:names.length=vals.length+(dv.drop (dv.length - names.length)).length→vals++dv.drop (dv.length - names.length)=vals++dv.drop (vals.length+dv.length - names.length):=fun h=>by rw [e0] at h ⊢;refine rwC (h ..) ?_;refine rwC (Nat.sub_self ..) ?_;rfl
 have hn:decide (vals.length>names.length)=false:=decide_eq_false (by omega);rw [← e0] at em hl;clear hq nd h0 h1 h2 h3;obtain ⟨p1,p2,p3,p4,p5⟩:=hp;unfold bindArgs;generalize fd.params=P at *;obtain ⟨po,ar,va,ko,kd,kw,df⟩:=P;dsimp only at p1 p2 p3 p4 p5;subst p1 p2 p3 p4 p5;refine Ac (Ag (Ac (oj hd fun r hr=>?_)));subst hr;refine im ((Bool.and_eq_false_iff ..).mpr (.inl hn)) (im ((congrArg Bool.not em:_):(!List.isEmpty _)=false) (bc fun zz=>?_));rcases hl with ⟨e1,e2⟩ | ⟨p,e1,⟨e2,e3⟩ | ⟨e2,e3,e4⟩⟩
 ·exact zz (forL0 e1 (Ac (Ag (im rfl (Ag (done e2 rfl (full e2)))))))
 ·exact zz (forL1 e1 (if_neg (ne_true_of_eq_false e2)) (Ac (Ag (im rfl (Ag (done e3 rfl (full e3)))))))
 ·exact zz (forL1 e1 (if_pos e2) (Ac (Ag (im rfl (Ag (done (by refine rwC (Ar ..) ?_;exact e4) e3 (full2 e4)))))))
noncomputable def fO (tb:String→Option Builtin) (p:Program) (w:World) (n₀:Nat) (ann:Option Value):Nat→SharedT→Thread→Option SharedT
 | 0,_,_=>none
 | n+1,s,t=>match through t with
  | true=>some s
  | false=>match stepOk n₀ ann t with
   | false=>none
   | true=>match PySem.W.stepT (denote tb) p w s t with
    | some (s',t')=>fO tb p w n₀ ann n s' t'
    | none=>none
theorem gx {tb:String→Option Builtin}{p:Program}{w:World}{n₀:Nat}{ann:Option Value}:∀{n:Nat}{s s':SharedT}{t:Thread},fO tb p w n₀ ann n s t=some s'→topRun tb p w n₀ ann n s.abs t=some s'.abs
 | 0,_,_,_,h=>nS h
 | n+1,s,s',t,h=>by
  unfold fO at h;unfold topRun;revert h;cases through t with
  | true=>exact fun h=>congrArg (fun o=>o.map SharedT.abs) h
  | false=>cases stepOk n₀ ann t with
   | false=>exact nS
   | true=>cases hs:PySem.W.stepT (denote tb) p w s t with
    | none=>exact nS
    | some r=>intro h;dsimp only;rw [stepT_spec hs];exact gx h
noncomputable def vG:List Obj→Nat→BT→BT
 | [],_,t=>t
 | o::r,n,t=>vG r (n+1) (t.ins n o)
noncomputable def addO:Option Obj→Nat→Frag→Frag
 | some y,n,l=>(n,y)::l
 | none,_,l=>l
noncomputable def lO:Nat→List Obj→Frag
 | _,[]=>[]
 | n,o::r=>addO (alive o) n (lO (n+1) r)
noncomputable def dump (h:Heap):Frag:=lO 0 h.objs.toList
theorem addO_at {y:Option Obj}{n a:Nat}{o:Obj}{l:Frag}{P:Prop} (h:(addO y n l).lookup a=some o) (here:a=n→y=some o→P) (next:l.lookup a=some o→P):P:=by
 cases y with
 | none=>exact next h
 | some y =>
  have h:(match a == n with | true=>some y | false=>l.lookup a)=some o:=h;cases q:a == n with
  | true=>rw [q] at h;exact here (eq_of_beq q) h
  | false=>rw [q] at h;exact next h
theorem jk:∀{l:List Obj}{n a:Nat}{o:Obj},(lO n l).lookup a=some o→∃i,a=n+i∧(l[i]?).bind alive=some o
 | [],_,_,_,h=>nomatch h
 | x::r,n,a,o,h=>addO_at h (fun e q=>⟨0,e,q⟩) fun h=>(jk h).elim fun i q=>⟨i+1,q.1.trans (Nat.succ_add_eq_add_succ n i),q.2⟩
theorem dump_in (h:Heap):(dump h).In h:=fun a o e=>by
 obtain ⟨i,rfl,h2⟩:=jk e;refine Eq.trans ?_ h2;rw [CC,AM];unfold Heap.get?;cases h.objs[i]? with
 | none=>rfl
 | some x =>
  obtain ⟨c,d,dt,sl⟩:=x;cases dt <;> rfl
noncomputable abbrev FnV:=Arguments×FuncBody×Scope×Addr×List (Str×Addr)×Addr×Bool×Option (List Int)
noncomputable def intsV:List Value→Option (List Int)
 | []=>some []
 | v::r=>(mQ v fun i _=>some i).bind fun i=>(intsV r).map (i::·)
noncomputable def dfltV (K:Frag) (v:Value):Option (List Int):=cond (Aw v.ctorIdx 0) (some []) (pY v fun T=>(K.lookup T).bind fun o=>onSeq o.data fun xs _=>intsV xs.toList)
noncomputable def fnV (K:Frag) (a:Addr):Option FnV:=(K.lookup a).bind fun o=>onFunc o.data fun fd=>some (fd.params,fd.body,fd.scope,fd.globals,fd.closure,fd.builtins,codeIn K fd.code fd.qualname,dfltV K fd.defaults)
noncomputable def gV (K:Frag) (x:Str):Option Addr:=(nsIn K Bl x).bind fun o=>o.bind fun v=>pY v some
noncomputable def fnsV (K:Frag):List (Option FnV):=places.map fun p=>(gV K p.1).bind (fnV K)
noncomputable def expFn (st:Stmt):Option FnV:=mR st (fun _ args body _ _ _ sc _ _ _=>some (args,.stmts body,sc,Bl,[],Ch,true,some (args.defaults.filterMap dJ))) none
noncomputable def uV:List (Option FnV):=places.map fun p=>expFn (stAt p.2)
mutual
noncomputable def vV:Nat→Frag→Value→Option AV
 | 0,_,_=>none
 | n+1,K,v=>(mQ v fun i _=>some (Aa i)).or ((onVStr v fun s _=>some (CE s)).or (pY v fun a=>(K.lookup a).bind fun o=>onSeq o.data fun xs _ =>
   cond (o.cls == .type "tuple" && (o.dict.isNone && (o.slots.size == 0 && decide (xs.size≤1000)))) ((vVs n K xs.toList).map .tup) none))
noncomputable def vVs:Nat→Frag→List Value→Option (List AV)
 | 0,_,_=>none
 | _+1,_,[]=>some []
 | n+1,K,v::r=>(vV n K v).bind fun a=>(vVs n K r).map (a::·)
end
noncomputable def nN (K:Frag) (x:Str):Option AV:=(nsIn K Bl x).bind fun o=>o.bind (vV 60 K)
noncomputable def consts:List (Str×AV):=(theGlobs.filter fun p=>Aw p.2.2.k 2 || Aw p.2.2.k 4).map (·.2)
noncomputable def blts:List Str:=["len","all","any","sorted","isinstance","tuple","set","range","str"]
noncomputable def entV (e:DictEntry):Option (Int×Int):=mQ e.key fun k _=>mQ e.val fun v _=>cond (e.hash == hashInt k) (some (k,v)) none
noncomputable def dictV (K:Frag) (x:Str):Option (List (Option (Int×Int))):=(gV K x).bind fun a=>(K.lookup a).bind fun o=>tU o.data fun es _ =>
 cond (o.cls == .type "dict" && (o.dict.isNone && (o.slots.size == 0 && a != sysModules))) (some (es.toList.map entV)) none
noncomputable abbrev Look:=List (Option FnV)×List (Option AV)×Option AV×Option (List (Option (Int×Int)))×List (Option (Option Value))×Bool×Bool
noncomputable def eI (K:Frag):Look:=(fnsV K,consts.map (fun p=>nN K p.1),nN K "FIRST_ROWS",dictV K "KEY_FAMILIES",blts.map (fun x=>nsIn K Bl x),nsOkIn K Bl,(K.lookup sysModules).isSome)
noncomputable def ch:Look:=(uV,consts.map (fun p=>some p.2),some (.tup (T0.map aU)),some ([(3,6),(4,5),(5,4),(6,1),(7,2),(10,7)].map some),blts.map (fun _=>some none),true,true)
noncomputable def qv:Program:={ theProg with main:={ theProg.main with body:=[stAt 53,stAt 54,stAt 129,stAt 143] } }
noncomputable def lv:List Str:=theProg.boundNames.filter fun x=>!decide (x="law") && !decide (x="TypeTable") && !decide (x="Decl") && !decide (x="Thin")
noncomputable def theRow:OpenRow:=PySem.Challenge.rw_pc0110_01.row
noncomputable def kh (H₀:Heap) (s:Shared):=(staticsOk (importedModules theRow.prog.main.body) H₀ s.heap && namesBound theRow.prog s.heap && gensDone s && laidKept H₀ s.heap,
 openSeen qv lv (importedModules theRow.prog.main.body) (fun s=>recOk theRow.records s) true s,eI (dump s.heap))
noncomputable def ol (w:World) (H₀:Heap) (os:OsState):Option SharedT :=
 fO treeTable theRow.prog w H₀.objs.size (H₀.nsMap Bl "__annotations__") 9768 ⟨vG H₀.objs.toList 0 .nil,H₀.objs.size,H₀.life,#[],boot_drawn,boot_toks,os⟩ (topStub theRow.prog)
noncomputable def sB (n₀:Nat) (ann:Option Value) (ok:Nat→Option Value→Thread→Bool) (st:SharedT→Thread→Option (SharedT×Thread)) (k:Nat):SharedT→Thread→Option SharedT :=
 @Nat.rec (fun _=>SharedT→Thread→Option SharedT) (fun _ _=>none) (fun _ ih s t=>match through t with
  | true=>some s
  | false=>match ok n₀ ann t with
   | false=>none
   | true=>match st s t with
    | some (s',t')=>ih s' t'
    | none=>none) k
theorem jU {tb:String→Option Builtin}{p:Program}{w:World}{n₀:Nat}{ann:Option Value}:∀(k:Nat),sB n₀ ann stepOk (PySem.W.stepT (denote tb) p w) k=fO tb p w n₀ ann k
 | 0=>rfl
 | k+1=>by
  funext s t
  unfold fO;rw [← jU k];rfl
noncomputable def runQ (w:World) (H₀:Heap) (os:OsState):Option SharedT :=
 sB H₀.objs.size (H₀.nsMap Bl "__annotations__") PySem.W.Fast.tw6613529449190102663 (PySem.W.Fast.tw10156331382660048174 (PySem.W.Fast.tw11892475500146522536 PySem.W.Fast.tw14364793385576792824) theRow.prog w) 9768 ⟨vG H₀.objs.toList 0 .nil,H₀.objs.size,H₀.life,#[],boot_drawn,boot_toks,os⟩ (topStub theRow.prog)
theorem runQ_is (w:World) (H₀:Heap) (os:OsState):runQ w H₀ os=ol w H₀ os:=by
 unfold runQ ol;rw [← PySem.W.Fast.te14364793385576792824,← PySem.W.Fast.te6613529449190102663,← PySem.W.Fast.te10156331382660048174,← PySem.W.Fast.te11892475500146522536,jU]
noncomputable def seenQ (H₀:Heap) (s:Shared):=(staticsOk (PySem.W.Fast.tw5923862056798008813 theRow.prog.main.body) H₀ s.heap && namesBound theRow.prog s.heap && gensDone s && laidKept H₀ s.heap,
 PySem.W.Fast.tw4187177175401517315 qv lv (PySem.W.Fast.tw5923862056798008813 theRow.prog.main.body) (fun s=>recOk theRow.records s) true s,eI (dump s.heap))
theorem seenQ_is (H₀:Heap) (s:Shared):seenQ H₀ s=kh H₀ s:=by
 unfold seenQ kh;rw [← PySem.W.Fast.te5923862056798008813,← PySem.W.Fast.te4187177175401517315]
noncomputable def seenA (H₀:Heap) (s:Shared):=(staticsOk (PySem.W.Fast.tw5923862056798008813 theRow.prog.main.body) H₀ s.heap && namesBound theRow.prog s.heap && gensDone s && laidKept H₀ s.heap,
 PySem.W.Fast.tw4187177175401517315 qv lv (PySem.W.Fast.tw5923862056798008813 theRow.prog.main.body) (fun s=>recOk theRow.records s) true s)
theorem map_two {α β γ:Type}{o:Option α}{f:α→β}{g:α→γ}{b c} (h:o.map f=some b) (k:o.map g=some c):o.map (fun x=>(f x,g x))=some (b,c):=by
 cases o with
 | none=>exact nS h
 | some x=>cases As h;cases As k;rfl
theorem sV {w:World}{H₀:Heap}{os:OsState}{a b c} (h:(runQ w H₀ os).map (fun S=>seenA H₀ S.abs)=some (a,b)) (k:(runQ w H₀ os).map (fun S=>eI (dump S.abs.heap))=some c):(ol w H₀ os).map (fun S=>kh H₀ S.abs)=some (a,b,c):=by
 rw [runQ_is] at h k;have:=map_two h k;cases e:ol w H₀ os with
 | none=>rw [e] at h;exact nS h
 | some S =>
  rw [e] at this;obtain ⟨h1,h2⟩:=Prod.mk.inj (As this);exact congrArg some ((seenQ_is H₀ S.abs).symm.trans (by unfold seenQ;unfold seenA at h1;rw [h2];exact congrArg (fun p=>(p.1,p.2,c)) h1))
set_option maxRecDepth 1000000 in
set_option maxHeartbeats 0 in
theorem run_fa (w:World) (os:OsState):(runQ (w.withFollow "special-get-raises" false) (boot_heap w.params) os).map (fun S=>seenA (boot_heap w.params) S.abs)=some (true,openGood qv lv):=by kernel_rfl
set_option maxRecDepth 1000000 in
set_option maxHeartbeats 0 in
theorem run_fb (w:World) (os:OsState):(runQ (w.withFollow "special-get-raises" false) (boot_heap w.params) os).map (fun S=>eI (dump S.abs.heap))=some ch:=by kernel_rfl
theorem run_f:∀(w:World) (os:OsState),(ol (w.withFollow "special-get-raises" false) (boot_heap w.params) os).map (fun S=>kh (boot_heap w.params) S.abs)=some (true,openGood qv lv,ch):=fun w os=>sV (run_fa w os) (run_fb w os)
set_option maxRecDepth 1000000 in
set_option maxHeartbeats 0 in
theorem run_ta (w:World) (os:OsState):(runQ (w.withFollow "special-get-raises" true) (boot_heap w.params) os).map (fun S=>seenA (boot_heap w.params) S.abs)=some (true,openGood qv lv):=by kernel_rfl
set_option maxRecDepth 1000000 in
set_option maxHeartbeats 0 in
theorem run_tb (w:World) (os:OsState):(runQ (w.withFollow "special-get-raises" true) (boot_heap w.params) os).map (fun S=>eI (dump S.abs.heap))=some ch:=by kernel_rfl
theorem run_t:∀(w:World) (os:OsState),(ol (w.withFollow "special-get-raises" true) (boot_heap w.params) os).map (fun S=>kh (boot_heap w.params) S.abs)=some (true,openGood qv lv,ch):=fun w os=>sV (run_ta w os) (run_tb w os)
noncomputable abbrev rwL:=PySem.Challenge.rw_pc0110_01
set_option maxHeartbeats 0 in
theorem said_1:sreFenced rwL.row.prog.main=true:=by kernel_rfl
set_option maxHeartbeats 0 in
theorem said_2:namesResolve rwL.row.prog=true:=by kernel_rfl
set_option maxHeartbeats 0 in
theorem said_3:(rwL.row.prog.boundNames.all fun n=>!worldNames.contains n)=true:=by kernel_rfl
set_option maxHeartbeats 0 in
theorem said_4:noRoadLSs { strict:=!(importedModules rwL.row.prog.main.body).all cThrough.contains,foot:=none,bare:=List.filter (readsOut rwL.row.prog rwL.row.prog.main.body) [Ab "vars",Ab "dir",Ab "locals"] } rwL.row.prog.main.body=true:=by kernel_rfl
set_option maxHeartbeats 0 in
theorem said_5: (namesMeet rwL.row.prog rwL.row.prog.main.body fun x n=>attrL n)=true:=by kernel_rfl
set_option maxHeartbeats 0 in
theorem said_6:rwL.row.prog.boundNames.contains rwL.row.name=true:=by kernel_rfl
set_option maxHeartbeats 0 in
theorem said_7:rwL.footing.all footLine=true:=by kernel_rfl
set_option maxHeartbeats 0 in
theorem said_8:noClassBlock rwL.prog rwL.footing=true:=by kernel_rfl
set_option maxHeartbeats 0 in
theorem said_9:noRoadLSs { strict:=true,foot:=some rwL.bound',writes:=rwL.writes,may:=rwL.may } rwL.footing=true :=by kernel_rfl
set_option maxHeartbeats 0 in
theorem said_10:rwL.namesIt=true :=by kernel_rfl
set_option maxHeartbeats 0 in
theorem said_11 :(rwL.bound'.all fun n=>!builtinNamed n || rwL.about == [n] || !rwL.reads n)=true  :=by kernel_rfl
set_option maxHeartbeats 0 in
theorem said_12:(namesMeet rwL.prog rwL.footing fun sc n=>(![Ab "type",Ab "isinstance",Ab "issubclass",Ab "getattr",Ab "hasattr"].contains n || Ce n sc.names == some NameKind.globalImplicit) && (rwL.may != some n || sc.kind == ScopeKind.module || Ce n sc.names == some NameKind.globalImplicit))=true:=by kernel_rfl
set_option maxHeartbeats 0 in
theorem said_13:(rwL.own.eraseDups.length == rwL.own.length)=true :=by kernel_rfl
set_option maxHeartbeats 0 in
theorem said_14:(rwL.own.all fun n=>!builtinNamed n)=true:=by kernel_rfl
set_option maxHeartbeats 0 in
theorem said_15:(namesMeet rwL.prog rwL.above fun x n=>!rwL.own.contains n)=true:=by kernel_rfl
set_option maxHeartbeats 0 in
theorem said_16:(namesMeet rwL.prog rwL.footing fun sc n=>sc.kind == ScopeKind.module || Ce n sc.names != some NameKind.globalExplicit)=true :=by kernel_rfl
set_option maxHeartbeats 0 in
theorem said_17:defStands rwL.about rwL.above=true:=by kernel_rfl
set_option maxHeartbeats 0 in
theorem said:PySem.Challenge.rw_pc0110_01.wellSaid=true:=by
 unfold OpenLaw.wellSaid OpenRow.wellSaid OpenRow.partSaid looksOpen
 repeat' with_reducible refine look_both ?_ ?_
 all_goals first | with_reducible exact said_1 | with_reducible exact said_2 | with_reducible exact said_3 | with_reducible exact said_4 | with_reducible exact said_5 | with_reducible exact said_6 | with_reducible exact said_7 | with_reducible exact said_8 | with_reducible exact said_9 | with_reducible exact said_10 | with_reducible exact said_11 | with_reducible exact said_12 | with_reducible exact said_13 | with_reducible exact said_14 | with_reducible exact said_15 | with_reducible exact said_16 | with_reducible exact said_17 | kernel_rfl
end Mine
namespace Mine
open PySem
open AV renaming int → Aa, list → Ad, tup → Al, tab → An, bool → Aq, set → AE, fn → Ba, rng → Bm, none → By, host → BD, idict → Cd, olist → Cj, str → CE
structure Ty (T:Tbl) (t:Int) (l:List Atom):Prop where
 mem:∀a∈l,aS a∈T
 nodup:l.Nodup
 shape:(l=[]∧t=2)∨(∃a,l=[a]∧t=idA T a)∨(2≤l.length∧.unk∉l∧RowOf T t [.int 6,.nums (l.map (idA T))])
theorem ul {α:Type} [DecidableEq α]:∀{l m:List α},l.Nodup→(∀a∈l,a∈m)→l.length≤m.length
 | [],_,_,_=>Bj _
 | x::l,m,n,s=>by
  have n':=Bb.mp n;have hx:=s x (.head _);have:=ul (l:=l) (m:=m.erase x) n'.2 fun a ha=>(List.mem_erase_of_ne (fun e:a=x=>n'.1 (e▸ha))).mpr (s a (.tail _ ha));replace this:=(List.length_erase_of_mem hx ..)▸this;have:0<m.length:=List.length_pos_of_mem hx;simp only [AK];omega
theorem cq {l:List Atom} (n:l.Nodup):l.length≤31:=by
 have:=ul n fun a _=>ia a
 rwa [qL] at this
theorem iS {T T':Tbl} (n:T'.Nodup) (p:T <+: T') {l:List Atom} (m:∀a∈l,aS a∈T):l.map (idA T')=l.map (idA T) :=
 Cy fun a ha=>qp n p (m a ha)
theorem qh {T T':Tbl} (p:T <+: T') {r:Row} (h:r∈T):r∈T':=p.subset h
theorem Ty.mono {T T':Tbl}{t:Int}{l:List Atom} (h:Ty T t l) (n:T'.Nodup) (p:T <+: T'):Ty T' t l:=by
 refine ⟨fun a ha=>qh p (h.mem a ha),h.nodup,?_⟩;rcases h.shape with q | ⟨a,rfl,e⟩ | ⟨q1,q2,q3⟩
 ·exact .inl q
 ·exact .inr (.inl ⟨a,rfl,by refine rwC (e ..) ?_;refine rwC (qp n p (h.mem a (.head _)) ..) ?_;exact rfl⟩)
 ·exact .inr (.inr ⟨q1,q2,by refine rwC (iS n p h.mem ..) ?_;exact q3.mono p⟩)
theorem Ty.cap {T:Tbl}{t:Int}{l:List Atom} (h:Ty T t l):l.length≤cap:=Bp (cq h.nodup) (AU rfl)
theorem Ty.caps {T:Tbl}{t:Int}{l:List Atom} (h:Ty T t l) (f:Atom→AV):(l.map f).length≤Mine.cap:=by refine rwC (Aj ..) ?_;exact h.cap
theorem Ty.never (T:Tbl):Ty T 2 []:=⟨nofun,.nil,.inl ⟨rfl,rfl⟩⟩
theorem Ty.one {T:Tbl}{a:Atom}{t:Int} (g:Good T) (h:At T t a):Ty T t [a]:=⟨fun b hb=>by refine rwC (Ae.mp hb ..) ?_;exact h.mem,by simp,.inr (.inl ⟨a,rfl,qo g.nodup h.row⟩)⟩
theorem Ty.at {T:Tbl} (g:Good T) {a:Atom}{t:Int} (h:Ty T t [a]):At T t a:=by
 rcases h.shape with ⟨q,_⟩ | ⟨b,e,q⟩ | ⟨q,_⟩
 ·cases q
 ·cases e;refine rwC (q ..) ?_;exact At.idA g (h.mem _ (.head _))
 ·simp at q
theorem mi {T:Tbl} (g:Good T) {t:Int}{r q:Row}{i:Nat} (h:RowOf T t r) (e:T0[i]?=some q) (d:r≠q):t≠i:=fun z=>by
 have:=bW g e;replace this:=(z ..)▸this;exact d (h.fn this)
theorem cO {l:List Int}{q:Row} (h:(match q with | .int 6::_=>false | _=>true)=true):([.int 6,.nums l]:Row)≠q:=by
 rintro rfl;exact fT h
theorem Ty.never_iff {T:Tbl} (g:Good T) {t:Int}{l:List Atom} (h:Ty T t l):t=2↔l=[]:=by
 rcases h.shape with ⟨rfl,rfl⟩ | ⟨a,rfl,e⟩ | ⟨q1,q2,q3⟩
 ·simp
 ·have:=(At.idA g (h.mem a (.head _))).no g;replace this:=(e ..)▸this;simp [this]
 ·have:=mi g (i:=2) q3 rfl (cO rfl);have h2:l≠[]:=by rintro rfl;simp at q1
  simp [h2];exact this
theorem Ty.fix_iff {T:Tbl} (g:Good T) {t:Int}{l:List Atom} (h:Ty T t l) {b:Atom}{i:Nat} (e:gg b=some (i:Int)) (h2:(i:Int)≠2):t=i↔l=[b]:=by
 refine aA2 (fw b i e) fun h0 h1=>?_;rw [AY] at h1;rcases h.shape with ⟨rfl,rfl⟩ | ⟨a,rfl,q⟩ | ⟨q1,q2,q3⟩
 ·simp;exact fun z=>h2 z.symm
 ·have:=(At.idA g (h.mem a (.head _))).isFix g e;rw [q,this];simp
 ·have h3:l≠[b]:=by rintro rfl;simp at q1
  have h4:([.int 6,.nums (l.map (idA T))]:Row)≠aS b:=by
   intro z;have:=gs (p:=fun b=>match aS b with | .int 6::_=>false | _=>true) (by decide +kernel) b;rw [← z] at this;exact fT this
  have:=mi g q3 h1 h4;simp [h3];exact this
theorem Ty.ne {T:Tbl} (g:Good T) {t:Int}{l:List Atom} (h:Ty T t l):t≠0∧t≠13∧t≠10:=by
 rcases h.shape with ⟨rfl,rfl⟩ | ⟨a,rfl,q⟩ | ⟨q1,q2,q3⟩
 ·decide
 ·have:=(At.idA g (h.mem a (.head _))).no g;replace this:=(q ..)▸this;exact ⟨this.1,this.2.2.2.2.1,this.2.2.1⟩
 ·exact ⟨mi g (i:=0) q3 rfl (cO rfl),mi g (i:=13) q3 rfl (cO rfl),mi g (i:=10) q3 rfl (cO rfl)⟩
inductive Tys (T:Tbl):List Int→List Atom→Prop
 | nil:Tys T [] []
 | cons {t l ts L}:Ty T t l→Tys T ts L→Tys T (t::ts) (l++L)
theorem Tys.mono {T T':Tbl}{ts:List Int}{L:List Atom} (h:Tys T ts L) (n:T'.Nodup) (p:T <+: T'):Tys T' ts L:=by
 induction h with
 | nil=>exact .nil
 | cons a _ ih=>exact .cons (a.mono n p) ih
theorem Tys.mem {T:Tbl}{ts:List Int}{L:List Atom} (h:Tys T ts L):∀a∈L,aS a∈T:=by
 induction h with
 | nil=>exact nofun
 | cons x _ ih=>intro a ha;exact (Ao.mp ha).elim (x.mem a) (ih a)
theorem Tys.append {T:Tbl}{ts us:List Int}{L M:List Atom} (h:Tys T ts L) (k:Tys T us M):Tys T (ts++us) (L++M):=by
 induction h with
 | nil=>exact k
 | cons x _ ih=>refine rwC (AQ ..) ?_;exact .cons x ih
theorem Tys.atoms {T:Tbl} (g:Good T):∀{l:List Atom},(∀a∈l,aS a∈T)→Tys T (l.map (idA T)) l
 | [],_=>.nil
 | a::l,m=>.cons (l:=[a]) (Ty.one g (At.idA g (m a (.head _)))) (Tys.atoms g fun b hb=>m b (.tail _ hb))
noncomputable def cJ (L:List Atom):Bool:=(L.contains (.bool false false) || L.contains (.bool false true)) && (L.contains (.bool true false) || L.contains (.bool true true))
noncomputable def J (L:List Atom):List Atom:=if cJ L then L++[.bool false false,.bool true false] else L
noncomputable def inO (S:List Atom):Option Atom→Bool
 | some b=>S.contains b
 | none=>false
noncomputable def cN (S:List Atom) (a:Atom):Bool:=!inO S (gu a) && !inO S (bT a)
noncomputable def aT (L:List Atom) (a:Atom):Prop:=(.unk∈L∧a=.unk)∨(.unk∉L∧a∈J L∧cN (J L) a=true)
structure Keys (T:Tbl) (d:List (Int×Int)) (S:List Atom):Prop where
 nodup:(d.map (·.1)).Nodup
 mem:∀i,i∈d.map (·.1)↔∃a∈S,i=idA T a
theorem iF (k v:Int):∀d:List (Int×Int),(cZ k v d).map (·.1)=if k∈d.map (·.1) then d.map (·.1) else d.map (·.1)++[k]
 | []=>by simp [cZ]
 | p::r=>by
  unfold cZ
  by_cases h:p.1=k
  ·simp [h]
  ·have ih:=iF k v r;have h':k≠p.1:=fun e=>h e.symm;simp only [if_neg h,AR,ih,Ai,h',false_or]
   split <;> simp
theorem Keys.nil (T:Tbl):Keys T [] []:=⟨.nil,by simp⟩
theorem Keys.put {T:Tbl}{d:List (Int×Int)}{S:List Atom} (h:Keys T d S) (a:Atom) (v:Int):Keys T (cZ (idA T a) v d) (S++[a]):=by
 refine ⟨?_,fun i=>?_⟩
 ·refine rwC (iF ..) ?_
  split
  ·exact h.nodup
  ·rename_i q;exact BI.mpr ⟨h.nodup,by simp,fun x hx y hy e=>q (by replace e:=(Ae.mp hy ..)▸e;exact e▸hx)⟩
 ·refine rwC (iF ..) ?_;have e1:i∈(if idA T a∈d.map (·.1) then d.map (·.1) else d.map (·.1)++[idA T a])↔i∈d.map (·.1)∨i=idA T a:=by
   split
   ·rename_i q;constructor
    ·exact .inl
    ·rintro (h | rfl)
     ·exact h
     ·exact q
   ·simp
  rw [e1,h.mem i];constructor
  ·rintro (⟨b,hb,e⟩ | e)
   ·exact ⟨b,Ap _ hb,e⟩
   ·exact ⟨a,by simp,e⟩
  ·rintro ⟨b,hb,e⟩;rcases Ao.mp hb with hb | hb
   ·exact .inl ⟨b,hb,e⟩
   ·replace e:=(Ae.mp hb ..)▸e;exact .inr e
theorem Keys.len {T:Tbl}{d:List (Int×Int)}{S:List Atom} (h:Keys T d S):d.length≤31:=by
 have:=ul (m:=allA.map (idA T)) h.nodup fun i hi=>by
  refine eE1 ((h.mem i).mp hi) fun a zt1=>aA2 zt1 fun _ e=>?_;exact e▸BA (ia a)
 simpa [qL] using this
theorem qJ (d:List (Int×Int)) (i:Int):(d.any fun p=>decide (p.1=i))=decide (i∈d.map (·.1)):=by
 rw [Bx];simp only [BO,decide_eq_true_eq,AD]
theorem Keys.has {T:Tbl} (g:Good T) {d:List (Int×Int)}{S:List Atom} (h:Keys T d S) (m:∀a∈S,aS a∈T) {a:Atom}{t:Int} (A:At T t a):(d.any fun p=>decide (p.1=t))=S.contains a:=by
 rw [qJ,Bx,decide_eq_true_eq,Au,h.mem t];constructor
 ·rintro ⟨b,hb,e⟩;have:a=b:=A.atom (e▸At.idA g (m b hb));exact this▸hb
 ·intro ha;exact ⟨a,ha,qo g.nodup A.row⟩
theorem Keys.hasNot {T:Tbl} (g:Good T) {d:List (Int×Int)}{S:List Atom} (h:Keys T d S) (m:∀a∈S,aS a∈T) {t:Int} (A:∀a,¬At T t a):(d.any fun p=>decide (p.1=t))=false:=by
 rw [qJ,decide_eq_false_iff_not,h.mem t];rintro ⟨b,hb,e⟩;exact A b (e▸At.idA g (m b hb))
theorem dc {T:Tbl} (g:Good T) {a:Atom}{i:Int} (e:gg a=some i):At T i a:=by
 have:=iY g e;refine rwD (this.1 ..) ?_;exact At.idA g this.2
theorem has_twin {T:Tbl} (g:Good T) {d:List (Int×Int)}{S:List Atom} (K:Keys T d S) (m:∀a∈S,aS a∈T) {a:Atom}:(d.any fun p=>decide (p.1=twI T a))=inO S (gu a):=by
 unfold twI;cases e:gu a with
 | none=>exact K.hasNot g m fun a A=>(A.no g).2.2.2.2.2 rfl
 | some b =>
  dsimp only [inO]
  split
  ·rename_i hb;exact K.has g m (At.idA g hb)
  ·rename_i hb;refine rwC (K.hasNot g m fun a A=>(A.no g).2.2.2.2.2 rfl ..) ?_;rw [eq_comm,← BW,Au];exact fun z=>hb (m b z)
theorem uH {T:Tbl} (g:Good T) {d:List (Int×Int)}{S:List Atom} (K:Keys T d S) (m:∀a∈S,aS a∈T) {a:Atom}:(d.any fun p=>decide (p.1=widA a))=inO S (bT a):=by
 have no:=K.hasNot g m (t:=-1) fun a A=>(A.no g).2.2.2.2.2 rfl;have h6:=K.has g m (dc g (a:=.str) rfl);have h7:=K.has g m (dc g (a:=.num) rfl);cases a <;> first | exact no | exact h6 | exact h7
theorem gy {T:Tbl}{d:List (Int×Int)}{S:List Atom} (h:Keys T d S) (m:∀a∈S,aS a∈T):∃M:List Atom,eY (d.map (·.1))=M.map (idA T)∧M.Nodup∧∀a,a∈M↔a∈S:=by
 have hp:(eY (d.map (·.1))).Perm (d.map (·.1)):=List.mergeSort_perm _ _;have key:∀l:List Int,l.Nodup→(∀i∈l,∃a∈S,i=idA T a)→∃M:List Atom,l=M.map (idA T)∧M.Nodup∧∀a∈M,a∈S:=by
  intro l
  induction l with
  | nil=>exact fun _ _=>⟨[],rfl,.nil,nofun⟩
  | cons x l ih =>
   intro n s;have n':=Bb.mp n;refine eE1 (ih n'.2 fun i hi=>s i (.tail _ hi)) fun M zt2=>aA3 zt2 fun e nM sM=>?_;refine eE1 (s x (.head _)) fun a zt3=>aA2 zt3 fun ha ea=>?_;refine ⟨a::M,by refine rwC (AR ..) ?_;refine rwD (e ..) ?_;refine rwD (ea ..) ?_;exact rfl,Bb.mpr ⟨fun q=>n'.1 ?_,nM⟩,?_⟩
   ·refine rwC (e ..) ?_;refine rwC (ea ..) ?_;exact BA q
   ·intro b hb;rcases Ai.mp hb with rfl | hb
    ·exact ha
    ·exact sM b hb
 refine eE1 (key _ (hp.nodup_iff.mpr h.nodup) fun i hi=>(h.mem i).mp (hp.mem_iff.mp hi)) fun M zt4=>aA3 zt4 fun e nM sM=>?_;refine ⟨M,e,nM,fun a=>⟨sM a,fun ha=>?_⟩⟩;have:idA T a∈eY (d.map (·.1)):=hp.mem_iff.mpr ((h.mem _).mpr ⟨a,ha,rfl⟩);replace this:=(e ..)▸this;refine eE1 (AD.mp this) fun b zt5=>aA2 zt5 fun hb eb=>?_;exact idA_inj (m b (sM b hb)) (m a ha) eb▸hb
theorem aG {α:Type} (f:α→Int) (l:List α):(l.map f).map Aa=l.map fun a=>Aa (f a):=by refine rwC (Cr ..) ?_;rfl
theorem J_mem {L:List Atom} (T:Tbl) (g:Good T) (m:∀a∈L,aS a∈T):∀a∈J L,aS a∈T:=by
 unfold J
 split
 ·intro a ha;rcases Ao.mp ha with ha | ha
  ·exact m a ha
  ·rcases Ai.mp ha with rfl | ha
   ·exact (dc g (a:=.bool false false) rfl).mem
   ·refine rwC (Ae.mp ha ..) ?_;exact (dc g (a:=.bool true false) rfl).mem
 ·exact m
noncomputable def cR (a:Atom):Bool:=[1,2,3,4,5,6].contains (fam a)
section
variable {turn:nY}{kn:Kn}{kr:K}{tP:AV→Tbl→(Option AV→Tbl→Prop)→Prop}{α:Type}{f:α→AV}{g:α→Option AV}{T:Tbl}{vs:an}{k:Nat}{y:Str}
theorem lK {S:Type}{full:List α}{I:List α→S→Tbl→Prop}{sl:S→an} (step:∀pre a c x T (nx:Kn),full=pre++a::c→I pre x T→(∀x T,I (pre++[a]) x T→nx (sl x) k y T)→turn (f a) (sl x) k y T nx kn kr) (fin:∀x T,I full x T→kn (sl x) k y T) :
  ∀(l pre:List α) (x:S) (T:Tbl),full=pre++l→I pre x T→bA turn (l.map f) (sl x) k y T kn kr
 | [],pre,x,T,e,h=>fin x T (by rw [e,AG];exact h)
 | a::l,pre,x,T,e,h=>step pre a l x T _ e h fun x T h=>lK step fin l (pre++[a]) x T (by rw [e,AQ];rfl) h
theorem pc {S:Type}{full:List α}{x:S} (I:List α→S→Prop) (sl:S→an) (h0:I [] x) (step:∀pre a c x (nx:Kn),full=pre++a::c→I pre x→(∀x,I (pre++[a]) x→nx (sl x) k y T)→turn (f a) (sl x) k y T nx kn kr) (fin:∀x,I full x→kn (sl x) k y T) :
  bA turn (full.map f) (sl x) k y T kn kr:=lK (I:=fun pre x T1=>T1=T∧I pre x) (fun pre a c x T1 nx e h hn=>by
   obtain ⟨rfl,h⟩:=h;exact step pre a c x nx e h fun x h=>hn x _ ⟨rfl,h⟩) (fun x T1 h=>by
   obtain ⟨rfl,h⟩:=h;exact fin x h) full [] x T rfl ⟨rfl,h0⟩
theorem oG {nx:Kn}{vs vs':an} (h:nx vs k y T) (e:vs'=vs):nx vs' k y T:=e▸h
section
variable {A B C D E:Type}{full:List α}{a:A}{b:B}{c:C}{d:D}{e:E}
theorem pd (I:List α→A→B→Prop) (sl:A→B→an) (h0:I [] a b) (step:∀pre z w x0 x1 (nx:Kn),full=pre++z::w→I pre x0 x1→(∀x0 x1,I (pre++[z]) x0 x1→nx (sl x0 x1) k y T)→turn (f z) (sl x0 x1) k y T nx kn kr) (fin:∀x0 x1,I full x0 x1→kn (sl x0 x1) k y T) :
  bA turn (full.map f) (sl a b) k y T kn kr:=pc (S:=A×B) (x:=(a,b)) (fun pre x=>I pre x.1 x.2) (fun x=>sl x.1 x.2) h0 (fun pre z w x nx e h hn=>step pre z w x.1 x.2 nx e h fun x0 x1 h=>hn (x0,x1) h) fun x h=>fin x.1 x.2 h
theorem nH (I:List α→A→B→C→Prop) (sl:A→B→C→an) (h0:I [] a b c) (step:∀pre z w x0 x1 x2 (nx:Kn),full=pre++z::w→I pre x0 x1 x2→(∀x0 x1 x2,I (pre++[z]) x0 x1 x2→nx (sl x0 x1 x2) k y T)→turn (f z) (sl x0 x1 x2) k y T nx kn kr) (fin:∀x0 x1 x2,I full x0 x1 x2→kn (sl x0 x1 x2) k y T) :
  bA turn (full.map f) (sl a b c) k y T kn kr:=pc (S:=A×B×C) (x:=(a,b,c)) (fun pre x=>I pre x.1 x.2.1 x.2.2) (fun x=>sl x.1 x.2.1 x.2.2) h0 (fun pre z w x nx e h hn=>step pre z w x.1 x.2.1 x.2.2 nx e h fun x0 x1 x2 h=>hn (x0,x1,x2) h) fun x h=>fin x.1 x.2.1 x.2.2 h
theorem forS4 (I:List α→A→B→C→D→Tbl→Prop) (sl:A→B→C→D→an) (h0:I [] a b c d T) (step:∀pre z w x0 x1 x2 x3 T (nx:Kn),full=pre++z::w→I pre x0 x1 x2 x3 T→(∀x0 x1 x2 x3 T,I (pre++[z]) x0 x1 x2 x3 T→nx (sl x0 x1 x2 x3) k y T)→turn (f z) (sl x0 x1 x2 x3) k y T nx kn kr) (fin:∀x0 x1 x2 x3 T,I full x0 x1 x2 x3 T→kn (sl x0 x1 x2 x3) k y T) :
  bA turn (full.map f) (sl a b c d) k y T kn kr:=lK (S:=A×B×C×D) (I:=fun pre x T=>I pre x.1 x.2.1 x.2.2.1 x.2.2.2 T) (sl:=fun x=>sl x.1 x.2.1 x.2.2.1 x.2.2.2) (fun pre z w x T nx e h hn=>step pre z w x.1 x.2.1 x.2.2.1 x.2.2.2 T nx e h fun x0 x1 x2 x3 T h=>hn (x0,x1,x2,x3) T h) (fun x T h=>fin x.1 x.2.1 x.2.2.1 x.2.2.2 T h) full [] (a,b,c,d) T rfl h0
theorem forS5 (I:List α→A→B→C→D→E→Tbl→Prop) (sl:A→B→C→D→E→an) (h0:I [] a b c d e T) (step:∀pre z w x0 x1 x2 x3 x4 T (nx:Kn),full=pre++z::w→I pre x0 x1 x2 x3 x4 T→(∀x0 x1 x2 x3 x4 T,I (pre++[z]) x0 x1 x2 x3 x4 T→nx (sl x0 x1 x2 x3 x4) k y T)→turn (f z) (sl x0 x1 x2 x3 x4) k y T nx kn kr) (fin:∀x0 x1 x2 x3 x4 T,I full x0 x1 x2 x3 x4 T→kn (sl x0 x1 x2 x3 x4) k y T) :
  bA turn (full.map f) (sl a b c d e) k y T kn kr:=lK (S:=A×B×C×D×E) (I:=fun pre x T=>I pre x.1 x.2.1 x.2.2.1 x.2.2.2.1 x.2.2.2.2 T) (sl:=fun x=>sl x.1 x.2.1 x.2.2.1 x.2.2.2.1 x.2.2.2.2) (fun pre z w x T nx e h hn=>step pre z w x.1 x.2.1 x.2.2.1 x.2.2.2.1 x.2.2.2.2 T nx e h fun x0 x1 x2 x3 x4 T h=>hn (x0,x1,x2,x3,x4) T h) (fun x T h=>fin x.1 x.2.1 x.2.2.1 x.2.2.2.1 x.2.2.2.2 T h) full [] (a,b,c,d,e) T rfl h0
theorem forK5 (I:List α→A→B→C→D→E→Prop) (sl:A→B→C→D→E→an) (h0:I [] a b c d e) (step:∀pre z w x0 x1 x2 x3 x4 (nx:Kn),full=pre++z::w→I pre x0 x1 x2 x3 x4→(∀x0 x1 x2 x3 x4,I (pre++[z]) x0 x1 x2 x3 x4→nx (sl x0 x1 x2 x3 x4) k y T)→turn (f z) (sl x0 x1 x2 x3 x4) k y T nx kn kr) (fin:∀x0 x1 x2 x3 x4,I full x0 x1 x2 x3 x4→kn (sl x0 x1 x2 x3 x4) k y T) :
  bA turn (full.map f) (sl a b c d e) k y T kn kr:=pc (S:=A×B×C×D×E) (x:=(a,b,c,d,e)) (fun pre x=>I pre x.1 x.2.1 x.2.2.1 x.2.2.2.1 x.2.2.2.2) (fun x=>sl x.1 x.2.1 x.2.2.1 x.2.2.2.1 x.2.2.2.2) h0 (fun pre z w x nx e h hn=>step pre z w x.1 x.2.1 x.2.2.1 x.2.2.2.1 x.2.2.2.2 nx e h fun x0 x1 x2 x3 x4 h=>hn (x0,x1,x2,x3,x4) h) fun x h=>fin x.1 x.2.1 x.2.2.1 x.2.2.2.1 x.2.2.2.2 h
end
theorem wh_up {tP:an→Nat→Str→Tbl→(Bool→Tbl→Prop)→Prop}{bP:an→Nat→Str→Tbl→Kn→Kn→K→Prop}{a:Nat} (N:Nat) (I:Nat→Prop) (sl:Nat→an) (ha:a≤N) (i:I a)
  (step:∀(a:Nat) (nx:Kn),a≤N→I a→(a<N→I (a+1)→nx (sl (a+1)) k y T)→tP (sl a) k y T fun c T=>aa c (bP (sl a) k y T nx kn kr) (kn (sl a) k y T)):whP tP bP (sl a) k y T kn kr :=
 ⟨fun m vs k' z T'=>∃a:Nat,a+m=N∧I a∧k'=k∧z=y∧T'=T∧vs=sl a,⟨N - a,a,Nat.add_sub_cancel' ha,i,rfl,rfl,rfl,rfl⟩,fun m vs k' z T' h=>by
  obtain ⟨a,e,i,rfl,rfl,rfl,rfl⟩:=h;exact step a _ (e▸Cn a m) i fun h i'=>⟨m - 1,by omega,a+1,by omega,i',rfl,rfl,rfl,rfl⟩⟩
theorem vx {Q:List AV→Tbl→Prop}:∀{l:List α},(∀a∈l,∀P:Option AV→Tbl→Prop,P (g a) T→tP (f a) T P)→Q (l.filterMap g) T→ay tP (l.map f) T Q
 | [],_,h=>h
 | a::l,step,h=>step a (.head _) _ (vx (fun b m=>step b (.tail _ m)) (by
  cases e:g a with
  | none=>rw [List.filterMap_cons_none e] at h;exact h
  | some v=>rw [List.filterMap_cons_some e] at h;exact h))
theorem cy {f:α→AV}{g:α→AV}{Q:List AV→Tbl→Prop}{l:List α} (step:∀a∈l,∀P:Option AV→Tbl→Prop,P (some (g a)) T→tP (f a) T P) (h:Q (l.map g) T):ay tP (l.map f) T Q :=
 vx (g:=fun a=>some (g a)) step (by show Q (l.filterMap (some ∘ g)) T;refine rwC (List.filterMap_eq_map ..) ?_;exact h)
theorem bB {f:α→AV}{p:α→Bool}{Q:List AV→Tbl→Prop}:∀{l:List α},(∀a∈l,∀P:Option AV→Tbl→Prop,P (cond (p a) (some (f a)) none) T→tP (f a) T P)→Q ((l.filter p).map f) T→ay tP (l.map f) T Q
 | [],_,h=>h
 | a::l,step,h=>step a (.head _) _ (by
  rw [List.filter_cons] at h;cases e:p a with
  | true=>rw [e] at h;exact bB (fun b m=>step b (.tail _ m)) h
  | false=>rw [e] at h;exact bB (fun b m=>step b (.tail _ m)) h)
end
theorem bf {a b:Nat}{P R:Prop} (h:a≤b) (p:P):aa (BY a b) P R:=ce (BL h) p
theorem bS {a b:Nat}{P R:Prop} (h:a<b) (p:P):aa (Cu a b) P R:=ce (BL h) p
theorem jw {α:Type} (g:α→Bool):∀l:List α,aY (l.map fun a=>Aq (g a))=some (l.map g)
 | []=>rfl
 | a::l=>by
  show (aY (l.map fun a=>Aq (g a))).map (g a::·)=_;refine rwC (jw g l ..) ?_;rfl
theorem qb {Q:K}{T:Tbl}{x y:Bool} (h:Q (.bool x) T) (e:x=y):Q (.bool y) T:=e▸h
theorem allB {α:Type}{g:α→Bool}{l:List α}{F:Bool→Prop} (h:F (l.all g)):ak (aY (l.map fun a=>Aq (g a))) fun l=>F (l.all fun a=>id a):=by
 refine rwC (jw ..) ?_;show F ((l.map g).all fun a=>id a);refine rwC (List.all_map ..) ?_;exact h
theorem anyB {α:Type}{g:α→Bool}{l:List α}{F:Bool→Prop} (h:F (l.any g)):ak (aY (l.map fun a=>Aq (g a))) fun l=>F (l.any fun a=>id a):=by
 refine rwC (jw ..) ?_;show F ((l.map g).any fun a=>id a);refine rwC (List.any_map ..) ?_;exact h
section
variable {W:Wd}{n k:Nat}{T:Tbl}{Q:K}{t u:Int}{a b:Atom}{l:List Atom} (wf:WF W)
include wf
theorem du (g:Good T) (A:At T t a) (B:At T u b) (h:Q (.bool (bY a b)) T):Calls W (n+4) "plain_meets" [.tab,.int t,.int u,.bool true] T Q:=by
 refine ah wf rfl ((kU ..).mpr (aH wf A (aH wf B ?_)));revert h;unfold bY;intro h;show aa (decide (fam a=0)) _ _;cases e:decide (fam a=0) with
 | true=>rw [e] at h;exact h
 | false =>
 rw [e] at h;show aa (decide (fam b=0)) _ _;cases e:decide (fam b=0) with
 | true=>rw [e] at h;exact h
 | false =>
 rw [e] at h;show aa (decide (fam a=fam b)) _ _;cases e2:decide (fam a=fam b) with
 | true =>
  rw [e2] at h;refine bG wf g A (bG wf g B (gh (q:=[]) (mz a) rfl ?_));cases e:decide (pv a=[]) with
  | true=>rw [e] at h;exact h
  | false =>
  rw [e] at h;refine aR rfl ?_;refine gh (q:=[]) (mz b) rfl ?_;cases e:decide (pv b=[]) with
  | true=>rw [e] at h;exact h
  | false=>rw [e] at h;exact aR rfl (gh (mz a) (mz b) h)
 | false =>
 rw [e2] at h;show aa ([4,5,6].contains (fam a)) _ _;rw [jm];cases e:nf (fam a) with
 | false=>rw [e] at h;exact h
 | true =>
 rw [e] at h;show aa ([4,5,6].contains (fam b)) _ _;rw [jm];cases e:nf (fam b) with
 | false=>rw [e] at h;exact h
 | true =>
 rw [e] at h;refine qb h ?_;show _=!((4:Int) == fam a || ((4:Int) == fam b || false));rw [Bool.or_false,Bool.not_or];have:∀i:Int,decide (i=4)=((4:Int) == i):=fun i=>(decide_eq_decide.mpr ⟨Eq.symm,Eq.symm⟩:decide (i=4)=decide (4=i));rw [this,this];rfl
theorem aO (g:Good T) (y:Ty T t l) (h:Q (.tup (l.map fun a=>Aa (idA T a))) T):Calls W (n+1) "parts_of" [.tab,.int t] T Q:=by
 rcases y.shape with ⟨rfl,rfl⟩ | ⟨a,rfl,e⟩ | ⟨q1,q2,q3⟩
 ·exact jN wf h
 ·subst e;exact dw wf g (y.at g) h
 ·exact jM wf q3 (fun z=>by replace q1:=(y.never_iff g).mp z▸q1;simp at q1) (by refine rwC (aG ..) ?_;exact h)
theorem prim_w (A:At T t a) (h:Q (.bool (cR a)) T):Calls W (n+3) "narrow_is_primitive" [.tab,.int t] T Q :=
 ah wf rfl ((tD ..).mpr (aH wf A h))
theorem bM (g:Good T) (y:Ty T t l) (h:Q (.bool (l.all cR)) T):Calls W (n+4) "all_primitive" [.tab,.int t] T Q :=
 ah wf rfl ((rk ..).mpr (aO wf g y (bf (y.caps _) (cy (fun b hb P q=>prim_w wf (At.idA g (y.mem b hb)) q) (allB (F:=fun b=>Q (.bool b) T) h)))))
theorem bZ (g:Good T) (y:Ty T t l) (h:Q (.bool (!l.isEmpty && l.all fun a=>nf (fam a))) T):Calls W (n+3) "is_nullish_kind" [.tab,.int t] T Q:=by
 refine ah wf rfl ((mx ..).mpr (aO wf g y ?_));cases l with
 | nil=>exact h
 | cons b l =>
  refine ce (decide_eq_true (Int.lt_add_one_of_le (Bv _))) (bf (y.caps _) (cy (g:=fun a=>.bool ([4,5,6].contains (fam a))) (fun b hb P q=>aH wf (At.idA g (y.mem b hb)) q) (allB (F:=fun b=>Q (.bool b) T) (qb h ?_))));exact congrArg (List.all (b::l)) (funext fun a=>(jm _).symm)
theorem top_of_w (g:Good T) {d:List (Int×Int)}{S:List Atom} (K:Keys T d S) (m:∀a∈S,aS a∈T) (h:Q (.int (cond (S.contains .unk) 1 (-1))) T):Calls W (n+1) "top_of" [.idict d] T Q:=by
 refine ah wf rfl ((q_top_of ..).mpr (aR (K.hasNot g m fun a A=>(A.no g).1 rfl) (aR (K.hasNot g m fun a A=>(A.no g).2.2.2.2.1 rfl) ?_)));refine rwC (K.has g m (dc g (a:=.unk) rfl) ..) ?_;cases e:S.contains .unk with
 | true=>replace h:=(e ..)▸h;exact h
 | false=>replace h:=(e ..)▸h;exact h
theorem jC (g:Good T) {d:List (Int×Int)}{S:List Atom} (K:Keys T d S) (m:∀a∈S,aS a∈T) (A:At T t a) (h:Q (.bool (cN S a)) T):Calls W (n+2) "stays_beside" [.tab,.idict d,.int t] T Q:=by
 refine ah wf rfl ((q_stays ..).mpr (cW wf g A ?_));show aa (d.any fun p=>decide (p.1=twI T a)) _ _;unfold cN at h;rw [has_twin g K m];cases e:inO S (gu a) with
 | true=>rw [e] at h;exact h
 | false =>
  rw [e,← uH g K m] at h;exact cY A.row (io wf h)
theorem join_w (g:Good T) {d:List (Int×Int)}{S:List Atom} (K:Keys T d S) (m:∀a∈S,aS a∈T) {P:List (Int×Int)→Tbl→Prop} (h:∀d',Keys T d' (J S)→P d' T):aw W (n+1) "join_bools" d T P:=by
 have K1:Keys T (cZ 8 1 d) (S++[.bool false false]):=by
  have:=K.put (.bool false false) 1
  rwa [(iY g (a:=.bool false false) rfl).1] at this
 have K2:Keys T (cZ 9 1 (cZ 8 1 d)) (S++[.bool false false,.bool true false]):=by
  have:=K1.put (.bool true false) 1;replace this:=(iY g (a:=.bool true false) rfl).1▸this;replace this:=(AQ ..)▸this;exact this
 have c0:Cu d.length cap=true:=BL (BB K.len (by decide));have c1:Cu (cZ 8 1 d).length cap=true:=BL (BB K1.len (by decide));refine callD_at wf rfl ((q_join ..).mpr ?_);refine rwC (c0 ..) ?_;refine rwC (c1 ..) ?_;refine rwC (K.has g m (dc g (a:=.bool false false) rfl) ..) ?_;refine rwC (K.has g m (dc g (a:=.bool true false) rfl) ..) ?_;refine rwC (K.has g m (dc g (a:=.bool false true) rfl) ..) ?_;refine rwC (K.has g m (dc g (a:=.bool true true) rfl) ..) ?_;have h1:cJ S=true→P (cZ 9 1 (cZ 8 1 d)) T:=fun e=>h _ (by unfold J;refine rwC (if_pos e ..) ?_;exact K2);have h2:cJ S=false→P d T:=fun e=>h _ (by unfold J;refine rwC (if_neg (by rw [e];exact nofun) ..) ?_;exact K);unfold cJ at h1 h2;revert h1 h2;cases S.contains (.bool false false) <;> cases S.contains (.bool true false) <;> cases S.contains (.bool false true) <;> cases S.contains (.bool true true) <;> intro h1 h2 <;> first | exact h1 rfl | exact h2 rfl
end
theorem row6_ok (l:List Int):bX [.int 6,.tup (l.map .int)]=some [.int 6,.nums l]:=dp (r:=[.int 6,.nums l]) rfl
section
variable {W:Wd}{n k:Nat}{T:Tbl}{Q:K}{L:List Atom} (wf:WF W)
include wf
theorem sk {p:AV}{d:List (Int×Int)}{o1 o2 o3 o4:Option AV}{nx br:Kn} (g:Gd (k+1) T) (K:Keys T d L) (mL:∀a∈L,aS a∈T)
  (h:∀t T' l,Gd k T'→T <+: T'→Ty T' t l→(∀a,a∈l↔aT L a)→Q (.int t) T'):rs (Calls W (n+3)) (aw W (n+3)) 66 0 40 nx br Q [some .tab,some p,some (.idict d),o1,o2,o3,o4] 2 "got" T:=by
 have g1:=g.1;have mJ:=J_mem T g1 mL;have gk:=g.mono (Cf k);refine (sY ..).mpr (top_of_w wf g1 K mL ?_);cases hu:L.contains .unk with
 | true =>
  have hu:=Au.mp hu;refine h 1 T [.unk] gk (AO _) (Ty.one g1 (dc g1 rfl)) fun a=>?_;unfold aT;simp [hu]
 | false =>
 have hu:Atom.unk∉L:=fun z=>by replace hu:=(Au.mpr z ..)▸hu;exact tF hu
 refine join_w wf g1 K mL fun d2 K2=>?_;refine bc fun zz=>?_;refine eE1 (gy K2 mJ) fun M zt1=>aA3 zt1 fun eM nM mM=>?_;refine zz ?_;have hM:∀b∈M,aS b∈T:=fun b hb=>mJ b ((mM b).mp hb);have e1:Ah Aa (eY (Ah Prod.fst d2))=M.map fun a=>.int (idA T a):=by show (eY (Ah (·.1) d2)).map Aa=_;refine rwC (eM ..) ?_;refine rwC (aG ..) ?_;exact rfl
 refine rwC (e1 ..) ?_;refine bf (Bp K2.len (by decide)) (bf (by refine rwC (Aj ..) ?_;exact Bp (cq nM) (by decide)) (bB (p:=cN (J L)) (fun b hb P q=>jC wf g1 K2 mJ (At.idA g1 (hM b hb)) ?_) ?_))
 ·cases e:cN (J L) b with
  | true=>replace q:=(e ..)▸q;exact q
  | false=>replace q:=(e ..)▸q;exact q
 have hm:∀a,a∈M.filter (cN (J L))↔aT L a:=fun a=>by
  rw [Az,mM];unfold aT;simp [hu]
 have hn:(M.filter (cN (J L))).Nodup:=nM.filter _;have hk:∀a∈M.filter (cN (J L)),aS a∈T:=fun a ha=>hM a (Az.mp ha).1;have hnu:Atom.unk∉M.filter (cN (J L)):=fun z=>by
  refine bc fun zz=>?_;rcases (hm _).mp z with ⟨q,_⟩ | ⟨_,q,_⟩
  ·refine zz ?_;exact hu q
  ·refine zz ?_;unfold J at q
   by_cases e:cJ L=true
   ·replace q:=(if_pos e ..)▸q;refine bc fun zz=>?_;rcases Ao.mp q with q | q
    ·refine zz ?_;exact hu q
    ·refine zz ?_;simp at q
   ·replace q:=(if_neg e ..)▸q;exact hu q
 revert hm hn hk hnu;generalize M.filter (cN (J L))=N;intro hm hn hk hnu
 match N,hm,hn,hk,hnu with
 | [],hm,hn,hk,hnu=>exact h 2 T [] gk (AO _) (Ty.never T) hm
 | [b],hm,hn,hk,hnu=>exact ⟨⟨Int.le_refl 0,Int.natCast_pos.mpr (Nat.succ_pos _)⟩,h _ T [b] gk (AO _) (Ty.one g1 (At.idA g1 (hk b (.head _)))) hm⟩
 | b::c::N,hm,hn,hk,hnu =>
  have hl:=cq hn;have hl2:(Ah (fun a=>Aa (idA T a)) (b::c::N)).length≤31:=by refine rwC (Aj ..) ?_;exact hl
  refine aR rfl (aR (decide_eq_false fun e=>?_) (aR (decide_eq_false fun e=>?_) (ax (show ir _=some [.int 6,.nums ((b::c::N).map (idA T))] from by refine rwD (aG ..) ?_;exact row6_ok _) (pR g fun t T2 g2 p2 r2=>h t T2 (b::c::N) g2 p2 ⟨fun a ha=>qh p2 (hk a ha),hn,.inr (.inr ⟨Nat.le_add_left 2 _,hnu,?_⟩)⟩ hm))))
  ·replace e:=(Aj ..)▸e;replace e:=(AK ..)▸e;replace e:=(AK ..)▸e;lia
  ·lia
  ·refine rwC (iS g2.1.nodup p2 hk ..) ?_;exact r2
theorem qQ (g1:Good T) {p:AV}{kn:Kn}{ts:List Int}{L2:List Atom} (y:Tys T ts L2):∀{L1:List Atom}{d:List (Int×Int)}{o1 o2 o3 o4:Option AV},Keys T d L1→(∀d o1 o2 o3 o4,Keys T d (L1++L2)→kn [some .tab,some p,some (.idict d),o1,o2,o3,o4] 2 "got" T) →
  bA (lp (Calls W (n+3)) (aw W (n+3)) 66 0 39) (ts.map .int) [some .tab,some p,some (.idict d),o1,o2,o3,o4] 2 "got" T kn Q:=by
 induction y with
 | nil=>exact fun K fin=>fin _ _ _ _ _ (by rw [AG];exact K)
 | cons yt ys ih =>
  exact fun {L1}{_}{_}{_}{_}{_} K fin=>(ta ..).mpr (aO wf g1 yt (forK5 (fun b d _ _ _ _=>Keys T d (L1++b)) (fun d o1 o2 o3 o4=>[some .tab,some p,some (.idict d),o1,o2,o3,o4]) (by rw [AG];exact K)
   (fun b a c d o1 o2 o3 o4 nx e K hn=>(sZ ..).mpr (bS (BB K.len (by decide)) (hn _ _ _ _ _ (by rw [← AQ];exact K.put a 1)))) fun d o1 o2 o3 o4 K=>ih K fun d o1 o2 o3 o4 K=>fin d o1 o2 o3 o4 (by rw [← AQ];exact K)))
theorem lY {ts:List Int}{p:AV} (g:Gd (k+1) T) (y:Tys T ts L) {nx br:Kn} (h:∀t T' l,Gd k T'→T <+: T'→Ty T' t l→(∀a,a∈l↔aT L a)→Q (.int t) T') :
  bA (lp (Calls W (n+3)) (aw W (n+3)) 66 0 39) (ts.map .int) [some .tab,some p,some (.idict []),none,none,none,none] 2 "got" T (rs (Calls W (n+3)) (aw W (n+3)) 66 0 40 nx br Q) Q :=
 qQ wf g.1 y (Keys.nil T) fun _ _ _ _ _ K=>sk wf g K y.mem h
theorem bF {ts:List Int}{pv:AV} (g:Gd (k+1) T) (y:Tys T ts L) (hp:pv=.tup (ts.map .int)∨pv=.list (ts.map .int))
  (h:∀t T' l,Gd k T'→T <+: T'→Ty T' t l→(∀a,a∈l↔aT L a)→Q (.int t) T'):Calls W (n+4) "union" [.tab,pv] T Q:=by
 rcases hp with rfl | rfl
 ·exact ah wf rfl ((sW ..).mpr (lY wf g y h))
 ·exact ah wf rfl ((sX ..).mpr (lY wf g y h))
end
section
variable {C:ba}{D:aN}{T:Tbl}
theorem jJ (u fs ft:Int) (Q:K):bE C D GG (aX 90) [.tab,.int 11,.int u,.int fs,.int ft] T Q=(Q (Aa 2) T):=by kernel_rfl
theorem oq (u:Int) (Q:K):bE C D GG (aX 91) [.tab,.int 11,.int u] T Q=(aa (decide (11=u)) (Q (Aa 1) T) (C ("regular_twin") [An,Aa u] T fun a T=>eqP a (Aa 11) fun c=>aa c (Q (Aa 1) T) (C ("regular_twin") [An,Aa 11] T fun a T=>eqP a (Aa u) fun c=>aa c (Q (Aa 2) T) (C ("family") [An,Aa 11] T fun v T=>C ("family") [An,Aa u] T fun v_1 T=>eqP v (Aa 0) fun c=>aa c (Q (Aa 3) T) (eqP v_1 (Aa 0) fun c=>aa c (Q (Aa 3) T) (C ("is_nullish_family") [v] T fun v_2 T=>au v_2 fun c=>aa c (C ("meet_nullish") [Aa 11,Aa u,v,v_1] T fun a a_1=>Q a a_1) (C ("is_nullish_family") [v_1] T fun v_3 T=>au v_3 fun c=>aa c (C ("meet_nullish") [Aa 11,Aa u,v,v_1] T fun a a_1=>Q a a_1) (eqP v (Aa 7) fun c=>aa c (C ("meet_objects") [An,Aa 11,Aa u,v,v_1] T fun a a_1=>Q a a_1) (eqP v_1 (Aa 7) fun c=>aa c (C ("meet_objects") [An,Aa 11,Aa u,v,v_1] T fun a a_1=>Q a a_1) (C ("meet_values") [An,Aa 11,Aa u,v,v_1] T fun a a_1=>Q a a_1)))))))))):=by kernel_rfl
theorem rj (Q:K):bE C D GG (aX 70) [.tab,.int 11] T Q=(ak T[BE 11]? fun r=>ak ((aj 0 (Ah (Cell.av) r).length).bind fun k=>(Ah (Cell.av) r)[k]?) fun w=>aa (w.k.beq 2) (aa ([2,3,4,5,8].contains w.i) (ak ((aj (-1) (Ah (Cell.av) r).length).bind fun k=>(Ah (Cell.av) r)[k]?) fun w=>eqP w (Aa 1) fun c=>Q (Aq c) T) (Q (Aq ([2,3,4,5,8].contains w.i)) T)) False):=by kernel_rfl
theorem kT (Q:K):bE C D GG (aX 71) [.tab,.int 11] T Q=(C ("is_fresh") [An,Aa 11] T fun v T=>au v fun c=>aa c (ak T[BE 11]? fun r=>kc (Al (Ah (Cell.av) r)) none (some (-1)) fun w=>addP w (Al [Aa 0]) fun v=>ak (ir [v]) fun r=>rW T r fun a a_1=>Q a a_1) (Q (Aa 11) T)):=by kernel_rfl
theorem mn (u:Int) (Q:K):bE C D GG (aX 93) [.tab,.int u] T Q=(aa (decide (0≤u)) (ak T[u.toNat]? fun r=>ak ((aj 0 (Ah (Cell.av) r).length).bind fun k=>(Ah (Cell.av) r)[k]?) fun w=>eqP w (Aa 7) fun c=>aa c (ak ((aj 1 (Ah (Cell.av) r).length).bind fun k=>(Ah (Cell.av) r)[k]?) fun w=>Q w T) (ak ((aj 0 (Ah (Cell.av) r).length).bind fun k=>(Ah (Cell.av) r)[k]?) fun w=>eqP w (Aa 8) fun c=>aa c (C ("regular_one") [An,Aa u] T fun v T=>Q (Al [v]) T) (Q (Al [Aa u]) T))) False):=by kernel_rfl
theorem q_lay_on (u:Int) (Q:K):bE C D GG (aX 92) [.tab,.list [.int 11],.int u] T Q=(C ("meet_case") [An,Aa 11,Aa u] T fun v T=>eqP v (Aa 0) fun c=>aa c (Q By T) (eqP v (Aa 1) fun c=>aa c (eqP v (Aa 2) fun x=>aa (!x) (Q (Ad [Aa 11]) T) (Q (Ad []) T)) (eqP v (Aa 2) fun x=>aa (!x) (Q (Ad [Aa 11,Aa u]) T) (Q (Ad [Aa u]) T)))):=by kernel_rfl
theorem mt (u:Int) (Q:K):bE C D GG (aX 94) [.tab,.int 11,.int u] T Q=(C ("members_of_meet") [An,Aa 11] T fun it T=>aq it fun items=>aa (items.length.ble cap) (ay (fun a a_1 a_2=>a_2 (some a) a_1) items T fun l T=>C ("members_of_meet") [An,Aa u] T fun it T=>aq it fun items=>bA (lp C D 94 0 39) items [some An,some (Aa 11),some (Aa u),none,some (Ad l)] 0 { cps:=#[] } T (rs C D 94 0 40 (fun x x_1 x_2 T=>Q By T) (fun x x_1 x_2 x_3=>False) Q) Q) False):=by kernel_rfl
theorem rc (u:Int) (Q:K):bE C D GG (aX 95) [.tab,.int 11,.int u] T Q=(aa (decide (11=u)) (Q (Aa 11) T) (aa (decide (u=1)) (Q (Aa 11) T) (C ("parts_of") [An,Aa 11] T fun it T=>aq it fun items=>bA (lp C D 95 0 39) items [some An,some (Aa 11),some (Aa u),some (Cd []),none,none,none] 2 ("found") T (rs C D 95 0 40 (fun x x_1 x_2 T=>Q By T) (fun x x_1 x_2 x_3=>False) Q) Q))):=by kernel_rfl
theorem jG (v:Int) (Q:K):bE C D GG (aX 95) [.tab,.int 1,.int v] T Q=(aa (decide (1=v)) (Q (Aa 1) T) (aa (decide (v=1)) (Q (Aa 1) T) (Q (Aa v) T))):=by kernel_rfl
theorem mr (s t u:Int) (d:List (Int×Int)) (o1 o2 o3:Option AV) (nx br:Kn) (kr:K):lp C D 95 0 39 (.int u) [some .tab,some (.int s),some (.int t),some (.idict d),o1,o2,o3] 2 "found" T nx br kr=(C ("parts_of") [An,Aa t] T fun it T=>aq it fun items=>bA (lp C D 95 1 38) items [some An,some (Aa s),some (Aa t),some (Cd d),some (Aa u),o2,o3] 2 ("found") T nx kr):=by kernel_rfl
theorem mq (s t u v:Int) (d:List (Int×Int)) (o2 o3:Option AV) (nx br:Kn) (kr:K):lp C D 95 1 38 (.int v) [some .tab,some (.int s),some (.int t),some (.idict d),some (.int u),o2,o3] 2 "found" T nx br kr=(C ("meet_parts") [An,Aa u,Aa v] T fun v_1 T=>eqP v_1 (Aa 2) fun x=>aa (!x) (aa (true && (v_1.k.beq 2 && d.length.blt cap)) (aa (decide ((↑(cZ v_1.i 1 d).length:Int)>200)) False (nx [some An,some (Aa s),some (Aa t),some (Cd (cZ v_1.i 1 d)),some (Aa u),some (Aa v),some v_1] 2 ("found") T)) False) (aa (decide ((↑d.length:Int)>200)) False (nx [some An,some (Aa s),some (Aa t),some (Cd d),some (Aa u),some (Aa v),some v_1] 2 ("found") T))):=by kernel_rfl
theorem mo (s t:Int) (d:List (Int×Int)) (o1 o2 o3:Option AV) (nx br:Kn) (kr:K):rs C D 95 0 40 nx br kr [some .tab,some (.int s),some (.int t),some (.idict d),o1,o2,o3] 2 "found" T=(aa (d.length.ble 63) (C ("union") [An,Ad (Ah (Aa) (eY (Ah Prod.fst d)))] T fun a a_1=>kr a a_1) False):=by kernel_rfl
theorem q_inter (u:Int) (Q:K):bE C D GG (aX 96) [.tab,.tup [.int 11,.int u]] T Q=(aa ([11,u].contains 2) (Q (Aa 2) T) (aa ([11,u].contains 0) (Q (Aa 0) T) (aa ([11,u].contains 13) (Q (Aa 13) T) (C ("meet_two") [An,Aa 1,Aa 11] T fun v T=>C ("meet_two") [An,v,Aa u] T fun v T=>Q v T)))):=by kernel_rfl
theorem jI (u:Int) (nx br:Kn) (kr:K):lp C D 94 0 39 (.int u) [some An,some (Aa 11),some (Aa u),none,some (Ad [.int 11])] 0 ⟨#[]⟩ T nx br kr=(C ("lay_on") [An,Ad [Aa 11],Aa u] T fun v T=>cmpP CmpOp.Is v By fun c=>aa c (kr (Aa 2) T) (nx [some An,some (Aa 11),some (Aa u),some (Aa u),some v] 0 { cps:=#[] } T)):=by kernel_rfl
theorem jH (u:Int) (nx br:Kn) (kr:K):rs C D 94 0 40 nx br kr [some An,some (Aa 11),some (Aa u),some (.int u),some (Ad [.int u])] 0 ⟨#[]⟩ T=(dT (Ad [Aa u]) 0 fun w=>kr w T):=by kernel_rfl
end
theorem nu {L M:List Atom} (h:∀a,a∈L↔a∈M):cJ L=cJ M:=by
 have c:∀a,L.contains a=M.contains a:=fun a=>by rw [Bx,Au,Au];exact h a
 unfold cJ;refine rwC (c ..) ?_;refine rwC (c ..) ?_;refine rwC (c ..) ?_;refine rwC (c ..) ?_;exact rfl
theorem vS {L M:List Atom} (h:∀a,a∈L↔a∈M) (a:Atom):a∈J L↔a∈J M:=by
 unfold J;refine rwC (nu h ..) ?_
 by_cases e:cJ M=true
 ·rw [if_pos e,if_pos e,Ao,Ao,h]
 ·refine rwC (if_neg e ..) ?_;refine rwC (if_neg e ..) ?_;exact h a
theorem mW {L M:List Atom} (h:∀a,a∈L↔a∈M) (a:Atom):aT L a↔aT M a:=by
 have c:∀a,(J L).contains a=(J M).contains a:=fun a=>by rw [Bx,Au,Au];exact vS h a
 have s:cN (J L) a=cN (J M) a:=by
  have:∀o,inO (J L) o=inO (J M) o:=fun o=>by cases o with | none=>rfl | some b=>exact c b
  unfold cN;refine rwC (this ..) ?_;refine rwC (this ..) ?_;exact rfl
 unfold aT;rw [h,vS h,s]
theorem twI_ge (T:Tbl) (b:Atom):twI T b=-1∨∃c,gu b=some c∧aS c∈T∧twI T b=idA T c:=by
 unfold twI;cases e:gu b with
 | none=>exact .inl rfl
 | some c =>
  by_cases q:aS c∈T
  ·exact .inr ⟨c,rfl,q,if_pos q⟩
  ·exact .inl (if_neg q)
theorem kJ (b:Atom):gu b≠some .empty:=by
 cases b with
 | bool v f=>cases f <;> simp [gu]
 | sl v f=>cases f <;> simp [gu]
 | nl v f=>cases f <;> simp [gu]
 | ei v f=>cases f <;> simp [gu]
 | es f=>cases f <;> simp [gu]
 | _=>simp [gu]
theorem p123 {b:Atom} (hb:[1,2,3].contains (fam b)=true):¬fam b=0∧nf (fam b)=false∧¬fam b=7∧¬kind b=8∧¬b=.empty:=by
 have:=gs (p:=fun b=>!([1,2,3].contains (fam b)) || decide (¬fam b=0∧nf (fam b)=false∧¬fam b=7∧¬kind b=8∧¬b=.empty)) (by decide +kernel) b;rw [hb] at this;simpa using this
theorem vf {i j:Int}{P R:Prop} (h:decide (i=j)=false) (p:R):eqP (.int i) (.int j) fun c=>aa c P R:=aR h p
theorem eq_t {i j:Int}{P R:Prop} (h:decide (i=j)=true) (p:P):eqP (.int i) (.int j) fun c=>aa c P R:=ce h p
theorem comp_one {v:AV}{T:Tbl}{F:List AV→Tbl→Prop} (h:F [v] T):aq (.tup [v]) fun items=>aa (BY items.length cap) (ay (fun a T P=>P (some a) T) items T F) False:=h
theorem is_no {l:List AV}{P R:Prop} (h:R):cmpP CmpOp.Is (.list l) .none fun c=>aa c P R:=h
theorem pb {turn:nY}{kn:Kn}{kr:K}{v:AV}{T:Tbl}{vs:an}{k:Nat}{y:Str} (h:turn v vs k y T kn kn kr):aq (.tup [v]) fun items=>bA turn items vs k y T kn kr:=h
section
variable {W:Wd}{n k:Nat}{T:Tbl}{Q:K}{u:Int}{b:Atom}{l:List Atom} (wf:WF W)
include wf
theorem jP {fs ft:Int} (h:Q (.int 2) T):Calls W (n+1) "meet_objects" [.tab,.int 11,.int u,.int fs,.int ft] T Q:=ah wf rfl ((jJ ..).mpr h)
theorem oR (g:Good T) (B:At T u b) (hb:[1,2,3].contains (fam b)=true) (h:Q (.int 2) T):Calls W (n+3) "meet_case" [.tab,.int 11,.int u] T Q:=by
 have E:=dc g (a:=.empty) rfl;refine bc fun zz=>?_;refine aA5 (p123 hb) fun m1 m2 m3 m4 m5=>?_;refine zz ?_;have n1:¬(11:Int)=u:=fun e=>m5 ((B.isFix g (b:=.empty) rfl).mp e.symm);have n2:¬twI T b=11:=fun e=>by
  refine bc fun zz=>?_;rcases twI_ge T b with q | ⟨c,q1,q2,q3⟩
  ·refine zz ?_;replace e:=(q ..)▸e;cases e
  ·refine zz ?_;have:=((At.idA g q2).isFix g (b:=.empty) rfl).mp (q3▸e);subst this;exact kJ b q1
 have n3:¬(-1:Int)=u:=fun e=>(B.no g).2.2.2.2.2 e.symm;refine ah wf rfl ((oq ..).mpr (aR (decide_eq_false n1) (cW wf g B (vf (decide_eq_false n2) (cW wf g E (vf (decide_eq_false n3) (aH wf E (aH wf B ?_))))))));refine vf rfl (vf (decide_eq_false m1) (iN wf ?_));show Calls W _ _ _ _ _;refine iN wf (aR m2 ?_);exact jP wf h
theorem rD (g:Good T) (h:Q (.bool false) T):Calls W (n+1) "is_fresh" [.tab,.int 11] T Q :=
 ah wf rfl ((rj ..).mpr (ax (dc g (a:=.empty) rfl).row.2 h))
theorem kR (g:Good T) (h:Q (.int 11) T):Calls W (n+2) "regular_one" [.tab,.int 11] T Q :=
 ah wf rfl ((kT ..).mpr (rD wf g h))
theorem uf (B:At T u b) (hb:[1,2,3].contains (fam b)=true) (h:Q (.tup [.int u]) T):Calls W (n+3) "members_of_meet" [.tab,.int u] T Q:=by
 refine bc fun zz=>?_;refine aA5 (p123 hb) fun m1 m2 m3 m4 m5=>?_;refine zz ?_;exact ah wf rfl ((mn ..).mpr (cY B.row (eP (db b) (aR (lC b).2.1 (eP (db b) (aR (decide_eq_false m4) h))))))
theorem uh (g:Good T) (h:Q (.tup [.int 11]) T):Calls W (n+3) "members_of_meet" [.tab,.int 11] T Q :=
 ah wf rfl ((mn ..).mpr (cY (dc g (a:=.empty) rfl).row (kR wf g h)))
theorem lay_on_w (g:Good T) (B:At T u b) (hb:[1,2,3].contains (fam b)=true) (h:Q (.list [.int u]) T):Calls W (n+4) "lay_on" [.tab,.list [.int 11],.int u] T Q :=
 ah wf rfl ((q_lay_on ..).mpr (oR wf g B hb h))
theorem ng (g:Good T) (B:At T u b) (hb:[1,2,3].contains (fam b)=true) (h:Q (.int u) T):Calls W (n+5) "meet_parts" [.tab,.int 11,.int u] T Q:=by
 refine ah wf rfl ((mt ..).mpr (uh wf g (comp_one (F:=fun l T=>Calls W _ _ _ T _) (uf wf B hb (pb ?_)))));refine (jI u _ _ _).mpr (lay_on_w wf g B hb (is_no ?_));exact (jH ..).mpr ⟨⟨Int.le_refl 0,Int.natCast_pos.mpr (Nat.succ_pos _)⟩,h⟩
theorem rr {tu:Int} (g:Gd (k+1) T) (y:Ty T tu l) (hl:∀b∈l,[1,2,3].contains (fam b)=true) (h:∀t T' l',Gd k T'→T <+: T'→Ty T' t l'→(∀a,a∈l'↔aT l a)→Q (.int t) T'):Calls W (n+6) "meet_two" [.tab,.int 11,.int tu] T Q:=by
 have g1:=g.1;have n1:¬(11:Int)=tu:=fun e=>by
  have:=(y.fix_iff g1 (b:=.empty) (i:=11) rfl (by decide)).mp e.symm;exact absurd (hl .empty (by refine rwC (this ..) ?_;exact .head _)) (by decide)
 have n2:¬tu=(1:Int):=fun e=>by
  have:=(y.fix_iff g1 (b:=.unk) (i:=1) rfl (by decide)).mp e;exact absurd (hl .unk (by refine rwC (this ..) ?_;exact .head _)) (by decide)
 refine ah wf rfl ((rc ..).mpr (aR (decide_eq_false n1) (aR (decide_eq_false n2) (dw wf g1 (dc g1 (a:=.empty) rfl) (pb ((mr ..).mpr (aO wf g1 y ?_)))))));refine nH (fun b d _ _=>Keys T d b) (fun d o2 o3=>[some .tab,some (.int 11),some (.int tu),some (.idict d),some (.int 11),o2,o3]) (Keys.nil T) (fun l1 b l2 d o2 o3 nx e K hn=>?_) fun d o2 o3 K=>?_
 ·have bl:b∈l:=by refine rwC (e ..) ?_;exact Ak _ (.head _)
  have B:=At.idA g1 (y.mem b bl);have K2:=K.put b 1;exact (mq ..).mpr (ng wf g1 B (hl b bl) (ce (show (!decide (idA T b=2))=true from by refine rwC (decide_eq_false (B.no g1).2.1 ..) ?_;rfl) (bS (BB K.len (by decide)) (aR (decide_eq_false (show ¬((cZ (idA T b) 1 d).length:Int)>200 from by have:=K2.len;lia)) (hn _ _ _ K2)))))
 ·refine eE1 (gy K y.mem) fun M zt1=>aA3 zt1 fun eM nM mM=>?_;refine (mo ..).mpr (bf (Bp K.len (by decide)) ?_);show Calls W _ _ [.tab,.list ((eY (Ah (·.1) d)).map .int)] _ _;refine rwC (eM ..) ?_;exact bF wf g (Tys.atoms g1 fun a ha=>y.mem a ((mM a).mp ha)) (.inr rfl) fun t T2 l2 g2 p2 y2 m2=>h t T2 l2 g2 p2 y2 fun a=>(m2 a).trans (mW mM a)
theorem mZ {v:Int} (hv:v≠1) (h:Q (.int v) T):Calls W (n+6) "meet_two" [.tab,.int 1,.int v] T Q :=
 ah wf rfl ((jG ..).mpr (aR (decide_eq_false fun e=>hv e.symm) (aR (decide_eq_false hv) h)))
theorem inter_w {tu:Int} (g:Gd (k+1) T) (y:Ty T tu l) (hne:l≠[]) (hl:∀b∈l,[1,2,3].contains (fam b)=true) (h:∀t T' l',Gd k T'→T <+: T'→Ty T' t l'→(∀a,a∈l'↔aT l a)→Q (.int t) T'):Calls W (n+7) "inter" [.tab,.tup [.int 11,.int tu]] T Q:=by
 have g1:=g.1;have no:∀i:Int,i≠11→tu≠i→([11,tu]:List Int).contains i=false:=fun i e q=>by
  rw [← BW,Au];intro m;rcases Ai.mp m with z | z
  ·exact e z
  ·exact q (Ae.mp z).symm
 exact ah wf rfl ((q_inter ..).mpr (aR (no 2 (by decide) fun e=>hne ((y.never_iff g1).mp e)) (aR (no 0 (by decide) (y.ne g1).1) (aR (no 13 (by decide) (y.ne g1).2.1) (mZ wf (by decide) (rr wf g y hl h))))))
end
section
variable {C:ba}{D:aN}{T:Tbl}
theorem kX (Q:K):bE C D GG (aX 102) [.tab,.int 11,.int 0] T Q=(ak T[BE 11]? fun r=>C ("family") [An,Aa 11] T fun a T=>eqP a (Aa 0) fun c=>aa c (Q (Ad []) T) (ak ((aj 0 (Ah (Cell.av) r).length).bind fun k=>(Ah (Cell.av) r)[k]?) fun w=>eqP w (Aa 7) fun c=>aa c (ak ((aj 1 (Ah (Cell.av) r).length).bind fun k=>(Ah (Cell.av) r)[k]?) fun w=>C ("typeops_all_props") [An,w,Aa 0] T fun a a_1=>Q a a_1) (ak ((aj 0 (Ah (Cell.av) r).length).bind fun k=>(Ah (Cell.av) r)[k]?) fun w=>eqP w (Aa 9) fun c=>aa c False (ak ((aj 0 (Ah (Cell.av) r).length).bind fun k=>(Ah (Cell.av) r)[k]?) fun w=>eqP w (Aa 8) fun x=>aa (!x) (Q By T) (ak ((aj 2 (Ah (Cell.av) r).length).bind fun k=>(Ah (Cell.av) r)[k]?) fun w=>au w fun c=>aa c (Q By T) (ak ((aj 3 (Ah (Cell.av) r).length).bind fun k=>(Ah (Cell.av) r)[k]?) fun w=>au w fun c=>aa c (Q By T) (ak ((aj 4 (Ah (Cell.av) r).length).bind fun k=>(Ah (Cell.av) r)[k]?) fun w=>au w fun c=>aa c (Q By T) (ak ((aj 5 (Ah (Cell.av) r).length).bind fun k=>(Ah (Cell.av) r)[k]?) fun w=>au w fun c=>aa c (Q By T) (ak ((aj 6 (Ah (Cell.av) r).length).bind fun k=>(Ah (Cell.av) r)[k]?) fun w=>eqP w (Aa 1) fun c=>aa c (Q By T) (ak ((aj 1 (Ah (Cell.av) r).length).bind fun k=>(Ah (Cell.av) r)[k]?) fun w=>aq w fun items=>aa (items.length.ble cap) (ay (fun a a_1 a_2=>a_2 (some a) a_1) items T fun l T=>Q (Ad l) T) False)))))))))):=by kernel_rfl
theorem oz (Q:K):bE C D GG (aX 103) [.tab,.int 11] T Q=(C ("loose_props") [An,Aa 11,Aa 0] T fun v T=>cmpP CmpOp.Is v By fun c=>aa c (Q (Aq false) T) (aq v fun items=>bA (lp C D 103 0 39) items [some An,some (Aa 11),some v,none] 0 { cps:=#[] } T (rs C D 103 0 40 (fun x x_1 x_2 T=>Q By T) (fun x x_1 x_2 x_3=>False) Q) Q)):=by kernel_rfl
theorem rh (Q:K):bE C D GG (aX 120) [.tab,.int 11] T Q=(ak T[BE 11]? fun r=>ak ((aj 0 (Ah (Cell.av) r).length).bind fun k=>(Ah (Cell.av) r)[k]?) fun w=>eqP w (Aa 7) fun c=>aa c (ak ((aj 1 (Ah (Cell.av) r).length).bind fun k=>(Ah (Cell.av) r)[k]?) fun w=>aq w fun items=>aa (items.length.ble cap) (ay (fun a a_1 a_2=>C ("family") [An,a] a_1 fun a_3 T=>eqP a_3 (Aa 0) fun c=>aa c (a_2 (some (Aq c)) T) (C ("lets_primitive") [An,a] T fun u T=>a_2 (some u) T)) items T fun l T=>ak (aY l) fun l=>Q (Aq (l.all fun a=>id a)) T) False) (C ("lets_primitive") [An,Aa 11] T fun a a_1=>Q a a_1)):=by kernel_rfl
theorem re (t:Int) (Q:K):bE C D GG (aX 97) [.tab,.int t] T Q=(C ("parts_of") [An,Aa t] T fun it T=>aq it fun items=>bA (lp C D 97 0 39) items [some An,some (Aa t),some (Aa 0),none,none,none] 0 { cps:=#[] } T (rs C D 97 0 40 (fun x x_1 x_2 T=>Q By T) (fun x x_1 x_2 x_3=>False) Q) Q):=by kernel_rfl
theorem ml (t u:Int) (Q:K):bE C D GG (aX 121) [.tab,.int t,.int u,.bool true] T Q=(C ("family") [An,Aa t] T fun v T=>C ("family") [An,Aa u] T fun v_1 T=>eqP v (Aa 7) fun c=>aa c (eqP v_1 (Aa 7) fun c=>aa c (C ("inter") [An,Al [Aa t,Aa u]] T fun a T=>eqP a (Aa 2) fun x=>Q (Aq !x) T) (eqP v (Aa 7) fun c=>aa c (eqP v_1 (Aa 0) fun x=>aa (!x) (C ("is_loose") [An,Aa t] T fun v T=>au v fun b=>aa b (aa (v_1.k.beq 2) (Q (Aq ([1,2,3].contains v_1.i)) T) False) (Q v T)) (eqP v_1 (Aa 7) fun c=>aa c (eqP v (Aa 0) fun x=>aa (!x) (C ("is_loose") [An,Aa u] T fun v_2 T=>au v_2 fun b=>aa b (aa (v.k.beq 2) (Q (Aq ([1,2,3].contains v.i)) T) False) (Q v_2 T)) (C ("plain_meets") [An,Aa t,Aa u,Aq true] T fun a a_1=>Q a a_1)) (C ("plain_meets") [An,Aa t,Aa u,Aq true] T fun a a_1=>Q a a_1))) (eqP v_1 (Aa 7) fun c=>aa c (eqP v (Aa 0) fun x=>aa (!x) (C ("is_loose") [An,Aa u] T fun v_2 T=>au v_2 fun b=>aa b (aa (v.k.beq 2) (Q (Aq ([1,2,3].contains v.i)) T) False) (Q v_2 T)) (C ("plain_meets") [An,Aa t,Aa u,Aq true] T fun a a_1=>Q a a_1)) (C ("plain_meets") [An,Aa t,Aa u,Aq true] T fun a a_1=>Q a a_1)))) (eqP v (Aa 7) fun c=>aa c (eqP v_1 (Aa 0) fun x=>aa (!x) (C ("is_loose") [An,Aa t] T fun v T=>au v fun b=>aa b (aa (v_1.k.beq 2) (Q (Aq ([1,2,3].contains v_1.i)) T) False) (Q v T)) (eqP v_1 (Aa 7) fun c=>aa c (eqP v (Aa 0) fun x=>aa (!x) (C ("is_loose") [An,Aa u] T fun v_2 T=>au v_2 fun b=>aa b (aa (v.k.beq 2) (Q (Aq ([1,2,3].contains v.i)) T) False) (Q v_2 T)) (C ("plain_meets") [An,Aa t,Aa u,Aq true] T fun a a_1=>Q a a_1)) (C ("plain_meets") [An,Aa t,Aa u,Aq true] T fun a a_1=>Q a a_1))) (eqP v_1 (Aa 7) fun c=>aa c (eqP v (Aa 0) fun x=>aa (!x) (C ("is_loose") [An,Aa u] T fun v_2 T=>au v_2 fun b=>aa b (aa (v.k.beq 2) (Q (Aq ([1,2,3].contains v.i)) T) False) (Q v_2 T)) (C ("plain_meets") [An,Aa t,Aa u,Aq true] T fun a a_1=>Q a a_1)) (C ("plain_meets") [An,Aa t,Aa u,Aq true] T fun a a_1=>Q a a_1)))):=by kernel_rfl
theorem tf (t:Int) (l:List Int) (Q:K):bE C D GG (aX 110) [.tab,.int t,.list (l.map .int)] T Q=(C ("family") [An,Aa t] T fun v T=>aa ([6,7].contains t) (aa ((Ah (Aa) l).length.ble cap) (ay (fun a a_1 a_2=>C ("family") [An,a] a_1 fun a_3 T=>eqP a_3 v fun c=>aa c (C ("plain_value") [An,a] T fun a T=>eqP a (Al []) fun x=>a_2 (some (Aq !x)) T) (a_2 (some (Aq c)) T)) (Ah (Aa) l) T fun l_1 T=>ak (aY l_1) fun l_2=>aa (l_2.all fun a=>id a) (C ("union") [An,Ad (Ah (Aa) l)] T fun a a_1=>Q a a_1) (eqP v (Aa 0) fun c=>aa c (aa ((Ah (Aa) l).length.ble cap) (ay (fun a a_1 a_2=>C ("family") [An,a] a_1 fun a T=>aa (a.k.beq 2) (a_2 (some (Aq ([4,5,6].contains a.i))) T) False) (Ah (Aa) l) T fun l_3 T=>ak (aY l_3) fun l_4=>aa (l_4.all fun a=>id a) (C ("union") [An,Ad (Ah (Aa) l)] T fun v T=>C ("inter") [An,Al [Aa t,v]] T fun a a_1=>Q a a_1) (Q (Aa t) T)) False) (Q (Aa t) T))) False) (C ("kind_of") [An,Aa t] T fun a T=>eqP a (Aa 18) fun c=>aa c (aa ((Ah (Aa) l).length.ble cap) (ay (fun a a_1 a_2=>C ("family") [An,a] a_1 fun a_3 T=>eqP a_3 v fun c=>aa c (C ("plain_value") [An,a] T fun a T=>eqP a (Al []) fun x=>a_2 (some (Aq !x)) T) (a_2 (some (Aq c)) T)) (Ah (Aa) l) T fun l_1 T=>ak (aY l_1) fun l_2=>aa (l_2.all fun a=>id a) (C ("union") [An,Ad (Ah (Aa) l)] T fun a a_1=>Q a a_1) (eqP v (Aa 0) fun c=>aa c (aa ((Ah (Aa) l).length.ble cap) (ay (fun a a_1 a_2=>C ("family") [An,a] a_1 fun a T=>aa (a.k.beq 2) (a_2 (some (Aq ([4,5,6].contains a.i))) T) False) (Ah (Aa) l) T fun l_3 T=>ak (aY l_3) fun l_4=>aa (l_4.all fun a=>id a) (C ("union") [An,Ad (Ah (Aa) l)] T fun v T=>C ("inter") [An,Al [Aa t,v]] T fun a a_1=>Q a a_1) (Q (Aa t) T)) False) (Q (Aa t) T))) False) (eqP v (Aa 0) fun c=>aa c (aa ((Ah (Aa) l).length.ble cap) (ay (fun a a_1 a_2=>C ("family") [An,a] a_1 fun a T=>aa (a.k.beq 2) (a_2 (some (Aq ([4,5,6].contains a.i))) T) False) (Ah (Aa) l) T fun l_1 T=>ak (aY l_1) fun l_2=>aa (l_2.all fun a=>id a) (C ("union") [An,Ad (Ah (Aa) l)] T fun v T=>C ("inter") [An,Al [Aa t,v]] T fun a a_1=>Q a a_1) (Q (Aa t) T)) False) (Q (Aa t) T)))):=by kernel_rfl
theorem jF (t u:Int) (Q:K):bE C D GG (aX 111) [.tab,.int t,.int u,.bool true] T Q=(aa (decide (t=1)) (Q (Aa u) T) (C ("parts_of") [An,Aa t] T fun it T=>aq it fun items=>bA (lp C D 111 0 39) items [some An,some (Aa t),some (Aa u),some (Aq true),some (Ad []),none] 1 ("out") T (rs C D 111 0 40 (fun x x_1 x_2 T=>Q By T) (fun x x_1 x_2 x_3=>False) Q) Q)):=by kernel_rfl
theorem iE (u:Int) (Q:K):bE C D GG (aX 112) [.tab,.int u,.bool true] T Q=(C ("parts_of") [An,Aa u] T fun it T=>aq it fun items=>aa (items.length.ble cap) (ay (fun a a_1 a_2=>C ("family") [An,a] a_1 fun u T=>a_2 (some u) T) items T fun l T=>ak (aB l) fun l_1=>aa (l_1.contains 0) (Q (Aa 1) T) (ak (aB l) fun l_2=>aa (l_2.contains 6) (Q (Aa 1) T) (ak (aB l) fun l_3=>aa (l_3.contains 7) (aa (l.length.ble cap) (ay (fun a a_1 a_2=>eqP a (Aa 7) fun c=>a_2 (some (Aq c)) a_1) l T fun l T=>ak (aY l) fun l=>aa (l.all fun a=>id a) (C ("parts_of") [An,Aa u] T fun it T=>aq it fun items=>aa (items.length.ble cap) (ay (fun a a_1 a_2=>C ("lets_primitive") [An,a] a_1 fun u T=>a_2 (some u) T) items T fun l T=>ak (aY l) fun l=>aa (!l.any fun a=>id a) (Q (Aa 10) T) (Q (Aa 1) T)) False) (Q (Aa 1) T)) False) (Q (Aa u) T)))) False):=by kernel_rfl
theorem kY (nx br:Kn) (kr:K):rs C D 103 0 40 nx br kr [some An,some (Aa 11),some (.list []),none] 0 ⟨#[]⟩ T=(kr (Aq true) T):=by kernel_rfl
theorem mw (t:Int) (nx br:Kn) (kr:K):lp C D 97 0 39 (.int t) [some An,some (Aa t),some (Aa 0),none,none,none] 0 ⟨#[]⟩ T nx br kr=(aa (decide (0≤t)) (ak T[t.toNat]? fun r=>aa (decide (t=1)) (kr (Aq true) T) (aa (decide (t=0)) (kr (Aq true) T) (C ("family") [An,Aa t] T fun v T=>C ("is_nullish_family") [v] T fun v T=>au v fun c=>aa c (kr (Aq true) T) (ak ((aj 0 (Ah (Cell.av) r).length).bind fun k=>(Ah (Cell.av) r)[k]?) fun w=>eqP w (Aa 10) fun c=>aa c False (ak ((aj 0 (Ah (Cell.av) r).length).bind fun k=>(Ah (Cell.av) r)[k]?) fun w=>eqP w (Aa 15) fun c=>aa c (kr (Aq true) T) (ak ((aj 0 (Ah (Cell.av) r).length).bind fun k=>(Ah (Cell.av) r)[k]?) fun w=>eqP w (Aa 16) fun c=>aa c (kr (Aq true) T) (ak ((aj 0 (Ah (Cell.av) r).length).bind fun k=>(Ah (Cell.av) r)[k]?) fun w=>eqP w (Aa 19) fun c=>aa c (kr (Aq true) T) (ak ((aj 0 (Ah (Cell.av) r).length).bind fun k=>(Ah (Cell.av) r)[k]?) fun w=>eqP w (Aa 7) fun c=>aa c (C ("meet_may_be_nullish") [An,Aa t,Aa 0] T fun v T=>au v fun c=>aa c (kr (Aq true) T) (nx [some An,some (Aa t),some (Aa 0),some (Aa t),some (Al (Ah (Cell.av) r)),none] 0 { cps:=#[] } T)) (nx [some An,some (Aa t),some (Aa 0),some (Aa t),some (Al (Ah (Cell.av) r)),none] 0 { cps:=#[] } T))))))))) False):=by kernel_rfl
theorem mu (t:Int) (o1:Option AV) (o2:Option AV) (nx br:Kn) (kr:K):rs C D 97 0 40 nx br kr [some An,some (Aa t),some (Aa 0),some (.int t),o1,o2] 0 ⟨#[]⟩ T=(kr (Aq false) T):=by kernel_rfl
theorem gO (t u v:Int) (l:List AV) (o:Option AV) (nx br:Kn) (kr:K):lp C D 111 0 39 (.int v) [some An,some (Aa t),some (Aa u),some (Aq true),some (Ad l),o] 1 "out" T nx br kr=(C ("family") [An,Aa v] T fun a T=>aa (a.k.beq 2) (aa ([4,5,6].contains a.i) (C ("parts_of") [An,Aa u] T fun it T=>aq it fun items=>aa (items.length.ble cap) (ay (fun a a_1 a_2=>C ("plain_meets") [An,Aa v,a,Aq true] a_1 fun u T=>a_2 (some u) T) items T fun l_1 T=>ak (aY l_1) fun l_2=>aa (l_2.any fun a=>id a) (aa (l.length.blt cap) (nx [some An,some (Aa t),some (Aa u),some (Aq true),some (Ad (l++[Aa v])),some (Aa v)] 1 ("out") T) False) (nx [some An,some (Aa t),some (Aa u),some (Aq true),some (Ad l),some (Aa v)] 1 ("out") T)) False) (aa ([0,13].contains v) (aa (l.length.blt cap) (nx [some An,some (Aa t),some (Aa u),some (Aq true),some (Ad (l++[Aa v])),some (Aa v)] 1 ("out") T) False) (C ("may_be_nullish") [An,Aa v] T fun v_1 T=>au v_1 fun c=>aa c (C ("inter") [An,Al [Aa v,Aa u]] T fun v_2 T=>aa (l.length.blt cap) (nx [some An,some (Aa t),some (Aa u),some (Aq true),some (Ad (l++[v_2])),some (Aa v)] 1 ("out") T) False) (nx [some An,some (Aa t),some (Aa u),some (Aq true),some (Ad l),some (Aa v)] 1 ("out") T)))) False):=by kernel_rfl
theorem gN (t u:Int) (l:List AV) (o:Option AV) (nx br:Kn) (kr:K):rs C D 111 0 40 nx br kr [some An,some (Aa t),some (Aa u),some (Aq true),some (Ad l),o] 1 "out" T=(C ("union") [An,Ad l] T fun a a_1=>kr a a_1):=by kernel_rfl
end
noncomputable def vals:Atom→List Int
 | .undef=>[0]
 | .null=>[1]
 | .void=>[0]
 | .str=>[4,5,6,7]
 | .num=>[8,9,10,11,12]
 | .unk=>[0,1,2,3,4,5,6,7,8,9,10,11,12,13]
 | .empty=>[2,3,4,5,6,7,8,9,10,11,12,13]
 | .bool v _=>[2+bI v]
 | .sl k _=>[4+((k:Nat):Int)]
 | .nl k _=>[8+((k:Nat):Int)]
 | .ei k _=>[8+((k:Nat):Int)]
 | .es _=>[4]
noncomputable def big (a:Atom):Bool:=decide (1<(vals a).length)
noncomputable def bR (l:List Atom) (v:Int):Prop:=∃a∈l,v∈vals a
theorem ci (v:Int):¬bR [] v:=fun zq1=>by obtain ⟨_,h,_⟩:=zq1;exact nomatch h
theorem cf (l m:List Atom) (v:Int):bR (l++m) v↔bR l v∨bR m v:=by
 constructor
 ·rintro ⟨a,ha,hv⟩;rcases Ao.mp ha with h | h
  ·exact .inl ⟨a,h,hv⟩
  ·exact .inr ⟨a,h,hv⟩
 ·rintro (⟨a,ha,hv⟩ | ⟨a,ha,hv⟩)
  ·exact ⟨a,Ap _ ha,hv⟩
  ·exact ⟨a,Ak _ ha,hv⟩
theorem ew (a:Atom) (v:Int):bR [a] v↔v∈vals a:=⟨(fun zq1=>by obtain ⟨b,hb,hv⟩:=zq1;exact Ae.mp hb▸hv),fun h=>⟨a,.head _,h⟩⟩
theorem eh (a b:Atom) (h:gu a=some b):gu b=none∧bT b=bT a∧vals b=vals a∧big b=big a:=by
 have:=all2 (p:=fun a b=>!decide (gu a=some b) || decide (gu b=none∧bT b=bT a∧vals b=vals a∧big b=big a)) (by decide +kernel) a b;rw [decide_eq_true h] at this;simpa using this
theorem cC (a b:Atom) (h:bT a=some b):gu b=none∧bT b=none∧(∀v∈vals a,v∈vals b)∧big b=true:=by
 have:=all2 (p:=fun a b=>!decide (bT a=some b) || decide (gu b=none∧bT b=none∧(∀v∈vals a,v∈vals b)∧big b=true)) (by decide +kernel) a b;rw [decide_eq_true h] at this;simpa using this
theorem eW (a:Atom):∀v∈vals a,v∈vals .unk:=of_decide_eq_true (gs (p:=fun a=>decide (∀v∈vals a,v∈vals .unk)) (by decide +kernel) a)
theorem qn {S:List Atom}{o:Option Atom} (h:inO S o=true):∃b,o=some b∧b∈S:=by
 cases o with
 | none=>exact fT h
 | some b=>exact ⟨b,rfl,Au.mp h⟩
theorem mem_J {L:List Atom}{a:Atom} (h:a∈L):a∈J L:=by
 unfold J;split
 ·exact Ap _ h
 ·exact h
theorem norm_G {L l:List Atom} (hu:.unk∉L) (hl:∀a,a∈l↔aT L a) (G:Atom→Prop) (hw:∀a b,bT a=some b→G a→G b) (ht:∀a b,gu a=some b→(G a↔G b)) :
  (∃a∈l,G a)↔∃a∈L,G a:=by
 have inl:∀a,a∈J L→cN (J L) a=true→a∈l:=fun a h1 h2=>(hl a).mpr (.inr ⟨hu,h1,h2⟩);constructor
 ·rintro ⟨a,ha,hG⟩;rcases (hl a).mp ha with ⟨h,_⟩ | ⟨_,h,_⟩
  ·exact absurd h hu
  ·unfold J at h
   split at h
   ·rename_i hj;rcases Ao.mp h with h | h
    ·exact ⟨a,h,hG⟩
    ·unfold cJ at hj;simp only [Ay,Bg,Au] at hj;rcases Ai.mp h with rfl | h
     ·rcases hj.1 with q | q
      ·exact ⟨_,q,hG⟩
      ·exact ⟨_,q,(ht _ _ rfl).mpr hG⟩
     ·replace hG:=(Ae.mp h ..)▸hG;rcases hj.2 with q | q
      ·exact ⟨_,q,hG⟩
      ·exact ⟨_,q,(ht _ _ rfl).mpr hG⟩
   ·exact ⟨a,h,hG⟩
 ·rintro ⟨a,ha,hG⟩;have hJ:=mem_J ha
  by_cases h1:inO (J L) (bT a)=true
  ·refine eE1 (qn h1) fun w zt1=>aA2 zt1 fun e hw'=>?_;refine aA4 (cC a w e) fun f1 f2 _ _=>?_;exact ⟨w,inl w hw' (by unfold cN;refine rwC (f1 ..) ?_;refine rwC (f2 ..) ?_;rfl),hw a w e hG⟩
  ·by_cases h2:inO (J L) (gu a)=true
   ·refine eE1 (qn h2) fun b zt2=>aA2 zt2 fun e hb=>?_;refine aA4 (eh a b e) fun f1 f2 _ _=>?_;refine ⟨b,inl b hb ?_,(ht a b e).mp hG⟩;have h3:inO (J L) (bT a)=false:=by simpa using h1
    unfold cN;refine rwC (f1 ..) ?_;refine rwC (f2 ..) ?_;refine rwC (h3 ..) ?_;rfl
   ·exact ⟨a,inl a hJ (by unfold cN;simp [h1,h2]),hG⟩
theorem bj {L l:List Atom} (hl:∀a,a∈l↔aT L a) (v:Int):bR l v↔bR L v:=by
 by_cases hu:.unk∈L
 ·have h1:∀a,a∈l↔a=.unk:=fun a=>by
   rw [hl];unfold aT;simp [hu]
  constructor
  ·rintro ⟨a,ha,hv⟩;rw [(h1 a).mp ha] at hv;exact ⟨_,hu,hv⟩
  ·rintro ⟨a,_,hv⟩;exact ⟨.unk,(h1 _).mpr rfl,eW a v hv⟩
 ·exact norm_G hu hl (fun a=>v∈vals a) (fun a b e h=>(cC a b e).2.2.1 v h) fun a b e=>by rw [(eh a b e).2.2.1]
noncomputable def ex (l:List Atom):List Atom:=if l=[.unk] then [.undef,.null,.empty] else l
noncomputable def WV (l:List Atom) (s:List Int) (v:Int):Prop:=∃a∈ex l,v∈vals a∧(big a=true∨v∉s)
noncomputable def pvK (K:List Atom):Row:=match K with
 | [a]=>pv a
 | _=>[]
noncomputable def dl (K:List Atom):List Int:=match K with
 | [a]=>if pv a=[] then [] else vals a
 | _=>[]
theorem pvK_ok (K:List Atom):iC (pvK K)=true:=by
 unfold pvK
 split
 ·exact mz _
 ·rfl
noncomputable def keeps (b a:Atom):Bool:=!decide (pv a=pv b) && !(decide (a=.void) && decide (b=.undef))
theorem uu (a b:Atom) (hb:pv b≠[]):keeps b a=true↔(big a=true∨∀v∈vals a,v∉vals b):=by
 have:=all2 (p:=fun a b=>decide (pv b=[]) || decide (keeps b a=true↔(big a=true∨∀v∈vals a,v∉vals b))) (by decide +kernel) a b;rcases (Bg _ _).mp this with q | q
 ·exact absurd (of_decide_eq_true q) hb
 ·exact of_decide_eq_true q
theorem md (a:Atom) (h:big a=false):∀v∈vals a,∀w∈vals a,v=w:=by
 have:=gs (p:=fun a=>big a || decide (∀v∈vals a,∀w∈vals a,v=w)) (by decide +kernel) a;rw [h] at this;simpa using this
theorem ut {a b:Atom} (hb:pv b≠[]) {v:Int} (hv:v∈vals a):keeps b a=true↔(big a=true∨v∉vals b):=by
 rw [uu a b hb];constructor
 ·rintro (h | h)
  ·exact .inl h
  ·exact .inr (h v hv)
 ·rintro (h | h)
  ·exact .inl h
  ·cases hbig:big a with
   | true=>exact .inl rfl
   | false=>exact .inr fun w hw=>by refine rwC (md a hbig w hw v hv ..) ?_;exact h
theorem ex_of {l:List Atom} (h:.unk∉l):ex l=l:=if_neg (by rintro rfl;exact h (.head _))
theorem pz {L l:List Atom} (hu:.unk∉L) (hl:∀a,a∈l↔aT L a) (s:List Int) (v:Int):WV l s v↔∃a∈L,v∈vals a∧(big a=true∨v∉s):=by
 have hul:.unk∉l:=fun h=>by
  rcases (hl _).mp h with ⟨q,_⟩ | ⟨_,q,_⟩
  ·exact hu q
  ·unfold J at q
   split at q
   ·rcases Ao.mp q with q | q
    ·exact hu q
    ·simp at q
   ·exact hu q
 unfold WV;refine rwC (ex_of hul ..) ?_;refine norm_G hu hl (fun a=>v∈vals a∧(big a=true∨v∉s)) (fun a b e h=>⟨(cC a b e).2.2.1 v h.1,.inl (cC a b e).2.2.2⟩) fun a b e=>?_;rw [(eh a b e).2.2.1,(eh a b e).2.2.2]
theorem WV_step {l l':List Atom}{b:Atom} (hb:pv b≠[]) (hu:.unk∉l) (hl:∀a,a∈l'↔aT (l.filter (keeps b)) a) (s:List Int) (v:Int):WV l' s v↔WV l (s++vals b) v:=by
 rw [pz (fun h=>hu (Az.mp h).1) hl];unfold WV;refine rwC (ex_of hu ..) ?_;constructor
 ·rintro ⟨a,ha,hv,h⟩;obtain ⟨h1,h2⟩:=Az.mp ha;refine ⟨a,h1,hv,?_⟩;rcases h with h | h
  ·exact .inl h
  ·rcases (ut hb hv).mp h2 with q | q
   ·exact .inl q
   ·exact .inr fun z=>(Ao.mp z).elim h q
 ·rintro ⟨a,ha,hv,h⟩;refine ⟨a,Az.mpr ⟨ha,(ut hb hv).mpr ?_⟩,hv,?_⟩
  ·exact h.imp id fun q z=>q (Ak _ z)
  ·exact h.imp id fun q z=>q (Ap _ z)
noncomputable def rp (b:Atom):List Atom:=if nf (fam b) then [.empty,if b=.undef then .null else .undef] else [.unk]
theorem gZ {l:List Atom}{b:Atom} (hn:l.Nodup) (h:∀a,a∈l↔a=b):l=[b]:=by
 cases l with
 | nil=>exact absurd ((h b).mpr rfl) nofun
 | cons x r =>
  have hx:=(h x).mp (.head _);subst hx;cases r with
  | nil=>rfl
  | cons y r =>
   have hy:=(h y).mp (.tail _ (.head _));subst hy;exact absurd (.head _) (Bb.mp hn).1
theorem WV_unk {l':List Atom}{b:Atom} (hn':l'.Nodup) (hb:pv b≠[]) (hl:∀a,a∈l'↔aT (rp b) a) (s:List Int) (v:Int):WV l' s v↔WV [.unk] (s++vals b) v:=by
 have e1:WV [.unk] (s++vals b) v↔v∈vals .empty∨(v=0∧v∉s∧v∉vals b)∨(v=1∧v∉s∧v∉vals b):=by
  have:ex [.unk]=[.undef,.null,.empty]:=rfl;unfold WV;refine rwC (this ..) ?_;simp only [Ai,BV,or_false,exists_eq_or_imp,exists_eq_left,Ao,not_or];have b1:big .undef=false:=rfl;have b2:big .null=false:=rfl;have b3:big .empty=true:=rfl;have v1:v∈vals .undef↔v=0:=by simp [vals]
  have v2:v∈vals .null↔v=1:=by simp [vals]
  rw [b1,b2,b3,v1,v2];simp only [Bn,false_or,true_or,and_true];constructor
  ·rintro (h | h | h)
   ·exact .inr (.inl h)
   ·exact .inr (.inr h)
   ·exact .inl h
  ·rintro (h | h | h)
   ·exact .inr (.inr h)
   ·exact .inl h
   ·exact .inr (.inl h)
 rw [e1];unfold rp at hl
 by_cases hn:nf (fam b)=true
 ·replace hl:=(if_pos hn ..)▸hl;have hu:Atom.unk∉([.empty,if b=.undef then .null else .undef]:List Atom):=by
   intro h;rcases Ai.mp h with h | h
   ·cases h
   ·have:=Ae.mp h
    split at this <;> cases this
  rw [pz hu hl];have hb2:b=.undef∨b=.null:=by
   have:=gs (p:=fun b=>decide (pv b=[]) || !nf (fam b) || decide (b=.undef∨b=.null)) (by decide +kernel) b;simpa [hb,hn] using this
  simp only [Ai,BV,or_false,exists_eq_or_imp,exists_eq_left];have b3:big .empty=true:=rfl;refine rwC (b3 ..) ?_;rcases hb2 with rfl | rfl
  ·have b2:big .null=false:=rfl;have v1:v∈vals .undef↔v=0:=by simp [vals]
   have v2:v∈vals .null↔v=1:=by simp [vals]
   rw [if_pos rfl,b2,v1,v2];simp only [true_or,and_true,Bn,false_or];constructor
   ·rintro (h | ⟨rfl,h⟩)
    ·exact .inl h
    ·exact .inr (.inr ⟨rfl,h,by decide⟩)
   ·rintro (h | ⟨h1,_,h3⟩ | ⟨h1,h2,_⟩)
    ·exact .inl h
    ·exact absurd h1 h3
    ·exact .inr ⟨h1,h2⟩
  ·have b2:big .undef=false:=rfl;have v1:v∈vals .undef↔v=0:=by simp [vals]
   have v2:v∈vals .null↔v=1:=by simp [vals]
   rw [if_neg (by decide),b2,v1,v2];simp only [true_or,and_true,Bn,false_or];constructor
   ·rintro (h | ⟨rfl,h⟩)
    ·exact .inl h
    ·exact .inr (.inl ⟨rfl,h,by decide⟩)
   ·rintro (h | ⟨h1,h2,_⟩ | ⟨h1,_,h3⟩)
    ·exact .inl h
    ·exact .inr ⟨h1,h2⟩
    ·exact absurd h1 h3
 ·replace hl:=(if_neg hn ..)▸hl;have h1:l'=[.unk]:=gZ hn' fun a=>by rw [hl];unfold aT;simp
  have hz:¬(0:Int)∈vals b∧¬(1:Int)∈vals b:=by
   have:=gs (p:=fun b=>decide (pv b=[]) || (nf (fam b) || decide (¬(0:Int)∈vals b∧¬(1:Int)∈vals b))) (by decide +kernel) b;rcases (Bg _ _).mp this with q | q
   ·exact absurd (of_decide_eq_true q) hb
   ·rcases (Bg _ _).mp q with q | q
    ·exact absurd q hn
    ·exact of_decide_eq_true q
  rw [h1];have e2:WV [.unk] s v↔v∈vals .empty∨(v=0∧v∉s)∨(v=1∧v∉s):=by
   have:ex [.unk]=[.undef,.null,.empty]:=rfl;unfold WV;refine rwC (this ..) ?_;simp only [Ai,BV,or_false,exists_eq_or_imp,exists_eq_left];have b1:big .undef=false:=rfl;have b2:big .null=false:=rfl;have b3:big .empty=true:=rfl;have v1:v∈vals .undef↔v=0:=by simp [vals]
   have v2:v∈vals .null↔v=1:=by simp [vals]
   rw [b1,b2,b3,v1,v2];simp only [Bn,false_or,true_or,and_true];constructor
   ·rintro (h | h | h)
    ·exact .inr (.inl h)
    ·exact .inr (.inr h)
    ·exact .inl h
   ·rintro (h | h | h)
    ·exact .inr (.inr h)
    ·exact .inl h
    ·exact .inr (.inl h)
  rw [e2];constructor
  ·rintro (h | ⟨rfl,h⟩ | ⟨rfl,h⟩)
   ·exact .inl h
   ·exact .inr (.inl ⟨rfl,h,hz.1⟩)
   ·exact .inr (.inr ⟨rfl,h,hz.2⟩)
  ·rintro (h | ⟨h1,h2,_⟩ | ⟨h1,h2,_⟩)
   ·exact .inl h
   ·exact .inr (.inl ⟨h1,h2⟩)
   ·exact .inr (.inr ⟨h1,h2⟩)
theorem gp (a:Atom):a=.unk∨a=.empty∨cR a=true:=by
 have:=gs (p:=fun a=>decide (a=.unk∨a=.empty∨cR a=true)) (by decide +kernel) a;exact of_decide_eq_true this
theorem dP (a b:Atom) (ha:cR a=true) (hb:cR b=true):(bY a b=true→(big a=false→∀v∈vals a,v∈vals b)∧(big a=true→fam b=fam a∧(∀v∈vals b,v∈vals a)∧(pv b=[]→vals b=vals a)))∧(bY a b=false→∀v∈vals a,v∉vals b):=by
 have:=all2 (p:=fun a b=>!cR a || (!cR b || decide ((bY a b=true→(big a=false→∀v∈vals a,v∈vals b)∧(big a=true→fam b=fam a∧(∀v∈vals b,v∈vals a)∧(pv b=[]→vals b=vals a)))∧(bY a b=false→∀v∈vals a,v∉vals b)))) (by decide +kernel) a b;rw [ha,hb] at this;exact of_decide_eq_true this
theorem p_big (a:Atom) (ha:cR a=true):big a=true↔a=.str∨a=.num:=by
 have:=gs (p:=fun a=>!cR a || decide (big a=true↔a=.str∨a=.num)) (by decide +kernel) a;rw [ha] at this;exact of_decide_eq_true this
theorem tJ (b:Atom) (hb:cR b=true):([1,2,3].contains (fam b)=true→∀v∈vals b,v∈vals .empty)∧([1,2,3].contains (fam b)=false→∀v∈vals b,v∉vals .empty):=by
 have:=gs (p:=fun b=>!cR b || decide (([1,2,3].contains (fam b)=true→∀v∈vals b,v∈vals .empty)∧([1,2,3].contains (fam b)=false→∀v∈vals b,v∉vals .empty))) (by decide +kernel) b;rw [hb] at this;exact of_decide_eq_true this
theorem p_null (a:Atom):nf (fam a)=true→(∀v∈vals a,v=0∨v=1):=by
 have:=gs (p:=fun a=>decide (nf (fam a)=true→(∀v∈vals a,v=0∨v=1))) (by decide +kernel) a;exact of_decide_eq_true this
theorem tI (a:Atom) (hu:a≠.unk):nf (fam a)=false→(∀v∈vals a,v≠0∧v≠1):=by
 have:=gs (p:=fun a=>decide (a=.unk) || decide (nf (fam a)=false→(∀v∈vals a,v≠0∧v≠1))) (by decide +kernel) a;rcases (Bg _ _).mp this with q | q
 ·exact absurd (of_decide_eq_true q) hu
 ·exact of_decide_eq_true q
theorem pW (a:Atom) (ha:cR a=true):fam a≠0∧fam a≠7∧a≠.unk∧a≠.empty:=by
 have:=gs (p:=fun a=>!cR a || decide (fam a≠0∧fam a≠7∧a≠.unk∧a≠.empty)) (by decide +kernel) a;rw [ha] at this;exact of_decide_eq_true this
noncomputable def rY (a:Atom) (K:List Atom) (v:Int):Prop:=v∈vals a∧bR K v
theorem qq {a:Atom}{K:List Atom} (ha:cR a=true) (hK:∀b∈K,cR b=true) (h:K.filter (bY a)=[]) (v:Int):¬rY a K v:=by
 rintro ⟨hv,b,hb,hw⟩;have hm:bY a b=false:=by
  cases q:bY a b with
  | false=>rfl
  | true=>have:=Az.mpr ⟨hb,q⟩;replace this:=(h ..)▸this;cases this
 exact (dP a b ha (hK b hb)).2 hm v hv hw
theorem uF {a:Atom}{K:List Atom} (ha:cR a=true) (hK:∀b∈K,cR b=true) (hs:big a=false) (h:K.filter (bY a)≠[]) (v:Int):rY a K v↔v∈vals a:=by
 refine ⟨fun q=>q.1,fun hv=>⟨hv,?_⟩⟩;refine eE1 (List.exists_mem_of_ne_nil _ h) fun b hb=>?_;refine aA2 (Az.mp hb) fun h1 h2=>?_;exact ⟨b,h1,((dP a b ha (hK b h1)).1 h2).1 hs v hv⟩
theorem hit_big {a:Atom}{K:List Atom} (ha:cR a=true) (hK:∀b∈K,cR b=true) (hs:big a=true) (v:Int):rY a K v↔bR (K.filter (bY a)) v:=by
 constructor
 ·rintro ⟨hv,b,hb,hw⟩;cases q:bY a b with
  | false=>exact absurd hw ((dP a b ha (hK b hb)).2 q v hv)
  | true=>exact ⟨b,Az.mpr ⟨hb,q⟩,hw⟩
 ·rintro ⟨b,hb,hw⟩;obtain ⟨h1,h2⟩:=Az.mp hb;exact ⟨(((dP a b ha (hK b h1)).1 h2).2 hs).2.1 v hw,b,h1,hw⟩
theorem uD {a:Atom}{K:List Atom} (ha:cR a=true) (hK:∀b∈K,cR b=true) (hs:big a=true) {b:Atom} (hb:b∈K.filter (bY a)) (hp:pv b=[]) (v:Int):rY a K v↔v∈vals a:=by
 refine aA2 (Az.mp hb) fun h1 h2=>?_;exact ⟨fun q=>q.1,fun hv=>⟨hv,b,h1,by rw [(((dP a b ha (hK b h1)).1 h2).2 hs).2.2 hp];exact hv⟩⟩
theorem nt (a:Atom):decide (kind a=10)=false∧decide (kind a=15)=false∧decide (kind a=16)=false∧decide (kind a=19)=false∧decide (kind a=18)=false :=
 of_decide_eq_true (gs (p:=fun a=>decide (decide (kind a=10)=false∧decide (kind a=15)=false∧decide (kind a=16)=false∧decide (kind a=19)=false∧decide (kind a=18)=false)) (by decide +kernel) a)
theorem fam7 (a:Atom):fam a=7↔a=.empty :=
 of_decide_eq_true (gs (p:=fun a=>decide (fam a=7↔a=.empty)) (by decide +kernel) a)
theorem fam6 (a:Atom):fam a=6↔a=.void :=
 of_decide_eq_true (gs (p:=fun a=>decide (fam a=6↔a=.void)) (by decide +kernel) a)
theorem fam0 (a:Atom):fam a=0↔a=.unk :=
 of_decide_eq_true (gs (p:=fun a=>decide (fam a=0↔a=.unk)) (by decide +kernel) a)
noncomputable def iG (a b:Atom):Bool:=cond (decide (a=.empty)) ([1,2,3].contains (fam b)) (bY a b)
section
variable {i j:Int}{B:Bool→Prop}
theorem ne_t {P R:Prop} (h:decide (i=j)=false) (p:P):eqP (.int i) (.int j) fun x=>aa (!x) P R:=ce (by show (!decide (i=j))=true;refine rwC (h ..) ?_;rfl) p
theorem sz {P R:Prop}{b:Bool} (h:b=false) (p:R):au (.bool b) fun c=>aa c P R:=aR h p
theorem kd_f {a:Atom}{P R:Prop} (h:decide (kind a=j)=false) (p:R):ak ((aj 0 (Ah Cell.av (aS a)).length).bind fun k=>(Ah Cell.av (aS a))[k]?) fun w=>eqP w (.int j) fun c=>aa c P R :=
 eP (db a) (aR h p)
theorem fo {l:List Int} (h:∀x∈l,x≠i):l.contains i=false:=by
 rw [← BW,Au];exact fun m=>h i m rfl
end
section
variable {W:Wd}{n k:Nat}{T:Tbl}{Q:K}{t u:Int}{a b:Atom}{l K:List Atom} (wf:WF W)
include wf
theorem lu (g:Good T) (h:Q (.list []) T):Calls W (n+3) "loose_props" [.tab,.int 11,.int 0] T Q:=by
 have E:=dc g (a:=.empty) rfl;exact ah wf rfl ((kX ..).mpr (ax E.row.2 (aH wf E h)))
theorem gU (g:Good T) (h:Q (.bool true) T):Calls W (n+4) "lets_primitive" [.tab,.int 11] T Q :=
 ah wf rfl ((oz ..).mpr (lu wf g (is_no (show rs _ _ _ _ _ _ _ _ _ _ _ _ from (kY ..).mpr h))))
theorem rC (g:Good T) (h:Q (.bool true) T):Calls W (n+5) "is_loose" [.tab,.int 11] T Q :=
 ah wf rfl ((rh ..).mpr (ax (dc g (a:=.empty) rfl).row.2 (show Calls W _ "lets_primitive" _ _ _ from gU wf g h)))
theorem gS (g:Good T) (A:At T t a) (hu:a≠.unk) (hn:nf (fam a)=false) (h:Q (.bool false) T):Calls W (n+3) "may_be_nullish" [.tab,.int t] T Q:=by
 have n1:¬t=1:=fun e=>hu ((A.isFix g (b:=.unk) rfl).mp e);refine aA5 (nt a) fun k1 k2 k3 k4 k5=>?_;refine ah wf rfl ((re ..).mpr (dw wf g A (pb ?_)));refine (mw ..).mpr (cY A.row (aR (decide_eq_false n1) (aR (decide_eq_false (A.no g).1) (aH wf A (iN wf (sz hn ?_))))));exact kd_f k1 (kd_f k2 (kd_f k3 (kd_f k4 (kd_f (lC a).2.1 ((mu ..).mpr h)))))
theorem mO (g:Good T) (A:At T t a) (B:At T u b) (ha:a≠.unk) (hb:cR b=true) (h:Q (.bool (iG a b)) T):Calls W (n+6) "part_meets" [.tab,.int t,.int u,.bool true] T Q:=by
 refine aA4 (pW b hb) fun p1 p2 p3 p4=>?_;have p2:=decide_eq_false p2;refine ah wf rfl ((ml ..).mpr (aH wf A (aH wf B ?_)))
 by_cases he:a=.empty
 ·subst he;have e:=A.fix 11 rfl;subst e;refine eq_t rfl (vf p2 (eq_t rfl (ne_t (decide_eq_false p1) ?_)));exact rC wf g h
 ·have n1:=decide_eq_false fun q=>he ((fam7 a).mp q);unfold iG at h;replace h:=(decide_eq_false he ..)▸h;exact vf n1 (vf n1 (vf p2 (du wf g A B h)))
theorem sN {H:List Atom} (g:Gd (k+1) T) (A:At T t a) (ha:a≠.unk) (hH:∀b∈H,aS b∈T) (hn:H.Nodup)
  (h1:(a=.str∨a=.num)→(∀b∈H,fam b=fam a∧pv b≠[])→∀t' T' l',Gd k T'→T <+: T'→Ty T' t' l'→(∀v,bR l' v↔bR H v)→Q (.int t') T')
  (h2:¬((a=.str∨a=.num)∧(∀b∈H,fam b=fam a∧pv b≠[]))→Q (.int t) T) :
  Calls W (n+6) "sharpen" [.tab,.int t,.list ((H.map (idA T)).map .int)] T Q:=by
 have g1:=g.1;have n1:=decide_eq_false fun q=>ha ((fam0 a).mp q);refine ah wf rfl ((tf ..).mpr (aH wf A (bK (fun q=>?_) fun q=>?_)))
 ·have hs:a=.str∨a=.num:=by
   have:t=6∨t=7:=by simpa using q
   exact this.imp (A.isFix g1 (b:=.str) rfl).mp (A.isFix g1 (b:=.num) rfl).mp
  refine bf (by refine rwC (Aj ..) ?_;refine rwC (Aj ..) ?_;exact Bp (cq hn) (by decide)) ?_;refine rwC (aG ..) ?_;refine cy (g:=fun b=>.bool (decide (fam b=fam a) && !decide (pv b=[]))) (fun b hb P q=>aH wf (At.idA g1 (hH b hb)) (bK (b:=decide (fam b=fam a)) (fun e=>?_) fun e=>?_)) (allB (F:=fun b=>aa b _ _) (bK (fun q2=>?_) fun q2=>?_))
  ·replace q:=(e ..)▸q;exact bG wf g1 (At.idA g1 (hH b hb)) (gh (q:=[]) (mz b) rfl q)
  ·replace q:=(e ..)▸q;show P (some (.bool (decide (fam b=fam a)))) T;refine rwC (e ..) ?_;exact q
  ·have q3:∀b∈H,fam b=fam a∧pv b≠[]:=fun b hb=>by simpa using AA.mp q2 b hb
   refine rwD (aG ..) ?_;exact bF wf g (Tys.atoms g1 hH) (.inr rfl) fun t2 T2 l2 g2 p2 y2 m2=>h1 hs q3 t2 T2 l2 g2 p2 y2 (bj m2)
  ·refine vf n1 (h2 fun q3=>?_);have:(H.all fun b=>decide (fam b=fam a) && !decide (pv b=[]))=true:=AA.mpr fun b hb=>by simpa using q3.2 b hb
   replace this:=(q2 ..)▸this;exact fT this
 ·refine ur wf A (vf (nt a).2.2.2.2 (vf n1 (h2 fun q3=>?_)));have hs:t=6∨t=7:=q3.1.imp (A.isFix g1 (b:=.str) rfl).mpr (A.isFix g1 (b:=.num) rfl).mpr;have:([6,7]:List Int).contains t=true:=by simpa using hs
  replace this:=(q ..)▸this;exact fT this
theorem me (g:Gd (k+1) T) (A:At T t a) (ha:cR a=true) (hK:∀b∈K,cR b=true∧aS b∈T) (hn:K.Nodup) (hne:K.filter (bY a)≠[])
  (h:∀t' T' l',Gd k T'→T <+: T'→Ty T' t' l'→(∀v,bR l' v↔rY a K v)→Q (.int t') T') :
  Calls W (n+6) "sharpen" [.tab,.int t,.list (((K.filter (bY a)).map (idA T)).map .int)] T Q:=by
 have hK1:∀b∈K,cR b=true:=fun b hb=>(hK b hb).1;refine sN wf g A (pW a ha).2.2.1 (fun b hb=>(hK b (Az.mp hb).1).2) (hn.filter _) (fun h1 h2 t' T' l' g' p' y' hv=>h t' T' l' g' p' y' fun v=>?_) fun h1=>?_
 ·rw [hv,hit_big ha hK1 ((p_big a ha).mpr h1)]
 ·refine h t T [a] (g.mono (Cf k)) (AO _) (Ty.one g.1 A) fun v=>?_;rw [ew];cases hb:big a with
  | false=>exact (uF ha hK1 hb hne v).symm
  | true =>
   have hs:=(p_big a ha).mp hb;have:∃b∈K.filter (bY a),pv b=[]:=by
    apply Classical.byContradiction;intro hno;refine h1 ⟨hs,fun b hb2=>⟨?_,fun e=>hno ⟨b,hb2,e⟩⟩⟩;refine aA2 (Az.mp hb2) fun m1 m2=>?_;exact (((dP a b ha (hK1 b m1)).1 m2).2 hb).1
   refine eE1 (this) fun b zt1=>aA2 zt1 fun hb2 hp=>?_;exact (uD ha hK1 hb hb2 hp v).symm
omit wf in
noncomputable def NP (K:List Atom) (a:Atom):Bool:=nf (fam a) && K.any (bY a)
omit wf in
theorem iO (a:Atom):nf (fam a)=true→cR a=true∧big a=false:=by
 have:=gs (p:=fun a=>decide (nf (fam a)=true→cR a=true∧big a=false)) (by decide +kernel) a;exact of_decide_eq_true this
omit wf in
theorem NP_vals {l K:List Atom} (hu:.unk∉l) (hK:∀b∈K,nf (fam b)=true) (v:Int):bR (l.filter (NP K)) v↔bR l v∧bR K v:=by
 constructor
 ·rintro ⟨a,ha,hv⟩;refine aA2 (Az.mp ha) fun h1 h2=>?_;unfold NP at h2;rw [Ay,BO] at h2;refine eE1 (h2.2) fun b zt2=>aA2 zt2 fun hb hm=>?_;exact ⟨⟨a,h1,hv⟩,b,hb,((dP a b (iO a h2.1).1 (iO b (hK b hb)).1).1 hm).1 (iO a h2.1).2 v hv⟩
 ·rintro ⟨⟨a,ha,hv⟩,b,hb,hw⟩;have hna:nf (fam a)=true:=by
   cases q:nf (fam a) with
   | true=>rfl
   | false =>
    have h1:=tI a (fun e=>hu (e▸ha)) q v hv;rcases p_null b (hK b hb) v hw with h2 | h2
    ·exact absurd h2 h1.1
    ·exact absurd h2 h1.2
  refine ⟨a,Az.mpr ⟨ha,?_⟩,hv⟩;unfold NP;rw [Ay,BO];refine ⟨hna,b,hb,?_⟩;cases q:bY a b with
  | true=>rfl
  | false=>exact absurd hw ((dP a b (iO a hna).1 (iO b (hK b hb)).1).2 q v hv)
omit wf in
theorem out_eq {P:Atom→Bool}{f:Atom→AV}{a:List Atom}{x:Atom}:((a++[x]).filter P).map f=cond (P x) ((a.filter P).map f++[f x]) ((a.filter P).map f):=by
 refine rwC (List.filter_append ..) ?_;cases e:P x with
 | true=>refine rwC (List.filter_cons_of_pos e ..) ?_;refine rwC (AI ..) ?_;rfl
 | false=>refine rwC (List.filter_cons_of_neg (by rw [e];decide) ..) ?_;refine rwC (List.filter_nil ..) ?_;refine rwC (AG ..) ?_;rfl
theorem jO (g:Gd (k+1) T) (y:Ty T t l) (z:Ty T u K) (hu:.unk∉l) (hK:∀b∈K,nf (fam b)=true)
  (h:∀t' T' l',Gd k T'→T <+: T'→Ty T' t' l'→(∀v,bR l' v↔bR l v∧bR K v)→Q (.int t') T') :
  Calls W (n+6) "nullish_side" [.tab,.int t,.int u,.bool true] T Q:=by
 have g1:=g.1;have n1:¬t=(1:Int):=fun e=>by
  have:=(y.fix_iff g1 (b:=.unk) (i:=1) rfl (by decide)).mp e;exact hu (by refine rwC (this ..) ?_;exact .head _)
 refine ah wf rfl ((jF ..).mpr (aR (decide_eq_false n1) (aO wf g1 y ?_)));refine pd (a:=[]) (fun b out _=>out=(b.filter (NP K)).map fun a=>.int (idA T a)) (fun out o=>[some .tab,some (.int t),some (.int u),some (.bool true),some (.list out),o]) rfl (fun b x c out o nx e3 e4 hn=>?_) fun out o e4=>?_
 ·have xl:x∈l:=by refine rwC (e3 ..) ?_;exact Ak _ (.head _)
  have X:=At.idA g1 (y.mem x xl);have cp:out.length<cap:=by
   have h1:(b.filter (NP K)).length≤b.length:=List.length_filter_le _ _;have h2:=y.cap;replace h2:=(e3 ..)▸h2;replace h2:=(Ar ..)▸h2;replace h2:=(AK ..)▸h2;rw [e4,Aj];lia
  have hn:∀o',nx [some .tab,some (.int t),some (.int u),some (.bool true),some (.list (cond (NP K x) (out++[.int (idA T x)]) out)),o'] 1 "out" T:=fun o'=>hn _ o' (by rw [e4,out_eq]);clear e3 e4 h;refine (gO ..).mpr (aH wf X (ce rfl (bK (fun hx=>?_) fun hx=>?_)))
  ·have hx:nf (fam x)=true:=(jm _).symm.trans hx;have hp:NP K x=K.any (bY x):=by unfold NP;refine rwC (hx ..) ?_;rfl
   replace hn:=(hp ..)▸hn;refine aO wf g1 z (bf (z.caps _) (cy (g:=fun b=>.bool (bY x b)) (fun b hb P q=>du wf g1 X (At.idA g1 (z.mem b hb)) q) (anyB (F:=fun b=>aa b _ _) (bK (fun q=>?_) fun q=>?_))))
   ·replace hn:=(q ..)▸hn;exact bS cp (hn _)
   ·replace hn:=(q ..)▸hn;exact hn _
  ·have hx:nf (fam x)=false:=(jm _).symm.trans hx;have hp:NP K x=false:=by unfold NP;refine rwC (hx ..) ?_;rfl
   replace hn:=(hp ..)▸hn;refine aR ?_ (gS wf g1 X (fun e=>hu (e▸xl)) hx (sz rfl (hn _)));refine fo fun y m e=>?_;rcases Ai.mp m with q | q
   ·exact (X.no g1).1 (e.symm.trans q)
   ·exact (X.no g1).2.2.2.2.1 (e.symm.trans (Ae.mp q))
 ·rw [e4];refine (gN ..).mpr ?_;refine rwD (aG ..) ?_;exact bF wf g (Tys.atoms g1 fun a ha=>y.mem a (Az.mp ha).1) (.inr rfl) fun t2 T2 l2 g2 p2 y2 m2=>h t2 T2 l2 g2 p2 y2 fun v=>(bj m2 v).trans (NP_vals hu hK v)
theorem iq (g:Good T) (z:Ty T u K) (hK:∀b∈K,cR b=true∧b≠.void) (h:Q (.int u) T):Calls W (n+5) "unknown_equal" [.tab,.int u,.bool true] T Q:=by
 have n0:(K.map fam).contains 0=false:=fo fun x m e=>by
  refine eE1 (AD.mp m) fun b zt3=>aA2 zt3 fun hb q=>?_;exact (pW b (hK b hb).1).1 (q.trans e)
 have n7:(K.map fam).contains 7=false:=fo fun x m e=>by
  refine eE1 (AD.mp m) fun b zt4=>aA2 zt4 fun hb q=>?_;exact (pW b (hK b hb).1).2.1 (q.trans e)
 have n6:(K.map fam).contains 6=false:=fo fun x m e=>by
  refine eE1 (AD.mp m) fun b zt5=>aA2 zt5 fun hb q=>?_;exact (hK b hb).2 ((fam6 b).mp (q.trans e))
 have ei:aB (K.map fun a=>Aa (fam a))=some (K.map fam):=by refine rwD (aG ..) ?_;refine rwC (aV ..) ?_;exact rfl
 exact ah wf rfl ((iE ..).mpr (aO wf g z (bf (z.caps _) (cy (g:=fun b=>.int (fam b)) (fun b hb P q=>aH wf (At.idA g (z.mem b hb)) q) (ax ei (aR n0 (ax ei (aR n6 (ax ei (aR n7 h))))))))))
end
section
variable {C:ba}{D:aN}{T:Tbl}
theorem q_peyes (t u:Int) (Q:K):bE C D GG (aX 113) [.tab,.int t,.int u,.bool true] T Q=(aa (decide (t=1)) (C ("unknown_equal") [An,Aa u,Aq true] T fun a a_1=>Q a a_1) (C ("is_nullish_kind") [An,Aa u] T fun v T=>au v fun c=>aa c (C ("nullish_side") [An,Aa t,Aa u,Aq true] T fun a a_1=>Q a a_1) (C ("parts_of") [An,Aa t] T fun it T=>aq it fun items=>bA (lp C D 113 0 39) items [some An,some (Aa t),some (Aa u),some (Aq true),some (Ad []),none,none] 1 ("out") T (rs C D 113 0 40 (fun x x_1 x_2 T=>Q By T) (fun x x_1 x_2 x_3=>False) Q) Q))):=by kernel_rfl
theorem ti (t u v:Int) (l:List AV) (o1 o2:Option AV) (nx br:Kn) (kr:K):lp C D 113 0 39 (.int v) [some An,some (Aa t),some (Aa u),some (Aq true),some (Ad l),o1,o2] 1 "out" T nx br kr=(C ("parts_of") [An,Aa u] T fun it T=>aq it fun items=>aa (items.length.ble cap) (ay (fun a a_1 a_2=>C ("plain_meets") [An,Aa v,a,Aq true] a_1 fun v T=>au v fun c=>aa c (a_2 (some a) T) (a_2 none T)) items T fun l_1 T=>aa (!l_1.isEmpty) (C ("sharpen") [An,Aa v,Ad l_1] T fun v_1 T=>aa (l.length.blt cap) (nx [some An,some (Aa t),some (Aa u),some (Aq true),some (Ad (l++[v_1])),some (Aa v),some (Ad l_1)] 1 ("out") T) False) (nx [some An,some (Aa t),some (Aa u),some (Aq true),some (Ad l),some (Aa v),some (Ad l_1)] 1 ("out") T)) False):=by kernel_rfl
theorem tg (t u:Int) (l:List AV) (o1 o2:Option AV) (nx br:Kn) (kr:K):rs C D 113 0 40 nx br kr [some An,some (Aa t),some (Aa u),some (Aq true),some (Ad l),o1,o2] 1 "out" T=(C ("union") [An,Ad l] T fun a a_1=>kr a a_1):=by kernel_rfl
theorem q_peno (t u:Int) (Q:K):bE C D GG (aX 114) [.tab,.int t,.int u] T Q=(C ("plain_value") [An,Aa u] T fun v T=>eqP v (Al []) fun c=>aa c (Q (Aa t) T) (aa (decide (t=1)) (dT v 0 fun w=>aa (w.k.beq 2) (aa ([4,5,6].contains w.i) (aa (decide (u=4)) (C ("union") [An,Al [Aa 11,Aa 5]] T fun a a_1=>Q a a_1) (C ("union") [An,Al [Aa 11,Aa 4]] T fun a a_1=>Q a a_1)) (C ("parts_of") [An,Aa t] T fun it T=>aq it fun items=>bA (lp C D 114 0 39) items [some An,some (Aa t),some (Aa u),some v,some (Ad []),none] 1 ("out") T (rs C D 114 0 40 (fun x x_1 x_2 T=>Q By T) (fun x x_1 x_2 x_3=>False) Q) Q)) False) (C ("parts_of") [An,Aa t] T fun it T=>aq it fun items=>bA (lp C D 114 0 39) items [some An,some (Aa t),some (Aa u),some v,some (Ad []),none] 1 ("out") T (rs C D 114 0 40 (fun x x_1 x_2 T=>Q By T) (fun x x_1 x_2 x_3=>False) Q) Q))):=by kernel_rfl
theorem q_pe (t u:Int) (y:Bool) (Q:K):bE C D GG (aX 115) [.tab,.int t,.int u,.bool y,.bool true] T Q=(aa ([0,13].contains t) (Q (Aa t) T) (aa ([0,13,1].contains u) (Q (Aa t) T) (aa y (C ("plain_equal_yes") [An,Aa t,Aa u,Aq true] T fun a a_1=>Q a a_1) (C ("plain_equal_no") [An,Aa t,Aa u] T fun a a_1=>Q a a_1)))):=by kernel_rfl
theorem q_peno_1 (t u v:Int) (r:Row) (l:List AV) (o:Option AV) (nx br:Kn) (kr:K):lp C D 114 0 39 (.int v) [some An,some (Aa t),some (Aa u),some (aU r),some (Ad l),o] 1 "out" T nx br kr=(C ("plain_value") [An,Aa v] T fun a T=>eqP a (Al (Ah (Cell.av) r)) fun x=>aa (!x) (aa (decide (v=3)) (aa (!decide (u=4)) (aa (l.length.blt cap) (nx [some An,some (Aa t),some (Aa u),some (Al (Ah (Cell.av) r)),some (Ad (l++[Aa v])),some (Aa v)] 1 ("out") T) False) (nx [some An,some (Aa t),some (Aa u),some (Al (Ah (Cell.av) r)),some (Ad l),some (Aa v)] 1 ("out") T)) (aa (l.length.blt cap) (nx [some An,some (Aa t),some (Aa u),some (Al (Ah (Cell.av) r)),some (Ad (l++[Aa v])),some (Aa v)] 1 ("out") T) False)) (nx [some An,some (Aa t),some (Aa u),some (Al (Ah (Cell.av) r)),some (Ad l),some (Aa v)] 1 ("out") T)):=by kernel_rfl
theorem q_peno_3 (t u:Int) (r:Row) (l:List AV) (o:Option AV) (nx br:Kn) (kr:K):rs C D 114 0 40 nx br kr [some An,some (Aa t),some (Aa u),some (aU r),some (Ad l),o] 1 "out" T=(C ("union") [An,Ad l] T fun a a_1=>kr a a_1):=by kernel_rfl
end
theorem inv_len {α:Type}{l a c:List α}{x:α} (e:l=a++x::c):l.length=a.length+1+c.length:=by refine rwC (e ..) ?_;refine rwC (Ar ..) ?_;refine rwC (AK ..) ?_;lia
theorem lF {a K:List Atom}{x:Atom}{v:Int}:(∃y∈a++[x],rY y K v)↔(∃y∈a,rY y K v)∨rY x K v:=by
 constructor
 ·intro zh1;refine bc fun zz=>?_;obtain ⟨y,h1,h2⟩:=zh1;rcases Ao.mp h1 with h1 | h1
  ·refine zz ?_;exact .inl ⟨y,h1,h2⟩
  ·refine zz ?_;rw [Ae.mp h1] at h2;exact .inr h2
 ·rintro (⟨y,h1,h2⟩ | h2)
  ·exact ⟨y,Ap _ h1,h2⟩
  ·exact ⟨x,Ak _ (.head _),h2⟩
theorem gw {b:Bool}{P R:Prop} (h1:b=true→P) (h2:b=false→R):au (.bool b) fun c=>aa c P R:=bK h1 h2
theorem eq_go {i j:Int}{P R:Prop} (h1:i=j→P) (h2:¬i=j→R):eqP (.int i) (.int j) fun c=>aa c P R:=bK (b:=decide (i=j)) (fun q=>h1 (of_decide_eq_true q)) fun q=>h2 (of_decide_eq_false q)
theorem Ty.unk {T:Tbl}{t:Int}{l:List Atom} (y:Ty T t l) (hm:.unk∈l):l=[.unk]:=by
 rcases y.shape with ⟨q,_⟩ | ⟨a,q,_⟩ | ⟨_,q,_⟩
 ·replace hm:=(q ..)▸hm;cases hm
 ·rw [q] at hm ⊢;refine rwC (Ae.mp hm ..) ?_;exact rfl
 ·exact absurd hm q
theorem unk_back {T:Tbl}{t:Int}{l l2:List Atom}{P:Atom→Bool} (y:Ty T t l) (m:∀a,a∈l2↔aT (l.filter P) a) (e:l2=[.unk]):l=[.unk]:=by
 rcases (m .unk).mp (by rw [e];exact .head _) with ⟨q,_⟩ | ⟨q,r,_⟩
 ·exact y.unk (Az.mp q).1
 ·unfold J at r
  by_cases e:cJ (l.filter P)=true
  ·rw [if_pos e] at r;rcases Ao.mp r with r | r
   ·exact absurd r q
   ·simp at r
  ·rw [if_neg e] at r;exact absurd r q
section
variable {W:Wd}{n k:Nat}{T:Tbl}{Q:K}{t u:Int}{a b:Atom}{l K:List Atom} (wf:WF W)
include wf
theorem hits_go {x:Atom}{v:Int}{F:List AV→Tbl→Prop} (g:Good T) (X:At T v x) (z:Ty T u K) (h:F ((K.filter (bY x)).map fun a=>.int (idA T a)) T) :
  ay (fun a T P=>Calls W (n+4) "plain_meets" [An,Aa v,a,Aq true] T fun v T=>au v fun c=>aa c (P (some a) T) (P none T)) (K.map fun a=>Aa (idA T a)) T F :=
 bB (p:=bY x) (fun b hb P q=>du wf g X (At.idA g (z.mem b hb)) (gw (fun e=>by replace q:=(e ..)▸q;exact q) fun e=>by replace q:=(e ..)▸q;exact q)) h
theorem fV (g:Gd (k+1+l.length) T) (y:Ty T t l) (z:Ty T u K) (hK:∀b∈K,cR b=true) (hu:l=[.unk]→.void∉K) (hl:l=[.unk]∨(.unk∉l∧((K≠[]∧∀b∈K,nf (fam b)=true)∨∀a∈l,cR a=true)))
  (h:∀t' T' l',Gd k T'→T <+: T'→Ty T' t' l'→(∀v,bR l' v↔bR l v∧bR K v)→Q (.int t') T') :
  Calls W (n+7) "plain_equal_yes" [.tab,.int t,.int u,.bool true] T Q:=by
 have g1:=g.1;refine ah wf rfl ((q_peyes ..).mpr ?_)
 by_cases hun:l=[.unk]
 ·have e:=(y.fix_iff g1 (b:=.unk) (i:=1) rfl (by decide)).mpr hun;refine ce (decide_eq_true e) (iq wf g1 z (fun b hb=>⟨hK b hb,fun e=>hu hun (e▸hb)⟩) (h u T K (g.mono (by lia)) (AO _) z fun v=>?_));rw [hun,ew];exact ⟨fun q=>⟨(by obtain ⟨b,_,hb⟩:=q;exact eW b v hb),q⟩,fun q=>q.2⟩
 ·have hl2:=hl.resolve_left hun;refine aR (decide_eq_false fun e=>hun ((y.fix_iff g1 (b:=.unk) (i:=1) rfl (by decide)).mp e)) (bZ wf g1 z (gw (fun hnk=>?_) fun hnk=>?_))
  ·exact jO wf (k:=k+l.length) (g.mono (by lia)) y z hl2.1 (fun b hb=>AA.mp ((Ay _ _).mp hnk).2 b hb) fun t2 T2 l2 g2 p2 y2 m2=>h t2 T2 l2 (g2.mono (by lia)) p2 y2 m2
  ·have hp:∀a∈l,cR a=true:=hl2.2.resolve_left fun q=>by
    have:(!K.isEmpty && K.all fun a=>nf (fam a))=true:=by
     refine rwC (Ay ..) ?_;exact ⟨by cases K with | nil=>exact absurd rfl q.1 | cons=>rfl,AA.mpr q.2⟩
    replace this:=(hnk ..)▸this;exact fT this
   refine aO wf g1 y (forS4 (a:=[]) (b:=[]) (fun a ts L _ _ T1=>Tys T1 ts L∧Gd (k+1+(l.length - a.length)) T1∧T <+: T1∧ts.length≤a.length∧(∀v,bR L v↔∃x∈a,rY x K v)) (fun ts _ o1 o2=>[some .tab,some (.int t),some (.int u),some (.bool true),some (.list (ts.map .int)),o1,o2])
    ⟨.nil,g,AO _,Bh _,fun v=>⟨fun q=>absurd q (ci v),fun q=>q.elim fun _ q=>nomatch q.1⟩⟩ (fun a x c ts L o1 o2 T1 nx e3 i hn=>?_) fun ts L o1 o2 T1 i=>?_)
   ·refine aA5 i fun yL g2 p2 hlen hV=>?_;have xl:x∈l:=by refine rwC (e3 ..) ?_;exact Ak _ (.head _)
    have il:=inv_len e3;have X:At T1 (idA T x) x:=(At.idA g1 (y.mem x xl)).mono p2;have z1:=z.mono g2.1.nodup p2;have cz:(ts.map Aa).length<cap:=by
     have c31:=cq y.nodup;have:(31:Nat)<cap:=by decide
     refine rwC (Aj ..) ?_;lia
    have la:(a++[x]).length=a.length+1:=Ar;refine (ti ..).mpr (aO wf g2.1 z1 (bf (z.caps _) (hits_go wf g2.1 X z1 (bK (fun q=>?_) fun q=>?_))))
    ·have hne:K.filter (bY x)≠[]:=fun e=>by replace q:=(e ..)▸q;exact fT q
     have g3:Gd (k+1+(l.length - (a++[x]).length)+1) T1:=g2.mono (by refine rwC (la ..) ?_;lia);refine rwD (aG ..) ?_;refine me wf g3 X (hp x xl) (fun b hb=>⟨hK b hb,z1.mem b hb⟩) z.nodup hne fun t3 T3 l3 g4 p4 y4 m4=>bS cz (oG (hn (ts++[t3]) (L++(l3++[])) _ _ T3 ⟨(yL.mono g4.1.nodup p4).append (.cons y4 .nil),g4,p2.trans p4,?_,fun v=>?_⟩) (by rw [AI];rfl))
     ·refine rwC (la ..) ?_;refine rwC (Ar ..) ?_;exact Nat.succ_le_succ hlen
     ·rw [cf,AG,hV,m4,lF]
    ·have hne:K.filter (bY x)=[]:=by
      cases e:K.filter (bY x) with
      | nil=>rfl
      | cons=>replace q:=(e ..)▸q;exact tF q
     refine hn ts L _ _ T1 ⟨yL,g2.mono (by refine rwC (la ..) ?_;lia),p2,by lia,fun v=>?_⟩;rw [hV,lF];exact ⟨.inl,fun q=>q.resolve_right (qq (hp x xl) hK hne v)⟩
   ·refine aA5 i fun yL g2 p2 hlen hV=>?_;refine (tg ..).mpr (bF wf (g2.mono (by lia):Gd (k+1) T1) yL (.inr rfl) fun t3 T3 l3 g3 p3 y3 m3=>h t3 T3 l3 g3 (p2.trans p3) y3 fun v=>?_);rw [bj m3,hV];exact ⟨(fun zq2=>by obtain ⟨x,hx,h1,h2⟩:=zq2;exact ⟨⟨x,hx,h1⟩,h2⟩),fun zq3=>by obtain ⟨⟨x,hx,h1⟩,h2⟩:=zq3;exact ⟨x,hx,h1,h2⟩⟩
theorem lb (g:Good T) (z:Ty T u K) (h:Q (aU (pvK K)) T):Calls W (n+3) "plain_value" [.tab,.int u] T Q:=by
 refine bc fun zz=>?_;rcases z.shape with ⟨zr1,zr2⟩ | ⟨a,zr3,e⟩ | ⟨q1,q2,q3⟩
 ·refine zz ?_;subst zr1;subst zr2;exact ah wf rfl ((dq ..).mpr (cY (bW g (i:=2) (r:=[.int 1,.str "never"]) rfl) h))
 ·refine zz ?_;subst zr3;exact bG wf g (z.at g) h
 ·refine zz ?_;have hk:pvK K=[]:=by
   cases K with
   | nil=>rfl
   | cons a r=>cases r with
    | nil=>simp at q1
    | cons b r=>rfl
  rw [hk] at h;have n4:¬u=4:=fun e=>by
   have:=(z.fix_iff g (b:=.undef) (i:=4) rfl (by decide)).mp e;rw [this] at q1;simp at q1
  have n5:¬u=5:=fun e=>by
   have:=(z.fix_iff g (b:=.null) (i:=5) rfl (by decide)).mp e;rw [this] at q1;simp at q1
  exact ah wf rfl ((dq ..).mpr (cY q3 (aR (decide_eq_false n4) (aR (decide_eq_false n5) h))))
end
section
variable {W:Wd}{n k:Nat}{T:Tbl}{Q:K}{t u:Int}{a b:Atom}{l K:List Atom}
theorem pv_cell (b:Atom) (hb:pv b≠[]):nQ (pv b) 0=some (.int (fam b)):=by
 have:=gs (p:=fun b=>decide (pv b=[]) || decide (nQ (pv b) 0=some (.int (fam b)))) (by decide +kernel) b;rcases (Bg _ _).mp this with q | q
 ·exact absurd (of_decide_eq_true q) hb
 ·exact of_decide_eq_true q
theorem lL {x:Atom} (g:Good T) (X:At T t x):(t=3↔x=.void)∧(t=4↔x=.undef):=⟨X.isFix g (b:=.void) rfl,X.isFix g (b:=.undef) rfl⟩
theorem no_fin {T2:Tbl}{l2:List Atom}{t2:Int} (y:Ty T t l) (hv:¬pv b=[]) (hc:¬(l=[.unk]∧nf (fam b)=true)) (y2:Ty T2 t2 l2) (m2:∀a,a∈l2↔aT (l.filter (keeps b)) a):∀s v,WV l2 s v↔WV l (s++vals b) v:=by
 by_cases hl:l=[.unk]
 ·rw [hl] at m2 ⊢;have hk:keeps b .unk=true:=by
   unfold keeps;have:¬pv .unk=pv b:=fun e=>hv e.symm;simp [this]
  have hn:¬nf (fam b)=true:=fun q=>hc ⟨hl,q⟩;refine WV_unk y2.nodup hv fun a=>(m2 a).trans ?_;unfold rp;refine rwC (if_neg hn ..) ?_;refine rwC (List.filter_cons_of_pos hk ..) ?_;exact Iff.rfl
 ·have hu:.unk∉l:=fun hm=>by
   rcases y.shape with ⟨q,_⟩ | ⟨a,q,_⟩ | ⟨_,q,_⟩
   ·replace hm:=(q ..)▸hm;cases hm
   ·rw [q] at hm hl;exact hl (by refine rwC (Ae.mp hm ..) ?_;exact rfl)
   ·exact q hm
  exact WV_step hv hu m2
theorem sU (h:pvK K=[]):dl K=[]:=by
 match K,h with
 | [],_=>rfl
 | [b],h=>exact if_pos h
 | _::_::_,_=>rfl
theorem no_list {r:Row} (hr:iC r=true) {P R:Prop} (h1:r=[]→P) (h2:¬r=[]→R):eqP (aU r) (Al []) fun c=>aa c P R :=
 gh (q:=[]) hr rfl (bK (fun q=>h1 (of_decide_eq_true q)) fun q=>h2 (of_decide_eq_false q))
variable (wf:WF W)
include wf
theorem tY (g:Gd (k+1) T) (y:Ty T t l) (B:At T u b) (hv:¬pv b=[]) (hc:¬(l=[.unk]∧nf (fam b)=true)) {nx br:Kn}
  (h:∀t' T' l',Gd k T'→T <+: T'→Ty T' t' l'→(∀s v,WV l' s v↔WV l (s++vals b) v)→(l'=[.unk]→l=[.unk])→Q (.int t') T') :
  Calls W (n+5) "parts_of" [An,Aa t] T fun it T=>aq it fun items=>bA (lp (Calls W (n+5)) (aw W (n+5)) 114 0 39) items [some An,some (Aa t),some (Aa u),some (aU (pv b)),some (Ad []),none] 1 "out" T (rs (Calls W (n+5)) (aw W (n+5)) 114 0 40 nx br Q) Q:=by
 have g1:=g.1;refine aA2 (lL g1 B) fun _ b4=>?_;refine aO wf g1 y (pd (a:=[]) (fun a out _=>out=(a.filter (keeps b)).map fun a=>.int (idA T a)) (fun out o=>[some .tab,some (.int t),some (.int u),some (aU (pv b)),some (.list out),o]) rfl (fun a x c out o nx e3 e4 hn=>?_) fun out o e4=>?_)
 ·have xl:x∈l:=by refine rwC (e3 ..) ?_;exact Ak _ (.head _)
  have X:=At.idA g1 (y.mem x xl);refine aA2 (lL g1 X) fun x3 _=>?_;have cp:out.length<cap:=by
   have h1:(a.filter (keeps b)).length≤a.length:=List.length_filter_le _ _;have h2:=y.cap;replace h2:=(e3 ..)▸h2;replace h2:=(Ar ..)▸h2;replace h2:=(AK ..)▸h2;rw [e4,Aj];lia
  have hn:∀o',nx [some .tab,some (.int t),some (.int u),some (aU (pv b)),some (.list (cond (keeps b x) (out++[.int (idA T x)]) out)),o'] 1 "out" T:=fun o'=>hn _ o' (by rw [e4,out_eq]);clear e3 e4 h;rw [show keeps b x=(!decide (pv x=pv b) && !(decide (x=.void) && decide (b=.undef))) from rfl] at hn;refine (q_peno_1 ..).mpr (bG wf g1 X (gh (mz x) (mz b) ?_));cases e1:decide (pv x=pv b) with
  | true=>replace hn:=(e1 ..)▸hn;exact hn _
  | false =>
   replace hn:=(e1 ..)▸hn;refine ce rfl ?_;rw [decide_eq_decide.mpr x3];cases e2:decide (x=.void) with
   | false=>replace hn:=(e2 ..)▸hn;exact bS cp (hn _)
   | true =>
    replace hn:=(e2 ..)▸hn;refine ce rfl ?_;rw [decide_eq_decide.mpr b4];cases e3:decide (b=.undef) with
    | true=>replace hn:=(e3 ..)▸hn;exact aR rfl (hn _)
    | false=>replace hn:=(e3 ..)▸hn;exact ce rfl (bS cp (hn _))
 ·rw [e4];refine (q_peno_3 ..).mpr ?_;refine rwD (aG ..) ?_;exact bF wf g (Tys.atoms g1 fun a ha=>y.mem a (Az.mp ha).1) (.inr rfl) fun t2 T2 l2 g2 p2 y2 m2=>h t2 T2 l2 g2 p2 y2 (no_fin y hv hc y2 m2) (fun e=>unk_back y m2 e)
theorem gP (g:Gd (k+1) T) (y:Ty T t l) (z:Ty T u K)
  (h:∀t' T' l',Gd k T'→T <+: T'→Ty T' t' l'→(∀s v,WV l' s v↔WV l (s++dl K) v)→(l'=[.unk]→l=[.unk])→Q (.int t') T') :
  Calls W (n+6) "plain_equal_no" [.tab,.int t,.int u] T Q:=by
 have g1:=g.1;refine ah wf rfl ((q_peno ..).mpr (lb wf g1 z (no_list (pvK_ok K) (fun hv=>?_) fun hv=>?_)))
 ·refine h t T l (g.mono (Cf k)) (AO _) y (fun s v=>?_) id;rw [sU hv,AG]
 ·obtain ⟨b,rfl⟩:∃b,K=[b]:=by
   match K,hv with
   | [],hv=>exact absurd rfl hv
   | [b],_=>exact ⟨b,rfl⟩
   | _::_::_,hv=>exact absurd rfl hv
  have hv:¬pv b=[]:=hv;replace h:=(show dl [b]=vals b from if_neg hv)▸h;have B:=z.at g1;obtain ⟨_,b4⟩:=lL g1 B;have hone:=y.fix_iff g1 (b:=.unk) (i:=1) rfl (by decide);show aa (decide (t=1)) _ _;refine bK (fun q=>?_) fun q=>?_
  ·have hl:=hone.mp (of_decide_eq_true q);refine eP (pv_cell b hv) (ce rfl (bK (fun q2=>?_) fun q2=>?_))
   ·have hn:nf (fam b)=true:=(jm _).symm.trans q2;have E:=dc g1 (a:=.empty) rfl;have fin:∀c,(rp b=[.empty,c])→∀t' T' l',Gd k T'→T <+: T'→Ty T' t' l'→(∀a,a∈l'↔aT [.empty,c] a)→Q (.int t') T':=fun c e t' T' l' g' p' y' m'=>h t' T' l' g' p' y' (by refine rwC (hl ..) ?_;exact WV_unk y'.nodup hv (by refine rwC (e ..) ?_;exact m')) (fun _=>hl);refine bK (fun q3=>?_) fun q3=>?_
    ·exact bF wf (ts:=[11,5]) g (.cons (Ty.one g1 E) (.cons (Ty.one g1 (dc g1 (a:=.null) rfl)) .nil)) (.inl rfl) fun t2 T2 l2 g2 p2 y2 m2=>fin .null (by unfold rp;refine rwC (if_pos hn ..) ?_;refine rwC (if_pos (b4.mp (of_decide_eq_true q3)) ..) ?_;exact rfl) t2 T2 l2 g2 p2 y2 m2
    ·exact bF wf (ts:=[11,4]) g (.cons (Ty.one g1 E) (.cons (Ty.one g1 (dc g1 (a:=.undef) rfl)) .nil)) (.inl rfl) fun t2 T2 l2 g2 p2 y2 m2=>fin .undef (by unfold rp;refine rwC (if_pos hn ..) ?_;refine rwC (if_neg fun e=>of_decide_eq_false q3 (b4.mpr e) ..) ?_;exact rfl) t2 T2 l2 g2 p2 y2 m2
   ·have hc:¬(l=[.unk]∧nf (fam b)=true):=fun e=>by replace e:=(jm ..)▸e;replace e:=(show [4,5,6].contains (fam b)=false from q2)▸e;exact nomatch e.2
    exact tY (n:=n) wf g y B hv hc h
  ·have hc:¬(l=[.unk]∧nf (fam b)=true):=fun e=>of_decide_eq_false q (hone.mpr e.1);exact tY (n:=n) wf g y B hv hc h
theorem fX (g:Gd (k+1) T) (y:Ty T t l) (z:Ty T u K)
  (h:∀t' T' l',Gd k T'→T <+: T'→Ty T' t' l'→(∀s v,WV l' s v↔WV l (s++dl K) v)→(l'=[.unk]→l=[.unk])→Q (.int t') T') :
  Calls W (n+7) "narrow_plain_equal" [.tab,.int t,.int u,.bool false,.bool true] T Q:=by
 have g1:=g.1;refine ah wf rfl ((q_pe ..).mpr (aR (fo fun x m e=>?_) (bK (fun q=>?_) fun q=>gP wf g y z h)))
 ·rcases Ai.mp m with q | q
  ·exact (y.ne g1).1 (e.symm.trans q)
  ·exact (y.ne g1).2.1 (e.symm.trans (Ae.mp q))
 ·have hu:u=1:=by
   rcases Ai.mp (Au.mp q) with q | q
   ·exact absurd q (z.ne g1).1
   rcases Ai.mp q with q | q
   ·exact absurd q (z.ne g1).2.1
   ·exact Ae.mp q
  have hK:=(z.fix_iff g1 (b:=.unk) (i:=1) rfl (by decide)).mp hu;refine h t T l (g.mono (Cf k)) (AO _) y (fun s v=>?_) id;rw [hK,show dl [.unk]=[] from rfl,AG]
theorem cT (g:Gd (k+1+l.length) T) (y:Ty T t l) (z:Ty T u K) (hK:∀b∈K,cR b=true) (hu:l=[.unk]→.void∉K) (hl:l=[.unk]∨(.unk∉l∧((K≠[]∧∀b∈K,nf (fam b)=true)∨∀a∈l,cR a=true)))
  (h:∀t' T' l',Gd k T'→T <+: T'→Ty T' t' l'→(∀v,bR l' v↔bR l v∧bR K v)→Q (.int t') T') :
  Calls W (n+8) "narrow_plain_equal" [.tab,.int t,.int u,.bool true,.bool true] T Q:=by
 have g1:=g.1;refine ah wf rfl ((q_pe ..).mpr (aR (fo fun x m e=>?_) (aR (fo fun x m e=>?_) (fV wf g y z hK hu hl h))))
 ·rcases Ai.mp m with q | q
  ·exact (y.ne g1).1 (e.symm.trans q)
  ·exact (y.ne g1).2.1 (e.symm.trans (Ae.mp q))
 ·rcases Ai.mp m with q | q
  ·exact (z.ne g1).1 (e.symm.trans q)
  rcases Ai.mp q with q | q
  ·exact (z.ne g1).2.1 (e.symm.trans q)
  ·have:=(z.fix_iff g1 (b:=.unk) (i:=1) rfl (by decide)).mp (e.symm.trans (Ae.mp q));exact absurd (hK .unk (by refine rwC (this ..) ?_;exact .head _)) (by decide)
end
section
variable {C:ba}{D:aN}{T:Tbl}
theorem q_force (t:Int) (Q:K):bE C D GG (oh 129 1) [.host,.int t] T Q=(Q (Aa t) T):=by kernel_rfl
theorem my (t u:Int) (Q:K):bE C D GG (aX 122) [.tab,.int t,.int u,.bool true] T Q=(C ("parts_of") [An,Aa u] T fun it T=>aq it fun items=>aa (items.length.ble cap) (ay (fun a a_1 a_2=>C ("part_meets") [An,Aa t,a,Aq true] a_1 fun v T=>au v fun c=>aa c (a_2 (some a) T) (a_2 none T)) items T fun l T=>aa (!!l.isEmpty) (Q (Aa 2) T) (C ("family") [An,Aa t] T fun a T=>eqP a (Aa 7) fun c=>aa c (aa (l.length.ble cap) (ay (fun a a_1 a_2=>C ("narrow_is_primitive") [An,a] a_1 fun u T=>a_2 (some u) T) l T fun l_1 T=>ak (aY l_1) fun l_2=>aa (l_2.all fun a=>id a) (C ("union") [An,Ad l] T fun v T=>C ("inter") [An,Al [Aa t,v]] T fun a a_1=>Q a a_1) (C ("sharpen") [An,Aa t,Ad l] T fun a a_1=>Q a a_1)) False) (C ("sharpen") [An,Aa t,Ad l] T fun a a_1=>Q a a_1))) False):=by kernel_rfl
theorem q_ne_no (t u:Int) (Q:K):bE C D GG (aX 123) [.host,.int t,.int u,.bool false,.bool true] T Q=(C ("Thin.force") [BD,Aa t] T fun v T=>C ("Thin.force") [BD,Aa u] T fun v_1 T=>C ("all_primitive") [An,v] T fun v_2 T=>au v_2 fun b=>aa b (C ("all_primitive") [An,v_1] T fun v_3 T=>au v_3 fun c=>aa c (C ("narrow_plain_equal") [An,v,v_1,Aq false,Aq true] T fun a a_1=>Q a a_1) (C ("narrow_plain_equal") [An,v,v_1,Aq false,Aq true] T fun a a_1=>Q a a_1)) (au v_2 fun c=>aa c (C ("narrow_plain_equal") [An,v,v_1,Aq false,Aq true] T fun a a_1=>Q a a_1) (C ("narrow_plain_equal") [An,v,v_1,Aq false,Aq true] T fun a a_1=>Q a a_1))):=by kernel_rfl
theorem q_ne_yes (t u:Int) (Q:K):bE C D GG (aX 123) [.host,.int t,.int u,.bool true,.bool true] T Q=(C ("Thin.force") [BD,Aa t] T fun v T=>C ("Thin.force") [BD,Aa u] T fun v_1 T=>C ("all_primitive") [An,v] T fun v_2 T=>au v_2 fun b=>aa b (C ("all_primitive") [An,v_1] T fun v_3 T=>au v_3 fun c=>aa c (C ("narrow_plain_equal") [An,v,v_1,Aq true,Aq true] T fun a a_1=>Q a a_1) (eqP v (Aa 1) fun c=>aa c (C ("narrow_plain_equal") [An,v,v_1,Aq true,Aq true] T fun a a_1=>Q a a_1) (C ("is_nullish_kind") [An,v_1] T fun v_4 T=>au v_4 fun c=>aa c (C ("narrow_plain_equal") [An,v,v_1,Aq true,Aq true] T fun a a_1=>Q a a_1) (aa (v.k.beq 2) (aa ([0,13].contains v.i) (Q v T) (aa (v_1.k.beq 2) (aa ([0,13,1].contains v_1.i) (Q v T) (C ("parts_of") [An,v] T fun it T=>aq it fun items=>aa (items.length.ble cap) (ay (fun a a_1 a_2=>C ("equal_part") [An,a,v_1,Aq true] a_1 fun u T=>a_2 (some u) T) items T fun l T=>C ("union") [An,Ad l] T fun a a_1=>Q a a_1) False)) False)) False)))) (au v_2 fun c=>aa c (C ("narrow_plain_equal") [An,v,v_1,Aq true,Aq true] T fun a a_1=>Q a a_1) (eqP v (Aa 1) fun c=>aa c (C ("narrow_plain_equal") [An,v,v_1,Aq true,Aq true] T fun a a_1=>Q a a_1) (C ("is_nullish_kind") [An,v_1] T fun v_3 T=>au v_3 fun c=>aa c (C ("narrow_plain_equal") [An,v,v_1,Aq true,Aq true] T fun a a_1=>Q a a_1) (aa (v.k.beq 2) (aa ([0,13].contains v.i) (Q v T) (aa (v_1.k.beq 2) (aa ([0,13,1].contains v_1.i) (Q v T) (C ("parts_of") [An,v] T fun it T=>aq it fun items=>aa (items.length.ble cap) (ay (fun a a_1 a_2=>C ("equal_part") [An,a,v_1,Aq true] a_1 fun u T=>a_2 (some u) T) items T fun l T=>C ("union") [An,Ad l] T fun a a_1=>Q a a_1) False)) False)) False))))):=by kernel_rfl
end
section
variable {tP:AV→Tbl→(Option AV→Tbl→Prop)→Prop}{α:Type}{f:α→AV}
theorem fE (I:List α→List AV→Tbl→Prop) {Q:List AV→Tbl→Prop}:∀{l:List α}{out:List AV}{T:Tbl},I l out T →
  (∀a l out T (P:Option AV→Tbl→Prop),I (a::l) out T→(∀v T',I l (out++[v]) T'→P (some v) T')→tP (f a) T P)→(∀out T,I [] out T→Q out T)→ay tP (l.map f) T fun r T=>Q (out++r) T
 | [],out,T,h0,_,fin=>by show Q (out++[]) T;refine rwC (AG ..) ?_;exact fin _ _ h0
 | a::l,out,T,h0,step,fin=>step _ _ _ _ _ h0 fun v T' h=>by
  have:=fE I h step fin;have e:(fun r T=>Q (out++[v]++r) T)=fun r T=>Q (out++consO (some v) r) T:=funext fun r=>by refine rwC (AQ ..) ?_;rfl
  replace this:=(e ..)▸this;exact this
end
theorem list_go {l:List Atom}{f:Atom→AV}{P R:Prop} (h1:l=[]→P) (h2:¬l=[]→R):aa (!!(l.map f).isEmpty) P R:=by
 cases l with
 | nil=>exact h1 rfl
 | cons a l=>exact h2 nofun
theorem mB {a:Atom} (h:a≠.empty) (K:List Atom):K.filter (iG a)=K.filter (bY a) :=
 List.filter_congr fun b _=>by unfold iG;refine rwC (decide_eq_false h ..) ?_;rfl
theorem pS (K:List Atom):K.filter (iG .empty)=K.filter fun b=>[1,2,3].contains (fam b) :=
 List.filter_congr fun b _=>rfl
theorem sg (a:Atom):∃v,v∈vals a:=by
 have:=gs (p:=fun a=>!(vals a).isEmpty) (by decide +kernel) a;cases h:vals a with
 | nil=>replace this:=(h ..)▸this;exact fT this
 | cons v r=>exact ⟨v,.head _⟩
theorem J_123 {H:List Atom} (hH:∀b∈H,[1,2,3].contains (fam b)=true) {l2:List Atom} (m:∀a,a∈l2↔aT H a):∀b∈l2,[1,2,3].contains (fam b)=true:=fun b hb=>by
 rcases (m b).mp hb with ⟨q,_⟩ | ⟨_,q,_⟩
 ·exact absurd (hH _ q) (by decide)
 ·unfold J at q
  by_cases e:cJ H=true
  ·replace q:=(if_pos e ..)▸q;rcases Ao.mp q with q | q
   ·exact hH b q
   ·rcases Ai.mp q with rfl | q
    ·rfl
    ·refine rwC (Ae.mp q ..) ?_;rfl
  ·replace q:=(if_neg e ..)▸q;exact hH b q
theorem nF {K:List Atom} (hK:∀b∈K,cR b=true) (v:Int):rY .empty K v↔bR (K.filter (iG .empty)) v:=by
 refine rwC (pS ..) ?_;constructor
 ·rintro ⟨hv,b,hb,hw⟩;refine ⟨b,Az.mpr ⟨hb,?_⟩,hw⟩;cases q:([1,2,3]:List Int).contains (fam b) with
  | true=>rfl
  | false=>exact absurd hv ((tJ b (hK b hb)).2 q v hw)
 ·rintro ⟨b,hb,hw⟩;obtain ⟨h1,h2⟩:=Az.mp hb;exact ⟨(tJ b (hK b h1)).1 h2 v hw,b,h1,hw⟩
theorem Ty.no013 {T:Tbl}{t:Int}{l:List Atom} (y:Ty T t l) (g:Good T):[0,13].contains t=false:=fo fun x m e=>by
 rcases Ai.mp m with q | q
 ·exact (y.ne g).1 (e.symm.trans q)
 ·exact (y.ne g).2.1 (e.symm.trans (Ae.mp q))
theorem Ty.no0131 {T:Tbl}{t:Int}{l:List Atom} (y:Ty T t l) (g:Good T) (h:l≠[.unk]):[0,13,1].contains t=false:=fo fun x m e=>by
 rcases Ai.mp m with q | q
 ·exact (y.ne g).1 (e.symm.trans q)
 rcases Ai.mp q with q | q
 ·exact (y.ne g).2.1 (e.symm.trans q)
 ·exact h ((y.fix_iff g (b:=.unk) (i:=1) rfl (by decide)).mp (e.symm.trans (Ae.mp q)))
noncomputable def neTail (C:ba) (t u:Int) (T:Tbl) (Q:K):Prop:=eqP (.int t) (Aa 1) fun c=>aa c (C "narrow_plain_equal" [An,.int t,.int u,Aq true,Aq true] T fun a a_1=>Q a a_1) (C "is_nullish_kind" [An,.int u] T fun v_4 T=>au v_4 fun c=>aa c (C "narrow_plain_equal" [An,.int t,.int u,Aq true,Aq true] T fun a a_1=>Q a a_1) (aa (Aw (Aa t).k 2) (aa ([0,13].contains (Aa t).i) (Q (.int t) T) (aa (Aw (Aa u).k 2) (aa ([0,13,1].contains (Aa u).i) (Q (.int t) T) (C "parts_of" [An,.int t] T fun it T=>aq it fun items=>aa (BY items.length cap) (ay (fun a a_1 a_2=>C "equal_part" [An,a,.int u,Aq true] a_1 fun u T=>a_2 (some u) T) items T fun l T=>C "union" [An,Ad l] T fun a a_1=>Q a a_1) False)) False)) False))
section
variable {W:Wd}{n k:Nat}{T:Tbl}{Q:K}{t u:Int}{a b:Atom}{l K:List Atom} (wf:WF W)
include wf
theorem je (h:Q (.int t) T):Calls W (n+1) "Thin.force" [.host,.int t] T Q:=ah wf rfl ((q_force ..).mpr h)
theorem nJ (g:Gd (k+2) T) (A:At T t a) (ha:a≠.unk) (z:Ty T u K) (hK:∀b∈K,cR b=true)
  (h:∀t' T' l',Gd k T'→T <+: T'→Ty T' t' l'→(∀v,bR l' v↔rY a K v)→Q (.int t') T') :
  Calls W (n+8) "equal_part" [.tab,.int t,.int u,.bool true] T Q:=by
 have g1:=g.1;refine ah wf rfl ((my ..).mpr (aO wf g1 z (bf (z.caps _) (bB (p:=iG a) (fun b hb P q=>mO wf g1 A (At.idA g1 (z.mem b hb)) ha (hK b hb) (gw (fun e=>by replace q:=(e ..)▸q;exact q) fun e=>by replace q:=(e ..)▸q;exact q)) (list_go (fun hne=>?_) fun hne=>?_)))))
 ·refine h 2 T [] (g.mono (by lia)) (AO _) (Ty.never T) fun v=>?_
  by_cases he:a=.empty
  ·subst he;rw [nF hK,hne]
  ·replace hne:=(mB he ..)▸hne;exact ⟨fun q=>absurd q (ci v),fun q=>absurd q (qq (((gp a).resolve_left ha).resolve_left he) hK hne v)⟩
 ·refine aH wf A (eq_go (fun q7=>?_) fun q7=>?_)
  ·have he:=(fam7 a).mp q7;subst he;have e:=A.fix 11 rfl;subst e;refine bf (by refine rwC (Aj ..) ?_;exact Bp (cq (z.nodup.filter _)) (by decide)) (cy (g:=fun b=>.bool (cR b)) (fun b hb P q=>prim_w wf (At.idA g1 (z.mem b (Az.mp hb).1)) q) (allB (F:=fun b=>aa b _ _) (ce (AA.mpr fun b hb=>hK b (Az.mp hb).1) ?_)));refine rwD (aG ..) ?_;refine bF wf (k:=k+1) g (Tys.atoms g1 fun b hb=>z.mem b (Az.mp hb).1) (.inr rfl) fun t2 T2 l2 g2 p2 y2 m2=>?_;have hne2:l2≠[]:=fun e=>by
    refine eE1 (List.exists_mem_of_ne_nil _ hne) fun b hb=>?_;refine eE1 (sg b) fun v hv=>?_;have:=(bj m2 v).mpr ⟨b,hb,hv⟩;replace this:=(e ..)▸this;exact ci v this
   refine inter_w wf g2 y2 hne2 (J_123 (fun b hb=>by replace hb:=(pS ..)▸hb;exact (Az.mp hb).2) m2) fun t3 T3 l3 g3 p3 y3 m3=>h t3 T3 l3 g3 (p2.trans p3) y3 fun v=>?_;rw [bj m3,bj m2,nF hK]
  ·have he:¬a=.empty:=fun e=>q7 ((fam7 a).mpr e);rw [mB he] at hne ⊢;refine rwD (aG ..) ?_;exact me wf (k:=k+1) g A (((gp a).resolve_left ha).resolve_left he) (fun b hb=>⟨hK b hb,z.mem b hb⟩) z.nodup hne fun t3 T3 l3 g4 p4 y4 m4=>h t3 T3 l3 (g4.mono (by lia)) p4 y4 m4
theorem iQ (g:Gd (k+1) T) (y:Ty T t l) (z:Ty T u K)
  (h:∀t' T' l',Gd k T'→T <+: T'→Ty T' t' l'→(∀s v,WV l' s v↔WV l (s++dl K) v)→(l'=[.unk]→l=[.unk])→Q (.int t') T') :
  Calls W (n+10) "narrow_equal" [.host,.int t,.int u,.bool false,.bool true] T Q:=by
 have g1:=g.1;have fin:Calls W (n+9) "narrow_plain_equal" [.tab,.int t,.int u,.bool false,.bool true] T Q:=fX wf g y z h;exact ah wf rfl ((q_ne_no ..).mpr (je wf (je wf (bM wf g1 y (gw (fun _=>bM wf g1 z (gw (fun _=>fin) fun _=>fin)) fun q=>sz q fin)))))
theorem gQ (g:Good T) (y:Ty T t l) (h:Q (.int t) T):Calls W (n+1) "narrow_plain_equal" [.tab,.int t,.int 1,.bool true,.bool true] T Q :=
 ah wf rfl ((q_pe ..).mpr (aR (y.no013 g) h))
theorem uc (g:Gd (k+64) T) (y:Ty T t l) (z:Ty T u K) (hK:K=[.unk]∨(¬K=[.unk]∧(∀b∈K,cR b=true)∧¬l.all cR=true)) (hu:l=[.unk]→.void∉K)
  (h:∀t' T' l',Gd k T'→T <+: T'→Ty T' t' l'→(∀v,bR l' v↔bR l v∧bR K v)→Q (.int t') T'):neTail (Calls W (n+9)) t u T Q:=by
 have g1:=g.1;have hone:=y.fix_iff g1 (b:=.unk) (i:=1) rfl (by decide);have l31:=cq y.nodup;refine bc fun zz=>?_;rcases hK with hK | ⟨hk,hK,hp⟩
 ·refine zz ?_;have e:u=1:=(z.fix_iff g1 (b:=.unk) (i:=1) rfl (by decide)).mpr hK;subst e;have same:Q (.int t) T:=h t T l (g.mono (by lia)) (AO _) y fun v=>by
   rw [hK,ew];exact ⟨fun q=>⟨q,by obtain ⟨b,_,hb⟩:=q;exact eW b v hb⟩,fun q=>q.1⟩
  exact eq_go (fun _=>gQ wf g1 y same) fun _=>bZ wf g1 z (sz (by refine rwC (hK ..) ?_;rfl) (ce rfl (aR (y.no013 g1) (ce rfl (ce rfl same)))))
 ·refine zz ?_;have plain:(l=[.unk]∨(.unk∉l∧((K≠[]∧∀b∈K,nf (fam b)=true)∨∀a∈l,cR a=true)))→Calls W (n+9) "narrow_plain_equal" [.tab,.int t,.int u,.bool true,.bool true] T Q:=fun hl =>
   cT wf (k:=k) (g.mono (by lia)) y z hK hu hl h
  refine eq_go (fun e=>plain (.inl (hone.mp e))) fun e=>?_;have hul:.unk∉l:=fun q=>e (hone.mpr (y.unk q));refine bZ wf g1 z (gw (fun hnk=>plain (.inr ⟨hul,.inl ?_⟩)) fun hnk=>?_)
  ·replace hnk:=(Ay ..)▸hnk;exact ⟨by rintro rfl;exact absurd hnk.1 (by decide),AA.mp hnk.2⟩
  refine ce rfl (aR (y.no013 g1) (ce rfl (aR (z.no0131 g1 hk) (aO wf g1 y (bf (y.caps _) ?_)))));refine fE (out:=[]) (fun c out T1=>∃a ts L,l=a++c∧out=ts.map .int∧Tys T1 ts L∧Gd (k+1+2*c.length) T1∧T <+: T1∧∀v,bR L v↔∃x∈a,rY x K v) (Q:=fun l T=>Calls W (n+9) "union" [An,Ad l] T Q)
   ⟨[],[],[],rfl,rfl,.nil,g.mono (by lia),AO _,fun v=>⟨fun q=>absurd q (ci v),fun zq1=>by obtain ⟨_,q,_⟩:=zq1;exact nomatch q⟩⟩ ?_ ?_
  ·intro x c out T1 P zh1 hn;refine bc fun zz=>?_;refine eE3 (zh1) fun a ts L zt1=>aA6 zt1 fun e1 zr2 yL g2 p2 hV=>?_;refine zz ?_;subst zr2;have xl:x∈l:=by refine rwC (e1 ..) ?_;exact Ak _ (.head _)
   have X:At T1 (idA T x) x:=(At.idA g1 (y.mem x xl)).mono p2;refine nJ wf (k:=k+1+2*c.length) (g2.mono (by refine rwC (AK ..) ?_;lia)) X (fun e=>hul (e▸xl)) (z.mono g2.1.nodup p2) hK fun t3 T3 l3 g3 p3 y3 m3=>hn _ _ ⟨a++[x],ts++[t3],L++(l3++[]),by refine rwC (e1 ..) ?_;refine rwC (AQ ..) ?_;rfl,by refine rwC (AI ..) ?_;rfl,(yL.mono g3.1.nodup p3).append (.cons y3 .nil),g3,p2.trans p3,fun v=>?_⟩;rw [cf,AG,hV,m3,lF]
  ·intro out T1 zh3;refine bc fun zz=>?_;refine eE3 (zh3) fun a ts L zt2=>aA6 zt2 fun e1 zr4 yL g2 p2 hV=>?_;refine zz ?_;subst zr4;replace e1:=(AG ..)▸e1;subst e1;refine bF wf (g2.mono (Bh _):Gd (k+1) T1) yL (.inr rfl) fun t3 T3 l3 g3 p3 y3 m3=>h t3 T3 l3 g3 (p2.trans p3) y3 fun v=>?_;rw [bj m3,hV];exact ⟨(fun zq2=>by obtain ⟨x,hx,h1,h2⟩:=zq2;exact ⟨⟨x,hx,h1⟩,h2⟩),fun zq3=>by obtain ⟨⟨x,hx,h1⟩,h2⟩:=zq3;exact ⟨x,hx,h1,h2⟩⟩
theorem gR (g:Gd (k+64) T) (y:Ty T t l) (z:Ty T u K) (hK:K=[.unk]∨∀b∈K,cR b=true) (hu:l=[.unk]→.void∉K)
  (h:∀t' T' l',Gd k T'→T <+: T'→Ty T' t' l'→(∀v,bR l' v↔bR l v∧bR K v)→Q (.int t') T') :
  Calls W (n+10) "narrow_equal" [.host,.int t,.int u,.bool true,.bool true] T Q:=by
 have g1:=g.1;have l31:=cq y.nodup;have unk:(∀b∈K,cR b=true)→¬K=[.unk]:=fun q e=>absurd (q .unk (by refine rwC (e ..) ?_;exact .head _)) (by decide);refine ah wf rfl ((q_ne_yes ..).mpr (je wf (je wf (bM wf g1 y (gw (fun hp=>bM wf g1 z (gw (fun hq=>?_) fun hq=>?_)) fun hp=>sz hp ?_)))))
 ·exact cT wf (k:=k) (g.mono (by lia)) y z (AA.mp hq) hu (.inr ⟨fun q=>absurd (AA.mp hp _ q) (by decide),.inr (AA.mp hp)⟩) h
 ·exact uc wf g y z (hK.imp id fun q=>absurd (AA.mpr q) (by refine rwC (hq ..) ?_;decide)) hu h
 ·exact uc wf g y z (hK.imp id fun q=>⟨unk q,q,by refine rwC (hp ..) ?_;decide⟩) hu h
end
section
variable {C:ba}{D:aN}{T:Tbl}
theorem q_unhit (t:Int) (l:List Int) (Q:K):bE C D GG (aX 124) [.host,.int t,.list (l.map .int)] T Q=(bA (lp C D 124 0 39) (Ah (Aa) l) [some BD,some (Aa t),some (Ad (Ah (Aa) l)),none] 0 { cps:=#[] } T (rs C D 124 0 40 (fun x x_1 x_2 T=>Q By T) (fun x x_1 x_2 x_3=>False) Q) Q):=by kernel_rfl
theorem tE (t:Int) (l:List Int) (Q:K):bE C D GG (aX 126) [.host,.int t,.list (l.map .int)] T Q=(C ("Thin.force") [BD,Aa t] T fun v T=>C ("narrow_unhit") [BD,v,Ad (Ah (Aa) l)] T fun a T=>eqP a (Aa 2) fun c=>Q (Aq c) T):=by kernel_rfl
theorem q_switch (t:Int) (b h:List Int) (d:Bool) (Q:K):bE C D GG (aX 125) [.host,.int t,.list (b.map .int),.list (h.map .int),.bool d] T Q=(C ("narrow_unhit") [BD,Aa t,Ad (Ah (Aa) b)] T fun v T=>aa d (aa ((Ah (Aa) h).length.ble cap) (ay (fun a a_1 a_2=>C ("narrow_equal") [BD,Aa t,a,Aq true,Aq true] a_1 fun u T=>a_2 (some u) T) (Ah (Aa) h) T fun l T=>aa d (aa (l.length.blt cap) (C ("union") [An,Ad (l++[v])] T fun a a_1=>Q a a_1) False) (C ("union") [An,Ad l] T fun a a_1=>Q a a_1)) False) (aa ((Ah (Aa) h).length.ble cap) (ay (fun a a_1 a_2=>C ("narrow_equal") [BD,v,a,Aq true,Aq true] a_1 fun u T=>a_2 (some u) T) (Ah (Aa) h) T fun l T=>aa d (aa (l.length.blt cap) (C ("union") [An,Ad (l++[v])] T fun a a_1=>Q a a_1) False) (C ("union") [An,Ad l] T fun a a_1=>Q a a_1)) False)):=by kernel_rfl
theorem td (t:Int) (p:AV) (v:Int) (o:Option AV) (nx br:Kn) (kr:K):lp C D 124 0 39 (.int v) [some .host,some (.int t),some p,o] 0 ⟨#[]⟩ T nx br kr=(C ("narrow_equal") [BD,Aa t,Aa v,Aq false,Aq true] T fun v_1 T=>nx [some BD,some v_1,some p,some (Aa v)] 0 { cps:=#[] } T):=by kernel_rfl
theorem tc (t:Int) (p:AV) (o:Option AV) (nx br:Kn) (kr:K):rs C D 124 0 40 nx br kr [some .host,some (.int t),some p,o] 0 ⟨#[]⟩ T=(kr (Aa t) T):=by kernel_rfl
end
inductive Tyk (T:Tbl):List Int→List (List Atom)→Prop
 | nil:Tyk T [] []
 | cons {t l ts L}:Ty T t l→Tyk T ts L→Tyk T (t::ts) (l::L)
theorem Tyk.mono {T T':Tbl}{ts:List Int}{L:List (List Atom)} (h:Tyk T ts L) (n:T'.Nodup) (p:T <+: T'):Tyk T' ts L:=by
 induction h with
 | nil=>exact .nil
 | cons a _ ih=>exact .cons (a.mono n p) ih
theorem WV_congr {l:List Atom}{s s':List Int} (h:∀v,v∈s↔v∈s') (v:Int):WV l s v↔WV l s' v:=by
 unfold WV;constructor
 ·rintro ⟨a,h1,h2,h3⟩;exact ⟨a,h1,h2,h3.imp id fun q z=>q ((h v).mpr z)⟩
 ·rintro ⟨a,h1,h2,h3⟩;exact ⟨a,h1,h2,h3.imp id fun q z=>q ((h v).mp z)⟩
theorem vP {l:List Atom} (v:Int):WV l [] v↔bR l v:=by
 unfold WV ex
 by_cases e:l=[.unk]
 ·refine rwC (if_pos e ..) ?_;subst e;rw [ew];constructor
  ·rintro ⟨a,_,h,_⟩;exact eW a v h
  ·intro h;have:∀v∈vals .unk,v∈vals .undef∨v∈vals .null∨v∈vals .empty:=by decide
   rcases this v h with q | q | q
   ·exact ⟨.undef,.head _,q,.inr nofun⟩
   ·exact ⟨.null,.tail _ (.head _),q,.inr nofun⟩
   ·exact ⟨.empty,.tail _ (.tail _ (.head _)),q,.inr nofun⟩
 ·refine rwC (if_neg e ..) ?_;exact ⟨(fun zq1=>by obtain ⟨a,h1,h2,_⟩:=zq1;exact ⟨a,h1,h2⟩),fun zq2=>by obtain ⟨a,h1,h2⟩:=zq2;exact ⟨a,h1,h2,.inr nofun⟩⟩
noncomputable def KOk (K:List Atom):Prop:=K=[.unk]∨∀b∈K,cR b=true
section
variable {W:Wd}{n k:Nat}{T:Tbl}{Q:K}{t u:Int}{a b:Atom}{l K:List Atom} (wf:WF W)
include wf
theorem qR {KS:List AV}{kn:Kn}{ks:List Int}{Ks:List (List Atom)} (z:Tyk T ks Ks):∀{T1 t1 l1 o},T <+: T1→Gd (k+ks.length) T1→Ty T1 t1 l1 →
  (∀t' T' l' o,Gd k T'→T1 <+: T'→Ty T' t' l'→(∀s v,WV l' s v↔WV l1 (s++Ks.flatMap dl) v)→(l'=[.unk]→l1=[.unk])→kn [some .host,some (.int t'),some (.list KS),o] 0 ⟨#[]⟩ T') →
  bA (lp (Calls W (n+10)) (aw W (n+10)) 124 0 39) (ks.map .int) [some .host,some (.int t1),some (.list KS),o] 0 ⟨#[]⟩ T1 kn Q:=by
 induction z with
 | nil=>exact fun p g y fin=>fin _ _ _ _ g (AO _) y (fun s v=>by rw [List.flatMap_nil,AG]) id
 | cons yk _ ih =>
  exact fun p g y fin=>(td ..).mpr (iQ wf (g.mono (by rw [AK];lia)) y (yk.mono g.1.nodup p) fun t3 T3 l3 g3 p3 y3 m3 u3=>ih (p.trans p3) g3 y3 fun t' T' l' o g' p' y' m' u'=>fin t' T' l' o g' (p3.trans p') y' (fun s v=>by
   rw [m',m3];refine WV_congr (fun w=>?_) v;rw [List.flatMap_cons,AQ,Ao,Ao,Ao,Ao];exact or_congr Iff.rfl or_comm) fun e=>u3 (u' e))
theorem eH {ks:List Int}{Ks:List (List Atom)} (g:Gd (k+ks.length) T) (y:Ty T t l) (z:Tyk T ks Ks)
  (h:∀t' T' l',Gd k T'→T <+: T'→Ty T' t' l'→(∀s v,WV l' s v↔WV l (s++Ks.flatMap dl) v)→(l'=[.unk]→l=[.unk])→Q (.int t') T') :
  Calls W (n+11) "narrow_unhit" [.host,.int t,.list (ks.map .int)] T Q :=
 ah wf rfl ((q_unhit ..).mpr (qR wf z (AO _) g y fun t' T' l' o g' p' y' m' u'=>(tc ..).mpr (h t' T' l' g' p' y' m' u')))
theorem jR {ks:List Int}{Ks:List (List Atom)} (g:Gd (k+ks.length) T) (y:Ty T t l) (z:Tyk T ks Ks)
  (h:∀(b:Bool) T',Gd k T'→T <+: T'→(b=true↔∀v,¬WV l (Ks.flatMap dl) v)→Q (.bool b) T') :
  Calls W (n+12) "is_exhausted" [.host,.int t,.list (ks.map .int)] T Q:=by
 refine ah wf rfl ((tE ..).mpr (je wf (eH wf g y z fun t2 T2 l2 g2 p2 y2 m2 _=>eq_ii (h _ T2 g2 p2 ?_))));rw [decide_eq_true_eq,y2.never_iff g2.1];have hm:∀v,bR l2 v↔WV l (Ks.flatMap dl) v:=fun v=>by rw [← vP,m2,List.nil_append]
 constructor
 ·rintro rfl v hv;exact ci v ((hm v).mpr hv)
 ·intro hn;cases l2 with
  | nil=>rfl
  | cons a r =>
   refine eE1 (sg a) fun v hv=>?_;exact absurd ((hm v).mp ⟨a,.head _,hv⟩) (hn v)
theorem ix {hs:List Int}{Hs:List (List Atom)}{F:List AV→Tbl→Prop} (g:Gd (k+64*hs.length) T) (y:Ty T t l) (zh:Tyk T hs Hs) (hK:∀K∈Hs,KOk K∧(l=[.unk]→.void∉K))
  (h:∀ts L T',Tys T' ts L→Gd k T'→T <+: T'→ts.length=hs.length→(∀v,bR L v↔∃K∈Hs,bR l v∧bR K v)→F (ts.map .int) T') :
  ay (fun a T P=>Calls W (n+11) "narrow_equal" [BD,Aa t,a,Aq true,Aq true] T fun u T=>P (some u) T) (hs.map .int) T F:=by
 refine fE (out:=[]) (Q:=F) (fun hs' out T1=>∃Hs1 Hs2 ts L,Tyk T1 hs' Hs2∧Hs=Hs1++Hs2∧out=ts.map .int∧Tys T1 ts L∧Gd (k+64*hs'.length) T1∧T <+: T1∧ts.length+hs'.length=hs.length∧∀v,bR L v↔∃K∈Hs1,bR l v∧bR K v)
  ⟨[],Hs,[],[],zh,rfl,rfl,.nil,g,AO _,CC _,fun v=>⟨fun q=>absurd q (ci v),fun zq1=>by obtain ⟨_,q,_⟩:=zq1;exact nomatch q⟩⟩ ?_ ?_
 ·intro x hs' out T3 P zh1 hn;refine bc fun zz=>?_;refine eE4 (zh1) fun Hs1 Hs2 ts L zt1=>aA8 zt1 fun z3 e2 zr2 yL g3 p3 hl3 hV=>?_;refine zz ?_;subst zr2;cases z3 with | @cons _ K _ Hs2 yk zs =>
  have km:K∈Hs:=by refine rwC (e2 ..) ?_;exact Ak _ (.head _)
  rw [AK] at g3 hl3;refine gR wf (k:=k+64*hs'.length) (g3.mono (by lia)) (y.mono g3.1.nodup p3) yk (hK K km).1 (hK K km).2 fun t4 T4 l4 g4 p4 y4 m4=>hn _ _ ⟨Hs1++[K],Hs2,ts++[t4],L++(l4++[]),zs.mono g4.1.nodup p4,by refine rwC (e2 ..) ?_;refine rwC (AQ ..) ?_;rfl,by refine rwC (AI ..) ?_;rfl,(yL.mono g4.1.nodup p4).append (.cons y4 .nil),g4,p3.trans p4,by refine rwC (Ar ..) ?_;refine rwC (AL ..) ?_;lia,fun v=>?_⟩;rw [cf,AG,hV,m4];constructor
  ·rintro (⟨K',h1,h2⟩ | h2)
   ·exact ⟨K',Ap _ h1,h2⟩
   ·exact ⟨K,Ak _ (.head _),h2⟩
  ·intro zh3;refine bc fun zz=>?_;refine eE1 (zh3) fun K' zt2=>aA2 zt2 fun h1 h2=>?_;rcases Ao.mp h1 with h1 | h1
   ·refine zz ?_;exact .inl ⟨K',h1,h2⟩
   ·refine zz ?_;replace h2:=(Ae.mp h1 ..)▸h2;exact .inr h2
 ·intro out T3 zh4;refine bc fun zz=>?_;refine eE4 (zh4) fun Hs1 Hs2 ts L zt3=>aA8 zt3 fun z3 e2 zr5 yL g3 p3 hl3 hV=>?_;refine zz ?_;subst zr5;cases z3;replace e2:=(AG ..)▸e2;subst e2;exact h ts L T3 yL (g3.mono (Cn _ _)) p3 (by replace hl3:=(List.length_nil ..)▸hl3;lia) hV
theorem iP {bs hs:List Int}{Bs Hs:List (List Atom)}{d:Bool} (g:Gd (k+1+bs.length+64*hs.length) T) (y:Ty T t l) (zb:Tyk T bs Bs) (zh:Tyk T hs Hs) (hK:∀K∈Hs,KOk K∧(l=[.unk]→.void∉K)) (hlen:hs.length<100)
  (h:∀t' T' l',Gd k T'→T <+: T'→Ty T' t' l'→(∀v,bR l' v↔(∃K∈Hs,(if d=true then bR l v else WV l (Bs.flatMap dl) v)∧bR K v)∨(d=true∧WV l (Bs.flatMap dl) v))→Q (.int t') T') :
  Calls W (n+12) "narrow_switch" [.host,.int t,.list (bs.map .int),.list (hs.map .int),.bool d] T Q:=by
 have hc:(Ah Aa hs).length≤cap:=by refine rwC (Aj ..) ?_;exact BS (Nat.lt_of_lt_of_le hlen (by decide))
 refine ah wf rfl ((q_switch ..).mpr (eH wf (k:=k+1+64*hs.length) (g.mono (by lia)) y zb fun t2 T2 l2 g2 p2 y2 m2 u2=>?_));have hz:=zh.mono g2.1.nodup p2;cases d with
 | true =>
  refine ce rfl (bf hc (ix wf (k:=k+1) g2 (y.mono g2.1.nodup p2) hz hK fun ts L T3 yL g3 p3 hl3 hV=>ce rfl (bS ?_ ?_)))
  ·refine rwC (Aj ..) ?_;refine rwC (hl3 ..) ?_;exact Nat.lt_of_lt_of_le hlen (by decide)
  have e4:Ah Aa ts++[Aa t2]=(ts++[t2]).map .int:=by refine rwC (AI ..) ?_;rfl
  refine rwC (e4 ..) ?_;refine bF wf g3 (yL.append (.cons (y2.mono g3.1.nodup p3) .nil)) (.inr rfl) fun t5 T5 l5 g5 p5 y5 m5=>h t5 T5 l5 g5 (p2.trans (p3.trans p5)) y5 fun v=>?_;rw [bj m5,cf,AG,hV,← vP (l:=l2),m2,List.nil_append];simp
 | false =>
  refine aR rfl (bf hc (ix wf (k:=k+1) g2 y2 hz (fun K m=>⟨(hK K m).1,fun e=>(hK K m).2 (u2 e)⟩) fun ts L T3 yL g3 p3 hl3 hV=>aR rfl ?_));refine bF wf g3 yL (.inr rfl) fun t5 T5 l5 g5 p5 y5 m5=>h t5 T5 l5 g5 (p2.trans (p3.trans p5)) y5 fun v=>?_;rw [bj m5,hV];simp only [← vP (l:=l2),m2,List.nil_append];simp
end
section
variable {C:ba}{D:aN}{T:Tbl}
theorem q_texts (Q:K):bE C D GG (aX 132) [] T Q=(Q (AV.sdict [("a",4),("b",5),("",6)]) T):=by kernel_rfl
theorem tj (Q:K):bE C D GG (aX 133) [] T Q=(Q (Cd [(0,8),(1,9),(2,10),((-1),11)]) T):=by kernel_rfl
theorem q_trow (t:Int) (Q:K):bE C D GG (oh 53 1) [.tab,.int t] T Q=(aa (decide (0≤t)) (ak T[t.toNat]? fun r=>Q (Al (Ah (Cell.av) r)) T) False):=by kernel_rfl
theorem ra (x:Str) (f:Int) (Q:K):bE C D GG (aX 56) [.tab,.str x,.int f] T Q=(ak (ir [Al [Aa 3,CE x,Aa f]]) fun r=>rW T r fun a a_1=>Q a a_1):=by kernel_rfl
theorem rb (x f:Int) (Q:K):bE C D GG (aX 57) [.tab,.int x,.int f] T Q=(rW T [Cell.int 4,Cell.int x,Cell.int f] fun a a_1=>Q a a_1):=by kernel_rfl
theorem kW (d f:Int) (nm:Str) (c:Cell) (Q:K):bE C D GG (aX 58) [.tab,.int d,.str nm,c.av,.int f] T Q=(ak (ir [Al [Aa 5,Aa d,CE nm,c.av,Aa f]]) fun r=>rW T r fun a a_1=>Q a a_1):=by kernel_rfl
theorem q_atom (p f:Int) (Q:K):bE C D GG (aX 134) [.tab,.int p,.int f] T Q=(aa (decide (p<7)) (aa (decide (f=1)) (aa (decide (p=2)) (ak ((aj (p - 2) [Aa 14,Aa 15].length).bind fun k=>[Aa 14,Aa 15][k]?) fun w=>Q w T) (aa (decide (p=3)) (ak ((aj (p - 2) [Aa 14,Aa 15].length).bind fun k=>[Aa 14,Aa 15][k]?) fun w=>Q w T) (ak ((aj p [Aa 4,Aa 5,Aa 8,Aa 9,Aa 6,Aa 7,Aa 3].length).bind fun k=>[Aa 4,Aa 5,Aa 8,Aa 9,Aa 6,Aa 7,Aa 3][k]?) fun w=>Q w T))) (ak ((aj p [Aa 4,Aa 5,Aa 8,Aa 9,Aa 6,Aa 7,Aa 3].length).bind fun k=>[Aa 4,Aa 5,Aa 8,Aa 9,Aa 6,Aa 7,Aa 3][k]?) fun w=>Q w T)) (aa (decide (p<10)) (ak ((aj (p - 7) [CE ("a"),CE ("b"),CE ("")].length).bind fun k=>[CE ("a"),CE ("b"),CE ("")][k]?) fun w=>C ("str_type") [An,w,Aa f] T fun a a_1=>Q a a_1) (aa (decide (p<14)) (ak ((aj (p - 10) [Aa 0,Aa 1,Aa 2,Aa (-1)].length).bind fun k=>[Aa 0,Aa 1,Aa 2,Aa (-1)][k]?) fun w=>C ("num_type") [An,w,Aa f] T fun a a_1=>Q a a_1) (aa (decide (p<16)) (dT (CE ("AB")) (p - 14) fun w=>C ("member_type") [An,Aa 1,w,Aa (p - 14),Aa f] T fun a a_1=>Q a a_1) (aa (decide (p=16)) (C ("member_type") [An,Aa 2,CE ("S"),CE ("a"),Aa f] T fun a a_1=>Q a a_1) (Q (Aa 1) T)))))):=by kernel_rfl
theorem kS (t:Int) (Q:K):bE C D GG (aX 135) [.tab,.int t] T Q=(C ("TypeTable.row") [An,Aa t] T fun v T=>dT v 0 fun w=>eqP w (Aa 6) fun c=>aa c (dT v 1 fun w=>aq w fun items=>bA (lp C D 135 0 38) items [some An,some (Aa t),some v,some (AE []),none,none] 0 { cps:=#[] } T (rs C D 135 0 39 (tl C D 135 2 40 (fun x x_1 x_2=>Q By) (fun x x_1 x_2 x_3=>False) Q) (fun x x_1 x_2 x_3=>False) Q) Q) (aa (decide (t=2)) (Q (AE []) T) (aa (decide (t=11)) (iw 7 7 (AE [0,1,2,3,4,5,6,7,8,9,10,11,12,13]) (AE [0,1]) (((AE (bp ((fun x=>(Aa 0).i::x) ((fun x=>(Aa 1).i::x) ((fun x=>(Aa 2).i::x) ((fun x=>(Aa 3).i::x) ((fun x=>(Aa 4).i::x) ((fun x=>(Aa 5).i::x) ((fun x=>(Aa 6).i::x) ((fun x=>(Aa 7).i::x) ((fun x=>(Aa 8).i::x) ((fun x=>(Aa 9).i::x) ((fun x=>(Aa 10).i::x) ((fun x=>(Aa 11).i::x) ((fun x=>(Aa 12).i::x) ((fun x=>(Aa 13).i::x) [])))))))))))))))).z=[0,1,2,3,4,5,6,7,8,9,10,11,12,13]∧(AE (bp ((fun x=>(Aa 0).i::x) ((fun x=>(Aa 1).i::x) [])))).z=[0,1])∧(fun v=>Q v T) (AE [2,3,4,5,6,7,8,9,10,11,12,13]))) (aq (Bm 0 8) fun items=>bA (lp C D 135 1 39) items [some An,some (Aa t),some v,none,none,none] 0 { cps:=#[] } T (rs C D 135 1 40 (fun x x_1 x_2 T=>Q By T) (fun x x_1 x_2 x_3=>False) Q) Q)))):=by kernel_rfl
theorem qZ (t p:Int) (r:Row) (s:List Int) (o1 o2:Option AV) (nx br:Kn) (kr:K):lp C D 135 0 38 (.int p) [some An,some (Aa t),some (aU r),some (AE s),o1,o2] 0 ⟨#[]⟩ T nx br kr=(C ("_law_values") [An,Aa p] T fun b T=>aa (true && b.k.beq 7) (nx [some An,some (Aa t),some (Al (Ah (Cell.av) r)),some (AE (bp (s++b.z))),some (Aa p),o2] 0 { cps:=#[] } T) False):=by kernel_rfl
theorem qY (t:Int) (r:Row) (s:List Int) (o1 o2:Option AV) (nx br:Kn) (kr:K):rs C D 135 0 39 nx br kr [some An,some (Aa t),some (aU r),some (AE s),o1,o2] 0 ⟨#[]⟩ T=(kr (AE s) T):=by kernel_rfl
theorem fS (t i:Int) (r:Row) (o:Option AV) (nx br:Kn) (kr:K):lp C D 135 1 39 (.int i) [some An,some (Aa t),some (aU r),none,none,o] 0 ⟨#[]⟩ T nx br kr=(aa (decide (i<7)) (ak ((aj i [Aa 4,Aa 5,Aa 8,Aa 9,Aa 6,Aa 7,Aa 3].length).bind fun k=>[Aa 4,Aa 5,Aa 8,Aa 9,Aa 6,Aa 7,Aa 3][k]?) fun w=>aa (w.k.beq 2) (aa (decide (t=w.i)) (ak ((aj i [Al [Aa 0],Al [Aa 1],Al [Aa 2],Al [Aa 3],Al [Aa 4,Aa 5,Aa 6,Aa 7],Al [Aa 8,Aa 9,Aa 10,Aa 11,Aa 12],Al [Aa 0],Al [Aa 4],Al [Aa 5],Al [Aa 6],Al [Aa 8],Al [Aa 9],Al [Aa 10],Al [Aa 11],Al [Aa 8],Al [Aa 9],Al [Aa 4],Al [Aa 0,Aa 1,Aa 2,Aa 3,Aa 4,Aa 5,Aa 6,Aa 7,Aa 8,Aa 9,Aa 10,Aa 11,Aa 12,Aa 13]].length).bind fun k=>[Al [Aa 0],Al [Aa 1],Al [Aa 2],Al [Aa 3],Al [Aa 4,Aa 5,Aa 6,Aa 7],Al [Aa 8,Aa 9,Aa 10,Aa 11,Aa 12],Al [Aa 0],Al [Aa 4],Al [Aa 5],Al [Aa 6],Al [Aa 8],Al [Aa 9],Al [Aa 10],Al [Aa 11],Al [Aa 8],Al [Aa 9],Al [Aa 4],Al [Aa 0,Aa 1,Aa 2,Aa 3,Aa 4,Aa 5,Aa 6,Aa 7,Aa 8,Aa 9,Aa 10,Aa 11,Aa 12,Aa 13]][k]?) fun w=>aa (w.k.beq 4) (ak (aB w.l) fun l=>aa (bh l) (kr (AE (bp l)) T) False) False) (nx [some An,some (Aa t),some (Al (Ah (Cell.av) r)),none,none,some (Aa i)] 0 { cps:=#[] } T)) False) (nx [some An,some (Aa t),some (Al (Ah (Cell.av) r)),none,none,some (Aa i)] 0 { cps:=#[] } T)):=by kernel_rfl
theorem cA (t:Int) (r:Row) (o:Option AV) (nx br:Kn) (kr:K):rs C D 135 1 40 nx br kr [some An,some (Aa t),some (aU r),none,none,o] 0 ⟨#[]⟩ T=(aa (decide (t=1)) (kr (AE [0,1,2,3,4,5,6,7,8,9,10,11,12,13]) T) (ak ((aj 0 (Ah (Cell.av) r).length).bind fun k=>(Ah (Cell.av) r)[k]?) fun w=>eqP w (Aa 2) fun c=>aa c (ak ((aj 1 (Ah (Cell.av) r).length).bind fun k=>(Ah (Cell.av) r)[k]?) fun w=>aa (w.k.beq 2) (aa (bh [2+w.i]) (kr (AE [2+w.i]) T) False) False) (ak ((aj 0 (Ah (Cell.av) r).length).bind fun k=>(Ah (Cell.av) r)[k]?) fun w=>eqP w (Aa 3) fun c=>aa c (C ("_law_texts") [] T fun v T=>oO (fun a a_1 a_2 a_3=>C a a_1 a_2 fun a a_4=>a_3 a a_4) v ("get") (fun L=>ak ((aj 1 (Ah (Cell.av) r).length).bind fun k=>(Ah (Cell.av) r)[k]?) fun w=>L [w,Aa (-1)] T) fun v T=>ak (aB [v]) fun ns=>aa (bh ns) (kr (AE (bp ns)) T) False) (ak ((aj 0 (Ah (Cell.av) r).length).bind fun k=>(Ah (Cell.av) r)[k]?) fun w=>eqP w (Aa 4) fun c=>aa c (C ("_law_numbers") [] T fun v T=>oO (fun a a_1 a_2 a_3=>C a a_1 a_2 fun a a_4=>a_3 a a_4) v ("get") (fun L=>ak ((aj 1 (Ah (Cell.av) r).length).bind fun k=>(Ah (Cell.av) r)[k]?) fun w=>L [w,Aa (-1)] T) fun v T=>ak (aB [v]) fun ns=>aa (bh ns) (kr (AE (bp ns)) T) False) (ak ((aj 0 (Ah (Cell.av) r).length).bind fun k=>(Ah (Cell.av) r)[k]?) fun w=>eqP w (Aa 5) fun c=>aa c (ak ((aj 3 (Ah (Cell.av) r).length).bind fun k=>(Ah (Cell.av) r)[k]?) fun w=>blt2 4 w (AV.blt 8) fun u=>au u fun c=>aa c (C ("_law_texts") [] T fun v T=>oO (fun a a_1 a_2 a_3=>C a a_1 a_2 fun a a_4=>a_3 a a_4) v ("get") (fun L=>ak ((aj 3 (Ah (Cell.av) r).length).bind fun k=>(Ah (Cell.av) r)[k]?) fun w=>L [w,Aa (-1)] T) fun v T=>ak (aB [v]) fun ns=>aa (bh ns) (kr (AE (bp ns)) T) False) (ak ((aj 0 (Ah (Cell.av) r).length).bind fun k=>(Ah (Cell.av) r)[k]?) fun w=>eqP w (Aa 5) fun c=>aa c (C ("_law_numbers") [] T fun v T=>oO (fun a a_1 a_2 a_3=>C a a_1 a_2 fun a a_4=>a_3 a a_4) v ("get") (fun L=>ak ((aj 3 (Ah (Cell.av) r).length).bind fun k=>(Ah (Cell.av) r)[k]?) fun w=>L [w,Aa (-1)] T) fun v T=>ak (aB [v]) fun ns=>aa (bh ns) (kr (AE (bp ns)) T) False) False)) (ak ((aj 0 (Ah (Cell.av) r).length).bind fun k=>(Ah (Cell.av) r)[k]?) fun w=>eqP w (Aa 5) fun c=>aa c (C ("_law_numbers") [] T fun v T=>oO (fun a a_1 a_2 a_3=>C a a_1 a_2 fun a a_4=>a_3 a a_4) v ("get") (fun L=>ak ((aj 3 (Ah (Cell.av) r).length).bind fun k=>(Ah (Cell.av) r)[k]?) fun w=>L [w,Aa (-1)] T) fun v T=>ak (aB [v]) fun ns=>aa (bh ns) (kr (AE (bp ns)) T) False) False)))))):=by kernel_rfl
end
noncomputable def allV:List Int:=[0,1,2,3,4,5,6,7,8,9,10,11,12,13]
structure IsSet (s:List Int):Prop where
 sorted:s.Pairwise (·<·)
 mem:∀v∈s,v∈allV
theorem gB:∀{s t:List Int},s.Pairwise (·<·)→t.Pairwise (·<·)→(∀v,v∈s↔v∈t)→s=t
 | [],[],_,_,_=>rfl
 | [],y::t,_,_,h=>absurd ((h y).mpr (.head _)) nofun
 | x::s,[],_,_,h=>absurd ((h x).mp (.head _)) nofun
 | x::s,y::t,hs,ht,h=>by
  have hs':=AZ.mp hs;have ht':=AZ.mp ht;have e:x=y:=by
   have h1:=(h x).mp (.head _);have h2:=(h y).mpr (.head _);rcases Ai.mp h1 with e | h1
   ·exact e
   ·rcases Ai.mp h2 with e | h2
    ·exact e.symm
    ·have a1:=ht'.1 x h1;have a2:=hs'.1 y h2;lia
  subst e;have e2:s=t:=gB hs'.2 ht'.2 fun v=>by
   constructor
   ·intro hv;have a1:=hs'.1 v hv;rcases Ai.mp ((h v).mp (.tail _ hv)) with e | q
    ·lia
    ·exact q
   ·intro hv;have a1:=ht'.1 v hv;rcases Ai.mp ((h v).mpr (.tail _ hv)) with e | q
    ·lia
    ·exact q
  rw [e2]
theorem IsSet.ext {s t:List Int} (h:IsSet s) (k:IsSet t) (e:∀v,v∈s↔v∈t):s=t:=gB h.sorted k.sorted e
theorem fR (x v:Int):∀l:List Int,v∈eU x l↔v=x∨v∈l
 | []=>by simp [eU]
 | y::r=>by
  unfold eU
  split
  ·simp
  ·split
   ·rename_i h;subst h;simp
   ·rw [Ai,fR x v r,Ai];constructor
    ·rintro (h | h | h)
     ·exact .inr (.inl h)
     ·exact .inl h
     ·exact .inr (.inr h)
    ·rintro (h | h | h)
     ·exact .inr (.inl h)
     ·exact .inl h
     ·exact .inr (.inr h)
theorem eZ (x:Int):∀{l:List Int},l.Pairwise (·<·)→(eU x l).Pairwise (·<·)
 | [],_=>by simp [eU]
 | y::r,h=>by
  have h':=AZ.mp h;unfold eU
  split
  ·rename_i q;refine AZ.mpr ⟨fun v hv=>?_,h⟩;rcases Ai.mp hv with rfl | hv
   ·exact q
   ·have:=h'.1 v hv;lia
  ·split
   ·exact h
   ·rename_i q1 q2;refine AZ.mpr ⟨fun v hv=>?_,eZ x h'.2⟩;rcases (fR x v r).mp hv with rfl | hv
    ·lia
    ·exact h'.1 v hv
theorem pQ (l acc:List Int) (h:acc.Pairwise (·<·)):(l.foldl (fun acc x=>eU x acc) acc).Pairwise (·<·)∧∀v,v∈l.foldl (fun acc x=>eU x acc) acc↔v∈acc∨v∈l:=by
 induction l generalizing acc with
 | nil=>exact ⟨h,fun v=>by simp⟩
 | cons x r ih =>
  obtain ⟨h1,h2⟩:=ih (eU x acc) (eZ x h);refine ⟨h1,fun v=>?_⟩;rw [List.foldl_cons,h2,fR,Ai];constructor
  ·rintro ((h | h) | h)
   ·exact .inr (.inl h)
   ·exact .inl h
   ·exact .inr (.inr h)
  ·rintro (h | h | h)
   ·exact .inl (.inr h)
   ·exact .inl (.inl h)
   ·exact .inr h
theorem pO (l:List Int) (v:Int):v∈bp l↔v∈l:=by
 have h:=(pQ l [] .nil).2 v;unfold bp;rw [h];simp
theorem setI_set {l:List Int} (h:∀v∈l,v∈allV):IsSet (bp l):=⟨(pQ l [] .nil).1,fun v hv=>h v ((pO l v).mp hv)⟩
theorem IsSet.or {s t:List Int} (h:IsSet s) (k:IsSet t):IsSet (bp (s++t)):=setI_set fun v hv=>(Ao.mp hv).elim (h.mem v) (k.mem v)
theorem gC (s t:List Int) (v:Int):v∈bp (s++t)↔v∈s∨v∈t:=by rw [pO,Ao]
theorem IsSet.nil:IsSet []:=⟨.nil,nofun⟩
theorem IsSet.filter {s:List Int} (h:IsSet s) (P:Int→Bool):IsSet (s.filter P):=⟨h.sorted.filter _,fun v hv=>h.mem v (Az.mp hv).1⟩
theorem ef (a:Atom):IsSet (vals a):=by
 have:=gs (p:=fun a=>decide ((vals a).Pairwise (·<·)∧∀v∈vals a,v∈allV)) (by decide +kernel) a;obtain ⟨h1,h2⟩:=of_decide_eq_true this;exact ⟨h1,h2⟩
noncomputable abbrev Pl:=_root_.Fin 18
noncomputable def pI (p:Pl):Int:=((p:Nat):Int)
noncomputable def heldL:List (List Int):=[[0],[1],[2],[3],[4,5,6,7],[8,9,10,11,12],[0],[4],[5],[6],[8],[9],[10],[11],[8],[9],[4],[0,1,2,3,4,5,6,7,8,9,10,11,12,13]]
noncomputable def dh (p:Pl):List Int:=heldL.getD p []
noncomputable def am (p:Pl) (f:Bool):Atom:=match (p:Nat) with
 | 0=>.undef
 | 1=>.null
 | 2=>.bool false f
 | 3=>.bool true f
 | 4=>.str
 | 5=>.num
 | 6=>.void
 | 7=>.sl 0 f
 | 8=>.sl 1 f
 | 9=>.sl 2 f
 | 10=>.nl 0 f
 | 11=>.nl 1 f
 | 12=>.nl 2 f
 | 13=>.nl 3 f
 | 14=>.ei 0 f
 | 15=>.ei 1 f
 | 16=>.es f
 | _=>.unk
theorem eV:∀(p:Pl) (f:Bool),vals (am p f)=dh p:=by decide +kernel
theorem ig (p:Pl):IsSet (dh p):=by rw [← eV p false];exact ef _
theorem rG:∀p:Pl,bh (dh p)=true:=by decide +kernel
theorem sQ:∀p:Pl,bp (dh p)=dh p:=by decide +kernel
theorem lV:∀(p:Pl) (f:Bool),am p f≠.empty:=by decide +kernel
theorem qH:∀(p:Pl) (f:Bool),am p f=.unk↔p=17:=by decide +kernel
theorem vJ:∀(p:Pl) (f:Bool),am p f=.void↔p=6:=by decide +kernel
theorem atom_inj:∀(p q:Pl) (f:Bool),am p f=am q f→p=q:=by decide +kernel
noncomputable def bD (p:Pl):List (List Int):=if p=17 then [[0],[1],vals .empty] else [dh p]
noncomputable def dO (ps:List Pl):List Int:=match ps with
 | [p]=>if (dh p).length=1∧p≠6 then dh p else []
 | _=>[]
theorem said_one:∀(p:Pl) (f:Bool),dl [am p f]=dO [p]:=by decide +kernel
noncomputable def allL {α:Type} (P:α→Prop):List α→Prop
 | []=>True
 | x::r=>P x∧allL P r
theorem memL {α:Type}{P:α→Prop}:∀{l:List α},allL P l→∀x,x∈l→P x
 | _::_,h,_,m=>by
  rcases Ai.mp m with rfl | m
  ·exact h.1
  ·exact memL h.2 _ m
@[elab_as_elim] theorem on18 {P:Pl→Prop} (p:Pl) (h0:P 0) (h1:P 1) (h2:P 2) (h3:P 3) (h4:P 4) (h5:P 5) (h6:P 6) (h7:P 7) (h8:P 8) (h9:P 9) (h10:P 10) (h11:P 11) (h12:P 12) (h13:P 13) (h14:P 14) (h15:P 15) (h16:P 16) (h17:P 17):P p :=
 memL (l:=[0,1,2,3,4,5,6,7,8,9,10,11,12,13,14,15,16,17]) ⟨h0,h1,h2,h3,h4,h5,h6,h7,h8,h9,h10,h11,h12,h13,h14,h15,h16,h17,trivial⟩ p (by revert p;decide +kernel)
@[elab_as_elim] theorem on4 {P:_root_.Fin 4→Prop} (p:_root_.Fin 4) (h0:P 0) (h1:P 1) (h2:P 2) (h3:P 3):P p:=memL (l:=[0,1,2,3]) ⟨h0,h1,h2,h3,trivial⟩ p (by revert p;decide)
@[elab_as_elim] theorem on3 {P:_root_.Fin 3→Prop} (p:_root_.Fin 3) (h0:P 0) (h1:P 1) (h2:P 2):P p:=memL (l:=[0,1,2]) ⟨h0,h1,h2,trivial⟩ p (by revert p;decide)
@[elab_as_elim] theorem on2 {P:_root_.Fin 2→Prop} (p:_root_.Fin 2) (h0:P 0) (h1:P 1):P p:=memL (l:=[0,1]) ⟨h0,h1,trivial⟩ p (by revert p;decide)
section
variable {T:Tbl}{Q:K}
theorem rng_go {F:List AV→Prop} (h:F [.int 0,.int 1,.int 2,.int 3,.int 4,.int 5,.int 6,.int 7]):aq (.rng 0 8) F:=⟨⟨by decide,by decide,by decide,by decide⟩,h⟩
theorem kM {t:Int} (h:16≤t):∀i:Int,i<16→decide (t=i)=false:=fun i hi=>decide_eq_false fun e=>by lia
end
section
variable {W:Wd}{n k:Nat}{T:Tbl}{Q:K}{t u:Int}{a b:Atom}{l:List Atom} (wf:WF W)
include wf
theorem iU (h:Q (.sdict [("a",4),("b",5),("",6)]) T):Calls W (n+1) "_law_texts" [] T Q:=ah wf rfl ((q_texts ..).mpr h)
theorem fj (h:Q (.idict [(0,8),(1,9),(2,10),(-1,11)]) T):Calls W (n+1) "_law_numbers" [] T Q:=ah wf rfl ((tj ..).mpr h)
theorem sA {r:Row} (R:RowOf T t r) (h:Q (aU r) T):Calls W (n+1) "TypeTable.row" [.tab,.int t] T Q:=ah wf rfl ((q_trow ..).mpr (cY R h))
theorem fP {x:Str}{f:Int}{a:Atom} (g:Gd (k+1) T) (e:aS a=[.int 3,.str x,.int f]) (h:∀t T',Gd k T'→T <+: T'→RowOf T' t (aS a)→Q (.int t) T'):Calls W (n+1) "str_type" [.tab,.str x,.int f] T Q :=
 ah wf rfl ((ra ..).mpr (ax (a:=aS a) (by rw [e];exact dp (r:=[.int 3,.str x,.int f]) (e▸eQ a)) (pR g h)))
theorem eu {x f:Int}{a:Atom} (g:Gd (k+1) T) (e:aS a=[.int 4,.int x,.int f]) (h:∀t T',Gd k T'→T <+: T'→RowOf T' t (aS a)→Q (.int t) T'):Calls W (n+1) "num_type" [.tab,.int x,.int f] T Q :=
 ah wf rfl ((rb ..).mpr (by rw [← e];exact pR g h))
theorem dB {d f:Int}{nm:Str}{c:Cell}{a:Atom} (g:Gd (k+1) T) (e:aS a=[.int 5,.int d,.str nm,c,.int f]) (h:∀t T',Gd k T'→T <+: T'→RowOf T' t (aS a)→Q (.int t) T'):Calls W (n+1) "member_type" [.tab,.int d,.str nm,c.av,.int f] T Q :=
 ah wf rfl ((kW ..).mpr (ax (a:=aS a) (by rw [e];exact dp (r:=[.int 5,.int d,.str nm,c,.int f]) (e▸eQ a)) (pR g h)))
theorem rB (g:Gd (k+1) T) (p:Pl) (f:Bool) (h:∀t T',Gd k T'→T <+: T'→At T' t (am p f)→Q (.int t) T'):Calls W (n+2) "_law_atom" [.tab,.int (pI p),.int (bI f)] T Q:=by
 refine ah wf rfl ((q_atom ..).mpr ?_);have st:∀{i:Int},gg (am p f)=some i→Q (.int i) T:=fun e=>h _ T (g.mono (Cf k)) (AO _) (dc g.1 e);replace h:=fun t2 T2 (g2:Gd k T2) (p2:T <+: T2) (r2:RowOf T2 t2 (aS (am p f)))=>h t2 T2 g2 p2 (.of g2.1 r2);revert h st;refine on18 p ?_ ?_ ?_ ?_ ?_ ?_ ?_ ?_ ?_ ?_ ?_ ?_ ?_ ?_ ?_ ?_ ?_ ?_
 ·exact fun st _=>by cases f <;> exact st rfl
 ·exact fun st _=>by cases f <;> exact st rfl
 ·exact fun st _=>by cases f <;> exact st rfl
 ·exact fun st _=>by cases f <;> exact st rfl
 ·exact fun st _=>by cases f <;> exact st rfl
 ·exact fun st _=>by cases f <;> exact st rfl
 ·exact fun st _=>by cases f <;> exact st rfl
 ·exact fun _=>fP wf (a:=.sl 0 f) g rfl
 ·exact fun _=>fP wf (a:=.sl 1 f) g rfl
 ·exact fun _=>fP wf (a:=.sl 2 f) g rfl
 ·exact fun _=>eu wf (a:=.nl 0 f) g rfl
 ·exact fun _=>eu wf (a:=.nl 1 f) g rfl
 ·exact fun _=>eu wf (a:=.nl 2 f) g rfl
 ·exact fun _=>eu wf (a:=.nl 3 f) g rfl
 ·exact fun _ h=>(show _∧_ from ⟨(by decide:(0:Int)≤0∧(0:Int)<2∧(0:Int)<1000000),dB wf (a:=.ei 0 f) g rfl h⟩)
 ·exact fun _ h=>(show _∧_ from ⟨(by decide:(0:Int)≤1∧(1:Int)<2∧(1:Int)<1000000),dB wf (a:=.ei 1 f) g rfl h⟩)
 ·exact fun _=>dB wf (a:=.es f) g rfl
 ·exact fun st _=>st rfl
end
noncomputable def sevenV:List AV:=[Aa 4,Aa 5,Aa 8,Aa 9,Aa 6,Aa 7,Aa 3]
noncomputable def heldV:List AV:=[Al [Aa 0],Al [Aa 1],Al [Aa 2],Al [Aa 3],Al [Aa 4,Aa 5,Aa 6,Aa 7],Al [Aa 8,Aa 9,Aa 10,Aa 11,Aa 12],Al [Aa 0],Al [Aa 4],Al [Aa 5],Al [Aa 6],Al [Aa 8],Al [Aa 9],Al [Aa 10],Al [Aa 11],Al [Aa 8],Al [Aa 9],Al [Aa 4],Al [Aa 0,Aa 1,Aa 2,Aa 3,Aa 4,Aa 5,Aa 6,Aa 7,Aa 8,Aa 9,Aa 10,Aa 11,Aa 12,Aa 13]]
section
variable {C:ba}{D:aN}{T:Tbl}{t i w:Int}{r:Row}{nx br kn:Kn}{kr:K}{o:Option AV}
theorem lJ {turn:nY}{v:AV}{l:List AV}{vs:an}{k:Nat}{y:Str} (h:turn v vs k y T (fun vs k y T=>bA turn l vs k y T kn kr) kn kr):bA turn (v::l) vs k y T kn kr:=h
theorem for_nil {turn:nY}{vs:an}{k:Nat}{y:Str} (h:kn vs k y T):bA turn [] vs k y T kn kr:=h
theorem val_no (hi:decide (i<7)=true) (hw:((aj i sevenV.length).bind fun k=>sevenV[k]?)=some (.int w)) (ht:decide (t=w)=false) (q:nx [some An,some (Aa t),some (aU r),none,none,some (.int i)] 0 ⟨#[]⟩ T):lp C D 135 1 39 (.int i) [some An,some (Aa t),some (aU r),none,none,o] 0 ⟨#[]⟩ T nx br kr :=
 (fS ..).mpr (ce hi (ax hw (ce rfl (aR ht q))))
theorem val_yes {ls:List Int} (hi:decide (i<7)=true) (hw:((aj i sevenV.length).bind fun k=>sevenV[k]?)=some (.int w)) (ht:decide (t=w)=true) (hl:((aj i heldV.length).bind fun k=>heldV[k]?)=some (.tup (ls.map .int))) (sm:bh ls=true) (q:kr (.set (bp ls)) T):lp C D 135 1 39 (.int i) [some An,some (Aa t),some (aU r),none,none,o] 0 ⟨#[]⟩ T nx br kr :=
 (fS ..).mpr (ce hi (ax hw (ce rfl (ce ht (ax hl (ce rfl (ax (aV ls) (ce sm q))))))))
theorem val_end (hi:decide (i<7)=false) (q:nx [some An,some (Aa t),some (aU r),none,none,some (.int i)] 0 ⟨#[]⟩ T):lp C D 135 1 39 (.int i) [some An,some (Aa t),some (aU r),none,none,o] 0 ⟨#[]⟩ T nx br kr :=
 (fS ..).mpr (aR hi q)
noncomputable def VS (C:ba) (D:aN) (T:Tbl) (t:Int) (r:Row) (kn:Kn) (kr:K) (l:List AV):Prop:=∀o,bA (lp C D 135 1 39) l [some An,some (Aa t),some (aU r),none,none,o] 0 ⟨#[]⟩ T kn kr
theorem bN {l:List AV} (hi:decide (i<7)=true) (hw:((aj i sevenV.length).bind fun k=>sevenV[k]?)=some (.int w)) (ht:decide (t=w)=false) (q:VS C D T t r kn kr l):VS C D T t r kn kr (.int i::l):=fun _=>lJ (val_no hi hw ht (q _))
theorem ip {l:List AV}{ls:List Int} (hi:decide (i<7)=true) (hw:((aj i sevenV.length).bind fun k=>sevenV[k]?)=some (.int w)) (ht:decide (t=w)=true) (hl:((aj i heldV.length).bind fun k=>heldV[k]?)=some (.tup (ls.map .int))) (sm:bh ls=true) (q:kr (.set (bp ls)) T):VS C D T t r kn kr (.int i::l):=fun _=>lJ (val_yes hi hw ht hl sm q)
theorem vs_end (q:∀o,kn [some An,some (Aa t),some (aU r),none,none,o] 0 ⟨#[]⟩ T):VS C D T t r kn kr [.int 7]:=fun _=>lJ (val_end rfl (for_nil (q _)))
theorem fN (h:VS C D T t r kn kr [.int 0,.int 1,.int 2,.int 3,.int 4,.int 5,.int 6,.int 7]):aq (.rng 0 8) fun L=>bA (lp C D 135 1 39) L [some An,some (Aa t),some (aU r),none,none,none] 0 ⟨#[]⟩ T kn kr:=rng_go (h none)
theorem fM (h:∀i:Int,i=4∨i=5∨i=8∨i=9∨i=6∨i=7∨i=3→decide (t=i)=false) (q:∀o,kn [some An,some (Aa t),some (aU r),none,none,o] 0 ⟨#[]⟩ T) :
  VS C D T t r kn kr [.int 0,.int 1,.int 2,.int 3,.int 4,.int 5,.int 6,.int 7] :=
 bN rfl rfl (h 4 (by decide)) (bN rfl rfl (h 5 (by decide)) (bN rfl rfl (h 8 (by decide)) (bN rfl rfl (h 9 (by decide)) (bN rfl rfl (h 6 (by decide)) (bN rfl rfl (h 7 (by decide)) (bN rfl rfl (h 3 (by decide)) (vs_end q)))))))
end
section
variable {W:Wd}{n k:Nat}{T:Tbl}{Q:K}{t u:Int}{a b:Atom}{l:List Atom} (wf:WF W)
include wf
theorem gJ (g:Good T) (A:At T t a) (h:Q (.set (vals a)) T):Calls W (n+2) "_law_values" [.tab,.int t] T Q:=by
 refine aA6 (A.no g) fun z0 z2 z10 z12 z13 zm=>?_;refine ah wf rfl ((kS ..).mpr (sA wf A.row (eP (db a) (aR (lC a).1 (aR (decide_eq_false z2) ?_)))));cases a with
 | undef=>cases A.fix _ rfl;exact aR rfl (fN ((ip (ls:=[0]) rfl rfl rfl rfl rfl h)))
 | null=>cases A.fix _ rfl;exact aR rfl (fN ((bN rfl rfl rfl ((ip (ls:=[1]) rfl rfl rfl rfl rfl h)))))
 | str=>cases A.fix _ rfl;exact aR rfl (fN ((bN rfl rfl rfl ((bN rfl rfl rfl ((bN rfl rfl rfl ((bN rfl rfl rfl ((ip (ls:=[4,5,6,7]) rfl rfl rfl rfl rfl h)))))))))))
 | num=>cases A.fix _ rfl;exact aR rfl (fN ((bN rfl rfl rfl ((bN rfl rfl rfl ((bN rfl rfl rfl ((bN rfl rfl rfl ((bN rfl rfl rfl ((ip (ls:=[8,9,10,11,12]) rfl rfl rfl rfl rfl h)))))))))))))
 | void=>cases A.fix _ rfl;exact aR rfl (fN ((bN rfl rfl rfl ((bN rfl rfl rfl ((bN rfl rfl rfl ((bN rfl rfl rfl ((bN rfl rfl rfl ((bN rfl rfl rfl ((ip (ls:=[0]) rfl rfl rfl rfl rfl h)))))))))))))))
 | unk=>cases A.fix _ rfl;exact aR rfl (fN (fM (fun i hi=>decide_eq_false (by lia)) fun o=>(cA ..).mpr h))
 | empty=>cases A.fix _ rfl;exact ce rfl (show _∧_ from ⟨⟨rfl,rfl⟩,h⟩)
 | bool v f =>
  have go:t=8∧f=false∧v=false∨t=9∧f=false∧v=true∨t≠1∧t≠11∧(∀i:Int,i=4∨i=5∨i=8∨i=9∨i=6∨i=7∨i=3→decide (t=i)=false):=by
   cases f with
   | true=>cases v with
    | false=>cases A.fix _ rfl;exact .inr (.inr ⟨by decide,by decide,fun i hi=>decide_eq_false (by lia)⟩)
    | true=>cases A.fix _ rfl;exact .inr (.inr ⟨by decide,by decide,fun i hi=>decide_eq_false (by lia)⟩)
   | false=>cases v with
    | false=>exact .inl ⟨A.fix _ rfl,rfl,rfl⟩
    | true=>exact .inr (.inl ⟨A.fix _ rfl,rfl,rfl⟩)
  rcases go with ⟨rfl,rfl,rfl⟩ | ⟨rfl,rfl,rfl⟩ | ⟨h1,h2,h3⟩
  ·exact aR rfl (fN ((bN rfl rfl rfl ((bN rfl rfl rfl ((ip (ls:=[2]) rfl rfl rfl rfl rfl h)))))))
  ·exact aR rfl (fN ((bN rfl rfl rfl ((bN rfl rfl rfl ((bN rfl rfl rfl ((ip (ls:=[3]) rfl rfl rfl rfl rfl h)))))))))
  ·exact aR (decide_eq_false h2) (fN (fM h3 fun o=>(cA ..).mpr (aR (decide_eq_false h1) (by cases v <;> exact h))))
 | sl j f =>
  have s:=kM (A.free rfl);exact aR (s 11 (by decide)) (fN (fM (fun i hi=>s i (by lia)) fun o=>(cA ..).mpr (aR (s 1 (by decide)) (iU wf (by revert h;refine on3 j ?_ ?_ ?_ <;> exact id)))))
 | nl j f =>
  have s:=kM (A.free rfl);exact aR (s 11 (by decide)) (fN (fM (fun i hi=>s i (by lia)) fun o=>(cA ..).mpr (aR (s 1 (by decide)) (fj wf (by revert h;refine on4 j ?_ ?_ ?_ ?_ <;> exact id)))))
 | ei j f =>
  have s:=kM (A.free rfl);exact aR (s 11 (by decide)) (fN (fM (fun i hi=>s i (by lia)) fun o=>(cA ..).mpr (aR (s 1 (by decide)) (fj wf (by revert h;refine on2 j ?_ ?_ <;> exact id)))))
 | es f =>
  have s:=kM (A.free rfl);exact aR (s 11 (by decide)) (fN (fM (fun i hi=>s i (by lia)) fun o=>(cA ..).mpr (aR (s 1 (by decide)) (iU wf h))))
theorem gI (g:Good T) (y:Ty T t l) (h:∀s,IsSet s→(∀v,v∈s↔bR l v)→Q (.set s) T):Calls W (n+3) "_law_values" [.tab,.int t] T Q:=by
 refine bc fun zz=>?_;rcases y.shape with ⟨zr1,zr2⟩ | ⟨a,zr3,e⟩ | ⟨q1,q2,q3⟩
 ·refine zz ?_;subst zr1;subst zr2;exact ah wf rfl ((kS ..).mpr (sA wf (bW g (i:=2) (r:=[.int 1,.str "never"]) rfl) (h [] .nil fun v=>⟨nofun,fun q=>absurd q (ci v)⟩)))
 ·refine zz ?_;subst zr3;exact gJ wf (n:=n+1) g (y.at g) (h _ (ef a) fun v=>(ew a v).symm)
 ·refine zz ?_;refine ah wf rfl ((kS ..).mpr (sA wf q3 ?_));show bA _ ((l.map (idA T)).map .int) _ _ _ _ _ _;rw [aG];exact nH (a:=[]) (fun p s _ _=>IsSet s∧∀v,v∈s↔bR p v) (fun s o1 o2=>[some .tab,some (.int t),some (aU [.int 6,.nums (l.map (idA T))]),some (.set s),o1,o2]) ⟨.nil,fun v=>⟨nofun,fun q=>absurd q (ci v)⟩⟩
   (fun p x c s o1 o2 nx e3 i hn=>(qZ ..).mpr (gJ wf g (At.idA g (y.mem x (by rw [e3];exact Ak _ (.head _)))) (ce rfl (hn _ _ _ ⟨i.1.or (ef x),fun v=>by rw [gC,i.2,cf,ew];exact Iff.rfl⟩)))) fun s o1 o2 i=>(qY ..).mpr (h s i.1 i.2)
end
section
variable {C:ba}{D:aN}{T:Tbl}
theorem q_lparts (l:List Int) (Q:K):bE C D GG (aX 136) [.list (l.map .int)] T Q=(bA (lp C D 136 0 39) (Ah (Aa) l) [some (Ad (Ah (Aa) l)),some (Ad []),none] 1 ("out") T (rs C D 136 0 40 (fun x x_1 x_2 T=>Q By T) (fun x x_1 x_2 x_3=>False) Q) Q):=by kernel_rfl
theorem rg (a:AV) (p:Int) (l:List AV) (o:Option AV) (nx br:Kn) (kr:K):lp C D 136 0 39 (.int p) [some a,some (.list l),o] 1 "out" T nx br kr=(aa (decide (p=17)) (aa (l.length.blt cap) (aa ((l++[AE [0]]).length.blt cap) (iw 7 7 (AE [0,1,2,3,4,5,6,7,8,9,10,11,12,13]) (AE [0,1]) (((AE (bp ((fun x=>(Aa 0).i::x) ((fun x=>(Aa 1).i::x) ((fun x=>(Aa 2).i::x) ((fun x=>(Aa 3).i::x) ((fun x=>(Aa 4).i::x) ((fun x=>(Aa 5).i::x) ((fun x=>(Aa 6).i::x) ((fun x=>(Aa 7).i::x) ((fun x=>(Aa 8).i::x) ((fun x=>(Aa 9).i::x) ((fun x=>(Aa 10).i::x) ((fun x=>(Aa 11).i::x) ((fun x=>(Aa 12).i::x) ((fun x=>(Aa 13).i::x) [])))))))))))))))).z=[0,1,2,3,4,5,6,7,8,9,10,11,12,13]∧(AE (bp ((fun x=>(Aa 0).i::x) ((fun x=>(Aa 1).i::x) [])))).z=[0,1])∧(fun v=>(fun v T=>ai ((Ad ((Ad ((Ad l).l++[AE (bp ((fun x=>(Aa 0).i::x) []))])).l++[AE (bp ((fun x=>(Aa 1).i::x) []))])).l.length.blt cap) ((fun vs k y T=>ssP (exS (ctA C D 136) 38) [] vs k y T (fun vs k y T=>ssP (exS (ctA C D 136) 39) [] vs k y T nx br kr) br kr) ((ctA C D 136).put ("out") (Ad ((Ad ((Ad ((Ad l).l++[AE (bp ((fun x=>(Aa 0).i::x) []))])).l++[AE (bp ((fun x=>(Aa 1).i::x) []))])).l++[v])) ((ctA C D 136).put ("out") (Ad ((Ad ((Ad l).l++[AE (bp ((fun x=>(Aa 0).i::x) []))])).l++[AE (bp ((fun x=>(Aa 1).i::x) []))])) ((ctA C D 136).put ("out") (Ad ((Ad l).l++[AE (bp ((fun x=>(Aa 0).i::x) []))])) ((ctA C D 136).put (lpX (lpS 136 0)) (Aa p) [some a,some (Ad l),o])))) 1 ("out") T)) v T) (AE [2,3,4,5,6,7,8,9,10,11,12,13]))) False) False) (ak ((aj p [Al [Aa 0],Al [Aa 1],Al [Aa 2],Al [Aa 3],Al [Aa 4,Aa 5,Aa 6,Aa 7],Al [Aa 8,Aa 9,Aa 10,Aa 11,Aa 12],Al [Aa 0],Al [Aa 4],Al [Aa 5],Al [Aa 6],Al [Aa 8],Al [Aa 9],Al [Aa 10],Al [Aa 11],Al [Aa 8],Al [Aa 9],Al [Aa 4],Al [Aa 0,Aa 1,Aa 2,Aa 3,Aa 4,Aa 5,Aa 6,Aa 7,Aa 8,Aa 9,Aa 10,Aa 11,Aa 12,Aa 13]].length).bind fun k=>[Al [Aa 0],Al [Aa 1],Al [Aa 2],Al [Aa 3],Al [Aa 4,Aa 5,Aa 6,Aa 7],Al [Aa 8,Aa 9,Aa 10,Aa 11,Aa 12],Al [Aa 0],Al [Aa 4],Al [Aa 5],Al [Aa 6],Al [Aa 8],Al [Aa 9],Al [Aa 10],Al [Aa 11],Al [Aa 8],Al [Aa 9],Al [Aa 4],Al [Aa 0,Aa 1,Aa 2,Aa 3,Aa 4,Aa 5,Aa 6,Aa 7,Aa 8,Aa 9,Aa 10,Aa 11,Aa 12,Aa 13]][k]?) fun w=>aa (w.k.beq 4) (ak (aB w.l) fun l_1=>aa (bh l_1) (aa (l.length.blt cap) (nx [some a,some (Ad (l++[AE (bp l_1)])),some (Aa p)] 1 ("out") T) False) False) False)):=by kernel_rfl
theorem rf (a:AV) (l:List AV) (o:Option AV) (nx br:Kn) (kr:K):rs C D 136 0 40 nx br kr [some a,some (.list l),o] 1 "out" T=(kr (Ad l) T):=by kernel_rfl
theorem q_lall (l:List Int) (Q:K):bE C D GG (aX 138) [.list (l.map .int)] T Q=(bA (lp C D 138 0 39) (Ah (Aa) l) [some (Ad (Ah (Aa) l)),some (AE []),none] 0 { cps:=#[] } T (rs C D 138 0 40 (fun x x_1 x_2 T=>Q By T) (fun x x_1 x_2 x_3=>False) Q) Q):=by kernel_rfl
theorem q_lall_1 (a:AV) (p:Int) (s:List Int) (o:Option AV) (nx br:Kn) (kr:K):lp C D 138 0 39 (.int p) [some a,some (.set s),o] 0 ⟨#[]⟩ T nx br kr=(ak ((aj p [Al [Aa 0],Al [Aa 1],Al [Aa 2],Al [Aa 3],Al [Aa 4,Aa 5,Aa 6,Aa 7],Al [Aa 8,Aa 9,Aa 10,Aa 11,Aa 12],Al [Aa 0],Al [Aa 4],Al [Aa 5],Al [Aa 6],Al [Aa 8],Al [Aa 9],Al [Aa 10],Al [Aa 11],Al [Aa 8],Al [Aa 9],Al [Aa 4],Al [Aa 0,Aa 1,Aa 2,Aa 3,Aa 4,Aa 5,Aa 6,Aa 7,Aa 8,Aa 9,Aa 10,Aa 11,Aa 12,Aa 13]].length).bind fun k=>[Al [Aa 0],Al [Aa 1],Al [Aa 2],Al [Aa 3],Al [Aa 4,Aa 5,Aa 6,Aa 7],Al [Aa 8,Aa 9,Aa 10,Aa 11,Aa 12],Al [Aa 0],Al [Aa 4],Al [Aa 5],Al [Aa 6],Al [Aa 8],Al [Aa 9],Al [Aa 10],Al [Aa 11],Al [Aa 8],Al [Aa 9],Al [Aa 4],Al [Aa 0,Aa 1,Aa 2,Aa 3,Aa 4,Aa 5,Aa 6,Aa 7,Aa 8,Aa 9,Aa 10,Aa 11,Aa 12,Aa 13]][k]?) fun w=>aa (w.k.beq 4) (ak (aB w.l) fun l=>aa (bh l) (nx [some a,some (AE (bp (s++bp l))),some (Aa p)] 0 { cps:=#[] } T) False) False):=by kernel_rfl
theorem q_lall_3 (a:AV) (s:List Int) (o:Option AV) (nx br:Kn) (kr:K):rs C D 138 0 40 nx br kr [some a,some (.set s),o] 0 ⟨#[]⟩ T=(kr (AE s) T):=by kernel_rfl
theorem q_lsaid (l:List AV) (Q:K):bE C D GG (aX 139) [.list l] T Q=(bA (lp C D 139 0 39) l [some (Ad l),some (AE []),none] 0 { cps:=#[] } T (rs C D 139 0 40 (fun x x_1 x_2 T=>Q By T) (fun x x_1 x_2 x_3=>False) Q) Q):=by kernel_rfl
theorem tv (a:AV) (m:List AV) (s:List Int) (o:Option AV) (nx br:Kn) (kr:K):lp C D 139 0 39 (.list m) [some a,some (.set s),o] 0 ⟨#[]⟩ T nx br kr=(aa (decide ((↑m.length:Int)=1)) (dT (Ad m) 0 fun w=>aa (w.k.beq 2) (ak ((aj w.i [Al [Aa 0],Al [Aa 1],Al [Aa 2],Al [Aa 3],Al [Aa 4,Aa 5,Aa 6,Aa 7],Al [Aa 8,Aa 9,Aa 10,Aa 11,Aa 12],Al [Aa 0],Al [Aa 4],Al [Aa 5],Al [Aa 6],Al [Aa 8],Al [Aa 9],Al [Aa 10],Al [Aa 11],Al [Aa 8],Al [Aa 9],Al [Aa 4],Al [Aa 0,Aa 1,Aa 2,Aa 3,Aa 4,Aa 5,Aa 6,Aa 7,Aa 8,Aa 9,Aa 10,Aa 11,Aa 12,Aa 13]].length).bind fun k=>[Al [Aa 0],Al [Aa 1],Al [Aa 2],Al [Aa 3],Al [Aa 4,Aa 5,Aa 6,Aa 7],Al [Aa 8,Aa 9,Aa 10,Aa 11,Aa 12],Al [Aa 0],Al [Aa 4],Al [Aa 5],Al [Aa 6],Al [Aa 8],Al [Aa 9],Al [Aa 10],Al [Aa 11],Al [Aa 8],Al [Aa 9],Al [Aa 4],Al [Aa 0,Aa 1,Aa 2,Aa 3,Aa 4,Aa 5,Aa 6,Aa 7,Aa 8,Aa 9,Aa 10,Aa 11,Aa 12,Aa 13]][k]?) fun w=>blt1 0 w fun u=>eqP u (Aa 1) fun c=>aa c (dT (Ad m) 0 fun w=>eqP w (Aa 6) fun x=>aa (!x) (dT (Ad m) 0 fun w=>aa (w.k.beq 2) (ak ((aj w.i [Al [Aa 0],Al [Aa 1],Al [Aa 2],Al [Aa 3],Al [Aa 4,Aa 5,Aa 6,Aa 7],Al [Aa 8,Aa 9,Aa 10,Aa 11,Aa 12],Al [Aa 0],Al [Aa 4],Al [Aa 5],Al [Aa 6],Al [Aa 8],Al [Aa 9],Al [Aa 10],Al [Aa 11],Al [Aa 8],Al [Aa 9],Al [Aa 4],Al [Aa 0,Aa 1,Aa 2,Aa 3,Aa 4,Aa 5,Aa 6,Aa 7,Aa 8,Aa 9,Aa 10,Aa 11,Aa 12,Aa 13]].length).bind fun k=>[Al [Aa 0],Al [Aa 1],Al [Aa 2],Al [Aa 3],Al [Aa 4,Aa 5,Aa 6,Aa 7],Al [Aa 8,Aa 9,Aa 10,Aa 11,Aa 12],Al [Aa 0],Al [Aa 4],Al [Aa 5],Al [Aa 6],Al [Aa 8],Al [Aa 9],Al [Aa 10],Al [Aa 11],Al [Aa 8],Al [Aa 9],Al [Aa 4],Al [Aa 0,Aa 1,Aa 2,Aa 3,Aa 4,Aa 5,Aa 6,Aa 7,Aa 8,Aa 9,Aa 10,Aa 11,Aa 12,Aa 13]][k]?) fun w=>aa (w.k.beq 4) (ak (aB w.l) fun l=>aa (bh l) (nx [some a,some (AE (bp (s++bp l))),some (Ad m)] 0 { cps:=#[] } T) False) False) False) (nx [some a,some (AE s),some (Ad m)] 0 { cps:=#[] } T)) (nx [some a,some (AE s),some (Ad m)] 0 { cps:=#[] } T)) False) (nx [some a,some (AE s),some (Ad m)] 0 { cps:=#[] } T)):=by kernel_rfl
theorem tt (a:AV) (s:List Int) (o:Option AV) (nx br:Kn) (kr:K):rs C D 139 0 40 nx br kr [some a,some (.set s),o] 0 ⟨#[]⟩ T=(kr (AE s) T):=by kernel_rfl
theorem q_lleft (l:List AV) (z:List Int) (Q:K):bE C D GG (aX 140) [.list l,.set z] T Q=(aa (l.length.ble cap) (ay (fun a a_1 a_2=>blt1 0 a fun u=>aa (u.k.beq 2 && true) (aa (decide (u.i>1)) (a_2 (some a) a_1) (aa (a.k.beq 7) (aa (a.k.beq 7 && true) (aa (!a.z.all fun x=>z.contains x) (a_2 (some a) a_1) (a_2 none a_1)) False) (aa (a.k.beq 2 && false) (aa (!decide (a.i≤0)) (a_2 (some a) a_1) (a_2 none a_1)) False))) False) l T fun l T=>Q (Ad l) T) False):=by kernel_rfl
end
theorem sd:(1000:Nat)<cap:=by decide
theorem pI_eq (p q:Pl):pI p=pI q↔p=q:=by
 unfold pI;constructor
 ·intro h;exact _root_.Fin.ext (by lia)
 ·rintro rfl;rfl
theorem mP (p:Pl) (k:Nat) (hk:k<18):pI p=(k:Int)↔p=⟨k,hk⟩:=by
 unfold pI;constructor
 ·intro h;exact _root_.Fin.ext (by show (p:Nat)=k;lia)
 ·rintro rfl;rfl
theorem fW (p:Pl):(bD p).length≤3:=by revert p;decide
theorem dF {α β:Type}{f:α→List β}{c:Nat} (h:∀x,(f x).length≤c):∀l:List α,(l.flatMap f).length≤c*l.length
 | []=>by simp
 | x::l=>by
  refine rwC (List.flatMap_cons ..) ?_;refine rwC (Ar ..) ?_;refine rwC (AK ..) ?_;have:=dF h l;have:=h x;refine rwC (Nat.mul_add ..) ?_;lia
theorem heldE (p:Pl):((aj (pI p) heldV.length).bind fun k=>heldV[k]?)=some (.tup ((dh p).map .int)):=by
 obtain ⟨i,hi⟩:=p
 match i,hi with
 | 0,_ | 1,_ | 2,_ | 3,_ | 4,_ | 5,_ | 6,_ | 7,_ | 8,_ | 9,_ | 10,_ | 11,_ | 12,_ | 13,_ | 14,_ | 15,_ | 16,_ | 17,_=>rfl
 | i+18,hi=>exact absurd hi (by lia)
theorem held_go {p:Pl}{F:AV→Prop} (h:F (.tup ((dh p).map .int))):ak ((aj (pI p) heldV.length).bind fun k=>heldV[k]?) F:=ax (heldE p) h
theorem gf {p:Pl}{F:List Int→Prop} (h:F (dh p)):ak ((aj (pI p) heldV.length).bind fun k=>heldV[k]?) fun w=>aa (Aw w.k 4) (ak (aB w.l) fun l=>aa (bh l) (F (bp l)) False) False :=
 ax (heldE p) (ce rfl (ax (aV _) (ce (rG p) (by refine rwC (sQ ..) ?_;exact h))))
theorem iR {α:Type}{P:α→Prop}{pre:List α}{x:α}:(∃y∈pre++[x],P y)↔(∃y∈pre,P y)∨P x:=by
 constructor
 ·intro zh1;refine bc fun zz=>?_;obtain ⟨q,h1,h2⟩:=zh1;rcases Ao.mp h1 with h1 | h1
  ·refine zz ?_;exact .inl ⟨q,h1,h2⟩
  ·refine zz ?_;rw [Ae.mp h1] at h2;exact .inr h2
 ·rintro (⟨q,h1,h2⟩ | h2)
  ·exact ⟨q,Ap _ h1,h2⟩
  ·exact ⟨x,Ak _ (.head _),h2⟩
noncomputable abbrev be (ps:List Pl):AV:=.list ((ps.map pI).map .int)
noncomputable def subL (a b:List Int):Bool:=a.all fun x=>b.contains x
noncomputable def jQ (said p:List Int):Bool:=decide (1<p.length) || !subL p said
theorem item0 {x:AV}{l:List AV}{F:AV→Prop} (h:F x):dT (.list (x::l)) 0 F:=⟨⟨Int.le_refl 0,Int.natCast_pos.mpr (Nat.succ_pos _)⟩,h⟩
section
variable {W:Wd}{n k:Nat}{T:Tbl}{Q:K}{t u:Int}{a b:Atom}{l:List Atom} (wf:WF W)
include wf
theorem oT {ps:List Pl} (hl:ps.length≤100) (h:Q (.list ((ps.flatMap bD).map .set)) T):Calls W (n+1) "_law_parts" [.list ((ps.map pI).map .int)] T Q:=by
 refine ah wf rfl ((q_lparts ..).mpr ?_);refine rwC (aG ..) ?_;refine pd (a:=[]) (fun pre l _=>l=(pre.flatMap bD).map .set) (fun l o=>[some (.list (ps.map fun p=>.int (pI p))),some (.list l),o]) rfl (fun pre p c l o nx e3 e4 hn=>?_) fun l o e=>?_
 ·have hlen:(pre.flatMap bD).length≤3*pre.length:=dF fW pre;have hpl:pre.length≤100:=by replace hl:=(e3 ..)▸hl;replace hl:=(Ar ..)▸hl;lia
  have cc:=sd;have lm:l.length≤300:=by rw [e4,Aj];lia
  have hn:∀o',nx [some (.list (ps.map fun p=>.int (pI p))),some (.list (l++(bD p).map .set)),o'] 1 "out" T:=fun o'=>hn _ o' (by rw [e4,List.flatMap_append,AI,List.flatMap_cons,List.flatMap_nil,AG]);clear e4 e3;refine (rg ..).mpr (bK (fun q=>?_) fun q=>?_)
  ·have hp:=(mP p 17 (by decide)).mp (of_decide_eq_true q);replace hn:=(show bD p=[[0],[1],vals .empty] from if_pos hp)▸hn;replace hn:=(show l++[[0],[1],vals .empty].map AE=l++[AE [0]]++[AE [1]]++[AE (vals .empty)] from by rw [AQ,AQ];rfl)▸hn;refine bS (by lia) (bS (by rw [Ar,AL];lia) (show _∧_ from ⟨⟨rfl,rfl⟩,bS ?_ (hn _)⟩));show (l++[AE [0]]++[AE [1]]).length<cap;rw [Ar,Ar,AL,AL];lia
  ·have hp:¬p=17:=fun e=>of_decide_eq_false q ((mP p 17 (by decide)).mpr e);replace hn:=(show bD p=[dh p] from if_neg hp)▸hn;exact gf (F:=fun l_1=>aa (Cu l.length cap) (nx [_,some (Ad (l++[AE l_1])),some (Aa (pI p))] 1 "out" T) False) (bS (by lia) (hn _))
 ·rw [e];exact (rf ..).mpr h
theorem iV {ps:List Pl} (h:∀s,IsSet s→(∀v,v∈s↔∃p∈ps,v∈dh p)→Q (.set s) T):Calls W (n+1) "_law_all" [.list ((ps.map pI).map .int)] T Q:=by
 refine ah wf rfl ((q_lall ..).mpr ?_);refine rwC (aG ..) ?_;exact pd (a:=[]) (fun pre s _=>IsSet s∧∀v,v∈s↔∃p∈pre,v∈dh p) (fun s o=>[some (.list (ps.map fun p=>.int (pI p))),some (.set s),o]) ⟨.nil,fun v=>⟨nofun,fun q=>q.elim fun _ q=>nomatch q.1⟩⟩
  (fun pre p c s o nx e i hn=>(q_lall_1 ..).mpr (gf (F:=fun l=>nx [_,some (AE (bp (s++l))),_] 0 ⟨#[]⟩ T) (hn _ _ ⟨i.1.or (ig p),fun v=>by rw [gC,i.2,iR]⟩))) fun s o i=>(q_lall_3 ..).mpr (h s i.1 i.2)
theorem kt {tests:List (List Pl)} (h:∀s,IsSet s→(∀v,v∈s↔∃ps∈tests,v∈dO ps)→Q (.set s) T):Calls W (n+1) "_law_said" [.list (tests.map be)] T Q:=by
 refine ah wf rfl ((q_lsaid ..).mpr (pd (a:=[]) (fun pre s _=>IsSet s∧∀v,v∈s↔∃ps∈pre,v∈dO ps) (fun s o=>[some (.list (tests.map be)),some (.set s),o]) ⟨.nil,fun v=>⟨nofun,fun q=>q.elim fun _ q=>nomatch q.1⟩⟩ (fun pre ps c s o nx e3 i hn=>?_) fun s o i=>(tt ..).mpr (h s i.1 i.2)))
 ·have hs:=i.1;have hn:∀s',IsSet s'→(∀v,v∈s'↔v∈s∨v∈dO ps)→nx [some (.list (tests.map be)),some (.set s'),some (be ps)] 0 ⟨#[]⟩ T:=fun s' i' h'=>hn s' _ ⟨i',fun v=>by rw [h',i.2,iR]⟩;clear i e3 h;have same:dO ps=[]→nx [some (.list (tests.map be)),some (.set s),some (be ps)] 0 ⟨#[]⟩ T:=fun e=>hn s hs fun v=>by refine rwC (e ..) ?_;exact ⟨.inl,fun q=>q.resolve_right nofun⟩
  refine (tv ..).mpr ?_;cases ps with
  | nil=>exact same rfl
  | cons p r=>cases r with
  | cons q r=>exact aR (decide_eq_false (by refine rwC (Aj ..) ?_;refine rwC (Aj ..) ?_;refine rwC (AK ..) ?_;refine rwC (AK ..) ?_;lia)) (same rfl)
  | nil =>
   refine ce rfl (item0 (ce rfl (held_go ?_)));refine bK (b:=decide (((dh p).map Aa).length=(1:Int))) (fun q1=>item0 ?_) fun q1=>same ?_
   ·refine bK (b:=!decide (pI p=6)) (fun q2=>item0 (ce rfl ?_)) fun q2=>same ?_
    ·have e1:dO [p]=dh p:=if_pos ⟨by have:=of_decide_eq_true q1;replace this:=(Aj ..)▸this;lia,fun e=>by replace q2:=(show decide (pI p=6)=true from decide_eq_true ((mP p 6 (by decide)).mpr e))▸q2;exact fT q2⟩;exact gf (F:=fun l=>nx [_,some (AE (bp (s++l))),_] 0 ⟨#[]⟩ T) (hn _ (hs.or (ig p)) fun v=>by rw [gC,e1])
    ·refine if_neg fun z=>z.2 ((mP p 6 (by decide)).mp ?_);cases e:decide (pI p=6) with
     | true=>exact of_decide_eq_true e
     | false=>replace q2:=(e ..)▸q2;exact tF q2
   ·exact if_neg fun z=>of_decide_eq_false q1 (by refine rwC (Aj ..) ?_;lia)
theorem ku {parts:List (List Int)}{said:List Int} (hl:parts.length≤cap) (h:Q (.list ((parts.filter (jQ said)).map .set)) T):Calls W (n+1) "_law_left" [.list (parts.map .set),.set said] T Q:=by
 refine ah wf rfl ((q_lleft ..).mpr (bf (by rw [Aj];exact hl) (bB (p:=jQ said) (fun p hp P q=>?_) h)));unfold jQ at q;show aa (decide ((p.length:Int)>1)) _ _;refine bK (fun e=>?_) fun e=>?_
 ·rw [decide_eq_true (show 1<p.length by have:=of_decide_eq_true e;lia)] at q;exact q
 ·rw [decide_eq_false (show ¬1<p.length by have:=of_decide_eq_false e;lia)] at q;show aa (!subL p said) _ _;cases e2:subL p said with
  | true=>rw [e2] at q;exact q
  | false=>rw [e2] at q;exact q
end
section
variable {C:ba}{D:aN}{T:Tbl}
theorem q_lbody (p b o:List AV) (d:Bool) (Q:K):bE C D GG (aX 141) [.list p,.list b,.list o,.bool d] T Q=(C ("_law_said") [Ad b] T fun v T=>C ("_law_left") [Ad p,v] T fun v T=>bA (lp C D 141 0 39) o [some (Ad p),some (Ad b),some (Ad o),some (Aq d),some v,some (AE []),none,none] 0 { cps:=#[] } T (rs C D 141 0 40 (fun x x_1 x_2 T=>Q By T) (fun x x_1 x_2 x_3=>False) Q) Q):=by kernel_rfl
theorem tB (p b o lf:List AV) (d:Bool) (s:List Int) (m:List AV) (o1 o2:Option AV) (nx br:Kn) (kr:K):lp C D 141 0 39 (.list m) [some (.list p),some (.list b),some (.list o),some (.bool d),some (.list lf),some (.set s),o1,o2] 0 ⟨#[]⟩ T nx br kr=(aa d (bA (lp C D 141 1 38) p [some (Ad p),some (Ad b),some (Ad o),some (Aq d),some (Ad lf),some (AE s),some (Ad m),o2] 0 { cps:=#[] } T nx kr) (bA (lp C D 141 1 38) lf [some (Ad p),some (Ad b),some (Ad o),some (Aq d),some (Ad lf),some (AE s),some (Ad m),o2] 0 { cps:=#[] } T nx kr)):=by kernel_rfl
theorem tA (p b o lf:List AV) (d:Bool) (s z:List Int) (m:List AV) (o2:Option AV) (nx br:Kn) (kr:K):lp C D 141 1 38 (.set z) [some (.list p),some (.list b),some (.list o),some (.bool d),some (.list lf),some (.set s),some (.list m),o2] 0 ⟨#[]⟩ T nx br kr=(C ("_law_all") [Ad m] T fun b_1 T=>aa (true && b_1.k.beq 7) (nx [some (Ad p),some (Ad b),some (Ad o),some (Aq d),some (Ad lf),some (AE (bp (s++List.filter (fun x=>b_1.z.contains x) z))),some (Ad m),some (AE z)] 0 { cps:=#[] } T) False):=by kernel_rfl
theorem tz (p b o lf:List AV) (d:Bool) (s:List Int) (o1 o2:Option AV) (nx br:Kn) (kr:K):rs C D 141 0 40 nx br kr [some (.list p),some (.list b),some (.list o),some (.bool d),some (.list lf),some (.set s),o1,o2] 0 ⟨#[]⟩ T=(aa d (bA (lp C D 141 2 38) lf [some (Ad p),some (Ad b),some (Ad o),some (Aq d),some (Ad lf),some (AE s),o1,o2] 0 { cps:=#[] } T (tl C D 141 4 40 nx br kr) kr) (kr (AE s) T)):=by kernel_rfl
theorem ty (p b o lf:List AV) (d:Bool) (s z:List Int) (o1 o2:Option AV) (nx br:Kn) (kr:K):lp C D 141 2 38 (.set z) [some (.list p),some (.list b),some (.list o),some (.bool d),some (.list lf),some (.set s),o1,o2] 0 ⟨#[]⟩ T nx br kr=(nx [some (Ad p),some (Ad b),some (Ad o),some (Aq d),some (Ad lf),some (AE (bp (s++z))),o1,some (AE z)] 0 { cps:=#[] } T):=by kernel_rfl
theorem tx (p b o lf:List AV) (d:Bool) (s:List Int) (o1 o2:Option AV) (nx br:Kn) (kr:K):tl C D 141 4 40 nx br kr [some (.list p),some (.list b),some (.list o),some (.bool d),some (.list lf),some (.set s),o1,o2] 0 ⟨#[]⟩ T=(kr (AE s) T):=by kernel_rfl
end
noncomputable def dH (B:List (List Pl)) (part:List Int):Prop:=1<part.length∨∃x∈part,¬∃ps∈B,x∈dO ps
theorem np {B:List (List Pl)}{s:List Int} (hs:∀v,v∈s↔∃ps∈B,v∈dO ps) (part:List Int):jQ s part=true↔dH B part:=by
 unfold jQ dH subL;rw [Bg,decide_eq_true_eq,Br,← BW,AA];constructor
 ·rintro (h | h)
  ·exact .inl h
  ·refine .inr (Classical.byContradiction fun hn=>h fun x hx=>?_);rw [Au,hs];exact Classical.byContradiction fun hc=>hn ⟨x,hx,hc⟩
 ·rintro (h | ⟨x,hx,hc⟩)
  ·exact .inl h
  ·exact .inr fun hall=>hc ((hs x).mp (Au.mp (hall x hx)))
noncomputable def pC (parts:List (List Int)) (B O:List (List Pl)) (d:Bool) (v:Int):Prop :=
 (∃ps∈O,∃part∈parts,(d=true∨dH B part)∧v∈part∧∃p∈ps,v∈dh p)∨(d=true∧∃part∈parts,dH B part∧v∈part)
section
variable {W:Wd}{n k:Nat}{T:Tbl}{Q:K}{parts L:List (List Int)}{B O:List (List Pl)}{d:Bool}{b o lf pp:List AV} (wf:WF W)
include wf
theorem qB {Y:List (List Int)}{ps:List Pl}{s:List Int}{o2:Option AV}{nx:Kn} (hY:∀p∈Y,IsSet p) (hs:IsSet s)
  (h:∀s' o',IsSet s'→(∀v,v∈s'↔v∈s∨∃part∈Y,v∈part∧∃p∈ps,v∈dh p)→nx [some (.list pp),some (.list b),some (.list o),some (.bool d),some (.list lf),some (.set s'),some (be ps),o'] 0 ⟨#[]⟩ T) :
  bA (lp (Calls W (n+1)) (aw W (n+1)) 141 1 38) (Y.map .set) [some (.list pp),some (.list b),some (.list o),some (.bool d),some (.list lf),some (.set s),some (be ps),o2] 0 ⟨#[]⟩ T nx Q:=by
 exact pd (fun pr s' _=>IsSet s'∧∀v,v∈s'↔v∈s∨∃part∈pr,v∈part∧∃p∈ps,v∈dh p) (fun s' o'=>[some (.list pp),some (.list b),some (.list o),some (.bool d),some (.list lf),some (.set s'),some (be ps),o'])
  ⟨hs,fun v=>⟨.inl,fun q=>q.resolve_right fun q=>q.elim fun _ q=>nomatch q.1⟩⟩
  (fun pr part c s' o' nx e h hn=>(tA ..).mpr (iV wf fun sa hsa hva=>ce rfl (hn _ _ ⟨h.1.or ((hY part (by rw [e];exact Ak _ (.head _))).filter _),fun v=>by
   rw [gC,h.2,Az,iR,or_assoc];exact or_congr Iff.rfl (or_congr Iff.rfl (and_congr Iff.rfl (Au.trans (hva v))))⟩))) fun s' o' q=>h s' o' q.1 q.2
theorem rA (hl:parts.length≤400) (hp:∀p∈parts,IsSet p)
  (h:∀s,IsSet s→(∀v,v∈s↔pC parts B O d v)→Q (.set s) T):Calls W (n+2) "_law_body" [.list (parts.map .set),.list (B.map be),.list (O.map be),.bool d] T Q:=by
 have cc:=sd;refine ah wf rfl ((q_lbody ..).mpr (kt wf fun s0 hs0 hv0=>ku wf (by lia) ?_));have hL:∀part,part∈parts.filter (jQ s0)↔part∈parts∧dH B part:=fun part=>by rw [Az,np hv0]
 have hLs:∀p∈parts.filter (jQ s0),IsSet p:=fun p hm=>hp p (Az.mp hm).1;revert hL hLs;generalize parts.filter (jQ s0)=L;intro hL hLs;refine nH (fun pre s _ _=>IsSet s∧∀v,v∈s↔(∃ps∈pre,∃part∈parts,(d=true∨dH B part)∧v∈part∧∃p∈ps,v∈dh p)) (fun s o1 o2=>[some (.list (parts.map .set)),some (.list (B.map be)),some (.list (O.map be)),some (.bool d),some (.list (L.map .set)),some (.set s),o1,o2])
  ⟨.nil,fun v=>⟨nofun,fun q=>q.elim fun _ q=>nomatch q.1⟩⟩ (fun pre ps c s o1 o2 nx e i hn=>?_) fun s o1 o2 i=>?_
 ·have go:∀Y:List (List Int),(∀part,part∈Y↔part∈parts∧(d=true∨dH B part))→∀s' o',IsSet s'→(∀v,v∈s'↔v∈s∨∃part∈Y,v∈part∧∃p∈ps,v∈dh p)→nx [some (.list (parts.map .set)),some (.list (B.map be)),some (.list (O.map be)),some (.bool d),some (.list (L.map .set)),some (.set s'),some (be ps),o'] 0 ⟨#[]⟩ T:=fun Y hY s' o' hs' hv' =>
   hn s' _ o' ⟨hs',fun v=>by
    rw [hv',i.2,iR];refine or_congr Iff.rfl (exists_congr fun part=>?_);rw [hY,and_assoc]⟩
  refine (tB ..).mpr (bK (fun hd=>?_) fun hd=>?_)
  ·exact qB wf hp i.1 (go parts fun part=>⟨fun m=>⟨m,.inl hd⟩,fun m=>m.1⟩)
  ·exact qB wf hLs i.1 (go L fun part=>(hL part).trans ⟨fun m=>⟨m.1,.inr m.2⟩,fun m=>⟨m.1,m.2.resolve_left fun e=>by rw [hd] at e;exact fT e⟩⟩)
 ·refine (tz ..).mpr (bK (fun hd=>?_) fun hd=>?_)
  ·exact nH (fun pr s' _ _=>IsSet s'∧∀v,v∈s'↔v∈s∨∃part∈pr,v∈part) (fun s o1 o2=>[some (.list (parts.map .set)),some (.list (B.map be)),some (.list (O.map be)),some (.bool d),some (.list (L.map .set)),some (.set s),o1,o2])
    ⟨i.1,fun v=>⟨.inl,fun q=>q.resolve_right fun q=>q.elim fun _ q=>nomatch q.1⟩⟩
    (fun pr part c s' o1 o2 nx e h hn=>(ty ..).mpr (hn _ _ _ ⟨h.1.or (hLs part (by rw [e];exact Ak _ (.head _))),fun v=>by rw [gC,h.2,iR,or_assoc]⟩))
    fun s' o1 o2 q=>(tx ..).mpr (h s' q.1 fun v=>by
     rw [q.2,i.2];exact or_congr Iff.rfl ⟨fun e=>e.elim fun part e=>⟨hd,part,((hL part).mp e.1).1,((hL part).mp e.1).2,e.2⟩,fun e=>e.2.elim fun part e=>⟨part,(hL part).mpr ⟨e.1,e.2.1⟩,e.2.2⟩⟩)
  ·refine h s i.1 fun v=>?_;rw [i.2];exact ⟨.inl,fun q=>q.resolve_right fun e=>by rw [hd] at e;cases e.1⟩
end
section
variable {C:ba}{D:aN}{T:Tbl}
theorem q_ltest (x:Int) (w:Bool) (Q:K):bE C D GG (aX 137) [.int x,.bool w] T Q=((Aa 6).i≠0∧ak ((aj (x.fmod 6) [Aa 1,Aa 1,Aa 1,Aa 2,Aa 3,Aa 0].length).bind fun k=>[Aa 1,Aa 1,Aa 1,Aa 2,Aa 3,Aa 0][k]?) fun w_1=>aa (w_1.k.beq 2) ((-(↑cap:Int)≤(Bm 0 w_1.i).i∧(Bm 0 w_1.i).i≤(↑cap:Int)∧-(↑cap:Int)≤(Bm 0 w_1.i).j∧(Bm 0 w_1.i).j≤(↑cap:Int))∧bA (lp C D 137 0 39) (Ah (fun (n:Nat)=>Aa (0+(n:Int))) (AB (w_1.i - 0).toNat)) [some (Aa x),some (Aq w),some (Ad []),none,none] 1 ("places") T (rs C D 137 0 40 (fun x x_1 x_2 T=>Q By T) (fun x x_1 x_2 x_3=>False) Q) Q) False):=by kernel_rfl
theorem tq (x i:Int) (w:Bool) (l:List Int) (o1 o2:Option AV) (nx br:Kn) (kr:K):lp C D 137 0 39 (.int i) [some (.int x),some (.bool w),some (.list (l.map .int)),o1,o2] 1 "places" T nx br kr=(((Aa 6).i≠0∧(Aa 6).i.natAbs<1073741824)∧(rZ (Aa 7).i=true∧rZ (Aa i).i=true)∧((Aa 216).i≠0∧(Aa 216).i.natAbs<1073741824)∧(Aa 5).i≠0∧(rZ (Aa ((Aa 7).i*(Aa i).i)).i=true∧rZ (Aa ((Aa 1).i+(Aa ((Aa ((Aa x).i.fdiv (Aa 216).i)).i.fmod (Aa 5).i)).i)).i=true)∧(Aa 18).i≠0∧aa w (aa (decide ((x.fdiv 6+7*i*(1+(x.fdiv 216).fmod 5)).fmod 18=6)) (ak (aB (Ah (Aa) l)) fun l_1=>aa (!l_1.contains 0) (aa ((Ah (Aa) l).length.blt cap) (nx [some (Aa x),some (Aq w),some (Ad (Ah (Aa) l++[Aa 0])),some (Aa i),some (Aa 0)] 1 ("places") T) False) (nx [some (Aa x),some (Aq w),some (Ad (Ah (Aa) l)),some (Aa i),some (Aa 0)] 1 ("places") T)) (ak (aB (Ah (Aa) l)) fun l_1=>aa (!l_1.contains ((x.fdiv 6+7*i*(1+(x.fdiv 216).fmod 5)).fmod 18)) (aa ((Ah (Aa) l).length.blt cap) (nx [some (Aa x),some (Aq w),some (Ad (Ah (Aa) l++[Aa ((x.fdiv 6+7*i*(1+(x.fdiv 216).fmod 5)).fmod 18)])),some (Aa i),some (Aa ((x.fdiv 6+7*i*(1+(x.fdiv 216).fmod 5)).fmod 18))] 1 ("places") T) False) (nx [some (Aa x),some (Aq w),some (Ad (Ah (Aa) l)),some (Aa i),some (Aa ((x.fdiv 6+7*i*(1+(x.fdiv 216).fmod 5)).fmod 18))] 1 ("places") T))) (ak (aB (Ah (Aa) l)) fun l_1=>aa (!l_1.contains ((x.fdiv 6+7*i*(1+(x.fdiv 216).fmod 5)).fmod 18)) (aa ((Ah (Aa) l).length.blt cap) (nx [some (Aa x),some (Aq w),some (Ad (Ah (Aa) l++[Aa ((x.fdiv 6+7*i*(1+(x.fdiv 216).fmod 5)).fmod 18)])),some (Aa i),some (Aa ((x.fdiv 6+7*i*(1+(x.fdiv 216).fmod 5)).fmod 18))] 1 ("places") T) False) (nx [some (Aa x),some (Aq w),some (Ad (Ah (Aa) l)),some (Aa i),some (Aa ((x.fdiv 6+7*i*(1+(x.fdiv 216).fmod 5)).fmod 18))] 1 ("places") T))):=by kernel_rfl
theorem tn (x:Int) (w:Bool) (l:List AV) (o1 o2:Option AV) (nx br:Kn) (kr:K):rs C D 137 0 40 nx br kr [some (.int x),some (.bool w),some (.list l),o1,o2] 1 "places" T=(kr (Ad l) T):=by kernel_rfl
theorem tw (c s j:Int) (Q:K):bE C D GG (aX 142) [.int c,.int s,.int j] T Q=((-(↑cap:Int)≤(Bm 0 (Aa c).i).i∧(Bm 0 (Aa c).i).i≤(↑cap:Int)∧-(↑cap:Int)≤(Bm 0 (Aa c).i).j∧(Bm 0 (Aa c).i).j≤(↑cap:Int))∧aa ((Ah (fun (n:Nat)=>Aa (0+(n:Int))) (AB (c - 0).toNat)).length.ble cap) (ay (fun a a_1 a_2=>a_2 (some a) a_1) (Ah (fun (n:Nat)=>Aa (0+(n:Int))) (AB (c - 0).toNat)) T fun l T=>aa (decide (s≤c)) (0≤(Aa s).i∧(Ad (BC (Aa s).i.toNat (Ad l).l)).l.length+(Ad [Aa (-(Aa 1).i)]).l.length≤cap∧0≤(Aa s).i∧(Ad ((Ad (BC (Aa s).i.toNat (Ad l).l)).l++(Ad [Aa (-(Aa 1).i)]).l)).l.length+(Ad (BN (Aa s).i.toNat (Ad l).l)).l.length≤cap∧(-(↑cap:Int)≤(Bm 0 (Aa (↑(Ad ((Ad ((Ad (BC (Aa s).i.toNat (Ad l).l)).l++(Ad [Aa (-(Aa 1).i)]).l)).l++(Ad (BN (Aa s).i.toNat (Ad l).l)).l)).l.length:Int)).i).i∧(Bm 0 (Aa (↑(Ad ((Ad ((Ad (BC (Aa s).i.toNat (Ad l).l)).l++(Ad [Aa (-(Aa 1).i)]).l)).l++(Ad (BN (Aa s).i.toNat (Ad l).l)).l)).l.length:Int)).i).i≤(↑cap:Int)∧-(↑cap:Int)≤(Bm 0 (Aa (↑(Ad ((Ad ((Ad (BC (Aa s).i.toNat (Ad l).l)).l++(Ad [Aa (-(Aa 1).i)]).l)).l++(Ad (BN (Aa s).i.toNat (Ad l).l)).l)).l.length:Int)).i).j∧(Bm 0 (Aa (↑(Ad ((Ad ((Ad (BC (Aa s).i.toNat (Ad l).l)).l++(Ad [Aa (-(Aa 1).i)]).l)).l++(Ad (BN (Aa s).i.toNat (Ad l).l)).l)).l.length:Int)).i).j≤(↑cap:Int))∧bA (lp C D 142 0 39) (Ah (fun (n:Nat)=>Aa (0+(n:Int))) (AB ((↑(BC s.toNat l++[Aa (-1)]++BN s.toNat l).length:Int) - 0).toNat)) [some (Aa c),some (Aa s),some (Aa j),none,some (Ad (BC s.toNat l++[Aa (-1)]++BN s.toNat l)),some (Ad [Ad []])] 3 ("out") T (rs C D 142 0 40 (fun x x_1 x_2 T=>Q By T) (fun x x_1 x_2 x_3=>False) Q) Q) ((-(↑cap:Int)≤(Bm 0 (Aa (↑(Ad l).l.length:Int)).i).i∧(Bm 0 (Aa (↑(Ad l).l.length:Int)).i).i≤(↑cap:Int)∧-(↑cap:Int)≤(Bm 0 (Aa (↑(Ad l).l.length:Int)).i).j∧(Bm 0 (Aa (↑(Ad l).l.length:Int)).i).j≤(↑cap:Int))∧bA (lp C D 142 0 39) (Ah (fun (n:Nat)=>Aa (0+(n:Int))) (AB ((↑l.length:Int) - 0).toNat)) [some (Aa c),some (Aa s),some (Aa j),none,some (Ad l),some (Ad [Ad []])] 3 ("out") T (rs C D 142 0 40 (fun x x_1 x_2 T=>Q By T) (fun x x_1 x_2 x_3=>False) Q) Q)) False):=by kernel_rfl
theorem ou (c s j i:Int) (p:Option AV) (cl out:List AV) (nx br:Kn) (kr:K):lp C D 142 0 39 (.int i) [some (.int c),some (.int s),some (.int j),p,some (.list cl),some (.list out)] 3 "out" T nx br kr=(ak out.getLast? fun m=>(0≤(Aa i).i∧(Aa i).i<(↑(Ad cl).l.length:Int))∧ak cl[i.toNat]? fun w=>aa (m.l.length.blt cap) (((Aa 2).i=2∧0≤(Aa i).i∧(Aa i).i≤64)∧((Aa (2 ^ (Aa i).i.toNat)).i≠0∧(Aa (2 ^ (Aa i).i.toNat)).i.natAbs<1073741824)∧(Aa 2).i≠0∧aa (decide ((j.fdiv (2 ^ i.toNat)).fmod 2=0)) (aa (decide (i+1<(↑cl.length:Int))) (aa (((out.dropLast++[Ad (m.l++[w])]).length.blt cap)) (nx [some (Aa c),some (Aa s),some (Aa j),some (Aa i),some (Ad cl),some (Ad (out.dropLast++[Ad (m.l++[w])]++[Ad []]))] 3 ("out") T) False) (nx [some (Aa c),some (Aa s),some (Aa j),some (Aa i),some (Ad cl),some (Ad (out.dropLast++[Ad (m.l++[w])]))] 3 ("out") T)) (nx [some (Aa c),some (Aa s),some (Aa j),some (Aa i),some (Ad cl),some (Ad (out.dropLast++[Ad (m.l++[w])]))] 3 ("out") T)) False):=by kernel_rfl
theorem ot (c s j:Int) (p:Option AV) (cl out:List AV) (nx br:Kn) (kr:K):rs C D 142 0 40 nx br kr [some (.int c),some (.int s),some (.int j),p,some (.list cl),some (.list out)] 3 "out" T=(kr (Ad out) T):=by kernel_rfl
end
theorem nI {a:Int} (h0:-1000000<a) (h1:a<1000000):rZ a=true:=by
 unfold rZ;refine rwC (Ay ..) ?_;refine rwC (decide_eq_true_eq ..) ?_;refine rwC (decide_eq_true_eq ..) ?_;lia
theorem mod18 (z:Int):∃p:Pl,Bi z 18=pI p:=by
 have h0:0≤Bi z 18:=Bw z (by decide);have h1:Bi z 18<18:=BF z (by decide);exact ⟨⟨(Bi z 18).toNat,by lia⟩,(BR h0).symm⟩
theorem six_go {z:Int}{F:AV→Prop} (h:∀m:Nat,m≤3→F (.int (m:Int))):ak ((aj (Bi z 6) [Aa 1,Aa 1,Aa 1,Aa 2,Aa 3,Aa 0].length).bind fun k=>[Aa 1,Aa 1,Aa 1,Aa 2,Aa 3,Aa 0][k]?) F:=by
 have h0:0≤Bi z 6:=Bw z (by decide);have h1:Bi z 6<6:=BF z (by decide);revert h0 h1;generalize Bi z 6=m;intro h0 h1;have hc:m=0∨m=1∨m=2∨m=3∨m=4∨m=5:=by lia
 rcases hc with rfl | rfl | rfl | rfl | rfl | rfl
 ·exact h 1 (by decide)
 ·exact h 1 (by decide)
 ·exact h 1 (by decide)
 ·exact h 2 (by decide)
 ·exact h 3 (by decide)
 ·exact h 0 (by decide)
theorem bi {L y:Nat}{pre c:List Nat} (e:AB L=pre++y::c):y=pre.length∧y<L:=by
 have h1:(AB L)[pre.length]?=some y:=by refine rwC (e ..) ?_;simp
 have h2:=AW.mp h1;obtain ⟨h3,h4⟩:=h2;replace h4:=(List.getElem_range ..)▸h4;replace h3:=(AN ..)▸h3;lia
noncomputable def az (m:Nat) (spot:Int):List Int:=if spot≤m then ((AB m).map fun (i:Nat)=>(0+(i:Int))).take spot.toNat++[-1]++((AB m).map fun (i:Nat)=>(0+(i:Int))).drop spot.toNat else (AB m).map fun (i:Nat)=>(0+(i:Int))
noncomputable abbrev gAV (g:List Int):AV:=.list (g.map .int)
theorem tG {m:Nat} (hm:m≤20):(2:Int) ^ m≠0∧((2:Int) ^ m).natAbs<1073741824:=by
 have:∀m:_root_.Fin 21,(2:Int) ^ (m:Nat)≠0∧((2:Int) ^ (m:Nat)).natAbs<1073741824:=by decide +kernel
 exact this ⟨m,by lia⟩
section
variable {W:Wd}{n k:Nat}{T:Tbl}{Q:K} (wf:WF W)
include wf
theorem rz {x:Int}{w:Bool} (h:∀ps:List Pl,ps.Nodup→ps.length≤3→(w=true→(6:Pl)∉ps)→Q (be ps) T):Calls W (n+1) "_law_test" [.int x,.bool w] T Q:=by
 have cK:=sd;refine ah wf rfl ((q_ltest ..).mpr ⟨by decide,six_go fun m hm=>ce rfl ⟨?_,?_⟩⟩)
 ·show -((1000000:Nat):Int)≤0∧(0:Int)≤((1000000:Nat):Int)∧-((1000000:Nat):Int)≤(m:Int)∧(m:Int)≤((1000000:Nat):Int);lia
 have em:((Aa (m:Int)).i - 0).toNat=m:=by show ((m:Int) - 0).toNat=m;lia
 refine rwC (em ..) ?_;refine nH (a:=[]) (fun pre ps _ _=>ps.Nodup∧ps.length≤pre.length∧(w=true→(6:Pl)∉ps)) (fun ps o1 o2=>[some (.int x),some (.bool w),some (.list ((ps.map pI).map .int)),o1,o2]) ⟨.nil,Bh _,fun _=>nofun⟩ (fun pre y c ps o1 o2 nx e3 i hx=>?_) fun ps o1 o2 i=>(tn ..).mpr (h ps i.1 (by have:=i.2.1;rw [AN] at this;lia) i.2.2)
 ·refine aA2 (bi e3) fun ey yl=>?_;refine aA3 i fun hn hlen hw=>?_;have f5a:=Bw (BX x 216) (by decide:(0:Int)<5);have f5b:=BF (BX x 216) (by decide:(0:Int)<5);have cp:(Ah Aa (Ah pI ps)).length<cap:=by refine rwC (Aj ..) ?_;refine rwC (Aj ..) ?_;lia
  clear i e3 h;have hlen2:(pre++[y]).length=pre.length+1:=Ar;have cont:∀p:Pl,(ps.map pI).contains (pI p)=ps.contains p:=fun p=>by
   rw [Bx,Au,Au,AD];exact ⟨(fun zq1=>by obtain ⟨q,h1,h2⟩:=zq1;exact (pI_eq q p).mp h2▸h1),fun h1=>⟨p,h1,rfl⟩⟩
  have go:∀p:Pl,(w=true→p≠6)→ak (aB (Ah Aa (ps.map pI))) fun l_1=>aa (!l_1.contains (pI p)) (aa (Cu (Ah Aa (ps.map pI)).length cap) (nx [some (.int x),some (.bool w),some (.list (Ah Aa (ps.map pI)++[.int (pI p)])),some (.int (0+(y:Int))),some (.int (pI p))] 1 "places" T) False) (nx [some (.int x),some (.bool w),some (.list (Ah Aa (ps.map pI))),some (.int (0+(y:Int))),some (.int (pI p))] 1 "places" T):=fun p h6=>by
   refine ax (aV _) ?_;refine rwC (cont ..) ?_;cases hc:ps.contains p with
   | true=>exact hx ps _ _ ⟨hn,by lia,hw⟩
   | false =>
    have hc':p∉ps:=fun hm=>by replace hc:=(Au.mpr hm ..)▸hc;exact tF hc
    refine ce rfl (bS cp (oG (hx (ps++[p]) _ _ ⟨BI.mpr ⟨hn,Bb.mpr ⟨nofun,.nil⟩,fun a ha b hb e=>hc' (by replace e:=(Ae.mp hb ..)▸e;exact e▸ha)⟩,?_,fun hwt hm=>?_⟩) (by rw [AI,AI];rfl)))
    ·refine rwC (Ar ..) ?_;refine rwC (AL ..) ?_;lia
    ·refine bc fun zz=>?_;rcases Ao.mp hm with hm | hm
     ·refine zz ?_;exact hw hwt hm
     ·refine zz ?_;exact h6 hwt (Ae.mp hm).symm
  refine (tq ..).mpr ⟨⟨by decide,by decide⟩,⟨rfl,nI (a:=0+(y:Int)) (by lia) (by lia)⟩,⟨by decide,by decide⟩,by decide,⟨nI (a:=7*(0+(y:Int))) (by lia) (by lia),nI (a:=1+Bi (BX x 216) 5) (by lia) (by lia)⟩,by decide,?_⟩;refine bc fun zz=>?_;obtain ⟨p,e⟩:=mod18 (x.fdiv 6+7*(0+(y:Int))*(1+(x.fdiv 216).fmod 5));refine zz ?_;refine rwC (e ..) ?_;cases hwb:w with
  | false=>replace go:=(hwb ..)▸go;exact go p fun h=>nomatch h
  | true =>
   replace go:=(hwb ..)▸go;refine ce rfl (bK (fun q=>go 0 fun _=>by decide) fun q=>go p fun _ e6=>?_);exact of_decide_eq_false q ((mP p 6 (by decide)).mpr e6)
omit wf in
theorem ja {C:List Int}{m spot joins:Int}{o:Option AV}{c:ba}{dd:aN}{nx br:Kn}{kr:K} (hC:C≠[]) (hl:C.length≤20) (h:∀(Gs:List (List Int)),Gs.flatten=C→(∀g∈Gs,g≠[])→kr (.list (Gs.map gAV)) T) :
  aq (Bm 0 ((C.map Aa).length:Int)) fun items=>bA (lp c dd 142 0 39) items [some (.int m),some (.int spot),some (.int joins),o,some (.list (C.map .int)),some (.list [.list []])] 3 "out" T (rs c dd 142 0 40 nx br kr) kr:=by
 have cK:=sd;have hlm:(C.map Aa).length=C.length:=Aj _;have em:(((C.map Aa).length:Int) - 0).toNat=C.length:=by lia
 refine ⟨?_,?_⟩
 ·show -((1000000:Nat):Int)≤0∧(0:Int)≤((1000000:Nat):Int)∧-((1000000:Nat):Int)≤((C.map Aa).length:Int)∧((C.map Aa).length:Int)≤((1000000:Nat):Int);lia
 show bA (lp c dd 142 0 39) ((AB (((C.map Aa).length:Int) - 0).toNat).map fun (n:Nat)=>Aa (0+(n:Int))) _ _ _ _ _ _;refine rwC (em ..) ?_;refine nH (a:=[]) (b:=[]) (fun pre Gs g _=>Gs.flatten++g=C.take pre.length∧(∀x∈Gs,x≠[])∧(g=[]→pre.length<C.length)∧Gs.length≤pre.length∧g.length≤pre.length) (fun Gs g o=>[some (.int m),some (.int spot),some (.int joins),o,some (.list (C.map .int)),some (.list (Gs.map gAV++[gAV g]))])
  ⟨rfl,nofun,fun _=>List.length_pos_iff.mpr hC,Bh _,Bh _⟩ (fun pre y cc Gs g o nx e3 i hx=>?_) fun Gs g o i=>?_
 ·refine aA2 (bi e3) fun ey yl=>?_;refine aA5 i fun hfl hne hgn hGl hgl=>?_;clear i e3 h;have l1:(pre++[y]).length=pre.length+1:=Ar;have tk:C.take (pre++[y]).length=C.take pre.length++[C[y]]:=by
   refine rwC (l1 ..) ?_;refine rwD (ey ..) ?_;refine rwC (List.take_succ_eq_append_getElem yl ..) ?_;exact rfl
  have lg:(g.map Aa).length=g.length:=Aj _;have lG:(Gs.map gAV).length=Gs.length:=Aj _;have eg:g.map Aa++[Aa C[y]]=(g++[C[y]]).map .int:=by refine rwC (AI ..) ?_;rfl
  have ed:(Gs.map gAV++[gAV g]).dropLast=Gs.map gAV:=List.dropLast_concat;have ep:((0:Int)+(y:Int)).toNat=y:=by lia
  have eC:(C.map Aa)[((0:Int)+(y:Int)).toNat]?=some (.int C[y]):=by rw [ep,Bq,AH yl];rfl
  refine (ou ..).mpr (ax (a:=gAV g) List.getLast?_concat ⟨⟨?_,?_⟩,ax eC (bS (by show (g.map Aa).length<cap;lia) ⟨⟨rfl,?_,?_⟩,?_,by decide,?_⟩)⟩)
  ·show (0:Int)≤0+(y:Int);lia
  ·show (0:Int)+(y:Int)<((C.map Aa).length:Int);lia
  ·show (0:Int)≤0+(y:Int);lia
  ·show (0:Int)+(y:Int)≤64;lia
  ·show (2:Int) ^ ((0:Int)+(y:Int)).toNat≠0∧((2:Int) ^ ((0:Int)+(y:Int)).toNat).natAbs<1073741824;refine rwC (ep ..) ?_;exact tG (by lia)
  refine rwC (ed ..) ?_;show aa _ (aa _ (aa (true && (true && Cu (Gs.map gAV++[Ad (g.map Aa++[Aa C[y]])]).length cap)) (nx [_,_,_,_,_,some (Ad (Gs.map gAV++[Ad (g.map Aa++[Aa C[y]])]++[Ad []]))] _ _ _) _) (nx [_,_,_,_,_,some (Ad (Gs.map gAV++[Ad (g.map Aa++[Aa C[y]])]))] _ _ _)) (nx [_,_,_,_,_,some (Ad (Gs.map gAV++[Ad (g.map Aa++[Aa C[y]])]))] _ _ _);refine rwC (eg ..) ?_;have stay:nx [some (.int m),some (.int spot),some (.int joins),some (.int (0+(y:Int))),some (.list (C.map .int)),some (Ad (Gs.map gAV++[Ad ((g++[C[y]]).map .int)]))] 3 "out" T :=
   hx Gs (g++[C[y]]) _ ⟨by refine rwC (tk ..) ?_;refine rwD (hfl ..) ?_;refine rwC (AQ ..) ?_;exact rfl,hne,fun e=>absurd e (List.append_ne_nil_of_right_ne_nil _ (List.cons_ne_nil _ _)),by lia,by refine rwC (Ar ..) ?_;refine rwC (AL ..) ?_;lia⟩
  refine bK (fun _=>bK (fun q2=>ce ?_ ?_) fun _=>stay) fun _=>stay
  ·exact BL (by refine rwC (Ar ..) ?_;refine rwC (AL ..) ?_;lia)
  ·have q2:(0:Int)+(y:Int)+1<((C.map Aa).length:Int):=of_decide_eq_true q2;refine oG (hx (Gs++[g++[C[y]]]) [] _ ⟨?_,fun x hx=>?_,fun _=>by lia,by refine rwC (Ar ..) ?_;refine rwC (AL ..) ?_;lia,Bj _⟩) (by rw [AI (f:=gAV)];rfl)
   ·refine rwC (tk ..) ?_;refine rwD (hfl ..) ?_;refine rwC (List.flatten_append ..) ?_;refine rwC (List.flatten_cons ..) ?_;refine rwC (List.flatten_nil ..) ?_;refine rwC (AG ..) ?_;refine rwC (AG ..) ?_;refine rwC (AQ ..) ?_;exact rfl
   ·refine bc fun zz=>?_;rcases Ao.mp hx with hx | hx
    ·refine zz ?_;exact hne x hx
    ·refine zz ?_;refine rwC (Ae.mp hx ..) ?_;exact List.append_ne_nil_of_right_ne_nil _ (List.cons_ne_nil _ _)
 ·refine aA5 i fun hfl hne hgn _ _=>?_;have lp:(AB C.length).length=C.length:=AN;replace hfl:=(lp ..)▸hfl;replace hfl:=(Cs ..)▸hfl;refine (ot ..).mpr ?_;have e9:Gs.map gAV++[gAV g]=(Gs++[g]).map gAV:=by refine rwC (AI ..) ?_;rfl
  refine rwC (e9 ..) ?_;refine h (Gs++[g]) (by refine rwC (List.flatten_append ..) ?_;refine rwD (hfl ..) ?_;refine rwC (List.flatten_cons ..) ?_;refine rwC (List.flatten_nil ..) ?_;refine rwC (AG ..) ?_;exact rfl) fun x hx=>?_;refine bc fun zz=>?_;rcases Ao.mp hx with hx | hx
  ·refine zz ?_;exact hne x hx
  ·refine zz ?_;refine rwC (Ae.mp hx ..) ?_;exact fun e=>absurd (hgn e) (by lia)
theorem nq {m:Nat}{spot joins:Int} (hm:1≤m∧m≤10) (hs:0≤spot) (h:∀Gs:List (List Int),Gs.flatten=az m spot→(∀g∈Gs,g≠[])→Q (.list (Gs.map gAV)) T):Calls W (n+1) "_law_groups" [.int (m:Int),.int spot,.int joins] T Q:=by
 have cK:=sd;have hl:∀f:Nat→AV,((AB m).map f).length=m:=fun f=>by refine rwC (Aj ..) ?_;refine rwC (AN ..) ?_;exact rfl
 have hlr:((AB m).map fun (i:Nat)=>(0+(i:Int))).length=m:=by refine rwC (Aj ..) ?_;refine rwC (AN ..) ?_;exact rfl
 have e0:((AB m).map fun (i:Nat)=>Aa (0+(i:Int)))=((AB m).map fun (i:Nat)=>(0+(i:Int))).map .int:=(aG _ _).symm;refine ah wf rfl ((tw ..).mpr ⟨?_,?_⟩)
 ·show -((1000000:Nat):Int)≤0∧(0:Int)≤((1000000:Nat):Int)∧-((1000000:Nat):Int)≤(m:Int)∧(m:Int)≤((1000000:Nat):Int);lia
 have em:((m:Int) - 0).toNat=m:=by lia
 refine rwC (em ..) ?_;refine bf (by refine rwC (hl ..) ?_;lia) (cy (g:=fun (i:Nat)=>Aa (0+(i:Int))) (fun _ _ _ q=>q) ?_);refine rwC (e0 ..) ?_;unfold az at h;revert hlr h;generalize ((AB m).map fun (i:Nat)=>(0+(i:Int)))=R;intro h hlr;refine bK (fun q=>?_) fun q=>?_
 ·have q:=of_decide_eq_true q;replace h:=(if_pos q ..)▸h;have e1:(R.map Aa).take spot.toNat++[Aa (-1)]++(R.map Aa).drop spot.toNat=(R.take spot.toNat++[-1]++R.drop spot.toNat).map .int:=by refine rwC (AI ..) ?_;refine rwC (AI ..) ?_;refine rwC (List.map_take ..) ?_;refine rwC (List.map_drop ..) ?_;rfl
  have ll:(R.take spot.toNat++[-1]++R.drop spot.toNat).length=m+1:=by
   refine rwC (Ar ..) ?_;refine rwC (Ar ..) ?_;refine rwC (BM ..) ?_;refine rwC (BU ..) ?_;refine rwC (AL ..) ?_;refine rwC (hlr ..) ?_;lia
  refine ⟨hs,?_,hs,?_,?_⟩
  ·show ((R.map Aa).take spot.toNat).length+1≤cap;refine rwC (BM ..) ?_;refine rwC (Aj ..) ?_;lia
  ·show ((R.map Aa).take spot.toNat++[Aa (-1)]).length+((R.map Aa).drop spot.toNat).length≤cap;refine rwD (Ar ..) ?_;refine rwC (e1 ..) ?_;refine rwC (Aj ..) ?_;refine rwC (ll ..) ?_;lia
  ·show aq (Bm 0 (((R.map Aa).take spot.toNat++[Aa (-1)]++(R.map Aa).drop spot.toNat).length:Int)) fun items=>bA _ items [_,_,_,_,some (.list ((R.map Aa).take spot.toNat++[Aa (-1)]++(R.map Aa).drop spot.toNat)),_] _ _ _ _ _;refine rwC (e1 ..) ?_;exact ja (fun e=>by replace ll:=(e ..)▸ll;exact absurd ll (by show ¬0=m+1;lia)) (by lia) h
 ·replace h:=(if_neg (of_decide_eq_false q) ..)▸h;exact ja (fun e=>by replace hlr:=(e ..)▸hlr;exact absurd hlr (by show ¬0=m;lia)) (by lia) h
end
structure KindOf (ps:List Pl) (f:Bool) (K:List Atom):Prop where
 norm:∀a,a∈K↔aT (ps.map fun p=>am p f) a
 nodup:K.Nodup
theorem KindOf.vals {ps:List Pl}{f:Bool}{K:List Atom} (h:KindOf ps f K) (v:Int):bR K v↔∃p∈ps,v∈dh p:=by
 rw [bj h.norm];constructor
 ·rintro ⟨a,ha,hv⟩;obtain ⟨p,hp,rfl⟩:=AD.mp ha;replace hv:=(eV ..)▸hv;exact ⟨p,hp,hv⟩
 ·rintro ⟨p,hp,hv⟩;exact ⟨am p f,BA hp,by refine rwC (eV ..) ?_;exact hv⟩
theorem oH (a:Atom):∀b,aT [a] b↔b=a:=fun b=>by
 have h:(allA.all fun a=>allA.all fun b=>decide (b∈J [a]) == decide (b=a) && (decide (b≠a) || cN (J [a]) b))=true:=by decide +kernel
 have:=all2 (p:=fun a b=>decide (b∈J [a]) == decide (b=a) && (decide (b≠a) || cN (J [a]) b)) h a b;rw [Ay,beq_iff_eq] at this;obtain ⟨h1,h2⟩:=this;have h1':b∈J [a]↔b=a:=by
  constructor
  ·intro q;rw [decide_eq_true q] at h1;exact of_decide_eq_true h1.symm
  ·intro q;rw [decide_eq_true q] at h1;exact of_decide_eq_true h1
 unfold aT;constructor
 ·rintro (⟨q,rfl⟩ | ⟨_,q,_⟩)
  ·exact Ae.mp q
  ·exact h1'.mp q
 ·rintro rfl
  by_cases hu:b=.unk
  ·subst hu;exact .inl ⟨.head _,rfl⟩
  ·refine .inr ⟨fun q=>hu (Ae.mp q).symm,h1'.mpr rfl,?_⟩;rcases (Bg _ _).mp h2 with q | q
   ·exact absurd rfl (of_decide_eq_true q)
   ·exact q
theorem sr:∀(p q:Pl) (f:Bool),gu (am p f)≠some (am q f):=by decide +kernel
theorem whole_pv (a w:Atom) (h:bT a=some w):pv w=[]:=by
 have:=all2 (p:=fun a w=>!decide (bT a=some w) || decide (pv w=[])) (by decide +kernel) a w;rw [decide_eq_true h] at this;exact of_decide_eq_true (by simpa using this)
theorem pv_unk:pv .unk=[]:=rfl
set_option tactic.hygienic true in
theorem sS {ps:List Pl}{f:Bool}{K:List Atom} (h:KindOf ps f K) (hn:ps.Nodup) (h2:2≤ps.length):dl K=[]:=by
 unfold dl
 split
 ·rename_i a
  by_cases hp:pv a=[]
  ·refine rwC (if_pos hp ..) ?_;exact rfl
  ·exfalso
   have hK:∀b,aT (ps.map fun p=>am p f) b↔b=a:=fun b=>by rw [← h.norm b];simp
   have hu:.unk∉ps.map fun p=>am p f:=fun q=>by
    have:=(hK .unk).mp (.inl ⟨q,rfl⟩);replace hp:=(this ..)▸hp;exact hp pv_unk
   have st:∀b,b∈J (ps.map fun p=>am p f)→cN (J (ps.map fun p=>am p f)) b=true→b=a:=fun b h1 h2=>(hK b).mp (.inr ⟨hu,h1,h2⟩);have base:∀b,b∈J (ps.map fun p=>am p f)→gu b=none→bT b=none→b=a:=fun b h1 h2 h3=>st b h1 (by unfold cN;refine rwC (h2 ..) ?_;refine rwC (h3 ..) ?_;rfl);have nj:cJ (ps.map fun p=>am p f)=false:=by
    cases q:cJ (ps.map fun p=>am p f) with
    | false=>rfl
    | true =>
     have hJ:J (ps.map fun p=>am p f)=(ps.map fun p=>am p f)++[.bool false false,.bool true false]:=if_pos q;have e1:=base (.bool false false) (by refine rwC (hJ ..) ?_;simp) rfl rfl;have e2:=base (.bool true false) (by refine rwC (hJ ..) ?_;simp) rfl rfl;replace e2:=(e1 ..)▸e2;cases e2
   have hJ:J (ps.map fun p=>am p f)=ps.map fun p=>am p f:=if_neg (by refine rwC (nj ..) ?_;decide);have all:∀p∈ps,am p f=a:=fun p hpm=>by
    have hm:am p f∈ps.map fun p=>am p f:=BA hpm;refine st _ (by refine rwC (hJ ..) ?_;exact hm) ?_;unfold cN;refine rwC (hJ ..) ?_;have t1:inO (ps.map fun p=>am p f) (gu (am p f))=false:=by
     cases e:gu (am p f) with
     | none=>rfl
     | some c =>
      show (ps.map fun p=>am p f).contains c=false;rw [← BW,Au];intro q;refine eE1 (AD.mp q) fun q' zt1=>aA2 zt1 fun _ e'=>?_;exact sr p q' f (by refine rwC (e ..) ?_;refine rwC (e' ..) ?_;exact rfl)
    have t2:inO (ps.map fun p=>am p f) (bT (am p f))=false:=by
     cases e:bT (am p f) with
     | none=>rfl
     | some w =>
      show (ps.map fun p=>am p f).contains w=false;rw [← BW,Au];intro q;refine aA4 (cC _ w e) fun f1 f2 _ _=>?_;have:=base w (by refine rwC (hJ ..) ?_;exact q) f1 f2;replace hp:=(this ..)▸hp;exact hp (whole_pv _ w e)
    refine rwC (t1 ..) ?_;refine rwC (t2 ..) ?_;rfl
   rcases ps with _ | ⟨p,_ | ⟨q,r⟩⟩
   ·simp at h2
   ·simp at h2
   ·have e:=(all p (.head _)).trans (all q (.tail _ (.head _))).symm;have:=atom_inj p q f e;exact (Bb.mp hn).1 (by refine rwC (this ..) ?_;exact .head _)
 ·rfl
theorem sR {ps:List Pl}{f:Bool}{K:List Atom} (h:KindOf ps f K) (hn:ps.Nodup):dl K=dO ps:=by
 rcases ps with _ | ⟨p,_ | ⟨q,r⟩⟩
 ·have:K=[]:=by
   cases K with
   | nil=>rfl
   | cons a r =>
    rcases (h.norm a).mp (.head _) with ⟨q,_⟩ | ⟨_,q,_⟩
    ·cases q
    ·exact absurd q (by refine rwC (show J ([].map fun p=>am p f)=[] from rfl) ?_;exact nofun)
  refine rwC (this ..) ?_;rfl
 ·have:K=[am p f]:=gZ h.nodup fun a=>by rw [h.norm];exact oH _ a
  refine rwC (this ..) ?_;refine rwC (said_one ..) ?_;exact rfl
 ·refine rwC (sS h hn (by simp) ..) ?_;rfl
noncomputable def ao (drawn:List Pl):List (List Int):=drawn.flatMap bD
theorem empty17:∀v∈dh 17,v=0∨v=1∨v∈vals .empty:=by decide +kernel
theorem hU (p:Pl) (v:Int):(∃part∈bD p,v∈part)↔v∈dh p:=by
 unfold bD
 split
 ·rename_i h;subst h;constructor
  ·rintro ⟨part,hp,hv⟩;rcases Ai.mp hp with rfl | hp
   ·refine rwC (Ae.mp hv ..) ?_;decide
   ·rcases Ai.mp hp with rfl | hp
    ·refine rwC (Ae.mp hv ..) ?_;decide
    ·replace hv:=(Ae.mp hp ..)▸hv;have:∀v∈vals .empty,v∈dh 17:=by decide +kernel
     exact this v hv
  ·intro hv;rcases empty17 v hv with rfl | rfl | h
   ·exact ⟨[0],.head _,.head _⟩
   ·exact ⟨[1],.tail _ (.head _),.head _⟩
   ·exact ⟨_,.tail _ (.tail _ (.head _)),h⟩
 ·constructor
  ·rintro ⟨part,hp,hv⟩;replace hv:=(Ae.mp hp ..)▸hv;exact hv
  ·intro hv;exact ⟨_,.head _,hv⟩
theorem partsOf_iff {drawn:List Pl}{P:List Int→Prop}:(∃part∈ao drawn,P part)↔∃p∈drawn,∃part∈bD p,P part:=by
 unfold ao;constructor
 ·rintro ⟨part,h,hP⟩;refine eE1 (List.mem_flatMap.mp h) fun p zt2=>aA2 zt2 fun hp h2=>?_;exact ⟨p,hp,part,h2,hP⟩
 ·rintro ⟨p,hp,part,h2,hP⟩;exact ⟨part,List.mem_flatMap.mpr ⟨p,hp,h2⟩,hP⟩
theorem ro {drawn:List Pl}{l:List Atom} (h:KindOf drawn false l) (v:Int):bR l v↔∃part∈ao drawn,v∈part:=by
 rw [h.vals,partsOf_iff];exact ⟨(fun zq1=>by obtain ⟨p,hp,hv⟩:=zq1;exact ⟨p,hp,(hU p v).mpr hv⟩),fun zq2=>by obtain ⟨p,hp,q⟩:=zq2;exact ⟨p,hp,(hU p v).mp q⟩⟩
theorem fi {B:List (List Pl)}{S:List Int} (hS:∀v,v∈S↔∃ps∈B,v∈dO ps) (a:Atom) (v:Int) (hv:v∈vals a):dH B (vals a)↔(big a=true∨v∉S):=by
 unfold dH;have hb:big a=true↔1<(vals a).length:=by unfold big;rw [decide_eq_true_eq]
 constructor
 ·rintro (h | ⟨x,hx,h⟩)
  ·exact .inl (hb.mpr h)
  ·cases hba:big a with
   | true=>exact .inl rfl
   | false=>exact .inr fun z=>h ((hS x).mp (by refine rwC (md a hba x hx v hv ..) ?_;exact z))
 ·rintro (h | h)
  ·exact .inl (hb.mp h)
  ·exact .inr ⟨v,hv,fun z=>h ((hS v).mpr z)⟩
theorem lq {B:List (List Pl)}{S:List Int} (hS:∀v,v∈S↔∃ps∈B,v∈dO ps) (p:Pl) (hp:p≠17) (f:Bool) (v:Int):(∃part∈bD p,dH B part∧v∈part)↔(v∈vals (am p f)∧(big (am p f)=true∨v∉S)):=by
 have e:bD p=[vals (am p f)]:=by unfold bD;refine rwC (if_neg hp ..) ?_;refine rwC (eV ..) ?_;exact rfl
 refine rwC (e ..) ?_;constructor
 ·rintro ⟨part,h1,h2,h3⟩;rw [Ae.mp h1] at h2 h3;exact ⟨h3,(fi hS _ v h3).mp h2⟩
 ·rintro ⟨h1,h2⟩;exact ⟨_,.head _,(fi hS _ v h1).mpr h2,h1⟩
theorem kl {B:List (List Pl)}{S:List Int} (hS:∀v,v∈S↔∃ps∈B,v∈dO ps) (v:Int):(∃part∈bD 17,dH B part∧v∈part)↔WV [.unk] S v:=by
 have e:bD 17=[vals .undef,vals .null,vals .empty]:=rfl;have e2:ex [.unk]=[.undef,.null,.empty]:=rfl;unfold WV;refine rwC (e ..) ?_;refine rwC (e2 ..) ?_;simp only [Ai,BV,or_false,exists_eq_or_imp,exists_eq_left];have s:∀a,(dH B (vals a)∧v∈vals a)↔(v∈vals a∧(big a=true∨v∉S)):=fun a =>
  ⟨(fun zq1=>by obtain ⟨h1,h2⟩:=zq1;exact ⟨h2,(fi hS a v h2).mp h1⟩),fun zq2=>by obtain ⟨h1,h2⟩:=zq2;exact ⟨(fi hS a v h1).mpr h2,h1⟩⟩
 rw [s,s,s]
theorem qV:∀(p:Pl) (f:Bool),p≠17→∀v∈vals (am p f),(v=0∧big (am p f)=false)∨(v=1∧big (am p f)=false)∨v∈vals .empty:=by decide +kernel
theorem lh {drawn:List Pl}{l:List Atom}{B:List (List Pl)}{S:List Int} (h:KindOf drawn false l) (hS:∀v,v∈S↔∃ps∈B,v∈dO ps) (v:Int):WV l S v↔∃part∈ao drawn,dH B part∧v∈part:=by
 rw [partsOf_iff]
 by_cases h17:(17:Pl)∈drawn
 ·have hu:Atom.unk∈drawn.map fun p=>am p false:=AD.mpr ⟨17,h17,rfl⟩;have hl:l=[.unk]:=gZ h.nodup fun a=>by rw [h.norm];unfold aT;simp [hu]
  rw [hl];constructor
  ·intro hw;exact ⟨17,h17,(kl hS v).mpr hw⟩
  ·rintro ⟨p,hp,q⟩
   by_cases hp17:p=17
   ·subst hp17;exact (kl hS v).mp q
   ·obtain ⟨h1,h2⟩:=(lq hS p hp17 false v).mp q;have e2:ex [.unk]=[.undef,.null,.empty]:=rfl;unfold WV;refine rwC (e2 ..) ?_;rcases qV p false hp17 v h1 with ⟨rfl,hb⟩ | ⟨rfl,hb⟩ | he
    ·replace h2:=(hb ..)▸h2;exact ⟨.undef,.head _,.head _,.inr (h2.resolve_left (by decide))⟩
    ·replace h2:=(hb ..)▸h2;exact ⟨.null,.tail _ (.head _),.head _,.inr (h2.resolve_left (by decide))⟩
    ·exact ⟨.empty,.tail _ (.tail _ (.head _)),he,.inl rfl⟩
 ·have hu:Atom.unk∉drawn.map fun p=>am p false:=fun q=>by
   obtain ⟨p,hp,e⟩:=AD.mp q;exact h17 ((qH p false).mp e▸hp)
  rw [pz hu h.norm];constructor
  ·rintro ⟨a,ha,h1⟩;obtain ⟨p,hp,rfl⟩:=AD.mp ha;exact ⟨p,hp,(lq hS p (fun e=>h17 (e▸hp)) false v).mpr h1⟩
  ·rintro ⟨p,hp,q⟩;exact ⟨_,BA hp,(lq hS p (fun e=>h17 (e▸hp)) false v).mp q⟩
inductive Kinds:List (List Pl)→List (List Atom)→Prop
 | nil:Kinds [] []
 | cons {ps K Ps Ks}:ps.Nodup→(∃f,KindOf ps f K)→Kinds Ps Ks→Kinds (ps::Ps) (K::Ks)
theorem Kinds.said {Ps:List (List Pl)}{Ks:List (List Atom)} (h:Kinds Ps Ks) (v:Int):v∈Ks.flatMap dl↔∃ps∈Ps,v∈dO ps:=by
 induction h with
 | nil=>simp
 | cons n k _ ih =>
  refine eE1 (k) fun f k=>?_;rw [List.flatMap_cons,Ao,ih,sR k n];simp
theorem Kinds.hits {Ps:List (List Pl)}{Ks:List (List Atom)} (h:Kinds Ps Ks) (P:Prop) (v:Int):(∃K∈Ks,P∧bR K v)↔∃ps∈Ps,P∧∃p∈ps,v∈dh p:=by
 induction h with
 | nil=>simp
 | cons n k _ ih =>
  obtain ⟨f,k⟩:=k;simp only [Ai,exists_eq_or_imp,ih,k.vals]
theorem core {drawn:List Pl}{l:List Atom}{B O:List (List Pl)}{Bs Hs:List (List Atom)}{d:Bool} (h:KindOf drawn false l) (hB:Kinds B Bs) (hO:Kinds O Hs) (v:Int) :
  ((∃K∈Hs,(if d=true then bR l v else WV l (Bs.flatMap dl) v)∧bR K v)∨(d=true∧WV l (Bs.flatMap dl) v))↔pC (ao drawn) B O d v:=by
 rw [hO.hits];have hW:=lh h hB.said v;have hV:=ro h v;unfold pC;rw [hW,hV];refine or_congr ?_ Iff.rfl;cases d with
 | true =>
  simp only [if_true,true_or,true_and];constructor
  ·rintro ⟨ps,h1,⟨part,h2,h3⟩,h4⟩;exact ⟨ps,h1,part,h2,h3,h4⟩
  ·rintro ⟨ps,h1,part,h2,h3,h4⟩;exact ⟨ps,h1,⟨part,h2,h3⟩,h4⟩
 | false =>
  simp only [Bn,if_false,false_or];constructor
  ·rintro ⟨ps,h1,⟨part,h2,h3,h5⟩,h4⟩;exact ⟨ps,h1,part,h2,h3,h5,h4⟩
  ·rintro ⟨ps,h1,part,h2,h3,h5,h4⟩;exact ⟨ps,h1,⟨part,h2,h3,h5⟩,h4⟩
noncomputable def tk (C:ba) (D:aN) (i a b m:Nat) (kn kb:Kn) (kr:K):Kn:=fun vs kk y T=>ssP (exS (ctA C D i) m) (((aX i).body.drop a).take b) vs kk y T kn kb kr
section
variable {C:ba}{D:aN}{T:Tbl}
theorem q_law_a (s:List Int) (kn kb:Kn) (kr:K):tk C D 143 0 6 40 kn kb kr (some (.olist s)::none::none::[none,none,none,none,none,none,none,none,none,none,none,none,none,none,none,none,none,none,none,none,none,none,none,none,none,none,none,none,none,none]) 0 ⟨#[]⟩ T=(0≤(Aa 16).i∧aa ((Ah (Aa) (BC (BE 16) s)).length.ble cap) (ay (fun a a_1 a_2=>a_2 (some a) a_1) (Ah (Aa) (BC (BE 16) s)) T fun l T=>(-(↑cap:Int)≤(Bm (Aa (↑(Ad l).l.length:Int)).i (Aa 16).i).i∧(Bm (Aa (↑(Ad l).l.length:Int)).i (Aa 16).i).i≤(↑cap:Int)∧-(↑cap:Int)≤(Bm (Aa (↑(Ad l).l.length:Int)).i (Aa 16).i).j∧(Bm (Aa (↑(Ad l).l.length:Int)).i (Aa 16).i).j≤(↑cap:Int))∧bA (lp C D 143 0 39) (Ah (fun (n:Nat)=>Aa ((↑l.length:Int)+(↑n:Int))) (AB (16 - (↑l.length:Int)).toNat)) (some (Cj s)::some (Ad l)::none::[none,none,none,none,none,none,none,none,none,none,none,none,none,none,none,none,none,none,none,none,none,none,none,none,none,none,none,none,none,none]) 1 ("nums") T (tk C D 143 2 4 40 kn kb kr) kr) False):=by kernel_rfl
theorem q_law_a1 (s:List Int) (l:List AV) (i:Int) (o:Option AV) (nx br:Kn) (kr:K):lp C D 143 0 39 (.int i) (some (.olist s)::some (.list l)::o::[none,none,none,none,none,none,none,none,none,none,none,none,none,none,none,none,none,none,none,none,none,none,none,none,none,none,none,none,none,none]) 1 "nums" T nx br kr=((rZ (Aa 13).i=true∧rZ (Aa i).i=true)∧aa (l.length.blt cap) (nx (some (Cj s)::some (Ad (l++[Aa (13*i+40)]))::some (Aa i)::[none,none,none,none,none,none,none,none,none,none,none,none,none,none,none,none,none,none,none,none,none,none,none,none,none,none,none,none,none,none]) 1 ("nums") T) False):=by kernel_rfl
theorem q_law_a2 (s:List Int) (l:List Int) (o:Option AV) (kn kb:Kn) (kr:K):tk C D 143 2 4 40 kn kb kr (some (.olist s)::some (.list (l.map .int))::o::[none,none,none,none,none,none,none,none,none,none,none,none,none,none,none,none,none,none,none,none,none,none,none,none,none,none,none,none,none,none]) 1 "nums" T=((0≤(Aa 0).i∧(Aa 0).i<(↑(Ad (Ah Aa l)).l.length:Int))∧ak (Ah (Aa) l)[BE 0]? fun w=>aa w.flat ((0≤(Aa 1).i∧(Aa 1).i<(↑(Ad (Ah Aa l)).l.length:Int))∧ak (Ah (Aa) l)[BE 1]? fun w_1=>aa w_1.flat (aa (w.k.beq 2 && true) (((Aa 6).i≠0∧(Aa 6).i.natAbs<1073741824)∧(Aa 5).i≠0∧aa (w.k.beq 2 && true) (((Aa 30).i≠0∧(Aa 30).i.natAbs<1073741824)∧(Aa ((Aa ((Aa 1).i+(Aa ((Aa (w.i.fdiv (Aa 6).i)).i.fmod (Aa 5).i)).i)).i+(Aa 2).i)).i≠0∧kn (some (Cj s)::some (Ad (Ah (Aa) l))::o::[some w,some w_1,some (Aa (1+(w.i.fdiv 6).fmod 5)),some (Aa ((w.i.fdiv 30).fmod (1+(w.i.fdiv 6).fmod 5+2))),none,none,none,none,none,none,none,none,none,none,none,none,none,none,none,none,none,none,none,none,none,none,none,none,none,none]) 1 ("nums") T) False) False) False) False):=by kernel_rfl
end
noncomputable abbrev sl0 (s:List Int) (l:List Int) (o:Option AV) (h0 h1 m spot:Int) (u v:Option AV):an:=(some (.olist s)::some (.list (l.map .int))::o::[some (.int h0),some (.int h1),some (.int m),some (.int spot),u,v,none,none,none,none,none,none,none,none,none,none,none,none,none,none,none,none,none,none,none,none,none,none,none,none])
section
variable {C:ba}{D:aN}{T:Tbl}{kn kb:Kn}{kr:K}
theorem uQ {script l:List Int}{a b:Int}{o:Option AV} (h16:l.length=16) (e0:(l.map Aa)[BE 0]?=some (.int a)) (e1:(l.map Aa)[BE 1]?=some (.int b)) (h:∀(m:Nat) (spot:Int),1≤m→m≤5→0≤spot→spot≤(m:Int)+1→kn (sl0 script l o a b m spot none none) 1 "nums" T) :
  tk C D 143 2 4 40 kn kb kr (some (.olist script)::some (.list (l.map .int))::o::[none,none,none,none,none,none,none,none,none,none,none,none,none,none,none,none,none,none,none,none,none,none,none,none,none,none,none,none,none,none]) 1 "nums" T:=by
 have ll:(l.map Aa).length=16:=(Aj ..).trans h16;have c0:=Bw (BX a 6) (by decide:(0:Int)<5);have c1:=BF (BX a 6) (by decide:(0:Int)<5);refine eE1 (show ∃q:Nat,((1:Int)+Bi (BX a 6) 5)=(q:Int) from ⟨((1:Int)+Bi (BX a 6) 5).toNat,by lia⟩) fun q hq=>?_;have q5:1≤q∧q≤5:=by lia
 clear c0 c1;have r0:=Bw (BX a 30) (show (0:Int)<(q:Int)+2 by lia);have r1:=BF (BX a 30) (show (0:Int)<(q:Int)+2 by lia);refine (q_law_a2 ..).mpr ⟨⟨by decide,by show (0:Int)<((l.map Aa).length:Int);lia⟩,ax e0 (ce rfl ⟨⟨by decide,by show (1:Int)<((l.map Aa).length:Int);lia⟩,ax e1 (ce rfl (ce rfl ⟨⟨by decide,by decide⟩,by decide,ce rfl ⟨⟨by decide,by decide⟩,?_,?_⟩⟩))⟩)⟩
 ·show ((1:Int)+Bi (BX a 6) 5)+2≠0;lia
 ·refine oG (h q _ q5.1 q5.2 r0 (by lia)) ?_;rw [← hq];rfl
theorem uo {script:List Int} (hl:script.length≤63)
  (h:∀(nums:List Int) (hn:nums.length=16) (m:Nat) (spot:Int) (o:Option AV),1≤m→m≤5→0≤spot→spot≤(m:Int)+1→kn (sl0 script nums o (nums[0]'(by lia)) (nums[1]'(by lia)) m spot none none) 1 "nums" T) :
  tk C D 143 0 6 40 kn kb kr (some (.olist script)::none::none::[none,none,none,none,none,none,none,none,none,none,none,none,none,none,none,none,none,none,none,none,none,none,none,none,none,none,none,none,none,none]) 0 ⟨#[]⟩ T:=by
 have cK:=sd;refine (q_law_a ..).mpr ⟨by decide,bf ?_ (cy (g:=Aa) (fun _ _ _ q=>q) ?_)⟩
 ·refine rwC (Aj ..) ?_;refine rwC (BM ..) ?_;lia
 have h16:(script.take (BE 16)).length≤16:=by show (script.take 16).length≤16;refine rwC (BM ..) ?_;lia
 revert h16;generalize script.take (BE 16)=l0;intro h16;have hlm:(l0.map Aa).length=l0.length:=Aj _;refine ⟨?_,?_⟩
 ·show -((1000000:Nat):Int)≤((l0.map Aa).length:Int)∧((l0.map Aa).length:Int)≤((1000000:Nat):Int)∧-((1000000:Nat):Int)≤16∧(16:Int)≤((1000000:Nat):Int);lia
 have em:((16:Int) - ((l0.map Aa).length:Int)).toNat=16 - l0.length:=by lia
 refine rwC (em ..) ?_;refine pd (a:=l0) (fun pre l _=>l.length=l0.length+pre.length) (fun l o=>(some (.olist script)::some (.list (l.map .int))::o::[none,none,none,none,none,none,none,none,none,none,none,none,none,none,none,none,none,none,none,none,none,none,none,none,none,none,none,none,none,none])) rfl (fun pre y c l o nx e3 hlen hx=>?_) fun l o hlen=>?_
 ·refine aA2 (bi e3) fun ey yl=>?_;have l1:(pre++[y]).length=pre.length+1:=Ar;refine (q_law_a1 ..).mpr ⟨⟨nI (a:=13) (by decide) (by decide),nI (a:=((l0.map Aa).length:Int)+(y:Int)) (by lia) (by lia)⟩,bS (by refine rwC (Aj ..) ?_;lia) (oG (hx (l++[_]) _ ?_) (by rw [AI];rfl))⟩;refine rwC (Ar ..) ?_;refine rwC (AL ..) ?_;lia
 ·have lp:(AB (16 - l0.length)).length=16 - l0.length:=AN;have h16:l.length=16:=by lia
  have el:∀i (hi:i<l.length),(l.map Aa)[i]?=some (.int l[i]):=fun i hi=>by rw [Bq,AH hi];rfl
  exact uQ h16 (el 0 (by lia)) (el 1 (by lia)) fun m spot a b c d=>h l h16 m spot o a b c d
end
section
variable {C:ba}{D:aN}{T:Tbl}
theorem q_law_b (s l:List Int) (h j c sp:Int) (o:Option AV) (kn kb:Kn) (kr:K):tl C D 143 10 40 kn kb kr (some (.olist s)::some (.list (l.map .int))::o::[some (.int h),some (.int j),some (.int c),some (.int sp),some .tab,some .host,none,none,none,none,none,none,none,none,none,none,none,none,none,none,none,none,none,none,none,none,none,none,none,none]) 0 ⟨#[]⟩ T=((Aa 6).i≠0∧(-(↑cap:Int)≤(Bm 0 (Aa ((Aa h).i.fmod (Aa 6).i)).i).i∧(Bm 0 (Aa ((Aa h).i.fmod (Aa 6).i)).i).i≤(↑cap:Int)∧-(↑cap:Int)≤(Bm 0 (Aa ((Aa h).i.fmod (Aa 6).i)).i).j∧(Bm 0 (Aa ((Aa h).i.fmod (Aa 6).i)).i).j≤(↑cap:Int))∧aa ((Ah (fun (n:Nat)=>Aa (0+(↑n:Int))) (AB (h.fmod 6 - 0).toNat)).length.ble cap) (ay (fun a a_1 a_2=>aa (a.k.beq 2) ((0≤(Aa ((Aa 2).i+a.i)).i∧(Aa ((Aa 2).i+a.i)).i<(↑(Ad (Ah Aa l)).l.length:Int))∧ak (Ah (Aa) l)[(2+a.i).toNat]? fun w=>aa (w.k.beq 2 && true) ((Aa 18).i≠0∧a_2 (some (Aa (w.i.fmod 18))) a_1) False) False) (Ah (fun (n:Nat)=>Aa (0+(↑n:Int))) (AB (h.fmod 6 - 0).toNat)) T fun l_1 T=>(Aa 6).i≠0∧0≤(Aa ((Aa 2).i+(Aa ((Aa h).i.fmod (Aa 6).i)).i)).i∧(-(↑cap:Int)≤(Bm 0 (Aa c).i).i∧(Bm 0 (Aa c).i).i≤(↑cap:Int)∧-(↑cap:Int)≤(Bm 0 (Aa c).i).j∧(Bm 0 (Aa c).i).j≤(↑cap:Int))∧aa ((Ah (fun (n:Nat)=>Aa (0+(↑n:Int))) (AB (c - 0).toNat)).length.ble cap) (ay (fun a a_1 a_2=>aa (a.k.beq 2) ((0≤a.i∧a.i<(↑(Ad (BN (Aa ((Aa 2).i+(Aa ((Aa h).i.fmod (Aa 6).i)).i)).i.toNat (Ad (Ah Aa l)).l)).l.length:Int))∧ak (BN (2+h.fmod 6).toNat (Ah (Aa) l))[a.i.toNat]? fun w=>ak (aB l_1) fun l=>C ("_law_test") [w,Aq (l.contains 17)] a_1 fun u T=>a_2 (some u) T) False) (Ah (fun (n:Nat)=>Aa (0+(↑n:Int))) (AB (c - 0).toNat)) T fun l_2 T=>(-(↑cap:Int)≤(Bm 0 (Aa c).i).i∧(Bm 0 (Aa c).i).i≤(↑cap:Int)∧-(↑cap:Int)≤(Bm 0 (Aa c).i).j∧(Bm 0 (Aa c).i).j≤(↑cap:Int))∧bA (lp C D 143 1 39) (Ah (fun (n:Nat)=>Aa (0+(↑n:Int))) (AB (c - 0).toNat)) (some (Cj s)::some (Ad (Ah (Aa) l))::o::[some (Aa h),some (Aa j),some (Aa c),some (Aa sp),some An,some BD,some (Ad l_1),some (Ad (BN (2+h.fmod 6).toNat (Ah (Aa) l))),some (Ad l_2),some (Ad []),none,none,none,none,none,none,none,none,none,none,none,none,none,none,none,none,none,none,none,none]) 1 ("kinds") T (rs C D 143 1 40 kn kb kr) kr) False) False):=by kernel_rfl
theorem q_law_b1 (s l:List Int) (h j c sp i:Int) (dr rw te ks:List AV) (o of:Option AV) (nx br:Kn) (kr:K):lp C D 143 1 39 (.int i) (some (.olist s)::some (.list (l.map .int))::o::[some (.int h),some (.int j),some (.int c),some (.int sp),some .tab,some .host,some (.list dr),some (.list rw),some (.list te),some (.list ks),of,none,none,none,none,none,none,none,none,none,none,none,none,none,none,none,none,none,none,none]) 1 "kinds" T nx br kr=((0≤(Aa i).i∧(Aa i).i<(↑(Ad rw).l.length:Int))∧ak rw[i.toNat]? fun w=>aa (w.k.beq 2 && true) (((Aa 108).i≠0∧(Aa 108).i.natAbs<1073741824)∧(Aa 2).i≠0∧(0≤(Aa i).i∧(Aa i).i<(↑(Ad te).l.length:Int))∧ak te[i.toNat]? fun w_1=>aq w_1 fun items=>aa (items.length.ble cap) (ay (fun a a_1 a_2=>C ("_law_atom") [An,a,Aa ((w.i.fdiv 108).fmod 2)] a_1 fun u T=>a_2 (some u) T) items T fun l_1 T=>C ("union") [An,Ad l_1] T fun v T=>aa (ks.length.blt cap) (nx (some (Cj s)::some (Ad (Ah (Aa) l))::some (Aa i)::[some (Aa h),some (Aa j),some (Aa c),some (Aa sp),some An,some BD,some (Ad dr),some (Ad rw),some (Ad te),some (Ad (ks++[v])),some (Aa ((w.i.fdiv 108).fmod 2)),none,none,none,none,none,none,none,none,none,none,none,none,none,none,none,none,none,none,none]) 1 ("kinds") T) False) False) False):=by kernel_rfl
theorem q_law_b2 (s l:List Int) (h j c sp:Int) (dr rw te ks:List AV) (o of:Option AV) (kn kb:Kn) (kr:K):rs C D 143 1 40 kn kb kr (some (.olist s)::some (.list (l.map .int))::o::[some (.int h),some (.int j),some (.int c),some (.int sp),some .tab,some .host,some (.list dr),some (.list rw),some (.list te),some (.list ks),of,none,none,none,none,none,none,none,none,none,none,none,none,none,none,none,none,none,none,none]) 1 "kinds" T=(aa (dr.length.ble cap) (ay (fun a a_1 a_2=>C ("_law_atom") [An,a,Aa 0] a_1 fun u T=>a_2 (some u) T) dr T fun l_1 T=>C ("union") [An,Ad l_1] T fun v T=>C ("_law_parts") [Ad dr] T fun v_1 T=>C ("_law_groups") [Aa c,Aa sp,Aa j] T fun v_2 T=>blt1 0 v_2 fun u=>aa (u.k.beq 2) ((-(↑cap:Int)≤(Bm 0 u.i).i∧(Bm 0 u.i).i≤(↑cap:Int)∧-(↑cap:Int)≤(Bm 0 u.i).j∧(Bm 0 u.i).j≤(↑cap:Int))∧bA (lp C D 143 2 39) (Ah (fun (n:Nat)=>Aa (0+(↑n:Int))) (AB (u.i - 0).toNat)) (some (Cj s)::some (Ad (Ah (Aa) l))::o::[some (Aa h),some (Aa j),some (Aa c),some (Aa sp),some An,some BD,some (Ad dr),some (Ad rw),some (Ad te),some (Ad ks),of,some v,some v_1,some v_2,some (Ad []),some (Aa 2),some (AE []),none,none,none,none,none,none,none,none,none,none,none,none,none]) 1 ("inside") T (rs C D 143 2 40 kn kb kr) kr) False) False):=by kernel_rfl
end
theorem mod2 (z:Int):∃f:Bool,Bi z 2=bI f:=by
 have h0:0≤Bi z 2:=Bw z (by decide);have h1:Bi z 2<2:=BF z (by decide)
 by_cases e:Bi z 2=0
 ·exact ⟨false,e⟩
 ·exact ⟨true,by show Bi z 2=1;lia⟩
theorem Kinds.snoc {Ps:List (List Pl)}{Ks:List (List Atom)} (h:Kinds Ps Ks) {ps:List Pl}{K:List Atom} (n:ps.Nodup) (k:∃f,KindOf ps f K):Kinds (Ps++[ps]) (Ks++[K]):=by
 induction h with
 | nil=>exact .cons n k .nil
 | cons n' k' _ ih=>exact .cons n' k' ih
theorem Tyk.snoc {T:Tbl}{ts:List Int}{L:List (List Atom)} (h:Tyk T ts L) {t:Int}{l:List Atom} (y:Ty T t l):Tyk T (ts++[t]) (L++[l]):=by
 induction h with
 | nil=>exact .cons y .nil
 | cons a _ ih=>exact .cons a ih
theorem jd {α:Type}{f:α→AV}{l:List α}{y:Nat} (h:y<l.length):(l.map f)[((0:Int)+(y:Int)).toNat]?=some (f l[y]):=by
 rw [show ((0:Int)+(y:Int)).toNat=y by lia,Bq,AH h];rfl
theorem oW {α:Type}{f:α→AV}{l:List α}{y:Nat} (h:y<l.length):(0:Int)≤0+(y:Int)∧(0:Int)+(y:Int)<((l.map f).length:Int):=by
 refine rwC (Aj ..) ?_;lia
noncomputable def jn (l:List (Option AV)) (i:Nat):Option AV:=(l[i]?).getD none
noncomputable def dK (s l:List Int) (o:Option AV) (h joins c sp:Int) (dr rw te:List AV) (ks:List Int) (of:Option AV) (t:Int) (pa gr:List AV) (I:List (List Int)) (ca:Int) (fs:List Int) (J K:Nat→Option AV):an :=
 (some (.olist s)::some (.list (l.map .int))::o::[some (.int h),some (.int joins),some (.int c),some (.int sp),some .tab,some .host,some (.list dr),some (.list rw),some (.list te),some (.list (ks.map .int)),of,some (.int t),some (.list pa),some (.list gr),some (.list (I.map .set)),some (.int ca),some (.set fs),J 0,J 1,J 2,J 3,J 4,J 5,J 6,K 0,K 1,K 2,K 3,K 4,K 5])
noncomputable def lapS (s l:List Int) (o:Option AV) (h joins c sp:Int) (dr rw te:List AV) (ks:List Int) (of:Option AV) (t:Int) (pa gr:List AV) (I:List (List Int)) (ca:Int) (fs:List Int) (J:Nat→Option AV):an :=
 dK s l o h joins c sp dr rw te ks of t pa gr I ca fs J fun _=>none
noncomputable def prepS (s l:List Int) (o:Option AV) (h j c sp:Int) (drawn:List Pl) (rows:List Int) (tests:List (List Pl)) (ks:List Int) (of:Option AV):an :=
 (some (.olist s)::some (.list (l.map .int))::o::[some (.int h),some (.int j),some (.int c),some (.int sp),some .tab,some .host,some (.list (drawn.map fun p=>.int (pI p))),some (.list (rows.map .int)),some (.list (tests.map be)),some (.list (ks.map .int)),of,none,none,none,none,none,none,none,none,none,none,none,none,none,none,none,none,none,none,none])
section
variable {W:Wd}{n k:Nat}{T:Tbl}{Q:K} (wf:WF W)
include wf
theorem kG {ps:List Pl}{f:Bool}{F:List AV→Tbl→Prop} (g:Gd (k+ps.length) T) (h:∀ts T',Tys T' ts (ps.map fun p=>am p f)→Gd k T'→T <+: T'→F (ts.map .int) T') :
  ay (fun a T P=>Calls W (n+2) "_law_atom" [.tab,a,.int (bI f)] T fun u T=>P (some u) T) (ps.map fun p=>.int (pI p)) T F:=by
 refine fE (out:=[]) (Q:=F) (fun c out T1=>∃(a:List Pl) (ts:List Int),ps=a++c∧out=ts.map .int∧Tys T1 ts (a.map fun p=>am p f)∧Gd (k+c.length) T1∧T <+: T1) ⟨[],[],rfl,rfl,.nil,g,AO _⟩ ?_ ?_
 ·intro p c out T1 P zh1 hn;refine bc fun zz=>?_;refine eE2 (zh1) fun a ts zt1=>aA5 zt1 fun e1 zr2 yL g2 p2=>?_;refine zz ?_;subst zr2;refine rB wf (k:=k+c.length) (f:=f) (g2.mono (by refine rwC (AK ..) ?_;lia)) p fun t5 T5 g5 p5 A5=>hn _ _ ⟨a++[p],ts++[t5],by refine rwC (e1 ..) ?_;refine rwC (AQ ..) ?_;rfl,by refine rwC (AI ..) ?_;rfl,?_,g5,p2.trans p5⟩;refine rwC (AI ..) ?_;exact (yL.mono g5.1.nodup p5).append (.cons (l:=[am p f]) (Ty.one g5.1 A5) .nil)
 ·intro out T1 zh3;refine bc fun zz=>?_;refine eE2 (zh3) fun a ts zt2=>aA5 zt2 fun e1 zr4 yL g2 p2=>?_;refine zz ?_;subst zr4;replace e1:=(AG ..)▸e1;subst e1;exact h ts T1 yL g2 p2
variable {s l rows:List Int}{h j c sp:Int}{drawn:List Pl}{tests:List (List Pl)}{o:Option AV}{m:Nat}
theorem rn {kn:Kn}{kr:K} (hm:m≤5) (hR:m≤rows.length) (htl:tests.length=m) (htests:∀ps∈tests,ps.Nodup∧ps.length≤3) (g:Gd (k+4*m) T)
  (fin:∀ks Ks o of T3,ks.length=m→Kinds tests Ks→Tyk T3 ks Ks→Gd k T3→T <+: T3→kn (prepS s l o h j c sp drawn rows tests ks of) 1 "kinds" T3) :
  bA (lp (Calls W (n+4)) (aw W (n+4)) 143 1 39) (Ah (fun (i:Nat)=>Aa (0+(i:Int))) (AB m)) (prepS s l o h j c sp drawn rows tests [] none) 1 "kinds" T kn kr:=by
 refine forS4 (a:=[]) (b:=[]) (fun pre ks Ks _ _ T3=>ks.length=pre.length∧Kinds (tests.take pre.length) Ks∧Tyk T3 ks Ks∧Gd (k+4*(m - pre.length)) T3∧T <+: T3) (fun ks _ o of=>prepS s l o h j c sp drawn rows tests ks of)
  ⟨rfl,.nil,.nil,g,AO _⟩ (fun pre y cc ks Ks o of T3 nx e9 i hx=>?_) fun ks Ks o of T3 i=>?_
 ·refine aA2 (bi e9) fun ey yl=>?_;refine aA5 i fun hk1 hk2 hk3 g3 p3=>?_;clear i e9 fin;have cK:=sd;have hy:y<tests.length:=by lia
  have hr:y<rows.length:=by lia
  refine eE1 (show ∃ps,tests[y]=ps from ⟨_,rfl⟩) fun ps hps=>?_;refine aA2 (htests ps (by refine rwD (hps ..) ?_;exact BG hy)) fun q1 q2=>?_;have l1:(pre++[y]).length=pre.length+1:=Ar;have tk:tests.take (pre++[y]).length=tests.take pre.length++[ps]:=by
   refine rwC (l1 ..) ?_;refine rwD (ey ..) ?_;refine rwC (List.take_succ_eq_append_getElem hy ..) ?_;refine rwC (hps ..) ?_;exact rfl
  refine eE1 (mod2 (BX rows[y] 108)) fun f hf=>?_;refine (q_law_b1 ..).mpr ⟨oW hr,ax (jd hr) (ce rfl ⟨⟨by decide,by decide⟩,by decide,oW hy,ax (jd hy) ?_⟩)⟩;refine rwC (hps ..) ?_;show aa (BY ((ps.map pI).map Aa).length cap) (ay (fun a T P=>Calls W (n+4) "_law_atom" [.tab,a,.int (Bi (BX rows[y] 108) 2)] T fun u T=>P (some u) T) ((ps.map pI).map Aa) T3 _) False;refine rwC (hf ..) ?_;refine rwC (aG ..) ?_;refine bf (by refine rwC (Aj ..) ?_;lia) (kG wf (n:=n+2) (k:=k+4*(m - (pre.length+1))+1) (g3.mono (by lia)) fun ts T4 e4 g4 p4=>?_);exact bF wf (n:=n) (k:=k+4*(m - (pre.length+1))) g4 e4 (.inr rfl) fun t6 T6 l6 g6 p6 y6 m6=>bS (by refine rwC (Aj ..) ?_;lia) (oG (hx (ks++[t6]) (Ks++[l6]) _ _ T6 ⟨by refine rwC (Ar ..) ?_;refine rwC (l1 ..) ?_;refine rwC (hk1 ..) ?_;rfl,
   by refine rwC (tk ..) ?_;exact hk2.snoc q1 ⟨f,m6,y6.nodup⟩,(hk3.mono g6.1.nodup (p4.trans p6)).snoc y6,by refine rwC (l1 ..) ?_;exact g6,p3.trans (p4.trans p6)⟩) (by unfold prepS;rw [AI];rfl))
 ·refine aA5 i fun hk1 hk2 hk3 g3 p3=>?_;have lp:(AB m).length=m:=AN;replace hk2:=(lp ..)▸hk2;replace hk2:=(htl ..)▸hk2;replace hk2:=(Cs ..)▸hk2;exact fin ks Ks o of T3 (by lia) hk2 hk3 (g3.mono (by lia)) p3
end
theorem J_or {L:List Atom}{b:Atom} (q:b∈J L):b∈L∨b=.bool false false∨b=.bool true false:=by
 unfold J at q
 by_cases e:cJ L=true
 ·rw [if_pos e] at q;exact (Ao.mp q).imp id fun q=>(Ai.mp q).imp id Ae.mp
 ·rw [if_neg e] at q;exact .inl q
noncomputable def fL (g:List Int):List Nat:=(g.filter fun x=>decide (0≤x)).map BE
noncomputable def defOf (g:List Int):Bool:=g.contains (-1)
noncomputable def ru (m:Nat) (g:List Int):Nat:=if defOf g then m else (fL g).headD 0
noncomputable def ownT (tests:List (List Pl)) (g:List Int):List (List Pl):=(fL g).map fun n=>tests.getD n []
noncomputable def vW (parts:List (List Int)) (tests:List (List Pl)) (m:Nat) (g:List Int) (v:Int):Prop:=pC parts (tests.take (ru m g)) (ownT tests g) (defOf g) v
noncomputable def jb (joins:Int) (i:Nat):Int:=Bi (BX (BX joins 64) (2 ^ i)) 2
theorem ns_int (g:List Int):(fL g).map (fun (n:Nat)=>(n:Int))=g.filter fun x=>decide (0≤x):=by
 unfold fL;rw [Cr];have:∀x∈g.filter (fun x=>decide (0≤x)),((fun (n:Nat)=>(n:Int)) ∘ BE) x=x:=fun x hx=>by
  have:=of_decide_eq_true (Az.mp hx).2;show ((x.toNat:Nat):Int)=x;lia
 rw [Cy this,List.map_id']
theorem kA {m:Nat}{spot x:Int} (h:x∈az m spot):x=-1∨(0≤x∧x<(m:Int)):=by
 have base:∀y∈(AB m).map (fun (i:Nat)=>(0+(i:Int))),0≤y∧y<(m:Int):=fun y hy=>by
  obtain ⟨i,hi,rfl⟩:=AD.mp hy;have:=List.mem_range.mp hi;lia
 unfold az at h
 by_cases e:spot≤m
 ·rw [if_pos e] at h;rcases Ao.mp h with h | h
  ·rcases Ao.mp h with h | h
   ·exact .inr (base x (List.mem_of_mem_take h))
   ·exact .inl (Ae.mp h)
  ·exact .inr (base x (List.mem_of_mem_drop h))
 ·rw [if_neg e] at h;exact .inr (base x h)
theorem ns_lt {m:Nat}{spot:Int}{Gs:List (List Int)} (hG:Gs.flatten=az m spot) {g:List Int} (hg:g∈Gs):∀n∈fL g,n<m:=fun n hn=>by
 obtain ⟨x,hx,rfl⟩:=AD.mp hn;obtain ⟨h1,h2⟩:=Az.mp hx;have h0:=of_decide_eq_true h2;have:x∈Gs.flatten:=List.mem_flatten.mpr ⟨g,hg,h1⟩;rw [hG] at this;rcases kA this with e | ⟨_,h3⟩
 ·lia
 ·lia
theorem nodef {m:Nat}{spot:Int}{Gs:List (List Int)} (hG:Gs.flatten=az m spot) {g:List Int} (hg:g∈Gs) (hne:g≠[]) (hd:defOf g=false):∃n r,fL g=n::r:=by
 cases g with
 | nil=>exact absurd rfl hne
 | cons x r =>
  have hx:x∈Gs.flatten:=List.mem_flatten.mpr ⟨_,hg,.head _⟩;rw [hG] at hx;rcases kA hx with e | ⟨h0,_⟩
  ·exfalso
   have:defOf (x::r)=true:=Au.mpr (by rw [e];exact .head _);rw [hd] at this;exact fT this
  ·exact ⟨x.toNat,fL r,by unfold fL;rw [List.filter_cons_of_pos (by simpa using h0)];rfl⟩
theorem Kinds.get {Ps:List (List Pl)}{Ks:List (List Atom)} (h:Kinds Ps Ks):Ps.length=Ks.length∧∀n,n<Ps.length→(Ps.getD n []).Nodup∧∃f,KindOf (Ps.getD n []) f (Ks.getD n []):=by
 induction h with
 | nil=>exact ⟨rfl,fun n hn=>absurd hn (BJ n)⟩
 | cons n k _ ih =>
  refine ⟨by simp [ih.1],fun i hi=>?_⟩;cases i with
  | zero=>exact ⟨n,k⟩
  | succ i=>exact ih.2 i (by simpa using hi)
theorem Kinds.take {Ps:List (List Pl)}{Ks:List (List Atom)} (h:Kinds Ps Ks):∀n,Kinds (Ps.take n) (Ks.take n):=by
 induction h with
 | nil=>intro n;rw [Cz,Cz];exact .nil
 | cons a k _ ih =>
  intro n;cases n with
  | zero=>exact .nil
  | succ n=>exact .cons a k (ih n)
theorem Kinds.pick {Ps:List (List Pl)}{Ks:List (List Atom)} (h:Kinds Ps Ks):∀ns:List Nat,(∀n∈ns,n<Ps.length)→Kinds (ns.map fun n=>Ps.getD n []) (ns.map fun n=>Ks.getD n [])
 | [],_=>.nil
 | n::r,hn=>by
  obtain ⟨h1,h2⟩:=h.get.2 n (hn n (.head _));exact .cons h1 h2 (Kinds.pick h r fun x hx=>hn x (.tail _ hx))
theorem Tyk.take {T:Tbl}{ts:List Int}{L:List (List Atom)} (h:Tyk T ts L):∀n,Tyk T (ts.take n) (L.take n):=by
 induction h with
 | nil=>intro n;rw [Cz,Cz];exact .nil
 | cons a _ ih =>
  intro n;cases n with
  | zero=>exact .nil
  | succ n=>exact .cons a (ih n)
theorem Tyk.get {T:Tbl}{ts:List Int}{L:List (List Atom)} (h:Tyk T ts L):∀n,n<ts.length→Ty T (ts.getD n 0) (L.getD n []):=by
 induction h with
 | nil=>intro n hn;exact absurd hn (BJ n)
 | cons a _ ih =>
  intro n hn;cases n with
  | zero=>exact a
  | succ n=>exact ih n (by simpa using hn)
theorem Tyk.pick {T:Tbl}{ts:List Int}{L:List (List Atom)} (h:Tyk T ts L):∀ns:List Nat,(∀n∈ns,n<ts.length)→Tyk T (ns.map fun n=>ts.getD n 0) (ns.map fun n=>L.getD n [])
 | [],_=>.nil
 | n::r,hn=>.cons (h.get n (hn n (.head _))) (Tyk.pick h r fun x hx=>hn x (.tail _ hx))
theorem kind_ok {ps:List Pl}{f:Bool}{K:List Atom} (h:KindOf ps f K) (w:Bool) (hw:w=true→(6:Pl)∉ps):KOk K∧(w=true→.void∉K):=by
 constructor
 ·by_cases hu:Atom.unk∈ps.map fun p=>am p f
  ·exact .inl (gZ h.nodup fun a=>by rw [h.norm];unfold aT;simp [hu])
  ·refine .inr fun b hb=>?_;rcases (h.norm b).mp hb with ⟨q,_⟩ | ⟨_,q,_⟩
   ·exact absurd q hu
   ·have src:∀x∈ps.map fun p=>am p f,cR x=true:=fun x hx=>by
     obtain ⟨p,_,e⟩:=AD.mp hx;rcases gp x with r | r | r
     ·exact absurd (r▸hx) hu
     ·exact absurd (e.trans r) (lV p f)
     ·exact r
    rcases J_or q with q | rfl | rfl
    ·exact src b q
    ·rfl
    ·rfl
 ·intro hwt hv;rcases (h.norm .void).mp hv with ⟨_,q⟩ | ⟨_,q,_⟩
  ·cases q
  ·have src:Atom.void∉ps.map fun p=>am p f:=fun hx=>by
    obtain ⟨p,hp,e⟩:=AD.mp hx;exact hw hwt ((vJ p f).mp e▸hp)
   rcases J_or q with q | q | q
   ·exact src q
   ·cases q
   ·cases q
noncomputable def oa (parts:List (List Int)) (tests:List (List Pl)) (m:Nat) (joins:Int) (Gs I:List (List Int)):Prop :=
 ∀i,∀h:i<I.length,(∀v,vW parts tests m (Gs.getD i []) v→v∈I[i])∧(∀h2:i+1<I.length,jb joins i≠0→∀v∈I[i],v∈I[i+1])
theorem fF {m:Nat}{spot:Int}:(az m spot).filter (fun x=>decide (0≤x))=(AB m).map fun (i:Nat)=>(0+(i:Int)):=by
 have base:∀y∈(AB m).map (fun (i:Nat)=>(0+(i:Int))),decide (0≤y)=true:=fun y hy=>by
  obtain ⟨i,hi,rfl⟩:=AD.mp hy;exact decide_eq_true (by lia)
 unfold az
 by_cases e:spot≤m
 ·refine rwC (if_pos e ..) ?_;refine rwC (List.filter_append ..) ?_;refine rwC (List.filter_append ..) ?_;refine rwC (Cw.mpr fun y hy=>base y (List.mem_of_mem_take hy) ..) ?_;refine rwC (Cw.mpr fun y hy=>base y (List.mem_of_mem_drop hy) ..) ?_;have:([-1]:List Int).filter (fun x=>decide (0≤x))=[]:=rfl;refine rwC (this ..) ?_;refine rwC (AG ..) ?_;refine rwC (List.take_append_drop ..) ?_;exact rfl
 ·refine rwC (if_neg e ..) ?_;exact Cw.mpr base
theorem kB (m:Nat) (spot:Int):(az m spot).length≤m+1:=by
 have hl:((AB m).map fun (i:Nat)=>(0+(i:Int))).length=m:=by refine rwC (Aj ..) ?_;refine rwC (AN ..) ?_;exact rfl
 unfold az
 by_cases e:spot≤m
 ·refine rwC (if_pos e ..) ?_;refine rwC (Ar ..) ?_;refine rwC (Ar ..) ?_;refine rwC (BM ..) ?_;refine rwC (BU ..) ?_;refine rwC (AL ..) ?_;refine rwC (hl ..) ?_;omega
 ·refine rwC (if_neg e ..) ?_;refine rwC (hl ..) ?_;omega
theorem pG {Gs:List (List Int)}{g:List Int} (h:g∈Gs):g.Sublist Gs.flatten:=by
 refine eE2 (List.append_of_mem h) fun A B e=>?_;refine rwC (e ..) ?_;refine rwC (List.flatten_append ..) ?_;refine rwC (List.flatten_cons ..) ?_;exact (List.sublist_append_left g _).trans (List.sublist_append_right _ _)
theorem mV {m:Nat}{spot:Int}{Gs:List (List Int)} (hG:Gs.flatten=az m spot) {g:List Int} (hg:g∈Gs):(fL g).Pairwise (·<·)∧(fL g).length≤m:=by
 have h1:(g.filter fun x=>decide (0≤x)).Sublist ((AB m).map fun (i:Nat)=>(0+(i:Int))):=by
  refine rwD (fF (spot:=spot) ..) ?_;refine rwD (hG ..) ?_;exact (pG hg).filter _
 have h2:(fL g).Sublist (AB m):=by
  have:=h1.map BE;have e:(((AB m).map fun (i:Nat)=>(0+(i:Int))).map BE)=AB m:=by
   refine rwC (Cr ..) ?_;have:∀x∈AB m,(BE ∘ fun (i:Nat)=>(0+(i:Int))) x=x:=fun x _=>by
    show (0+(x:Int)).toNat=x;lia
   refine rwC (Cy this ..) ?_;refine rwC (List.map_id' ..) ?_;exact rfl
  replace this:=(e ..)▸this;exact this
 exact ⟨List.pairwise_lt_range.sublist h2,by have:=h2.length_le;rwa [AN] at this⟩
theorem oB:∀p:Pl,∀q∈bD p,IsSet q:=fun p q hq=>by
 unfold bD at hq
 by_cases e:p=17
 ·replace hq:=(if_pos e ..)▸hq;rcases Ai.mp hq with rfl | hq
  ·exact ef .undef
  ·rcases Ai.mp hq with rfl | hq
   ·exact ef .null
   ·refine rwC (Ae.mp hq ..) ?_;exact ef .empty
 ·replace hq:=(if_neg e ..)▸hq;refine rwC (Ae.mp hq ..) ?_;exact ig p
theorem sj {drawn:List Pl}{lt:List Atom} (h:KindOf drawn false lt) (e:lt=[.unk]):(17:Pl)∈drawn:=by
 have:Atom.unk∈drawn.map fun p=>am p false:=by
  rcases (h.norm .unk).mp (by refine rwC (e ..) ?_;exact .head _) with ⟨q,_⟩ | ⟨q,r,_⟩
  ·exact q
  ·rcases J_or r with r | r | r
   ·exact r
   ·cases r
   ·cases r
 refine eE1 (AD.mp this) fun p zt1=>aA2 zt1 fun hp e=>?_;exact (qH p false).mp e▸hp
theorem rE {parts:List (List Int)}{tests:List (List Pl)}{m:Nat}{joins:Int}{Gs I:List (List Int)}{s:List Int} (h:oa parts tests m joins Gs I) (h1:∀v,vW parts tests m (Gs.getD I.length []) v→v∈s) (h2:∀i,∀h:i<I.length,i+1=I.length→jb joins i≠0→∀v∈I[i],v∈s):oa parts tests m joins Gs (I++[s]):=by
 intro i hi;replace hi:=(Ar ..)▸hi;replace hi:=(AL ..)▸hi;rcases Co i I.length with hl | hl
 ·refine ⟨fun v hv=>by refine rwC (Cb hl ..) ?_;exact (h i hl).1 v hv,fun h3 hj v hv=>?_⟩;replace hv:=(Cb hl ..)▸hv;rcases Co (i+1) I.length with h4 | h4
  ·refine rwC (Cb h4 ..) ?_;exact (h i hl).2 h4 hj v hv
  ·refine rwC (BZ h4 ..) ?_;have:i+1=I.length:=by lia
   simp only [this,Nat.sub_self,List.getElem_cons_zero];exact h2 i hl this hj v hv
 ·have e:i=I.length:=by lia
  subst e;refine ⟨fun v hv=>by refine rwC (BZ (Bh _) ..) ?_;simpa using h1 v hv,fun h3=>?_⟩;replace h3:=(Ar ..)▸h3;replace h3:=(AL ..)▸h3;lia
theorem fh {α:Type}{l:List α}{n:Nat}{d:α} (h:n<l.length):l.getD n d=l[n]:=by rw [List.getD_eq_getElem?_getD,AH h];rfl
noncomputable def nW (tests:List (List Pl)) (W:List Int):Prop :=
 ∀i,∀h:i<W.length,(W[i]=-1∧∀v,¬∃p∈tests.getD i [],v∈dh p)∨∃p∈tests.getD i [],W[i]∈dh p
theorem held_one {p:Pl} (h:(dh p).length=1) {v w:Int} (hv:v∈dh p) (hw:w∈dh p):v=w:=by
 rcases e:dh p with _ | ⟨a,_ | ⟨b,r⟩⟩
 ·replace h:=(e ..)▸h;cases h
 ·rw [e] at hv hw;rw [Ae.mp hv,Ae.mp hw]
 ·replace h:=(e ..)▸h;simp at h
set_option tactic.hygienic true in
theorem fQ {tests:List (List Pl)}{W:List Int} (hW:nW tests W) (hl:W.length=tests.length) {v:Int}{j:Nat} (hj:j<tests.length) (hs:v∈dO (tests.getD j [])):W[j]'(by lia)=v:=by
 unfold dO at hs
 split at hs
 ·rename_i p e
  split at hs
  ·rename_i hp;rcases hW j (by lia) with ⟨_,h2⟩ | ⟨q,h1,h2⟩
   ·exact absurd ⟨p,by rw [e];exact .head _,hs⟩ (h2 v)
   ·rw [e] at h1;rw [Ae.mp h1] at h2;exact held_one hp.1 h2 hs
  ·cases hs
 ·cases hs
theorem ln {B:List (List Pl)}{part:List Int}{v:Int} (hv:v∈part) (h:¬dH B part):∃ps∈B,v∈dO ps:=by
 unfold dH at h;exact Classical.byContradiction fun hn=>h (.inr ⟨v,hv,hn⟩)
theorem dE {tests:List (List Pl)}{n:Nat}{ps:List Pl} (h:ps∈tests.take n):∃j,j<n∧j<tests.length∧tests.getD j []=ps:=by
 refine bc fun zz=>?_;obtain ⟨j,hj,e⟩:=List.mem_iff_getElem.mp h;refine zz ?_;rw [BM] at hj;rw [List.getElem_take] at e;refine ⟨j,by lia,by lia,?_⟩;rw [List.getD_eq_getElem?_getD,AH (by lia)];exact e
theorem reach {drawn:List Pl}{tests:List (List Pl)}{m:Nat}{spot:Int}{Gs:List (List Int)}{W:List Int}{v c:Int} (htl:tests.length=m) (hWl:W.length=m) (hW:nW tests W) (hG:Gs.flatten=az m spot) {g:List Int} (hg:g∈Gs)
  (hv:∃p∈drawn,v∈dh p) (hc:(c=-1∧v∉W)∨∃i:Nat,c=(i:Int)∧∃h:i<W.length,W[i]=v∧∀j,∀h2:j<i,W[j]'(by lia)≠v) (hcg:c∈g):vW (ao drawn) tests m g v:=by
 refine bc fun zz=>?_;obtain ⟨part,hp,hvp⟩:∃part∈ao drawn,v∈part:=by
  obtain ⟨p,h1,h2⟩:=hv;exact partsOf_iff.mpr ⟨p,h1,(hU p v).mpr h2⟩
 refine zz ?_;unfold vW pC;refine bc fun zz=>?_;rcases hc with ⟨zr1,hno⟩ | ⟨i,zr2,hi,hWi,hleast⟩
 ·refine zz ?_;subst zr1;have hd:defOf g=true:=Au.mpr hcg;refine .inr ⟨hd,part,hp,?_,hvp⟩;apply Classical.byContradiction;intro hL;refine bc fun zz=>?_;obtain ⟨ps,h1,h2⟩:=ln hvp hL;obtain ⟨j,_,h3,h4⟩:=dE h1;refine zz ?_;have:=fQ hW (by lia) h3 (h4▸h2);exact hno (this▸BG _)
 ·refine zz ?_;subst zr2;have hin:i∈fL g:=by
   unfold fL;exact AD.mpr ⟨(i:Int),Az.mpr ⟨hcg,decide_eq_true (by lia)⟩,by simp⟩
  have hheld:∃p∈tests.getD i [],v∈dh p:=by
   refine bc fun zz=>?_;rcases hW i hi with ⟨h1,h2⟩ | h
   ·refine zz ?_
    exfalso
    replace h1:=(hWi ..)▸h1;refine bc fun zz=>?_;obtain ⟨p,_,h3⟩:=hv;refine zz ?_;have:=(ig p).mem v h3;replace this:=(h1 ..)▸this;exact absurd this (by decide)
   ·refine zz ?_;replace h:=(hWi ..)▸h;exact h
  refine .inl ⟨tests.getD i [],AD.mpr ⟨i,hin,rfl⟩,part,hp,?_,hvp,hheld⟩;cases hd:defOf g with
  | true=>exact .inl rfl
  | false =>
   refine .inr (Classical.byContradiction fun hL=>?_);refine bc fun zz=>?_;obtain ⟨ps,h1,h2⟩:=ln hvp hL;obtain ⟨j,hjl,h3,h4⟩:=dE h1;refine zz ?_;have e:=fQ hW (by lia) h3 (h4▸h2);have hlow:ru m g≤i:=by
    unfold ru;refine rwC (hd ..) ?_;have hs:=(mV hG hg).1;cases hns:fL g with
    | nil=>replace hin:=(hns ..)▸hin;cases hin
    | cons n0 r =>
     rw [hns] at hin hs;show n0≤i;refine bc fun zz=>?_;rcases Ai.mp hin with zr3 | h
     ·refine zz ?_;subst zr3;exact Bh _
     ·refine zz ?_;exact BS ((AZ.mp hs).1 i h)
   exact hleast j (by lia) e
theorem no_group {drawn:List Pl}{tests:List (List Pl)}{m:Nat}{spot:Int}{Gs:List (List Int)}{W:List Int}{v c:Int} (htl:tests.length=m) (hWl:W.length=m) (hW:nW tests W) (hG:Gs.flatten=az m spot)
  (hv:∃p∈drawn,v∈dh p) (hc:(c=-1∧v∉W)∨∃i:Nat,c=(i:Int)∧∃h:i<W.length,W[i]=v∧∀j,∀h2:j<i,W[j]'(by lia)≠v) (hn:∀g∈Gs,c∉g):∃part∈ao drawn,dH tests part:=by
 obtain ⟨part,hp,hvp⟩:∃part∈ao drawn,v∈part:=by
  refine eE1 (hv) fun p zt2=>aA2 zt2 fun h1 h2=>?_;exact partsOf_iff.mpr ⟨p,h1,(hU p v).mpr h2⟩
 refine ⟨part,hp,?_⟩;rcases hc with ⟨rfl,hno⟩ | ⟨i,rfl,hi,hWi,_⟩
 ·apply Classical.byContradiction;intro hL;refine eE1 (ln hvp hL) fun ps zt3=>aA2 zt3 fun h1 h2=>?_;replace h1:=(Cs (l:=tests) ..)▸h1;refine eE1 (dE h1) fun j zt4=>aA3 zt4 fun _ h3 h4=>?_;have:=fQ hW (by lia) h3 (h4▸h2);exact hno (this▸BG _)
 ·exfalso
  have:(i:Int)∈(az m spot).filter (fun x=>decide (0≤x)):=by
   refine rwC (fF ..) ?_;exact AD.mpr ⟨i,List.mem_range.mpr (by lia),by lia⟩
  have h1:=(Az.mp this).1;replace h1:=(hG ..)▸h1;refine eE1 (List.mem_flatten.mp h1) fun g zt5=>aA2 zt5 fun hg h2=>?_;exact hn g hg h2
section
variable {C:ba}{D:aN}{T:Tbl}
theorem q_law_c1 (s l:List Int) (h j c sp i t ca:Int) (fs:List Int) (dr rw te ks pa gr ins:List AV) (o of o1 o2 o3 o4 o5 o6 o7:Option AV) (nx br:Kn) (kr:K):lp C D 143 2 39 (.int i) (some (.olist s)::some (.list (l.map .int))::o::[some (.int h),some (.int j),some (.int c),some (.int sp),some .tab,some .host,some (.list dr),some (.list rw),some (.list te),some (.list ks),of,some (.int t),some (.list pa),some (.list gr),some (.list ins),some (.int ca),some (.set fs),o1,o2,o3,o4,o5,o6,o7,none,none,none,none,none,none]) 1 "inside" T nx br kr=((0≤(Aa i).i∧(Aa i).i<(↑(Ad gr).l.length:Int))∧ak gr[i.toNat]? fun w=>aq w fun items=>aa (items.length.ble cap) (ay (fun a a_1 a_2=>aa (a.k.beq 2 && true) (aa (decide (a.i≥0)) (a_2 (some a) a_1) (a_2 none a_1)) False) items T fun l_1 T=>(0≤(Aa i).i∧(Aa i).i<(↑(Ad gr).l.length:Int))∧ak gr[i.toNat]? fun w=>inP (Aa (-1)) w fun c_1=>aa (!c_1) ((0≤(Aa 0).i∧(Aa 0).i<(↑(Ad l_1).l.length:Int))∧ak l_1[BE 0]? fun w=>aa (l_1.length.ble cap) (ay (fun a a_1 a_2=>aa (a.k.beq 2) ((0≤a.i∧a.i<(↑(Ad ks).l.length:Int))∧ak ks[a.i.toNat]? fun w=>a_2 (some w) a_1) False) l_1 T fun l_2 T=>aa (w.k.beq 2) (0≤w.i∧C ("narrow_switch") [BD,Aa t,Ad (BC w.i.toNat ks),Ad l_2,Aq c_1] T fun v T=>aa (w.k.beq 2) (0≤w.i∧aa (l_1.length.ble cap) (ay (fun a a_1 a_2=>aa (a.k.beq 2) ((0≤a.i∧a.i<(↑(Ad te).l.length:Int))∧ak te[a.i.toNat]? fun w=>a_2 (some w) a_1) False) l_1 T fun l_3 T=>C ("_law_body") [Ad pa,Ad (BC w.i.toNat te),Ad l_3,Aq c_1] T fun v_1 T=>C ("_law_values") [An,v] T fun a T=>eqP a v_1 fun x=>aa (!x) (kr (Aq false) T) (C ("union") [An,Ad [Aa ca,v]] T fun v T=>aa (true && v_1.k.beq 7) (C ("_law_values") [An,v] T fun a T=>eqP a (AE (bp (fs++v_1.z))) fun x=>aa (!x) (kr (Aq false) T) (aa (ins.length.blt cap) (((Aa 64).i≠0∧(Aa 64).i.natAbs<1073741824)∧((Aa 2).i=2∧0≤(Aa i).i∧(Aa i).i≤64)∧((Aa (2 ^ (Aa i).i.toNat)).i≠0∧(Aa (2 ^ (Aa i).i.toNat)).i.natAbs<1073741824)∧(Aa 2).i≠0∧aa (decide (((j.fdiv 64).fdiv (2 ^ i.toNat)).fmod 2=0)) (nx (some (Cj s)::some (Ad (Ah (Aa) l))::o::[some (Aa h),some (Aa j),some (Aa c),some (Aa sp),some An,some BD,some (Ad dr),some (Ad rw),some (Ad te),some (Ad ks),of,some (Aa t),some (Ad pa),some (Ad gr),some (Ad (ins++[AE (bp (fs++v_1.z))])),some (Aa 2),some (AE []),some (Aa i),some (Ad l_1),some (Aq c_1),some w,some (Ad l_2),some v,some v_1,none,none,none,none,none,none]) 1 ("inside") T) (nx (some (Cj s)::some (Ad (Ah (Aa) l))::o::[some (Aa h),some (Aa j),some (Aa c),some (Aa sp),some An,some BD,some (Ad dr),some (Ad rw),some (Ad te),some (Ad ks),of,some (Aa t),some (Ad pa),some (Ad gr),some (Ad (ins++[AE (bp (fs++v_1.z))])),some v,some (AE (bp (fs++v_1.z))),some (Aa i),some (Ad l_1),some (Aq c_1),some w,some (Ad l_2),some v,some v_1,none,none,none,none,none,none]) 1 ("inside") T)) False)) False)) False) False) False) False) (aa (l_1.length.ble cap) (ay (fun a a_1 a_2=>aa (a.k.beq 2) ((0≤a.i∧a.i<(↑(Ad ks).l.length:Int))∧ak ks[a.i.toNat]? fun w=>a_2 (some w) a_1) False) l_1 T fun l_2 T=>0≤(Aa c).i∧C ("narrow_switch") [BD,Aa t,Ad (BC c.toNat ks),Ad l_2,Aq c_1] T fun v T=>0≤(Aa c).i∧aa (l_1.length.ble cap) (ay (fun a a_1 a_2=>aa (a.k.beq 2) ((0≤a.i∧a.i<(↑(Ad te).l.length:Int))∧ak te[a.i.toNat]? fun w=>a_2 (some w) a_1) False) l_1 T fun l_3 T=>C ("_law_body") [Ad pa,Ad (BC c.toNat te),Ad l_3,Aq c_1] T fun v_1 T=>C ("_law_values") [An,v] T fun a T=>eqP a v_1 fun x=>aa (!x) (kr (Aq false) T) (C ("union") [An,Ad [Aa ca,v]] T fun v T=>aa (true && v_1.k.beq 7) (C ("_law_values") [An,v] T fun a T=>eqP a (AE (bp (fs++v_1.z))) fun x=>aa (!x) (kr (Aq false) T) (aa (ins.length.blt cap) (((Aa 64).i≠0∧(Aa 64).i.natAbs<1073741824)∧((Aa 2).i=2∧0≤(Aa i).i∧(Aa i).i≤64)∧((Aa (2 ^ (Aa i).i.toNat)).i≠0∧(Aa (2 ^ (Aa i).i.toNat)).i.natAbs<1073741824)∧(Aa 2).i≠0∧aa (decide (((j.fdiv 64).fdiv (2 ^ i.toNat)).fmod 2=0)) (nx (some (Cj s)::some (Ad (Ah (Aa) l))::o::[some (Aa h),some (Aa j),some (Aa c),some (Aa sp),some An,some BD,some (Ad dr),some (Ad rw),some (Ad te),some (Ad ks),of,some (Aa t),some (Ad pa),some (Ad gr),some (Ad (ins++[AE (bp (fs++v_1.z))])),some (Aa 2),some (AE []),some (Aa i),some (Ad l_1),some (Aq c_1),some (Aa c),some (Ad l_2),some v,some v_1,none,none,none,none,none,none]) 1 ("inside") T) (nx (some (Cj s)::some (Ad (Ah (Aa) l))::o::[some (Aa h),some (Aa j),some (Aa c),some (Aa sp),some An,some BD,some (Ad dr),some (Ad rw),some (Ad te),some (Ad ks),of,some (Aa t),some (Ad pa),some (Ad gr),some (Ad (ins++[AE (bp (fs++v_1.z))])),some v,some (AE (bp (fs++v_1.z))),some (Aa i),some (Ad l_1),some (Aq c_1),some (Aa c),some (Ad l_2),some v,some v_1,none,none,none,none,none,none]) 1 ("inside") T)) False)) False)) False) False)) False):=by kernel_rfl
end
theorem compSK {β α:Type}{tP:AV→Tbl→(Option AV→Tbl→Prop)→Prop}{f:α→AV}{e:β→AV}{full:List α}{Q:List AV→Tbl→Prop}{T:Tbl} (I:List α→List β→Prop) (h0:I [] [])
  (step:∀pre a c bs (P:Option AV→Tbl→Prop),full=pre++a::c→I pre bs→(∀b,I (pre++[a]) (bs++[b])→P (some (e b)) T)→tP (f a) T P) (fin:∀bs,I full bs→Q (bs.map e) T):ay tP (full.map f) T Q :=
 fE (out:=[]) (fun c out T1=>∃pre bs,full=pre++c∧out=bs.map e∧T1=T∧I pre bs) ⟨[],[],rfl,rfl,rfl,h0⟩ (fun a c out T1 P h hx=>by
  obtain ⟨pre,bs,e1,rfl,rfl,i⟩:=h;exact step pre a c bs P e1 i fun b i'=>(hx (e b) T1 ⟨pre++[a],bs++[b],by rw [e1,AQ];rfl,by rw [AI];rfl,rfl,i'⟩)) (fun out T1 h=>by
  obtain ⟨pre,bs,e1,rfl,rfl,i⟩:=h;rw [AG] at e1;subst e1;exact fin bs i)
theorem mj {b:Int}{P:Prop} (h:0≤b∧b≤1000000) (p:P):(-((cap:Nat):Int)≤(0:Int)∧(0:Int)≤((cap:Nat):Int)∧-((cap:Nat):Int)≤b∧b≤((cap:Nat):Int))∧P:=by
 refine ⟨?_,p⟩;show -((1000000:Nat):Int)≤(0:Int)∧(0:Int)≤((1000000:Nat):Int)∧-((1000000:Nat):Int)≤b∧b≤((1000000:Nat):Int);lia
section
variable {W:Wd}{n k:Nat}{T:Tbl}{kn kb:Kn}{kr:K} (wf:WF W)
include wf
theorem law_prep {s l:List Int} (hl:l.length=16) {m:Nat} (hm:1≤m∧m≤5) {spot:Int} (hs:0≤spot) {joins:Int}{o:Option AV} (g:Gd (k+26) T)
  (h:∀(drawn:List Pl) (rows:List Int) (tests:List (List Pl)) (ks:List Int) (Ks:List (List Atom)) (t:Int) (lt:List Atom) (Gs:List (List Int)) (o of:Option AV) (T':Tbl),tests.length=m→m≤rows.length→ks.length=m→Kinds tests Ks→Tyk T' ks Ks→(∀ps∈tests,ps.Nodup∧ps.length≤3∧((17:Pl)∈drawn→(6:Pl)∉ps))→KindOf drawn false lt→Ty T' t lt→drawn.length≤5→Gs.flatten=az m spot→(∀g∈Gs,g≠[])→Gd k T'→T <+: T' →
   aq (.rng 0 ((Gs.map gAV).length:Int)) fun items=>bA (lp (Calls W (n+20)) (aw W (n+20)) 143 2 39) items (lapS s l o (l[0]'(by lia)) joins (m:Int) spot ((drawn.map pI).map .int) (rows.map .int) (tests.map be) ks of t ((ao drawn).map .set) (Gs.map gAV) [] 2 [] fun _=>none) 1 "inside" T' (rs (Calls W (n+20)) (aw W (n+20)) 143 2 40 kn kb kr) kr) :
  tl (Calls W (n+20)) (aw W (n+20)) 143 10 40 kn kb kr (sl0 s l o (l[0]'(by lia)) joins m spot (some .tab) (some .host)) 0 ⟨#[]⟩ T:=by
 have cK:=sd;have g1:=g.1;have d0:=Bw (l[0]'(by lia)) (by decide:(0:Int)<6);have d1:=BF (l[0]'(by lia)) (by decide:(0:Int)<6);refine (q_law_b ..).mpr ⟨by decide,mj (b:=Bi (l[0]'(by lia)) 6) (by lia) (bf (by refine rwC (Aj ..) ?_;refine rwC (AN ..) ?_;lia) ?_)⟩;refine compSK (e:=fun p=>Aa (pI p)) (fun a ps=>ps.length=a.length) rfl (fun a y c ps P e1 e4 hx=>?_) fun drawn e4=>?_
 ·refine aA2 (bi e1) fun ey yl=>?_;have hy:2+y<l.length:=by lia
  refine eE1 (mod18 (l[2+y]'hy)) fun p hp=>?_;refine ce rfl ⟨?_,ax (a:=.int (l[2+y]'hy)) ?_ (ce rfl ⟨by decide,?_⟩)⟩
  ·show (0:Int)≤2+(0+(y:Int))∧2+(0+(y:Int))<((l.map Aa).length:Int);refine rwC (Aj ..) ?_;lia
  ·show (l.map Aa)[((2:Int)+(0+(y:Int))).toNat]?=_;rw [show ((2:Int)+(0+(y:Int))).toNat=2+y by lia,Bq,AH hy];rfl
  ·show P (some (.int (Bi (l[2+y]'hy) 18))) T;refine rwC (hp ..) ?_;exact hx p (by refine rwC (Ar ..) ?_;refine rwC (Ar ..) ?_;refine rwC (e4 ..) ?_;rfl)
 refine rwD (aG pI drawn) ?_;have hdl:drawn.length≤5:=by refine rwC (e4 ..) ?_;refine rwC (AN ..) ?_;lia
 have hR:m≤(l.drop ((2:Int)+Bi (l[0]'(by lia)) 6).toNat).length:=by refine rwC (BU ..) ?_;lia
 have hw:((drawn.map pI).contains 17=true↔(17:Pl)∈drawn):=by
  rw [Au,AD];exact ⟨(fun zq1=>by obtain ⟨q,h1,h2⟩:=zq1;exact (pI_eq q 17).mp h2▸h1),fun h1=>⟨17,h1,rfl⟩⟩
 have em:((m:Int) - 0).toNat=m:=by lia
 refine ⟨by decide,by show (0:Int)≤2+Bi (l[0]'(by lia)) 6;lia,mj (b:=(m:Int)) (by lia) ?_⟩;refine rwC (em ..) ?_;refine bf (by refine rwC (Aj ..) ?_;refine rwC (AN ..) ?_;lia) ?_;show ay (fun a T P=>aa (Aw a.k 2) ((0≤a.i∧a.i<((BN ((2:Int)+Bi (l[0]'(by lia)) 6).toNat (Ah Aa l)).length:Int))∧ak (BN ((2:Int)+Bi (l[0]'(by lia)) 6).toNat (Ah Aa l))[a.i.toNat]? _) False) _ _ _;refine rwD (List.map_drop ..) ?_;revert hR;generalize l.drop ((2:Int)+Bi (l[0]'(by lia)) 6).toNat=rows;intro hR;refine compSK (e:=be) (fun a tests=>tests.length=a.length∧∀ps∈tests,ps.Nodup∧ps.length≤3∧((17:Pl)∈drawn→(6:Pl)∉ps)) ⟨rfl,nofun⟩ (fun a y c tests P e1 i hx=>?_) fun tests i=>?_
 ·refine aA2 (bi e1) fun ey yl=>?_;have hy:y<rows.length:=by lia
  refine ce rfl ⟨oW hy,ax (jd hy) (ax (aV _) (rz wf fun ps p1 p2 p3=>hx ps ⟨by refine rwC (Ar ..) ?_;refine rwC (Ar ..) ?_;refine rwC (i.1 ..) ?_;rfl,fun qs hq=>?_⟩))⟩;exact (Ao.mp hq).elim (i.2 qs) fun hq=>by refine rwC (Ae.mp hq ..) ?_;exact ⟨p1,p2,fun q17=>p3 (hw.mpr q17)⟩
 have htl:tests.length=m:=by refine rwC (i.1 ..) ?_;exact AN
 have htests:=i.2;refine mj (b:=(m:Int)) (by lia) ?_;refine rwC (aG ..) ?_;refine rn wf (n:=n+16) (k:=k+6) hm.2 hR htl (fun ps hps=>⟨(htests ps hps).1,(htests ps hps).2.1⟩) (g.mono (by lia)) fun ks Ks o of T3 hk1 hk2 hk3 g3 p3=>?_;refine (q_law_b2 ..).mpr (bf (by refine rwC (Aj ..) ?_;lia) (kG wf (n:=n+18) (k:=k+1) (f:=false) (g3.mono (by lia)) fun ts T4 e4 g4 p4=>?_));refine bF wf (n:=n+16) (k:=k) g4 e4 (.inr rfl) fun t6 T6 l6 g6 p6 y6 m6=>?_;refine rwD (aG ..) ?_;refine oT wf (by lia) (nq wf ⟨hm.1,by lia⟩ hs fun Gs hG1 hG2=>?_);have pT:=p3.trans (p4.trans p6);exact h drawn rows tests ks Ks t6 l6 Gs o of T6 htl hR hk1 hk2 (hk3.mono g6.1.nodup (p4.trans p6)) htests ⟨m6,y6.nodup⟩ y6 hdl hG1 hG2 g6 pT
end
noncomputable def uq (C:ba) (s l:List Int) (h j c sp i t ca lo:Int) (fs:List Int) (dr rw te ks pa gr ins:List AV) (o of:Option AV) (l_1:List AV) (c_1:Bool) (nx:Kn) (kr:K) (T:Tbl):Prop:=aa (l_1.length.ble cap) (ay (fun a a_1 a_2=>aa (a.k.beq 2) ((0≤a.i∧a.i<(↑(Ad ks).l.length:Int))∧ak ks[a.i.toNat]? fun w=>a_2 (some w) a_1) False) l_1 T fun l_2 T=>0≤(Aa lo).i∧C ("narrow_switch") [BD,Aa t,Ad (BC lo.toNat ks),Ad l_2,Aq c_1] T fun v T=>0≤(Aa lo).i∧aa (l_1.length.ble cap) (ay (fun a a_1 a_2=>aa (a.k.beq 2) ((0≤a.i∧a.i<(↑(Ad te).l.length:Int))∧ak te[a.i.toNat]? fun w=>a_2 (some w) a_1) False) l_1 T fun l_3 T=>C ("_law_body") [Ad pa,Ad (BC lo.toNat te),Ad l_3,Aq c_1] T fun v_1 T=>C ("_law_values") [An,v] T fun a T=>eqP a v_1 fun x=>aa (!x) (kr (Aq false) T) (C ("union") [An,Ad [Aa ca,v]] T fun v T=>aa (true && v_1.k.beq 7) (C ("_law_values") [An,v] T fun a T=>eqP a (AE (bp (fs++v_1.z))) fun x=>aa (!x) (kr (Aq false) T) (aa (ins.length.blt cap) (((Aa 64).i≠0∧(Aa 64).i.natAbs<1073741824)∧((Aa 2).i=2∧0≤(Aa i).i∧(Aa i).i≤64)∧((Aa (2 ^ (Aa i).i.toNat)).i≠0∧(Aa (2 ^ (Aa i).i.toNat)).i.natAbs<1073741824)∧(Aa 2).i≠0∧aa (decide (((j.fdiv 64).fdiv (2 ^ i.toNat)).fmod 2=0)) (nx (some (Cj s)::some (Ad (Ah (Aa) l))::o::[some (Aa h),some (Aa j),some (Aa c),some (Aa sp),some An,some BD,some (Ad dr),some (Ad rw),some (Ad te),some (Ad ks),of,some (Aa t),some (Ad pa),some (Ad gr),some (Ad (ins++[AE (bp (fs++v_1.z))])),some (Aa 2),some (AE []),some (Aa i),some (Ad l_1),some (Aq c_1),some (Aa lo),some (Ad l_2),some v,some v_1,none,none,none,none,none,none]) 1 ("inside") T) (nx (some (Cj s)::some (Ad (Ah (Aa) l))::o::[some (Aa h),some (Aa j),some (Aa c),some (Aa sp),some An,some BD,some (Ad dr),some (Ad rw),some (Ad te),some (Ad ks),of,some (Aa t),some (Ad pa),some (Ad gr),some (Ad (ins++[AE (bp (fs++v_1.z))])),some v,some (AE (bp (fs++v_1.z))),some (Aa i),some (Ad l_1),some (Aq c_1),some (Aa lo),some (Ad l_2),some v,some v_1,none,none,none,none,none,none]) 1 ("inside") T)) False)) False)) False) False
section
variable {W:Wd}{n k:Nat}{T:Tbl} (wf:WF W)
theorem pV {α:Type}{f:α→AV}{xs:List α}{d:α}{ns:List Nat}{F:List AV→Tbl→Prop} (hn:∀i∈ns,i<xs.length) (h:F ((ns.map fun i=>xs.getD i d).map f) T) :
  ay (fun a T P=>aa (Aw a.k 2) ((0≤a.i∧a.i<((xs.map f).length:Int))∧ak (xs.map f)[a.i.toNat]? fun w=>P (some w) T) False) (ns.map fun (i:Nat)=>Aa (i:Int)) T F:=by
 refine cy (g:=fun i=>f (xs.getD i d)) (fun i hi P q=>ce rfl ⟨?_,ax ?_ q⟩) (by replace h:=(Cr ..)▸h;exact h)
 ·show (0:Int)≤(i:Int)∧(i:Int)<((xs.map f).length:Int);have:=hn i hi;refine rwC (Aj ..) ?_;lia
 ·show (xs.map f)[((i:Nat):Int).toNat]?=_;rw [AY,Bq,AH (hn i hi),fh (hn i hi)];rfl
theorem fsets {s t:List Int}{P R:Prop} (h1:¬s=t→P) (h2:s=t→R):eqP (.set s) (.set t) fun x=>aa (!x) P R:=by
 show aa (!decide (s=t)) P R
 by_cases e:s=t
 ·refine rwC (decide_eq_true e ..) ?_;exact h2 e
 ·refine rwC (decide_eq_false e ..) ?_;exact h1 e
include wf
theorem lap_tail {m low y:Nat} (hm:m≤5) {h c sp joins t cid:Int}{drawn:List Pl}{tests:List (List Pl)}{ks:List Int}{Ks:List (List Atom)}{lt lc:List Atom}{G:List Int}{I:List (List Int)}{fs s l:List Int}{dr rw gr:List AV}{o of:Option AV}{d:Bool}{nx:Kn}{kr:K}
  (htl:tests.length=m) (hkl:ks.length=m) (hk2:Kinds tests Ks) (hk3:Tyk T ks Ks) (hkt:KindOf drawn false lt) (hyt:Ty T t lt) (hpl:(ao drawn).length≤400) (hps:∀p∈ao drawn,IsSet p)
  (hKs:∀K∈(fL G).map (fun i=>Ks.getD i []),KOk K∧(lt=[.unk]→.void∉K)) (nslt:∀i∈fL G,i<m) (nsl:(fL G).length≤5) (hlow:low≤m) (hyc:Ty T cid lc) (hfs:IsSet fs) (hfv:∀v,v∈fs↔bR lc v) (hI:I.length<1000) (hy:y≤20) (g:Gd (k+400) T)
  (hx:∀sw T6,IsSet sw→(∀v,v∈sw↔pC (ao drawn) (tests.take low) (ownT tests G) d v)→Gd k T6→T <+: T6→∀J,
   (jb joins y=0→nx (lapS s l o h joins c sp dr rw (tests.map be) ks of t ((ao drawn).map .set) gr (I++[bp (fs++sw)]) 2 [] J) 1 "inside" T6) ∧
   (jb joins y≠0→∀t6 l6,Ty T6 t6 l6→(∀v,v∈bp (fs++sw)↔bR l6 v)→nx (lapS s l o h joins c sp dr rw (tests.map be) ks of t ((ao drawn).map .set) gr (I++[bp (fs++sw)]) t6 (bp (fs++sw)) J) 1 "inside" T6)) :
  uq (Calls W (n+20)) s l h joins c sp (0+(y:Int)) t cid (low:Int) fs dr rw (tests.map be) (ks.map .int) ((ao drawn).map .set) gr (I.map .set) o of ((fL G).map fun (i:Nat)=>.int (i:Int)) d nx kr T:=by
 have cK:=sd;have nsc:((fL G).map fun (i:Nat)=>Aa (i:Int)).length≤cap:=by refine rwC (Aj ..) ?_;lia
 refine bf nsc (pV (fun i hi=>by refine rwC (hkl ..) ?_;exact nslt i hi) (d:=(0:Int)) ⟨Bv _,?_⟩);refine rwC (show BC ((low:Nat):Int).toNat (Ah Aa ks)=(ks.take low).map Aa from by rw [AY,List.map_take]) ?_;refine iP wf (n:=n+8) (k:=k+2) (d:=d) (Bs:=Ks.take low) (Hs:=(fL G).map fun i=>Ks.getD i []) (g.mono (by refine rwC (BM ..) ?_;refine rwC (Aj ..) ?_;lia)) hyt (hk3.take _) (hk3.pick _ (fun i hi=>by have:=nslt i hi;lia)) hKs (by refine rwC (Aj ..) ?_;lia) fun t5 T5 l5 g5 p5 y5 m5=>⟨Bv _,bf nsc (pV (fun i hi=>by refine rwC (htl ..) ?_;exact nslt i hi) (d:=([]:List Pl)) ?_)⟩;have hcore:∀v,bR l5 v↔pC (ao drawn) (tests.take low) (ownT tests G) d v:=fun v=>(m5 v).trans (core hkt (hk2.take _) (hk2.pick _ (fun i hi=>by have:=nslt i hi;lia)) v);refine rwC (show BC ((low:Nat):Int).toNat (Ah be tests)=(tests.take low).map be from by rw [AY,List.map_take]) ?_;refine rA wf (n:=n+18) (O:=ownT tests G) hpl hps fun sw hsw hvw=>gI wf (n:=n+17) g5.1 y5 fun sv hsv hvv=>fsets (fun e=>absurd (hsv.ext hsw fun v=>by rw [hvv,hcore,hvw]) e) fun _=>?_;refine bF wf (n:=n+16) (k:=k+1) (ts:=[cid,t5]) g5 (.cons (hyc.mono g5.1.nodup p5) (.cons y5 .nil)) (.inr rfl) fun t6 T6 l6 g6 p6 y6 m6=>ce rfl (gI wf (n:=n+17) g6.1 y6 fun su hsu hvu=>?_);have hfw:IsSet (bp (fs++sw)):=hfs.or hsw;have e2:su=bp (fs++sw):=hsu.ext hfw fun v=>by
  rw [hvu,bj m6,cf,AG,gC,hfv,hvw,hcore]
 have lI:(I.map AE).length=I.length:=Aj _;have hI2:I.map AE++[AE (bp (fs++sw))]=(I++[bp (fs++sw)]).map AE:=by refine rwC (AI ..) ?_;rfl
 have ep:((0:Int)+(y:Int)).toNat=y:=by lia
 refine aA2 (hx sw T6 hsw hvw (g6.mono (Cf k)) (p5.trans p6) (jn [some (.int (0+(y:Int))),some (.list ((fL G).map fun (i:Nat)=>.int (i:Int))),some (.bool d),some (.int (low:Int)),some (.list (((fL G).map fun i=>ks.getD i 0).map Aa)),some (.int t6),some (.set sw)])) fun h1 h2=>?_;refine fsets (fun e=>absurd e2 e) fun _=>bS (by lia) ⟨⟨by decide,by decide⟩,⟨rfl,?_,?_⟩,?_,by decide,?_⟩
 ·show (0:Int)≤0+(y:Int);lia
 ·show (0:Int)+(y:Int)≤64;lia
 ·show (2:Int) ^ ((0:Int)+(y:Int)).toNat≠0∧((2:Int) ^ ((0:Int)+(y:Int)).toNat).natAbs<1073741824;refine rwC (ep ..) ?_;exact tG (by lia)
 refine rwC (ep ..) ?_;refine rwC hI2 ?_;refine bK (b:=decide (jb joins y=0)) (fun z=>h1 (of_decide_eq_true z)) fun z=>h2 (of_decide_eq_false z) t6 l6 y6 fun v=>by refine rwD (e2 ..) ?_;exact hvu v
end
section
variable {W:Wd}{n k:Nat}{T:Tbl} (wf:WF W)
include wf
theorem law_laps {m:Nat} (hm:1≤m∧m≤5) {spot joins:Int}{drawn:List Pl}{tests:List (List Pl)}{ks:List Int}{Ks:List (List Atom)}{t:Int}{lt:List Atom}{Gs:List (List Int)}{s l:List Int}{h sp:Int}{dr rw:List AV}{o of:Option AV}{kn:Kn}{kr:K}
  (htl:tests.length=m) (hkl:ks.length=m) (hk2:Kinds tests Ks) (hk3:Tyk T ks Ks) (htests:∀ps∈tests,ps.Nodup∧ps.length≤3∧((17:Pl)∈drawn→(6:Pl)∉ps)) (hkt:KindOf drawn false lt) (hyt:Ty T t lt) (hdl:drawn.length≤5) (hG1:Gs.flatten=az m spot) (hG2:∀g∈Gs,g≠[]) (hGl:Gs.length≤6) (g:Gd (k+400*6) T)
  (fin:∀I cid fs J T',I.length=Gs.length→oa (ao drawn) tests m joins Gs I→Gd k T'→T <+: T'→kn (lapS s l o h joins (m:Int) sp dr rw (tests.map be) ks of t ((ao drawn).map .set) (Gs.map gAV) I cid fs J) 1 "inside" T') :
  aq (.rng 0 ((Gs.map gAV).length:Int)) fun items=>bA (lp (Calls W (n+20)) (aw W (n+20)) 143 2 39) items (lapS s l o h joins (m:Int) sp dr rw (tests.map be) ks of t ((ao drawn).map .set) (Gs.map gAV) [] 2 [] fun _=>none) 1 "inside" T kn kr:=by
 have lG:(Gs.map gAV).length=Gs.length:=Aj _;refine mj (b:=((Gs.map gAV).length:Int)) (by lia) ?_;show bA _ (Ah (fun (i:Nat)=>Aa (0+(i:Int))) (AB (((Gs.map gAV).length:Int) - 0).toNat)) _ _ _ _ _ _;refine rwC (show (((Gs.map gAV).length:Int) - 0).toNat=Gs.length by lia) ?_;refine forS5 (a:=[]) (b:=[]) (c:=2) (d:=[]) (e:=fun _=>none) (fun pre I fs cid lc _ T3=>I.length=pre.length∧oa (ao drawn) tests m joins Gs I∧Ty T3 cid lc∧IsSet fs∧(∀v,v∈fs↔bR lc v)∧(∀i,∀h:i<I.length,i+1=I.length→jb joins i≠0→∀v∈I[i],v∈fs)∧Gd (k+400*(6 - pre.length)) T3∧T <+: T3)
  (fun I fs cid lc J=>lapS s l o h joins (m:Int) sp dr rw (tests.map be) ks of t ((ao drawn).map .set) (Gs.map gAV) I cid fs J)
  ⟨rfl,(fun i h=>absurd h (BJ i)),Ty.never T,.nil,(fun v=>⟨nofun,fun q=>absurd q (ci v)⟩),(fun i h=>absurd h (BJ i)),g,AO _⟩ (fun pre y cc I fs cid lc J T3 nx e9 i hx=>?_) fun I fs cid lc J T3 i=>?_
 ·refine aA2 (bi e9) fun ey yl=>?_;refine aA8 i fun hI hIns hyc hfs hfv hjn g3 pf=>?_;clear i e9 fin;have g3':=g3.1;have hgm:Gs[y]∈Gs:=BG yl;have hgd:Gs.getD y []=Gs[y]:=fh yl;have nslt:=ns_lt hG1 hgm;have nsl5:(fL Gs[y]).length≤5:=Bp (mV hG1 hgm).2 hm.2;have gl:Gs[y].length≤cap:=by
   have h1:=(pG hgm).length_le;replace h1:=(hG1 ..)▸h1;have h2:=kB m spot;have:=sd;lia
  have hpl:(ao drawn).length≤400:=by
   have:=dF fW drawn;show (drawn.flatMap bD).length≤400;lia
  have hps:∀p∈ao drawn,IsSet p:=fun q hq=>by
   refine bc fun zz=>?_;obtain ⟨p,_,h2⟩:=List.mem_flatMap.mp hq;refine zz ?_;exact oB p q h2
  have hKs:∀K∈(fL Gs[y]).map (fun i=>Ks.getD i []),KOk K∧(lt=[.unk]→.void∉K):=fun K hK=>by
   refine bc fun zz=>?_;obtain ⟨i,hi,zr5⟩:=AD.mp hK;refine zz ?_;subst zr5;have hi2:=nslt i hi;refine bc fun zz=>?_;obtain ⟨_,f,hf⟩:=hk2.get.2 i (by lia);refine zz ?_;have hmem:tests.getD i []∈tests:=by refine rwC (fh (by lia) ..) ?_;exact BG _
   have:=kind_ok hf (decide ((17:Pl)∈drawn)) (fun q=>(htests _ hmem).2.2 (of_decide_eq_true q));exact ⟨this.1,fun e=>this.2 (decide_eq_true (sj hkt e))⟩
  have l1:(pre++[y]).length=pre.length+1:=Ar;have tail:∀low:Nat,low=ru m Gs[y]→low≤m→uq (Calls W (n+20)) s l h joins (m:Int) sp (0+(y:Int)) t cid (low:Int) fs dr rw (tests.map be) (ks.map .int) ((ao drawn).map .set) (Gs.map gAV) (I.map .set) o of ((fL Gs[y]).map fun (i:Nat)=>.int (i:Int)) (defOf Gs[y]) nx kr T3:=fun low hlow hlm=>by
   refine lap_tail wf (k:=k+400*(6 - (pre.length+1))) hm.2 htl hkl hk2 (hk3.mono g3'.nodup pf) hkt (hyt.mono g3'.nodup pf) hpl hps hKs nslt nsl5 hlm hyc hfs hfv (by lia) (by lia) (g3.mono (by lia)) fun sw T6 hsw hvw g6 p6' J=>?_;have hIns2:oa (ao drawn) tests m joins Gs (I++[bp (fs++sw)]):=rE hIns (fun v hv=>by
    replace hv:=(hI ..)▸hv;replace hv:=(ey ..)▸hv;replace hv:=(hgd ..)▸hv;rw [gC];exact .inr ((hvw v).mpr (by unfold vW at hv;rw [hlow];exact hv))) (fun i hi h1 h2 v hv=>by
    rw [gC];exact .inl (hjn i hi h1 h2 v hv))
   have hIl:(I++[bp (fs++sw)]).length=(pre++[y]).length:=by refine rwC (Ar ..) ?_;refine rwC (Ar ..) ?_;refine rwC (hI ..) ?_;rfl
   have gk:Gd (k+400*(6 - (pre++[y]).length)) T6:=by refine rwC (l1 ..) ?_;exact g6
   refine ⟨fun hz=>hx (I++[bp (fs++sw)]) [] 2 [] J T6 ⟨hIl,hIns2,Ty.never T6,.nil,(fun v=>⟨nofun,fun q=>absurd q (ci v)⟩),fun i hi h1 h2 v hv=>?_,gk,pf.trans p6'⟩,fun hz t6 l6 y6 hv6=>hx (I++[bp (fs++sw)]) (bp (fs++sw)) t6 l6 J T6 ⟨hIl,hIns2,y6,hfs.or hsw,hv6,fun i hi h1 h2 v hv=>?_,gk,pf.trans p6'⟩⟩
   ·replace h1:=(hIl ..)▸h1;replace h1:=(l1 ..)▸h1;have:i=y:=by lia
    replace h2:=(this ..)▸h2;exact absurd hz h2
   ·replace h1:=(hIl ..)▸h1;replace h1:=(l1 ..)▸h1;have:i=I.length:=by lia
    subst this;replace hv:=(BZ (Bh _) ..)▸hv;simpa using hv
  refine (q_law_c1 ..).mpr ⟨oW yl,ax (jd yl) ?_⟩;show aa (BY (Gs[y].map Aa).length cap) (ay (fun a T P=>aa (Aw a.k 2 && true) (aa (decide (a.i≥0)) (P (some a) T) (P none T)) False) (Gs[y].map Aa) T3 _) False;refine bf (by refine rwC (Aj ..) ?_;exact gl) (bB (p:=fun x=>decide (0≤x)) (fun x hx P q=>ce rfl ?_) ?_)
  ·show aa (decide (0≤x)) _ _;cases e:decide (0≤x) with
   | true=>replace q:=(e ..)▸q;exact q
   | false=>replace q:=(e ..)▸q;exact q
  refine rwC (show (Gs[y].filter fun x=>decide (0≤x)).map Aa=(fL Gs[y]).map fun (i:Nat)=>Aa (i:Int) from by rw [← ns_int,aG]) ?_;refine ⟨oW yl,ax (jd yl) (show ak (aB (Gs[y].map Aa)) _ from ax (aV _) ?_)⟩;show aa (!defOf Gs[y]) _ _;cases hdef:defOf Gs[y] with
  | true =>
   have:=tail m (by unfold ru;refine rwC (hdef ..) ?_;rfl) (Bh m);exact aR rfl this
  | false =>
   refine bc fun zz=>?_;obtain ⟨n0,nr,hns⟩:=nodef hG1 hgm (hG2 _ hgm) hdef;refine zz ?_;have:=tail n0 (by unfold ru;refine rwC (hdef ..) ?_;refine rwC (hns ..) ?_;rfl) (BS (nslt n0 (by refine rwC (hns ..) ?_;exact .head _)));have e0:((fL Gs[y]).map fun (i:Nat)=>Aa (i:Int))[BE 0]?=some (.int (n0:Int)):=by refine rwC (hns ..) ?_;rfl
   refine ce rfl ⟨⟨by decide,?_⟩,ax e0 this⟩;show (0:Int)<(((fL Gs[y]).map fun (i:Nat)=>Aa (i:Int)).length:Int);refine rwC (Aj ..) ?_;refine rwC (hns ..) ?_;refine rwC (AK ..) ?_;lia
 ·refine aA8 i fun hI hIns _ _ _ _ g3 pf=>?_;have lp:(AB Gs.length).length=Gs.length:=AN;exact fin I cid fs J T3 (by lia) hIns (g3.mono (by lia)) pf
end
section
variable {C:ba}{D:aN}{T:Tbl}
theorem q_law_d (s l:List Int) (h j c sp t ca:Int) (fs:List Int) (dr rw te pa gr:List AV) (ks:List Int) (ins:List (List Int)) (o of:Option AV) (J:Nat→Option AV) (kn kb:Kn) (kr:K):rs C D 143 2 40 kn kb kr (lapS s l o h j c sp dr rw te ks of t pa gr ins ca fs J) 1 "inside" T=(C ("_law_said") [Ad te] T fun v T=>C ("_law_left") [Ad pa,v] T fun v T=>au v fun c_1=>C ("is_exhausted") [BD,Aa t,Ad (Ah Aa ks)] T fun a T=>eqP a (Aq !c_1) fun x=>aa (!x) (kr (Aq false) T) ((-(↑cap:Int)≤(Bm 0 (Aa c).i).i∧(Bm 0 (Aa c).i).i≤(↑cap:Int)∧-(↑cap:Int)≤(Bm 0 (Aa c).i).j∧(Bm 0 (Aa c).i).j≤(↑cap:Int))∧bA (lp C D 143 3 39) (Ah (fun (n:Nat)=>Aa (0+(↑n:Int))) (AB (c - 0).toNat)) (dK s l o h j c sp dr rw te ks of t pa gr ins ca fs J (jn [some (Aq !c_1),some (Ad [])])) 1 ("worth") T (rs C D 143 3 40 kn kb kr) kr)):=by kernel_rfl
theorem q_law_d1 (s l:List Int) (h j c sp t ca:Int) (fs:List Int) (dr rw te pa gr:List AV) (ks:List Int) (ins:List (List Int)) (o of:Option AV) (J:Nat→Option AV) (i:Int) (fu:Bool) (wo:List AV) (ph:Option AV) (nx br:Kn) (kr:K):lp C D 143 3 39 (.int i) (dK s l o h j c sp dr rw te ks of t pa gr ins ca fs J (jn [some (.bool fu),some (.list wo),ph])) 1 "worth" T nx br kr=((0≤(Aa i).i∧(Aa i).i<(↑(Ad te).l.length:Int))∧ak te[i.toNat]? fun w=>C ("_law_all") [w] T fun v T=>blt1 3 v fun u=>au u fun c_1=>aa c_1 ((0≤(Aa i).i∧(Aa i).i<(↑(Ad rw).l.length:Int))∧ak rw[i.toNat]? fun w=>aa (w.k.beq 2 && true) (((Aa 7).i≠0∧(Aa 7).i.natAbs<1073741824)∧blt1 0 u fun u_1=>aa (true && u_1.k.beq 2) (u_1.i≠0∧dT u ((w.i.fdiv 7).fmod u_1.i) fun w=>aa (wo.length.blt cap) (nx (dK s l (some (Aa i)) h j c sp dr rw te ks of t pa gr ins ca fs J (jn [some (Aq fu),some (Ad (wo++[w])),some u])) 1 ("worth") T) False) False) False) (aa (wo.length.blt cap) (nx (dK s l (some (Aa i)) h j c sp dr rw te ks of t pa gr ins ca fs J (jn [some (Aq fu),some (Ad (wo++[Aa (-1)])),some u])) 1 ("worth") T) False)):=by kernel_rfl
theorem q_law_d2 (s l:List Int) (h j c sp t ca:Int) (fs:List Int) (dr rw te pa gr:List AV) (ks:List Int) (ins:List (List Int)) (o of:Option AV) (J:Nat→Option AV) (fu:Bool) (wo:List AV) (ph:Option AV) (kn kb:Kn) (kr:K):rs C D 143 3 40 kn kb kr (dK s l o h j c sp dr rw te ks of t pa gr ins ca fs J (jn [some (.bool fu),some (.list wo),ph])) 1 "worth" T=(C ("_law_all") [Ad dr] T fun v T=>blt1 3 v fun u=>aq u fun items=>bA (lp C D 143 4 39) items (dK s l o h j c sp dr rw te ks of t pa gr ins ca fs J (jn [some (Aq fu),some (Ad wo),ph])) 1 ("worth") T (rs C D 143 4 40 kn kb kr) kr):=by kernel_rfl
end
theorem qO {tests:List (List Pl)}{W:List Int}{w:Int} (h:nW tests W) (h1:(w=-1∧∀v,¬∃p∈tests.getD W.length [],v∈dh p)∨∃p∈tests.getD W.length [],w∈dh p):nW tests (W++[w]):=by
 intro i hi;replace hi:=(Ar ..)▸hi;replace hi:=(AL ..)▸hi;rcases Co i W.length with hl | hl
 ·refine rwC (Cb hl ..) ?_;exact h i hl
 ·have e:i=W.length:=by lia
  subst e;refine rwC (BZ (Bh _) ..) ?_;simpa using h1
theorem pick_one {l:List Int}{z:Int}{F:AV→Prop} (hl:l≠[]) (h:∀w∈l,F (.int w)):((l.map Aa).length:Int)≠0∧dT (.list (l.map .int)) (Bi z ((l.map Aa).length:Int)) F:=by
 have hp:(0:Int)<((l.map Aa).length:Int):=by rw [Aj];exact Int.ofNat_lt.mpr (List.length_pos_iff.mpr hl)
 have f0:=Bw z hp;have f1:=BF z hp;revert f0 f1;generalize Bi z ((l.map Aa).length:Int)=q;intro f0 f1;have hi:q.toNat<l.length:=by have:=Aj (as:=l) Aa;lia
 exact ⟨Int.ne_of_gt hp,⟨f0,f1⟩,ax (a:=.int l[q.toNat]) (by show (l.map Aa)[q.toNat]?=_;rw [Bq,AH hi];rfl) (h _ (BG hi))⟩
section
variable {W:Wd}{n k:Nat}{T:Tbl} (wf:WF W)
include wf
variable {s l rows ks fs:List Int}{h j c sp t ca:Int}{dr pa gr:List AV}{I:List (List Int)}{tests:List (List Pl)}{o of:Option AV}{J:Nat→Option AV}{m:Nat}{kn:Kn}{kr:K}
theorem qN {fu:Bool} (hm:m≤5) (htl:tests.length=m) (hRl:m≤rows.length)
  (fin:∀(V:List Int) o ph,V.length=m→nW tests V→kn (dK s l o h j c sp dr (rows.map .int) (tests.map be) ks of t pa gr I ca fs J (jn [some (.bool fu),some (.list (V.map .int)),ph])) 1 "worth" T) :
  bA (lp (Calls W (n+1)) (aw W (n+1)) 143 3 39) (Ah (fun (i:Nat)=>Aa (0+(i:Int))) (AB m)) (dK s l o h j c sp dr (rows.map .int) (tests.map be) ks of t pa gr I ca fs J (jn [some (.bool fu),some (.list (([]:List Int).map .int)),none])) 1 "worth" T kn kr:=by
 refine nH (a:=[]) (fun pre V _ _=>V.length=pre.length∧nW tests V) (fun V o ph=>dK s l o h j c sp dr (rows.map .int) (tests.map be) ks of t pa gr I ca fs J (jn [some (.bool fu),some (.list (V.map .int)),ph])) ⟨rfl,fun i h=>absurd h (BJ i)⟩ (fun pre y cc V o ph nx e9 i hx=>?_) fun V o ph i=>fin V o ph (i.1.trans AN) i.2;refine aA2 (bi e9) fun ey yl=>?_;refine aA2 i fun hVl hVo=>?_;clear i e9 fin;have hy:y<tests.length:=by lia
 have hr:y<rows.length:=by lia
 have cp:(V.map Aa).length<cap:=by have cK:=sd;refine rwC (Aj ..) ?_;lia
 have hgd:tests.getD V.length []=tests[y]:=by refine rwC (hVl ..) ?_;refine rwD (ey ..) ?_;exact fh hy
 refine (q_law_d1 ..).mpr ⟨oW hy,ax (jd hy) (iV wf fun sa hsa hva=>?_)⟩;have go:∀w:Int,((w=-1∧∀v,¬∃p∈tests[y],v∈dh p)∨∃p∈tests[y],w∈dh p)→∀o ph,nx (dK s l o h j c sp dr (rows.map .int) (tests.map be) ks of t pa gr I ca fs J (jn [some (.bool fu),some (.list (V.map .int++[.int w])),ph])) 1 "worth" T:=fun w hw o ph =>
  oG (hx (V++[w]) o ph ⟨by refine rwC (Ar ..) ?_;refine rwC (Ar ..) ?_;refine rwC (hVl ..) ?_;rfl,qO hVo (by refine rwC (hgd ..) ?_;exact hw)⟩) (by rw [AI];rfl)
 show aa (!(sa.map Aa).isEmpty) _ _;cases sa with
 | nil=>exact aR rfl (bS cp (go (-1) (.inl ⟨rfl,fun v q=>nomatch (hva v).mpr q⟩) _ _))
 | cons x sa=>exact ce rfl ⟨oW hr,ax (jd hr) (ce rfl ⟨⟨by decide,by decide⟩,(show (((x::sa).map Aa).length:Int)≠0∧dT (.list ((x::sa).map Aa)) (Bi (BX rows[y] 7) (((x::sa).map Aa).length:Int)) _ from pick_one (List.cons_ne_nil _ _) fun w hw=>bS cp (go w (.inr ((hva w).mp hw)) _ _))⟩)⟩
end
noncomputable def lpT (st:Stmt):Expr:=lj st (fun t _ _ _=>t) (.Constant .none 0 default)
noncomputable def wt (C:ba) (D:aN) (i k:Nat):an→Nat→Str→Tbl→(Bool→Tbl→Prop)→Prop:=fun vs _ _ T R=>(ctA C D i).E.2 ((ctA C D i).N vs) (ctA C D i).sc (lpT (lpS i k)) T R
noncomputable def wb (C:ba) (D:aN) (i k m:Nat):an→Nat→Str→Tbl→Kn→Kn→K→Prop:=fun vs kk y T nx br kr=>ssP (exS (ctA C D i) m) (lpB (lpS i k)) vs kk y T nx br kr
section
variable {C:ba}{D:aN}{T:Tbl}
theorem q_law_e (s l:List Int) (h j c sp t ca:Int) (fs:List Int) (dr rw te pa gr:List AV) (ks:List Int) (ins:List (List Int)) (o of:Option AV) (J:Nat→Option AV) (fu:Bool) (wo:List Int) (ph q1 q2 q3:Option AV) (v:Int) (nx br:Kn) (kr:K):lp C D 143 4 39 (.int v) (dK s l o h j c sp dr rw te ks of t pa gr ins ca fs J (jn [some (.bool fu),some (.list (wo.map .int)),ph,q1,q2,q3])) 1 "worth" T nx br kr=(ak (aB (Ah (Aa) wo)) fun l_1=>aa (l_1.contains v) (ak (aB (Ah (Aa) wo)) fun xs=>ak (List.findIdx? (fun x=>decide (x=v)) xs) fun i=>whP (wt C D 143 5) (wb C D 143 5 38) (dK s l o h j c sp dr rw te ks of t pa gr ins ca fs J (jn [some (Aq fu),some (Ad (Ah (Aa) wo)),ph,some (Aa v),some (Aa (↑i:Int)),some (Aa 0)])) 1 ("worth") T (rs C D 143 5 39 nx br kr) kr) (whP (wt C D 143 5) (wb C D 143 5 38) (dK s l o h j c sp dr rw te ks of t pa gr ins ca fs J (jn [some (Aq fu),some (Ad (Ah (Aa) wo)),ph,some (Aa v),some (Aa (-1)),some (Aa 0)])) 1 ("worth") T (rs C D 143 5 39 nx br kr) kr)):=by kernel_rfl
theorem q_law_e1 (s l:List Int) (h j c sp t ca:Int) (fs:List Int) (dr rw te pa gr:List AV) (ks:List Int) (ins:List (List Int)) (o of:Option AV) (J:Nat→Option AV) (fu:Bool) (wo:List Int) (ph:Option AV) (v cl a:Int) (R:Bool→Tbl→Prop):wt C D 143 5 (dK s l o h j c sp dr rw te ks of t pa gr ins ca fs J (jn [some (.bool fu),some (.list (wo.map .int)),ph,some (.int v),some (.int cl),some (.int a)])) 1 "worth" T R=(aa (decide (a<(↑gr.length:Int))) ((0≤(Aa a).i∧(Aa a).i<(↑(Ad gr).l.length:Int))∧ak gr[a.toNat]? fun w=>inP (Aa cl) w fun x=>R (!x) T) (R false T)):=by kernel_rfl
theorem q_law_e2 (s l:List Int) (h j c sp t ca:Int) (fs:List Int) (dr rw te pa gr:List AV) (ks:List Int) (ins:List (List Int)) (o of:Option AV) (J:Nat→Option AV) (fu:Bool) (wo:List Int) (ph:Option AV) (v cl a:Int) (nx br:Kn) (kr:K):wb C D 143 5 38 (dK s l o h j c sp dr rw te ks of t pa gr ins ca fs J (jn [some (.bool fu),some (.list (wo.map .int)),ph,some (.int v),some (.int cl),some (.int a)])) 1 "worth" T nx br kr=(nx (dK s l o h j c sp dr rw te ks of t pa gr ins ca fs J (jn [some (Aq fu),some (Ad (Ah (Aa) wo)),ph,some (Aa v),some (Aa cl),some (Aa (a+1))])) 1 ("worth") T):=by kernel_rfl
theorem q_law_e3 (s l:List Int) (h j c sp t ca:Int) (fs:List Int) (dr rw te pa gr:List AV) (ks:List Int) (ins:List (List Int)) (o of:Option AV) (J:Nat→Option AV) (fu:Bool) (wo:List Int) (ph:Option AV) (v cl a:Int) (nx br:Kn) (kr:K):rs C D 143 5 39 nx br kr (dK s l o h j c sp dr rw te ks of t pa gr ins ca fs J (jn [some (.bool fu),some (.list (wo.map .int)),ph,some (.int v),some (.int cl),some (.int a)])) 1 "worth" T=(aa (decide (a=(↑gr.length:Int))) (aa fu (kr (Aq false) T) (whP (wt C D 143 6) (wb C D 143 6 38) (dK s l o h j c sp dr rw te ks of t pa gr ins ca fs J (jn [some (Aq fu),some (Ad (Ah (Aa) wo)),ph,some (Aa v),some (Aa cl),some (Aa a)])) 1 ("worth") T nx kr)) (whP (wt C D 143 6) (wb C D 143 6 38) (dK s l o h j c sp dr rw te ks of t pa gr ins ca fs J (jn [some (Aq fu),some (Ad (Ah (Aa) wo)),ph,some (Aa v),some (Aa cl),some (Aa a)])) 1 ("worth") T nx kr)):=by kernel_rfl
theorem q_law_e4 (s l:List Int) (h j c sp t ca:Int) (fs:List Int) (dr rw te pa gr:List AV) (ks:List Int) (ins:List (List Int)) (o of:Option AV) (J:Nat→Option AV) (fu:Bool) (wo:List Int) (ph:Option AV) (v cl a:Int) (R:Bool→Tbl→Prop):wt C D 143 6 (dK s l o h j c sp dr rw te ks of t pa gr ins ca fs J (jn [some (.bool fu),some (.list (wo.map .int)),ph,some (.int v),some (.int cl),some (.int a)])) 1 "worth" T R=(R (decide (a<(↑gr.length:Int))) T):=by kernel_rfl
theorem q_law_e5 (s l:List Int) (h j c sp t ca:Int) (fs:List Int) (dr rw te pa gr:List AV) (ks:List Int) (ins:List (List Int)) (o of:Option AV) (J:Nat→Option AV) (fu:Bool) (wo:List Int) (ph:Option AV) (v cl a:Int) (nx br:Kn) (kr:K):wb C D 143 6 38 (dK s l o h j c sp dr rw te ks of t pa gr ins ca fs J (jn [some (.bool fu),some (.list (wo.map .int)),ph,some (.int v),some (.int cl),some (.int a)])) 1 "worth" T nx br kr=((0≤(Aa a).i∧(Aa a).i<(↑(Ad (Ah AE ins)).l.length:Int))∧ak (Ah AE ins)[a.toNat]? fun w=>inP (Aa v) w fun x=>aa (!x) (kr (Aq false) T) (((Aa 64).i≠0∧(Aa 64).i.natAbs<1073741824)∧((Aa 2).i=2∧0≤(Aa a).i∧(Aa a).i≤64)∧((Aa (2 ^ (Aa a).i.toNat)).i≠0∧(Aa (2 ^ (Aa a).i.toNat)).i.natAbs<1073741824)∧(Aa 2).i≠0∧aa (decide (((j.fdiv 64).fdiv (2 ^ a.toNat)).fmod 2=0)) (br (dK s l o h j c sp dr rw te ks of t pa gr ins ca fs J (jn [some (Aq fu),some (Ad (Ah (Aa) wo)),ph,some (Aa v),some (Aa cl),some (Aa a)])) 1 ("worth") T) (nx (dK s l o h j c sp dr rw te ks of t pa gr ins ca fs J (jn [some (Aq fu),some (Ad (Ah (Aa) wo)),ph,some (Aa v),some (Aa cl),some (Aa (a+1))])) 1 ("worth") T))):=by kernel_rfl
theorem q_law_e6 (s l:List Int) (h j c sp t ca:Int) (fs:List Int) (dr rw te pa gr:List AV) (ks:List Int) (ins:List (List Int)) (o of:Option AV) (J:Nat→Option AV) (fu:Bool) (wo:List Int) (ph q1 q2 q3:Option AV) (kn kb:Kn) (kr:K):rs C D 143 4 40 kn kb kr (dK s l o h j c sp dr rw te ks of t pa gr ins ca fs J (jn [some (.bool fu),some (.list (wo.map .int)),ph,q1,q2,q3])) 1 "worth" T=(kr (Aq true) T):=by kernel_rfl
end
section
variable {s l ks fs wo:List Int}{h j c sp t ca v cl:Int}{dr rw te pa:List AV}{Gs I:List (List Int)}{o of ph q1 q2 q3:Option AV}{J:Nat→Option AV}{fu:Bool}{kn kb nx br:Kn}{kr:K}{C:ba}{D:aN}{T:Tbl}
theorem seek (fin:∀a:Nat,a≤Gs.length→(∀i,∀h:i<Gs.length,i<a→cl∉Gs[i])→(∀h:a<Gs.length,cl∈Gs[a])→kn (dK s l o h j c sp dr rw te ks of t pa (Gs.map gAV) I ca fs J (jn [some (.bool fu),some (.list (wo.map .int)),ph,some (.int v),some (.int cl),some (.int (a:Int))])) 1 "worth" T) :
  whP (wt C D 143 5) (wb C D 143 5 38) (dK s l o h j c sp dr rw te ks of t pa (Gs.map gAV) I ca fs J (jn [some (.bool fu),some (.list (wo.map .int)),ph,some (.int v),some (.int cl),some (.int ((0:Nat):Int))])) 1 "worth" T kn kr:=by
 refine wh_up (a:=0) Gs.length (fun a=>∀i,∀h:i<Gs.length,i<a→cl∉Gs[i]) (fun a=>dK s l o h j c sp dr rw te ks of t pa (Gs.map gAV) I ca fs J (jn [some (.bool fu),some (.list (wo.map .int)),ph,some (.int v),some (.int cl),some (.int (a:Int))])) (Bj _) (fun i _ h=>absurd h (BJ i)) fun a nx ha hno hx=>?_;have lG:(Gs.map gAV).length=Gs.length:=Aj _;refine (q_law_e1 ..).mpr (bK (fun q=>?_) fun q=>fin a ha hno fun h=>absurd h (by have:=of_decide_eq_false q;lia));have ya:a<Gs.length:=by have:=of_decide_eq_true q;lia
 refine ⟨⟨Bv a,of_decide_eq_true q⟩,ax (a:=gAV Gs[a]) (by show (Gs.map gAV)[((a:Nat):Int).toNat]?=_;rw [AY,Bq,AH ya];rfl) (show ak (aB (Gs[a].map Aa)) _ from ax (aV _) ?_)⟩;show aa (!Gs[a].contains cl) _ _;cases hc:Gs[a].contains cl with
 | true=>exact aR rfl (fin a ha hno fun _=>Au.mp hc)
 | false =>
  refine ce rfl ((q_law_e2 ..).mpr (hx ya fun i h1 h2=>?_));rcases Co i a with h3 | h3
  ·exact hno i h1 h3
  ·have:i=a:=by lia
   subst this;exact fun hm=>tF ((Au.mpr hm).symm.trans hc)
theorem inside {drawn:List Pl}{tests:List (List Pl)}{m a:Nat} (hGl:Gs.length≤6) (hIl:I.length=Gs.length) (hIns:oa (ao drawn) tests m j Gs I) (ha:a≤Gs.length) (hv:∀h:a<I.length,v∈I[a])
  (fin:∀a:Nat,kn (dK s l o h j c sp dr rw te ks of t pa (Gs.map gAV) I ca fs J (jn [some (.bool fu),some (.list (wo.map .int)),ph,some (.int v),some (.int cl),some (.int (a:Int))])) 1 "worth" T):whP (wt C D 143 6) (wb C D 143 6 38) (dK s l o h j c sp dr rw te ks of t pa (Gs.map gAV) I ca fs J (jn [some (.bool fu),some (.list (wo.map .int)),ph,some (.int v),some (.int cl),some (.int (a:Int))])) 1 "worth" T kn kr:=by
 refine wh_up Gs.length (fun a=>∀h:a<I.length,v∈I[a]) (fun a=>dK s l o h j c sp dr rw te ks of t pa (Gs.map gAV) I ca fs J (jn [some (.bool fu),some (.list (wo.map .int)),ph,some (.int v),some (.int cl),some (.int (a:Int))])) ha hv fun a nx ha hvI hx=>?_;have lG:(Gs.map gAV).length=Gs.length:=Aj _;refine (q_law_e4 ..).mpr (bK (fun q=>?_) fun q=>fin a);have ya:a<Gs.length:=by have:=of_decide_eq_true q;lia
 have yi:a<I.length:=by lia
 refine (q_law_e5 ..).mpr ⟨⟨Bv a,by show (a:Int)<((I.map AE).length:Int);rw [Aj];lia⟩,ax (a:=.set I[a]) (by show (I.map AE)[((a:Nat):Int).toNat]?=_;rw [AY,Bq,AH yi];rfl) ?_⟩;show aa (!I[a].contains v) _ _;refine rwC (Au.mpr (hvI yi)) ?_;refine aR rfl ⟨⟨by decide,by decide⟩,⟨rfl,Bv a,by show (a:Int)≤64;lia⟩,tG (m:=a) (by lia),by decide,?_⟩;show aa (decide (jb j a=0)) _ _;exact bK (fun _=>fin a) fun hz=>hx ya fun h=>(hIns a yi).2 (by lia) (of_decide_eq_false hz) v (hvI yi)
theorem qP {drawn:List Pl}{tests:List (List Pl)}{m:Nat}{spot:Int} (hGl:Gs.length≤6) (hIl:I.length=Gs.length) (hIns:oa (ao drawn) tests m j Gs I) (htl:tests.length=m) (hWl:wo.length=m) (hWo:nW tests wo) (hG1:Gs.flatten=az m spot) (hv:∃p∈drawn,v∈dh p)
  (hfull:(∃part∈ao drawn,dH tests part)→fu=false) (fin:∀q1 q2 q3:Option AV,nx (dK s l o h j c sp dr rw te ks of t pa (Gs.map gAV) I ca fs J (jn [some (.bool fu),some (.list (wo.map .int)),ph,q1,q2,q3])) 1 "worth" T):lp C D 143 4 39 (.int v) (dK s l o h j c sp dr rw te ks of t pa (Gs.map gAV) I ca fs J (jn [some (.bool fu),some (.list (wo.map .int)),ph,q1,q2,q3])) 1 "worth" T nx br kr:=by
 have go:∀cl:Int,((cl=-1∧v∉wo)∨∃i:Nat,cl=(i:Int)∧∃h:i<wo.length,wo[i]=v∧∀j,∀h2:j<i,wo[j]'(by lia)≠v)→whP (wt C D 143 5) (wb C D 143 5 38) (dK s l o h j c sp dr rw te ks of t pa (Gs.map gAV) I ca fs J (jn [some (.bool fu),some (.list (wo.map .int)),ph,some (.int v),some (.int cl),some (.int ((0:Nat):Int))])) 1 "worth" T (rs C D 143 5 39 nx br kr) kr:=fun cl hc=>by
  refine seek fun a hal hno hin=>?_;have wh:whP (wt C D 143 6) (wb C D 143 6 38) (dK s l o h j c sp dr rw te ks of t pa (Gs.map gAV) I ca fs J (jn [some (.bool fu),some (.list (wo.map .int)),ph,some (.int v),some (.int cl),some (.int (a:Int))])) 1 "worth" T nx kr:=inside hGl hIl hIns hal (fun h=>(hIns a h).1 v (by rw [fh (hIl▸h)];exact reach htl hWl hWo hG1 (BG (hIl▸h)) hv hc (hin (hIl▸h)))) fun a=>fin _ _ _;refine (q_law_e3 ..).mpr (bK (fun q=>?_) fun _=>wh);have q:=of_decide_eq_true q;exact aR (hfull (no_group htl hWl hWo hG1 hv hc fun g hg hm=>by
   obtain ⟨i,hi,rfl⟩:=List.mem_iff_getElem.mp hg;have lG:(Gs.map gAV).length=Gs.length:=Aj _;exact hno i hi (by lia) hm)) wh
 refine (q_law_e ..).mpr (ax (aV _) (bK (fun hw=>ax (aV _) ?_) fun hw=>go (-1) (.inl ⟨rfl,fun hm=>by rw [Au.mpr hm] at hw;exact tF hw⟩)));cases hf:wo.findIdx? (fun x=>decide (x=v)) with
 | none =>
  have:=Bu.mp hf v (Au.mp hw);simp at this
 | some i =>
  obtain ⟨hlt,hr,hl⟩:=Bf.mp hf;exact go (i:Int) (.inr ⟨i,rfl,hlt,of_decide_eq_true hr,fun j h2 e=>by have:=hl j h2;rw [e] at this;simp at this⟩)
end
section
variable {W:Wd}{n k:Nat}{T:Tbl} (wf:WF W)
include wf
theorem law_end {m:Nat} (hm:1≤m∧m≤5) {spot joins:Int}{drawn:List Pl}{rows:List Int}{tests:List (List Pl)}{ks:List Int}{Ks:List (List Atom)}{t:Int}{lt:List Atom}{Gs I:List (List Int)}{s l fs:List Int}{h sp ca:Int}{o of:Option AV}{J:Nat→Option AV}{kn kb:Kn}{kr:K}
  (htl:tests.length=m) (hRl:m≤rows.length) (hkl:ks.length=m) (hk2:Kinds tests Ks) (hk3:Tyk T ks Ks) (hkt:KindOf drawn false lt) (hyt:Ty T t lt) (hdl:drawn.length≤5) (hG1:Gs.flatten=az m spot) (hGl:Gs.length≤6) (hIl:I.length=Gs.length) (hIns:oa (ao drawn) tests m joins Gs I) (g:Gd (k+10) T)
  (fin:∀T',kr (.bool true) T') :
  rs (Calls W (n+20)) (aw W (n+20)) 143 2 40 kn kb kr (lapS s l o h joins (m:Int) sp ((drawn.map pI).map .int) (rows.map .int) (tests.map be) ks of t ((ao drawn).map .set) (Gs.map gAV) I ca fs J) 1 "inside" T:=by
 have cK:=sd;have hpl:(ao drawn).length≤400:=by
  have:=dF fW drawn;show (drawn.flatMap bD).length≤400;lia
 refine (q_law_d ..).mpr (kt wf fun s0 hs0 hv0=>ku wf (by lia) ?_);have hL:∀part,part∈(ao drawn).filter (jQ s0)↔part∈ao drawn∧dH tests part:=fun part=>by rw [Az,np hv0]
 revert hL;generalize (ao drawn).filter (jQ s0)=L;intro hL;show Calls W _ "is_exhausted" _ T fun a T=>eqP a (.bool !!(L.map AE).isEmpty) _;refine jR wf (n:=n+8) (k:=k) (g.mono (by lia)) hyt hk3 fun b T2 g2 pp2 hb=>?_;have hbL:b=!!(L.map AE).isEmpty:=by
  rw [Ci,Bx,hb];constructor
  ·intro hno;cases hLe:L with
   | nil=>rfl
   | cons part r =>
    exfalso
    refine bc fun zz=>?_;obtain ⟨h1,h2⟩:=(hL part).mp (by refine rwC (hLe ..) ?_;exact .head _);refine zz ?_;have hne:part≠[]:=by
     rintro rfl;refine bc fun zz=>?_;rcases h2 with h2 | ⟨x,hx,_⟩
     ·refine zz ?_;simp at h2
     ·refine zz ?_;cases hx
    refine bc fun zz=>?_;obtain ⟨v,hv⟩:=List.exists_mem_of_ne_nil _ hne;refine zz ?_;exact hno v ((lh hkt hk2.said v).mpr ⟨part,h1,h2,hv⟩)
  ·intro he v hw;refine bc fun zz=>?_;obtain ⟨part,h1,h2,_⟩:=(lh hkt hk2.said v).mp hw;refine zz ?_;have:part∈L:=(hL part).mpr ⟨h1,h2⟩;have he2:L=[]:=by simpa using he
   replace this:=(he2 ..)▸this;cases this
 have hfull:(∃part∈ao drawn,dH tests part)→(!!(L.map AE).isEmpty)=false:=fun ⟨part,h1,h2⟩=>by
  have:=(hL part).mpr ⟨h1,h2⟩;cases hLe:L with
  | nil=>replace this:=(hLe ..)▸this;cases this
  | cons=>rfl
 show aa (!decide (b=!!(L.map AE).isEmpty)) _ _;refine rwC (decide_eq_true hbL ..) ?_;refine aR rfl (mj (b:=(m:Int)) (by lia) ?_);show bA _ (Ah (fun (i:Nat)=>Aa (0+(i:Int))) (AB ((m:Int) - 0).toNat)) _ _ _ _ _ _;refine rwC (show ((m:Int) - 0).toNat=m by lia) ?_;refine qN wf (n:=n+19) (fu:=!!(L.map AE).isEmpty) hm.2 htl hRl fun V o ph hVl hVo=>?_;refine (q_law_d2 ..).mpr (iV wf fun sa hsa hva=>?_);show bA _ (sa.map Aa) _ _ _ _ _ _;exact nH (a:=none) (b:=none) (c:=none) (fun _ _ _ _=>True) (fun q1 q2 q3=>dK s l o h joins (m:Int) sp ((drawn.map pI).map .int) (rows.map .int) (tests.map be) ks of t ((ao drawn).map .set) (Gs.map gAV) I ca fs J (jn [some (.bool !!(L.map AE).isEmpty),some (.list (V.map .int)),ph,q1,q2,q3])) trivial
  (fun pre v cc q1 q2 q3 nx e9 _ hx=>qP hGl hIl hIns htl hVl hVo hG1 ((hva v).mp (by refine rwC (e9 ..) ?_;exact Ak _ (.head _))) hfull fun q1 q2 q3=>hx q1 q2 q3 trivial) fun q1 q2 q3 _=>(q_law_e6 ..).mpr (fin _)
end
section
variable {W:Wd}{n k:Nat}{T:Tbl} (wf:WF W)
include wf
omit wf in
theorem rH {m:Nat}{spot:Int}{Gs:List (List Int)} (hG:Gs.flatten=az m spot) (hne:∀g∈Gs,g≠[]):Gs.length≤m+1:=by
 have key:∀Gs:List (List Int),(∀g∈Gs,g≠[])→Gs.length≤Gs.flatten.length:=fun Gs=>by
  induction Gs with
  | nil=>exact fun _=>Bh _
  | cons g r ih =>
   intro h;have h1:=List.length_pos_iff.mpr (h g (.head _));have h2:=ih fun x hx=>h x (.tail _ hx);rw [List.flatten_cons,Ar,AK];lia
 have:=key Gs hne;rw [hG] at this;exact Bp this (kB m spot)
theorem law_walk {s l:List Int} (hl:l.length=16) {m:Nat} (hm:1≤m∧m≤5) {spot:Int} (hs:0≤spot) {joins:Int}{o:Option AV}{kn kb:Kn}{kr:K} (g:Gd (k+2436) T) (fin:∀T',kr (.bool true) T') :
  tl (Calls W (n+20)) (aw W (n+20)) 143 10 40 kn kb kr (some (.olist s)::some (.list (l.map .int))::o::[some (.int (l[0]'(by lia))),some (.int joins),some (.int (m:Int)),some (.int spot),some .tab,some .host,none,none,none,none,none,none,none,none,none,none,none,none,none,none,none,none,none,none,none,none,none,none,none,none]) 0 ⟨#[]⟩ T:=by
 refine law_prep wf (k:=k+2410) hl hm hs g fun drawn rows tests ks Ks t lt Gs o of T1 htl hRl hkl hk2 hk3 htests hkt hyt hdl hG1 hG2 g1 p1=>?_;have hGl:Gs.length≤6:=by
  have:=rH hG1 hG2;lia
 exact law_laps wf (k:=k+10) hm htl hkl hk2 hk3 htests hkt hyt hdl hG1 hG2 hGl g1 fun I cid fs J T2 hIl hIns g2 pp2 =>
  law_end wf hm htl hRl hkl hk2 (hk3.mono g2.1.nodup pp2) hkt (hyt.mono g2.1.nodup pp2) hdl hG1 hGl hIl hIns g2 fin
end
end Mine
namespace Mine
open PySem PySem.W PySem.Calls PyProof.Rows
open AV renaming int → Aa, list → Ad, tup → Al, tab → An, bool → Aq, set → AE, fn → Ba, rng → Bm, none → By, host → BD, idict → Cd, olist → Cj, str → CE
structure Fn0 (h:Heap) (fd:FD) (a:Addr):Prop where
 kind:fd.scope.kind=.function
 co:fd.scope.isCoroutine=false
 gen:fd.scope.isGenerator=false
 nofree:∀p∈fd.scope.names,p.2≠.free
 ex:∃o fdat,h.get? a=some o∧o.data=.func fdat∧fdat.body=.stmts fd.body∧fdat.scope=fd.scope∧fdat.closure=[]∧fdat.globals=Bl∧fdat.builtins=Ch∧h.CodeRec fdat.code fdat.qualname ∧
  Plain fdat.params fd.params∧fd.params.Nodup∧fd.dflt.length≤1∧fd.dflt.length≤fd.params.length∧∃(ds:List Int) (dv:List Value),fd.dflt=ds.map .int∧IntsAre dv ds ∧
   ((fdat.defaults=.none∧dv=[])∨∃T o n,fdat.defaults=.ref T∧h.get? T=some o∧o.data=.seq dv.toArray n)
theorem Fn0.keeps {h h':Heap}{fd:FD}{a:Addr} (x:Fn0 h fd a) (k:∀b o,h.get? b=some o→h'.get? b=some o):Fn0 h' fd a:=by
 refine bc fun zz=>?_;obtain ⟨h1,h2,h3,h4,o,fdat,e1,e2,e3,e4,e5,e6,e7,e8,e9,e10,e11,e12,ds,dv,e13,e14,e15⟩:=x;refine zz ?_;exact ⟨h1,h2,h3,h4,o,fdat,k _ _ e1,e2,e3,e4,e5,e6,e7,e8.keeps k,e9,e10,e11,e12,ds,dv,e13,e14,e15.imp id fun zq1=>by obtain ⟨T,o,n,q1,q2,q3⟩:=zq1;exact ⟨T,o,n,q1,k _ _ q2,q3⟩⟩
theorem Fn0.ok {W:Wd}{fd:FD}{a:Addr} (x:Fn0 W.h₀ fd a):FnOk W fd a:=by
 refine bc fun zz=>?_;obtain ⟨h1,h2,h3,h4,o,fdat,e1,e2,e3,e4,e5,e6,e7,e8,e9,e10,e11,e12,ds,dv,e13,e14,e15⟩:=x;refine zz ?_;refine ⟨h1,h2,h3,h4,o,fdat,dv,e1,e2,e3,e4,e5,e6,e7,e8,⟨ds,e13,e14⟩,fun s vals b l1 l2=>?_⟩;have hl:fd.dflt.length=dv.length:=by refine rwC (e13 ..) ?_;refine rwC (Aj ..) ?_;refine rwC (e14.length ..) ?_;exact rfl
 rw [hl] at e11 e12 l2 ⊢;exact jx e9 e10 (e15.imp id fun zq1=>by obtain ⟨T,o,n,q1,q2,q3⟩:=zq1;exact ⟨T,o,n,q1,b _ _ q2,q3⟩) e11 l1 l2 e12
theorem qm:∀{vs:List Value}{ns:List Int},intsV vs=some ns→IntsAre vs ns
 | [],ns,e=>by rw [← As e];exact .nil
 | v::r,ns,e=>by
  obtain ⟨i,h1,h2⟩:=AJ.mp e;obtain ⟨l,hl,h3⟩:=Bc.mp h2;obtain ⟨j,t,h4,h5⟩:=hE h1;rw [← h3,h4,As h5];exact .cons i t (qm hl)
theorem iT (l:List Expr):l.filterMap litI=(l.filterMap dJ).map Aa:=List.map_filterMap.symm
noncomputable def okF (args:Arguments) (sc:Scope):Bool:=(args.posonlyargs.isEmpty && (args.vararg.isNone && (args.kwonlyargs.isEmpty && args.kwarg.isNone))) && ((decide (args.args.map (·.arg)).Nodup && (decide ((args.defaults.filterMap dJ).length≤1) &&
   decide ((args.defaults.filterMap dJ).length≤args.args.length))) && (decide (sc.kind=.function) && (!sc.isCoroutine && (!sc.isGenerator && sc.names.all fun p=>!decide (p.2=.free)))))
noncomputable def okFn (st:Stmt):Bool:=mR st (fun _ args _ _ _ _ sc _ _ _=>okF args sc) false
theorem fns_okFn:(places.all fun p=>okFn (stAt p.2))=true:=by decide +kernel
theorem dfltV_ok {K:Frag}{h:Heap} (X:K.In h) {v:Value}{ds:List Int} (e:dfltV K v=some ds):∃dv:List Value,IntsAre dv ds∧((v=.none∧dv=[])∨∃T o n,v=.ref T∧h.get? T=some o∧o.data=.seq dv.toArray n):=by
 unfold dfltV at e;cases q:Aw v.ctorIdx 0 with
 | true =>
  rw [q] at e;rw [← As e];exact ⟨[],.nil,.inl ⟨Value.none.elim (motive:=fun v=>v=.none) v (Am q) rfl,rfl⟩⟩
 | false =>
  rw [q] at e;obtain ⟨T,h1,e⟩:=li e;obtain ⟨o,h2,e⟩:=AJ.mp e;obtain ⟨xs,n,h3,e⟩:=tQ e;exact ⟨xs.toList,qm e,.inr ⟨T,o,n,h1,X _ _ h2,h3⟩⟩
theorem Fn0.of {h:Heap}{a:Addr}{o:Obj}{fd:FuncData}{args:Arguments}{body:List Stmt}{sc:Scope} (ok:okF args sc=true) (ho:h.get? a=some o) (hd:o.data=.func fd) (b1:fd.params=args) (b2:fd.body=.stmts body) (b3:fd.scope=sc) (b4:fd.globals=Bl) (b5:fd.closure=[]) (b6:fd.builtins=Ch) (b7:h.CodeRec fd.code fd.qualname)
  (b8:∃dv:List Value,IntsAre dv (args.defaults.filterMap dJ)∧((fd.defaults=.none∧dv=[])∨∃T o n,fd.defaults=.ref T∧h.get? T=some o∧o.data=.seq dv.toArray n)):Fn0 h ⟨args.args.map (·.arg),args.defaults.filterMap litI,body,sc⟩ a:=by
 refine aA2 (cM ok) fun k1 k=>?_;refine aA2 (cM k) fun k2 k3=>?_;refine aA2 (cM k1) fun c1 k=>?_;refine aA3 (gM k) fun c2 c3 c4=>?_;refine aA3 (gM k2) fun c5 c6 c7=>?_;refine aA2 (cM k3) fun c8 k=>?_;refine aA3 (gM k) fun c9 c10 c11=>?_;refine eE1 b8 fun dv zt1=>aA2 zt1 fun d1 d2=>?_;exact ⟨of_decide_eq_true c8,(Br ..).mp c9,(Br ..).mp c10,fun p m=>of_decide_eq_false ((Br ..).mp (AA.mp c11 p m)),o,fd,ho,hd,b2,b3,b5,b4,b6,b7,
  ⟨b1▸AS.mp c1,b1▸rfl,b1▸Bt.mp c2,b1▸AS.mp c3,b1▸Bt.mp c4⟩,of_decide_eq_true c5,
  by show (args.defaults.filterMap litI).length≤1;rw [iT,Aj];exact of_decide_eq_true c6,
  by show (args.defaults.filterMap litI).length≤(args.args.map (·.arg)).length;rw [iT,Aj,Aj];exact of_decide_eq_true c7,
  _,dv,iT _,d1,d2⟩
theorem fn_go {K:Frag}{h:Heap} (X:K.In h) {a:Addr}{args:Arguments}{body:List Stmt}{sc:Scope} (ok:okF args sc=true) (hb:fnV K a=some (args,.stmts body,sc,Bl,[],Ch,true,some (args.defaults.filterMap dJ))) :
  Fn0 h ⟨args.args.map (·.arg),args.defaults.filterMap litI,body,sc⟩ a:=by
 obtain ⟨o,ho,hb⟩:=AJ.mp hb;obtain ⟨fd,hd,hb⟩:=onFunc_s hb;refine aA2 (Prod.mk.inj (As hb)) fun b1 hb=>?_;refine aA2 (Prod.mk.inj hb) fun b2 hb=>?_;refine aA2 (Prod.mk.inj hb) fun b3 hb=>?_;refine aA2 (Prod.mk.inj hb) fun b4 hb=>?_;refine aA2 (Prod.mk.inj hb) fun b5 hb=>?_;refine aA2 (Prod.mk.inj hb) fun b6 hb=>?_;refine aA2 (Prod.mk.inj hb) fun b7 b8=>?_;exact .of ok (X _ _ ho) hd b1 b2 b3 b4 b5 b6 (codeRec_of X b7) (dfltV_ok X b8)
theorem fn_at {K:Frag}{h:Heap} (X:K.In h) (e:fnsV K=uV) {x:Str}{i:Nat} (m:(x,i)∈places):∃a,gV K x=some a∧Fn0 h (aX i) a:=by
 have h1:(gV K x).bind (fnV K)=expFn (stAt i):=List.map_inj_left.mp e (x,i) m;have h2:okFn (stAt i)=true:=AA.mp fns_okFn (x,i) m;have go:∀st:Stmt,okFn st=true→(gV K x).bind (fnV K)=expFn st→∃a,gV K x=some a∧Fn0 h (uT st) a:=fun st =>
  if q:st.ctorIdx=0 then Stmt.FunctionDef.elim (motive_2:=fun st=>okFn st=true→(gV K x).bind (fnV K)=expFn st→∃a,gV K x=some a∧Fn0 h (uT st) a) st q fun nm args body d1 d2 d3 sc d4 d5 d6 h2 h1=>by
   obtain ⟨a,ha,hb⟩:=AJ.mp h1;exact ⟨a,ha,fn_go X h2 hb⟩
  else fun h2=>fT ((dif_neg q).symm.trans h2)
 exact go _ h2 h1
theorem objIs {o:Obj}{c:Value}{d:Data} (h3:o.data=d) (k1:(o.cls == c)=true) (k2:o.dict.isNone=true) (k3:(o.slots.size == 0)=true):o={ cls:=c,dict:=none,data:=d,slots:=#[] }:=by
 obtain ⟨c,e,dt,sl⟩:=o;cases h3;cases eq_of_beq k1;cases Bt.mp k2;cases Array.eq_empty_of_size_eq_zero (eq_of_beq k3);rfl
theorem vp {α:Type}{b:Bool}{x:Option α}{o:α} (h:cond b x none=some o):b=true∧x=some o:=by
 cases b with
 | true=>exact ⟨rfl,h⟩
 | false=>exact nS h
theorem tK {α:Type}{a b:Option α}{x:α}{P:Prop} (h:a.or b=some x) (l:a=some x→P) (r:b=some x→P):P:=by
 cases a with
 | none=>exact r h
 | some y=>exact l h
mutual
theorem vV_ok {W:Wd}{K:Frag}{h:Heap} (X:K.In h):∀{n:Nat}{v:Value}{av:AV},vV n K v=some av→V W h av v
 | 0,_,_,e=>nS e
 | n+1,v,av,e=>by
  refine tK e (fun e=>?_) fun e=>tK e (fun e=>?_) fun e=>?_
  ·obtain ⟨i,t,h1,e⟩:=hE e;rw [h1,← As e];exact ⟨_,rfl⟩
  ·obtain ⟨i,t,h1,e⟩:=onVStr_s e;rw [h1,← As e];exact ⟨_,rfl⟩
  ·obtain ⟨a,h1,e⟩:=li e;obtain ⟨o,ho,e⟩:=AJ.mp e;obtain ⟨xs,m,h3,e⟩:=tQ e;obtain ⟨hc,e⟩:=vp e;refine aA2 (cM hc) fun k1 k=>?_;refine aA3 (gM k) fun k2 k3 k4=>?_;obtain ⟨l,hl,e⟩:=Bc.mp e;have hv:=vVs_ok (W:=W) X hl;have hlen:l.length=xs.size:=by rw [← Vs.length hv,Ax]
   rw [h1,← e];refine ⟨⟨a,xs,m,rfl,?_,hv⟩,by show l.length≤cap;rw [hlen];exact Bp (of_decide_eq_true k4) (by decide)⟩;rw [X _ _ ho,objIs h3 k1 k2 k3];rfl
theorem vVs_ok {W:Wd}{K:Frag}{h:Heap} (X:K.In h):∀{n:Nat}{vs:List Value}{l:List AV},vVs n K vs=some l→Vs W h l vs
 | 0,_,_,e=>nS e
 | _+1,[],_,e=>by rw [← As e];exact rfl
 | n+1,v::r,l,e=>by
  obtain ⟨a,ha,e⟩:=AJ.mp e;obtain ⟨l',hl,e⟩:=Bc.mp e;rw [← e];exact ⟨_,_,rfl,vV_ok (W:=W) X ha,vVs_ok X hl⟩
end
structure Txt (K:Frag) (mg mb:Str→Option Value) (h:Heap):Prop where
 inn:K.In h
 look:eI K=ch
 g:h.Ns Bl mg
 b:h.Ns Ch mb
 bb:∀x:Str,x≠"__name__"→mb x=bootBuiltins x
 lim:h.NoLimit
theorem Txt.keeps {K:Frag}{mg mb:Str→Option Value}{h h':Heap} (x:Txt K mg mb h) (k:∀b o,h.get? b=some o→h'.get? b=some o):Txt K mg mb h':=⟨x.inn.keeps k,x.look,x.g.keeps k,x.b.keeps k,x.bb,x.lim.keeps k⟩
section
variable {K:Frag}{mg mb:Str→Option Value}{h:Heap}{W:Wd}
theorem Txt.l1 (Z:Txt K mg mb h):fnsV K=uV:=congrArg (fun x:Look=>x.1) Z.look
theorem Txt.l2 (Z:Txt K mg mb h):consts.map (fun p=>nN K p.1)=consts.map (fun p=>some p.2):=congrArg (fun x:Look=>x.2.1) Z.look
theorem Txt.l3 (Z:Txt K mg mb h):nN K "FIRST_ROWS"=some (.tup (T0.map aU)):=congrArg (fun x:Look=>x.2.2.1) Z.look
theorem Txt.l4 (Z:Txt K mg mb h):dictV K "KEY_FAMILIES"=some ([(3,6),(4,5),(5,4),(6,1),(7,2),(10,7)].map some):=congrArg (fun x:Look=>x.2.2.2.1) Z.look
theorem Txt.l5 (Z:Txt K mg mb h):blts.map (fun x=>nsIn K Bl x)=blts.map (fun _=>some none):=congrArg (fun x:Look=>x.2.2.2.2.1) Z.look
theorem Txt.l7 (Z:Txt K mg mb h):(K.lookup sysModules).isSome=true:=congrArg (fun x:Look=>x.2.2.2.2.2.2) Z.look
theorem Txt.const (Z:Txt K mg mb h) {x:Str}{av:AV} (e:nN K x=some av):∃v,mg x=some v∧V W h av v:=by
 obtain ⟨o,h1,e⟩:=AJ.mp e;obtain ⟨v,h2,e⟩:=AJ.mp e;rw [h2] at h1;exact ⟨v,mg_of Z.inn Z.g h1,vV_ok (W:=W) Z.inn e⟩
theorem lH (Z:Txt K mg mb h) {x:Str}{a:Addr} (e:gV K x=some a):mg x=some (.ref a):=by
 obtain ⟨o,h1,e⟩:=AJ.mp e;obtain ⟨v,h2,e⟩:=AJ.mp e;obtain ⟨b,h3,e⟩:=li e;rw [h2,h3,As e] at h1;exact mg_of Z.inn Z.g h1
theorem entV_ok {e:DictEntry}{k v:Int} (h:entV e=some (k,v)):(intKind W.prog W.w).is k e.key=true∧e.hash=hashInt k∧∃t,e.val=.int v t:=by
 obtain ⟨k',t,h1,h⟩:=hE h;obtain ⟨v',t',h2,h⟩:=hE h;obtain ⟨hc,h⟩:=vp h;obtain ⟨e1,e2⟩:=Prod.mk.inj (As h);rw [← e1,← e2];exact ⟨by rw [h1];simp [intKind,Value.isInt],eq_of_beq hc,t',h2⟩
end
theorem ud {a b:Str} (h:eqL a.cps.toList b.cps.toList=true):a=b:=congrArg Str.mk (Array.toList_inj.mp (vg h))
theorem jc {x:Str}{av:AV}:∀{l:List (Nat×Str×AV)},globN x l=some av→∃c,(c,x,av)∈l
 | [],e=>nomatch e
 | p::r,e=>by
  unfold globN at e;cases hc:(Aw p.1 (code x) && eqL p.2.1.cps.toList x.cps.toList) with
  | true =>
   rw [hc] at e;cases e;exact ⟨p.1,by rw [← ud ((Ay ..).mp hc).2];exact .head _⟩
  | false =>
   rw [hc] at e;obtain ⟨c,m⟩:=jc e;exact ⟨c,.tail _ m⟩
theorem da {x:Str}{i:Nat}:∀{l:List (Str×Nat)},fb x l=some i→(x,i)∈l
 | [],e=>nomatch e
 | p::r,e=>by
  unfold fb at e;cases hc:eqL p.1.cps.toList x.cps.toList with
  | true=>rw [hc] at e;cases e;rw [← ud hc];exact .head _
  | false=>rw [hc] at e;exact .tail _ (da e)
section
variable {K:Frag}{mg mb:Str→Option Value}{h:Heap}{W:Wd}
theorem vh:∀{es:List DictEntry}{l:List (Int×Int)},es.map entV=l.map some→∃kvs,Pairs (intKind W.prog W.w) es kvs∧PairsI kvs l∧∀e∈es,∃k,(intKind W.prog W.w).is k e.key=true∧e.hash=(intKind W.prog W.w).hash k
 | [],[],_=>⟨[],.nil,⟨rfl,.nil⟩,fun _ m=>nomatch m⟩
 | [],_::_,h=>by simp at h
 | _::_,[],h=>by simp at h
 | e::es,(k,v)::l,h=>by
  simp only [AR,List.cons.injEq] at h;obtain ⟨h1,h2⟩:=h;obtain ⟨q1,q2,t,q3⟩:=entV_ok (W:=W) h1;obtain ⟨kvs,r1,r2,r4⟩:=vh h2;refine ⟨(k,.int v t)::kvs,.cons q1 q3 r1,⟨congrArg (k::·) r2.1,.cons v t r2.2⟩,fun x hx=>?_⟩;rcases Ai.mp hx with rfl | hx
  ·exact ⟨k,q1,q2⟩
  ·exact r4 x hx
theorem Txt.dict (Z:Txt K mg mb h) {x:Str}{l:List (Int×Int)} (e:dictV K x=some (l.map some)) (nd:(l.map (·.1)).Nodup) (hl:l.length≤cap):∃a,mg x=some (.ref a)∧V W h (.idict l) (.ref a):=by
 obtain ⟨a,ha,e⟩:=AJ.mp e;obtain ⟨o,ho,e⟩:=AJ.mp e;obtain ⟨es,ep,h3,e⟩:=tT e;obtain ⟨hc,e⟩:=vp e;refine aA2 (cM hc) fun k1 k=>?_;refine aA3 (gM k) fun k2 k3 k4=>?_;obtain ⟨kvs,r1,r2,r4⟩:=vh (W:=W) (As e);have hg:=Z.inn _ _ ho;rw [objIs h3 k1 k2 k3] at hg;exact ⟨a,lH Z ha,⟨⟨a,kvs,ep,rfl,⟨_,es,hg,⟨rfl,rfl,rfl⟩,rfl,fun en hen=>r4 en (by simpa using hen),r1,by rw [r2.1];exact nd⟩,r2,by simpa using k4⟩,hl⟩⟩
end
noncomputable def famD:List (Int×Int):=[(3,6),(4,5),(5,4),(6,1),(7,2),(10,7)]
noncomputable def okGlob (p:Nat×Str×AV):Bool:=!aP p.2.1 && ((Aw p.2.2.k 2 || Aw p.2.2.k 4) || ((Aw p.2.2.k 11 && (seq p.2.1 p.2.2.x && (fb p.2.1 places).isSome)) || ((Aw p.2.2.k 8 && (seq p.2.1 "KEY_FAMILIES" && decide (p.2.2.d=famD))) ||
 (Aw p.2.2.k 12 && (!seq p.2.1 "__name__" && (blts.any (seq p.2.1) && (bootBuiltins p.2.1 == some (bltV p.2.2.i.toNat))))))))
theorem okGlobs:theGlobs.all okGlob=true:=by kernel_rfl
theorem V.of {W:Wd}{g:Heap}{n:Nat}{a:AV}{v:Value} (e:a.k=n) (h:VK W g (Vs W g a.l) (.mk n a.b a.i a.j a.x a.l a.z a.d a.e) v):V W g a v:=by cases a;cases e;exact h
section
variable {K:Frag}{mg mb:Str→Option Value}{W:Wd}
theorem Txt.glob (Z:Txt K mg mb W.h₀) (hf:∀x i,(x,i)∈places→W.faddr x=gV K x):GOk W GG:=fun y v e=>bc fun zz=>by
 refine eE1 (jc e) fun c hm=>?_;refine aA2 (cM (AA.mp okGlobs _ hm)) fun hb hok=>?_;have go:∀{u},V W W.h₀ v u→mg y=some u→False:=fun hv hu=>zz ⟨by simpa using hb,_,hv,mg,Z.g,.inl hu⟩;have const:(Aw v.k 2 || Aw v.k 4)=true→False:=fun hk =>
  have ⟨u,h1,h2⟩:=Z.const (W:=W) (List.map_inj_left.mp Z.l2 (y,v) (AD.mpr ⟨(c,y,v),Az.mpr ⟨hm,hk⟩,rfl⟩))
  go h2 h1
 rcases (Bg ..).mp hok with h | h
 ·exact const h
 rcases (Bg ..).mp h with h | h
 ·refine aA3 (gM h) fun h1 h2 h3=>?_;refine eE1 (Bo.mp h3) fun i hi=>?_;refine eE1 (fn_at Z.inn Z.l1 (da hi)) fun a zt1=>aA2 zt1 fun ha _=>?_;have ex:y=v.x:=aM h2;refine go (u:=.ref a) (V.of (n:=11) (Am h1) ⟨a,rfl,by show W.faddr v.x=_;refine rwD (ex ..) ?_;exact (hf _ _ (da hi)).trans ha⟩) ?_;exact lH Z ha
 rcases (Bg ..).mp h with h | h
 ·refine aA3 (gM h) fun h1 h2 h3=>?_;refine eE1 (Z.dict (W:=W) (l:=famD) Z.l4 (by decide) (by decide)) fun a zt2=>aA2 zt2 fun g1 g2=>?_;have ex:y="KEY_FAMILIES":=aM h2;have hd:v.d=famD:=of_decide_eq_true h3;exact go (u:=.ref a) (V.of (n:=8) (Am h1) (show DictV _ _ _ v.d from hd▸(g2:DictV _ _ _ famD))) (ex▸g1)
 ·refine aA3 (gM h) fun h1 h2 h=>?_;refine aA2 (cM h) fun h3 h4=>?_;refine eE1 (BO.mp h3) fun x' zt3=>aA2 zt3 fun hx hs=>?_;have ex:y=x':=aM hs;have hn:nsIn K Bl y=some none:=List.map_inj_left.mp Z.l5 y (ex▸hx);refine zz ⟨by simpa using hb,bltV v.i.toNat,V.of (n:=12) (Am h1) (show bltV v.i.toNat=_ from rfl),mg,Z.g,.inr ⟨ns_none_of Z.inn Z.g hn,mb,Z.b,(Z.bb y fun q=>?_).trans (eq_of_beq h4)⟩⟩;replace h2:=(q ..)▸h2;replace h2:=(cP ..)▸h2;cases h2
end
noncomputable def bodyP (p:Nat→Pos):List Stmt :=
  [.If (.Compare (.Name "row" (p 0)) [.In] [.Attribute (.Name "self" (p 1)) "index" (p 2)] (p 3)) [.Return (some (.Subscript (.Attribute (.Name "self" (p 4)) "index" (p 5)) (.Name "row" (p 6)) (p 7))) (p 8)] [] (p 9),
   .Assign [.Name "t" (p 10)] (.Call (.Name "len" (p 11)) [.Attribute (.Name "self" (p 12)) "rows" (p 13)] [] (p 14)) (p 15),
   .Expr (.Call (.Attribute (.Attribute (.Name "self" (p 16)) "rows" (p 17)) "append" (p 18)) [.Name "row" (p 19)] [] (p 20)) (p 21),
   .Assign [.Subscript (.Attribute (.Name "self" (p 22)) "index" (p 23)) (.Name "row" (p 24)) (p 25)] (.Name "t" (p 26)) (p 27),
   .Return (some (.Name "t" (p 28))) (p 29)]
theorem qC:∃p:Nat→Pos,bq (p 18) (p 20) [.Name "row" (p 19)]=true∧(oh 53 2).body=bodyP p :=
 ⟨fun i=>[_,_,_,_,_,_,_,_,_,_,_,_,_,_,_,_,_,_,_,_,_,_,_,_,_,_,_,_,_,_].getD i default,by decide +kernel,rfl⟩
noncomputable def pP:Nat→Pos:=Classical.choose qC
theorem bodyP_is:bq (pP 18) (pP 20) [.Name "row" (pP 19)]=true∧(oh 53 2).body=bodyP pP:=Classical.choose_spec qC
section
variable {W:Wd}{F:Fr W}{ρ:Rho}{T:Tbl}{s:Shared}{Q:K}
theorem Loads.load {x:Str}{v:Value}{pos:Pos}{P:Value→Shared→Prop} (g:aP x=false) (l:Loads s.heap F.env x v) (h:P v s):Av (model W.prog W.w) F.A (eval (.Name x pos) F.env) P NoE s:=by
 refine wpAny_Name ?_ (bad g).1;rcases l with ⟨a,m,hn,hm⟩ | ⟨a | a,c,hc,hv⟩
 ·exact wpAny_loadName_local F.kind a hn hm h
 ·exact wpAny_loadName_cell F.kind a hc hv h
 ·exact wpAny_loadName_free F.kind a hc hv h (bad g).2
theorem Nm.load {x:Str}{av:AV}{pos:Pos}{P:Value→Shared→Prop} (n:Nm F s.heap x av) (hb:Up W.h₀ s.heap) (h:∀v,V W (vw F.X s.heap) av v→P v s):Av (model W.prog W.w) F.A (eval (.Name x pos) F.env) P NoE s:=by
 obtain ⟨g,v,hv,l | ⟨k,mg,hN,hm⟩⟩:=n
 ·exact l.load g (h v hv)
 ·refine wpAny_Name ?_ (bad g).1;refine rwC (loadName_read F.kind k ..) ?_;have hN':s.heap.Ns F.env.globals mg:=F.gl▸hN.keeps hb;rcases hm with hm | ⟨hm,mb,hB,hm2⟩
  ·exact loadGlobal_global hN' hm (h v hv)
  ·exact loadGlobal_builtin hN' hm (F.bl▸hB.keeps hb) hm2 (h v hv)
theorem V.rowAt {l:List AV}{r:Row}{u:Value}{g h:Heap} (hv:V W g (.tup l) u) (hr:bX l=some r) (k:Up g h):∃p,u=.ref p∧RowAt h r p :=
 by obtain ⟨⟨p,us,m,e,ho,hv⟩,_⟩:=hv.tup rfl;exact ⟨p,e,us,m,k _ _ ho,RowAt.up (hv.cells hr) k⟩
theorem vM {xs:List (Row×Addr×Value)}{r:Row} (hT:xs.map (·.1)=T):(atKey xs r).isSome=decide (r∈T):=by
 cases hk:atKey xs r with
 | some p=>exact (decide_eq_true (hT▸BA (f:=(·.1)) (fH hk))).symm
 | none=>exact (decide_eq_false (hT▸jy hk)).symm
theorem rm {r:Row} (h:rW T r Q):(r∈T∧Q (.int (T.idxOf r:Nat)) T)∨(r∉T∧T.length<cap∧Q (.int T.length) (T++[r])):=by
 unfold rW at h
 by_cases m:r∈T
 ·rw [jj m] at h;exact .inl ⟨m,h⟩
 ·rw [ji m] at h;have h:=ac h;exact .inr ⟨m,kE h.1,h.2⟩
theorem Tab.more {X:List Addr}{h h':Heap}{r:Row}{vs:Array Value}{n:Nat}{u:Value}{p:Addr}{t:Tok} (on:W.on=true) (tab:Tab W T X h) (x0:∀a∈W.X0,a∈X) (k:Kp W.X0 h h') (hm:r∉T) (hl:T.length<cap) (ok:bX (r.map Cell.av)=some r)
  (hrows:h.get? W.rowsA=some (cr "list" vs n)) (hu:V W (vw X h) (aU r) u) (hR:RowAt (vw X h') r p) (h1:h'.get? W.rowsA=some (cr "list" (vs.push u) (n+1))) {xs:List (Row×Addr×Value)} (hT:xs.map (·.1)=T) (hx:∀x∈xs,(∃t,x.2.2=.int (T.idxOf x.1) t)∧RowAt (vw X h) x.1 x.2.1)
  (h2:h'.DictOfH (cu W.prog W.w) W.idxA (xs++[(r,p,.int T.length t)])):Tab W (T++[r]) X h':=fun _=>by
 have rep:=tab on;have up:Up (vw X h) (vw X h'):=k.vw x0 fun _ m=>.inl m;have rs:Vs W (vw X h') ((T++[r]).map aU) (vs.push u).toList:=by
  refine eE2 (rep.rows) fun vs' m zt1=>aA2 zt1 fun e q=>?_;cases hrows.symm.trans e;refine rwC (AI ..) ?_;refine rwC (Ca ..) ?_;exact (q.mono up).append (by exact ⟨_,_,rfl,hu.mono up,rfl⟩)
 refine eE3 (h2) fun o es ep zt2=>aA6 zt2 fun q1 q2 q3 q4 _ q5=>?_;refine ⟨⟨_,_,h1,rs⟩,⟨o,_,q1,⟨es,ep,q2,q3,q4,q5⟩,by refine rwC (AI ..) ?_;refine rwC (hT ..) ?_;rfl,fun x hx'=>?_⟩,fun q hq=>?_,by refine rwC (Ar ..) ?_;exact hl⟩
 ·rcases Ao.mp hx' with m | m
  ·have hxT:x.1∈T:=hT▸BA (f:=(·.1)) m;exact ⟨by refine rwC (List.idxOf_append ..) ?_;refine rwC (if_pos hxT ..) ?_;exact (hx x m).1,(hx x m).2.mono up⟩
  ·refine rwC (Ae.mp m ..) ?_;exact ⟨⟨t,by refine rwC (List.idxOf_append ..) ?_;refine rwC (if_neg hm ..) ?_;refine rwC (List.idxOf_cons_self ..) ?_;refine rwC (CC ..) ?_;exact rfl⟩,hR⟩
 ·rcases Ao.mp hq with m | m
  ·exact rep.ok q m
  ·refine rwC (Ae.mp m ..) ?_;exact ok
theorem V.cellv {g:Heap}{a:AV}{x:Value}{c:Cell} (h:V W g a x) (e:cellOf a=some c):V W g c.av x∧cellOf c.av=some c:=by
 have k:=h.cell e;cases k with
 | int i t=>exact ⟨by exact ⟨t,rfl⟩,rfl⟩
 | str y t k=>exact ⟨by exact ⟨t,rfl⟩,js k⟩
 | @nums p vs n l ho hi =>
  suffices hl:vs.toList.length≤cap from ⟨(show SeqV g "tuple" (.ref p) (Vs W g (l.map Aa)) (l.map Aa).length from ⟨⟨p,vs,n,rfl,ho,Vs.ofInts hi⟩,by refine rwC (Aj ..) ?_;refine rwD (hi.length ..) ?_;exact hl⟩),js rfl⟩
  unfold cellOf at e;cases e4:Aw a.k 4 with
  | true =>
   obtain ⟨⟨p',vs',m,q,ho',hv'⟩,hc⟩:=h.tup (Am e4);cases q;cases ho.symm.trans ho';refine rwC (hv'.length ..) ?_;exact hc
  | false =>
   replace e:=(e4 ..)▸e;cases e2:Aw a.k 2 with
   | true=>replace e:=(e2 ..)▸e;cases e
   | false =>
    replace e:=(e2 ..)▸e;cases e3:Aw a.k 3 with
    | true=>rw [e3] at e;cases hk:PyData.strOk a.x <;> (rw [hk] at e;cases e)
    | false=>replace e:=(e3 ..)▸e;exact nS e
theorem Vs.cellsv {g:Heap}:∀{l:List AV}{vs:List Value}{r:Row},Vs W g l vs→bX l=some r→Vs W g (r.map Cell.av) vs∧bX (r.map Cell.av)=some r∧l.length=r.length
 | [],_,_,h,e=>by obtain rfl:=As e;exact ⟨h,rfl,rfl⟩
 | _::_,_,_,h,e=>by
  refine eE2 (h) fun v r zt4=>aA3 zt4 fun zs3 h1 h2=>?_;subst zs3;refine eE2 (fK e) fun c q zt6=>aA3 zt6 fun e1 e2 zs5=>?_;subst zs5;refine aA2 (h1.cellv e1) fun k1 k2=>?_;refine aA3 (h2.cellsv e2) fun k3 k4 k5=>?_;refine ⟨by exact ⟨v,r,rfl,k1,k3⟩,?_,congrArg (·+1) k5⟩;show (cellOf c.av).bind (fun y=>(bX (q.map Cell.av)).map (y::·))=_;refine rwC (k2 ..) ?_;refine rwC (k4 ..) ?_;rfl
theorem V.rowv {g:Heap}{l:List AV}{u:Value}{r:Row} (h:V W g (.tup l) u) (e:bX l=some r):V W g (aU r) u∧bX (r.map Cell.av)=some r :=
 let ⟨⟨p,us,m,q,ho,hv⟩,hc⟩:=h.tup rfl
 let ⟨k1,k2,k3⟩:=hv.cellsv e
 ⟨(show SeqV g "tuple" u (Vs W g (r.map Cell.av)) (r.map Cell.av).length from ⟨⟨p,us,m,q,ho,k1⟩,by refine rwC (Aj ..) ?_;refine rwD (k3 ..) ?_;exact hc⟩),k2⟩
section
variable {l:List AV}{r:Row}{y:Str}{B:Shared}{J:Addr→Obj→Prop}{P:Flow→Shared→Prop}
theorem dZ {x:Str}{a:Addr}{p q:Pos}{R:Value→Shared→Prop} (on:W.on=true) (g:sf W W.on W.tabA x a) (n:Nm F s.heap "self" .tab) (hb:Up W.h₀ s.heap) (h:∀tk,R (.ref a) { s with toks:=tk }):Av (model W.prog W.w) F.A (eval (.Attribute (.Name "self" p) x q) F.env) R NoE s :=
 attrN rfl (n.load hb fun v hv=>(show v=.ref W.tabA from hv.1)▸g on F.A s R F.hA.hand hb h)
theorem ib {p:Pos}{R:Value→Shared→Prop} (hr:bX l=some r) (n:Nm F s.heap "row" (.tup l)) (hb:Up W.h₀ s.heap) (h:∀a,V W (vw F.X s.heap) (.tup l) (.ref a)→RowAt (vw F.X s.heap) r a→R (.ref a) s):Av (model W.prog W.w) F.A (eval (.Name "row" p) F.env) R NoE s :=
 n.load hb fun v hv=>(hv.rowAt hr fun _ _ e=>e).elim fun a q=>q.1▸h a (q.1▸hv) q.2
theorem Sx.tok {O:List Addr}{k tk:Nat} (x:Sx F B J O ρ k y T s):Sx F B J O ρ k y T { s with toks:=tk }:=x.af (.grow fun _ _ e=>e) x.cx.tab
noncomputable abbrev FinP (F:Fr W) (B:Shared) (J:Addr→Obj→Prop) (Q:K) (P:Flow→Shared→Prop):Prop:=∀ν T s (i:Nat) t,Sx F B J [] ν 0 ⟨#[]⟩ T s→Q (.int i) T→P (.ret (.int i t)) s
theorem oo (F:Fr W):F.A.in1.units+64<cLine:=by have:=F.hA.units;refine rwC (Around.in1_units ..) ?_;omega
theorem put_old {p q a b c:Pos} (on:W.on=true) (hidx:sf W W.on W.tabA "index" W.idxA) (hr:bX l=some r) (x:Sx F B J [] ρ 0 ⟨#[]⟩ T s) (e1:ρ "self"=some .tab) (e2:ρ "row"=some (.tup l)) (hin:r∈T) (hq:Q (.int (T.idxOf r:Nat)) T) (fin:FinP F B J Q P) :
  Av (model W.prog W.w) F.A (execs [.Return (some (.Subscript (.Attribute (.Name "self" p) "index" q) (.Name "row" a) b)) c] F.env) P NoE s:=by
 refine AT (wpAny_Return_some (subN (dZ on hidx (x.all.nm _ _ e1) x.all.hp.base fun tk=>?_)));have x:=x.tok (tk:=tk);refine ib hr (s:={ s with toks:=tk }) (x.all.nm _ _ e2) x.all.hp.base fun d _ hR=>bc fun zz=>?_;refine eE1 ((x.all.tab on).dict (bg _ _)) fun xs zt7=>aA3 zt7 fun hm hT hx=>?_;cases hk:atKey xs r with
 | none=>exact jy hk (hT▸hin)
 | some p =>
  refine aA2 (hx _ (fH hk)) fun zk8 _=>?_;obtain ⟨t,ht⟩:=zk8;refine zz ⟨⟨"dict",_,hm.typeIs,slot_dict_getitem.lookup⟩,wpAny_getItem_heap (knd:=cu W.prog W.w) (oo F) (hR.mono (bg _ _)) hm hk ?_⟩;exact (show p.2=_ from ht)▸fin _ _ _ _ t x.tok hq
theorem put_new {p11 p12 p13 p14 p15 p16 p17 p18 p19 p20 p21 p22 p23 p24 p25 p26 p27 p28 p29 p30:Pos} (on:W.on=true) (hne:W.rowsA≠W.idxA) (hrows:sf W W.on W.tabA "rows" W.rowsA) (hidx:sf W W.on W.tabA "index" W.idxA) (hr:bX l=some r) (hone:bq p19 p21 [.Name "row" p20]=true) (st:bz F.env "t") (x:Sx F B J [] ρ 0 ⟨#[]⟩ T s) (e1:ρ "self"=some .tab) (e2:ρ "row"=some (.tup l)) (e3:ρ "len"=some (.blt 0))
  (hin:r∉T) (hlt:T.length<cap) (hq:Q (.int (T.length:Nat)) (T++[r])) (fin:FinP F B J Q P) :
  Av (model W.prog W.w) F.A (execs [.Assign [.Name "t" p11] (.Call (.Name "len" p12) [.Attribute (.Name "self" p13) "rows" p14] [] p15) p16,
   .Expr (.Call (.Attribute (.Attribute (.Name "self" p17) "rows" p18) "append" p19) [.Name "row" p20] [] p21) p22,
   .Assign [.Subscript (.Attribute (.Name "self" p23) "index" p24) (.Name "row" p25) p26] (.Name "t" p27) p28,
   .Return (some (.Name "t" p29)) p30] F.env) P NoE s:=by
 refine AT (wpAny_Assign_Name (Call_Name rfl ((x.all.nm _ _ e3).load x.all.hp.base fun v hv=>(show v=.builtin "len" from hv)▸jv rfl (Calls.spliced_cons (dZ on hrows (x.all.nm _ _ e1) x.all.hp.base fun tk=>Calls.spliced_nil (bc fun zz=>?_))))));refine eE2 ((x.all.tab on).rows) fun vs n zt9=>aA2 zt9 fun hl hvs=>?_;have hsz:vs.size=T.length:=hvs.size.trans (Aj _);refine zz (call_len_list ⟨_,hl,rfl,n,rfl⟩ (ju (hsz▸BS hlt)) ?_);refine rwC (hsz ..) ?_;refine x.tok.store (ν':=fun y=>cond (seq y "t") (some (.int T.length)) (ρ y)) st (av:=.int T.length) (show V W _ (.int T.length) _ from ⟨_,rfl⟩) (fun h=>absurd rfl h) (fun y a e=>?_) (fun _ h=>absurd rfl h) fun s₇ x₇=>?_
 ·cases es:seq y "t" with
  | true=>replace e:=(es ..)▸e;obtain rfl:=As e;exact .inl ⟨aM es,rfl⟩
  | false=>replace e:=(es ..)▸e;exact .inr ⟨cQ es,e⟩
 have f1:(fun y=>cond (seq y "t") (some (.int T.length)) (ρ y):Rho) "self"=some .tab:=e1;have f2:(fun y=>cond (seq y "t") (some (.int T.length)) (ρ y):Rho) "row"=some (.tup l):=e2;have f3:(fun y=>cond (seq y "t") (some (.int T.length)) (ρ y):Rho) "t"=some (.int T.length):=rfl;clear e1 e2 e3 x zz hl hvs hsz;generalize (fun y=>cond (seq y "t") (some (.int T.length)) (ρ y):Rho)=ρ₂ at *;have cx:=x₇.all;refine AT (wpAny_Expr (oQ rfl hone rfl (dZ on hrows (cx.nm _ _ f1) cx.hp.base fun tk pl=>bc fun zz=>?_)) (mX F) rfl);refine eE2 ((cx.tab on).rows) fun vs n zt10=>aA2 zt10 fun hl hvs=>?_;refine eE2 ((cx.tab on).idx) fun o xs zt12=>aA4 zt12 fun ho zk11 hT hx=>?_;obtain ⟨es,ep,i1,i2,i3,i4⟩:=zk11;have hsz:vs.size=T.length:=hvs.size.trans (Aj _);have x0:∀b∈W.X0,b∈F.X:=fun b m=>(F.x0 b m).1;have nk:atKey xs r=none:=by
  cases q:atKey xs r with
  | none=>rfl
  | some p=>exact absurd (hT▸BA (f:=(·.1)) (fH q)) hin
 refine zz (Calls.getMethod_list_append hl rfl rfl (jv rfl (Calls.spliced_cons (ib hr (s:={ s₇ with toks:=tk }) (cx.nm _ _ f2) cx.hp.base fun u hu _=>Calls.spliced_nil (append_at (s:={ s₇ with toks:=tk }) (hsz:=qA (hsz▸BS hlt)) hl fun h₈ sb hD=>?_)))));have k8:Kp W.X0 s₇.heap h₈:=fun b o n e=>Kp.but sb b o (fun m=>n (Ae.mp m▸vO on)) e;have uv:Up (vw F.X s₇.heap) (vw F.X h₈):=k8.vw x0 fun _ m=>.inl m;have b8:Up W.h₀ h₈:=fun b o e=>k8 b o (fun m=>by replace e:=(cx.hp.xs b (x0 b m)).1▸e;exact nS e) (cx.hp.base b o e);have nm:∀{y av},ρ₂ y=some av→Nm F h₈ y av:=fun e=>(cx.nm _ _ e).to (F':=F) uv fun v l=>l.imp (fun l=>l.kp k8 F.loc0 fun c hc=>(F.cellX _ _ hc).2.1) id;show Av _ _ (execs _ F.env) _ _ _;refine AT (wpAny_Assign_Subscript ((nm f3).load (s:={ s₇ with heap:=h₈,toks:=tk }) b8 fun vt ht=>dZ (s:={ s₇ with heap:=h₈,toks:=tk }) on hidx (nm f1) b8 fun tk₂=>ib hr (s:={ s₇ with heap:=h₈,toks:=tk₂ }) (nm f2) b8 fun d hd hR=>?_));have hm:h₈.DictOfH (cu W.prog W.w) W.idxA xs:=⟨o,es,ep,(sb.2 _ hne.symm).trans ho,i1,i2,i3,fun y m=>(hx y m).2.mono fun b o e=>bg _ _ _ _ (uv b o e),i4⟩;refine wpAny_setItem_heap (knd:=cu W.prog W.w) (s:={ s₇ with heap:=h₈,toks:=tk₂ }) (hsz:=qA (by refine rwD (Aj (f:=(·.1)) ..) ?_;refine rwC (hT ..) ?_;exact BS hlt)) (oo F) (hR.mono (bg _ _)) hm fun h₉ hm₉ sb₉=>?_;replace hm₉:=(storedH_new nk ..)▸hm₉;obtain ⟨t,rfl⟩:∃t,vt=.int T.length t:=ht;have k9:Kp W.X0 h₈ h₉:=fun b o n e=>Kp.but sb₉ b o (fun m=>n (Ae.mp m▸X0_idx on)) e;have k79:Kp W.X0 s₇.heap h₉:=fun b o n e=>k9 b o n (k8 b o n e);have rv:=hu.rowv hr;have x₉:=x₇.af (s':={ s₇ with heap:=h₉,toks:=tk₂+(cu W.prog W.w).draws r }) ⟨rfl,k79⟩ (Tab.more on cx.tab x0 k79 hin hlt rv.2 hl rv.1 (hR.mono (k9.vw x0 fun _ m=>.inl m)) ((sb₉.2 _ hne).trans hD) hT hx hm₉);show Av _ _ (execs _ F.env) _ _ _;refine AT (wpAny_Return_some ((x₉.all.nm _ _ f3).load (s:={ s₇ with heap:=h₉,toks:=tk₂+(cu W.prog W.w).draws r }) x₉.all.hp.base fun v hv=>?_));obtain ⟨t,rfl⟩:∃t,v=.int T.length t:=hv;exact fin _ _ _ _ t x₉ hq
theorem put_ok {a:Addr} (gk:GOk W GG) (lim:W.h₀.NoLimit) (on:W.on=true) (hM:(W.idxA == sysModules)=false) (hne:W.rowsA≠W.idxA) (hrows:sf W W.on W.tabA "rows" W.rowsA) (hidx:sf W W.on W.tabA "index" W.idxA) (fn:FnOk W (oh 53 2) a) :
  ∀l r T Q,bX l=some r→rW T r Q→gt W 1 a [.tab,.tup l] T Q:=fun l r T Q hr hq A X s vals hA ok tab hv=>by
 refine aA2 (bodyP_is) fun hone hb=>?_;refine vm (n:=0) (vs:=[some .tab,some (.tup l),none]) lim fn gk hA rfl hv ok tab fun F s₁ en=>?_;refine rwC (hb ..) ?_;unfold bodyP;have x:=en.st;have st:bz F.env "t":=aZ (c:=nK (Calls W 0) (aw W 0) GG (oh 53 2).scope) en.so (by kernel_rfl);have e1:rho (oh 53 2).scope GG (eJ (oh 53 2).scope) [some .tab,some (.tup l),none] "self"=some .tab:=by kernel_rfl
 have e2:rho (oh 53 2).scope GG (eJ (oh 53 2).scope) [some .tab,some (.tup l),none] "row"=some (.tup l):=by kernel_rfl
 have e3:rho (oh 53 2).scope GG (eJ (oh 53 2).scope) [some .tab,some (.tup l),none] "len"=some (.blt 0):=by kernel_rfl
 generalize rho (oh 53 2).scope GG (eJ (oh 53 2).scope) [some .tab,some (.tup l),none]=ρ at *;have up:∀h,Up (vw F.X h) (vw X h):=fun h b o e=>aJ (bm e).1 fun m=>(bm e).2 (en.sub b m);generalize hP:(fun f s'=>(∃v av T',(Except.ok (Flow.ret (match f with | .ret v=>v | _=>.none)):Result)=.ok (.ret v)∧V W (vw X s'.heap) av v∧Tab W T' X s'.heap∧Af W s s'∧Q av T'):Flow→Shared→Prop)=P;have fin:FinP F s (fun b o=>s.heap.get? b=some o) Q P:=fun ν T' s' i t y q=>hP▸⟨_,.int i,T',rfl,⟨t,rfl⟩,y.all.tab.to (fun _ _ _ e=>e) (up _),⟨y.same,y.kp⟩,q⟩;clear hP;refine AT (wpAny_If (wpAny_isTrue_Compare1 (ib hr (x.all.nm _ _ e2) x.all.hp.base fun p _ hR=>dZ on hidx (x.all.nm _ _ e1) x.all.hp.base fun tk=>bc fun zz=>?_) rfl));refine eE1 ((x.all.tab on).dict (bg _ _)) fun xs zt13=>aA3 zt13 fun hm hT hx=>?_;refine zz (wpAny_in_heap (s:={ s₁ with toks:=tk }) (knd:=cu W.prog W.w) (oo F) (hR.mono (bg _ _)) hM hm (wpAny_truthy_bool ?_));refine rwC (vM hT ..) ?_;rcases rm hq with ⟨hin,hq⟩ | ⟨hin,hlt,hq⟩
 ·refine rwC (decide_eq_true hin ..) ?_;refine rwC (if_pos rfl ..) ?_;exact put_old on hidx hr x.tok e1 e2 hin hq fin
 ·refine rwC (decide_eq_false hin ..) ?_;refine rwC (if_neg AF ..) ?_;exact wpAny_execs_nil (put_new on hne hrows hidx hr hone st x.tok e1 e2 e3 hin hlt hq fin)
end
end
theorem mem3 {α:Type}{x a b c:α} (h:x∈[a,b,c]):x=a∨x=b∨x=c:=(Ai.mp h).imp id fun h=>(Ai.mp h).imp id Ae.mp
theorem mem4 {α:Type}{x a b c d:α} (h:x∈[a,b,c,d]):x=a∨x=b∨x=c∨x=d:=(Ai.mp h).imp id mem3
theorem mem5 {α:Type}{x a b c d e:α} (h:x∈[a,b,c,d,e]):x=a∨x=b∨x=c∨x=d∨x=e:=(Ai.mp h).imp id mem4
theorem condO {α:Type}{b:Bool}{x o:α}{y:Option α} (h:cond b (some x) y=some o):(b=true∧x=o)∨(b=false∧y=some o):=by
 cases b with
 | true=>exact .inl ⟨rfl,As h⟩
 | false=>exact .inr ⟨rfl,h⟩
noncomputable def kindO (o:Obj):Nat:=match o.data with
 | .seq xs _=>xs.size
 | _=>5
theorem vN {h:Heap}{a b:Addr}{o o':Obj} (e:h.get? a=some o) (e':h.get? b=some o') (n:Aw (kindO o) (kindO o')=false):a≠b:=fun q=>by
 obtain rfl:=As (e.symm.trans (q▸e'));replace n:=(Nat.beq_refl ..)▸n;exact tF n
noncomputable def gi (i:Nat):ClsRec:=((plainsOf qv lv)[i]?).getD ⟨"",none,[],[],0,[]⟩
noncomputable def dR (st:Stmt):MethRec:=mR st (fun n args body _ _ _ sc _ _ _=>⟨n,args,body,sc⟩) ⟨"",⟨[],[],none,[],[],none,[]⟩,[],{ kind:=.function,names:=[],isGenerator:=false,isCoroutine:=false,more:=[] }⟩
theorem cls_at:(plainsOf qv lv)[0]?=some (gi 0)∧(plainsOf qv lv)[1]?=some (gi 1)∧(plainsOf qv lv)[2]?=some (gi 2)∧(gi 0).name="TypeTable"∧(gi 1).name="Decl"∧(gi 2).name="Thin":=⟨by kernel_rfl,by kernel_rfl,by kernel_rfl,by kernel_rfl,by kernel_rfl,by kernel_rfl⟩
theorem cls_m:(gi 0).meths[0]?=some (dR (oe 53 0))∧(gi 0).meths[1]?=some (dR (oe 53 1))∧(gi 0).meths[2]?=some (dR (oe 53 2))∧(gi 1).meths[0]?=some (dR (oe 54 0))∧(gi 2).meths[0]?=some (dR (oe 129 0))∧(gi 2).meths[1]?=some (dR (oe 129 1)) :=
 ⟨by kernel_rfl,by kernel_rfl,by kernel_rfl,by kernel_rfl,by kernel_rfl,by kernel_rfl⟩
theorem oF {n:Str} (h:(fastLookup "object" n == some none)=true):typeLookup (.type "object") n=pure none:=by refine rwC (typeLookup_type ..) ?_;refine rwC (builtinLookup_eq_fast ..) ?_;refine rwC (eq_of_beq h ..) ?_;exact rfl
noncomputable def dI (c:ClsRec) (n:Str):Bool:=c.statics.contains n && (fastLookup "object" n == some none)
structure Mk (h₀:Heap) (x dx C L:Addr) (mL mA:Str→Option Value) (ns:List Str) (news:List (Addr×Obj)) (h:Heap):Prop where
 keep:Up h₀ h
 loc:h.Ns L mL
 inst:h.Inst x C mA
 dict:∀o,h.get? x=some o→o.dict=some dx
 xL:x≠L
 dL:dx≠L
 dX:dx≠x
 newX:h₀.get? x=none
 newD:h₀.get? dx=none
 newL:h₀.get? L=none
 made:∀p∈news,h.get? p.1=some p.2∧p.1≠x∧p.1≠dx∧p.1≠L∧h₀.get? p.1=none
 within:Within mA ns
noncomputable abbrev lA (vs:Array Value):Obj:={ cls:=.type "list",data:=.seq vs 0 }
noncomputable abbrev pg:Obj:={ cls:=.type "dict",data:=.dict #[] }
noncomputable def noneC (c:Const):Bool:=match c with
 | .none=>true
 | _=>false
noncomputable def isNone (e:Expr):Bool:=iL e (fun c _ _=>noneC c) false
theorem ux {e:Expr}:isNone e=true→∃k p,e=.Constant .none k p:=iK (P:=fun e b=>b=true→∃k p,e=.Constant .none k p) e (fun c k p h=>by
 cases c with
 | none=>exact ⟨k,p,rfl⟩
 | _=>exact fT h) fT
noncomputable def flatC (c:Const):Bool:=match c with
 | .int _=>true
 | .bool _=>true
 | .str _=>true
 | _=>false
noncomputable def iniK (e:Expr):Nat:=qa e (fun es _=>cond es.isEmpty 1 (cond ((ki es).elim false isNone) 2 0)) (tV e (fun ks vs _=>cond (ks.isEmpty && vs.isEmpty) 3 0) (onTup e (fun es _ _=>cond es.isEmpty 4 0)
 (iL e (fun c _ _=>cond (flatC c) 4 0) (onUn e (fun op x _=>cond (qj op && (dJ x).isSome) 4 0) (eG e (fun _ _=>5) 0)))))
noncomputable abbrev vT (news:List (Addr×Obj)) (v:Value) (o:Obj):Prop:=∃a,v=.ref a∧(a,o)∈news
noncomputable def IniK (val:Str→Option Value) (news:List (Addr×Obj)) (k:Nat) (o:Option Str) (v:Value):Prop:=bC k [(1,vT news v (lA #[])),(2,vT news v (lA #[.none])),(3,vT news v pg),(4,True),(5,ak o fun x=>val x=some v)]
noncomputable abbrev IniV (val:Str→Option Value) (news:List (Addr×Obj)) (e:Expr) (v:Value):Prop:=IniK val news (iniK e) (bQ e) v
noncomputable def IniAll (val:Str→Option Value) (news:List (Addr×Obj)):List (Str×Expr)→List (Str×Value)→Prop
 | [],al=>al=[]
 | p::r,al=>∃v l,al=(p.1,v)::l∧IniV val news p.2 v∧IniAll val news r l
section
variable {val:Str→Option Value}{news news':List (Addr×Obj)}{e:Expr}{v:Value}
theorem IniV.more (h:IniV val news e v) (k:∀p∈news,p∈news'):IniV val news' e v :=
 have g:∀{o:Obj},vT news v o→vT news' v o:=fun h=>h.imp fun _ q=>⟨q.1,k _ q.2⟩
 ae g (ae g (ae g (ae id (ae id id)))) h
theorem IniAll.more (k:∀p∈news,p∈news'):∀{sp:List (Str×Expr)}{al:List (Str×Value)},IniAll val news sp al→IniAll val news' sp al
 | [],_,h=>h
 | _::_,_,⟨v,l,e,h,r⟩=>⟨v,l,e,h.more k,r.more k⟩
theorem IniAll.look {n:Str}:∀{sp:List (Str×Expr)}{al:List (Str×Value)},IniAll val news sp al→(sp.lookup n=none→al.lookup n=none)∧∀k o,(sp.lookup n).map (fun e=>(iniK e,bQ e))=some (k,o)→∃v,al.lookup n=some v∧IniK val news k o v
 | [],_,h=>by subst h;exact ⟨fun _=>rfl,fun _ _ h=>nomatch h⟩
 | p::r,_,⟨v,l,e,h,q⟩=>by
  refine rwC (e ..) ?_;refine rwC (Bz ..) ?_;refine rwC (Bz ..) ?_;cases n == p.1 with
  | true=>exact ⟨fun h=>(nomatch h),fun k o h'=>by cases h';exact ⟨v,rfl,h⟩⟩
  | false=>exact q.look
end
section
variable {prog:Program}{w:World}{A:Around}{E:Value→Shared→Prop}{s:Shared}{env:Env}{h₀ h:Heap}{x dx C L:Addr}{mL mA:Str→Option Value}{ns:List Str}{news:List (Addr×Obj)}{N:Addr}{mN:Str→Option Value}{c:ClsRec}{val:Str→Option Value}
theorem Mk.push (m:Mk h₀ x dx C L mL mA ns news h) (o:Obj) (hf:o.isFreed=false):Mk h₀ x dx C L mL mA ns ((h.objs.size,o)::news) (h.push o):=by
 have up:Up h (h.push o):=fun _ _ e=>Heap.get?_push_of_some _ e;have fr:∀{b},(∃ob,h.get? b=some ob)→h.objs.size≠b:=fun zq1=>by obtain ⟨ob,e⟩:=zq1;exact (Bk (Heap.lt_size e)).symm
 refine bc fun zz=>?_;refine eE1 (id m.inst) fun ox zt1=>aA4 zt1 fun hx k1 k2 hd=>?_;have hdd:=m.dict ox hx;have hD:∃od,h.get? dx=some od:=by
  rcases hd with ⟨q,_⟩ | ⟨d,q,_,hn⟩
  ·replace q:=(hdd ..)▸q;exact Sn q
  ·replace q:=(hdd ..)▸q;obtain rfl:=As q;exact cS hn.ns
 refine zz ⟨fun b ob e=>up _ _ (m.keep b ob e),m.loc.keeps up,m.inst.keeps up,fun ob e=>m.dict ob ?_,m.xL,m.dL,m.dX,m.newX,m.newD,m.newL,fun p hp=>?_,m.within⟩
 ·replace e:=(up _ _ hx ..)▸e;obtain rfl:=As e;exact hx
 ·rcases Ai.mp hp with rfl | hp
  ·refine ⟨Heap.get?_push_size _ hf,fr ⟨_,hx⟩,fr hD,fr (cS m.loc),?_⟩;cases e:h₀.get? h.objs.size with
   | none=>rfl
   | some ob=>exact absurd rfl (fr ⟨_,m.keep _ _ e⟩)
  ·have q:=m.made p hp;exact ⟨up _ _ q.1,q.2⟩
theorem mk_set {p1 p2 p3:Pos}{name:Str}{e:Expr}{rest:List Stmt}{Q:Flow→Shared→Prop} (P:PlainAt h₀ c C N mN) (hc:dI c name=true)
  (hk:env.scope.kind=.function) (hks:env.kindOf "self"=some .local) (hL:env.locals=L) (hself:mL "self"=some (.ref x)) (hns:ns.length≤100) (hs:swapsWith e (some (.Attribute (.Name "self" p1) name p2)) p3.line env=pure false)
  (he:Av (model prog w) A (eval e env) (fun v s₁=>∃news₁,Mk h₀ x dx C L mL mA ns news₁ s₁.heap∧∀h' tk,Mk h₀ x dx C L mL (fun y=>if y=name then some v else mA y) (name::ns) news₁ h' →
   Av (model prog w) A (execs rest env) Q E { s₁ with heap:=h',toks:=tk }) E s) :
  Av (model prog w) A (execs (.Assign [.Attribute (.Name "self" p1) name p2] e p3::rest) env) Q E s:=by
 refine aA2 (cM hc) fun hc1 hc2=>?_;refine AT (plainObj_wpAny_Assign_Attribute (AC he (fun v s₁ hq=>bc fun zz=>?_) fun _ _ e=>e) hs);refine eE1 (hq) fun news₁ zt2=>aA2 zt2 fun m k=>?_;refine eE1 (id m.inst) fun ox zt3=>aA2 zt3 fun hx _=>?_;have hdd:=m.dict ox hx;refine eE12 (P.cls.obj) fun nm q bs sn sub col dd k0 k1 k2 k3 k5 hC₀=>?_;have hxC:x≠C:=fun e=>by rw [← e,m.newX] at hC₀;exact nS hC₀
 refine zz (wpAny_Name (wpAny_loadName_local hk hks (hL▸m.loc) hself ?_) rfl);refine store_attr (h:=s₁.heap) (g:=s₁.gens) (d:=s₁.drawn) (t:=s₁.toks) (os:=s₁.os) PySem.F.store_object (m.keep _ _ hC₀) (P.cls.ns.keeps m.keep) (P.quiet _ (Ap _ (.head _))) (P.quiet _ (Ak _ (Au.mp hc1))) (oF hc2) hxC m.inst (fun h' tk' I' hk' hsame=>?_) m.within
  (by rw [sizeLine_eq];omega)
 have kk:Kp [x,dx] s₁.heap h':=fun b o n e=>hk' b o (fun q=>n (q▸.head _)) (fun o₀ d' e₀ ed q=>n (by
  cases hx.symm.trans e₀;cases hdd.symm.trans ed;rw [q];exact .tail _ (.head _))) e
 have off:∀{b},b≠x→b≠dx→b∉[x,dx]:=fun h1 h2 m=>(Ai.mp m).elim h1 fun m=>h2 (Ae.mp m);have gone:∀{b o a},h₀.get? b=some o→h₀.get? a=none→b≠a:=fun e n q=>by rw [q,n] at e;exact nS e
 refine k h' tk' ⟨fun b o e=>kk b o (off (gone e m.newX) (gone e m.newD)) (m.keep b o e),m.loc.at' fun o e=>kk L o (off m.xL.symm m.dL.symm) e,I',fun o e=>?_,m.xL,m.dL,m.dX,m.newX,m.newD,m.newL,fun p hp=>?_,fun y hy=>?_⟩
 ·refine eE1 (hsame ox hx) fun o₁ zt4=>aA5 zt4 fun e₁ _ _ _ dk=>?_;rw [e₁] at e;obtain rfl:=As e;exact dk dx hdd
 ·have q:=m.made p hp;exact ⟨kk _ _ (off q.2.1 q.2.2.1) q.1,q.2⟩
 ·by_cases q:y=name
  ·rw [q];exact .head _
  ·exact .tail _ (m.within y (by simpa only [if_neg q] using hy))
noncomputable def eT (prog:Program) (w:World) (A:Around) (E:Value→Shared→Prop) (env:Env) (h₀:Heap) (x dx C L:Addr) (mL:Str→Option Value) (val:Str→Option Value) (k:Nat) (e:Expr):Prop:=k≠0→∀(mA:Str→Option Value) (ns:List Str) (news:List (Addr×Obj)) (s:Shared) (Q:Value→Shared→Prop),
 (∀y,bQ e=some y→∃v,val y=some v∧∀p s' (Q:Value→Shared→Prop),Up h₀ s'.heap→s'.heap.Ns L mL→Q v s'→Av (model prog w) A (eval (.Name y p) env) Q E s')→Mk h₀ x dx C L mL mA ns news s.heap →
  (∀v news₁ h' tk,(∀p∈news,p∈news₁)→IniK val news₁ k (bQ e) v→Mk h₀ x dx C L mL mA ns news₁ h'→Q v { s with heap:=h',toks:=tk })→Av (model prog w) A (eval e env) Q E s
theorem cU {e:Expr}:eT prog w A E env h₀ x dx C L mL val 0 e:=fun k=>absurd rfl k
theorem lD {k:Nat}{e:Expr} (o:Obj) (hf:o.isFreed=false) (hi:∀a news,IniK val ((a,o)::news) k (bQ e) (.ref a)) (go:∀s (Q:Value→Shared→Prop),Q (.ref s.heap.objs.size) { s with heap:=s.heap.push o }→Av (model prog w) A (eval e env) Q E s):eT prog w A E env h₀ x dx C L mL val k e :=
 fun _ _ _ _ s Q _ m h=>go s Q (h _ _ _ s.toks (fun _=>.tail _) (hi _ _) (m.push o hf))
theorem fm {e:Expr} (go:∀s (Q:Value→Shared→Prop),(∀v tk,Q v { s with toks:=tk })→Av (model prog w) A (eval e env) Q E s):eT prog w A E env h₀ x dx C L mL val 4 e :=
 fun _ _ _ news s Q _ m h=>go s Q fun v tk=>h v news s.heap tk (fun _=>id) True.intro m
theorem ini_list (es:List Expr) (p:Pos):eT prog w A E env h₀ x dx C L mL val (cond es.isEmpty 1 (cond ((ki es).elim false isNone) 2 0)) (.List es p):=by
 cases es with
 | nil=>exact lD _ rfl (fun _ _=>⟨_,rfl,.head _⟩) fun s Q q=>List_ (Calls.spliced_nil (wpAny_newList q))
 | cons a r=>cases r with
  | cons=>exact cU
  | nil =>
   cases hn:isNone a with
   | false=>refine rwC (show cond [a].isEmpty 1 (cond ((ki [a]).elim false isNone) 2 0)=0 by show cond (isNone a) 2 0=0;rw [hn];rfl) ?_;exact cU
   | true =>
    refine eE2 (ux hn) fun k q e=>?_;rw [e];exact lD _ rfl (fun _ _=>⟨_,rfl,.head _⟩) fun s Q h=>List_ (Calls.spliced_cons (wpAny_Constant_none (k:=k) (pos:=q) (Calls.spliced_nil (wpAny_newList h))))
theorem ini_dict (ks:List (Option Expr)) (vs:List Expr) (p:Pos):eT prog w A E env h₀ x dx C L mL val (cond (ks.isEmpty && vs.isEmpty) 3 0) (.Dict ks vs p):=by
 cases ks with
 | cons _ _=>exact cU
 | nil=>cases vs with
  | cons _ _=>exact cU
  | nil=>exact lD _ rfl (fun _ _=>⟨_,rfl,.head _⟩) fun s Q q=>wpAny_Dict_empty q
theorem ini_tup (es:List Expr) (k:Nat) (p:Pos):eT prog w A E env h₀ x dx C L mL val (cond es.isEmpty 4 0) (.Tuple es k p):=by
 cases es with
 | cons _ _=>exact cU
 | nil=>exact lD _ rfl (fun _ _=>True.intro) fun s Q q=>Tuple_ (Calls.spliced_nil (wpAny_newTuple q))
theorem uC (c:Const) (k:Nat) (p:Pos):eT prog w A E env h₀ x dx C L mL val (cond (flatC c) 4 0) (.Constant c k p):=by
 cases c with
 | int i=>exact fm fun s Q h=>wpAny_Constant_int (h _ _)
 | bool b=>exact fm fun s Q h=>wpAny_Constant_bool (h _ s.toks)
 | str x=>exact fm fun s Q h=>wpAny_Constant_str (h _ _)
 | _=>exact cU
theorem ini_neg (op:UnaryOp) (y:Expr) (p:Pos):eT prog w A E env h₀ x dx C L mL val (cond (qj op && (dJ y).isSome) 4 0) (.UnaryOp op y p):=by
 cases h:(qj op && (dJ y).isSome) with
 | false=>exact cU
 | true =>
  refine aA2 (cM h) fun h1 h2=>?_;refine eE1 (Bo.mp h2) fun i e=>?_;refine eE2 (nA e) fun k q e=>?_;rw [e];cases op with
  | USub=>exact fm fun s Q h=>UnaryOp_ (wpAny_Constant_int (P.neg_int (h _ _)))
  | _=>exact fT h1
theorem ini_e (e:Expr):eT prog w A E env h₀ x dx C L mL val (iniK e) e :=
 lk (P:=fun e k=>eT prog w A E env h₀ x dx C L mL val k e) e ini_list (qc (P:=fun e k=>eT prog w A E env h₀ x dx C L mL val k e) e ini_dict (onTup_c (P:=fun e k=>eT prog w A E env h₀ x dx C L mL val k e) e ini_tup
  (iK (P:=fun e k=>eT prog w A E env h₀ x dx C L mL val k e) e uC (tL (P:=fun e k=>eT prog w A E env h₀ x dx C L mL val k e) e ini_neg
   (dz (P:=fun e k=>eT prog w A E env h₀ x dx C L mL val k e) e (fun y p=>fun _ _ _ _ s Q hn m h=>(hn y rfl).elim fun v q=>q.2 p s Q m.keep m.loc (h v _ _ s.toks (fun _=>id) q.1 m)) cU)))))
noncomputable def rF (c:ClsRec):Nat→List Stmt→Option (List (Str×Expr))
 | 0,_=>some []
 | _+1,[]=>none
 | n+1,st::r=>iJ st (fun ts e _=>(ki ts).bind fun t=>iM t (fun o a _=>eG o (fun y _=>cond (seq y "self" && (dI c a && !Nat.beq (iniK e) 0)) ((rF c n r).map ((a,e)::·)) none) none) none) none
noncomputable def InvS (c:ClsRec) (n:Nat) (r:List Stmt) (sp:List (Str×Expr)) (st:Stmt):Prop:=rF c (n+1) (st::r)=some sp→∃p1 p2 p3 a v sp',st=.Assign [.Attribute (.Name "self" p1) a p2] v p3∧(dI c a && !Nat.beq (iniK v) 0)=true∧rF c n r=some sp'∧sp=(a,v)::sp'
section
variable {c:ClsRec}{n:Nat}{r:List Stmt}{sp:List (Str×Expr)}
theorem inv_st (st:Stmt):InvS c n r sp st:=by
 unfold InvS;refine iI (P:=fun st o=>o=some sp→∃p1 p2 p3 a v sp',st=.Assign [.Attribute (.Name "self" p1) a p2] v p3∧(dI c a && !Nat.beq (iniK v) 0)=true∧rF c n r=some sp'∧sp=(a,v)::sp') st (fun ts v p e=>?_) nS;obtain ⟨t,e1,e⟩:=AJ.mp e;rw [bH e1];revert e;refine fc (P:=fun t o=>o=some sp→∃p1 p2 p3 a v' sp',Stmt.Assign [t] v p=.Assign [.Attribute (.Name "self" p1) a p2] v' p3∧(dI c a && !Nat.beq (iniK v') 0)=true∧rF c n r=some sp'∧sp=(a,v')::sp') t (fun o a q=>?_) nS;refine dz (P:=fun o' o=>o=some sp→∃p1 p2 p3 a' v' sp',Stmt.Assign [.Attribute o' a q] v p=.Assign [.Attribute (.Name "self" p1) a' p2] v' p3∧(dI c a' && !Nat.beq (iniK v') 0)=true∧rF c n r=some sp'∧sp=(a',v')::sp') o (fun y q' e=>?_) nS;cases hc:(seq y "self" && (dI c a && !Nat.beq (iniK v) 0)) with
 | false=>rw [hc] at e;exact nS e
 | true =>
  rw [hc] at e;obtain ⟨sp',e',q⟩:=Bc.mp e;obtain ⟨h1,h2⟩:=cM hc;exact ⟨_,_,_,_,_,sp',by rw [aM h1],h2,e',q.symm⟩
end
end
section
variable {prog:Program}{w:World}{A:Around}{E:Value→Shared→Prop}{env:Env}{h₀ h:Heap}{x dx C L:Addr}{mL mA:Str→Option Value}{ns:List Str}{news:List (Addr×Obj)}{N:Addr}{mN:Str→Option Value}{c:ClsRec}{val:Str→Option Value}
theorem qS {e o:Expr}{a:Str}{p:Pos}{l:Nat}{env:Env}:swapsWith e (some (.Attribute o a p)) l env=pure false:=by cases e <;> rfl
theorem uk {a:Str}{u:Value}{al:List (Str×Value)}:(fun z=>if z=a then some u else al.lookup z)=fun z=>((a,u)::al).lookup z:=by
 funext z
 refine rwC (Bz ..) ?_
 by_cases q:z=a
 ·refine rwC (if_pos q ..) ?_;refine rwC (show (z == a)=true from by simpa using q) ?_;exact rfl
 ·refine rwC (if_neg q ..) ?_;refine rwC (show (z == a)=false from by simpa using q) ?_;exact rfl
theorem uB {Q:Flow→Shared→Prop} (P:PlainAt h₀ c C N mN) (hk:env.scope.kind=.function) (hks:env.kindOf "self"=some .local) (hL:env.locals=L) (hself:mL "self"=some (.ref x)) :
  ∀(n:Nat) {sts:List Stmt}{sp done:List (Str×Expr)}{al:List (Str×Value)}{ns:List Str}{news:List (Addr×Obj)}{s:Shared},rF c n sts=some sp →
   (∀q∈sp,∀y,bQ q.2=some y→∃v,val y=some v∧∀p s' (Q:Value→Shared→Prop),Up h₀ s'.heap→s'.heap.Ns L mL→Q v s'→Av (model prog w) A (eval (.Name y p) env) Q E s') →
   ns.length+n≤100→Mk h₀ x dx C L mL (fun y=>al.lookup y) ns news s.heap→IniAll val news done al →
   (∀h' tk al' news' ns',Mk h₀ x dx C L mL (fun y=>al'.lookup y) ns' news' h'→IniAll val news' (sp.reverse++done) al'→Av (model prog w) A (execs (sts.drop n) env) Q E { s with heap:=h',toks:=tk }) →
   Av (model prog w) A (execs sts env) Q E s
 | 0,sts,_,done,al,ns,news,s,e,_,_,m,i,k=>by
  obtain rfl:=As e;exact k _ s.toks al news ns m i
 | n+1,[],_,_,_,_,_,_,e,_,_,_,_,_=>nomatch e
 | n+1,st::r,sp,done,al,ns,news,s,e,hn,hl,m,i,k=>by
  refine eE6 (inv_st st e) fun p1 p2 p3 a v sp' zt1=>aA4 zt1 fun e1 hc e' e2=>?_;subst e1 e2;refine aA2 (cM hc) fun h2 h3=>?_;refine mk_set P h2 hk hks hL hself (by omega) qS (ini_e v (fun q=>by rw [q] at h3;exact fT h3) _ _ _ _ _ (hn _ (.head _)) m fun u news₁ h' tk sub iv m'=>⟨news₁,m',fun h₂ tk₂ m₂=>?_⟩);refine uB P hk hks hL hself n (s:={ s with heap:=h₂,toks:=tk₂ }) (done:=(a,v)::done) e' (fun q hq=>hn q (.tail _ hq)) (by rw [AK];omega) (al:=(a,u)::al) (uk▸m₂) ⟨u,al,rfl,iv,i.more sub⟩ ?_;rw [List.reverse_cons,AQ] at k;exact k
end
structure IEnv (h₀:Heap) (mI:MethRec) (L:Addr) (env:Env):Prop where
 loc:env.locals=L
 sc:env.scope=mI.scope
 gl:env.globals=Bl
 bl:env.builtins=Ch
 cells:env.cells=[]
 code:∃c o vs,env.code=.ref c∧h₀.get? c=some o∧o.data=.fields vs
section
variable {prog:Program}{w:World}{A:Around}{s:Shared}{C N:Addr}{mN:Str→Option Value}{c:ClsRec}
theorem AOk.make {n:Nat} (h:AOk (n+3) A) (C:Addr) (vals:List Value) (env:Env):AOk n ((A.under (.builtin "type.__call__" ⟨.ref C::vals,[]⟩)).deeper env):=by
 refine ⟨h.hand,?_,?_⟩
 ·have:=h.depth;show (A.under (.builtin "type.__call__" ⟨.ref C::vals,[]⟩)).depth+1+n+4<recursionLimit;refine rwC (depth_under_make ..) ?_;omega
 ·have:=h.units;show (A.under (.builtin "type.__call__" ⟨.ref C::vals,[]⟩)).units+3+10*n+300<cLine;refine rwC (units_under_make ..) ?_;omega
noncomputable def mU (mI:MethRec) (names:List Str):Bool:=(mI.name == "__init__" && (mI.scope.names.all (fun x=>!decide (x.2=.cell)) && names.all fun x=>decide (mI.scope.names.lookup x=some NameKind.local))) && (decide (mI.scope.kind=.function) && (!mI.scope.isCoroutine && (!mI.scope.isGenerator && decide names.Nodup)))
theorem qi {hb:Heap}{mI:MethRec}{names:List Str}{vals:List Value}{n:Nat}{Q:Value→Shared→Prop} (hA:AOk (n+3) A) (P:PlainAt hb c C N mN) (kb:Up hb s.heap) (hm:mI∈c.meths) (hi:mU mI names=true) (hp:Plain mI.params names)
  (hl:names.length=vals.length+1) (hlim:hb.NoLimit)
  (h:∀x dx L h₁ tk env,IEnv hb mI L env→Mk s.heap x dx C L (fun y=>(names.zip (.ref x::vals)).reverse.lookup y) (fun y=>([]:List (Str×Value)).lookup y) [] [] h₁ →
   Av (model prog w) ((A.under (.builtin "type.__call__" ⟨.ref C::vals,[]⟩)).deeper env) (execs mI.body env) (fun fl s'=>(match fl with | .ret v=>v | _=>.none)=.none∧Q (.ref x) s') NoE { s with heap:=h₁,toks:=tk }) :
  Av (model prog w) A (call (.ref C) vals) Q NoE s:=by
 refine bc fun zz=>?_;refine aA2 (cM hi) fun hi1 hi2=>?_;refine aA3 (gM hi1) fun hn hcell hloc=>?_;refine aA2 (cM hi2) fun hk hi3=>?_;refine aA3 (gM hi3) fun hco hgen nd=>?_;refine zz ?_;have hk:=of_decide_eq_true hk;have nd:names.Nodup:=of_decide_eq_true nd;have hco:mI.scope.isCoroutine=false:=by simpa using hco
 have hgen:mI.scope.isGenerator=false:=by simpa using hgen
 have hloc:∀y∈names,mI.scope.names.lookup y=some .local:=fun y m=>of_decide_eq_true (AA.mp hloc y m);refine bc fun zz=>?_;refine eE12 (P.cls.obj) fun nm q bs sn sub col dd k0 k1 k2 k3 k5 hC=>?_;refine eE5 (P.meths mI hm) fun fI oI pm cdv doc zt2=>aA5 zt2 fun h1 h2 h3 h4 h5=>?_;refine zz ?_;refine wpAny_call_obj_init (h:=s.heap) (g:=s.gens) (d:=s.drawn) (t:=s.toks) (os:=s.os) PySem.F.objNew (kb _ _ hC) (P.cls.ns.keeps kb) (eq_of_beq hn▸h1) (kb _ _ h2) h3 fun h' x dx Mk₀=>?_;have hb:BindsTo (⟨h',s.gens,s.drawn,s.toks,s.os⟩:Shared) (methDef mI.name (c.name++"."++mI.name) mI.params mI.body mI.scope pm cdv doc) ⟨.ref x::vals,[]⟩ (names.zip (.ref x::vals)):=by
  have:=jx (s:=⟨h',s.gens,s.drawn,s.toks,s.os⟩) (fd:=methDef mI.name (c.name++"."++mI.name) mI.params mI.body mI.scope pm cdv doc) (vals:=.ref x::vals) (dv:=[]) hp nd (.inl ⟨rfl,rfl⟩) (Bj _) (by simp [hl]) (by simp [hl]) (Bj _);simpa using this
 refine wpAny_call (codeAny_call_def (binds:=names.zip (.ref x::vals)) (body:=mI.body) ?_ (Mk₀.keeps _ _ (kb _ _ h2)) h4 ((hlim.keeps kb).keeps Mk₀.keeps) ((h5.keeps kb).keeps Mk₀.keeps) rfl hb (fun y hy=>by simpa using AA.mp hcell y hy) (fun y hy=>hloc _ (List.of_mem_zip hy).1) (fun h₁ hns hk₁=>?_) hco hgen hk)
 ·refine rwC (depth_under_make ..) ?_;have:=hA.depth;show A.depth+1<recursionLimit;omega
 ·refine bc fun zz=>?_;refine eE1 (Mk₀.inst) fun ox zt3=>aA4 zt3 fun hx hcx hncx hdx=>?_;refine zz ?_;have hdd:=Mk₀.dict ox hx;have hnsd:h'.Ns1 dx (fun _=>none)∧dx≠x:=by
   refine bc fun zz=>?_;rcases hdx with ⟨hn0,_⟩ | ⟨d',hd',hne,hns'⟩
   ·refine zz ?_;replace hdd:=(hn0 ..)▸hdd;exact nS hdd
   ·refine zz ?_;cases hd'.symm.trans hdd;exact ⟨hns',hne⟩
  have hLn:s.heap.get? h'.objs.size=none:=by
   cases e:s.heap.get? h'.objs.size with
   | none=>rfl
   | some o=>exact absurd (Heap.lt_size (Mk₀.keeps _ _ e)) (Nat.lt_irrefl _)
  refine bc fun zz=>?_;refine eE1 (cS hnsd.1.ns) fun oD hoD=>?_;refine eE4 (id h5) fun cc oc cvs ct zt4=>aA4 zt4 fun g1 g2 g3 _=>?_;refine zz ?_;refine AC (h x dx h'.objs.size h₁ _ (callEnv (methDef mI.name (c.name++"."++mI.name) mI.params mI.body mI.scope pm cdv doc) h'.objs.size fI) ⟨rfl,rfl,rfl,rfl,rfl,cc,oc,cvs,g1,g2,g3⟩
   ⟨fun b o e=>hk₁ _ _ (Mk₀.keeps _ _ e),hns,⟨ox,hk₁ _ _ hx,hcx,hncx,.inr ⟨dx,hdd,hnsd.2,hnsd.1.keeps hk₁⟩⟩,fun o e=>by replace e:=(hk₁ _ _ hx ..)▸e;obtain rfl:=As e;exact hdd,Bk (Heap.lt_size hx),Bk (Heap.lt_size hoD),hnsd.2,Mk₀.newX,Mk₀.newD,hLn,(fun p hp=>nomatch hp),Within.nil⟩) (fun fl s' q=>?_) fun _ _ e=>e.elim
  refine bc fun zz=>?_;refine aA2 (q) fun q1 q2=>?_;refine zz ?_;exact ⟨q1,q2⟩
end
structure Cl (hb:Heap) (mg:Str→Option Value) (i:Nat) (n:Str) where
 C:Addr
 N:Addr
 mN:Str→Option Value
 g:mg n=some (.ref C)
 P:PlainAt hb (gi i) C N mN
noncomputable abbrev IsFun (h:Heap) (f:Addr):Prop:=∃o,h.get? f=some o∧o.cls=.type "function"
structure Fm (hb:Heap) (mN:Str→Option Value) (n:Str) (st:Stmt) where
 f:Addr
 has:mN n=some (.ref f)
 fn:Fn0 hb (uT st) f
 isf:IsFun hb f
structure Bs (hb:Heap) where
 K:Frag
 mg:Str→Option Value
 mb:Str→Option Value
 Z:Txt K mg mb hb
 T:Cl hb mg 0 "TypeTable"
 D:Cl hb mg 1 "Decl"
 H:Cl hb mg 2 "Thin"
 row:Fm hb T.mN "row" (oe 53 1)
 put:Fm hb T.mN "put" (oe 53 2)
 force:Fm hb H.mN "force" (oe 129 1)
noncomputable def mS (st:Stmt) (n:Str):Bool:=mR st (fun nm args _ _ _ _ sc _ _ _=>okF args sc && (args.defaults.isEmpty && nm == n)) false
theorem oN {hb:Heap}{c:ClsRec}{C N:Addr}{mN:Str→Option Value}{n:Str} (P:PlainAt hb c C N mN) {st:Stmt}{i:Nat} (hm:c.meths[i]?=some (dR st)) (ok:mS st n=true):Nonempty (Fm hb mN n st) :=
 if q:st.ctorIdx=0 then Stmt.FunctionDef.elim (motive_2:=fun st=>c.meths[i]?=some (dR st)→mS st n=true→Nonempty (Fm hb mN n st)) st q (fun nm args body d1 d2 d3 sc d4 d5 d6 hm ok=>by
  obtain ⟨f,o,pm,cd,doc,h1,h2,h3,h4,h5⟩:=P.meths _ (AP hm);obtain ⟨h6,h7,h8⟩:=gM ok;exact ⟨⟨f,eq_of_beq h8▸h1,Fn0.of h6 h2 h4 rfl rfl rfl rfl rfl rfl h5 ⟨[],by rw [AS.mp h7];exact .nil,.inl ⟨rfl,rfl⟩⟩,o,h2,h3⟩⟩) hm ok
 else fT ((dif_neg q).symm.trans ok)
theorem meths_ok:(mS (oe 53 1) "row" && (mS (oe 53 2) "put" && mS (oe 129 1) "force"))=true:=by decide +kernel
theorem bs_of {hb:Heap}{K:Frag}{mg mb:Str→Option Value} (Z:Txt K mg mb hb) (TE:TopE qv lv mg hb):∃B:Bs hb,B.mg=mg:=by
 refine bc fun zz=>?_;refine aA6 (cls_at) fun a1 a2 a3 n1 n2 n3=>?_;refine aA6 (cls_m) fun b1 b2 b3 _ _ b6=>?_;refine aA3 (gM meths_ok) fun m1 m2 m3=>?_;refine eE3 (TE _ (AP a1)) fun CT NT mT zt1=>aA2 zt1 fun gT PT=>?_;refine eE3 (TE _ (AP a2)) fun CD ND mD zt2=>aA2 zt2 fun gD PD=>?_;refine eE3 (TE _ (AP a3)) fun CH NH mH zt3=>aA2 zt3 fun gH PH=>?_;obtain ⟨f1⟩:=oN PT.ofCmp b2 m1;obtain ⟨f2⟩:=oN PT.ofCmp b3 m2;obtain ⟨f3⟩:=oN PH.ofCmp b6 m3;refine zz ?_;exact ⟨⟨K,mg,mb,Z,⟨CT,NT,mT,n1▸gT,PT.ofCmp⟩,⟨CD,ND,mD,n2▸gD,PD.ofCmp⟩,⟨CH,NH,mH,n3▸gH,PH.ofCmp⟩,f1,f2,f3⟩,rfl⟩
noncomputable section
noncomputable def Bs.fa {hb:Heap} (B:Bs hb) (x:Str):Option Addr:=cond (eqL (Ab "TypeTable.row").cps.toList x.cps.toList) (some B.row.f) (cond (eqL (Ab "Thin.force").cps.toList x.cps.toList) (some B.force.f) (cond (fb x places).isSome (gV B.K x) none))
noncomputable def Bs.wd {hb:Heap} (B:Bs hb) (w:World) (h₀:Heap) (on hon:Bool) (t r i o:Addr):Wd:=⟨theProg,w,h₀,[],B.fa,on,hon,t,r,i,o⟩
end
section
variable {hb:Heap}{B:Bs hb}{w:World}{h₀:Heap}{on hon:Bool}{t r i o:Addr}
theorem mF:(places.all fun p=>!eqL (Ab "TypeTable.row").cps.toList p.1.cps.toList && (!eqL (Ab "Thin.force").cps.toList p.1.cps.toList && (fb p.1 places).isSome))=true:=by kernel_rfl
theorem Bs.fa_place (x:Str) (j:Nat) (h:(x,j)∈places):B.fa x=gV B.K x:=by
 refine bc fun zz=>?_;refine aA3 (gM (AA.mp mF _ h)) fun h1 h2 h3=>?_;refine zz ?_;unfold Bs.fa;rw [show eqL (Ab "TypeTable.row").cps.toList x.cps.toList=false by simpa using h1,show eqL (Ab "Thin.force").cps.toList x.cps.toList=false by simpa using h2,show (fb x places).isSome=true from h3];rfl
theorem Bs.fa_fn {f:Str}{fd:FD} (h:qr f=some fd):∃a,B.fa f=some a∧Fn0 hb fd a:=by
 unfold qr at h;unfold Bs.fa;cases h1:eqL (Ab "TypeTable.row").cps.toList f.cps.toList with
 | true=>rw [h1] at h;obtain rfl:=As h;exact ⟨_,rfl,B.row.fn⟩
 | false =>
  rw [h1] at h;cases h2:eqL (Ab "Thin.force").cps.toList f.cps.toList with
  | true=>rw [h2] at h;obtain rfl:=As h;exact ⟨_,rfl,B.force.fn⟩
  | false =>
   rw [h2] at h;obtain ⟨j,hj,rfl⟩:=Bc.mp h;obtain ⟨a,ha,q⟩:=fn_at B.Z.inn B.Z.l1 (da hj);rw [hj];exact ⟨a,ha,q⟩
theorem Bs.fa_is {f:Str}{a:Addr} (h:B.fa f=some a):∃fd,qr f=some fd∧Fn0 hb fd a:=by
 have:(qr f).isSome=true:=by
  unfold Bs.fa at h;unfold qr;cases h1:eqL (Ab "TypeTable.row").cps.toList f.cps.toList with
  | true=>rfl
  | false =>
   rw [h1] at h;cases h2:eqL (Ab "Thin.force").cps.toList f.cps.toList with
   | true=>rfl
   | false =>
    rw [h2] at h;cases h3:fb f places with
    | none=>rw [h3] at h;exact nS h
    | some j=>rfl
 refine bc fun zz=>?_;obtain ⟨fd,e⟩:=Bo.mp this;obtain ⟨b,hb',q⟩:=Bs.fa_fn (B:=B) e;refine zz ?_;cases h.symm.trans hb';exact ⟨fd,e,q⟩
theorem Bs.fns (k:Up hb h₀):FnsOk (B.wd w h₀ on hon t r i o) qr:=⟨(B.Z.keeps k).lim,fun f fd e=>by obtain ⟨a,e1,q⟩:=Bs.fa_fn (B:=B) e;exact ⟨a,e1,(q.keeps k).ok (W:=B.wd w h₀ on hon t r i o)⟩⟩
structure InstIn (h₀:Heap) (x dx C:Addr) (mA:Str→Option Value):Prop where
 inst:h₀.Inst x C mA
 dict:∀o,h₀.get? x=some o→o.dict=some dx
theorem InstIn.at {h h':Heap}{x dx C:Addr}{mA:Str→Option Value} (I:InstIn h x dx C mA) (k:∀b o,b=x∨b=dx→h.get? b=some o→h'.get? b=some o):InstIn h' x dx C mA:=by
 refine bc fun zz=>?_;refine eE1 (I.inst) fun o zt4=>aA4 zt4 fun e c nc hd=>?_;refine zz ?_;have hdd:=I.dict o e;have e':=k _ _ (.inl rfl) e;refine ⟨⟨o,e',c,nc,?_⟩,fun p q=>by cases e'.symm.trans q;exact hdd⟩;refine bc fun zz=>?_;rcases hd with ⟨q,_⟩ | ⟨d,q,ne,hn⟩
 ·refine zz ?_;rw [hdd] at q;exact Sn q
 ·refine zz ?_;cases hdd.symm.trans q;exact .inr ⟨dx,hdd,ne,hn.at fun o e=>k _ _ (.inr rfl) e⟩
theorem InstIn.up {h h':Heap}{x dx C:Addr}{mA:Str→Option Value} (I:InstIn h x dx C mA) (k:Up h h'):InstIn h' x dx C mA:=I.at fun b o _ e=>k b o e
theorem lU {prog:Program}{c:ClsRec}{C N:Addr}{mN:Str→Option Value}{x dx:Addr}{mA:Str→Option Value}{nm:Str}{p:Addr}{A:Around}{E:Value→Shared→Prop}{s:Shared}{Q:Value→Shared→Prop} (P:PlainAt h₀ c C N mN) (I:InstIn h₀ x dx C mA)
  (hc:dI c nm=true) (hv:mA nm=some (.ref p)) (k:Up h₀ s.heap) (h:∀tk,Q (.ref p) { s with toks:=tk }):Av (model prog w) A (getAttr (.ref x) nm true) Q E s:=by
 refine bc fun zz=>?_;refine aA2 (cM hc) fun hc1 hc2=>?_;refine eE12 (P.cls.obj) fun nm' q bs sn sub col dd k0 k1 k2 k3 k5 hC=>?_;refine zz ?_;exact load_attr (h:=s.heap) (g:=s.gens) (d:=s.drawn) (t:=s.toks) (os:=s.os) (k _ _ hC) (P.cls.ns.keeps k) (P.quiet _ (Ap _ (.tail _ (.head _)))) (P.quiet _ (Ak _ (Au.mp hc1))) (oF hc2) (I.up k).inst hv rfl (h _)
theorem oL {prog:Program}{c:ClsRec}{C N:Addr}{mN:Str→Option Value}{x dx:Addr}{mA:Str→Option Value}{nm:Str}{f:Addr}{A:Around}{E:Value→Shared→Prop}{s:Shared}{pl:Sem Bool}{Q:Value×List Value→Shared→Prop} (P:PlainAt h₀ c C N mN) (I:InstIn h₀ x dx C mA)
  (hf:mN nm=some (.ref f)) (hfo:IsFun h₀ f) (hsh:mA nm=none) (hB:(fastLookup "object" nm == some none)=true) (k:Up h₀ s.heap) (h:Q (.ref f,[.ref x]) s):Av (model prog w) A (getMethod (.ref x) nm pl) Q E s:=by
 refine bc fun zz=>?_;refine eE12 (P.cls.obj) fun nm' q bs sn sub col dd k0 k1 k2 k3 k5 hC=>?_;refine eE1 (hfo) fun o zt5=>aA2 zt5 fun ho hc=>?_;refine zz ?_;exact method_of (h:=s.heap) (g:=s.gens) (d:=s.drawn) (t:=s.toks) (os:=s.os) (k _ _ hC) (P.cls.ns.keeps k) (P.quiet _ (Ap _ (.tail _ (.head _)))) (P.quiet _ (Ap _ (.tail _ (.tail _ (.head _))))) hf (k _ _ ho) hc (oF hB) (I.up k).inst hsh h
structure TabIn {hb:Heap} (B:Bs hb) (h:Heap) (x dx r i d:Addr):Prop where
 ex:∃mA,InstIn h x dx B.T.C mA∧mA "rows"=some (.ref r)∧mA "index"=some (.ref i)∧mA "decls"=some (.ref d)∧mA "put"=none∧mA "row"=none
structure HostIn {hb:Heap} (B:Bs hb) (h:Heap) (y dy x:Addr):Prop where
 ex:∃mA,InstIn h y dy B.H.C mA∧mA "tab"=some (.ref x)∧mA "force"=none
theorem pK:(dI (gi 0) "rows" && (dI (gi 0) "index" && (dI (gi 0) "decls" && (dI (gi 2) "tab" && ((fastLookup "object" "row" == some none) && ((fastLookup "object" "put" == some none) && (fastLookup "object" "force" == some none)))))))=true:=by decide +kernel
theorem Bs.wok (k0:Up hb h₀) (hi:(i == sysModules)=false) (hh:hon=true→on=true) (hne:on=true→r≠i) (ht:on=true→∃dx d,TabIn B h₀ t dx r i d) (ho:hon=true→∃dy,HostIn B h₀ o dy t):WOk (B.wd w h₀ on hon t r i o) GG:=by
 refine bc fun zz=>?_;refine aA2 (cM pK) fun s1 s2=>?_;refine aA2 (cM s2) fun s2 s3=>?_;refine aA2 (cM s3) fun _ s3=>?_;refine aA2 (cM s3) fun s4 s5=>?_;refine aA3 (gM s5) fun s5 s6 s7=>?_;refine zz ?_;have PT:=B.T.P.keeps k0;have PH:=B.H.P.keeps k0;have fno:∀{f:Addr},IsFun hb f→IsFun h₀ f:=fun h=>h.imp fun _ q=>⟨k0 _ _ q.1,q.2⟩;have gk:GOk (B.wd w h₀ on hon t r i o) GG:=Txt.glob (W:=B.wd w h₀ on hon t r i o) (B.Z.keeps k0) fun x j h=>Bs.fa_place x j h;have fns:FnsOk (B.wd w h₀ on hon t r i o) qr:=Bs.fns k0;have isFn:∀{fd a},Fn0 hb fd a→IsFn (B.wd w h₀ on hon t r i o) a:=fun q=>by obtain ⟨o,fd,e1,e2,_⟩:=q.ex;exact ⟨o,fd,k0 _ _ e1,e2⟩
 have rows:sf (B.wd w h₀ on hon t r i o) on t "rows" r:=fun on A s Q _ hb' hq=>by
  refine bc fun zz=>?_;refine eE2 (ht on) fun dx d zk6=>?_;obtain ⟨mA,I,a1,a2,a3,a4,a5⟩:=zk6;refine zz ?_;exact lU PT I s1 a1 hb' hq
 have index:sf (B.wd w h₀ on hon t r i o) on t "index" i:=fun on A s Q _ hb' hq=>by
  refine bc fun zz=>?_;refine eE2 (ht on) fun dx d zk7=>?_;obtain ⟨mA,I,a1,a2,a3,a4,a5⟩:=zk7;refine zz ?_;exact lU PT I s2 a2 hb' hq
 refine ⟨gk,?_,hi,fun f a h=>(by obtain ⟨fd,_,q⟩:=Bs.fa_is h;exact isFn q),rows,index,hh,fun hon A s Q _ hb' hq=>?_,fun on=>?_,fun hon=>?_,fun on=>?_⟩
 ·refine bc fun zz=>?_;refine eE1 (Bo.mp B.Z.l7) fun ob e=>?_;refine zz ?_;exact ⟨ob,k0 _ _ (B.Z.inn _ _ e)⟩
 ·refine bc fun zz=>?_;refine eE1 (ho hon) fun dy zk8=>?_;obtain ⟨mA,I,a1,a2⟩:=zk8;refine zz ?_;exact lU PH I s4 a1 hb' hq
 ·refine bc fun zz=>?_;refine eE2 (ht on) fun dx d zk9=>?_;obtain ⟨mA,I,a1,a2,a3,a4,a5⟩:=zk9;refine zz ?_;exact ⟨B.row.f,rfl,fun A s pl Q _ hb' hq=>oL PT I B.row.has (fno B.row.isf) a5 s5 hb' (hq s.toks)⟩
 ·refine bc fun zz=>?_;refine eE1 (ho hon) fun dy zk10=>?_;obtain ⟨mA,I,a1,a2⟩:=zk10;refine zz ?_;exact ⟨B.force.f,rfl,fun A s pl Q _ hb' hq=>oL PH I B.force.has (fno B.force.isf) a2 s7 hb' (hq s.toks)⟩
 ·refine bc fun zz=>?_;refine eE2 (ht on) fun dx d zk11=>?_;obtain ⟨mA,I,a1,a2,a3,a4,a5⟩:=zk11;refine zz ?_;exact ⟨B.put.f,isFn B.put.fn,fun A s pl Q _ hb' hq=>oL PT I B.put.has (fno B.put.isf) a4 s6 hb' (hq s.toks),put_ok gk fns.lim on hi (hne on) rows index (B.put.fn.keeps k0).ok⟩
end
noncomputable section
noncomputable def miT:MethRec:=dR (oe 53 0)
noncomputable def spT:List (Str×Expr):=(rF (gi 0) 9 miT.body).getD []
noncomputable def GT:Rho:=fun x=>cond (seq x "FIRST_ROWS") (some (.tup (T0.map aU))) (GG x)
noncomputable def dropS (c:Ct):StF:=fun st vs k y T kn _ _=>tS st (fun e _=>ai (!ny e) (c.ev (c.N vs) e T fun _ T=>kn vs k y T)) False
noncomputable def ctT (W:Wd):Ct:=nK (Calls W 0) (aw W 0) GT miT.scope
noncomputable def lE (sp:List (Str×Expr)) (n:Str):Option (Nat×Option Str):=(sp.lookup n).map fun e=>(iniK e,bQ e)
noncomputable def loopT:Option (Expr×List Stmt):=(ki (miT.body.drop 9)).bind fun st=>pZ st (fun _ i b _ _=>some (i,b)) none
end
theorem miT_ok:mU miT ["self"]=true:=by decide +kernel
theorem spT_is:rF (gi 0) 9 miT.body=some spT∧(spT.all fun q=>(bQ q.2).isNone)=true:=⟨by kernel_rfl,by kernel_rfl⟩
theorem spT_at:lE (spT.reverse++[]) "rows"=some (1,none)∧lE (spT.reverse++[]) "index"=some (3,none)∧lE (spT.reverse++[]) "decls"=some (2,none)∧Ce ("put":Str) (spT.reverse++[])=none∧Ce ("row":Str) (spT.reverse++[])=none :=
 ⟨by kernel_rfl,by kernel_rfl,by kernel_rfl,by kernel_rfl,by kernel_rfl⟩
theorem loopT_is:∃p1 p2 i b p3,miT.body.drop 9=[.For (.Name "row" p1) i b [] p2]∧loopT=some (i,b)∧i=.Name "FIRST_ROWS" p3:=⟨_,_,_,_,_,rfl,rfl,rfl⟩
theorem miT_nc:(miT.scope.names.all fun p=>!decide (p.2=.cell) && !decide (p.2=.free))=true∧eJ miT.scope=(["self","row"]:List Str):=⟨by decide +kernel,by kernel_rfl⟩
theorem loopT_go {W:Wd}{kn:Kn}{kr:K} (h:∀o,kn [some .tab,o] 0 ⟨#[]⟩ T0):ak loopT fun q=>forE (ctT W) (dropS (ctT W)) "row" q.1 q.2 [some .tab,none] 0 ⟨#[]⟩ [] kn kr:=by
 have e:(ak loopT fun q=>forE (ctT W) (dropS (ctT W)) "row" q.1 q.2 [some .tab,none] 0 ⟨#[]⟩ [] kn kr)=kn [some .tab,T0.getLast?.map aU] 0 ⟨#[]⟩ T0:=by kernel_rfl
 rw [e];exact h _
theorem drop_ok {W:Wd}{n:Nat}{c:Ct} (ok:CtOk W c n) {F:Fr W}{st:Stmt}{vs k y T kn kb kr} (hF:F.n=n+1) (so:ScOk c.sc F.env) (h:dropS c st vs k y T kn kb kr):Ex F c.N (exec st F.env) vs k y T kn kb kr:=by
 unfold dropS at h;revert h;exact tR (P:=fun st p=>p→Ex F c.N (exec st F.env) vs k y T kn kb kr) st (fun e p h=>by
  refine aA2 (ac h) fun hi h=>?_;exact fun B J O s x=>wpAny_Expr_any ((uZ ok hF so h).then x.all fun u s₁ v T₁ hv cx₁ af q=>.next (x.back af cx₁.tab).2 q) (mX F) (pE ((Br ..).mp hi))) False.elim
structure TabMade {hb:Heap} (B:Bs hb) (w:World) (X:List Addr) (s s':Shared) (x dx r i d:Addr):Prop where
 same:s'={ s with heap:=s'.heap,toks:=s'.toks }
 keep:Up s.heap s'.heap
 tab:TabIn B s'.heap x dx r i d
 decls:s'.heap.get? d=some (lA #[.none])
 rep:∃h₀,TabRep (B.wd w h₀ true false x r i 0) T0 s'.heap (vw ([r,i,d]++X) s'.heap)
 new:∀a∈[x,dx,r,i,d],s.heap.get? a=none
 ne:r≠i∧d≠r∧d≠i∧x∉[r,i,d]∧dx∉[r,i,d]
noncomputable def Wd.to (W:Wd) (h0:Heap) (on hon:Bool) (t r i o:Addr):Wd:={ W with h₀:=h0,on:=on,hon:=hon,tabA:=t,rowsA:=r,idxA:=i,hostA:=o }
section
variable {W:Wd}{g:Heap}{h0:Heap}{on hon:Bool}{t r i o:Addr}
mutual
theorem V.conv (f1:W.on=true→W.tabA=t∧on=true) (f2:W.hon=true→W.hostA=o∧hon=true):∀{a:AV}{v:Value},V W g a v→V (W.to h0 on hon t r i o) g a v
 | .mk _ _ _ _ _ l _ _ _,v,x =>
  have s:∀{t':String},SeqV g t' v (Vs W g l) l.length→SeqV g t' v (Vs (W.to h0 on hon t r i o) g l) l.length:=fun x=>x.mono (fun _ _ e=>e) fun _ h=>Vs.conv f1 f2 h
  (ae id<|ae id<|ae id<|ae id<|ae s<|ae s<|ae id<|ae id<|ae id<|ae id<|ae id<|ae id<|ae id <|
   ae (fun x=>⟨x.1.trans (congrArg Value.ref (f1 x.2).1),(f1 x.2).2⟩)<|ae (fun x=>⟨x.1.trans (congrArg Value.ref (f2 x.2).1),(f2 x.2).2⟩) id) x
theorem Vs.conv (f1:W.on=true→W.tabA=t∧on=true) (f2:W.hon=true→W.hostA=o∧hon=true):∀{l:List AV}{vs:List Value},Vs W g l vs→Vs (W.to h0 on hon t r i o) g l vs
 | [],_,x=>x
 | _::_,_,⟨v,r,e,a,b⟩=>⟨v,r,e,V.conv f1 f2 a,Vs.conv f1 f2 b⟩
end
end
section
variable {hb:Heap}{B:Bs hb}{w:World}{A:Around}
set_option maxHeartbeats 4000000 in
theorem make_tab {s:Shared}{X:List Addr}{Q:Value→Shared→Prop} (hA:AOk 4 A) (kb:Up hb s.heap) (hX:∀a∈X,hb.get? a=none∧∃o,s.heap.get? a=some o)
  (h:∀s' x dx r i d,TabMade B w X s s' x dx r i d→Q (.ref x) s'):Av (model theProg w) A (call (.ref B.T.C) []) Q NoE s:=by
 refine qi (n:=1) (mI:=miT) (names:=["self"]) hA B.T.P kb (AP cls_m.1) miT_ok ⟨by kernel_rfl,by kernel_rfl,by kernel_rfl,by kernel_rfl,by kernel_rfl⟩ rfl B.Z.lim fun x dx L h₁ tk env ie m=>?_;have hk:env.scope.kind=.function:=by rw [ie.sc];kernel_rfl
 have hks:env.kindOf "self"=some .local:=by show env.scope.names.lookup _=_;rw [ie.sc];kernel_rfl
 refine uB (val:=fun _=>none) (c:=gi 0) (B.T.P.keeps kb) hk hks ie.loc (by kernel_rfl) 9 (s:=⟨h₁,s.gens,s.drawn,tk,s.os⟩) (done:=[]) spT_is.1 (fun q hq y hy=>by have:=AA.mp spT_is.2 q hq;rw [hy] at this;cases this) (by decide) m rfl fun h₂ tk₂ al news ns m i₂=>?_;refine bc fun zz=>?_;refine aA5 (spT_at) fun t1 t2 t3 t4 t5=>?_;obtain ⟨v1,a1,r,e1,n1⟩:=i₂.look.2 _ _ t1;obtain ⟨v2,a2,i,e2,n2⟩:=i₂.look.2 _ _ t2;obtain ⟨v3,a3,d,e3,n3⟩:=i₂.look.2 _ _ t3;refine zz ?_;subst e1 e2 e3;have q1:=m.made _ n1;have q2:=m.made _ n2;have q3:=m.made _ n3;have dead:∀{a},s.heap.get? a=none→hb.get? a=none:=fun {a} n=>by
  cases e:hb.get? a with
  | none=>rfl
  | some o=>exact cv n (kb _ _ e)
 have four:∀{a},a∈[r,i,d,L]→s.heap.get? a=none∧∃o,h₂.get? a=some o:=fun hm=>(mem4 hm).elim (fun q=>q▸⟨q1.2.2.2.2,_,q1.1⟩) fun hm=>hm.elim (fun q=>q▸⟨q2.2.2.2.2,_,q2.1⟩) fun hm=>hm.elim (fun q=>q▸⟨q3.2.2.2.2,_,q3.1⟩) fun q=>q▸⟨m.newL,cS m.loc⟩;have deadX:∀a∈[r,i,d,L]++X,hb.get? a=none:=fun a hm=>(Ao.mp hm).elim (fun q=>dead (four q).1) fun q=>(hX a q).1;have alive:∀a∈[r,i,d,L]++X,∃o,h₂.get? a=some o:=fun a hm=>(Ao.mp hm).elim (fun q=>(four q).2) fun q=>(hX a q).2.imp fun o e=>m.keep _ _ e;have off:∀{a},s.heap.get? a=none→a≠r→a≠i→a≠d→a≠L→a∉[r,i,d,L]++X:=fun e n1 n2 n3 n4 hm=>(Ao.mp hm).elim (fun q=>(mem4 q).elim n1 fun q=>q.elim n2 fun q=>q.elim n3 n4) fun q=>(hX _ q).2.elim fun o e'=>cv e e';have xX:=off m.newX (Ne.symm q1.2.1) (Ne.symm q2.2.1) (Ne.symm q3.2.1) m.xL;have dX:=off m.newD (Ne.symm q1.2.2.1) (Ne.symm q2.2.2.1) (Ne.symm q3.2.2.1) m.dL;have rd:r≠d:=vN q1.1 q3.1 rfl;have id':i≠d:=vN q2.1 q3.1 rfl;have ri:r≠i:=vN q1.1 q2.1 rfl;have d3:d∉[r,i,L]:=fun hm=>(mem3 hm).elim rd.symm fun hm=>hm.elim id'.symm q3.2.2.2.1;have k0:Up hb (vw ([r,i,d,L]++X) h₂):=fun b o e=>aJ (m.keep _ _ (kb _ _ e)) fun hm=>cv (deadX b hm) e;have I:InstIn h₂ x dx B.T.C (fun y=>al.lookup y):=⟨m.inst,m.dict⟩;have tabIn:∀{h'},(∀b o,b=x∨b=dx→h₂.get? b=some o→h'.get? b=some o)→TabIn B h' x dx r i d:=fun k=>⟨_,I.at k,a1,a2,a3,i₂.look.1 t4,i₂.look.1 t5⟩;have two:∀{b},b=x∨b=dx→b∉[r,i,d,L]++X:=fun q=>q.elim (fun q=>q▸xX) fun q=>q▸dX;have hM:(i == sysModules)=false:=by
  rw [beq_eq_false_iff_ne];intro e;refine bc fun zz=>?_;refine eE1 (Bo.mp B.Z.l7) fun o ho=>?_;refine zz ?_;have:=dead q2.2.2.2.2;rw [e,B.Z.inn _ _ ho] at this;cases this
 have wok:WOk (B.wd w (vw ([r,i,d,L]++X) h₂) true false x r i 0) GG:=Bs.wok k0 hM (fun h=>nomatch h) (fun _=>ri) (fun _=>⟨dx,d,tabIn fun b o q e=>aJ e (two q)⟩) fun h=>nomatch h;have gkT:GOk (B.wd w (vw ([r,i,d,L]++X) h₂) true false x r i 0) GT:=fun y v e=>by
  rcases condO (show cond (seq y "FIRST_ROWS") (some (Al (T0.map aU))) (GG y)=some v from e) with ⟨ey,q⟩ | ⟨_,e⟩
  ·have Z0:=B.Z.keeps k0;refine eE1 (Z0.const (W:=B.wd w (vw ([r,i,d,L]++X) h₂) true false x r i 0) Z0.l3) fun u zt1=>aA2 zt1 fun hu hv=>?_;rw [aM ey,← q];exact ⟨rfl,u,hv,B.mg,Z0.g,.inl hu⟩
  ·exact wok.glob y v e
 have wokT:WOk (B.wd w (vw ([r,i,d,L]++X) h₂) true false x r i 0) GT:=⟨gkT,wok.mods,wok.idxM,wok.fn,wok.rows,wok.index,wok.hon,wok.tab,wok.row,wok.force,wok.put⟩
 let W:=B.wd w (vw ([r,i,d,L]++X) h₂) true false x r i 0
 have mX0:∀{b},b∈W.X0→b=r∨b=i:=fun hm=>(Ai.mp hm).imp id Ae.mp
 let F:Fr W:={
  A:=(A.under (.builtin "type.__call__" ⟨[.ref B.T.C],[]⟩)).deeper env,env:=env,X:=[r,i,d,L]++X,n:=1,hA:=AOk.make hA _ _ _
  kind:=hk,gl:=ie.gl,bl:=ie.bl
  code:=by obtain ⟨c,o,vs,g1,g2,g3⟩:=ie.code;exact ⟨c,o,vs,g1,k0 _ _ g2,g3⟩
  locX:=Ap _ (ie.loc▸.tail _ (.tail _ (.tail _ (.head _))))
  x0:=fun b hm=>by rw [ie.loc];exact (mX0 hm).elim (fun q=>(show b=(r,lA #[]).1 from q)▸⟨.head _,q1.2.2.2.1⟩) fun q=>(show b=(i,pg).1 from q)▸⟨.tail _ (.head _),q2.2.2.2.1⟩
  cellX:=fun y c e=>by rw [ie.cells] at e;cases e
  cellU:=fun y z c e _=>by rw [ie.cells] at e;cases e }
 have nc:∀{y k},bu y miT.scope.names=some k→k≠.cell∧k≠.free:=fun {y k} e=>by
  have e:=(aW y _).symm.trans e;have:=cM (AA.mp miT_nc.1 _ (mem_of_lookup e));simpa using this
 have kO:∀{y k},bu y miT.scope.names=some k→env.kindOf y=some k:=fun e=>by show env.scope.names.lookup _=_;rw [ie.sc,← aW];exact e
 have so:ScOk miT.scope F.env:=⟨fun y e=>kO e,fun y e=>absurd rfl (nc e).1,fun y e=>absurd rfl (nc e).2,fun y e=>kO e⟩;have hp:Hp F h₂:=⟨bg _ _,fun a hm=>⟨hideAll_none _ hm,alive a hm⟩,⟨_,ie.loc▸m.loc⟩,fun y c e=>by have e:env.cells.lookup y=some c:=e;rw [ie.cells] at e;cases e⟩;have tab0:Tab W [] F.X h₂:=fun _=>⟨⟨#[],0,q1.1,rfl⟩,⟨pg,[],q2.1,⟨#[],0,⟨rfl,rfl,rfl⟩,rfl,rfl,.nil⟩,rfl,fun _ h=>nomatch h⟩,fun _ h=>(nomatch h),Bj _⟩;have cx:Cx F (rho miT.scope GT (eJ miT.scope) [some .tab,none]) [] ⟨h₂,s.gens,s.drawn,tk₂,s.os⟩:=⟨hp,tZ gkT so hp fun y av es e=>by
  rw [miT_nc.2] at e;have e:cond (seq "self" y) (some An) (cond (seq "row" y) none none)=some av:=e;rcases condO e with ⟨e1,q⟩ | ⟨_,e⟩
  ·rw [← aM e1,← q];exact ⟨.ref x,(by exact ⟨rfl,rfl⟩),.inl ⟨hks,_,ie.loc▸m.loc,by kernel_rfl⟩⟩
  ·cases e2:seq "row" y <;> (rw [e2] at e;exact nS e),tab0⟩
 have x0:Sx F s (fun b o=>(vw [r,i,L] h₂).get? b=some o) [] ((ctT W).N [some .tab,none]) 0 ⟨#[]⟩ [] ⟨h₂,s.gens,s.drawn,tk₂,s.os⟩ :=
  ⟨cx,fun _ hm=>(nomatch hm),.inl ⟨rfl,rfl⟩,rfl,fun b o _ e=>(bm e).1,⟨fun o e=>(bm e).2 (show env.locals∈[r,i,L] from ie.loc▸.tail _ (.tail _ (.head _))),fun y c e=>by have e:env.cells.lookup y=some c:=e;rw [ie.cells] at e;cases e⟩⟩
 refine bc fun zz=>?_;refine eE5 (loopT_is) fun p1 p2 it bd p3 zt2=>aA3 zt2 fun eb el ei=>?_;refine zz ?_;have hf:=loopT_go (W:=W) (kn:=fun vs k y T=>T=T0) (kr:=fun _ _=>False) fun _=>rfl;rw [el] at hf;have ok:CtOk W (ctT W) 0:=ctOk wokT miT.scope;rw [eb];refine AT (AC (uM (kb:=fun _ _ _ _=>False) ok (F:=F) rfl so (drop_ok ok) hf _ _ _ _ x0) (fun fl s' dn=>?_) fun _ _ e=>e.elim);cases dn with
 | brk _ q=>exact q.elim
 | ret _ _ q=>exact q.elim
 | next y q =>
  subst q;have kp:∀{b o},h₂.get? b=some o→b∉[r,i,L]→s'.heap.get? b=some o:=fun e n=>y.kp _ _ (fun hm=>n ((mX0 hm).elim (fun q=>q▸.head _) fun q=>q▸.tail _ (.head _))) (aJ e n);have nL:∀{b},b∉[r,i,d,L]++X→b∉[r,i,L]:=fun n hm=>n (Ap _ ((mem3 hm).elim (fun q=>q▸.head _) fun hm=>hm.elim (fun q=>q▸.tail _ (.head _)) fun q=>q▸.tail _ (.tail _ (.tail _ (.head _)))));refine wpAny_execs_nil ⟨rfl,h s' x dx r i d ⟨by rw [y.same],fun b o e=>kp (m.keep _ _ e) fun hm=>?_,tabIn fun b o q e=>kp e (nL (two q)),kp q3.1 d3,⟨_,(y.all.tab rfl).mono (fun _ _ e=>e) fun b o e=>aJ (bm e).1 fun hm=>(bm e).2 ?_⟩,fun a hm=>?_,ri,rd.symm,id'.symm,fun hm=>?_,fun hm=>?_⟩⟩
  ·exact (mem3 hm).elim (fun q=>cv (q▸q1.2.2.2.2) e) fun hm=>hm.elim (fun q=>cv (q▸q2.2.2.2.2) e) fun q=>cv (q▸m.newL) e
  ·exact (Ao.mp hm).elim (fun hm=>Ap _ ((mem3 hm).elim (fun q=>q▸.head _) fun hm=>hm.elim (fun q=>q▸.tail _ (.head _)) fun q=>q▸.tail _ (.tail _ (.head _)))) (Ak _)
  ·exact (mem5 hm).elim (fun q=>q▸m.newX) fun hm=>hm.elim (fun q=>q▸m.newD) fun hm=>hm.elim (fun q=>q▸q1.2.2.2.2) fun hm=>hm.elim (fun q=>q▸q2.2.2.2.2) fun q=>q▸q3.2.2.2.2
  ·exact (mem3 hm).elim (Ne.symm q1.2.1) fun hm=>hm.elim (Ne.symm q2.2.1) (Ne.symm q3.2.1)
  ·exact (mem3 hm).elim (Ne.symm q1.2.2.1) fun hm=>hm.elim (Ne.symm q2.2.2.1) (Ne.symm q3.2.2.1)
end
noncomputable section
noncomputable def miD:MethRec:=dR (oe 54 0)
noncomputable def miH:MethRec:=dR (oe 129 0)
noncomputable def spOf (i n:Nat) (m:MethRec):List (Str×Expr):=(rF (gi i) n m.body).getD []
noncomputable def okName (m:MethRec) (names:List Str) (g y:Str):Bool:=!aP y && cond (names.any (seq y)) (decide (m.scope.names.lookup y=some .local)) (seq y g && decide (m.scope.names.lookup y=some .globalImplicit))
noncomputable def si {hb:Heap} (B:Bs hb) (names:List Str) (vals:List Value) (y:Str):Option Value:=cond (names.any (seq y)) ((names.zip vals).reverse.lookup y) (B.mg y)
noncomputable def oE (m:MethRec) (names:List Str) (g:Str) (sp:List (Str×Expr)):Bool:=sp.all fun q=>match bQ q.2 with
 | some y=>okName m names g y
 | none=>true
end
theorem pJ:mU miD ["self","did","kind","name"]=true∧rF (gi 1) 15 miD.body=some (spOf 1 15 miD)∧oE miD ["self","did","kind","name"] "self" (spOf 1 15 miD)=true∧miD.body.drop 15=[]:=⟨by decide +kernel,by kernel_rfl,by kernel_rfl,by kernel_rfl⟩
theorem pH:mU miH ["self","tab"]=true∧rF (gi 2) 3 miH.body=some (spOf 2 3 miH)∧oE miH ["self","tab"] "MOST_ROUNDS" (spOf 2 3 miH)=true∧miH.body.drop 3=[]:=⟨by decide +kernel,by kernel_rfl,by kernel_rfl,by kernel_rfl⟩
theorem spH_at:lE ((spOf 2 3 miH).reverse++[]) "tab"=some (5,some (Ab "tab"))∧Ce ("force":Str) ((spOf 2 3 miH).reverse++[])=none:=⟨by kernel_rfl,by kernel_rfl⟩
theorem zip_val {names:List Str}{vals:List Value} (hl:names.length=vals.length) {y:Str} (h:names.any (seq y)=true):∃v,(names.zip vals).reverse.lookup y=some v:=by
 obtain ⟨z,hz,e⟩:=BO.mp h;cases aM e;cases q:(names.zip vals).reverse.lookup y with
 | some v=>exact ⟨v,rfl⟩
 | none =>
  obtain ⟨i,hi,rfl⟩:=Cc hz;have:=List.lookup_eq_none_iff.mp q (names[i],vals[i]'(hl▸hi)) (List.mem_reverse.mpr (List.mem_iff_getElem.mpr ⟨i,by refine rwC (List.length_zip ..) ?_;omega,List.getElem_zip⟩));simp at this
section
variable {hb:Heap}{B:Bs hb}{w:World}{A:Around}
theorem kq {j n m:Nat}{mI:MethRec}{names:List Str}{vals:List Value}{g:Str}{gv:Value}{C N:Addr}{mN:Str→Option Value}{s:Shared}{Q:Value→Shared→Prop} (hA:AOk 3 A) (kb:Up hb s.heap) (P:PlainAt hb (gi j) C N mN) (hm:(gi j).meths[m]?=some mI)
  (hi:mU mI names=true) (hp:Plain mI.params names) (hl:names.length=vals.length+1) (h0:∀x,(names.zip (.ref x::vals)).reverse.lookup ("self":Str)=some (.ref x)) (hs:rF (gi j) n mI.body=some (spOf j n mI)) (hn:oE mI names g (spOf j n mI)=true) (hd:mI.body.drop n=[]) (hn':n≤100) (hg:names.any (seq g)=false→B.mg g=some gv) (hh:names.any (seq "self")=true)
  (h:∀x dx al news s',s'={ s with heap:=s'.heap,toks:=s'.toks }→Up s.heap s'.heap→InstIn s'.heap x dx C (fun y=>al.lookup y)→s.heap.get? x=none∧s.heap.get? dx=none→IniAll (si B names (.ref x::vals)) news ((spOf j n mI).reverse++[]) al→Q (.ref x) s') :
  Av (model theProg w) A (call (.ref C) vals) Q NoE s:=by
 refine qi (n:=0) hA P kb (AP hm) hi hp hl B.Z.lim fun x dx L h₁ tk env ie mk=>?_;refine aA2 (cM hi) fun hi1 hi2=>?_;refine aA3 (gM hi1) fun _ hcell hloc=>?_;have hk:env.scope.kind=.function:=by refine rwC (ie.sc ..) ?_;exact of_decide_eq_true (cM hi2).1
 have kO:∀{y k},mI.scope.names.lookup y=some k→env.kindOf y=some k:=fun e=>by show env.scope.names.lookup _=_;refine rwC (ie.sc ..) ?_;exact e
 have hloc:∀{y},names.any (seq y)=true→env.kindOf y=some .local:=fun h=>by
  refine eE1 (BO.mp h) fun z zt1=>aA2 zt1 fun hz e=>?_;cases aM e;exact kO (of_decide_eq_true (AA.mp hloc _ hz))
 refine uB (val:=si B names (.ref x::vals)) (c:=gi j) (P.keeps kb) hk (hloc hh) ie.loc (h0 x) n (s:=⟨h₁,s.gens,s.drawn,tk,s.os⟩) (done:=[]) hs (fun q hq y hy=>?_) (by simpa using hn') mk rfl fun h₂ tk₂ al news ns mk i=>?_
 ·have hn:=AA.mp hn q hq;replace hn:=(hy ..)▸hn;refine aA2 (cM (show (!aP y && _)=true from hn)) fun b hn=>?_;have b:aP y=false:=by simpa using b
  unfold si;cases hm:names.any (seq y) with
  | true =>
   refine eE1 (zip_val (vals:=.ref x::vals) (by refine rwC (hl ..) ?_;rfl) hm) fun v hv=>?_;exact ⟨v,hv,fun p s' Q _ hns hq=>wpAny_Name (wpAny_loadName_local hk (hloc hm) (ie.loc▸hns) hv hq) (bad b).1⟩
  | false =>
   replace hn:=(hm ..)▸hn;refine aA2 (cM hn) fun e hn=>?_;cases aM e;refine ⟨gv,hg hm,fun p s' Q u hns hq=>wpAny_Name ?_ (bad b).1⟩;refine rwC (loadName_read hk (kO (of_decide_eq_true hn)) ..) ?_;exact loadGlobal_global (by refine rwC (ie.gl ..) ?_;exact (B.Z.g.keeps kb).keeps u) (hg hm) hq
 ·refine rwC (hd ..) ?_;exact wpAny_execs_nil ⟨rfl,h x dx al news _ rfl mk.keep ⟨mk.inst,mk.dict⟩ ⟨mk.newX,mk.newD⟩ i⟩
theorem pU {m:MethRec}{names:List Str} (h:(m.params.posonlyargs.isEmpty && (decide (m.params.args.map (·.arg)=names) && (m.params.vararg.isNone && (m.params.kwonlyargs.isEmpty && m.params.kwarg.isNone))))=true):Plain m.params names:=by
 refine aA2 (cM h) fun h1 h2=>?_;refine aA2 (cM h2) fun h2 h3=>?_;refine aA3 (gM h3) fun h3 h4 h5=>?_;exact ⟨AS.mp h1,of_decide_eq_true h2,Bt.mp h3,AS.mp h4,Bt.mp h5⟩
theorem Txt.int (w:World) {K:Frag}{mg mb:Str→Option Value}{h:Heap} (Z:Txt K mg mb h) {x:Str}{i:Int} (e:GG x=some (.int i)):∃t,mg x=some (.int i t):=by
 refine bc fun zz=>?_;obtain ⟨c,hm⟩:=jc e;obtain ⟨v,h1,h2⟩:=Z.const (W:=⟨theProg,w,h,[],fun _=>none,false,false,0,0,0,0⟩) (List.map_inj_left.mp Z.l2 (x,.int i) (AD.mpr ⟨(c,x,.int i),Az.mpr ⟨hm,rfl⟩,rfl⟩));obtain ⟨t,zr1⟩:=h2.int rfl;refine zz ?_;subst zr1;exact ⟨t,h1⟩
theorem uj {s:Shared}{v1 v2 v3:Value}{Q:Value→Shared→Prop} (hA:AOk 3 A) (kb:Up hb s.heap) (h:∀x s',s'={ s with heap:=s'.heap,toks:=s'.toks }→Up s.heap s'.heap→Q (.ref x) s'):Av (model theProg w) A (call (.ref B.D.C) [v1,v2,v3]) Q NoE s :=
 kq (B:=B) (gv:=.none) hA kb B.D.P cls_m.2.2.2.1 pJ.1 (pU (by kernel_rfl)) rfl (fun _=>by kernel_rfl) pJ.2.1 pJ.2.2.1 pJ.2.2.2 (by decide) (fun e=>by cases e) (by kernel_rfl) fun x dx al news s' e k _ _ _=>h x s' e k
theorem ui {s:Shared}{x:Addr}{Q:Value→Shared→Prop} (hA:AOk 3 A) (kb:Up hb s.heap) (h:∀y dy s',s'={ s with heap:=s'.heap,toks:=s'.toks }→Up s.heap s'.heap→HostIn B s'.heap y dy x→s.heap.get? y=none∧s.heap.get? dy=none→Q (.ref y) s'):Av (model theProg w) A (call (.ref B.H.C) [.ref x]) Q NoE s:=by
 refine bc fun zz=>?_;obtain ⟨t,e⟩:=Txt.int w B.Z (x:="MOST_ROUNDS") (i:=200) (by kernel_rfl);refine zz ?_;refine kq (B:=B) (gv:=.int 200 t) hA kb B.H.P cls_m.2.2.2.2.1 pH.1 (pU (by kernel_rfl)) rfl (fun _=>by kernel_rfl) pH.2.1 pH.2.2.1 pH.2.2.2 (by decide) (fun _=>e) (by kernel_rfl) fun y dy al news s' e k I nw i=>?_;refine bc fun zz=>?_;obtain ⟨v,hv,q⟩:=i.look.2 _ _ spH_at.1;refine zz ?_;have q:si B ["self","tab"] [.ref y,.ref x] "tab"=some v:=q;cases (show si B ["self","tab"] [.ref y,.ref x] "tab"=some (.ref x) by kernel_rfl).symm.trans q;exact h y dy s' e k ⟨_,I,hv,i.look.1 spH_at.2⟩ nw
noncomputable def bodyN (p:Nat→Pos):List Stmt :=
  [.Assign [.Name "decl" (p 0)] (.Call (.Name "Decl" (p 1)) [.Call (.Name "len" (p 2)) [.Attribute (.Name "tab" (p 3)) "decls" (p 4)] [] (p 5),.Name "kind" (p 6),.Name "name" (p 7)] [] (p 8)) (p 9),
   .Expr (.Call (.Attribute (.Attribute (.Name "tab" (p 10)) "decls" (p 11)) "append" (p 12)) [.Name "decl" (p 13)] [] (p 14)) (p 15),
   .Return (some (.Name "decl" (p 16))) (p 17)]
theorem qE:∃p:Nat→Pos,bq (p 12) (p 14) [.Name "decl" (p 13)]=true∧(aX 59).body=bodyN p :=
 ⟨fun i=>[_,_,_,_,_,_,_,_,_,_,_,_,_,_,_,_,_,_].getD i default,by decide +kernel,rfl⟩
noncomputable def pN:Nat→Pos:=Classical.choose qE
theorem qD:bq (pN 12) (pN 14) [.Name "decl" (pN 13)]=true∧(aX 59).body=bodyN pN:=Classical.choose_spec qE
noncomputable def Bs.wN (B:Bs hb) (w:World) (g:Heap) (x:Addr):Wd:=B.wd w g false true 0 0 0 x
theorem condN {α:Type}{b:Bool}{o:α}{y:Option α} (h:cond b none y=some o):b=false∧y=some o:=by
 cases b with
 | true=>exact nS h
 | false=>exact ⟨rfl,h⟩
section
variable {g:Heap}{x dx d:Addr}{F:Fr (B.wN w g x)}{ρ:Rho}{s s₁:Shared}{items:Array Value}{n:Nat}{mA:Str→Option Value}{P:Flow→Shared→Prop}
theorem qx {p q:Pos}{R:Value→Shared→Prop} (k0:Up hb g) (I:InstIn g x dx B.T.C mA) (a3:mA "decls"=some (.ref d)) (e:ρ "tab"=some .host) (cx:Cx F ρ [] s) (hq:∀tk,R (.ref d) { s with toks:=tk }):Av (model theProg w) F.A (eval (.Attribute (.Name "tab" p) "decls" q) F.env) R NoE s :=
 attrN rfl ((cx.nm _ _ e).load cx.hp.base fun v hv=>(show v=.ref x from hv.1)▸lU (B.T.P.keeps k0) I (cM (cM (cM pK).2).2).1 a3 cx.hp.base hq)
theorem mY {kk:Int}{nm:Str} (hA:AOk 3 F.A) (k0:Up hb g) (so:ScOk (aX 59).scope F.env) (sD:bz F.env "decl") (I:InstIn g x dx B.T.C mA) (a3:mA "decls"=some (.ref d)) (x₁:Sx F s (fun b o=>s.heap.get? b=some o) [] ρ 0 ⟨#[]⟩ [] s₁) (e1:ρ "tab"=some .host) (e2:ρ "kind"=some (.int kk)) (e3:ρ "name"=some (.str nm)) (e4:ρ "len"=some (.blt 0))
  (hd:s.heap.get? d=some (cr "list" items n)) (hsz:items.size≤1000) (fin:∀y s',s'={ s with heap:=s'.heap,toks:=s'.toks }→Kp [d] s.heap s'.heap→s'.heap.get? d=some (cr "list" (items.push (.ref y)) (n+1))→P (.ret (.ref y)) s') :
  Av (model theProg w) F.A (execs (bodyN pN) F.env) P NoE s₁:=by
 have hbF:∀{ρ s},Cx F ρ [] s→Up hb s.heap:=fun cx b o e=>cx.hp.base b o (k0 b o e);have cx:=x₁.all;have hd1:s₁.heap.get? d=some (cr "list" items n):=x₁.kp _ _ (fun h=>nomatch h) hd;unfold bodyN;refine AT (wpAny_Assign_Name (Call_Name rfl (wpAny_Name ?_ rfl)));refine rwC (loadName_read F.kind (so.glob "Decl" (by kernel_rfl)) ..) ?_;refine loadGlobal_global (F.gl▸B.Z.g.keeps (hbF cx)) B.D.g (callWith_cls (h₀:=hb) B.D.P.cls (Calls.spliced_cons (Call_Name rfl ((cx.nm _ _ e4).load cx.hp.base fun v hv=>(show v=.builtin "len" from hv)▸jv rfl (Calls.spliced_cons (qx k0 I a3 e1 cx fun tk=>Calls.spliced_nil (call_len_list ⟨_,hd1,rfl,n,rfl⟩ (by omega) ?_)))))));have cx₂:=cx.tok (tk+1+1);refine Calls.spliced_cons ((cx₂.nm _ _ e2).load (s:={ s₁ with toks:=tk+1+1 }) cx₂.hp.base fun v2 h2=>Calls.spliced_cons ((cx₂.nm _ _ e3).load (s:={ s₁ with toks:=tk+1+1 }) cx₂.hp.base fun v3 h3=>Calls.spliced_nil ⟨hbF cx₂,uj (B:=B) hA (hbF cx₂) fun y s₃ q3 k3=>?_⟩));have af:Af (B.wN w g x) s₁ s₃:=⟨q3,fun b o _ e=>k3 b o e⟩;have x₃:=x₁.af af (T':=[]) (fun h=>nomatch h);refine x₃.all.store (ρ':=fun y=>cond (seq y "decl") none (ρ y)) sD (fun z a e=>.inr ⟨cQ (condN e).1,(condN e).2⟩) fun h₄ tk₄ z kz sp cx₄ ly lx=>?_;have zs:∀o,s.heap.get? z≠some o:=sp.elim (fun e=>e.2▸x₁.fk.loc) fun e=>x₁.fk.cell _ _ e.2;have k4:Up s.heap h₄:=fun b o e=>kz b o (fun m=>zs o (Ae.mp m▸e)) (x₃.kp b o (fun h=>nomatch h) e);have hd4:=k4 _ _ hd;refine AT (wpAny_Expr (oQ rfl qD.1 rfl (qx (ρ:=fun y=>cond (seq y "decl") none (ρ y)) k0 I a3 e1 cx₄ fun tk pl=>Calls.getMethod_list_append hd4 rfl rfl (jv rfl (Calls.spliced_cons (lx.load (s:={ s₃ with heap:=h₄,toks:=tk }) rfl (Calls.spliced_nil (append_at (s:={ s₃ with heap:=h₄,toks:=tk }) (hsz:=by refine rwC (sizeLine_eq ..) ?_;omega) hd4 fun h₅ sb hD=>?_)))))) ) (mX F) rfl);have l5:Loads h₅ F.env "decl" (.ref y):=lx.kp (Kp.but sb) (fun m=>x₁.fk.loc (cr "list" items n) (Ae.mp m▸hd)) fun c e m=>x₁.fk.cell _ _ e (cr "list" items n) (Ae.mp m▸hd);show Av _ _ (execs _ F.env) _ _ _;exact AT (wpAny_Return_some (l5.load (s:={ s₃ with heap:=h₅,toks:=tk }) rfl (fin y _ (by refine rwC (x₃.same ..) ?_;exact rfl) (fun b o n e=>Kp.but sb b o n (k4 b o e)) hD)))
end
theorem rq {s:Shared}{x dx r i d a:Addr}{items:Array Value}{n:Nat}{kk:Int}{nm:Str}{t1 t2:Tok} (hA:AOk 4 A) (ha:B.fa "new_decl"=some a) (kb:Up hb s.heap) (ht:TabIn B s.heap x dx r i d) (hd:s.heap.get? d=some (cr "list" items n)) (hn:d≠x∧d≠dx) (hdb:hb.get? d=none) (hsz:items.size≤1000) :
  codeAny (model theProg w) A (.call (.ref a) ⟨[.ref x,.int kk t1,.str nm t2],[]⟩) (fun r s'=>∃y,r=.ok (.ret (.ref y))∧s'={ s with heap:=s'.heap,toks:=s'.toks }∧Kp [d] s.heap s'.heap∧∃items' n',s'.heap.get? d=some (cr "list" items' n')∧items'.size=items.size+1) s:=by
 have one:∀{b},b∈[d]→b=d:=Ae.mp;have k0:Up hb (vw [d] s.heap):=fun b o e=>aJ (kb _ _ e) fun m=>cv (one m▸hdb) e;have gk:GOk (B.wN w (vw [d] s.heap) x) GG:=Txt.glob (W:=B.wN w (vw [d] s.heap) x) (B.Z.keeps k0) fun x j h=>Bs.fa_place x j h;have fns:FnsOk (B.wN w (vw [d] s.heap) x) qr:=Bs.fns k0;refine bc fun zz=>?_;refine eE1 (fns.fns "new_decl" (aX 59) (by kernel_rfl)) fun a' zt2=>aA2 zt2 fun ha' fn=>?_;obtain ⟨mA,I,a1,a2,a3,a4,a5⟩:=ht;have fn:FnOk (B.wN w (vw [d] s.heap) x) (aX 59) a:=As (ha'.symm.trans ha)▸fn;refine zz (vm (W:=B.wN w (vw [d] s.heap) x) (n:=3) (X:=[d]) (T:=[]) (avs:=[.host,.int kk,.str nm]) (vs:=[some .host,some (.int kk),some (.str nm),none]) fns.lim fn gk hA rfl (by exact ⟨_,_,rfl,⟨rfl,rfl⟩,_,_,rfl,⟨t1,rfl⟩,_,_,rfl,⟨t2,rfl⟩,rfl⟩) ⟨bg _ _,fun b m=>⟨hideAll_none _ m,by refine rwC (one m ..) ?_;exact ⟨_,hd⟩⟩,fun _ m=>nomatch m⟩ (fun h=>nomatch h) fun F s₁ en=>?_);refine rwC (qD.2 ..) ?_;exact mY (g:=vw [d] s.heap) (en.n▸F.hA) k0 en.so (aZ (c:=nK (Calls (B.wN w (vw [d] s.heap) x) 0) (aw (B.wN w (vw [d] s.heap) x) 0) GG (aX 59).scope) en.so (by kernel_rfl)) (I.at fun b o q e=>aJ e fun m=>q.elim (fun q=>hn.1 ((one m).symm.trans q)) fun q=>hn.2 ((one m).symm.trans q)) a3 en.st
  (by kernel_rfl) (kk:=kk) (by kernel_rfl) (nm:=nm) (by kernel_rfl) (by kernel_rfl) hd hsz fun y s' e k q=>⟨y,rfl,e,k,_,_,q,Array.size_push _⟩
end
noncomputable abbrev scL:Scope:=(aX 143).scope
noncomputable def bodyM (p:Nat→Pos) (r:List Stmt):List Stmt :=
  .Assign [.Name "tab" (p 0)] (.Call (.Name "TypeTable" (p 1)) [] [] (p 2)) (p 3) ::
  .Expr (.Call (.Name "new_decl" (p 4)) [.Name "tab" (p 5),.Name "D_ENUM" (p 6),.Constant (.str "E") 0 (p 7)] [] (p 8)) (p 9) ::
  .Expr (.Call (.Name "new_decl" (p 10)) [.Name "tab" (p 11),.Name "D_ENUM" (p 12),.Constant (.str "F") 0 (p 13)] [] (p 14)) (p 15) ::
  .Assign [.Name "host" (p 16)] (.Call (.Name "Thin" (p 17)) [.Name "tab" (p 18)] [] (p 19)) (p 20)::r
theorem qF:∃p:Nat→Pos,(aX 143).body.drop 6=bodyM p ((aX 143).body.drop 10) :=
 ⟨fun i=>[_,_,_,_,_,_,_,_,_,_,_,_,_,_,_,_,_,_,_,_,_].getD i default,rfl⟩
noncomputable def pM:Nat→Pos:=Classical.choose qF
theorem un:bu "TypeTable" scL.names=some .globalImplicit∧bu "new_decl" scL.names=some .globalImplicit∧bu "D_ENUM" scL.names=some .globalImplicit∧bu "Thin" scL.names=some .globalImplicit∧aQ scL "tab"=true∧aQ scL "host"=true :=
 ⟨by kernel_rfl,by kernel_rfl,by kernel_rfl,by kernel_rfl,by kernel_rfl,by kernel_rfl⟩
section
variable {hb:Heap}{B:Bs hb}{w:World}
noncomputable abbrev Bs.w0 {hb:Heap} (B:Bs hb) (w:World):Wd:=B.wd w hb false false 0 0 (sysModules+1) 0
variable {F:Fr (B.w0 w)}{ρ:Rho}{t₂ t t':Shared}{x dx r i d:Addr}{k:Nat}
structure Mid {hb:Heap}{B:Bs hb}{w:World} (F:Fr (B.w0 w)) (ρ:Rho) (t₂:Shared) (x dx r i d:Addr) (k:Nat) (t:Shared):Prop where
 cx:Cx (F.plus [r,i,d]) ρ [] t
 same:t={ t₂ with heap:=t.heap,toks:=t.toks }
 kp:Kp F.X t₂.heap t.heap
 tab:TabIn B t.heap x dx r i d
 decls:∃items n,t.heap.get? d=some (cr "list" items n)∧items.size=k
 rep:∃h₀,TabRep (B.wd w h₀ true false x r i 0) T0 t.heap (vw ([r,i,d]++F.X) t.heap)
 new:∀a∈[x,dx,r,i,d],t₂.heap.get? a=none
 ne:r≠i∧d≠r∧d≠i∧x∉[r,i,d]∧dx∉[r,i,d]
 ld:Loads t.heap F.env "tab" (.ref x)
theorem TabIn.at {h h':Heap} (T:TabIn B h x dx r i d) (k:∀b o,b=x∨b=dx→h.get? b=some o→h'.get? b=some o):TabIn B h' x dx r i d:=by obtain ⟨mA,I,a⟩:=T.ex;exact ⟨mA,I.at k,a⟩
theorem Mid.go {Z:List Addr}{ρ':Rho}{k':Nat} (m:Mid F ρ t₂ x dx r i d k t) (cx':Cx (F.plus [r,i,d]) ρ' [] t') (same:t'={ t with heap:=t'.heap,toks:=t'.toks }) (kz:Kp Z t.heap t'.heap) (hz:∀z∈Z,z=d∨z∈F.X) (cx₂:∀a∈F.X,∃o,t₂.heap.get? a=some o)
  (hd:∃items n,t'.heap.get? d=some (cr "list" items n)∧items.size=k') (l:Loads t'.heap F.env "tab" (.ref x)):Mid F ρ' t₂ x dx r i d k' t':=by
 have nX:∀{a},a∈[x,dx,r,i,d]→a∉F.X:=fun hm q=>(cx₂ _ q).elim fun o e=>cv (m.new _ hm) e;have off:∀{a},a∈[x,dx,r,i,d]→a≠d→a∉Z:=fun hm n q=>(hz _ q).elim n (nX hm);have xd:x≠d:=fun q=>m.ne.2.2.2.1 (q▸.tail _ (.tail _ (.head _)));have dd:dx≠d:=fun q=>m.ne.2.2.2.2 (q▸.tail _ (.tail _ (.head _)));have uv:Up (vw ([r,i,d]++F.X) t.heap) (vw ([r,i,d]++F.X) t'.heap):=kz.vw (fun b hb=>(hz b hb).elim (fun q=>Ap _ (q▸.tail _ (.tail _ (.head _)))) (Ak _)) fun b hm=>.inl hm;refine ⟨cx',(by replace same:=(m.same ..)▸same;exact same),fun b o n e=>kz b o (fun q=>(hz b q).elim (fun q=>cv (q▸m.new d (.tail _ (.tail _ (.tail _ (.tail _ (.head _)))))) e) n) (m.kp b o n e),m.tab.at fun b o q e=>kz b o (q.elim (fun q=>q▸off (.head _) xd) fun q=>q▸off (.tail _ (.head _)) dd) e,hd,?_,m.new,m.ne,l⟩;refine bc fun zz=>?_;refine eE1 (m.rep) fun h₀ q=>?_;refine zz ?_;exact ⟨h₀,q.to (fun o e=>kz r o (off (a:=r) (.tail _ (.tail _ (.head _))) m.ne.2.1.symm) e) (fun o e=>kz i o (off (a:=i) (.tail _ (.tail _ (.tail _ (.head _)))) m.ne.2.2.1.symm) e) uv⟩
theorem gG {p5 p6 p7 p8 p9 p10:Pos}{k1:Nat}{nm:Str}{Q:Flow→Shared→Prop} (hA:AOk 4 F.A) (e1:ρ "new_decl"=some (.fn "new_decl")) (e2:ρ "D_ENUM"=some (.int 5)) (hX₂:∀a∈F.X,∃o,t₂.heap.get? a=some o) (m:Mid F ρ t₂ x dx r i d k t) (hk:k≤1000)
  (h:∀t',Mid F ρ t₂ x dx r i d (k+1) t'→Q .next t'):Av (model theProg w) F.A (exec (.Expr (.Call (.Name "new_decl" p5) [.Name "tab" p6,.Name "D_ENUM" p7,.Constant (.str nm) k1 p8] [] p9) p10) F.env) Q NoE t:=by
 have kb:Up hb t.heap:=m.cx.hp.base;have one:∀{b},b∈[d]→b=d:=Ae.mp;have dX:d∉F.X:=fun q=>(hX₂ _ q).elim fun o e=>cv (m.new d (.tail _ (.tail _ (.tail _ (.tail _ (.head _)))))) e;refine wpAny_Expr_any (Call_Name rfl ((m.cx.nm _ _ e1).load (F:=F.plus [r,i,d]) kb fun v hv=>?_)) (mX F) rfl;refine bc fun zz=>?_;obtain ⟨a,zr1,ha⟩:∃p,v=.ref p∧B.fa "new_decl"=some p:=hv;refine zz ?_;subst zr1;refine bc fun zz=>?_;refine eE1 (Bs.fa_is ha) fun fd' zt1=>aA2 zt1 fun _ fn=>?_;refine eE2 (fn.ex) fun ob fd zt2=>aA3 zt2 fun ho hd _=>?_;refine zz ?_;refine callF (o:=ob) (fd:=fd) rfl (Calls.spliced_cons (m.ld.load rfl (Calls.spliced_cons ((m.cx.nm _ _ e2).load (F:=F.plus [r,i,d]) kb fun v2 hv2=>Calls.spliced_cons (wpAny_Constant_str (k:=k1) (pos:=p8) (Calls.spliced_nil ⟨⟨kb _ _ ho,hd⟩,?_⟩))))));refine bc fun zz=>?_;obtain ⟨t1,zr2⟩:∃t,v2=.int 5 t:=hv2;refine zz ?_;subst zr2;refine bc fun zz=>?_;refine eE2 (m.decls) fun items n zt3=>aA2 zt3 fun hl hs=>?_;refine zz ?_;have hdb:hb.get? d=none:=(m.cx.hp.xs d (.tail _ (.tail _ (.head _)))).1;refine wpAny_call (codeAny_mono (rq (B:=B) (w:=w) (s:={ t with toks:=_ }) hA ha kb m.tab hl ⟨fun q=>m.ne.2.2.2.1 (q▸.tail _ (.tail _ (.head _))),fun q=>m.ne.2.2.2.2 (q▸.tail _ (.tail _ (.head _)))⟩ hdb (by omega)) fun r s' hr=>?_);refine bc fun zz=>?_;obtain ⟨y,zr3,same,kp,items',n',hl',hs'⟩:=hr;refine zz ?_;subst zr3;have nl:F.env.locals∉[d]:=fun q=>dX (one q▸F.locX);have nc:∀z c,F.env.cells.lookup z=some c→c∉[d]:=fun z c e q=>dX (one q▸(F.cellX z c e).1);refine h s' (m.go (Z:=[d]) (m.cx.at (s':=s') kp (fun z q=>by refine rwC (one q ..) ?_;exact ⟨.tail _ (.tail _ (.head _)),(fun q=>nomatch q),_,hl'⟩) nl nc) same kp (fun z q=>.inl (one q)) hX₂ ⟨items',n',hl',by refine rwC (hs' ..) ?_;refine rwC (hs ..) ?_;exact rfl⟩ (m.ld.kp kp nl fun c e=>nc _ _ e))
theorem Cx.keepOff {F:Fr (B.w0 w)}{z:Str}{v:Value}{Q:Unit→Shared→Prop}{s:Shared} (cx:Cx F ρ [] s) (hk:bz F.env z) (q:∀h' tk p,Kp [p] s.heap h'→p∈F.X→(∀o,s.heap.get? p=some o→hb.get? p=none)→pA F.env z p→Cx F (fun y=>cond (seq y z) none (ρ y)) [] { s with heap:=h',toks:=tk }→(∀y u,y≠z→Loads s.heap F.env y u→Loads h' F.env y u)→Loads h' F.env z v→Q () { s with heap:=h',toks:=tk }) :
  Av (model theProg w) F.A (storeName F.env z v) Q NoE s :=
 cx.store (ρ':=fun y=>cond (seq y z) none (ρ y)) hk (fun y a e=>by
  cases es:seq y z with
  | true=>replace e:=(es ..)▸e;exact nS e
  | false=>replace e:=(es ..)▸e;exact .inr ⟨cQ es,e⟩) fun h' tk p kp sp cx' ly lx =>
  have pX:p∈F.X:=sp.elim (fun e=>e.2▸F.locX) fun e=>(F.cellX _ _ e.2).1
  q h' tk p kp pX (fun _ _=>(cx.hp.xs p pX).1) sp cx' ly lx
theorem law_mid {Q:Flow→Shared→Prop} (hA:AOk 4 F.A) (so:ScOk scL F.env) (cx:Cx F ρ [] t₂) (e1:ρ "new_decl"=some (.fn "new_decl")) (e2:ρ "D_ENUM"=some (.int 5))
  (h:∀ρ' t x dx r i d k y dy,(∀(z:Str) (a:AV),z≠"tab"→z≠"host"→ρ z=some a→ρ' z=some a)→Mid F ρ' t₂ x dx r i d k t→HostIn B t.heap y dy x→(∀a∈[y,dy],t₂.heap.get? a=none∧a∉[r,i,d])→Loads t.heap F.env "host" (.ref y) →
   Av (model theProg w) F.A (execs ((aX 143).body.drop 10) F.env) Q NoE t) :
  Av (model theProg w) F.A (execs ((aX 143).body.drop 6) F.env) Q NoE t₂:=by
 refine bc fun zz=>?_;refine aA6 (un) fun g1 g2 g3 g4 g5 g6=>?_;refine zz ?_;refine rwC (show (aX 143).body.drop 6=bodyM pM ((aX 143).body.drop 10) from Classical.choose_spec qF) ?_;unfold bodyM;have kb:Up hb t₂.heap:=cx.hp.base;have hX₂:∀a∈F.X,∃o,t₂.heap.get? a=some o:=fun a m=>(cx.hp.xs a m).2;have sT:bz F.env "tab":=aZ (c:=nK (Calls (B.w0 w) 0) (aw (B.w0 w) 0) GG scL) so g5;have sH:bz F.env "host":=aZ (c:=nK (Calls (B.w0 w) 0) (aw (B.w0 w) 0) GG scL) so g6;refine AT (wpAny_Assign_Name (Call_Name rfl (wpAny_Name ?_ rfl)));refine rwC (loadName_read F.kind (so.glob "TypeTable" g1) ..) ?_;refine loadGlobal_global (by refine rwC (F.gl ..) ?_;exact B.Z.g.keeps kb) B.T.g (callWith_cls0 (h₀:=hb) B.T.P.cls kb (make_tab (B:=B) (X:=F.X) hA kb (fun a m=>cx.hp.xs a m) fun s₁ x dx r i d TM=>?_));have cx₁:Cx (F.plus [r,i,d]) ρ [] s₁:=cx.plus TM.keep fun z m=>(mem3 m).elim (fun q=>q▸⟨TM.new r (.tail _ (.tail _ (.head _))),TM.rep.elim fun _ q=>q.rows.elim fun _ q=>q.elim fun _ q=>⟨_,q.1⟩⟩) fun m=>m.elim (fun q=>q▸⟨TM.new i (.tail _ (.tail _ (.tail _ (.head _)))),TM.rep.elim fun _ q=>q.idx.elim fun _ q=>q.elim fun _ q=>⟨_,q.1⟩⟩) fun q=>q▸⟨TM.new d (.tail _ (.tail _ (.tail _ (.tail _ (.head _))))),_,TM.decls⟩;refine cx₁.keepOff (F:=F.plus [r,i,d]) sT fun h₃ tk p kp pX _ sp cx₃ ly lx=>?_;have pF:p∈F.X:=sp.elim (fun e=>e.2▸F.locX) fun e=>(F.cellX _ _ e.2).1;have one:∀{b},b∈[p]→b=p:=Ae.mp;have nX:∀{a},a∈[x,dx,r,i,d]→a∉[p]:=fun m q=>(hX₂ _ pF).elim fun o e=>cv (one q▸TM.new _ m) e;have M₃:Mid F (fun y=>cond (seq y "tab") none (ρ y)) t₂ x dx r i d 1 { s₁ with heap:=h₃,toks:=tk }:=⟨cx₃,(by refine rwC (TM.same ..) ?_;exact rfl),fun b o n e=>kp b o (fun q=>n (one q▸pF)) (TM.keep b o e),TM.tab.at fun b o q e=>kp b o (q.elim (fun q=>q▸nX (.head _)) fun q=>q▸nX (.tail _ (.head _))) e,
  ⟨_,_,kp _ _ (nX (.tail _ (.tail _ (.tail _ (.tail _ (.head _)))))) TM.decls,rfl⟩,TM.rep.imp fun h₀ q=>q.to (fun o e=>kp r o (nX (a:=r) (.tail _ (.tail _ (.head _)))) e) (fun o e=>kp i o (nX (a:=i) (.tail _ (.tail _ (.tail _ (.head _))))) e) (kp.vw (fun b m=>Ak _ (one m▸pF)) fun b m=>.inl m),TM.new,TM.ne,lx⟩
 show Av _ _ (execs _ F.env) _ _ _;refine AT (gG (ρ:=fun y=>cond (seq y "tab") none (ρ y)) (k:=1) hA e1 e2 hX₂ M₃ (by decide) fun t₄ M₄=>?_);show Av _ _ (execs _ F.env) _ _ _;refine AT (gG (ρ:=fun y=>cond (seq y "tab") none (ρ y)) (k:=2) hA e1 e2 hX₂ M₄ (by decide) fun t₅ M₅=>?_);show Av _ _ (execs _ F.env) _ _ _;have k5:Up hb t₅.heap:=M₅.cx.hp.base;refine AT (wpAny_Assign_Name (Call_Name rfl (wpAny_Name ?_ rfl)));refine rwC (loadName_read F.kind (so.glob "Thin" g4) ..) ?_;refine loadGlobal_global (by refine rwC (F.gl ..) ?_;exact B.Z.g.keeps k5) B.H.g (callWith_cls (h₀:=hb) B.H.P.cls (Calls.spliced_cons (M₅.ld.load rfl (Calls.spliced_nil ⟨k5,ui (B:=B) (hA.le (by decide)) k5 fun y dy s₆ e6 k6 H nw=>?_⟩))));have M₆:=M₅.go (Z:=[]) (t':=s₆) (by refine rwC (e6 ..) ?_;exact M₅.cx.grow k6) e6 (fun b o _ e=>k6 b o e) (fun _ m=>nomatch m) hX₂ (M₅.decls.imp fun _ q=>q.imp fun _ q=>⟨k6 _ _ q.1,q.2⟩) (M₅.ld.kp (X:=[]) (fun b o _ e=>k6 b o e) (fun m=>nomatch m) fun _ _ m=>nomatch m);refine M₆.cx.keepOff (F:=F.plus [r,i,d]) sH fun h₇ tk p kp pX _ sp cx₇ ly lx=>?_;have pF:p∈F.X:=sp.elim (fun e=>e.2▸F.locX) fun e=>(F.cellX _ _ e.2).1;have one:∀{b},b∈[p]→b=p:=Ae.mp;have nX:∀{a},a∈[x,dx,r,i,d]→a∉[p]:=fun m q=>(hX₂ _ pF).elim fun o e=>cv (one q▸TM.new _ m) e;have M₇:=M₆.go (Z:=[p]) (t':={ s₆ with heap:=h₇,toks:=tk }) cx₇ rfl kp (fun z m=>.inr (one m▸pF)) hX₂ (M₆.decls.imp fun _ q=>q.imp fun _ q=>⟨kp _ _ (nX (.tail _ (.tail _ (.tail _ (.tail _ (.head _)))))) q.1,q.2⟩) (ly _ _ (by decide +kernel) M₆.ld);have al:∀{a},a∈[r,i,d]++F.X→∃o,t₅.heap.get? a=some o:=fun m=>(M₅.cx.hp.xs _ m).2;have dead:∀{a},t₅.heap.get? a=none→t₂.heap.get? a=none∧a∉[r,i,d]:=fun {a} n=>by
  refine ⟨?_,fun m=>(al (Ap _ m)).elim fun o e=>cv n e⟩;cases e:t₂.heap.get? a with
  | none=>rfl
  | some o=>exact cv n (M₅.kp a o (fun m=>(al (Ak _ m)).elim fun o e=>cv n e) e)
 have pn:∀{a},t₅.heap.get? a=none→a∉[p]:=fun n q=>(al (Ak _ (one q▸pF))).elim fun o e=>cv n e;obtain ⟨mA,I,a1,a2⟩:=H;refine h _ _ x dx r i d 3 y dy (fun z a h1 h2 e=>?_) M₇ ⟨mA,I.at fun b o q e=>kp b o (q.elim (fun q=>q▸pn nw.1) fun q=>q▸pn nw.2) e,a1,a2⟩ (fun a m=>(Ai.mp m).elim (fun q=>q▸dead nw.1) fun m=>Ae.mp m▸dead nw.2) lx;show cond (seq z "host") none (cond (seq z "tab") none (ρ z))=some a;refine rwC (bt h2 ..) ?_;refine rwC (bt h1 ..) ?_;exact e
end
section
variable {hb:Heap}{B:Bs hb}{w:World}{F:Fr (B.w0 w)}{ρ':Rho}{t₂ t:Shared}{x dx r i d y dy:Addr}{k:Nat}
theorem slL {s l:List Int}{o:Option AV}{h0 h1 m spot:Int}:look "tab" (eJ scL) (sl0 s l o h0 h1 m spot (some .tab) (some .host))=some .tab∧look "host" (eJ scL) (sl0 s l o h0 h1 m spot (some .tab) (some .host))=some .host∧sl0 s l o h0 h1 m spot (some .tab) (some .host)=put "host" .host (eJ scL) (put "tab" .tab (eJ scL) (sl0 s l o h0 h1 m spot none none)) :=
 ⟨by kernel_rfl,by kernel_rfl,by kernel_rfl⟩
noncomputable def lawFr (F:Fr (B.w0 w)) (g:Heap) (x r i d y:Addr) (k0:Up hb g) (ap:∀b∈[r,i],b∉F.X):Fr (B.wd w g true true x r i y) where
 A:=F.A
 env:=F.env
 X:=[r,i,d]++F.X
 n:=F.n
 hA:=F.hA
 kind:=F.kind
 gl:=F.gl
 bl:=F.bl
 code:=F.code.imp fun _ q=>q.imp fun _ q=>q.imp fun _ q=>⟨q.1,k0 _ _ q.2.1,q.2.2⟩
 locX:=Ak _ F.locX
 x0:=fun b (hm:b∈[r,i])=>⟨Ap _ ((Ai.mp hm).elim (fun q=>q▸.head _) fun q=>Ae.mp q▸.tail _ (.head _)),fun q=>ap b hm (q▸F.locX)⟩
 cellX:=fun y c e=>⟨Ak _ (F.cellX y c e).1,fun (hm:c∈[r,i])=>ap c hm (F.cellX y c e).1,(F.cellX y c e).2.2⟩
 cellU:=F.cellU
theorem law_rest {s l:List Int}{o:Option AV}{h0 h1 m spot:Int} (hn:F.n=21) (so:ScOk scL F.env) (kb₂:Up hb t₂.heap) (hρ:∀(z:Str) (a:AV),z≠"tab"→z≠"host"→rho scL GG (eJ scL) (sl0 s l o h0 h1 m spot none none) z=some a→ρ' z=some a) (M:Mid F ρ' t₂ x dx r i d k t) (H:HostIn B t.heap y dy x) (nw:∀a∈[y,dy],t₂.heap.get? a=none∧a∉[r,i,d])
  (hX₂:∀a∈F.X,∃o,t₂.heap.get? a=some o) (L2:Loads t.heap F.env "host" (.ref y))
  (go:∀{W:Wd},WF W→∀{kn kb:Kn}{kr:K},(∀T,kr (.bool true) T)→tl (Calls W 20) (aw W 20) 143 10 40 kn kb kr (sl0 s l o h0 h1 m spot (some .tab) (some .host)) 0 ⟨#[]⟩ T0) :
  Av (model theProg w) F.A (execs ((aX 143).body.drop 10) F.env) (fun f s'=>f=.ret (.bool true)∧Up hb s'.heap∧s'={ t with heap:=s'.heap,toks:=s'.toks }) NoE t:=by
 have deadX:∀a∈[r,i,d]++F.X,hb.get? a=none:=fun a m=>(M.cx.hp.xs a m).1;have k0:Up hb (vw ([r,i,d]++F.X) t.heap):=fun b o e=>aJ (M.cx.hp.base b o e) fun m=>cv (deadX b m) e;have off:∀{a},t₂.heap.get? a=none→a∉[r,i,d]→a∉[r,i,d]++F.X:=fun n q m=>(Ao.mp m).elim q fun m=>(hX₂ _ m).elim fun o e=>cv n e;have ox:∀{b},b=x∨b=dx→b∉[r,i,d]++F.X:=fun q=>q.elim (fun q=>q▸off (M.new _ (.head _)) M.ne.2.2.2.1) fun q=>q▸off (M.new _ (.tail _ (.head _))) M.ne.2.2.2.2;have oy:∀{b},b=y∨b=dy→b∉[r,i,d]++F.X:=fun q=>q.elim (fun q=>q▸off (nw y (.head _)).1 (nw y (.head _)).2) fun q=>q▸off (nw dy (.tail _ (.head _))).1 (nw dy (.tail _ (.head _))).2;have ap:∀b∈[r,i],b∉F.X:=fun b hm q=>(hX₂ b q).elim fun o e=>(Ai.mp hm).elim (fun q=>cv (q▸M.new r (.tail _ (.tail _ (.head _)))) e) fun q=>cv (Ae.mp q▸M.new i (.tail _ (.tail _ (.tail _ (.head _))))) e;have hM:(i == sysModules)=false:=beq_eq_false_iff_ne.mpr fun e=>(Bo.mp B.Z.l7).elim fun o ho=>cv (deadX i (.tail _ (.head _))) (e▸B.Z.inn _ _ ho);have wok:WOk (B.wd w (vw ([r,i,d]++F.X) t.heap) true true x r i y) GG:=Bs.wok k0 hM (fun _=>rfl) (fun _=>M.ne.1) (fun _=>⟨dx,d,M.tab.at fun b o q e=>aJ e (ox q)⟩) fun _=>⟨dy,⟨H.ex.imp fun mA q=>⟨q.1.at fun b o q e=>aJ e (oy q),q.2⟩⟩⟩;have wf:WF (B.wd w (vw ([r,i,d]++F.X) t.heap) true true x r i y):=⟨wok,Bs.fns k0,rfl⟩;have hp:Hp (lawFr F (vw ([r,i,d]++F.X) t.heap) x r i d y k0 ap) t.heap:=⟨bg _ _,fun a hm=>⟨hideAll_none _ hm,(M.cx.hp.xs a hm).2⟩,M.cx.hp.ns,M.cx.hp.cell⟩;have tab:Tab (B.wd w (vw ([r,i,d]++F.X) t.heap) true true x r i y) T0 ([r,i,d]++F.X) t.heap:=fun _=>M.rep.elim fun h₀ q=>⟨q.rows.imp fun vs q=>q.imp fun n q=>⟨q.1,Vs.conv (W:=B.wd w h₀ true false x r i 0) (fun _=>⟨rfl,rfl⟩) (fun h=>nomatch h) q.2⟩,q.idx,q.ok,q.len⟩;have nm:∀z av,aQ scL z=true→look z (eJ scL) (sl0 s l o h0 h1 m spot (some .tab) (some .host))=some av→∃v,V (B.wd w (vw ([r,i,d]++F.X) t.heap) true true x r i y) (vw ([r,i,d]++F.X) t.heap) av v∧Loads t.heap F.env z v:=fun z av es e=>by
  by_cases q1:z="host"
  ·exact As (slL.2.1.symm.trans (q1▸e))▸⟨.ref y,(by exact ⟨rfl,rfl⟩),q1▸L2⟩
  by_cases q2:z="tab"
  ·exact As (slL.1.symm.trans (q2▸e))▸⟨.ref x,(by exact ⟨rfl,rfl⟩),q2▸M.ld⟩
  rw [slL.2.2,fZ q1,fZ q2] at e;have q:=M.cx.nm z av (hρ z av q2 q1 ((N_at (c:=nK (Calls (B.w0 w) 20) (aw (B.w0 w) 20) GG scL) (o:=none) es).trans e));have st:=(aZ (c:=nK (Calls (B.w0 w) 20) (aw (B.w0 w) 20) GG scL) (F:=F) so es).2;exact q.ex.imp fun v q=>⟨V.conv (W:=B.w0 w) (fun h=>nomatch h) (fun h=>nomatch h) q.1,q.2.elim id fun g=>st.elim (fun a=>nomatch a.symm.trans g.1) fun a=>nomatch a.1.symm.trans g.1⟩
 have ok:CtOk (B.wd w (vw ([r,i,d]++F.X) t.heap) true true x r i y) (nK (Calls (B.wd w (vw ([r,i,d]++F.X) t.heap) true true x r i y) 20) (aw (B.wd w (vw ([r,i,d]++F.X) t.heap) true true x r i y) 20) GG scL) 20:=ctOk wok scL;have hgo:=go wf (kn:=fun _ _ _ _=>False) (kb:=fun _ _ _ _=>False) (kr:=fun v _=>v=.bool true) fun _=>rfl;have fk:FK (lawFr F (vw ([r,i,d]++F.X) t.heap) x r i d y k0 ap) fun b o=>hb.get? b=some o:=⟨fun o e=>cv (deadX _ (Ak _ F.locX)) e,fun y c e o e'=>cv (deadX _ (Ak _ (F.cellX y c e).1)) e'⟩;refine AC (jX ok (kL ok 40) (F:=lawFr F (vw ([r,i,d]++F.X) t.heap) x r i d y k0 ap) hn so hgo t _ [] t ⟨⟨hp,tZ wok.glob so hp nm,tab⟩,fun _ m=>(nomatch m),.inl ⟨rfl,rfl⟩,rfl,fun b o _ e=>M.cx.hp.base b o e,fk⟩) (fun f s' dn=>?_) fun _ _ e=>e;cases dn with
 | next _ q=>exact q.elim
 | brk _ q=>exact q.elim
 | ret x v q=>exact ⟨congrArg Flow.ret (show _=Value.bool true from (show V _ _ (.bool true) _ from q▸v)),fun b o e=>x.kp b o (fun (hm:b∈[r,i])=>(Ai.mp hm).elim (fun q=>cv (deadX r (.head _)) (q▸e)) fun q=>cv (deadX i (.tail _ (.head _))) (Ae.mp q▸e)) e,x.same⟩
theorem good0:Good T0:=⟨AO _,by decide +kernel⟩
theorem qt {M:Model}{Γ:Ctx}{env:Env}{E:Value→Pos→Shared→Prop}:∀{l r:List Stmt}{s:Shared}{p:Pos}{Q:Flow→Pos→Shared→Prop},
  Sem.wp M Γ (execs l env) (fun f p' s'=>match f with | .next=>Sem.wp M Γ (execs r env) Q E p' s' | f=>Q f p' s') E p s→Sem.wp M Γ (execs (l++r) env) Q E p s
 | [],r,s,p,Q,h=>h
 | st::l,r,s,p,Q,h=>by
  rw [List.cons_append,execs_cons,Sem.wp_bind'];rw [execs_cons,Sem.wp_bind'] at h;refine Sem.wp_mono M Γ _ (fun f p' s' h'=>?_) (fun _ _ _ h=>h) _ _ h;cases f with
  | next=>exact qt h'
  | _=>exact h'
theorem uW {M:Model}{A:Around}{E:Value→Shared→Prop}{env:Env}{l r:List Stmt}{s:Shared}{Q:Flow→Shared→Prop}
  (h:Av M A (execs l env) (fun f s'=>match f with | .next=>Av M A (execs r env) Q E s' | f=>Q f s') E s):Av M A (execs (l++r) env) Q E s:=fun Γ p hΓ=>by
 refine qt (Sem.wp_mono M Γ _ (fun f p' s' h'=>?_) (fun _ _ _ h=>h) _ _ (h Γ p hΓ));cases f with
 | next=>exact h' Γ p' hΓ
 | _=>exact h'
theorem law_call {s:Shared} (B:Bs s.heap) {w:World}{A:Around}{a l:Addr}{vs:List Value}{script:List Int} (hA:AOk 22 A) (ha:B.mg "law"=some (.ref a)) (hl:s.heap.IsList l vs.toArray) (hi:IntsAre vs script) (hn:script.length≤63) :
  codeAny (model theProg w) A (.call (.ref a) ⟨[.ref l],[]⟩) (fun r s'=>r=.ok (.ret (.bool true))∧Up s.heap s'.heap∧s'={ s with heap:=s'.heap,toks:=s'.toks }) s:=by
 have wok:WOk (B.w0 w) GG:=Bs.wok (fun _ _ e=>e) (by decide) (fun h=>nomatch h) (fun h=>nomatch h) (fun h=>nomatch h) fun h=>nomatch h;have fns:FnsOk (B.w0 w) qr:=Bs.fns fun _ _ e=>e;refine bc fun zz=>?_;obtain ⟨a',ha',fn⟩:=fns.fns "law" (aX 143) (by kernel_rfl);refine zz ?_;have haa:a'=a:=(Value.ref.inj (As (ha.symm.trans (lH B.Z ((Bs.fa_place (B:=B) "law" 143 (da (by kernel_rfl))).symm.trans ha'))))).symm;subst haa;refine vm (W:=B.w0 w) (n:=21) (X:=[]) (T:=[]) (avs:=[.olist script]) (vs:=(some (.olist script)::none::none::[none,none,none,none,none,none,none,none,none,none,none,none,none,none,none,none,none,none,none,none,none,none,none,none,none,none,none,none,none,none])) fns.lim fn wok.glob hA (by kernel_rfl)
  (by exact ⟨_,_,rfl,⟨⟨l,_,rfl,hl.imp fun o q=>⟨aJ q.1 fun m=>(nomatch m),q.2⟩,hi⟩,Nat.le_succ_of_le hn⟩,rfl⟩) ⟨fun _ _ e=>e,fun _ m=>(nomatch m),fun _ m=>nomatch m⟩ (fun h=>nomatch h) fun F s₁ en=>?_
 have ok:CtOk (B.w0 w) (nK (Calls (B.w0 w) 20) (aw (B.w0 w) 20) GG scL) 20:=ctOk wok scL;have so:=en.so;rw [(List.take_append_drop 6 (aX 143).body).symm];have h1:=uo (C:=Calls (B.w0 w) 20) (D:=aw (B.w0 w) 20) (T:=[]) (kn:=fun vs k y T=>∃(nums:List Int) (hn:nums.length=16) (m:Nat) (spot:Int) (o:Option AV),1≤m∧m≤5∧0≤spot∧vs=sl0 script nums o (nums[0]'(by omega)) (nums[1]'(by omega)) m spot none none∧T=[]) (kb:=fun _ _ _ _=>False) (kr:=fun _ _=>False) hn fun nums hn m spot o a b c _=>⟨nums,hn,m,spot,o,a,b,c,rfl,rfl⟩;refine uW (AC (jX ok (kL ok 40) en.n so h1 _ _ _ s₁ en.st) (fun f s₂ dn=>?_) fun _ _ e=>e.elim);cases dn with
 | brk _ q=>exact q.elim
 | ret _ _ q=>exact q.elim
 | next x q =>
  refine bc fun zz=>?_;obtain ⟨nums,h16,m,spot,o,m1,m5,sp,zr1,zr2⟩:=q;refine zz ?_;subst zr1;subst zr2;have cx:=x.all;have kb₂:Up s.heap s₂.heap:=cx.hp.base;have hX₂:∀a∈F.X,∃o,s₂.heap.get? a=some o:=fun a m=>(cx.hp.xs a m).2;refine law_mid ((show AOk 21 F.A from en.n▸F.hA).le (by decide)) so cx (by kernel_rfl) (by kernel_rfl) fun ρ' t x' dx r i d k y dy hρ M H nw L2=>?_;refine AC (law_rest en.n so kb₂ hρ M H nw hX₂ L2 fun wf kn kb kr fin=>law_walk wf (n:=0) (k:=0) h16 ⟨m1,m5⟩ sp ⟨good0,by decide +kernel⟩ fin) (fun f s' q=>?_) fun _ _ e=>e;refine bc fun zz=>?_;obtain ⟨zr3,k1,e⟩:=q;refine zz ?_;subst zr3;refine ⟨rfl,k1,?_⟩;rw [M.same,x.same] at e;exact e
end
theorem boot_ns (P:Params):(boot_heap P).isNs Bl=true:=by kernel_rfl
theorem rT (P:Params):absHeap (vG (boot_heap P).objs.toList 0 .nil) (boot_heap P).objs.size (boot_heap P).life=boot_heap P:=by kernel_rfl
theorem boot_row:∀w:World,(fencedOpening treeTable theRow.prog w 9768).map (fun s=>(s.heap,s.gens,s.drawn,s.toks))=some (boot_heap w.params,Array.mk [],boot_drawn,boot_toks) :=
 boot_open (by rfl) (by decide) (fun s=>by rfl)
theorem ni {w:World}{os:OsState}{f:Bool} (h:(ol (w.withFollow "special-get-raises" f) (boot_heap w.params) os).map (fun S=>kh (boot_heap w.params) S.abs)=some (true,openGood qv lv,ch)) :
  (topFrom treeTable theRow.prog (w.withFollow "special-get-raises" f) 9768 ⟨boot_heap w.params,Array.mk [],boot_drawn,boot_toks,os⟩).map (fun s=>(openSeen qv lv (importedModules theRow.prog.main.body) (fun s=>recOk theRow.records s) true s,eI (dump s.heap)))=some (openGood qv lv,ch):=by
 obtain ⟨S,h1,h2⟩:=Bc.mp h;have h3:=gx h1;have e0:SharedT.abs ⟨vG (boot_heap w.params).objs.toList 0 .nil,(boot_heap w.params).objs.size,(boot_heap w.params).life,#[],boot_drawn,boot_toks,os⟩=⟨boot_heap w.params,Array.mk [],boot_drawn,boot_toks,os⟩ :=
  congrArg (fun h=>Shared.mk h (Array.mk []) boot_drawn boot_toks os) (rT w.params)
 rw [e0] at h3;unfold topFrom;have c1:((⟨boot_heap w.params,Array.mk [],boot_drawn,boot_toks,os⟩:Shared).heap.isNs Bl && (⟨boot_heap w.params,Array.mk [],boot_drawn,boot_toks,os⟩:Shared).gens.size == 0)=true:=by
  rw [Ay];exact ⟨boot_ns _,rfl⟩
 rw [c1];dsimp only;rw [h3];obtain ⟨g1,g2⟩:=Prod.mk.inj h2;rw [Option.bind_some,g1];exact congrArg some g2
theorem left:LeftO theRow.prog qv lv (fun s=>recOk theRow.records s) (fun s=>eI (dump s.heap)) (fun _=>ch) 9768:=by
 refine LeftO.of_split "special-get-raises" fun w=>?_;obtain ⟨⟨h,g,d,t,os⟩,h1,h2⟩:=Bc.mp (boot_row w);have q1:h=boot_heap w.params:=congrArg (fun x=>x.1) h2;have q2:g=Array.mk []:=congrArg (fun x=>x.2.1) h2;have q3:d=boot_drawn:=congrArg (fun x=>x.2.2.1) h2;have q4:t=boot_toks:=congrArg (fun x=>x.2.2.2) h2;rw [q1,q2,q3,q4] at h1;rw [h1,CA,ni (run_f w os),ni (run_t w os)]
noncomputable def YP (_:World) (h:Heap):Prop:=∃K:Frag,K.In h∧eI K=ch
theorem rS:AOk 22 callerA:=⟨rfl,by decide,by decide⟩
set_option maxHeartbeats 4000000 in
set_option tactic.hygienic true in
theorem law_row:∀d kwd,PySem.W.defOf qv theRow.name=some (d,kwd)→WalkO qv lv (fun _ _=>True) YP theRow.toRowW d kwd fun f vs=>PySem.call f vs:=by
 intro d kwd hdef w s₀ s₁ mg mb G Y fa o pm cd doc dV kV ho hd hcd hD hmg hg args vals as hpre hlay hrd hwl hlo;obtain ⟨K,inn,look⟩:=Y;have Z:Txt K mg mb s₁.heap:=⟨inn,look,G.T.g,G.T.b,G.T.builtins,G.T.nolimit⟩;have TE:=G.TE;rw [show looseW qv lv=lv by kernel_rfl] at TE;obtain ⟨B,hB⟩:=bs_of Z TE;rw [show d.name="law" from defOf_name hdef] at hmg;have rets:∀{ns:List Int}{s':Shared},Up s₁.heap s'.heap∧s'={ s₁ with heap:=s'.heap,toks:=s'.toks } →
   GoodWG theRow.claim (classAt s₀.heap) (ExcName.means s₀.heap) [ofPy (PyData.list (ns.map PyData.int))] s₁ (.ok (.ret (.bool true))) s':=by
  intro ns s' ⟨k,e⟩;refine GoodW.toG ⟨.inl ⟨.bool true,.bool true,[],rfl,raisesW_false (fun ct h=>nomatch h),.bool _,?_,fun _=>⟨.nil,fun _ h=>nomatch h⟩⟩,k,?_,?_⟩
  ·refine postW_of (by wrow_shape) (by wtm_val) ?_
   w_fin
  ·rw [e]
  ·rw [e];exact hg
 wrow_args hpre hlay hrd hwl hlo
 rename_i ns _ _ _ _ _ _ _ l vs _ hL _ _ _ hI _ hlen _;have hn:ns.length≤63:=by omega
 refine enter_call (codeAny_mono (law_call B (w:=w) rS (hB▸hmg) hL hI hn) fun r s' h=>?_);obtain ⟨rfl,h⟩:=h;exact rets h
noncomputable def theD:DefRec×List (Str×Expr):=match PySem.W.defOf qv theRow.name with
 | some x=>x
 | none=>⟨⟨"",⟨[],[],none,[],[],none,[]⟩,[],default,default⟩,[]⟩
set_option maxHeartbeats 4000000 in
set_option tactic.hygienic true in
theorem the_claim:PySem.Challenge.rw_pc0110_01.Holds:=by
 w_on
 refine holds_law said fun said=>?_;refine holds_open (d:=theD.1) (kwd:=theD.2) (q:=qv) (loose:=lv) (Xt:=fun s=>recOk theRow.records s) (XP:=fun _ _=>True) (Yf:=fun s=>eI (dump s.heap)) (Ya:=fun _=>ch) (YP:=YP) (N:=9768) left (fun _ s e=>⟨dump s.heap,dump_in s.heap,e⟩) (fun _ _ _ h k=>let ⟨K,i,l⟩:=h;⟨K,i.keeps k,l⟩) (fun _ _=>trivial) (fun _ _ _ h _=>h) (by kernel_rfl) (by kernel_rfl) (by kernel_rfl) (fun s e=>recFacts_of e) (by rfl) (by first | assumption | decide +kernel) (by decide +kernel) ⟨rfl,rfl,rfl,rfl,rfl,by decide +kernel⟩ ?hw ?hc
 case hw=>w_witness2
 case hc=>exact law_row _ _ (by kernel_rfl)
end Mine
theorem PySem.Challenge.cw_pc0110_01_holds : PySem.Challenge.rw_pc0110_01.Holds :=
 Mine.the_claim
