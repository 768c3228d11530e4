import PyProof.Rows.All
import Wide.All
import OpenK.AllK
import Wide.FinOn
import HandS.ForMost
import HandS.IsInst
import HandS.StrMore
import HandS.More
import HandS.Codes
import HandS.Flow
import HandS.Style
import HandS.Walk
import HandS.RaiseMore
import HandS.Defaults
import HandS.Evl
import HandS.ReplaceLit
import HandS.ReplaceList
import HandS.ReplaceDef
import HandS.ForExc
import HandS.CallSlots
import HandS.TupAny
import HandS.Lambda
import HandS.Wide
import HandS.ExcInit
import HandS.ExcField
import HandS.ExcIs
import KE.GoesMore
import KE.KIntText
import PyProof.Rows.StrOr
import PyProof.Rows.Digits
import HandS.Replace
import HandS.Property
import HandS.Zip
import HandS.TupLe
import PyProof.DefCall
import HandS.ClsMeth
import HandS.EndTab
import HandS.HeadWalk
import PySem.Challenge.RW_anchorpages_k61_whole_numbers_near_nough
set_option Elab.async false
set_option linter.all false
set_option maxRecDepth 100000
set_option maxHeartbeats 4000000
namespace Ap
open PySem PySem.Spec PyProof.Rows L2 SX
theorem Qx {H : Hp} {p : Addr} {o : HO} (h : H p = none) : Same H (upd H p o) := fun b x e => by
  rw [upd_ne (ne_of_none e h)]
  exact e
theorem Za6 {H H' : Hp} {p : Addr} {o : HO} (s : Same H H') (h : H p = none) : Same H (upd H' p o) := fun b x e => by
  rw [upd_ne (ne_of_none e h)]
  exact s b x e
theorem ifT {b : Bool} {A B : Prop} (hb : b = true) (h : A) : if b = true then A else B := by
  rw [if_pos hb]; exact h
theorem ifF {b : Bool} {A B : Prop} (hb : b = false) (h : B) : if b = true then A else B := by
  rw [if_neg (by rw [hb]; exact Bool.false_ne_true)]; exact h
theorem ifB {b : Bool} {A B : Prop} (h1 : b = true → A) (h2 : b = false → B) : if b = true then A else B := by
  cases b with
  | true => exact ifT rfl (h1 rfl)
  | false => exact ifF rfl (h2 rfl)
theorem Zc5 {J : It} {n : Nat} {G : Hp → Prop} {Y : Nat → Hp → V → Hp → Prop} (w : Walk J n G Y) {g : TG} {tt : TT} {te : TE} {vs : List Nat} {σ : L2.St} {H1 : Hp} {D : Addr} {Qd : Hp → Prop} (hD : H1 D = none)
    (ys : Nat → List V) (hG : ∀ H,Same H1 H → G H) (hz : n ≤ 100000)
    (hs : ∀ i x H H' (R : V → Hp → Prop) (S : Hp → Prop), i < n → Same H1 H → Y i H x H' → (∀ y H4, ys i = [y] → Same H H4 → R y H4) → (∀ H3, ys i = [] → Same H H3 → S H3) →
      g x (wipe σ vs) H' fun σ2 H2 => wipe σ2 vs = wipe σ vs ∧ tt σ2 H2 fun b H3 => if b = true then te σ2 H3 R else S H3)
    (hd : ∀ H,Same H1 H → H D = some (.lst ((List.range n).flatMap ys)) → Qd H) :
    ∃ W : Nat → Nat → Hp → Prop,(∃ m,W 0 m (upd H1 D (.lst []))) ∧ ∀ i m H,W i m H →
      (J.stop i H ∧ Qd H) ∨ (J.go i H ∧ ∃ Nx : Hp → Prop, (∀ H', Nx H' → ∃ m', m' < m ∧ W (i + 1) m' H') ∧ ∀ x H', J.yld i H x H' → g x (wipe σ vs) H' fun σ2 H2 => wipe σ2 vs = wipe σ vs ∧ tt σ2 H2 fun b H3 =>
        if b = true then te σ2 H3 fun y H4 => ∃ acc,H4 D = some (.lst acc) ∧ acc.length < sizeLine ∧ Nx (upd H4 D (.lst (acc ++ [y]))) else Nx H3) := by
  refine lc_it w (fun i H => i ≤ n ∧ Same H1 H ∧ ((List.range i).flatMap ys).length ≤ i ∧ H D = some (.lst ((List.range i).flatMap ys))) ⟨Nat.zero_le _, Qx hD, Nat.le_refl _, upd_same⟩ (fun i H _ p => hG H p.2.1) (fun i x H H' hi p y => ?_) (fun H p => hd H p.2.1 p.2.2.2)
  obtain ⟨p1,p2,p3,p4⟩ := p
  refine hs i x H H' _ _ hi p2 y (fun v H4 e z => ?_) (fun H3 e z => ?_)
  · refine ⟨_,z _ _ p4,Nat.lt_of_le_of_lt p3 (Nat.lt_of_lt_of_le (Nat.lt_of_lt_of_le hi hz) (by decide)),hi,Za6 (p2.trans z) hD,?_,?_⟩
    · rw [List.range_succ,List.flatMap_append,List.length_append]
      have : (List.flatMap ys [i]).length = 1 := by simp [e]
      omega
    · rw [upd_same,List.range_succ,List.flatMap_append]
      simp [e]
  · refine ⟨hi,p2.trans z,?_,?_⟩
    · rw [List.range_succ,List.flatMap_append,List.length_append]
      have : (List.flatMap ys [i]).length = 0 := by simp [e]
      omega
    · rw [z _ _ p4,List.range_succ,List.flatMap_append]
      simp [e]
def atF {α β : Type} (f : α → List β) (l : List α) (i : Nat) : List β := (l[i]?.map f).getD []
theorem Z6m {α β : Type} {f : α → List β} {l : List α} {i : Nat} {a : α} (h : l[i]? = some a) : atF f l i = f a := by
  unfold atF; rw [h]; rfl
theorem flat_at {α β : Type} (f : α → List β) : ∀ l : List α,(List.range l.length).flatMap (atF f l) = l.flatMap f
  | [] => rfl
  | a :: l => by
    rw [List.length_cons,List.range_succ_eq_map,List.flatMap_cons,List.flatMap_map,List.flatMap_cons,← flat_at f l]
    rfl
theorem Zc6 {l : List Nat} {g : TG} {tt : TT} {te : TE} {vs : List Nat} {σ : L2.St} {H1 : Hp} {D : Addr} {Qd : Hp → Prop} (hD : H1 D = none) (f : Nat → List V) (hz : l.length ≤ 100000)
    (hs : ∀ c H (R : V → Hp → Prop) (S' : Hp → Prop), c ∈ l → Same H1 H → (∀ y H4, f c = [y] → Same H H4 → R y H4) → (∀ H3, f c = [] → Same H H3 → S' H3) →
      g (.str (S [c])) (wipe σ vs) H fun σ2 H2 => wipe σ2 vs = wipe σ vs ∧ tt σ2 H2 fun b H3 => if b = true then te σ2 H3 R else S' H3)
    (hd : ∀ H,Same H1 H → H D = some (.lst (l.flatMap f)) → Qd H) :
    ∃ W : Nat → Nat → Hp → Prop,(∃ m,W 0 m (upd H1 D (.lst []))) ∧ ∀ i m H,W i m H →
      ((Its (S l)).stop i H ∧ Qd H) ∨ ((Its (S l)).go i H ∧ ∃ Nx : Hp → Prop, (∀ H', Nx H' → ∃ m', m' < m ∧ W (i + 1) m' H') ∧ ∀ x H', (Its (S l)).yld i H x H' → g x (wipe σ vs) H' fun σ2 H2 => wipe σ2 vs = wipe σ vs ∧ tt σ2 H2 fun b H3 =>
        if b = true then te σ2 H3 fun y H4 => ∃ acc,H4 D = some (.lst acc) ∧ acc.length < sizeLine ∧ Nx (upd H4 D (.lst (acc ++ [y]))) else Nx H3) := by
  have hn : (S l).cps.size = l.length := by simp [S]
  refine Zc5 (walk_str (z := S l)) hD (atF f l) (fun _ _ => trivial) (by rw [hn]; exact hz) (fun i x H H' R S' hi sm y hR hS => ?_) (fun H sm h => hd H sm ?_)
  · obtain ⟨rfl,c,hc,rfl⟩ := y
    have hc' : l[i]? = some c := by simpa [S] using hc
    refine hs c H' R S' (List.mem_of_getElem? hc') sm (fun v H4 e => hR v H4 ?_) (fun H3 e => hS H3 ?_)
    · rw [Z6m hc']; exact e
    · rw [Z6m hc']; exact e
  · rw [h,hn,flat_at]
def GTup (K : PySem.W.Frag) (mg : Str → Option Value) (x : Str) (xs : List V) : Prop := ∃ a,mg x = some (.ref a) ∧ ∀ H,SqT K H a xs
def GStr (mg : Str → Option Value) (x : Str) (l : List Nat) : Prop := ∃ t,mg x = some (.str (S l) t)
def GDic (K : PySem.W.Frag) (w : World) (mg : Str → Option Value) (x : Str) (kvs : List (List Nat × List Nat)) (no : List (List Nat)) : Prop :=
  ∃ a es n,mg x = some (.ref a) ∧ KDict K w a es n ∧ (∀ p ∈ kvs,∃ t,PySem.W.nsIn K a (S p.1) = some (some (.str (S p.2) t))) ∧ ∀ z ∈ no,PySem.W.nsIn K a (S z) = some none
theorem fin {Q : VK} {H H' : Hp} {b b' : Bool} (q : ∀ H', Same H H' → Q (.bl b) H') (sm : Same H H') (e : b' = b) : Q (.bl b') H' := by
  rw [e]; exact q H' sm
def cutL {α : Type} (l : List α) (lo hi : Option Int) : List α := (l.drop (HT.sIx l.length 0 lo)).take (HT.sIx l.length l.length hi - HT.sIx l.length 0 lo)
theorem Ze2 (l : List Nat) (lo hi : Option Int) : cutS (S l) lo hi = S (cutL l lo hi) := rfl
theorem Z3j {α : Type} (l : List α) (n : Nat) : cutL l (some (n : Int)) none = l.drop n := by
  unfold cutL
  rw [HT.sIx_nat,HT.sIx_none]
  by_cases h : n ≤ l.length
  · rw [Nat.min_eq_left h,List.take_of_length_le (by rw [List.length_drop]; exact Nat.le_refl _)]
  · rw [Nat.min_eq_right (by omega),List.drop_of_length_le (Nat.le_refl _),List.drop_of_length_le (by omega)]
    exact List.take_nil
theorem szS {l : List Nat} (h : l.length ≤ 100000) : (S l).length ≤ sizeLine := by
  rw [S_len]; exact Nat.le_trans h (by decide)
theorem szA {a b : List Nat} (h : a.length + b.length ≤ 100000) : (S a).length + (S b).length ≤ sizeLine := by
  rw [S_len,S_len]; exact Nat.le_trans h (by decide)
theorem decS (a b : List Nat) : decide (V.str (S a) = V.str (S b)) = decide (a = b) := by
  by_cases h : a = b
  · rw [h,decide_eq_true rfl,decide_eq_true rfl]
  · rw [decide_eq_false h,decide_eq_false fun e => h (S_inj (V.str.inj e))]
theorem Ze3 (a b : List Nat) : eqV (.str (S a)) (.str (S b)) = decide (b = a) := by
  show (S a == S b) = _
  rw [S_beq_eq]
  by_cases h : a = b
  · rw [decide_eq_true h,decide_eq_true h.symm]
  · rw [decide_eq_false h,decide_eq_false (Ne.symm h)]
section
variable {X : Cx} (K : PySem.W.Frag)
theorem U7 (h : X.K = K := by rfl) : OpR X (compareOp .In) (rIn K false) := h ▸ op_in_seq
theorem Z1v (h : X.K = K := by rfl) : IxR X (rIxT K) := h ▸ ix_tup
theorem Zc7 (hc : X.calm = true) (h : X.K = K := by rfl) : CallR X (.builtin "all") (rAll K) := h ▸ cr_all hc
end
abbrev rInSign : R2 := fun x y H Q => ∃ (c : Nat) (z : Str),x = .str ⟨#[c]⟩ ∧ y = .str z ∧ Q (.bl (decide (c ∈ z.cps.toList))) H
theorem Zc8 {H : Hp} {c : Nat} {z : List Nat} : Evl.RV rInSign (.str (S [c])) (.str (S z)) H (.bl (decide (c ∈ z))) := fun H1 _ _ q => ⟨c,S z,rfl,rfl,q H1 (Evl.Ex.refl H1)⟩
theorem Z6n {K : PySem.W.Frag} {to te : TE} {σ : L2.St} {H : Hp} {z : Str} {y v : V} {r : V → List V → Hp → VK → Prop} (ho : Evl.Ev to σ H (.str z)) (he : Evl.Ev te σ H y) (hr : ∀ H1,Same H H1 → ∀ Q : VK,Q v H1 → r (.str z) [y] H1 Q) :
    Evl.Ev (tBM K "str" r to (tCons te tNil)) σ H v := fun H1 e Q q => ho H1 e _ fun H2 e2 => ⟨rfl, he H2 (e.trans e2) _ fun H3 e3 => hr H3 ((e.trans e2).trans e3) Q (q H3 (e2.trans e3))⟩
abbrev rAddS : R2 := fun x y H Q => ∃ i j,x = .str i ∧ y = .str j ∧ i.length + j.length ≤ sizeLine ∧ Q (.str (i ++ j)) H
theorem Ji {H : Hp} {a b : List Nat} (h : a.length + b.length ≤ 100000) : Evl.RV rAddS (.str (S a)) (.str (S b)) H (.str (S (a ++ b))) := fun H1 _ _ q =>
  ⟨S a,S b,rfl,rfl,szA h,by rw [S_cat]; exact q H1 (Evl.Ex.refl H1)⟩
theorem Zc9 (a : List Nat) (ps : List (List Nat)) : inV (.str (S a)) (ps.map fun x => V.str (S x)) = decide (a ∈ ps) := by
  induction ps with
  | nil => rfl
  | cons p ps ih =>
    show (eqV (.str (S p)) (.str (S a)) || inV (.str (S a)) (ps.map fun x => V.str (S x))) = _
    rw [ih,Ze3]
    by_cases h : a = p <;> simp [h]
def SameX (a : Addr) (H H' : Hp) : Prop := ∀ b o, b ≠ a → H b = some o → H' b = some o
theorem SameX.refl (a : Addr) (H : Hp) : SameX a H H := fun _ _ _ h => h
theorem SameX.of {a : Addr} {H H' : Hp} (s : Same H H') : SameX a H H' := fun b o _ h => s b o h
theorem SameX.trans {a : Addr} {H H1 H2 : Hp} (s : SameX a H H1) (t : SameX a H1 H2) : SameX a H H2 := fun b o n h => t b o n (s b o n h)
theorem SameX.upd {a : Addr} {H H' : Hp} {o : HO} (s : SameX a H H') : SameX a H (L2.upd H' a o) := fun b u n h => by
  rw [upd_ne n]; exact s b u n h
theorem SameX.thn {a : Addr} {H H1 H2 : Hp} (s : SameX a H H1) (t : Same H1 H2) : SameX a H H2 := s.trans (.of t)
theorem SameX.seqL {K : PySem.W.Frag} {a b : Addr} {H H' : Hp} {xs : List V} (s : SameX a H H') (hn : b ≠ a) (h : SqL K H b xs) : SqL K H' b xs := by
  rcases h with (h | ⟨o,h⟩) | h
  · exact .inl (.inl (s _ _ hn h))
  · exact .inl (.inr ⟨o,s _ _ hn h⟩)
  · exact .inr h
def StOk (ns : List Int) : Prop := ns.length = 3
def DrAt (a : Addr) (H : Hp) : Prop := ∃ ns : List Int,H a = some (.lst (ns.map V.int)) ∧ StOk ns
theorem DrAt.same {a : Addr} {H H' : Hp} (d : DrAt a H) (s : Same H H') : DrAt a H' := let ⟨ns, h, k⟩ := d; ⟨ns, s _ _ h, k⟩
theorem DrAt.ne {a p : Addr} {H : Hp} (d : DrAt a H) (h : H p = none) : p ≠ a := fun e => by
  obtain ⟨ns,ha,_⟩ := d
  rw [e,ha] at h; cases h
theorem DrAt.upd {a p : Addr} {H : Hp} {o : HO} (d : DrAt a H) (h : p ≠ a) : DrAt a (upd H p o) := by
  obtain ⟨ns,ha,k⟩ := d
  exact ⟨ns,by rw [upd_ne (Ne.symm h)]; exact ha,k⟩
theorem SameX.new {a p : Addr} {H H' : Hp} {o : HO} (s : SameX a H H') (h : H' p = none) : SameX a H (L2.upd H' p o) := s.thn (Qx h)
theorem SameX.mut {a p : Addr} {H H' : Hp} {o : HO} (s : SameX a H H') (h : H p = none) : SameX a H (L2.upd H' p o) := fun b u n e => by
  rw [upd_ne (ne_of_none e h)]; exact s b u n e
end Ap
set_option maxHeartbeats 4000000
namespace Ap
open PySem PySem.Spec PyProof.Rows L2 SX
structure GOk (P : Program) (w : World) (K : PySem.W.Frag) (mg : Str → Option Value) (base : Heap) (C : CXT) (k : Nat)
    (f : Addr) (fd : FuncData) (ps : List Str) (sp : Sp) : Prop where
  len : ∀ vs H Q E,sp vs H Q E → vs.length = ps.length
  run : ∀ (A : Around) (outer : List Env) (s : Shared) (H : Hp) (as : Args) (us : List Value) (vs : List V) (Q : VK) (E : XK),
    Room k A → A.guards = some [] → Env0 P w K mg base A outer s H → BindsTo s fd as (ps.zip us) → Vals vs us →
    sp vs H Q E → codeAny (model P w) A (.call (.ref f) as) (CR C outer P w H s Q E) s
theorem GOk.of {P : Program} {w : World} {K : PySem.W.Frag} {mg : Str → Option Value} {base : Heap} {C : CXT} {k : Nat}
    {f : Addr} {fd : FuncData} {ps : List Str} {sp : Sp} (F : FnOk P w K mg base C k f fd ps sp) : GOk P w K mg base C k f fd ps sp :=
  ⟨F.len,fun A outer s H as us vs Q E r _ => F.run A outer s H as us vs Q E r⟩
end Ap
set_option maxHeartbeats 4000000
namespace Ap
open PySem PySem.Spec PyProof.Rows L2 SX
def repL (n : Nat) (l : List Nat) : List Nat := (List.replicate n l).flatten
theorem Z6o (a : Array Nat) : ∀ (n : Nat) (b : Array Nat),((List.replicate n a).foldl (· ++ ·) b).toList = b.toList ++ repL n a.toList
  | 0,b => by simp [repL]
  | n + 1,b => by
    rw [List.replicate_succ,List.foldl_cons,Z6o a n]
    unfold repL
    rw [List.replicate_succ,List.flatten_cons,Array.toList_append,List.append_assoc]
theorem Za7 (n : Nat) : repL n [] = [] := by
  induction n with
  | zero => rfl
  | succ n ih => unfold repL at *; rw [List.replicate_succ,List.flatten_cons,ih]; rfl
theorem Z1p (c n : Nat) : repL n [c] = List.replicate n c := by
  induction n with
  | zero => rfl
  | succ n ih => unfold repL at *; rw [List.replicate_succ,List.flatten_cons,ih]; rfl
theorem Za8 (n : Nat) (l : List Nat) : (repL n l).length = n * l.length := by
  induction n with
  | zero => simp [repL]
  | succ n ih => unfold repL at *; rw [List.replicate_succ,List.flatten_cons,List.length_append,ih,Nat.succ_mul,Nat.add_comm]
def rMulS : R2 := fun x y H Q => ∃ (l : List Nat) (k : Int),x = .str (S l) ∧ y = .int k ∧ -100000 ≤ k ∧ k ≤ 100000 ∧ l.length * k.toNat ≤ 100000 ∧ Q (.str (S (repL k.toNat l))) H
theorem Z7m {X : Cx} : OpR X (binaryOp .Mult) rMulS := by
  intro pins s σ H x y v u Q I rx ry h
  obtain ⟨l,k,rfl,rfl,k0,k1,hz,q⟩ := h
  obtain ⟨t,rfl⟩ := rx
  obtain ⟨t2,rfl⟩ := ry
  have hl : (S l).length = l.length := S_len l
  refine PySem.P.mul_str ?_ (fun h1 h2 => ?_) (fun h1 h2 => ?_) ?_
  · rw [decide_eq_false (by omega),decide_eq_false (by omega)]; rfl
  · rw [hl]
    obtain ⟨m,rfl⟩ : ∃ m : Nat,k = (m : Int) := ⟨k.toNat,by omega⟩
    have hm : 0 < m := by omega
    have : l.length ≤ 100000 := by
      have : l.length * 1 ≤ l.length * m := Nat.mul_le_mul_left _ hm
      simp only [Int.toNat_natCast] at hz
      omega
    have h3 : (100000 : Int) ≤ (2 ^ 63 - 1) / (m : Int) := by
      rw [Int.le_ediv_iff_mul_le (by omega)]
      have : (m : Int) ≤ 100000 := k1
      omega
    omega
  · rw [hl]
    unfold Builtin.Str.tooLong
    exact decide_eq_false (by have := sizeLine_eq; omega)
  · by_cases h1 : k < 1
    · rw [if_pos h1]
      have e : k.toNat = 0 := by omega
      rw [e] at q
      exact ⟨by decide,⟨.str (S []),H,I.tok _,⟨_,rfl⟩,q⟩⟩
    · rw [if_neg h1]
      by_cases h2 : (k == 1 || (S l).length == 0) = true
      · rw [if_pos h2]
        have e : repL k.toNat l = l := by
          rw [hl,Bool.or_eq_true,beq_iff_eq,beq_iff_eq] at h2
          rcases h2 with rfl | h2
          · show repL 1 l = l
            simp [repL]
          · rw [List.length_eq_zero_iff.mp h2]; exact Za7 _
        rw [e] at q
        exact ⟨.str (S l),H,I,⟨t,rfl⟩,q⟩
      · rw [if_neg h2]
        have e : (⟨(List.replicate k.toNat (S l).cps).foldl (· ++ ·) #[]⟩ : Str) = S (repL k.toNat l) := by
          have := Z6o (S l).cps k.toNat #[]
          rw [show (S l).cps.toList = l from rfl] at this
          show Str.mk _ = Str.mk _
          congr 1
          apply Array.ext'
          rw [this]; rfl
        rw [e]
        refine ⟨?_,⟨.str _,H,I.tok _,⟨_,rfl⟩,q⟩⟩
        rw [S_len,Za8,Nat.mul_comm]
        have := sizeLine_eq
        omega
end Ap
set_option maxHeartbeats 4000000
namespace Ap
open PySem PySem.Spec PyProof.Rows L2 SX
theorem Z49 {α : Type} (f : α → Bool) (v : α → V) : ∀ l : List α,l.flatMap (fun x => if f x = true then [v x] else []) = (l.filter f).map v
  | [] => rfl
  | a :: l => by
    rw [List.flatMap_cons,Z49 f v l,List.filter_cons]
    split <;> simp
theorem Za9 {α : Type} (l : List α) : l.filter (fun _ => true) = l := by simp
abbrev txs (ys : List (List Nat)) : List V := ys.map fun y => V.str (S y)
theorem txs_S (ys : List (List Nat)) : txs ys = (ys.map S).map V.str := by
  unfold txs
  rw [List.map_map]; rfl
theorem wipe1 (j : Nat) (σ : L2.St) (x : V) : wipe ((wipe σ [j]).set j (some x)) [j] = wipe σ [j] := by
  simp [wipe,List.set_set]
section
variable {K : PySem.W.Frag} {σ : L2.St} {H : Hp} {ta tb te tl : TE} {tt : TT} {j : Nat} {vs : List Nat}
theorem Ze4 : Evl.EvT tYes σ H true := fun H1 _ _ q => q H1 (Evl.Ex.refl H1)
theorem Zca {α : Type} {f : α → Bool} {v : α → V} {a : α} {x : V} {H1 H3 : Hp} {R : V → Hp → Prop} {S' : Hp → Prop} (e1 : Same H H1) (s3 : Same H1 H3)
    (hw : wipe ((wipe σ vs).set j (some x)) vs = wipe σ vs) (ht : Evl.EvT tt ((wipe σ vs).set j (some x)) H (f a)) (he : f a = true → Evl.Ev te ((wipe σ vs).set j (some x)) H (v a))
    (hR : ∀ y H4, (if f a = true then [v a] else []) = [y] → Same H3 H4 → R y H4) (hS : ∀ H4, (if f a = true then [v a] else []) = [] → Same H3 H4 → S' H4) :
    gName j x (wipe σ vs) H3 fun σ2 H2 => wipe σ2 vs = wipe σ vs ∧ tt σ2 H2 fun b H5 => if b = true then te σ2 H5 R else S' H5 := by
  refine ⟨hw,ht H3 (Same.trans e1 s3) _ ?_⟩
  intro H4 e4
  refine ifB (fun hf => ?_) (fun hf => ?_)
  · exact he hf H4 (Same.trans (Same.trans e1 s3) e4) _ fun H5 e5 => hR _ _ (if_pos hf) (Same.trans e4 e5)
  · exact hS _ (if_neg (by rw [hf]; exact Bool.false_ne_true)) e4
theorem Ze5 {l : List Nat} (f : Nat → Bool) (v : Nat → V) (h : Evl.Ev tl σ H (.str (S l))) (hz : l.length ≤ 100000) (hw : ∀ x,wipe ((wipe σ vs).set j (some x)) vs = wipe σ vs)
    (ht : ∀ c ∈ l,Evl.EvT tt ((wipe σ vs).set j (some (.str (S [c])))) H (f c)) (he : ∀ c ∈ l,f c = true → Evl.Ev te ((wipe σ vs).set j (some (.str (S [c])))) H (v c)) :
    Evl.EvL (tLc (iStr tl) (gName j) tt te vs) σ H ((l.filter f).map v) := by
  intro H1 e Q q
  refine h H1 e _ fun H2 e2 => ⟨_,rfl,fun D hD => ?_⟩
  refine Zc6 hD (fun x => if f x = true then [v x] else []) hz (fun c H3 R S' hc s3 hR hS => Zca (f := f) (v := v) (Same.trans e e2) s3 (hw _) (ht c hc) (he c hc) hR hS) (fun H3 s3 hd => ?_)
  rw [Z49] at hd
  exact q D H3 (Evl.fresh_back e2 hD) (Same.trans e2 s3) hd
theorem Ze6 {l : List Nat} {to th : TO} {lo hi : Option Int} (h : Evl.Ev te σ H (.str (S l))) (h1 : Evl.EvO to σ H lo) (h2 : Evl.EvO th σ H hi) (hz : l.length ≤ 100000) : Evl.Ev (tSl rSlS te to th) σ H (.str (S (cutL l lo hi))) := fun H1 e Q q =>
  h H1 e _ fun H2 e2 => h1 H2 (e.trans e2) _ fun H3 e3 => h2 H3 ((e.trans e2).trans e3) _ fun H4 e4 => ⟨S l,rfl,szS hz,q H4 ((e2.trans e3).trans e4)⟩
abbrev rLenStr : List V → Hp → VK → Prop := fun xs H Q => ∃ z : Str,xs = [.str z] ∧ z.length ≤ sizeLine ∧ Q (.int z.length) H
theorem Z3k {l : List Nat} (h : Evl.Ev te σ H (.str (S l))) (hz : l.length ≤ 100000) : Evl.Ev (tCB rLenStr (tCons te tNil)) σ H (.int (l.length : Int)) := fun H1 e Q q =>
  h H1 e _ fun H2 e2 => ⟨S l,rfl,szS hz,by rw [S_len]; exact q H2 e2⟩
theorem Ze7 {bs : List Bool} (h : Evl.EvL te σ H (bs.map V.bl)) : Evl.Ev (tCB (rAll K) (tCons te tNil)) σ H (.bl (bs.all id)) := fun H1 e Q q =>
  h H1 e _ fun p H2 _ e2 h2 => ⟨p,bs,rfl,SqL.of h2,q H2 e2⟩
end
end Ap
set_option maxHeartbeats 4000000
namespace Ap
open PySem PySem.Spec PyProof.Rows L2 SX
def rst (c : Nat) (l : List Nat) : List Nat := l.take (l.length - (l.reverse.takeWhile (· == c)).length)
def lst (c : Nat) (l : List Nat) : List Nat := l.drop (l.takeWhile (· == c)).length
theorem has1 (c : Nat) : (S [c]).cps.contains = (· == c) := by
  funext d
  by_cases h : d = c <;> simp [S,h]
theorem Z6p (c : Nat) (l : List Nat) : Txt.rstripChars (S l) (S [c]) = S (rst c l) := by
  have hlo : PySem.stripLo (· == c) false (S l) = 0 := rfl
  have hhi : PySem.stripHi (· == c) true (S l) 0 = l.length - (l.reverse.takeWhile (· == c)).length := by
    show (S l).length - ((l.drop 0).reverse.takeWhile (· == c)).length = _
    rw [S_len,List.drop_zero]
  unfold Txt.rstripChars Txt.stripBy
  rw [has1]
  by_cases h : PySem.stripSame (· == c) false true (S l) = true
  · rw [if_pos h]
    unfold PySem.stripSame at h
    rw [hlo,hhi,S_len,Bool.and_eq_true,beq_iff_eq,beq_iff_eq] at h
    unfold rst
    rw [h.2,List.take_of_length_le (Nat.le_refl _)]
  · rw [if_neg h]
    refine TL.ext_tl ?_
    unfold PySem.stripped
    rw [TL.tl_strSub,hlo,hhi]
    show (l.drop 0).take (_ - 0) = _
    rw [List.drop_zero,Nat.sub_zero]; rfl
theorem Zaa (c : Nat) (l : List Nat) : Txt.lstripChars (S l) (S [c]) = S (lst c l) := by
  have hlo : PySem.stripLo (· == c) true (S l) = (l.takeWhile (· == c)).length := rfl
  have hhi : ∀ k,PySem.stripHi (· == c) false (S l) k = l.length := fun k => S_len l
  unfold Txt.lstripChars Txt.stripBy
  rw [has1]
  by_cases h : PySem.stripSame (· == c) true false (S l) = true
  · rw [if_pos h]
    unfold PySem.stripSame at h
    rw [hlo,Bool.and_eq_true,beq_iff_eq] at h
    unfold lst
    rw [h.1,List.drop_zero]
  · rw [if_neg h]
    refine TL.ext_tl ?_
    unfold PySem.stripped
    rw [TL.tl_strSub,hlo,hhi]
    show (l.drop _).take _ = _
    rw [List.take_of_length_le (by rw [List.length_drop]; exact Nat.le_refl _)]; rfl
theorem Z87 (c : Nat) (l : List Nat) : (rst c l).length ≤ l.length := by unfold rst; rw [List.length_take]; omega
def dec (i : Int) : List Nat := (toString i : Str).cps.toList
theorem Zab (i : Int) : (toString i : Str) = S (dec i) := (S_tl _).symm
section
variable {K : PySem.W.Frag} {σ : L2.St} {H : Hp} {ta tb tc te tl : TE} {tt : TT} {j : Nat} {vs : List Nat}
abbrev rRstrip : V → List V → Hp → VK → Prop := fun x xs H Q => ∃ a b,x = .str a ∧ xs = [.str b] ∧ a.length ≤ sizeLine ∧ Q (.str (Txt.rstripChars a b)) H
abbrev rLstrip : V → List V → Hp → VK → Prop := fun x xs H Q => ∃ a b,x = .str a ∧ xs = [.str b] ∧ a.length ≤ sizeLine ∧ Q (.str (Txt.lstripChars a b)) H
theorem Z88 {l : List Nat} {c : Nat} (h : Evl.Ev ta σ H (.str (S l))) (h2 : Evl.Ev tb σ H (.str (S [c]))) (hz : l.length ≤ 100000) : Evl.Ev (tBM K "str" rRstrip ta (tCons tb tNil)) σ H (.str (S (rst c l))) := by
  rw [← Z6p]
  exact Z6n h h2 fun H1 _ Q q => ⟨_,_,rfl,rfl,szS hz,q⟩
theorem Z89 {l : List Nat} {c : Nat} (h : Evl.Ev ta σ H (.str (S l))) (h2 : Evl.Ev tb σ H (.str (S [c]))) (hz : l.length ≤ 100000) : Evl.Ev (tBM K "str" rLstrip ta (tCons tb tNil)) σ H (.str (S (lst c l))) := by
  rw [← Zaa]
  exact Z6n h h2 fun H1 _ Q q => ⟨_,_,rfl,rfl,szS hz,q⟩
variable {D : Ends}
end
theorem Zbe {P : Program} {w : World} {K : PySem.W.Frag} {mg : Str → Option Value} {base : Heap} {x qual : Str} {params : Arguments} {body : List Stmt} {scope : Scope} {dvs : List V} {kws : List (Str × V)} {f : Addr} {fd : FuncData}
    {N ps : List Str} {k : Nat} {sp : Sp} (F : FunD K x qual params body scope dvs kws f fd) (S : FnScope N ps scope) (len : ∀ vs H Q E,sp vs H Q E → vs.length = ps.length)
    (hbody : ∀ (cdv : Value) (A : Around) (outer : List Env) (s : Shared) (H : Hp) (vs : List V) (Q : VK) (E : XK),Room k (A.deeper (envOfC qual scope s.heap.objs.size f cdv)) → sp vs H Q E →
      ∃ t, PSs (cxOf CX0 P w K mg base N qual scope f cdv A outer s H E).nox body t ∧ t { nx := fun _ H' => Q .non H', rt := Q } (start N vs) H) : FnOk P w K mg base CX0 (k + 1) f fd ps sp :=
  F.ok S len fun cdv A outer s H vs Q E hr h => let ⟨t,p,q⟩ := hbody cdv A outer s H vs Q E hr h; ⟨t,p.nox,q⟩
theorem fn_T {P : Program} {w : World} {K : PySem.W.Frag} {mg : Str → Option Value} {base : Heap} {x qual : Str} {st : Stmt} {f : Addr} {fd : FuncData} {N ps : List Str} {k : Nat} {sp : Sp}
    (F : Fun K x qual st f fd) (S : FnScope N ps (defScope st)) (hnc : ((defScope st).names.all fun y => match y.2 with | .cell => false | _ => true) = true) (hps : 1 ≤ ps.length) (len : ∀ vs H Q E,sp vs H Q E → vs.length = ps.length)
    (hbody : ∀ (cdv : Value) (A : Around) (outer : List Env) (s : Shared) (H : Hp) (vs : List V) (Q : VK) (E : XK),Room k (A.deeper (envOfC qual (defScope st) s.heap.objs.size f cdv)) → sp vs H Q E →
      ∃ t, PSsT (cxOf CX0 P w K mg base N qual (defScope st) f cdv A outer s H E) (defBody st) t ∧ t { nx := fun _ H' => Q .non H', rt := Q } (start N vs) H) : FnOk P w K mg base CX0 (k + 1) f fd ps sp := by
  obtain ⟨oc,od,kV,doc,pm,an,cdv,ct,osl,rfl,lk,hcd⟩ := F.ex
  refine fn_ofT lk hcd S (fun y hy e => ?_) hps len fun A outer s H vs Q E hr h => hbody cdv A outer s H vs Q E hr h
  have := List.all_eq_true.mp hnc y hy
  rw [e] at this
  exact Bool.noConfusion this
theorem repl1 {c : Nat} {z : List Nat} : ∀ l : List Nat,PySem.StrLaws.replL [c] z l = l.flatMap fun d => if d = c then z else [d]
  | [] => PySem.StrLaws.replL_nil
  | d :: l => by
    by_cases h : d = c
    · rw [PySem.StrLaws.replL_hit (by simp) (by simp [h]),List.flatMap_cons,if_pos h]
      show _ ++ PySem.StrLaws.replL [c] z l = _
      rw [repl1 l]
    · rw [PySem.StrLaws.replL_miss (by simp [h]),repl1 l,List.flatMap_cons,if_neg h]; rfl
theorem Z8a (c : Nat) (z l : List Nat) : Txt.replace (S l) (S [c]) (S z) = S (l.flatMap fun d => if d = c then z else [d]) := by
  refine TL.ext_tl ?_
  have := PySem.StrLaws.replace_list (x := S l) (y := S [c]) (z := S z) (by rw [S_len]; exact Nat.le_refl 1)
  show (Txt.replace (S l) (S [c]) (S z)).cps.toList = _
  rw [this]
  exact repl1 l
theorem Zcb {σ : L2.St} {H : Hp} {te : TE} {c : Nat} {z l : List Nat} {y' z' : Str} (h : Evl.Ev te σ H (.str (S l))) (hy : y' = S [c]) (hz : z' = S z) (hl : l.length ≤ 100000) (hzl : z.length ≤ 10) :
    Evl.Ev (CwR.tReplC te y' z') σ H (.str (S (l.flatMap fun d => if d = c then z else [d]))) := fun H1 e Q q =>
  h H1 e _ fun H2 e2 => ⟨S l,rfl,by
    subst hz
    rw [S_len,S_len]
    have : (l.length + 1) * z.length ≤ (100000 + 1) * 10 := Nat.mul_le_mul (by omega) hzl
    omega,by
    subst hy hz
    rw [Z8a]; exact q H2 e2⟩
theorem Z8b {K : PySem.W.Frag} {C : Addr} (b : PySem.W.subIn K (.ref C) (.type "BaseException") = some true) (i : PySem.W.isClsIn K C = true)
    (t : PySem.W.typeIn K (.ref C) = some (.type "type")) (s : PySem.W.subIn K (.ref C) (.ref C) = some true) : PySem.W.exmOne K (.ref C) (.ref C) = some true := by
  have i' : (PySem.W.clsIn K C).isSome = true := i
  unfold PySem.W.exmOne
  simp [b, i', t, s, PySem.W.kitCls]
def LsAll (H : Hp) : List Addr → List (List V) → Prop
  | [],[] => True
  | q :: qs,y :: ys => H q = some (.lst y) ∧ LsAll H qs ys
  | _,_ => False
theorem LsAll.to {H H' : Hp} : ∀ {qs : List Addr} {yss : List (List V)}, LsAll H qs yss → (∀ q y, q ∈ qs → H q = some (.lst y) → H' q = some (.lst y)) → LsAll H' qs yss
  | [],[],_,_ => trivial
  | q :: qs, y :: ys, h, k => ⟨k q y List.mem_cons_self h.1, h.2.to fun q' y' hq => k q' y' (List.mem_cons_of_mem _ hq)⟩
  | [],_ :: _,h,_ => h
  | _ :: _,[],h,_ => h
theorem LsAll.same {H H' : Hp} {qs : List Addr} {yss : List (List V)} (h : LsAll H qs yss) (s : Same H H') : LsAll H' qs yss := h.to fun q y _ e => s q _ e
theorem LsAll.ne {H : Hp} {p : Addr} (hp : H p = none) : ∀ {qs : List Addr} {yss : List (List V)},LsAll H qs yss → ∀ q ∈ qs,q ≠ p
  | q :: qs,y :: ys,h,x,hx => by
    rcases List.mem_cons.mp hx with rfl | hx
    · intro e
      have h1 := h.1
      rw [e,hp] at h1
      cases h1
    · exact h.2.ne hp x hx
  | [],_,_,_,hx => nomatch hx
  | _ :: _,[],h,_,_ => h.elim
theorem LsAll.len {H : Hp} : ∀ {qs : List Addr} {yss : List (List V)},LsAll H qs yss → qs.length = yss.length
  | [],[],_ => rfl
  | _ :: _,_ :: _,h => by rw [List.length_cons,List.length_cons,h.2.len]
  | [],_ :: _,h => h.elim
  | _ :: _,[],h => h.elim
theorem LsAll.get {H : Hp} : ∀ {qs : List Addr} {yss : List (List V)} {i : Nat} {x : V},LsAll H qs yss → (qs.map V.ref)[i]? = some x → ∃ q y,x = .ref q ∧ yss[i]? = some y ∧ H q = some (.lst y)
  | q :: qs,y :: ys,0,x,h,e => ⟨q,y,(Option.some.inj e).symm,rfl,h.1⟩
  | q :: qs,y :: ys,i + 1,x,h,e => by
    obtain ⟨q', y', e1, e2, e3⟩ := LsAll.get (i := i) h.2 (by simpa using e)
    exact ⟨q', y', e1, by simpa using e2, e3⟩
  | [],[],i,x,h,e => by simp at e
  | [],_ :: _,_,_,h,_ => h.elim
  | _ :: _,[],_,_,h,_ => h.elim
def cont (H : Hp) : V → List V
  | .ref q => match H q with
    | some (.lst y) => y
    | _ => []
  | _ => []
theorem LsAll.cont {H : Hp} {α : Type} (f : List V → α) : ∀ {qs : List Addr} {yss : List (List V)},LsAll H qs yss → (qs.map V.ref).map (fun x => f (cont H x)) = yss.map f
  | [],[],_ => rfl
  | q :: qs,y :: ys,h => by
    rw [List.map_cons,List.map_cons,List.map_cons,h.2.cont f]
    have e : Ap.cont H (.ref q) = y := by
      show (match H q with
        | some (.lst y) => y
        | _ => []) = y
      rw [h.1]
    rw [e]
  | [],_ :: _,h => h.elim
  | _ :: _,[],h => h.elim
def EvLL (te : TE) (σ : L2.St) (H : Hp) (yss : List (List V)) : Prop :=
  ∀ H1,Same H H1 → ∀ Q : VK,(∀ p qs H2,H1 p = none → Same H1 H2 → H2 p = some (.lst (qs.map V.ref)) → LsAll H2 qs yss → Q (.ref p) H2) → te σ H1 Q
theorem EvLL.is {te : TE} {σ : L2.St} {H : Hp} {a b : List (List V)} (h : EvLL te σ H a) (e : a = b) : EvLL te σ H b := e ▸ h
end Ap
set_option maxHeartbeats 4000000
namespace Ap
open PySem PySem.Spec PyProof.Rows L2 SX
def rOr (r1 r2 : R2) : R2 := fun x y H Q => r1 x y H Q ∨ r2 x y H Q
def rOrC (r1 r2 : List V → Hp → VK → Prop) : List V → Hp → VK → Prop := fun xs H Q => r1 xs H Q ∨ r2 xs H Q
theorem Z5i {X : Cx} {f : Value} {r1 r2 : List V → Hp → VK → Prop} (h1 : CallR X f r1) (h2 : CallR X f r2) : CallR X f (rOrC r1 r2) := fun pins s σ H xs us Q I rs h =>
  h.elim (h1 pins s σ H xs us Q I rs) (h2 pins s σ H xs us Q I rs)
section
variable {X : Cx} {o e : Expr} {to te : TE}
theorem Ze8 {id : String} {name : Str} {apos pos : Pos} {r : V → List V → Hp → VK → Prop} (slot : Slot "str" name id) (ty : typeOf (.builtin id) = pure (.type "method_descriptor")) (rule : MtR X id r) (ho : PET X o to) (he : PE X e te)
    (hs : starEach [e] X.env = [(false,eval e X.env)] := by rfl) (hbase : attributeBase o name X.env (eval o X.env) = eval o X.env := by rfl) (hline : (apos.endLine == pos.line) = true := by rfl) :
    PET X (.Call (.Attribute o name apos) [e] [] pos) (tM1 r to te) := by
  intro pins s σ H Q h0 I h
  refine PySem.Call_method1 hbase hs hline (thn (ho pins s σ H _ h0 I h) fun v s1 ⟨x,H1,I1,r1,q1⟩ => ?_)
  obtain ⟨⟨a,rfl⟩,q1⟩ := q1
  obtain ⟨t,rfl⟩ := _root_.id r1
  refine ⟨"str", _, F.plainAttrs_str, slot, ty, typeIs_str _ _ _, (fun _ e => nomatch e), Calls.callWith_builtin rfl (Calls.evalArgs_plain (Calls.spliced_cons ?_))⟩
  exact thn (he.run pins s1 σ H1 _ I1 q1) fun u s2 ⟨y,H2,I2,r2,q2⟩ => Calls.spliced_nil (rule pins s2 σ H2 _ [y] _ [u] Q I2 r1 (.cons r2 .nil) q2)
theorem Zcc {tg e : Expr} {te : TE} {g : TG} {pos : Pos} (he : PET X e te) (hg : PG X tg g) (hs : swapsWithSole [tg] e pos.line X.env = pure false := by rfl) (hw : swappedStores [tg] e X.env = pure none := by rfl)
    (h1 : (assignEach [tg] X.env).map (·.2) = [assign tg X.env] := by rfl) : PST X (.Assign [tg] e pos) (tAsg te g) := by
  intro pins s σ H D h0 I h
  refine wpAny_Assign_stores (thn (he pins s σ H _ h0 I h) fun v s1 ⟨x,H1,I1,r1,q1⟩ => ?_) hs hw
  rw [h1]
  exact thn (hg.run pins s1 σ H1 x v _ I1 r1 q1) fun _ s2 q => q
end
open PySem.Builtin PySem.Builtin.Str in
theorem Zcd (x : Str) (t : Tok) (a : Addr) : ∃ other : Sem Fin,«str.startswith» ⟨[.str x t,.ref a],[]⟩ = (do
    if let some p ← asStr? (.ref a) then return ← ret (.bool (0 + p.length ≤ min x.length x.length && subAt x p 0))
    if ← isInstance (.ref a) (.type "tuple") then
      rule s!"str.startswith.tuple"
      let some items ← seqItems? (.ref a) | unsupported s!"internal:str.startswith"
      for y in items do
        match ← asStr? y with
        | some p => if 0 + p.length ≤ min x.length x.length && subAt x p 0 then return ← ret (.bool true)
        | none =>
          rule s!"str.startswith.tuple-item-not-str"
          raiseError "TypeError" s!"tuple for startswith must only contain str, not {← typeNameOf y}"
      return ← ret (.bool false)
    other) := ⟨_,rfl⟩
open PySem.Builtin PySem.Builtin.Str in
theorem Zac (x : Str) (t : Tok) (a : Addr) (l : List (Str × Tok)) :
    Meets («str.startswith» ⟨[.str x t, .ref a], []⟩) (fun _ R s => (∃ o n, s.heap.get? a = some o ∧ o.cls = .type "tuple" ∧ o.data = .seq (strValues l).toArray n) ∧ R (.ok (.ret (.bool (l.any fun p => Txt.startswith x p.1)))) s) := by
  obtain ⟨other,htree⟩ := Zcd x t a
  intro prog w A R s ⟨⟨o,n,ho,hc,hdata⟩,hpost⟩
  rw [htree]
  refine wpAny_bind ?_
  unfold asStr?
  refine wpAny_bind (wpAny_load ho ?_)
  rw [hdata]
  refine wpAny_pure ?_
  refine wpAny_bind (wpAny_isInstance (T := "tuple") ⟨o, ho, hc⟩ isSubtype_tuple_tuple ?_)
  refine wpAny_bind (wpAny_rule ?_)
  refine wpAny_bind (wpAny_seqItems ho hdata ?_)
  refine wpAny_bind ?_
  rw [← Array.forIn_toList,List.toList_toArray]
  refine wpAny_forIn_list _ (fun rest r s' => r.1 = none ∧ s' = s ∧ ∃ m : List (Str × Tok), rest = strValues m ∧ (l.any fun p => Txt.startswith x p.1) = (m.any fun p => Txt.startswith x p.1)) _ ?_ ?_ _ _ ⟨rfl, rfl, l, rfl, rfl⟩
  · rintro v rest r s' ⟨hr, rfl, m, hm, e⟩
    match m,hm with
    | (y,u) :: m,hm =>
      cases hm
      refine wpAny_bind (wpAny_pure ?_)
      cases hb : Txt.startswith x y
      · have hb' := hb
        unfold Txt.startswith at hb'
        simp only [Nat.min_self, hb']
        refine wpAny_pure ⟨rfl,rfl,m,rfl,?_⟩
        rw [e,List.any_cons,hb,Bool.false_or]
      · have hb' := hb
        unfold Txt.startswith at hb'
        simp only [Nat.min_self, hb']
        rw [if_pos trivial]
        refine wpAny_bind (wpAny_pure (wpAny_pure (wpAny_pure ?_)))
        rw [e,List.any_cons,hb,Bool.true_or] at hpost
        exact hpost
  · rintro ⟨r1, r2⟩ s' ⟨hr, rfl, m, hm, e⟩
    simp only at hr
    subst hr
    match m,hm with
    | [],_ =>
      rw [e] at hpost
      exact wpAny_pure hpost
abbrev rSwT (K : PySem.W.Frag) : V → List V → Hp → VK → Prop := fun x xs H Q => ∃ (a : Str) (p : Addr) (ys : List Str),x = .str a ∧ xs = [.ref p] ∧ SqT K H p (ys.map V.str) ∧ Q (.bl (ys.any fun y => Txt.startswith a y)) H
theorem Nh {X : Cx} : MtR X "str.startswith" (rSwT X.K) := by
  intro pins s σ H x xs v us Q I rx rs h
  obtain ⟨a,p,ys,rfl,rfl,hp,q⟩ := h
  obtain ⟨t,rfl⟩ := rx
  cases rs with
  | cons r1 rs =>
    cases rs
    cases r1
    obtain ⟨its,r,ht,_⟩ := I.tuple hp
    obtain ⟨l,hv,hy⟩ := strsAre_values (strs_of_vals r)
    obtain ⟨o,ho,hc,n,hd⟩ := ht
    refine call_meets F.slot_str_startswith (typeIs_str _ _ _) F.entry_str_startswith (F.args_str_startswith_2 _ _) (Zac a t p l) ⟨⟨o,n,ho,hc,by rw [hd,hv]⟩,.bl (ys.any fun y => Txt.startswith a y),H,I,?_,q⟩
    rw [← hy,List.any_map]
    rfl
end Ap
set_option maxHeartbeats 4000000
namespace Ap
open PySem PySem.Spec PyProof.Rows L2 SX
theorem Uo (a b : List Nat) : Txt.startswith (S a) (S b) = b.isPrefixOf a := by
  have e : (S a).cps.toList = a := rfl
  have e2 : (S b).cps.toList = b := rfl
  unfold Txt.startswith
  rw [S_len,S_len,Nat.zero_add]
  by_cases h : b.length ≤ a.length
  · rw [decide_eq_true h,Bool.true_and]
    have : PySem.Builtin.Str.subAt (S a) (S b) 0 = true ↔ (a.drop 0).take b.length = b := by
      constructor
      · intro k
        have := PySem.StrLaws.at_take (x := S a) (y := S b) (k := 0) ⟨by rw [S_len,S_len]; omega,k⟩
        exact this
      · intro k
        by_cases hb : b = []
        · subst hb; unfold PySem.Builtin.Str.subAt; simp [S,Str.length]
        · exact (PySem.StrLaws.take_at (x := S a) (y := S b) (k := 0) (by rw [S_len]; exact List.length_pos_iff.mpr hb) k).2
    rw [Bool.eq_iff_iff,this,List.drop_zero,List.isPrefixOf_iff_prefix]
    constructor
    · intro k; have q := List.take_append_drop b.length a; rw [k] at q; exact ⟨_,q⟩
    · rintro ⟨r,rfl⟩; rw [List.take_append_of_le_length (Nat.le_refl _),List.take_of_length_le (Nat.le_refl _)]
  · rw [decide_eq_false h,Bool.false_and]
    cases hp : b.isPrefixOf a
    · rfl
    · exact absurd (List.isPrefixOf_iff_prefix.mp hp).length_le h
def oS : Option (List Nat) → V
  | none => .non
  | some l => .str (S l)
def oI : Option Int → V
  | none => .non
  | some i => .int i
section
variable {K : PySem.W.Frag} {σ : L2.St} {H : Hp} {ta tb tc te tl : TE} {tt : TT} {j : Nat} {vs : List Nat}
theorem Yv {z : Str} {l : List Nat} (h : z = S l) : Evl.Ev (tC (.str z)) σ H (.str (S l)) := by
  subst h; exact Evl.ev_c
theorem Z1w {a b : List Nat} : Evl.RV rEq (.str (S a)) (.str (S b)) H (.bl (decide (a = b))) := by
  have := Evl.rv_eq (x := .str (S a)) (y := .str (S b)) (H := H) rfl
  rw [decS] at this; exact this
theorem Z8c {a b : List Nat} : Evl.RV rNe (.str (S a)) (.str (S b)) H (.bl (!decide (a = b))) := by
  have := Evl.rv_ne (x := .str (S a)) (y := .str (S b)) (H := H) rfl
  rw [decS] at this; exact this
abbrev rIsN' : R2 := fun x y H Q => y = .non ∧ Q (.bl (decide (x = .non))) H
theorem Z8d {x : V} : Evl.RV rIsN' x .non H (.bl (decide (x = .non))) := fun H1 _ _ q => ⟨rfl, q H1 (Evl.Ex.refl H1)⟩
theorem Z15 {a : List Nat} {p : Addr} {xs : List V} (ps : List (List Nat)) (h : SqT K H p xs) (e : xs = txs ps) : Evl.RV (rIn K false) (.str (S a)) (.ref p) H (.bl (decide (a ∈ ps))) := by
  subst e
  have := Evl.rv_isT (x := .str (S a)) h rfl (by simp [txs,flatV])
  rw [Zc9] at this; exact this
theorem Zce {a : List Nat} {xs : List V} (ps : List (List Nat)) (h : Evl.Ev ta σ H (.str (S a))) (hb : Evl.EvU tb σ H xs) (e : xs = txs ps) : Evl.Ev (tOp (rIn K false) ta tb) σ H (.bl (decide (a ∈ ps))) :=
  Evl.ev_opU h hb fun _ _ h _ => Z15 ps (SqT.of h) e
theorem Zcf {l : List Nat} (p : Nat → Bool) (h : Evl.Ev tl σ H (.str (S l))) (hz : l.length ≤ 100000) (hw : ∀ x,wipe ((wipe σ vs).set j (some x)) vs = wipe σ vs)
    (he : ∀ c ∈ l,Evl.Ev te ((wipe σ vs).set j (some (.str (S [c])))) H (.bl (p c))) : Evl.Ev (tCB (rAll K) (tCons (tLc (iStr tl) (gName j) tYes te vs) tNil)) σ H (.bl (l.all p)) := by
  have h1 := Ze7 (K := K) (bs := l.map p) (te := tLc (iStr tl) (gName j) tYes te vs) (σ := σ) (H := H) (by
    have := Ze5 (fun _ => true) (fun c => .bl (p c)) h hz hw (fun c hc => Ze4) (fun c hc _ => he c hc)
    rw [Za9] at this
    rw [List.map_map]; exact this)
  rw [List.all_map] at h1; exact h1
theorem Z0k {x y : V} {b : Bool} (h : Evl.EvT tt σ H b) (h1 : b = true → Evl.Ev ta σ H x) (h2 : b = false → Evl.Ev tb σ H y) : Evl.Ev (tIf tt ta tb) σ H (if b = true then x else y) := by
  refine Evl.ev_if h (fun k => ?_) (fun k => ?_)
  · rw [if_pos k]; exact h1 k
  · rw [if_neg (by rw [k]; exact Bool.false_ne_true)]; exact h2 k
theorem Z5j {x y : List Nat} {b : Bool} (h : Evl.EvT tt σ H b) (h1 : b = true → Evl.Ev ta σ H (.str (S x))) (h2 : b = false → Evl.Ev tb σ H (.str (S y))) : Evl.Ev (tIf tt ta tb) σ H (.str (S (if b = true then x else y))) := by
  have := Z0k h h1 h2
  cases b <;> exact this
theorem Zcg {x y : Int} {b : Bool} (h : Evl.EvT tt σ H b) (h1 : b = true → Evl.Ev ta σ H (.int x)) (h2 : b = false → Evl.Ev tb σ H (.int y)) : Evl.Ev (tIf tt ta tb) σ H (.int (if b = true then x else y)) := by
  have := Z0k h h1 h2
  cases b <;> exact this
abbrev rSw : V → List V → Hp → VK → Prop := fun x xs H Q => ∃ a b,x = .str a ∧ xs = [.str b] ∧ Q (.bl (Txt.startswith a b)) H
theorem Zch {a b : List Nat} (h : Evl.Ev ta σ H (.str (S a))) (h2 : Evl.Ev tb σ H (.str (S b))) : Evl.Ev (tBM K "str" rSw ta (tCons tb tNil)) σ H (.bl (b.isPrefixOf a)) := by
  rw [← Uo]
  exact Z6n h h2 fun H1 _ Q q => ⟨_,_,rfl,rfl,q⟩
theorem Ze9 {a : List Nat} {xs : List V} (ps : List (List Nat)) (h : Evl.Ev ta σ H (.str (S a))) (h2 : Evl.EvU tb σ H xs) (e : xs = txs ps) : Evl.Ev (tBM K "str" (rSwT K) ta (tCons tb tNil)) σ H (.bl (ps.any fun p => p.isPrefixOf a)) := by
  subst e
  intro H1 e1 Q q
  refine h H1 e1 _ fun H2 e2 => ⟨rfl,h2 H2 (e1.trans e2) _ fun p H3 np e3 h3 => ⟨S a,p,ps.map S,rfl,rfl,SqT.of (by rw [h3,txs_S]),?_⟩⟩
  have : ((ps.map S).any fun y => Txt.startswith (S a) y) = ps.any fun p => p.isPrefixOf a := by
    rw [List.any_map]; congr 1; funext p; exact Uo a p
  rw [this]
  exact q H3 (e2.trans e3)
abbrev rLower : V → List V → Hp → VK → Prop := fun x xs H Q => ∃ a,x = .str a ∧ xs = [] ∧ a.length ≤ 5592405 ∧ Q (.str (Txt.lower a)) H
theorem Zea {a : List Nat} (h : Evl.Ev ta σ H (.str (S a))) (ha : a.all (· < 128) = true) (hz : a.length ≤ 100000) : Evl.Ev (tM0 rLower ta) σ H (.str (S (a.map lo1))) := fun H1 e1 Q q =>
  h H1 e1 _ fun H2 e2 => ⟨⟨_,rfl⟩,S a,rfl,rfl,by rw [S_len]; omega,by rw [lower_S ha]; exact q H2 e2⟩
def parL (c : Nat) (a : List Nat) : List Nat × List Nat × List Nat := match TL.par [c] [] a with
  | some (p,q) => (p,[c],q)
  | none => (a,[],[])
theorem Zbf (c : Nat) (a : List Nat) : Txt.partition (S a) (S [c]) = (S (parL c a).1,S (parL c a).2.1,S (parL c a).2.2) := by
  unfold parL
  cases h : TL.par [c] [] a with
  | none => rw [partition_none (by simp) h]
  | some x => obtain ⟨p,q⟩ := x; rw [partition_some (by simp) h]
abbrev rPart : V → List V → Hp → VK → Prop := fun x xs H Q => ∃ a b,x = .str a ∧ xs = [.str b] ∧ (b.length == 0) = false ∧ a.length ≤ sizeLine ∧
    ∀ p,H p = none → Q (.ref p) (upd H p (.tup [.str (Txt.partition a b).1,.str (Txt.partition a b).2.1,.str (Txt.partition a b).2.2]))
theorem Z8e {a : List Nat} {c : Nat} (h : Evl.Ev ta σ H (.str (S a))) (h2 : Evl.Ev tb σ H (.str (S [c]))) (hz : a.length ≤ 100000) :
    Evl.EvU (tM1 rPart ta tb) σ H [.str (S (parL c a).1),.str (S (parL c a).2.1),.str (S (parL c a).2.2)] := fun H1 e1 Q q =>
  h H1 e1 _ fun H2 e2 => ⟨⟨_,rfl⟩,h2 H2 (e1.trans e2) _ fun H3 e3 => ⟨S a,S [c],rfl,rfl,rfl,szS hz,fun p hp => q p _ (Evl.fresh_back (e2.trans e3) hp) ((e2.trans e3).trans (Evl.Ex.new hp)) (by rw [upd_same,Zbf])⟩⟩
variable {D : Ends}
theorem Z8f {i k l : Nat} {x y z : V} (h : Evl.EvU te σ H [x,y,z]) (q : ∀ H1,Same H H1 → D.nx (((σ.set i (some x)).set k (some y)).set l (some z)) H1) :
    tAsg te (gTup K 3 (gCons (gName i) (gCons (gName k) (gCons (gName l) gNil)))) D σ H := h H (Evl.Ex.refl H) _ fun p H1 np e1 h1 =>
  ⟨p,_,rfl,SqT.of h1,rfl,_,_,rfl,_,_,rfl,_,_,rfl,rfl,q H1 e1⟩
theorem s_par {i k : Nat} {x y : V} {ta : TA} (h : Evl.EvA ta σ H [x,y]) (q : ∀ H1,Same H H1 → D.nx ((σ.set i (some x)).set k (some y)) H1) : tPar i k ta D σ H :=
  h H (Evl.Ex.refl H) _ fun H1 e1 => ⟨x,y,rfl,q H1 e1⟩
theorem Zeb {l : List Nat} {j : Nat} {tu : TS} (h : Evl.Ev te σ H (.str (S l))) (Pv : Nat → L2.St → Hp → Prop) (h0 : ∀ H1,Same H H1 → Pv 0 σ H1)
    (hs : ∀ i c σ' H', l[i]? = some c → Pv i σ' H' → tu { D with nx := Pv (i + 1), ct := Pv (i + 1), bk := D.nx } (σ'.set j (some (.str (S [c])))) H') (hd : ∀ σ' H', Pv l.length σ' H' → D.nx σ' H') :
    tFor (iStr te) (gName j) tu D σ H :=
  h H (Evl.Ex.refl H) _ fun H1 e => ⟨S l, rfl, for_it (walk_str (z := S l)) Pv (h0 H1 e) (fun _ _ _ _ _ => trivial) (fun i x σ' H' H2 hi p y => by
    obtain ⟨rfl,c,hc,rfl⟩ := y
    have hc' : l[i]? = some c := by simpa [S] using hc
    exact hs i c σ' _ hc' p) (fun σ' H' p => hd σ' H' (by simpa [S] using p))⟩
end
theorem finV {Q : VK} {H H' : Hp} {b b' : V} (q : ∀ H', Same H H' → Q b H') (sm : Same H H') (e : b' = b) : Q b' H' := by
  rw [e]; exact q H' sm
end Ap
set_option maxHeartbeats 4000000
namespace Ap
open PySem PySem.Spec PyProof.Rows L2 SX
def figs : List Nat := [48,49,50,51,52,53,54,55,56,57]
def c8 : List Nat := [48,49,50,51,52,53,54,55]
def c16 : List Nat := [48,49,50,51,52,53,54,55,56,57,97,98,99,100,101,102]
def hexs : List Nat := figs ++ [97,98,99,100,101,102,65,66,67,68,69,70]
def areSigns (l ss : List Nat) : Bool := !decide (l = []) && l.all fun c => decide (c ∈ ss)
def unsg (l : List Nat) : List Nat := if ([[43],[45]].any fun p => p.isPrefixOf l) = true then l.drop 1 else l
def wholeBy (l ss : List Nat) : Nat := (l.map lo1).foldl (fun a c => a * ss.length + ss.idxOf c) 0
def intOf : List Nat → Int
  | 45 :: r => -((NumText.digitsVal r : Nat) : Int)
  | 43 :: r => ((NumText.digitsVal r : Nat) : Int)
  | r => ((NumText.digitsVal r : Nat) : Int)
def wholeIn (l : List Nat) : Option Int :=
  if List.isPrefixOf [48,111] l = true then (if areSigns (l.drop 2) c8 = true then some (wholeBy (l.drop 2) c8 : Nat) else none)
  else if List.isPrefixOf [48,120] l = true then (if areSigns (l.drop 2) hexs = true then some (wholeBy (l.drop 2) c16 : Nat) else none)
  else if areSigns (unsg l) figs = true then some (intOf l) else none
def bareIn (w : List Nat) : Option (List Nat × Nat) :=
  if (decide ((parL 46 w).1 ++ (parL 46 w).2.2 = []) || !areSigns ((parL 46 w).1 ++ (parL 46 w).2.2) figs) = true then none else some ((parL 46 w).1 ++ (parL 46 w).2.2,(parL 46 w).2.2.length)
def lowE (l : List Nat) : List Nat := l.flatMap fun d => if d = 69 then [101] else [d]
def decimalIn (l : List Nat) : Option (List Nat × Int) :=
  match bareIn (parL 101 (lowE l)).1 with
  | none => none
  | some (b,n) =>
    if (!decide ((parL 101 (lowE l)).2.1 = []) && !areSigns (unsg (parL 101 (lowE l)).2.2) figs) = true then none
    else if decide (lst 48 b = []) = true then some ([48],0)
    else some (rst 48 (lst 48 b),((lst 48 b).length : Int) - ((rst 48 (lst 48 b)).length : Int) - (n : Int) + (if (!decide ((parL 101 (lowE l)).2.1 = [])) = true then intOf (parL 101 (lowE l)).2.2 else 0))
def nans : List (List Nat) := [[46,110,97,110],[46,78,97,78],[46,78,65,78]]
def infs : List (List Nat) := [[46,105,110,102],[46,73,110,102],[46,73,78,70]]
def minusOf (l : List Nat) : List Nat := if List.isPrefixOf [45] l = true then [45] else []
def floatIn (l : List Nat) : Option (List Nat) :=
  if decide (l ∈ nans) = true then some [46,110,97,110]
  else if decide (unsg l ∈ infs) = true then some (minusOf l ++ [46,105,110,102])
  else match decimalIn (unsg l) with
    | none => none
    | some (f,n) => some (if decide (f = [48]) = true then [48,101,48] else minusOf l ++ f ++ [101] ++ dec n)
def tSeq' : List Nat := [33,33,115,101,113]
def tMap' : List Nat := [33,33,109,97,112]
def tNull : List Nat := [33,33,110,117,108,108]
def tBool : List Nat := [33,33,98,111,111,108]
def tInt : List Nat := [33,33,105,110,116]
def tFloat : List Nat := [33,33,102,108,111,97,116]
def nulls : List (List Nat) := [[],[126],[110,117,108,108],[78,117,108,108],[78,85,76,76]]
def truths : List (List Nat) := [[116,114,117,101],[84,114,117,101],[84,82,85,69]]
def untruths : List (List Nat) := [[102,97,108,115,101],[70,97,108,115,101],[70,65,76,83,69]]
def canon (tag l : List Nat) : Option (List Nat) :=
  if decide (tag ∈ [tSeq', tMap']) = true then none
  else if decide (tag = tNull) = true then (if decide (l ∈ nulls) = true then some [110,117,108,108] else none)
  else if decide (tag = tBool) = true then (if decide (l ∈ truths) = true then some [116,114,117,101] else if decide (l ∈ untruths) = true then some [102,97,108,115,101] else none)
  else if decide (tag = tInt) = true then (wholeIn l).map dec
  else if decide (tag = tFloat) = true then floatIn l else some l
theorem Z1b : ∀ (l : List Nat) (a : Nat),(∀ c ∈ l,c ≤ 57) → l.foldl (fun acc c => acc * 10 + (c - 48)) a < (a + 1) * 10 ^ l.length
  | [],a,_ => by simp
  | c :: l,a,h => by
    rw [List.foldl_cons]
    have := Z1b l (a * 10 + (c - 48)) fun d hd => h d (List.mem_cons_of_mem _ hd)
    have hc := h c List.mem_cons_self
    refine Nat.lt_of_lt_of_le this ?_
    rw [List.length_cons,Nat.pow_succ]
    have : (a * 10 + (c - 48) + 1) ≤ (a + 1) * 10 := by omega
    calc (a * 10 + (c - 48) + 1) * 10 ^ l.length ≤ ((a + 1) * 10) * 10 ^ l.length := Nat.mul_le_mul_right _ this
      _ = (a + 1) * (10 ^ l.length * 10) := by rw [Nat.mul_assoc,Nat.mul_comm 10]
theorem Z2z (ss : List Nat) (hs : 0 < ss.length) : ∀ (l : List Nat) (a : Nat),(∀ c ∈ l,c ∈ ss) → l.foldl (fun a c => a * ss.length + ss.idxOf c) a < (a + 1) * ss.length ^ l.length
  | [],a,_ => by simp
  | c :: l,a,h => by
    rw [List.foldl_cons]
    have := Z2z ss hs l (a * ss.length + ss.idxOf c) fun d hd => h d (List.mem_cons_of_mem _ hd)
    have hc : ss.idxOf c < ss.length := List.idxOf_lt_length_of_mem (h c List.mem_cons_self)
    refine Nat.lt_of_lt_of_le this ?_
    rw [List.length_cons,Nat.pow_succ]
    have : (a * ss.length + ss.idxOf c + 1) ≤ (a + 1) * ss.length := by rw [Nat.succ_mul]; omega
    calc (a * ss.length + ss.idxOf c + 1) * ss.length ^ l.length ≤ ((a + 1) * ss.length) * ss.length ^ l.length := Nat.mul_le_mul_right _ this
      _ = (a + 1) * (ss.length ^ l.length * ss.length) := by rw [Nat.mul_assoc,Nat.mul_comm ss.length]
theorem Xo {l ss : List Nat} (h : areSigns l ss = true) : l ≠ [] ∧ ∀ c ∈ l,c ∈ ss := by
  unfold areSigns at h
  rw [Bool.and_eq_true, Bool.not_eq_true', decide_eq_false_iff_not, List.all_eq_true] at h
  exact ⟨h.1,fun c hc => of_decide_eq_true (h.2 c hc)⟩
theorem V7 {c : Nat} : c ∈ figs ↔ 48 ≤ c ∧ c ≤ 57 := by
  unfold figs
  simp only [List.mem_cons,List.not_mem_nil,or_false]
  omega
theorem Z3l (l : List Nat) : (unsg l).length ≤ l.length := by
  unfold unsg; split
  · rw [List.length_drop]; omega
  · exact Nat.le_refl _
theorem U8 (l : List Nat) : (∃ r,l = 43 :: r ∧ unsg l = r) ∨ (∃ r,l = 45 :: r ∧ unsg l = r) ∨ (unsg l = l ∧ l.head? ≠ some 43 ∧ l.head? ≠ some 45) := by
  unfold unsg
  cases l with
  | nil => exact .inr (.inr ⟨rfl,by simp,by simp⟩)
  | cons c r =>
    by_cases h : c = 43
    · subst h; exact .inl ⟨r,rfl,by simp [List.isPrefixOf]⟩
    · by_cases h2 : c = 45
      · subst h2; exact .inr (.inl ⟨r,rfl,by simp [List.isPrefixOf]⟩)
      · refine .inr (.inr ⟨?_,by simp [h],by simp [h2]⟩)
        have e1 : (43 == c) = false := beq_eq_false_iff_ne.mpr (Ne.symm h)
        have e2 : (45 == c) = false := beq_eq_false_iff_ne.mpr (Ne.symm h2)
        simp [List.isPrefixOf,e1,e2]
theorem Z30 {l : List Nat} (h : areSigns l figs = true) : l ≠ [] ∧ NumText.AllDigits l := ⟨(Xo h).1,fun c hc => V7.mp ((Xo h).2 c hc)⟩
open PySem.NumText in
theorem Z4a {x : Str} {cs : List Nat} (hx : x.cps.toList = 43 :: cs) (h : AllDigits cs) (h1 : cs ≠ []) (h2 : x.length ≤ 4300) : intText? x = some (((digitsVal cs : Nat) : Int)) := by
  have hs : ∀ c ∈ x.cps.toList,c = 43 ∨ (48 ≤ c ∧ c ≤ 57) := by
    rw [hx]
    intro c hc
    rcases List.mem_cons.mp hc with e | hc
    · exact Or.inl e
    · exact Or.inr (h c hc)
  have hl : x.cps.toList.length = x.length := Array.length_toList
  have e1 : numTextOf x = x.cps.toList := by
    refine if_pos ?_
    rw [← Array.all_toList,List.all_eq_true]
    intro c hc
    have := hs c hc
    exact decide_eq_true (by omega)
  have e2 : numSeenOf x = x.cps.toList := by
    show (numTextOf x).takeWhile _ = _
    rw [e1]
    refine takeWhile_all fun c hc => ?_
    have := hs c hc
    exact bne_iff_ne.mpr (by omega)
  unfold intText?
  rw [e1,e2,if_pos (beq_self_eq_true _),hx]
  rw [hx,List.length_cons] at hl
  have es : sign ((43 :: cs).dropWhile blank) = (false,cs) := by rw [dropWhile_of (by decide)]; rfl
  have ec : core (43 :: cs) = cs := by
    unfold core
    rw [es]
    show (cs.reverse.dropWhile blank).reverse = cs
    rw [dropWhile_digits h.reverse,List.reverse_reverse]
  rw [ec,es,digits_of h h1]
  have hsz := push_size cs #[]
  have hv := push_foldl cs #[]
  show (if _ ≤ 4300 then some (worth false _) else none) = _
  rw [if_pos (by rw [hsz]; simp only [Array.size_empty]; omega)]
  unfold worth digitsVal
  rw [hv]
  rfl
theorem Q9 {l : List Nat} (h : areSigns (unsg l) figs = true) (hl : l.length ≤ 4000) : intText? (S l) = some (intOf l) := by
  obtain ⟨h1,h2⟩ := Z30 h
  have hz : (S l).length ≤ 4300 := by rw [S_len]; omega
  rcases U8 l with ⟨r,rfl,e⟩ | ⟨r,rfl,e⟩ | ⟨e,k1,k2⟩
  · rw [e] at h1 h2
    exact Z4a (x := S (43 :: r)) rfl h2 h1 hz
  · rw [e] at h1 h2
    exact intText_neg (x := S (45 :: r)) rfl h2 h1 hz
  · rw [e] at h1 h2
    have e3 : intOf l = ((NumText.digitsVal l : Nat) : Int) := by
      unfold intOf
      split
      · exact absurd rfl k2
      · exact absurd rfl k1
      · rfl
    rw [e3]
    exact intText_digits (x := S l) h2 h1 hz
theorem Z6q {l : List Nat} (h : areSigns (unsg l) figs = true) : (intOf l).natAbs < 10 ^ l.length := by
  obtain ⟨h1,h2⟩ := Z30 h
  have key : ∀ r : List Nat,NumText.AllDigits r → NumText.digitsVal r < 10 ^ r.length := fun r hr => by
    have := Z1b r 0 fun c hc => (hr c hc).2
    rw [Nat.zero_add,Nat.one_mul] at this; exact this
  rcases U8 l with ⟨r,rfl,e⟩ | ⟨r,rfl,e⟩ | ⟨e,k1,k2⟩
  · rw [e] at h2
    have := key r h2
    show (((NumText.digitsVal r : Nat) : Int)).natAbs < _
    rw [List.length_cons,Nat.pow_succ]; omega
  · rw [e] at h2
    have := key r h2
    show (-((NumText.digitsVal r : Nat) : Int)).natAbs < _
    rw [List.length_cons,Nat.pow_succ]; omega
  · rw [e] at h2
    have := key l h2
    have e3 : intOf l = ((NumText.digitsVal l : Nat) : Int) := by
      unfold intOf
      split
      · exact absurd rfl k2
      · exact absurd rfl k1
      · rfl
    rw [e3]; omega
theorem Z8g : 2 ^ 14000 + 10 ^ 4000 + 100000 < 10 ^ 4300 := by decide +kernel
theorem Z7n {l : List Nat} {i : Int} (h : wholeIn l = some i) (hl : l.length ≤ 3500) : i.natAbs < 10 ^ 4300 := by
  have hb := Z8g
  generalize 10 ^ 4300 = N at hb ⊢
  have low : ∀ (m : List Nat) (ss : List Nat),(∀ c ∈ m,lo1 c ∈ ss) → ss.length ≤ 16 → 0 < ss.length → m.length ≤ 3500 → (wholeBy m ss) < 2 ^ 14000 := by
    intro m ss h1 h2 h3 h4
    have := Z2z ss h3 (m.map lo1) 0 (fun c hc => by obtain ⟨d,hd,rfl⟩ := List.mem_map.mp hc; exact h1 d hd)
    rw [Nat.zero_add,Nat.one_mul,List.length_map] at this
    refine Nat.lt_of_lt_of_le this ?_
    calc ss.length ^ m.length ≤ 16 ^ m.length := Nat.pow_le_pow_left h2 _
      _ ≤ 16 ^ 3500 := Nat.pow_le_pow_right (by decide) h4
      _ = 2 ^ 14000 := by rw [show (16 : Nat) = 2 ^ 4 from rfl,← Nat.pow_mul]
  generalize 2 ^ 14000 = M at hb low
  unfold wholeIn at h
  split at h
  · split at h
    · cases h
      rename_i k
      obtain ⟨_,k2⟩ := Xo k
      have := low (l.drop 2) c8 (fun c hc => ?_) (by decide) (by decide) (by rw [List.length_drop]; omega)
      · show wholeBy (l.drop 2) c8 < N
        omega
      · have : ∀ c ∈ c8,lo1 c ∈ c8 := by decide
        exact this c (k2 c hc)
    · cases h
  · split at h
    · split at h
      · cases h
        rename_i k
        obtain ⟨_,k2⟩ := Xo k
        have := low (l.drop 2) c16 (fun c hc => ?_) (by decide) (by decide) (by rw [List.length_drop]; omega)
        · show wholeBy (l.drop 2) c16 < N
          omega
        · have : ∀ c ∈ hexs,lo1 c ∈ c16 := by decide
          exact this c (k2 c hc)
      · cases h
    · split at h
      · cases h
        rename_i k
        have h1 := Z6q k
        have h2 : 10 ^ l.length ≤ 10 ^ 4000 := Nat.pow_le_pow_right (by decide) (by omega)
        omega
      · cases h
theorem Z8h {c : Nat} : ∀ {a acc p q : List Nat},TL.par [c] acc a = some (p,q) → p.length + q.length + 1 = acc.length + a.length
  | [],_,_,_,h => by simp [TL.par] at h
  | d :: a,acc,p,q,h => by
    unfold TL.par at h
    split at h
    · cases h
      simp; omega
    · have := Z8h h
      rw [List.length_append] at this
      simp at this ⊢
      omega
theorem Z1q (c : Nat) (a : List Nat) : (parL c a).1.length + (parL c a).2.1.length + (parL c a).2.2.length = a.length := by
  unfold parL
  cases h : TL.par [c] [] a with
  | none => simp
  | some x =>
    obtain ⟨p,q⟩ := x
    have := Z8h h
    simp at this ⊢; omega
theorem Z3m (l : List Nat) : (lowE l).length = l.length := by
  unfold lowE
  induction l with
  | nil => rfl
  | cons c l ih => rw [List.flatMap_cons,List.length_append,ih,List.length_cons]; split <;> simp <;> omega
theorem Z31 {w b : List Nat} {n : Nat} (h : bareIn w = some (b,n)) : b.length ≤ w.length ∧ n ≤ w.length := by
  unfold bareIn at h
  split at h
  · cases h
  · cases h
    have := Z1q 46 w
    rw [List.length_append]; omega
theorem Z8i (c : Nat) (l : List Nat) : (lst c l).length ≤ l.length := by unfold lst; rw [List.length_drop]; omega
theorem Z4b {l f : List Nat} {n : Int} (h : decimalIn l = some (f,n)) (hl : l.length ≤ 3600) : n.natAbs < 10 ^ 4300 ∧ f.length ≤ l.length + 1 := by
  have hbg := Z8g
  generalize 10 ^ 4300 = N at hbg ⊢
  generalize 2 ^ 14000 = M at hbg
  unfold decimalIn at h
  split at h
  · cases h
  · rename_i b m hb
    obtain ⟨b1,b2⟩ := Z31 hb
    have e1 := Z1q 101 (lowE l)
    rw [Z3m] at e1
    have e2 := Z8i 48 b
    have e3 := Z87 48 (lst 48 b)
    split at h
    · cases h
    · rename_i k
      split at h
      · cases h; exact ⟨by show 0 < N; omega,by simp⟩
      · cases h
        refine ⟨?_,by omega⟩
        have hi : (if (!decide ((parL 101 (lowE l)).2.1 = [])) = true then intOf (parL 101 (lowE l)).2.2 else 0).natAbs < 10 ^ 4000 := by
          split
          · rename_i k2
            rw [k2, Bool.true_and, Bool.not_eq_true', Bool.not_eq_false] at k
            exact Nat.lt_of_lt_of_le (Z6q k) (Nat.pow_le_pow_right (by decide) (by omega))
          · exact Nat.pow_pos (by decide)
        generalize (if (!decide ((parL 101 (lowE l)).2.1 = [])) = true then intOf (parL 101 (lowE l)).2.2 else 0) = z at hi ⊢
        generalize 10 ^ 4000 = M2 at hi hbg
        have : (((lst 48 b).length : Int) - ((rst 48 (lst 48 b)).length : Int) - (m : Int) + z).natAbs ≤ 20000 + z.natAbs := by omega
        omega
theorem Zad {l : List Nat} (h : areSigns (unsg l) figs = true) : l.all (· < 128) = true := by
  have h2 := (Xo h).2
  have key : ∀ r : List Nat,(∀ c ∈ r,c ∈ figs) → ∀ c ∈ r,c < 128 := fun r hr c hc => by have := V7.mp (hr c hc); omega
  rw [List.all_eq_true]
  rcases U8 l with ⟨r,rfl,e⟩ | ⟨r,rfl,e⟩ | ⟨e,_⟩
  · rw [e] at h2
    intro c hc
    rcases List.mem_cons.mp hc with rfl | hc
    · decide
    · exact decide_eq_true (key r h2 c hc)
  · rw [e] at h2
    intro c hc
    rcases List.mem_cons.mp hc with rfl | hc
    · decide
    · exact decide_eq_true (key r h2 c hc)
  · rw [e] at h2
    exact fun c hc => decide_eq_true (key l h2 c hc)
end Ap
set_option maxHeartbeats 4000000
namespace Fx
class Tb where
  T : List (PySem.Addr × PySem.Str)
instance (priority := low) tb0 : Tb := ⟨[]⟩
open PySem PySem.Spec PyProof.Rows L2 SX Ap
variable [Tb]
inductive T where
  | non | bl (b : Bool) | int (i : Int) | str (l : List Nat) | tup (ts : List T) | loc (i : Nat) | frl (ts : List T) | ref (a : Addr) | ty (n : String) | lam (f c : Addr) (q : PySem.Str) (J : List Addr → Hp → Prop) | ktp (ts : List T)
inductive O where
  | lst (ts : List T) | dk (kvs : List (Key × T)) | dt (kvs : List (List Key × T)) | ins (C : String) (fs : List (String × T))
abbrev Sto := List O
structure Ex where
  cls : PySem.Str
  fs : List (PySem.Str × T)
inductive R (α : Type) where
  | ok (a : α) (S : Sto) | exc (x : Ex) (S : Sto) | stuck
def R.bind {α β : Type} : R α → (α → Sto → R β) → R β
  | .ok a S,k => k a S
  | .exc x S,_ => .exc x S
  | .stuck,_ => .stuck
def lift {α : Type} : Option (α × Sto) → R α
  | some (a,S) => .ok a S
  | none => .stuck
@[simp] theorem Wo {α β : Type} (a : α) (S : Sto) (k : α → Sto → R β) : (R.ok a S).bind k = k a S := (rfl)
@[simp] theorem bind_exc {α β : Type} (x : Ex) (S : Sto) (k : α → Sto → R β) : (R.exc x S).bind k = .exc x S := (rfl)
@[simp] theorem Ze0 {α β : Type} (k : α → Sto → R β) : (R.stuck (α := α)).bind k = .stuck := (rfl)
@[simp] theorem Zec {α : Type} (a : α) (S : Sto) : lift (some (a,S)) = .ok a S := (rfl)
@[simp] theorem Zed {α : Type} : lift (none : Option (α × Sto)) = .stuck := (rfl)
def FrL (K : PySem.W.Frag) (H : Hp) (a : Addr) (xs : List V) : Prop :=
  (∃ o,H a = some (.frz o (.lst xs))) ∨
    ∃ (o : Obj) (its : Array Value) (n : Nat), K.lookup a = some o ∧ o.cls = .type "list" ∧ o.dict = none ∧ o.data = .seq its n ∧ its.size ≤ sizeLine ∧ Vals xs its.toList
theorem FrL.sq {K : PySem.W.Frag} {H : Hp} {a : Addr} {xs : List V} (h : FrL K H a xs) : SqL K H a xs := h.elim (fun ⟨o,e⟩ => .inl (.inr ⟨o,e⟩)) .inr
def HMut : HO → Prop
  | .lst _ => True | .dK _ => True | .dT _ => True | .ins _ _ _ => True | _ => False
structure Gr (ι ι' : List Addr) (H H' : Hp) : Prop where
  pre : ∀ (i : Nat) a, ι[i]? = some a → ι'[i]? = some a
  tup : ∀ a xs, H a = some (.tup xs) → H' a = some (.tup xs)
  frz : ∀ a o u, H a = some (.frz o u) → H' a = some (.frz o u)
  xd : ∀ a fs, H a = some (.xd fs) → H' a = some (.xd fs)
  ext : ∀ a φ, H a = some (.ext φ) → H' a = some (.ext φ)
  tab : LamX.Tabs Tb.T H → LamX.Tabs Tb.T H'
  fre : ∀ a u, a ∈ ι' → H a = some u → HMut u → a ∈ ι
  out : ∀ a u, H a = some u → HMut u → a ∉ ι → H' a = some u
theorem Gr.refl {ι : List Addr} {H : Hp} : Gr ι ι H H := ⟨fun _ _ h => h,fun _ _ h => h,fun _ _ _ h => h,fun _ _ h => h,fun _ _ h => h,fun h => h,fun _ _ h _ _ => h,fun _ _ h _ _ => h⟩
theorem Gr.trans {ι ι1 ι2 : List Addr} {H H1 H2 : Hp} (a : Gr ι ι1 H H1) (b : Gr ι1 ι2 H1 H2) : Gr ι ι2 H H2 :=
  ⟨fun i x h => b.pre i x (a.pre i x h),fun x xs h => b.tup x xs (a.tup x xs h),fun x o u h => b.frz x o u (a.frz x o u h),fun x fs h => b.xd x fs (a.xd x fs h),fun x φ h => b.ext x φ (a.ext x φ h),fun h => b.tab (a.tab h),fun x u hx h m => Classical.byContradiction fun n => n (a.fre x u (b.fre x u hx (a.out x u h m n) m) h m),fun x u h m n => b.out x u (a.out x u h m n) m fun hx => n (a.fre x u hx h m)⟩
theorem Gr.same {ι : List Addr} {H H' : Hp} (s : Same H H') : Gr ι ι H H' := ⟨fun _ _ h => h, fun _ _ h => s _ _ h, fun _ _ _ h => s _ _ h, fun _ _ h => s _ _ h, fun _ _ h => s _ _ h, fun h => h.ext s, fun _ _ h _ _ => h, fun _ _ h _ _ => s _ _ h⟩
mutual
inductive Rep (K : PySem.W.Frag) (ι : List Addr) (H : Hp) : V → T → Prop
  | non : Rep K ι H .non .non
  | bl (b : Bool) : Rep K ι H (.bl b) (.bl b)
  | int (i : Int) : Rep K ι H (.int i) (.int i)
  | str (l : List Nat) : Rep K ι H (.str (S l)) (.str l)
  | tup {a : Addr} {vs : List V} {ts : List T} : SqT K H a vs → Reps K ι H vs ts → Rep K ι H (.ref a) (.tup ts)
  | loc {i : Nat} {a : Addr} : ι[i]? = some a → Rep K ι H (.ref a) (.loc i)
  | frl {a : Addr} {vs : List V} {ts : List T} : FrL K H a vs → Reps K ι H vs ts → Rep K ι H (.ref a) (.frl ts)
  | ref (a : Addr) : Rep K ι H (.ref a) (.ref a)
  | ty (n : String) : Rep K ι H (.ty n) (.ty n)
  | lam {f c : Addr} {q : PySem.Str} {J : List Addr → Hp → Prop} : H c = some (LamX.CodeO c q) → (∀ ι' H', Gr ι ι' H H' → J ι' H') → Rep K ι H (.ref f) (.lam f c q J)
  | ktp {a : Addr} {vs : List V} {ts : List T} : H a = some (.tup vs) → Reps K ι H vs ts → Rep K ι H (.ref a) (.ktp ts)
inductive Reps (K : PySem.W.Frag) (ι : List Addr) (H : Hp) : List V → List T → Prop
  | nil : Reps K ι H [] []
  | cons {v : V} {vs : List V} {t : T} {ts : List T} : Rep K ι H v t → Reps K ι H vs ts → Reps K ι H (v :: vs) (t :: ts)
end
theorem SqT.gr {K : PySem.W.Frag} {ι ι' : List Addr} {H H' : Hp} {a : Addr} {xs : List V} (g : Gr ι ι' H H') (h : SqT K H a xs) : SqT K H' a xs := by
  rcases h with (h | ⟨o,h⟩) | h
  · exact .inl (.inl (g.tup _ _ h))
  · exact .inl (.inr ⟨o,g.frz _ _ _ h⟩)
  · exact .inr h
theorem FrL.gr {K : PySem.W.Frag} {ι ι' : List Addr} {H H' : Hp} {a : Addr} {xs : List V} (g : Gr ι ι' H H') (h : FrL K H a xs) : FrL K H' a xs := by
  rcases h with ⟨o,h⟩ | h
  · exact .inl ⟨o,g.frz _ _ _ h⟩
  · exact .inr h
mutual
theorem Rep.gr {K : PySem.W.Frag} {ι ι' : List Addr} {H H' : Hp} (g : Gr ι ι' H H') : ∀ {v : V} {t : T}, Rep K ι H v t → Rep K ι' H' v t
  | _,_,.non => .non
  | _,_,.bl b => .bl b
  | _,_,.int i => .int i
  | _,_,.str l => .str l
  | _,_,.tup h r => .tup (SqT.gr g h) (Reps.gr g r)
  | _,_,.loc h => .loc (g.pre _ _ h)
  | _,_,.frl h r => .frl (h.gr g) (Reps.gr g r)
  | _,_,.ref a => .ref a
  | _,_,.ty n => .ty n
  | _, _, .lam h j => .lam (g.ext _ _ h) fun ι' H' g' => j ι' H' (g.trans g')
  | _,_,.ktp h r => .ktp (g.tup _ _ h) (Reps.gr g r)
theorem Reps.gr {K : PySem.W.Frag} {ι ι' : List Addr} {H H' : Hp} (g : Gr ι ι' H H') : ∀ {vs : List V} {ts : List T}, Reps K ι H vs ts → Reps K ι' H' vs ts
  | _,_,.nil => .nil
  | _,_,.cons h r => .cons (Rep.gr g h) (Reps.gr g r)
end
section
variable {K : PySem.W.Frag} {ι : List Addr} {H : Hp}
theorem Reps.length : ∀ {vs : List V} {ts : List T},Reps K ι H vs ts → vs.length = ts.length
  | _,_,.nil => rfl
  | _,_,.cons _ r => congrArg (· + 1) r.length
theorem Reps.get : ∀ {vs : List V} {ts : List T} {i : Nat} {t : T},Reps K ι H vs ts → ts[i]? = some t → ∃ v,vs[i]? = some v ∧ Rep K ι H v t
  | _,_,_,_,.nil,e => by simp at e
  | _,_,0,_,.cons r _,e => by simp at e; subst e; exact ⟨_,rfl,r⟩
  | _,_,i + 1,t,.cons _ q,e => by
    obtain ⟨v,h1,h2⟩ := Reps.get (i := i) (t := t) q (by simpa using e)
    exact ⟨v,by simpa using h1,h2⟩
theorem Reps.append : ∀ {vs ws : List V} {ts us : List T},Reps K ι H vs ts → Reps K ι H ws us → Reps K ι H (vs ++ ws) (ts ++ us)
  | _,_,_,_,.nil,s => s
  | _,_,_,_,.cons r t,s => .cons r (Reps.append t s)
theorem Reps.take : ∀ {vs : List V} {ts : List T} (n : Nat),Reps K ι H vs ts → Reps K ι H (vs.take n) (ts.take n)
  | _,_,0,_ => by simpa using Reps.nil
  | _,_,_ + 1,.nil => by simpa using Reps.nil
  | _,_,n + 1,.cons r t => .cons r (Reps.take n t)
theorem Reps.drop : ∀ {vs : List V} {ts : List T} (n : Nat),Reps K ι H vs ts → Reps K ι H (vs.drop n) (ts.drop n)
  | _,_,0,r => r
  | _,_,_ + 1,.nil => .nil
  | _,_,n + 1,.cons _ t => Reps.drop n t
theorem Reps.set {v : V} {t : T} (r : Rep K ι H v t) : ∀ {vs : List V} {ts : List T} (i : Nat),Reps K ι H vs ts → Reps K ι H (vs.set i v) (ts.set i t)
  | _,_,_,.nil => .nil
  | _,_,0,.cons _ q => .cons r q
  | _,_,i + 1,.cons p q => .cons p (Reps.set r i q)
theorem Reps.reverse : ∀ {vs : List V} {ts : List T},Reps K ι H vs ts → Reps K ι H vs.reverse ts.reverse
  | _,_,.nil => .nil
  | _,_,.cons r t => by
    rw [List.reverse_cons,List.reverse_cons]
    exact (Reps.reverse t).append (.cons r .nil)
end
inductive RepP {κ : Type} (K : PySem.W.Frag) (ι : List Addr) (H : Hp) : List (κ × V) → List (κ × T) → Prop
  | nil : RepP K ι H [] []
  | cons {k : κ} {v : V} {vs : List (κ × V)} {t : T} {ts : List (κ × T)} : Rep K ι H v t → RepP K ι H vs ts → RepP K ι H ((k,v) :: vs) ((k,t) :: ts)
theorem RepP.gr {κ : Type} {K : PySem.W.Frag} {ι ι' : List Addr} {H H' : Hp} (g : Gr ι ι' H H') : ∀ {vs : List (κ × V)} {ts : List (κ × T)}, RepP K ι H vs ts → RepP K ι' H' vs ts
  | _,_,.nil => .nil
  | _,_,.cons h r => .cons (Rep.gr g h) (RepP.gr g r)
theorem RepP.length {κ : Type} {K : PySem.W.Frag} {ι : List Addr} {H : Hp} : ∀ {vs : List (κ × V)} {ts : List (κ × T)},RepP K ι H vs ts → vs.length = ts.length
  | _,_,.nil => rfl
  | _,_,.cons _ r => congrArg (· + 1) r.length
inductive RepF (K : PySem.W.Frag) (ι : List Addr) (H : Hp) : List (PySem.Str × V) → List (String × T) → Prop
  | nil : RepF K ι H [] []
  | cons {k : String} {v : V} {vs : List (PySem.Str × V)} {t : T} {ts : List (String × T)} : Rep K ι H v t → RepF K ι H vs ts → RepF K ι H ((PySem.Str.ofString k,v) :: vs) ((k,t) :: ts)
theorem RepF.gr {K : PySem.W.Frag} {ι ι' : List Addr} {H H' : Hp} (g : Gr ι ι' H H') : ∀ {vs : List (PySem.Str × V)} {ts : List (String × T)}, RepF K ι H vs ts → RepF K ι' H' vs ts
  | _,_,.nil => .nil
  | _,_,.cons h r => .cons (Rep.gr g h) (RepF.gr g r)
def ObR (K : PySem.W.Frag) (ι : List Addr) (H : Hp) (a : Addr) : O → Prop
  | .lst ts => ∃ vs,H a = some (.lst vs) ∧ Reps K ι H vs ts
  | .dk kvs => ∃ vs,H a = some (.dK vs) ∧ RepP K ι H vs kvs
  | .dt kvs => ∃ vs,H a = some (.dT vs) ∧ RepP K ι H vs kvs
  | .ins C fs => ∃ Ca dx vs,PySem.W.nsIn K mainGlobals (PySem.Str.ofString C) = some (some (.ref Ca)) ∧ H a = some (.ins Ca dx vs) ∧ RepF K ι H vs fs
structure Sim (K : PySem.W.Frag) (ι : List Addr) (S : Sto) (H : Hp) : Prop where
  len : ι.length = S.length
  nd : ι.Nodup
  ob : ∀ (i : Nat) a o,ι[i]? = some a → S[i]? = some o → ObR K ι H a o
  tab : LamX.Tabs Tb.T H
theorem ObR.gr {K : PySem.W.Frag} {ι ι' : List Addr} {H H' : Hp} {a : Addr} {o : O} (g : Gr ι ι' H H') (e : H' a = H a) (h : ObR K ι H a o) : ObR K ι' H' a o := by
  cases o with
  | lst ts => obtain ⟨vs,h,r⟩ := h; exact ⟨vs,e.trans h,r.gr g⟩
  | dk ts => obtain ⟨vs,h,r⟩ := h; exact ⟨vs,e.trans h,r.gr g⟩
  | dt ts => obtain ⟨vs,h,r⟩ := h; exact ⟨vs,e.trans h,r.gr g⟩
  | ins C ts => obtain ⟨Ca,dx,vs,hn,h,r⟩ := h; exact ⟨Ca,dx,vs,hn,e.trans h,r.gr g⟩
theorem ObR.has {K : PySem.W.Frag} {ι : List Addr} {H : Hp} {a : Addr} {o : O} (h : ObR K ι H a o) : ∃ u,H a = some u := by
  cases o with
  | lst ts => obtain ⟨vs,h,r⟩ := h; exact ⟨_,h⟩
  | dk ts => obtain ⟨vs,h,r⟩ := h; exact ⟨_,h⟩
  | dt ts => obtain ⟨vs,h,r⟩ := h; exact ⟨_,h⟩
  | ins C ts => obtain ⟨Ca,dx,vs,hn,h,r⟩ := h; exact ⟨_,h⟩
theorem ObR.mut {K : PySem.W.Frag} {ι : List Addr} {H : Hp} {a : Addr} {o : O} (h : ObR K ι H a o) : ∃ u,H a = some u ∧ HMut u := by
  cases o with
  | lst ts => obtain ⟨vs,h,r⟩ := h; exact ⟨_,h,trivial⟩
  | dk ts => obtain ⟨vs,h,r⟩ := h; exact ⟨_,h,trivial⟩
  | dt ts => obtain ⟨vs,h,r⟩ := h; exact ⟨_,h,trivial⟩
  | ins C ts => obtain ⟨Ca,dx,vs,hn,h,r⟩ := h; exact ⟨_,h,trivial⟩
section
variable {K : PySem.W.Frag} {ι : List Addr} {H H' : Hp} {Z : Sto}
theorem Sim.same (s : Sim K ι Z H) (m : Same H H') : Sim K ι Z H' := ⟨s.len, s.nd, fun i a o e1 e2 => by
  have h := s.ob i a o e1 e2
  obtain ⟨u,hu⟩ := h.has
  exact h.gr (Gr.same m) ((m _ _ hu).trans hu.symm),s.tab.ext m⟩
theorem Sim.at (s : Sim K ι Z H) {i : Nat} {o : O} (e : Z[i]? = some o) : ∃ a,ι[i]? = some a ∧ ObR K ι H a o := by
  have h1 : i < Z.length := (List.getElem?_eq_some_iff.mp e).1
  have h2 : i < ι.length := by rw [s.len]; exact h1
  exact ⟨ι[i],List.getElem?_eq_getElem h2,s.ob i _ o (List.getElem?_eq_getElem h2) e⟩
theorem Gr.new {p : Addr} {o : HO} (n : H p = none) : Gr ι (ι ++ [p]) H (upd H p o) :=
  ⟨fun i a h => by rw [List.getElem?_append_left (List.getElem?_eq_some_iff.mp h).1]; exact h,fun a xs h => by rw [upd_ne (ne_of_none h n)]; exact h,fun a o u h => by rw [upd_ne (ne_of_none h n)]; exact h,fun a fs h => by rw [upd_ne (ne_of_none h n)]; exact h,fun a φ h => by rw [upd_ne (ne_of_none h n)]; exact h,fun h => h.ext fun b o e => by rw [upd_ne (ne_of_none e n)]; exact e,fun a u h e m => (List.mem_append.mp h).elim id fun k => absurd e (by rw [List.mem_singleton.mp k,n]; intro z; cases z),fun a u h _ _ => by rw [upd_ne (ne_of_none h n)]; exact h⟩
theorem Gr.new0 {p : Addr} {o : HO} (n : H p = none) : Gr ι ι H (upd H p o) := Gr.same (Qx n)
theorem Sim.new (s : Sim K ι Z H) {p : Addr} {o : HO} {ob : O} (n : H p = none) (r : ObR K (ι ++ [p]) (upd H p o) p ob) : Sim K (ι ++ [p]) (Z ++ [ob]) (upd H p o) := by
  refine ⟨by rw [List.length_append,List.length_append,s.len]; rfl,?_,fun i a x e1 e2 => ?_,(Gr.new (ι := ι) n).tab s.tab⟩
  · rw [List.nodup_append]
    refine ⟨s.nd,by simp,fun a ha b hb => ?_⟩
    rw [List.mem_singleton.mp hb]
    intro e
    obtain ⟨i,h1,h2⟩ := List.mem_iff_getElem.mp ha
    have h3 : i < Z.length := by rw [← s.len]; exact h1
    obtain ⟨u,hu⟩ := (s.ob i a _ (by rw [← h2]; exact List.getElem?_eq_getElem h1) (List.getElem?_eq_getElem h3)).has
    rw [e,n] at hu
    cases hu
  · by_cases hi : i < Z.length
    · rw [List.getElem?_append_left hi] at e2
      rw [List.getElem?_append_left (by rw [s.len]; exact hi)] at e1
      have h := s.ob i a x e1 e2
      obtain ⟨u,hu⟩ := h.has
      exact h.gr (Gr.new n) (by rw [upd_ne (ne_of_none hu n)])
    · have hi' : Z.length ≤ i := Nat.le_of_not_lt hi
      rw [List.getElem?_append_right hi'] at e2
      rw [List.getElem?_append_right (by rw [s.len]; exact hi'), s.len] at e1
      obtain ⟨h1,h2⟩ := List.getElem?_eq_some_iff.mp e2
      have h0 : i - Z.length = 0 := by simpa using h1
      rw [h0] at e1 e2
      simp at e1 e2
      subst e1 e2
      exact r
theorem Gr.mut {a : Addr} {u o : HO} (h : H a = some u) (m : HMut u) (hi : a ∈ ι) : Gr ι ι H (upd H a o) := by
  have ne : ∀ b x,H b = some x → ¬ HMut x → b ≠ a := fun b x e nm z => by subst z; rw [h] at e; cases e; exact nm m
  exact ⟨fun _ _ h => h,fun b xs e => by rw [upd_ne (ne b _ e fun z => z)]; exact e,fun b o u e => by rw [upd_ne (ne b _ e fun z => z)]; exact e,fun b fs e => by rw [upd_ne (ne b _ e fun z => z)]; exact e,fun b φ e => by rw [upd_ne (ne b _ e fun z => z)]; exact e,fun t p hp => by
    obtain ⟨ps,h1,h2,h3⟩ := t p hp
    refine ⟨ps,by rw [upd_ne (ne _ _ h1 fun z => z)]; exact h1,h2,fun pos cv hc => ?_⟩
    obtain ⟨c,e1,e2⟩ := h3 pos cv hc
    exact ⟨c, e1, by rw [upd_ne (ne c _ e2 fun z => z)]; exact e2⟩, fun _ _ k _ _ => k, fun b u' e _ nb => by
    have hb : b ≠ a := fun z => nb (by rw [z]; exact hi)
    rw [upd_ne hb]; exact e⟩
theorem Sim.set (s : Sim K ι Z H) {i : Nat} {a : Addr} {o : HO} {ob : O} (hi : ι[i]? = some a) (r : ObR K ι (upd H a o) a ob) : Sim K ι (Z.set i ob) (upd H a o) := by
  have h1 : i < ι.length := (List.getElem?_eq_some_iff.mp hi).1
  have h2 : i < Z.length := by rw [← s.len]; exact h1
  obtain ⟨u,hu,mu⟩ := (s.ob i a _ hi (List.getElem?_eq_getElem h2)).mut
  refine ⟨by rw [List.length_set]; exact s.len,s.nd,fun j b x e1 e2 => ?_,(Gr.mut (ι := ι) hu mu (List.mem_of_getElem? hi)).tab s.tab⟩
  by_cases hj : j = i
  · subst hj
    rw [hi] at e1; cases e1
    rw [List.getElem?_set_self h2] at e2
    cases e2
    exact r
  · rw [List.getElem?_set_ne (Ne.symm hj)] at e2
    have hb : b ≠ a := fun z => by
      subst z
      obtain ⟨k1,k2⟩ := List.getElem?_eq_some_iff.mp e1
      obtain ⟨k3,k4⟩ := List.getElem?_eq_some_iff.mp hi
      exact hj ((List.getElem_inj s.nd).mp (k2.trans k4.symm))
    exact (s.ob j b x e1 e2).gr (Gr.mut hu mu (List.mem_of_getElem? hi)) (upd_ne hb)
end
abbrev Env := List (Option T)
def Envs (K : PySem.W.Frag) (ι : List Addr) (H : Hp) (σ : L2.St) (ρ : Env) : Prop := ∀ (i : Nat) t,ρ[i]? = some (some t) → ∃ v,σ[i]? = some (some v) ∧ Rep K ι H v t
theorem Envs.gr {K : PySem.W.Frag} {ι ι' : List Addr} {H H' : Hp} {σ : L2.St} {ρ : Env} (e : Envs K ι H σ ρ) (g : Gr ι ι' H H') : Envs K ι' H' σ ρ := fun i t h => by
  obtain ⟨v,h1,h2⟩ := e i t h
  exact ⟨v,h1,h2.gr g⟩
theorem Envs.set {K : PySem.W.Frag} {ι : List Addr} {H : Hp} {σ : L2.St} {ρ : Env} (e : Envs K ι H σ ρ) {v : V} {t : T} (r : Rep K ι H v t) (i : Nat) (hl : σ.length = ρ.length) : Envs K ι H (σ.set i (some v)) (ρ.set i (some t)) := fun j u h => by
  by_cases hj : j = i
  · subst hj
    by_cases hlt : j < ρ.length
    · rw [List.getElem?_set_self hlt] at h
      cases h
      exact ⟨v,List.getElem?_set_self (by rw [hl]; exact hlt),r⟩
    · rw [List.getElem?_eq_none (by rw [List.length_set]; omega)] at h
      cases h
  · rw [List.getElem?_set_ne (Ne.symm hj)] at h
    obtain ⟨w,h1,h2⟩ := e j u h
    exact ⟨w,by rw [List.getElem?_set_ne (Ne.symm hj)]; exact h1,h2⟩
def RepX (K : PySem.W.Frag) (ι : List Addr) (H : Hp) (cls : Value) (d : Option Addr) (x : Ex) : Prop :=
  (∃ c,cls = .ref c ∧ PySem.W.nsIn K mainGlobals x.cls = some (some (.ref c))) ∧ (match x.fs with
    | [] => d = none
    | fs => ∃ dd vs,d = some dd ∧ H dd = some (.xd vs) ∧ RepP K ι H vs fs)
section
variable {α β γ δ : Type}
def Post (rep : List Addr → Hp → β → α → Prop) (K : PySem.W.Frag) (W : WX) (σ : L2.St) (ι : List Addr) (H : Hp) (Q : β → Hp → Prop) : R α → Prop
  | .ok a S' => ∀ ι' H' b, Gr ι ι' H H' → Sim K ι' S' H' → rep ι' H' b a → Q b H'
  | .exc x S' => ∀ ι' H' cls d, Gr ι ι' H H' → Sim K ι' S' H' → RepX K ι' H' cls d x → W cls d σ H'
  | .stuck => False
def PostO (rep : List Addr → Hp → β → α → Prop) (K : PySem.W.Frag) (ι : List Addr) (H : Hp) (Q : β → Hp → Prop) : Option (α × Sto) → Prop
  | some (a, S') => ∀ ι' H' b, Gr ι ι' H H' → Sim K ι' S' H' → rep ι' H' b a → Q b H'
  | none => False
variable {rep : List Addr → Hp → β → α → Prop} {rep' : List Addr → Hp → δ → γ → Prop} {K : PySem.W.Frag} {W : WX} {σ : L2.St} {ι ι1 : List Addr} {H H1 : Hp} {Q : β → Hp → Prop} {Q' : δ → Hp → Prop}
theorem Post.shift {r : R α} (h : Post rep K W σ ι H Q r) (g : Gr ι ι1 H H1) : Post rep K W σ ι1 H1 Q r := by
  cases r with
  | ok a S => exact fun ι' H' b g' => h ι' H' b (g.trans g')
  | exc x S => exact fun ι' H' c d g' => h ι' H' c d (g.trans g')
  | stuck => exact h
theorem PostO.shift {r : Option (α × Sto)} (h : PostO rep K ι H Q r) (g : Gr ι ι1 H H1) : PostO rep K ι1 H1 Q r := by
  cases r with
  | some a => exact fun ι' H' b g' => h ι' H' b (g.trans g')
  | none => exact h
theorem Jj {r : Option (α × Sto)} (h : Post rep K W σ ι H Q (lift r)) : PostO rep K ι H Q r := by
  cases r with
  | some a => exact h
  | none => exact h
theorem Zg {r : R α} {k : α → Sto → R γ} (h : Post rep' K W σ ι H Q' (r.bind k)) :
    Post rep K W σ ι H (fun b H1 => ∃ ι1 S1 a, Gr ι ι1 H H1 ∧ Sim K ι1 S1 H1 ∧ rep ι1 H1 b a ∧ Post rep' K W σ ι1 H1 Q' (k a S1)) r := by
  cases r with
  | ok a S => exact fun ι1 H1 b g s r => ⟨ι1,S,a,g,s,r,h.shift g⟩
  | exc x S => exact h
  | stuck => exact h
theorem Post.imp {r : R α} {Q2 : β → Hp → Prop} (h : Post rep K W σ ι H Q r) (i : ∀ b H,Q b H → Q2 b H) : Post rep K W σ ι H Q2 r := by
  cases r with
  | ok a S => exact fun ι1 H1 b g s r => i _ _ (h ι1 H1 b g s r)
  | exc x S => exact h
  | stuck => exact h
end
abbrev FE := Env → Sto → R T
abbrev FT := Env → Sto → R Bool
abbrev FA := Env → Sto → R (List T)
def bEq (_ : List Addr) (_ : Hp) (b c : Bool) : Prop := b = c
structure Wc where
  w : WX
  j : L2.St → List Addr → Hp → Prop
  st : ∀ σ ι ι' H H', Gr ι ι' H H' → j σ ι H → j σ ι' H'
def Wt (W : WX) : Wc := ⟨W,fun _ _ _ => True,fun _ _ _ _ _ _ _ => trivial⟩
structure Ie (K : PySem.W.Frag) (W : Wc) (ι : List Addr) (H : Hp) (σ : L2.St) (ρ : Env) (Z : Sto) : Prop where
  len : σ.length = ρ.length
  env : Envs K ι H σ ρ
  sim : Sim K ι Z H
  jj : W.j σ ι H
theorem Ie.gr {K : PySem.W.Frag} {W : Wc} {ι ι' : List Addr} {H H' : Hp} {σ : L2.St} {ρ : Env} {Z Z' : Sto} (h : Ie K W ι H σ ρ Z) (g : Gr ι ι' H H') (s : Sim K ι' Z' H') : Ie K W ι' H' σ ρ Z' := ⟨h.len, h.env.gr g, s, W.st _ _ _ _ _ g h.jj⟩
def tF (K : PySem.W.Frag) (W : Wc) (f : FE) : TE := fun σ H Q => ∃ ι ρ Z,Ie K W ι H σ ρ Z ∧ Post (Rep K) K W.w σ ι H Q (f ρ Z)
def tFT (K : PySem.W.Frag) (W : Wc) (f : FT) : TT := fun σ H Q => ∃ ι ρ Z,Ie K W ι H σ ρ Z ∧ Post bEq K W.w σ ι H Q (f ρ Z)
def tFA (K : PySem.W.Frag) (W : Wc) (f : FA) : TA := fun σ H Q => ∃ ι ρ Z,Ie K W ι H σ ρ Z ∧ Post (Reps K) K W.w σ ι H Q (f ρ Z)
abbrev FJ (X : Cx) (K : PySem.W.Frag) (W : Wc) (e : Expr) (f : FE) : Prop := PE X e (tF K W f)
abbrev FTJ (X : Cx) (K : PySem.W.Frag) (W : Wc) (e : Expr) (f : FT) : Prop := PT X e (tFT K W f)
abbrev FWJ (X : Cx) (K : PySem.W.Frag) (W : Wc) (e : Expr) (f : FT) : Prop := PW X e (tFT K W f)
abbrev FAJ (X : Cx) (K : PySem.W.Frag) (W : Wc) (es : List Expr) (f : FA) : Prop := PA X es (tFA K W f)
theorem Vw {X : Cx} {e : Expr} {t t' : TE} (h : PE X e t) (i : ∀ σ H Q, t' σ H Q → t σ H Q) : PE X e t' := ⟨fun pins s σ H Q I q => h.run pins s σ H Q I (i _ _ _ q)⟩
theorem Z8j {X : Cx} {e : Expr} {t t' : TT} (h : PT X e t) (i : ∀ σ H Q, t' σ H Q → t σ H Q) : PT X e t' := ⟨fun pins s σ H Q I q => h.run pins s σ H Q I (i _ _ _ q)⟩
theorem Zbg {X : Cx} {e : Expr} {t t' : TT} (h : PW X e t) (i : ∀ σ H Q, t' σ H Q → t σ H Q) : PW X e t' := ⟨fun w pins s σ H Q I q => h.run w pins s σ H Q I (i _ _ _ q)⟩
theorem Zbh {X : Cx} {es : List Expr} {t t' : TA} (h : PA X es t) (i : ∀ σ H Q, t' σ H Q → t σ H Q) : PA X es t' := ⟨fun p pins s σ H Q I q => h.run p pins s σ H Q I (i _ _ _ q)⟩
theorem Je {X : Cx} {st : Stmt} {t t' : TS} (h : PS X st t) (i : ∀ D σ H, t' D σ H → t D σ H) : PS X st t' := ⟨fun pins s σ H D I q => h.run pins s σ H D I (i _ _ _ q)⟩
theorem Z8k {X : Cx} {st : List Stmt} {t t' : TS} (h : PSs X st t) (i : ∀ D σ H, t' D σ H → t D σ H) : PSs X st t' := ⟨fun pins s σ H D I q => h.run pins s σ H D I (i _ _ _ q)⟩
def eVar (i : Nat) : FE := fun ρ Z => match ρ[i]? with
  | some (some t) => .ok t Z
  | _ => .stuck
def eC (t : T) : FE := fun _ Z => .ok t Z
def eBin (g : T → T → Sto → Option (T × Sto)) (a b : FE) : FE := fun ρ Z => (a ρ Z).bind fun x Z1 => (b ρ Z1).bind fun y Z2 => lift (g x y Z2)
def eUn (g : T → Sto → Option (T × Sto)) (a : FE) : FE := fun ρ Z => (a ρ Z).bind fun x Z1 => lift (g x Z1)
def eIf (c : FT) (a b : FE) : FE := fun ρ Z => (c ρ Z).bind fun x Z1 => if x = true then a ρ Z1 else b ρ Z1
def aNil : FA := fun _ Z => .ok [] Z
def aCons (a : FE) (r : FA) : FA := fun ρ Z => (a ρ Z).bind fun x Z1 => (r ρ Z1).bind fun xs Z2 => .ok (x :: xs) Z2
section
variable {X : Cx} {K : PySem.W.Frag} {W : Wc} {a b c : Expr} {fa fb fc : FE} {pos : Pos}
theorem Zb {i : Nat} {x : PySem.Str} (h : PE X (.Name x pos) (tVar i)) : FJ X K W (.Name x pos) (eVar i) := Vw h fun σ H Q q => by
  obtain ⟨ι,ρ,Z,is,p⟩ := q
  unfold eVar at p
  split at p
  · rename_i t e
    obtain ⟨v,h1,h2⟩ := is.env i t e
    exact ⟨v,h1,p ι H v Gr.refl is.sim h2⟩
  · exact p.elim
theorem f_c {v : V} {t : T} (h : PE X a (tC v)) (r : ∀ ι H,Rep K ι H v t) : FJ X K W a (eC t) := Vw h fun σ H Q q => by
  obtain ⟨ι,ρ,Z,is,p⟩ := q
  exact p ι H v Gr.refl is.sim (r ι H)
theorem f_int {i j} : FJ X K W (.Constant (.int i) j pos) (eC (.int i)) := f_c pe_int fun _ _ => .int i
theorem f_bl {i j} : FJ X K W (.Constant (.bool i) j pos) (eC (.bl i)) := f_c pe_bl fun _ _ => .bl i
theorem Zci {j} : FJ X K W (.Constant .none j pos) (eC .non) := f_c pe_non fun _ _ => .non
theorem Zo {x j} (l : List Nat) (e : x = S l := by rfl) : FJ X K W (.Constant (.str x) j pos) (eC (.str l)) := f_c pe_str fun _ _ => by rw [e]; exact .str l
def rF2 (K : PySem.W.Frag) (g : T → T → Sto → Option (T × Sto)) : R2 := fun x y H Q => ∃ ι Z tx ty,Sim K ι Z H ∧ Rep K ι H x tx ∧ Rep K ι H y ty ∧ PostO (Rep K) K ι H Q (g tx ty Z)
def rFC (K : PySem.W.Frag) (g : List T → Sto → Option (T × Sto)) : List V → Hp → VK → Prop := fun xs H Q => ∃ ι Z ts,Sim K ι Z H ∧ Reps K ι H xs ts ∧ PostO (Rep K) K ι H Q (g ts Z)
theorem Zae {r : R2} {g : T → T → Sto → Option (T × Sto)} (hr : ∀ x y H Q,rF2 K g x y H Q → r x y H Q) {σ : L2.St} {H : Hp} {Q : VK} (h : tF K W (eBin g fa fb) σ H Q) : tOp r (tF K W fa) (tF K W fb) σ H Q := by
  obtain ⟨ι,ρ,Z,is,p⟩ := h
  refine ⟨ι,ρ,Z,is,(Zg p).imp fun x H1 q => ?_⟩
  obtain ⟨ι1,Z1,tx,g1,s1,r1,p1⟩ := q
  refine ⟨ι1,ρ,Z1,is.gr g1 s1,(Zg p1).imp fun y H2 q2 => ?_⟩
  obtain ⟨ι2,Z2,ty,g2,s2,r2,p2⟩ := q2
  exact hr _ _ _ _ ⟨ι2,Z2,tx,ty,s2,r1.gr g2,r2,Jj p2⟩
def OpF (X : Cx) (K : PySem.W.Frag) (f : Value → Value → Sem Value) (g : T → T → Sto → Option (T × Sto)) : Prop := OpR X f (rF2 K g)
theorem Vh {f : Value → Value → Sem Value} {r r' : R2} (h : OpR X f r) (i : ∀ x y H Q, r' x y H Q → r x y H Q) : OpR X f r' := fun pins s σ H x y v u Q I rx ry q => h pins s σ H x y v u Q I rx ry (i _ _ _ _ q)
theorem Ua {f : Value} {r r' : List V → Hp → VK → Prop} (h : CallR X f r) (i : ∀ xs H Q, r' xs H Q → r xs H Q) : CallR X f r' := fun pins s σ H xs us Q I rs q => h pins s σ H xs us Q I rs (i _ _ _ q)
theorem Z0l {f : Value → Value → Sem Value} {r r' : R2} (h : OpR X f r) (h' : OpR X f r') : OpR X f (rOr r r') := fun pins s σ H x y v u Q I rx ry q => q.elim (h pins s σ H x y v u Q I rx ry) (h' pins s σ H x y v u Q I rx ry)
theorem f_op {op : Operator} {g : T → T → Sto → Option (T × Sto)} (ho : OpF X K (binaryOp op) g) (ha : FJ X K W a fa) (hb : FJ X K W b fb) : FJ X K W (.BinOp a op b pos) (eBin g fa fb) :=
  Vw (pe_op ho ha hb) fun _ _ _ h => Zae (fun _ _ _ _ h => h) h
theorem Ve {op : CmpOp} {g : T → T → Sto → Option (T × Sto)} (ho : OpF X K (compareOp op) g) (ha : FJ X K W a fa) (hb : FJ X K W b fb) (hm : behindInMarks op b = false) : FJ X K W (.Compare a [op] [b] pos) (eBin g fa fb) :=
  Vw (pe_cmpR ho ha hb hm) fun _ _ _ h => Zae (fun _ _ _ _ h => h) h
theorem f_ix {g : T → T → Sto → Option (T × Sto)} (hr : IxR X (rF2 K g)) (ha : FJ X K W a fa) (hb : FJ X K W b fb) (hs : PlainIx b) : FJ X K W (.Subscript a b pos) (eBin g fa fb) :=
  Vw (pe_ix hr ha hb hs) fun _ _ _ h => Zae (fun _ _ _ _ h => h) h
theorem f_if {t : FT} (hc : FTJ X K W c t) (ha : FJ X K W a fa) (hb : FJ X K W b fb) : FJ X K W (.IfExp c a b pos) (eIf t fa fb) := Vw (pe_ifExp hc ha hb) fun σ H Q h => by
  obtain ⟨ι,ρ,Z,is,p⟩ := h
  refine ⟨ι,ρ,Z,is,(Zg p).imp fun x H1 q => ?_⟩
  obtain ⟨ι1,Z1,tx,g1,s1,r1,p1⟩ := q
  cases (show x = tx from r1)
  cases x with
  | true => exact ⟨ι1,ρ,Z1,is.gr g1 s1,p1⟩
  | false => exact ⟨ι1,ρ,Z1,is.gr g1 s1,p1⟩
theorem Ze : FAJ X K W [] aNil := Zbh pa_nil fun σ H Q h => by
  obtain ⟨ι,ρ,Z,is,p⟩ := h
  exact p ι H [] Gr.refl is.sim .nil
theorem Z9 {es : List Expr} {fr : FA} (ha : FJ X K W a fa) (hr : FAJ X K W es fr) (hs : starEach (a :: es) X.env = (false,eval a X.env) :: starEach es X.env := by rfl) : FAJ X K W (a :: es) (aCons fa fr) := Zbh (pa_cons ha hr hs) fun σ H Q h => by
  obtain ⟨ι,ρ,Z,is,p⟩ := h
  refine ⟨ι,ρ,Z,is,(Zg p).imp fun x H1 q => ?_⟩
  obtain ⟨ι1,Z1,tx,g1,s1,r1,p1⟩ := q
  refine ⟨ι1,ρ,Z1,is.gr g1 s1,(Zg p1).imp fun y H2 q2 => ?_⟩
  obtain ⟨ι2,Z2,ty,g2,s2,r2,p2⟩ := q2
  exact p2 ι2 H2 _ Gr.refl s2 (.cons (r1.gr g2) r2)
end
def Lim : Nat := 1000000
theorem Zbi : Lim ≤ sizeLine := by decide
@[irreducible] def Fuel : Nat := Lim + 2
theorem Z5k : Fuel = Lim + 2 := by unfold Fuel; rfl
theorem Jf {n : Nat} (h : n ≤ Lim) : n ≤ sizeLine := Nat.le_trans h Zbi
def asList : T → Sto → Option (List T)
  | .loc i,Z => match Z[i]? with
    | some (.lst ts) => some ts
    | _ => none
  | .frl ts,_ => some ts
  | _,_ => none
theorem Z32 {K : PySem.W.Frag} {ι : List Addr} {H : Hp} {Z : Sto} {v : V} {t : T} {ts : List T} (s : Sim K ι Z H) (r : Rep K ι H v t) (e : asList t Z = some ts) : ∃ a vs,v = .ref a ∧ SqL K H a vs ∧ Reps K ι H vs ts := by
  cases r with
  | loc h =>
    simp only [asList] at e
    split at e
    · rename_i ts' hz
      obtain ⟨a', h1, h2⟩ := s.at hz
      rw [h] at h1
      cases h1
      cases e
      obtain ⟨vs,h3,h4⟩ := h2
      exact ⟨_,vs,rfl,SqL.of h3,h4⟩
    · cases e
  | frl h r => cases e; exact ⟨_,_,rfl,h.sq,r⟩
  | _ => cases e
def truth : T → Sto → Option Bool
  | .bl b,_ => some b
  | .int i,_ => some (i != 0)
  | .non,_ => some false
  | .str l,_ => if l.length ≤ Lim then some (!l.isEmpty) else none
  | .tup ts,_ => some (!ts.isEmpty)
  | .loc i,Z => match Z[i]? with
    | some (.lst ts) => some (!ts.isEmpty)
    | some (.dk ts) => some (!ts.isEmpty)
    | _ => none
  | .frl ts,_ => some (!ts.isEmpty)
  | _,_ => none
theorem Qy {α β : Type} {a : List α} {b : List β} (h : a.length = b.length) : a.isEmpty = b.isEmpty := by
  cases a <;> cases b <;> first | rfl | (simp at h)
theorem Z0m {K : PySem.W.Frag} {ι : List Addr} {H : Hp} {Z : Sto} {v : V} {t : T} {k : Bool} (s : Sim K ι Z H) (r : Rep K ι H v t) (e : truth t Z = some k) : TruV K v H k := by
  cases r with
  | non => cases e; rfl
  | bl b => cases e; rfl
  | int i => cases e; rfl
  | str l =>
    simp only [truth] at e
    split at e
    · rename_i h
      cases e
      refine ⟨by rw [S_len]; exact Jf h,?_⟩
      rw [S_len]
      cases l with
      | nil => rfl
      | cons c l => simp; omega
    · cases e
  | tup h r => cases e; exact .inr (.inl ⟨_,h,by rw [Qy r.length]⟩)
  | loc h =>
    simp only [truth] at e
    split at e
    · rename_i ts' hz
      obtain ⟨a', h1, h2⟩ := s.at hz
      rw [h] at h1
      cases h1
      cases e
      obtain ⟨vs,h3,h4⟩ := h2
      exact .inl ⟨vs,SqL.of h3,by rw [Qy h4.length]⟩
    · rename_i ts' hz
      obtain ⟨a', h1, h2⟩ := s.at hz
      rw [h] at h1
      cases h1
      cases e
      obtain ⟨vs,h3,h4⟩ := h2
      exact .inr (.inr ⟨vs,h3,by rw [Qy h4.length]⟩)
    · cases e
  | frl h r => cases e; exact .inl ⟨_,h.sq,by rw [Qy r.length]⟩
  | ref a => cases e
  | ty n => cases e
  | lam h j => cases e
  | ktp h r => cases e
def eTru (f : FE) : FT := fun ρ Z => (f ρ Z).bind fun x Z1 => match truth x Z1 with
  | some b => .ok b Z1
  | none => .stuck
def tAnd (a b : FT) : FT := fun ρ Z => (a ρ Z).bind fun x Z1 => if x = true then b ρ Z1 else .ok false Z1
def tOr (a b : FT) : FT := fun ρ Z => (a ρ Z).bind fun x Z1 => if x = true then .ok true Z1 else b ρ Z1
def tNot (a : FT) : FT := fun ρ Z => (a ρ Z).bind fun x Z1 => .ok (!x) Z1
def eAnd (a b : FE) : FE := fun ρ Z => (a ρ Z).bind fun x Z1 => match truth x Z1 with
  | some true => b ρ Z1
  | some false => .ok x Z1
  | none => .stuck
def eOr (a b : FE) : FE := fun ρ Z => (a ρ Z).bind fun x Z1 => match truth x Z1 with
  | some true => .ok x Z1
  | some false => b ρ Z1
  | none => .stuck
def eNot (a : FE) : FE := fun ρ Z => (a ρ Z).bind fun x Z1 => match truth x Z1 with
  | some b => .ok (.bl (!b)) Z1
  | none => .stuck
section
variable {X : Cx} {K : PySem.W.Frag} {W : Wc} {a b c : Expr} {fa fb fc : FE} {ta tb : FT} {pos : Pos} {rest : List Expr}
theorem V3 (hK : X.K = K) (ha : FJ X K W a fa) (he : ∀ whole,isTrue a X.env whole = (do let v ← whole; standAt a.pos; holding [v] (truthy v)) := by intro _; rfl) : FTJ X K W a (eTru fa) := by
  subst hK
  refine Z8j (pt_truth ha he) fun σ H Q h => ?_
  obtain ⟨ι,ρ,Z,is,p⟩ := h
  refine ⟨ι,ρ,Z,is,(Zg p).imp fun x H1 q => ?_⟩
  obtain ⟨ι1,Z1,tx,g1,s1,r1,p1⟩ := q
  split at p1
  · rename_i k e
    exact ⟨k,Z0m s1 r1 e,p1 ι1 H1 k Gr.refl s1 rfl⟩
  · exact p1.elim
def eBl (f : FE) : FT := fun ρ Z => (f ρ Z).bind fun x Z1 => match x with
  | .bl b => .ok b Z1
  | _ => .stuck
theorem Ym {op : CmpOp} {g : T → T → Sto → Option (T × Sto)} (ho : OpF X K (compareOp op) g) (ha : FJ X K W a fa) (hb : FJ X K W b fb) (hm : behindInMarks op b = false) : FTJ X K W (.Compare a [op] [b] pos) (eBl (eBin g fa fb)) := by
  refine Z8j (pt_cmpR ho ha hb hm) fun σ H Q h => ?_
  obtain ⟨ι,ρ,Z,is,p⟩ := h
  refine Zae (fun _ _ _ _ h => h) ⟨ι,ρ,Z,is,(Zg p).imp fun x H1 q => ?_⟩
  obtain ⟨ι1,Z1,tx,g1,s1,r1,p1⟩ := q
  cases r1 with
  | bl b => exact ⟨b,rfl,p1 ι1 H1 b Gr.refl s1 rfl⟩
  | _ => exact p1.elim
theorem Z5l (ha : FTJ X K W a ta) : FWJ X K W (.BoolOp .And [a] pos) ta := pw_and1 ha
theorem Z0n (ha : FTJ X K W a ta) : FWJ X K W (.BoolOp .Or [a] pos) ta := pw_or1 ha
theorem Z8l (ha : FTJ X K W a ta) (hb : FWJ X K W (.BoolOp .And (b :: rest) pos) tb) : FWJ X K W (.BoolOp .And (a :: b :: rest) pos) (tAnd ta tb) := Zbg (pw_and ha hb) fun σ H Q h => by
  obtain ⟨ι,ρ,Z,is,p⟩ := h
  refine ⟨ι,ρ,Z,is,(Zg p).imp fun x H1 q => ?_⟩
  obtain ⟨ι1,Z1,tx,g1,s1,r1,p1⟩ := q
  cases (show x = tx from r1)
  cases x with
  | true => exact ⟨ι1,ρ,Z1,is.gr g1 s1,p1⟩
  | false => exact p1 ι1 H1 _ Gr.refl s1 rfl
theorem Z3n (ha : FTJ X K W a ta) (hb : FWJ X K W (.BoolOp .Or (b :: rest) pos) tb) : FWJ X K W (.BoolOp .Or (a :: b :: rest) pos) (tOr ta tb) := Zbg (pw_or ha hb) fun σ H Q h => by
  obtain ⟨ι,ρ,Z,is,p⟩ := h
  refine ⟨ι,ρ,Z,is,(Zg p).imp fun x H1 q => ?_⟩
  obtain ⟨ι1,Z1,tx,g1,s1,r1,p1⟩ := q
  cases (show x = tx from r1)
  cases x with
  | true => exact p1 ι1 H1 _ Gr.refl s1 rfl
  | false => exact ⟨ι1,ρ,Z1,is.gr g1 s1,p1⟩
theorem Jg (ha : FTJ X K W a ta) : FTJ X K W (.UnaryOp .Not a pos) (tNot ta) := Z8j (pt_not ha) fun σ H Q h => by
  obtain ⟨ι,ρ,Z,is,p⟩ := h
  refine ⟨ι,ρ,Z,is,(Zg p).imp fun x H1 q => ?_⟩
  obtain ⟨ι1,Z1,tx,g1,s1,r1,p1⟩ := q
  cases (show x = tx from r1)
  exact p1 ι1 H1 _ Gr.refl s1 rfl
theorem Z4c {op} (h : FJ X K W a fa) : FJ X K W (.BoolOp op [a] pos) fa := pe_one h
theorem Zaf (hK : X.K = K) (ha : FJ X K W a fa) (hb : FJ X K W (.BoolOp .And (b :: rest) pos) fb) : FJ X K W (.BoolOp .And (a :: b :: rest) pos) (eAnd fa fb) := by
  subst hK
  refine Vw (pe_andT ha hb) fun σ H Q h => ?_
  obtain ⟨ι,ρ,Z,is,p⟩ := h
  refine ⟨ι,ρ,Z,is,(Zg p).imp fun x H1 q => ?_⟩
  obtain ⟨ι1,Z1,tx,g1,s1,r1,p1⟩ := q
  split at p1
  · rename_i e; exact ⟨true,Z0m s1 r1 e,ι1,ρ,Z1,is.gr g1 s1,p1⟩
  · rename_i e; exact ⟨false,Z0m s1 r1 e,p1 ι1 H1 _ Gr.refl s1 r1⟩
  · exact p1.elim
theorem f_or (hK : X.K = K) (ha : FJ X K W a fa) (hb : FJ X K W (.BoolOp .Or (b :: rest) pos) fb) : FJ X K W (.BoolOp .Or (a :: b :: rest) pos) (eOr fa fb) := by
  subst hK
  refine Vw (pe_orT ha hb) fun σ H Q h => ?_
  obtain ⟨ι,ρ,Z,is,p⟩ := h
  refine ⟨ι,ρ,Z,is,(Zg p).imp fun x H1 q => ?_⟩
  obtain ⟨ι1,Z1,tx,g1,s1,r1,p1⟩ := q
  split at p1
  · rename_i e; exact ⟨true,Z0m s1 r1 e,p1 ι1 H1 _ Gr.refl s1 r1⟩
  · rename_i e; exact ⟨false,Z0m s1 r1 e,ι1,ρ,Z1,is.gr g1 s1,p1⟩
  · exact p1.elim
end
end Fx
set_option maxHeartbeats 4000000
namespace Fx
open PySem PySem.Spec PyProof.Rows L2 SX Ap
variable [Tb]
section
variable {K : PySem.W.Frag} {ι : List Addr} {H : Hp} {Q : VK} {Z : Sto} {t : T} {ts : List T} {v : V} {vs : List V}
theorem Zz (p : PostO (Rep K) K ι H Q (some (t,Z))) (s : Sim K ι Z H) (r : Rep K ι H v t) : Q v H := p ι H v Gr.refl s r
theorem Sim.newL (s : Sim K ι Z H) (r : Reps K ι H vs ts) {p : Addr} (n : H p = none) : Sim K (ι ++ [p]) (Z ++ [.lst ts]) (upd H p (.lst vs)) := s.new n ⟨vs,upd_same,r.gr (Gr.new n)⟩
theorem Z6r (s : Sim K ι Z H) {p : Addr} {H' : Hp} : Rep K (ι ++ [p]) H' (.ref p) (.loc Z.length) := .loc (by rw [← s.len]; simp)
theorem Z5m (q : PostO (Rep K) K ι H Q (some (.loc Z.length,Z ++ [.lst ts]))) (s : Sim K ι Z H) (r : Reps K ι H vs ts) : ∀ p,H p = none → Q (.ref p) (upd H p (.lst vs)) := fun p n =>
  q (ι ++ [p]) _ _ (Gr.new n) (s.newL r n) (Z6r s)
theorem Z5n (q : PostO (Rep K) K ι H Q (some (.tup ts,Z))) (s : Sim K ι Z H) (r : Reps K ι H vs ts) : ∀ p,H p = none → Q (.ref p) (upd H p (.tup vs)) := fun p n =>
  q ι _ _ (Gr.new0 n) (s.same (Qx n)) (.tup (SqT.of upd_same) (r.gr (Gr.new0 n)))
theorem Rep.tupE (r : Rep K ι H v (.tup ts)) : ∃ a vs,v = .ref a ∧ SqT K H a vs ∧ Reps K ι H vs ts := by
  cases r with
  | tup h r => exact ⟨_,_,rfl,h,r⟩
theorem Jk {i : Nat} {ts : List T} (s : Sim K ι Z H) (e : Z[i]? = some (.lst ts)) (r : Rep K ι H v (.loc i)) : ∃ a vs,v = .ref a ∧ ι[i]? = some a ∧ H a = some (.lst vs) ∧ Reps K ι H vs ts := by
  cases r with
  | loc h =>
    obtain ⟨a,h1,vs,h2,h3⟩ := s.at e
    rw [h] at h1; cases h1
    exact ⟨_,vs,rfl,h,h2,h3⟩
end
def getL (Z : Sto) (i : Nat) : Option (List T) := match Z[i]? with
  | some (.lst ts) => some ts
  | _ => none
theorem Uy {Z : Sto} {i : Nat} {ts : List T} (h : getL Z i = some ts) : Z[i]? = some (.lst ts) := by
  unfold getL at h
  split at h
  · rename_i ts' e; cases h; exact e
  · cases h
def gAdd : T → T → Sto → Option (T × Sto)
  | .int i,.int j,Z => some (.int (i + j),Z)
  | .str a,.str b,Z => if a.length + b.length ≤ Lim then some (.str (a ++ b),Z) else none
  | .tup a,.tup b,Z => if a.length + b.length ≤ Lim then some (.tup (a ++ b),Z) else none
  | .loc i,.loc j,Z => match getL Z i,getL Z j with
    | some a,some b => if a.length + b.length ≤ Lim then some (.loc Z.length,Z ++ [.lst (a ++ b)]) else none
    | _,_ => none
  | _,_,_ => none
def gSub : T → T → Sto → Option (T × Sto)
  | .int i,.int j,Z => some (.int (i - j),Z)
  | _,_,_ => none
def mulOk (i j : Int) : Bool := (decide (-(2 ^ 64) < i) && decide (i < 2 ^ 64)) || (decide (-(2 ^ 64) < j) && decide (j < 2 ^ 64))
def gMul : T → T → Sto → Option (T × Sto)
  | .int i,.int j,Z => if mulOk i j = true then some (.int (i * j),Z) else none
  | .str l,.int k,Z => if -100000 ≤ k ∧ k ≤ 100000 ∧ l.length * k.toNat ≤ 100000 then some (.str (repL k.toNat l),Z) else none
  | .loc i,.int k,Z => match getL Z i with
    | some a => if -100000 ≤ k ∧ k ≤ 100000 ∧ a.length * k.toNat ≤ Lim then some (.loc Z.length,Z ++ [.lst (List.replicate k.toNat a).flatten]) else none
    | _ => none
  | _,_,_ => none
def gDiv : T → T → Sto → Option (T × Sto)
  | .int i,.int j,Z => if 0 < j ∧ j < 2 ^ 200 then some (.int (i / j),Z) else none
  | _,_,_ => none
def gMod : T → T → Sto → Option (T × Sto)
  | .int i,.int j,Z => if 0 < j then some (.int (i % j),Z) else none
  | _,_,_ => none
def gPow : T → T → Sto → Option (T × Sto)
  | .int i,.int j,Z => if 0 ≤ j ∧ j ≤ 1000000 ∧ i.natAbs < 2 ^ 64 then some (.int (i ^ j.toNat),Z) else none
  | _,_,_ => none
theorem Reps.replicate {K : PySem.W.Frag} {ι : List Addr} {H : Hp} {vs : List V} {ts : List T} (r : Reps K ι H vs ts) : ∀ n : Nat,Reps K ι H (List.replicate n vs).flatten (List.replicate n ts).flatten
  | 0 => .nil
  | n + 1 => by
    rw [List.replicate_succ,List.replicate_succ,List.flatten_cons,List.flatten_cons]
    exact r.append (r.replicate n)
theorem S_app (a b : List Nat) : S a ++ S b = S (a ++ b) := by
  show (⟨a.toArray ++ b.toArray⟩ : PySem.Str) = ⟨(a ++ b).toArray⟩
  simp
section
variable {X : Cx} {K : PySem.W.Frag}
theorem Z8m : OpF X K (binaryOp .Sub) gSub := Vh op_sub fun x y H Q h => by
  obtain ⟨ι,Z,tx,ty,s,rx,ry,p⟩ := h
  unfold gSub at p
  split at p
  · cases rx; cases ry; exact ⟨_,_,rfl,rfl,Zz p s (.int _)⟩
  · exact p.elim
theorem Z5o : OpF X K (binaryOp .Mod) gMod := Vh op_mod fun x y H Q h => by
  obtain ⟨ι,Z,tx,ty,s,rx,ry,p⟩ := h
  unfold gMod at p
  split at p
  · split at p
    · cases rx; cases ry; exact ⟨_,_,rfl,rfl,by assumption,Zz p s (.int _)⟩
    · exact p.elim
  · exact p.elim
theorem Z7o : OpF X K (binaryOp .FloorDiv) gDiv := Vh op_fdivW fun x y H Q h => by
  obtain ⟨ι,Z,tx,ty,s,rx,ry,p⟩ := h
  unfold gDiv at p
  split at p
  · split at p
    · rename_i hj
      cases rx; cases ry; exact ⟨_,_,rfl,rfl,wide_div (b := 200) hj.1 (by have := hj.1; have := hj.2; omega) (by decide) (by decide),Zz p s (.int _)⟩
    · exact p.elim
  · exact p.elim
theorem Z2q : OpF X K (binaryOp .Pow) gPow := Vh op_pow fun x y H Q h => by
  obtain ⟨ι,Z,tx,ty,s,rx,ry,p⟩ := h
  unfold gPow at p
  split at p
  · split at p
    · cases rx; cases ry; exact ⟨_,_,rfl,rfl,by assumption,Zz p s (.int _)⟩
    · exact p.elim
  · exact p.elim
theorem Qa (hK : X.K = K) : OpF X K (binaryOp .Add) gAdd := by
  subst hK
  refine Vh (Z0l (Z0l op_add op_add_str) (Z0l op_catA op_cat)) fun x y H Q h => ?_
  obtain ⟨ι,Z,tx,ty,s,rx,ry,p⟩ := h
  unfold gAdd at p
  split at p
  · cases rx; cases ry; exact .inl (.inl ⟨_,_,rfl,rfl,Zz p s (.int _)⟩)
  · split at p
    · rename_i hz
      cases rx; cases ry
      exact .inl (.inr ⟨_,_,rfl,rfl,by rw [S_len,S_len]; exact Jf hz,by rw [S_app]; exact Zz p s (.str _)⟩)
    · exact p.elim
  · split at p
    · rename_i hz
      obtain ⟨a,xs,rfl,ha,ra⟩ := rx.tupE
      obtain ⟨b,ys,rfl,hb,rb⟩ := ry.tupE
      refine .inr (.inl ⟨a,b,xs,ys,rfl,rfl,ha,hb,by rw [ra.length,rb.length]; exact Jf hz,fun e => ?_,fun _ e => ?_,fun _ _ => Z5n p s (ra.append rb)⟩)
      · subst e; cases ra; exact Zz p s (by rw [List.nil_append]; exact ry)
      · subst e; cases rb; exact Zz p s (by rw [List.append_nil]; exact rx)
    · exact p.elim
  · split at p
    · rename_i a b e1 e2
      split at p
      · rename_i hz
        obtain ⟨x,xs,rfl,_,hx,r1⟩ := Jk s (Uy e1) rx
        obtain ⟨y,ys,rfl,_,hy,r2⟩ := Jk s (Uy e2) ry
        exact .inr (.inr ⟨x,y,xs,ys,rfl,rfl,hx,hy,by rw [r1.length,r2.length]; exact Jf hz,Z5m p s (r1.append r2)⟩)
      · exact p.elim
    · exact p.elim
  · exact p.elim
theorem Zcj {i j : Int} (h : mulOk i j = true) : CMul i j := by
  unfold mulOk at h
  rw [Bool.or_eq_true,Bool.and_eq_true,Bool.and_eq_true] at h
  rcases h with ⟨a,b⟩ | ⟨a,b⟩
  · exact .inl ⟨of_decide_eq_true a,of_decide_eq_true b⟩
  · exact .inr ⟨of_decide_eq_true a,of_decide_eq_true b⟩
theorem Z3o : OpF X K (binaryOp .Mult) gMul := by
  refine Vh (Z0l op_mul (Z0l Z7m op_rep)) fun x y H Q h => ?_
  obtain ⟨ι,Z,tx,ty,s,rx,ry,p⟩ := h
  unfold gMul at p
  split at p
  · split at p
    · rename_i hc
      cases rx; cases ry; exact .inl ⟨_,_,rfl,rfl,Zcj hc,Zz p s (.int _)⟩
    · exact p.elim
  · split at p
    · rename_i hz
      cases rx; cases ry
      exact .inr (.inl ⟨_,_,rfl,rfl,hz.1,hz.2.1,hz.2.2,Zz p s (.str _)⟩)
    · exact p.elim
  · split at p
    · rename_i a e1
      split at p
      · rename_i hz
        obtain ⟨x,xs,rfl,_,hx,r1⟩ := Jk s (Uy e1) rx
        cases ry
        refine .inr (.inr ⟨x,_,xs,rfl,rfl,hx,by omega,by omega,by rw [r1.length]; exact Jf hz.2.2,Z5m p s (r1.replicate _)⟩)
      · exact p.elim
    · exact p.elim
  · exact p.elim
end
def eqS : T → T → Option Bool
  | .non,.non => some true | .non,.int _ => some false | .int _,.non => some false | .non,.bl _ => some false | .bl _,.non => some false | .non,.str _ => some false | .str _,.non => some false
  | .int a,.int b => some (decide (a = b)) | .bl a,.bl b => some (decide (a = b)) | .str a,.str b => some (decide (a = b))
  | .int _,.str _ => some false | .str _,.int _ => some false | .bl _,.str _ => some false | .str _,.bl _ => some false
  | _,_ => none
def toD : Nat → Sto → T → Option PyData
  | _,_,.non => some .none
  | _,_,.bl b => some (.bool b)
  | _,_,.int i => some (.int i)
  | _,_,.str l => some (.str (S l))
  | 0,_,_ => none
  | n + 1,Z,.tup ts => (ts.mapM (toD n Z)).map .tuple
  | n + 1,Z,.frl ts => (ts.mapM (toD n Z)).map .list
  | n + 1,Z,.loc i => (getL Z i).bind fun ts => (ts.mapM (toD n Z)).map .list
  | _ + 1,_,_ => none
theorem N7 {α β : Type} {f : α → Option β} : ∀ {l : List α} {m : List β},l.mapM f = some m → Paired (fun a b => f a = some b) l m
  | [],m,h => by
    have : m = [] := by simpa using h.symm
    subst this; exact .nil
  | a :: l,m,h => by
    rw [List.mapM_cons] at h
    cases h1 : f a with
    | none => rw [h1] at h; cases h
    | some b =>
      rw [h1] at h
      cases h2 : l.mapM f with
      | none => rw [h2] at h; cases h
      | some m' =>
        rw [h2] at h
        have : m = b :: m' := (Option.some.inj h).symm
        subst this
        exact .cons h1 (N7 h2)
section
variable {K : PySem.W.Frag} {ι : List Addr} {H : Hp} {Z : Sto}
theorem Z8n (s : Sim K ι Z H) : ∀ (n : Nat) {v : V} {t : T} {d : PyData},Rep K ι H v t → toD n Z t = some d → Dp K H v d
  | n,v,t,d,r,e => by
    have all : ∀ m,n = m + 1 → ∀ {vs : List V} {ts : List T} {ds : List PyData},Reps K ι H vs ts → Paired (fun a b => toD m Z a = some b) ts ds → DpAll K H vs ds := by
      intro m hm vs ts ds r p
      induction p generalizing vs with
      | nil => cases r; exact .nil
      | cons h _ ih =>
        cases r with
        | cons r1 r2 => exact .cons (Z8n s m r1 h) (ih r2)
    cases r with
    | non => simp only [toD,Option.some.injEq] at e; subst e; exact .non
    | bl b => simp only [toD,Option.some.injEq] at e; subst e; exact .bl b
    | int i => simp only [toD,Option.some.injEq] at e; subst e; exact .int i
    | str l => simp only [toD,Option.some.injEq] at e; subst e; exact .str _
    | tup h r =>
      cases n with
      | zero => simp [toD] at e
      | succ n =>
        simp only [toD] at e
        obtain ⟨ds,h1,rfl⟩ := Option.map_eq_some_iff.mp e
        exact .tup h (all n rfl r (N7 h1))
    | frl h r =>
      cases n with
      | zero => simp [toD] at e
      | succ n =>
        simp only [toD] at e
        obtain ⟨ds,h1,rfl⟩ := Option.map_eq_some_iff.mp e
        exact .lst h.sq (all n rfl r (N7 h1))
    | loc h =>
      cases n with
      | zero => simp [toD] at e
      | succ n =>
        simp only [toD] at e
        obtain ⟨ts,h0,e⟩ := Option.bind_eq_some_iff.mp e
        obtain ⟨ds,h1,rfl⟩ := Option.map_eq_some_iff.mp e
        obtain ⟨a,vs,hv,_,h2,r⟩ := Jk s (Uy h0) (.loc h)
        cases hv
        exact .lst (SqL.of h2) (all n rfl r (N7 h1))
    | ref a => cases n <;> simp [toD] at e
    | ty n' => cases n <;> simp [toD] at e
    | lam h j => cases n <;> simp [toD] at e
    | ktp h r => cases n <;> simp [toD] at e
  termination_by n => n
end
def gEqD (x y : T) (Z : Sto) : Option Bool := match toD 16 Z x,toD 16 Z y with
  | some d,some e => if SeqAt.shaped d = true ∧ SeqAt.shaped e = true then some (PyData.eqv d e) else none
  | _,_ => none
def gEqB (x y : T) (Z : Sto) : Option Bool := match eqS x y with
  | some b => some b
  | none => gEqD x y Z
def gEq (x y : T) (Z : Sto) : Option (T × Sto) := (gEqB x y Z).map fun b => (.bl b,Z)
def gNe (x y : T) (Z : Sto) : Option (T × Sto) := (gEqB x y Z).map fun b => (.bl (!b),Z)
section
variable {X : Cx} {K : PySem.W.Frag} {ι : List Addr} {H : Hp}
theorem Zab {a b : List Nat} : decide (V.str (S a) = V.str (S b)) = decide (a = b) := by
  by_cases h : a = b
  · rw [h]; simp
  · rw [decide_eq_false h,decide_eq_false]
    intro e
    exact h (S_inj (V.str.inj e))
theorem Zbj {x y : V} {tx ty : T} {b : Bool} (rx : Rep K ι H x tx) (ry : Rep K ι H y ty) (e : eqS tx ty = some b) : scal x y = true ∧ decide (x = y) = b := by
  cases rx <;> cases ry <;> simp only [eqS,Option.some.injEq] at e <;> first | (subst e; refine ⟨rfl,?_⟩; first | exact Zab | simp) | (cases e)
theorem Zbk {x y : V} {tx ty : T} {Z : Sto} {b : Bool} (s : Sim K ι Z H) (rx : Rep K ι H x tx) (ry : Rep K ι H y ty) (e : gEqD tx ty Z = some b) : ∃ d e', Dp K H x d ∧ Dp K H y e' ∧ SeqAt.shaped d = true ∧ SeqAt.shaped e' = true ∧ PyData.eqv d e' = b := by
  unfold gEqD at e
  split at e
  · rename_i d d' h1 h2
    split at e
    · rename_i h
      cases e
      exact ⟨d, d', Z8n s 16 rx h1, Z8n s 16 ry h2, h.1, h.2, rfl⟩
    · cases e
  · cases e
theorem o_eq (hu : X.A.units + 64 < cLine) (hK : X.K = K) : OpF X K (compareOp .Eq) gEq := by
  subst hK
  refine Vh (Z0l op_eq (op_eqD hu)) fun x y H Q h => ?_
  obtain ⟨ι,Z,tx,ty,s,rx,ry,p⟩ := h
  cases e : gEqB tx ty Z with
  | none => simp only [gEq,e] at p; exact p.elim
  | some b =>
    simp only [gEq,e,Option.map_some] at p
    unfold gEqB at e
    split at e
    · rename_i b' e'
      cases e
      obtain ⟨h1, h2⟩ := Zbj rx ry e'
      exact .inl ⟨h1,by rw [h2]; exact Zz p s (.bl _)⟩
    · obtain ⟨d, d', h1, h2, h3, h4, h5⟩ := Zbk s rx ry e
      exact .inr ⟨d, d', h1, h2, h3, h4, by rw [h5]; exact Zz p s (.bl _)⟩
theorem o_ne (hu : X.A.units + 64 < cLine) (hK : X.K = K) : OpF X K (compareOp .NotEq) gNe := by
  subst hK
  refine Vh (Z0l op_ne (op_neD hu)) fun x y H Q h => ?_
  obtain ⟨ι,Z,tx,ty,s,rx,ry,p⟩ := h
  cases e : gEqB tx ty Z with
  | none => simp only [gNe,e] at p; exact p.elim
  | some b =>
    simp only [gNe,e,Option.map_some] at p
    unfold gEqB at e
    split at e
    · rename_i b' e'
      cases e
      obtain ⟨h1, h2⟩ := Zbj rx ry e'
      exact .inl ⟨h1,by rw [h2]; exact Zz p s (.bl _)⟩
    · obtain ⟨d, d', h1, h2, h3, h4, h5⟩ := Zbk s rx ry e
      exact .inr ⟨d, d', h1, h2, h3, h4, by rw [h5]; exact Zz p s (.bl _)⟩
end
def gLt : T → T → Sto → Option (T × Sto)
  | .int i,.int j,Z => some (.bl (decide (i < j)),Z)
  | .str a,.str b,Z => some (.bl (decide (a < b)),Z)
  | _,_,_ => none
def gLe : T → T → Sto → Option (T × Sto)
  | .int i,.int j,Z => some (.bl (decide (i ≤ j)),Z)
  | _,_,_ => none
def gGt : T → T → Sto → Option (T × Sto)
  | .int i,.int j,Z => some (.bl (decide (j < i)),Z)
  | _,_,_ => none
def gGe : T → T → Sto → Option (T × Sto)
  | .int i,.int j,Z => some (.bl (decide (j ≤ i)),Z)
  | _,_,_ => none
def isNon : T → Bool
  | .non => true
  | _ => false
def gIs : T → T → Sto → Option (T × Sto)
  | x,.non,Z => some (.bl (isNon x),Z)
  | _,_,_ => none
def gIsNot : T → T → Sto → Option (T × Sto)
  | x,.non,Z => some (.bl (!isNon x),Z)
  | _,_,_ => none
def flatT : T → Bool
  | .non => true | .bl _ => true | .int _ => true | .str _ => true | _ => false
def eqT : T → T → Bool
  | .non,.non => true
  | .bl a,.bl b => a == b
  | .bl a,.int b => (if a then 1 else 0) == b
  | .int a,.bl b => a == (if b then 1 else 0)
  | .int a,.int b => a == b
  | .str a,.str b => decide (b = a)
  | _,_ => false
def inT (x : T) (ts : List T) : Bool := ts.any fun y => eqT y x
def asSeq : T → Sto → Option (List T)
  | .tup ts,_ => some ts
  | t,Z => asList t Z
def gInB : T → T → Sto → Option Bool
  | .str [c],.str l,_ => some (decide (c ∈ l))
  | x,y,Z => match asSeq y Z with
    | some ts => if flatT x = true ∧ ts.all flatT = true then some (inT x ts) else none
    | none => none
def gIn (x y : T) (Z : Sto) : Option (T × Sto) := (gInB x y Z).map fun b => (.bl b,Z)
def gNotIn (x y : T) (Z : Sto) : Option (T × Sto) := (gInB x y Z).map fun b => (.bl (!b),Z)
section
variable {K : PySem.W.Frag} {ι : List Addr} {H : Hp} {Z : Sto}
theorem Z1x {v : V} {t : T} {ts : List T} (s : Sim K ι Z H) (r : Rep K ι H v t) (e : asSeq t Z = some ts) : ∃ a vs,v = .ref a ∧ (SqL K H a vs ∨ SqT K H a vs) ∧ Reps K ι H vs ts := by
  cases t with
  | tup us =>
    cases e
    obtain ⟨a,vs,rfl,h,r⟩ := r.tupE
    exact ⟨a,vs,rfl,.inr h,r⟩
  | _ =>
    obtain ⟨a,vs,rfl,h,r⟩ := Z32 s r (by simpa [asSeq] using e)
    exact ⟨a,vs,rfl,.inl h,r⟩
theorem Z8o {v : V} {t : T} (r : Rep K ι H v t) : flatV v = flatT t := by cases r <;> rfl
theorem Zee {v w : V} {t u : T} (r : Rep K ι H v t) (q : Rep K ι H w u) (h : flatT t = true) (h2 : flatT u = true) : eqV v w = eqT t u := by
  cases r <;> cases q <;> first | rfl | (exact Ze3 _ _) | (exact absurd h Bool.false_ne_true) | (exact absurd h2 Bool.false_ne_true)
theorem Z6s : ∀ {vs : List V} {ts : List T},Reps K ι H vs ts → vs.all flatV = ts.all flatT
  | _,_,.nil => rfl
  | _,_,.cons r q => by rw [List.all_cons,List.all_cons,Z8o r,Z6s q]
theorem Zbl {x : V} {t : T} (r : Rep K ι H x t) (h : flatT t = true) : ∀ {vs : List V} {ts : List T},Reps K ι H vs ts → ts.all flatT = true → inV x vs = inT t ts
  | _,_,.nil,_ => rfl
  | _, _, .cons r' q, hh => by
    rw [List.all_cons,Bool.and_eq_true] at hh
    show (eqV _ x || inV x _) = (eqT _ t || inT t _)
    rw [Zee r' r hh.1 h, Zbl r h q hh.2]
theorem Zef {x y : V} {tx ty : T} {b : Bool} (s : Sim K ι Z H) (rx : Rep K ι H x tx) (ry : Rep K ι H y ty) (e : gInB tx ty Z = some b) :
    (∃ (c : Nat) (z : PySem.Str),x = .str ⟨#[c]⟩ ∧ y = .str z ∧ decide (c ∈ z.cps.toList) = b) ∨ ∃ p xs,y = .ref p ∧ (SqL K H p xs ∨ SqT K H p xs) ∧ flatV x = true ∧ xs.all flatV = true ∧ inV x xs = b := by
  unfold gInB at e
  split at e
  · cases e; cases rx; cases ry
    exact .inl ⟨_,_,rfl,rfl,by simp [S]⟩
  · split at e
    · rename_i ts h
      split at e
      · rename_i hf
        cases e
        obtain ⟨a,vs,rfl,hq,r⟩ := Z1x s ry h
        exact .inr ⟨a,vs,rfl,hq,(Z8o rx).trans hf.1,(Z6s r).trans hf.2,Zbl rx hf.1 r hf.2⟩
      · cases e
    · cases e
end
section
variable {X : Cx} {K : PySem.W.Frag}
theorem o_lt : OpF X K (compareOp .Lt) gLt := by
  refine Vh (Z0l op_lt op_lt_str) fun x y H Q h => ?_
  obtain ⟨ι,Z,tx,ty,s,rx,ry,p⟩ := h
  unfold gLt at p
  split at p
  · cases rx; cases ry; exact .inl ⟨_,_,rfl,rfl,Zz p s (.bl _)⟩
  · cases rx; cases ry; exact .inr ⟨_,_,rfl,rfl,Zz p s (.bl _)⟩
  · exact p.elim
theorem o_ge : OpF X K (compareOp .GtE) gGe := Vh op_ge fun x y H Q h => by
  obtain ⟨ι,Z,tx,ty,s,rx,ry,p⟩ := h
  unfold gGe at p
  split at p
  · cases rx; cases ry; exact ⟨_,_,rfl,rfl,Zz p s (.bl _)⟩
  · exact p.elim
theorem Z3p (hK : X.K = K) : OpF X K (compareOp .NotIn) gNotIn := by
  subst hK
  refine Vh (Z0l op_notIn_sign op_notIn_seq) fun x y H Q h => ?_
  obtain ⟨ι,Z,tx,ty,s,rx,ry,p⟩ := h
  cases e : gInB tx ty Z with
  | none => simp only [gNotIn,e] at p; exact p.elim
  | some b =>
    simp only [gNotIn,e,Option.map_some] at p
    have q := Zz p s (.bl (!b))
    rcases Zef s rx ry e with ⟨c,z,rfl,rfl,hb⟩ | ⟨a,xs,rfl,h1,h2,h3,hb⟩
    · exact .inl ⟨c,z,rfl,rfl,by rw [hb]; exact q⟩
    · exact .inr ⟨a,xs,rfl,h1,h2,h3,by rw [hb]; exact q⟩
end
def eChain (g g' : T → T → Sto → Option (T × Sto)) (a b c : FE) : FE := fun ρ Z => (a ρ Z).bind fun x Z1 => (b ρ Z1).bind fun y Z2 => (lift (g x y Z2)).bind fun z Z3 => match z with
  | .bl true => (c ρ Z3).bind fun w Z4 => lift (g' y w Z4)
  | .bl false => .ok (.bl false) Z3
  | _ => .stuck
def gIx : T → T → Sto → Option (T × Sto)
  | .str l,.int i,Z => if l.length ≤ Lim then (atI l i).map fun c => (.str [c],Z) else none
  | x,.int i,Z => match asSeq x Z with
    | some ts => (atI ts i).map fun t => (t,Z)
    | none => none
  | _,_,_ => none
def gSl : T → Option Int → Option Int → Sto → Option (T × Sto)
  | .str l,lo,hi,Z => if l.length ≤ Lim then some (.str (cutL l lo hi),Z) else none
  | .tup ts,lo,hi,Z => some (.tup (cutL ts lo hi),Z)
  | x,lo,hi,Z => match asList x Z with
    | some ts => some (.loc Z.length,Z ++ [.lst (cutL ts lo hi)])
    | none => none
abbrev FO := Env → Sto → R (Option Int)
def oNone : FO := fun _ Z => .ok none Z
def oSome (f : FE) : FO := fun ρ Z => (f ρ Z).bind fun x Z1 => match x with
  | .int i => .ok (some i) Z1
  | _ => .stuck
def eSl (f : FE) (lo hi : FO) : FE := fun ρ Z => (f ρ Z).bind fun x Z1 => (lo ρ Z1).bind fun l Z2 => (hi ρ Z2).bind fun h Z3 => lift (gSl x l h Z3)
def oEq (_ : List Addr) (_ : Hp) (b c : Option Int) : Prop := b = c
def tFO (K : PySem.W.Frag) (W : Wc) (f : FO) : TO := fun σ H Q => ∃ ι ρ Z,Ie K W ι H σ ρ Z ∧ Post oEq K W.w σ ι H Q (f ρ Z)
theorem Reps.cut {K : PySem.W.Frag} {ι : List Addr} {H : Hp} {vs : List V} {ts : List T} (r : Reps K ι H vs ts) (lo hi : Option Int) : Reps K ι H (cutV vs lo hi) (cutL ts lo hi) := by
  unfold cutV cutL
  rw [r.length]
  exact (r.drop _).take _
theorem Zeg {K : PySem.W.Frag} {ι : List Addr} {H : Hp} {vs : List V} {ts : List T} {i : Int} {t : T} (r : Reps K ι H vs ts) (e : atI ts i = some t) : ∃ v,atI vs i = some v ∧ Rep K ι H v t := by
  unfold atI at e ⊢
  rw [r.length]
  obtain ⟨j,h1,h2⟩ := Option.bind_eq_some_iff.mp e
  rw [h1]
  exact r.get h2
section
variable {X : Cx} {K : PySem.W.Frag} {W : Wc} {a : Expr} {fa : FE} {pos p2 : Pos} {lo hi : Option Expr} {fl fh : FO}
theorem Zck {r r' : R2} (h : IxR X r) (i : ∀ x y H Q, r' x y H Q → r x y H Q) : IxR X r' := fun value slice pins s σ H x y v u Q I rx ry q => h value slice pins s σ H x y v u Q I rx ry (i _ _ _ _ q)
theorem i_ix (hK : X.K = K) : IxR X (rF2 K gIx) := by
  subst hK
  refine Zck ix_seq fun x y H Q h => ?_
  obtain ⟨ι,Z,tx,ty,s,rx,ry,p⟩ := h
  unfold gIx at p
  split at p
  · split at p
    · rename_i hz
      cases rx; cases ry
      cases e : atI _ _ with
      | none => rw [e] at p; exact p.elim
      | some c =>
        rw [e] at p
        exact .inr (.inr ⟨_,_,c,rfl,rfl,by rw [S_len]; exact Jf hz,e,Zz p s (.str [c])⟩)
    · exact p.elim
  · cases ry
    split at p
    · rename_i ts hs
      obtain ⟨a,vs,rfl,hq,r⟩ := Z1x s rx hs
      cases e : atI ts _ with
      | none => rw [e] at p; exact p.elim
      | some t =>
        rw [e] at p
        obtain ⟨v,h1,h2⟩ := Zeg r e
        rcases hq with hq | hq
        · exact .inl ⟨a,vs,_,v,rfl,rfl,hq,h1,Zz p s h2⟩
        · exact .inr (.inl ⟨a,vs,_,v,rfl,rfl,hq,h1,Zz p s h2⟩)
    · exact p.elim
  · exact p.elim
theorem Z5p : PO X none (tFO K W oNone) := ⟨fun pins s σ H Q I h => by
  obtain ⟨ι,ρ,Z,is,p⟩ := h
  exact po_none.run pins s σ H Q I (p ι H none Gr.refl is.sim rfl)⟩
theorem Z5q (h : FJ X K W a fa) : PO X (some a) (tFO K W (oSome fa)) := ⟨fun pins s σ H Q I q => by
  obtain ⟨ι,ρ,Z,is,p⟩ := q
  refine (po_some h).run pins s σ H Q I ⟨ι,ρ,Z,is,(Zg p).imp fun x H1 q => ?_⟩
  obtain ⟨ι1,Z1,tx,g1,s1,r1,p1⟩ := q
  cases r1 with
  | int i => exact ⟨i,rfl,p1 ι1 H1 (some i) Gr.refl s1 rfl⟩
  | _ => exact p1.elim⟩
theorem f_sl (hK : X.K = K) (ha : FJ X K W a fa) (hl : PO X lo (tFO K W fl)) (hh : PO X hi (tFO K W fh)) : FJ X K W (.Subscript a (.Slice lo hi none p2) pos) (eSl fa fl fh) := by
  subst hK
  refine Vw (pe_slice ((sl_list (X := X)).or ((sl_tupA (X := X)).or sl_str)) ha hl hh) fun σ H Q h => ?_
  obtain ⟨ι,ρ,Z,is,p⟩ := h
  refine ⟨ι,ρ,Z,is,(Zg p).imp fun x H1 q => ?_⟩
  obtain ⟨ι1,Z1,tx,g1,s1,r1,p1⟩ := q
  refine ⟨ι1,ρ,Z1,is.gr g1 s1,(Zg p1).imp fun l H2 q2 => ?_⟩
  obtain ⟨ι2, Z2, l', g2, s2, r2, p2⟩ := q2
  cases (show l = l' from r2)
  refine ⟨ι2,ρ,Z2,is.gr (g1.trans g2) s2,(Zg p2).imp fun u H3 q3 => ?_⟩
  obtain ⟨ι3, Z3, u', g3, s3, r3, p3⟩ := q3
  cases (show u = u' from r3)
  have rx := (r1.gr g2).gr g3
  have p4 := Jj p3
  unfold gSl at p4
  split at p4
  · split at p4
    · rename_i hz
      cases rx
      exact .inr (.inr ⟨_,rfl,by rw [S_len]; exact Jf hz,by rw [Ze2]; exact Zz p4 s3 (.str _)⟩)
    · exact p4.elim
  · obtain ⟨a,vs,rfl,hq,r⟩ := rx.tupE
    refine .inr (.inl ⟨a,vs,rfl,hq,fun e => ?_,fun _ => Z5n p4 s3 (r.cut _ _)⟩)
    refine Zz p4 s3 ?_
    have h := r.cut l u
    have e3 : cutV vs l u = vs := by
      unfold cutV
      rw [e.1,e.2,List.drop_zero,Nat.sub_zero]
      exact List.take_of_length_le (Nat.le_refl _)
    rw [e3] at h
    exact .tup hq h
  · split at p4
    · rename_i ts hs
      obtain ⟨a,vs,rfl,hq,r⟩ := Z32 s3 rx hs
      exact .inl ⟨a,vs,rfl,hq,Z5m p4 s3 (r.cut _ _)⟩
    · exact p4.elim
end
def eTup (f : FA) : FE := fun ρ Z => (f ρ Z).bind fun xs Z1 => .ok (.tup xs) Z1
def eLst (f : FA) : FE := fun ρ Z => (f ρ Z).bind fun xs Z1 => .ok (.loc Z1.length) (Z1 ++ [.lst xs])
section
variable {X : Cx} {K : PySem.W.Frag} {W : Wc} {es : List Expr} {f : FA} {pos : Pos}
def ofLen (es : List Expr) (f : FA) : Prop := ∀ ρ Z xs Z1,f ρ Z = .ok xs Z1 → xs.length = es.length
theorem Za : ofLen [] aNil := fun ρ Z xs Z1 h => by
  unfold aNil at h
  injection h with h1 h2
  subst h1; rfl
theorem Z0 {a : Expr} {fa : FE} (h : ofLen es f) : ofLen (a :: es) (aCons fa f) := fun ρ Z xs Z1 e => by
  unfold aCons at e
  cases e1 : fa ρ Z with
  | ok x Z2 =>
    rw [e1,Wo] at e
    cases e2 : f ρ Z2 with
    | ok ys Z3 =>
      rw [e2,Wo] at e
      injection e with h1 h2
      subst h1
      rw [List.length_cons,List.length_cons,h _ _ _ _ e2]
    | exc _ _ => rw [e2] at e; cases e
    | stuck => rw [e2] at e; cases e
  | exc _ _ => rw [e1] at e; cases e
  | stuck => rw [e1] at e; cases e
theorem f_tup {k} (ha : FAJ X K W es f) (hn : ofLen es f) (hz : es.length ≤ 1000 := by decide) : FJ X K W (.Tuple es k pos) (eTup f) := by
  refine Vw (pe_tup ha) fun σ H Q h => ?_
  obtain ⟨ι,ρ,Z,is,p⟩ := h
  refine ⟨ι,ρ,Z,is,?_⟩
  unfold eTup at p
  cases e : f ρ Z with
  | ok ts Z1 =>
    rw [e,Wo] at p
    intro ι1 H1 vs g1 s1 r1
    refine ⟨?_,fun q n => ?_⟩
    · rw [r1.length,hn _ _ _ _ e]; exact Jf (by unfold Lim; omega)
    · exact p ι1 _ _ (g1.trans (Gr.new0 n)) (s1.same (Qx n)) (.tup (SqT.of upd_same) (r1.gr (Gr.new0 n)))
  | exc x Z1 => rw [e] at p; exact p
  | stuck => rw [e] at p; exact p
theorem Z16 (ha : FAJ X K W es f) (hn : ofLen es f) (hz : es.length ≤ 1000 := by decide) : FJ X K W (.List es pos) (eLst f) := by
  refine Vw (pe_lst ha) fun σ H Q h => ?_
  obtain ⟨ι,ρ,Z,is,p⟩ := h
  refine ⟨ι,ρ,Z,is,?_⟩
  unfold eLst at p
  cases e : f ρ Z with
  | ok ts Z1 =>
    rw [e,Wo] at p
    intro ι1 H1 vs g1 s1 r1
    refine ⟨?_,fun q n => ?_⟩
    · rw [r1.length,hn _ _ _ _ e]; exact Jf (by unfold Lim; omega)
    · exact p (ι1 ++ [q]) _ _ (g1.trans (Gr.new n)) (s1.newL r1 n) (Z6r s1)
  | exc x Z1 => rw [e] at p; exact p
  | stuck => rw [e] at p; exact p
end
end Fx
set_option maxHeartbeats 4000000
namespace Fx
open PySem PySem.Spec PyProof.Rows L2 SX Ap
variable [Tb]
inductive RS where
  | nx (ρ : Env) (Z : Sto) | rt (t : T) (Z : Sto) | bk (ρ : Env) (Z : Sto) | ct (ρ : Env) (Z : Sto) | exc (x : Ex) (ρ : Env) (Z : Sto) | stuck
abbrev FS := Env → Sto → RS
def bS {α : Type} (ρ : Env) : R α → (α → Sto → RS) → RS
  | .ok a Z,k => k a Z
  | .exc x Z,_ => .exc x ρ Z
  | .stuck,_ => .stuck
def seqS : RS → (Env → Sto → RS) → RS
  | .nx ρ Z,k => k ρ Z
  | r,_ => r
def seqL : RS → (Env → Sto → RS) → RS
  | .nx ρ Z,k => k ρ Z
  | .ct ρ Z,k => k ρ Z
  | .bk ρ Z,_ => .nx ρ Z
  | r,_ => r
@[simp] theorem Zag {α : Type} (ρ : Env) (a : α) (Z : Sto) (k : α → Sto → RS) : bS ρ (.ok a Z) k = k a Z := (rfl)
@[simp] theorem bS_exc {α : Type} (ρ : Env) (x : Ex) (Z : Sto) (k : α → Sto → RS) : bS ρ (.exc x Z) k = .exc x ρ Z := (rfl)
@[simp] theorem bS_stuck {α : Type} (ρ : Env) (k : α → Sto → RS) : bS ρ (.stuck : R α) k = .stuck := (rfl)
@[simp] theorem seqS_nx (ρ : Env) (Z : Sto) (k : Env → Sto → RS) : seqS (.nx ρ Z) k = k ρ Z := (rfl)
@[simp] theorem seqS_rt (t : T) (Z : Sto) (k : Env → Sto → RS) : seqS (.rt t Z) k = .rt t Z := (rfl)
@[simp] theorem seqS_bk (ρ : Env) (Z : Sto) (k : Env → Sto → RS) : seqS (.bk ρ Z) k = .bk ρ Z := (rfl)
@[simp] theorem seqS_ct (ρ : Env) (Z : Sto) (k : Env → Sto → RS) : seqS (.ct ρ Z) k = .ct ρ Z := (rfl)
@[simp] theorem seqS_exc (x : Ex) (ρ : Env) (Z : Sto) (k : Env → Sto → RS) : seqS (.exc x ρ Z) k = .exc x ρ Z := (rfl)
@[simp] theorem Zcl (ρ : Env) (Z : Sto) (k : Env → Sto → RS) : seqL (.nx ρ Z) k = k ρ Z := (rfl)
@[simp] theorem Zcm (ρ : Env) (Z : Sto) (k : Env → Sto → RS) : seqL (.ct ρ Z) k = k ρ Z := (rfl)
@[simp] theorem seqL_bk (ρ : Env) (Z : Sto) (k : Env → Sto → RS) : seqL (.bk ρ Z) k = .nx ρ Z := (rfl)
@[simp] theorem Zcn (t : T) (Z : Sto) (k : Env → Sto → RS) : seqL (.rt t Z) k = .rt t Z := (rfl)
@[simp] theorem seqL_exc (x : Ex) (ρ : Env) (Z : Sto) (k : Env → Sto → RS) : seqL (.exc x ρ Z) k = .exc x ρ Z := (rfl)
structure Is (K : PySem.W.Frag) (ι : List Addr) (H : Hp) (σ : L2.St) (ρ : Env) (Z : Sto) : Prop where
  len : σ.length = ρ.length
  env : Envs K ι H σ ρ
  sim : Sim K ι Z H
theorem Is.ie {K : PySem.W.Frag} {W : WX} {ι : List Addr} {H : Hp} {σ : L2.St} {ρ : Env} {Z : Sto} (h : Is K ι H σ ρ Z) : Ie K (Wt W) ι H σ ρ Z := ⟨h.len,h.env,h.sim,trivial⟩
theorem Is.gr {K : PySem.W.Frag} {ι ι' : List Addr} {H H' : Hp} {σ : L2.St} {ρ : Env} {Z Z' : Sto} (h : Is K ι H σ ρ Z) (g : Gr ι ι' H H') (s : Sim K ι' Z' H') : Is K ι' H' σ ρ Z' := ⟨h.len, h.env.gr g, s⟩
def PostS (K : PySem.W.Frag) (W : WX) (ι : List Addr) (H : Hp) (D : Ends) : RS → Prop
  | .nx ρ' Z' => ∀ ι' H' σ', Gr ι ι' H H' → Is K ι' H' σ' ρ' Z' → D.nx σ' H'
  | .rt t Z' => ∀ ι' H' v, Gr ι ι' H H' → Sim K ι' Z' H' → Rep K ι' H' v t → D.rt v H'
  | .bk ρ' Z' => ∀ ι' H' σ', Gr ι ι' H H' → Is K ι' H' σ' ρ' Z' → D.bk σ' H'
  | .ct ρ' Z' => ∀ ι' H' σ', Gr ι ι' H H' → Is K ι' H' σ' ρ' Z' → D.ct σ' H'
  | .exc x ρ' Z' => ∀ ι' H' σ' cls d, Gr ι ι' H H' → Is K ι' H' σ' ρ' Z' → RepX K ι' H' cls d x → W cls d σ' H'
  | .stuck => False
def tS (K : PySem.W.Frag) (W : WX) (g : FS) : TS := fun D σ H => ∃ ι ρ Z,Is K ι H σ ρ Z ∧ PostS K W ι H D (g ρ Z)
abbrev FSJ (X : Cx) (K : PySem.W.Frag) (W : WX) (st : Stmt) (g : FS) : Prop := PS X st (tS K W g)
abbrev FBJ (X : Cx) (K : PySem.W.Frag) (W : WX) (st : List Stmt) (g : FS) : Prop := PSs X st (tS K W g)
section
variable {α β : Type} {K : PySem.W.Frag} {W : WX} {ι ι1 : List Addr} {H H1 : Hp} {σ : L2.St} {ρ : Env} {Z : Sto} {D : Ends}
theorem PostS.shift {r : RS} (h : PostS K W ι H D r) (g : Gr ι ι1 H H1) : PostS K W ι1 H1 D r := by
  cases r with
  | nx => exact fun ι' H' σ' g' => h ι' H' σ' (g.trans g')
  | rt => exact fun ι' H' σ' g' => h ι' H' σ' (g.trans g')
  | bk => exact fun ι' H' σ' g' => h ι' H' σ' (g.trans g')
  | ct => exact fun ι' H' σ' g' => h ι' H' σ' (g.trans g')
  | exc => exact fun ι' H' σ' c d g' => h ι' H' σ' c d (g.trans g')
  | stuck => exact h
theorem Z1y {rep : List Addr → Hp → β → α → Prop} {r : R α} {k : α → Sto → RS} (is : Is K ι H σ ρ Z) (h : PostS K W ι H D (bS ρ r k)) :
    Post rep K W σ ι H (fun b H1 => ∃ ι1 Z1 a,Gr ι ι1 H H1 ∧ Sim K ι1 Z1 H1 ∧ rep ι1 H1 b a ∧ PostS K W ι1 H1 D (k a Z1)) r := by
  cases r with
  | ok a S => exact fun ι1 H1 b g s r => ⟨ι1,S,a,g,s,r,PostS.shift h g⟩
  | exc x S => exact fun ι' H' cls d g s rx => h ι' H' σ cls d g (is.gr g s) rx
  | stuck => exact h
theorem Zah {r : RS} {k : Env → Sto → RS} (h : PostS K W ι H D (seqS r k)) :
    PostS K W ι H { D with nx := fun σ' H' => ∃ ι' ρ' Z', Gr ι ι' H H' ∧ Is K ι' H' σ' ρ' Z' ∧ PostS K W ι' H' D (k ρ' Z') } r := by
  cases r with
  | nx ρ' Z' => exact fun ι' H' σ' g i => ⟨ι', ρ', Z', g, i, PostS.shift h g⟩
  | rt => exact h
  | bk => exact h
  | ct => exact h
  | exc => exact h
  | stuck => exact h
theorem Z8p {r : RS} {k : Env → Sto → RS} (h : PostS K W ι H D (seqL r k)) :
    PostS K W ι H { D with nx := fun σ' H' => ∃ ι' ρ' Z', Gr ι ι' H H' ∧ Is K ι' H' σ' ρ' Z' ∧ PostS K W ι' H' D (k ρ' Z'), ct := fun σ' H' => ∃ ι' ρ' Z', Gr ι ι' H H' ∧ Is K ι' H' σ' ρ' Z' ∧ PostS K W ι' H' D (k ρ' Z'), bk := D.nx } r := by
  cases r with
  | nx ρ' Z' => exact fun ι' H' σ' g i => ⟨ι', ρ', Z', g, i, PostS.shift h g⟩
  | rt => exact h
  | bk => exact h
  | ct ρ' Z' => exact fun ι' H' σ' g i => ⟨ι', ρ', Z', g, i, PostS.shift h g⟩
  | exc => exact h
  | stuck => exact h
theorem PostS.imp {r : RS} {D2 : Ends} (h : PostS K W ι H D r) (h1 : ∀ σ H,D.nx σ H → D2.nx σ H) (h2 : ∀ σ H,D.rt σ H → D2.rt σ H) (h3 : ∀ σ H,D.bk σ H → D2.bk σ H) (h4 : ∀ σ H,D.ct σ H → D2.ct σ H) : PostS K W ι H D2 r := by
  cases r with
  | nx => exact fun ι' H' σ' g i => h1 _ _ (h ι' H' σ' g i)
  | rt => exact fun ι' H' σ' g i r => h2 _ _ (h ι' H' σ' g i r)
  | bk => exact fun ι' H' σ' g i => h3 _ _ (h ι' H' σ' g i)
  | ct => exact fun ι' H' σ' g i => h4 _ _ (h ι' H' σ' g i)
  | exc => exact h
  | stuck => exact h
end
def sSet (i : Nat) (f : FE) : FS := fun ρ Z => bS ρ (f ρ Z) fun x Z1 => .nx (ρ.set i (some x)) Z1
def sRet (f : FE) : FS := fun ρ Z => bS ρ (f ρ Z) fun x Z1 => .rt x Z1
def sRetN : FS := fun _ Z => .rt .non Z
def sDrop (f : FE) : FS := fun ρ Z => bS ρ (f ρ Z) fun _ Z1 => .nx ρ Z1
def sPass : FS := fun ρ Z => .nx ρ Z
def sBrk : FS := fun ρ Z => .bk ρ Z
def sCnt : FS := fun ρ Z => .ct ρ Z
def sIf (c : FT) (a b : FS) : FS := fun ρ Z => bS ρ (c ρ Z) fun x Z1 => if x = true then a ρ Z1 else b ρ Z1
def bCons (a b : FS) : FS := fun ρ Z => seqS (a ρ Z) b
section
variable {X : Cx} {K : PySem.W.Frag} {W : WX} {e c : Expr} {fe : FE} {ft : FT} {st : Stmt} {sts a b : List Stmt} {g g' : FS} {pos : Pos} {i : Nat} {x : PySem.Str}
theorem Z5r {k : T → Sto → RS} {σ : L2.St} {ρ : Env} {ι : List Addr} {H : Hp} {Z : Sto} {D : Ends} {Q : VK} (is : Is K ι H σ ρ Z) (h : PostS K W ι H D (bS ρ (fe ρ Z) k)) (hq : ∀ v H1 ι1 Z1 t,Gr ι ι1 H H1 → Is K ι1 H1 σ ρ Z1 → Rep K ι1 H1 v t → PostS K W ι1 H1 D (k t Z1) → Q v H1) : tF K (Wt W) fe σ H Q :=
  ⟨ι,ρ,Z,is.ie,(Z1y (rep := Rep K) is h).imp fun v H1 ⟨ι1,Z1,t,g1,s1,r1,p1⟩ => hq v H1 ι1 Z1 t g1 (is.gr g1 s1) r1 p1⟩
theorem Zeh {k : Bool → Sto → RS} {σ : L2.St} {ρ : Env} {ι : List Addr} {H : Hp} {Z : Sto} {D : Ends} {Q : Bool → Hp → Prop} (is : Is K ι H σ ρ Z) (h : PostS K W ι H D (bS ρ (ft ρ Z) k)) (hq : ∀ v H1 ι1 Z1,Gr ι ι1 H H1 → Is K ι1 H1 σ ρ Z1 → PostS K W ι1 H1 D (k v Z1) → Q v H1) : tFT K (Wt W) ft σ H Q :=
  ⟨ι,ρ,Z,is.ie,(Z1y (rep := bEq) is h).imp fun v H1 ⟨ι1,Z1,t,g1,s1,r1,p1⟩ => hq v H1 ι1 Z1 g1 (is.gr g1 s1) (by cases (show v = t from r1); exact p1)⟩
theorem Is.set {ι : List Addr} {H : Hp} {σ : L2.St} {ρ : Env} {Z : Sto} {v : V} {t : T} (h : Is K ι H σ ρ Z) (r : Rep K ι H v t) (i : Nat) : Is K ι H (σ.set i (some v)) (ρ.set i (some t)) Z :=
  ⟨by rw [List.length_set,List.length_set]; exact h.len,h.env.set r i h.len,h.sim⟩
theorem Ub {pos' : Pos} (hN : X.N.Nodup) (hi : X.N[i]? = some x) (hx : Loc X.env.scope x) (he : FJ X K (Wt W) e fe) (hs : swapsWith e (some (.Name x pos')) pos.line X.env = pure false := by rfl) (hf : X.fn x = true ∨ X.env.scope.names.lookup x = some .local := by first | exact .inl rfl | exact .inr rfl | assumption) :
    FSJ X K W (.Assign [.Name x pos'] e pos) (sSet i fe) := Je (ps_set hN hi hx he hs hf) fun D σ H h => by
  obtain ⟨ι,ρ,Z,is,p⟩ := h
  exact Z5r is p fun v H1 ι1 Z1 t g1 i1 r1 p1 => p1 ι1 H1 _ Gr.refl (i1.set r1 i)
theorem Zt (he : FJ X K (Wt W) e fe) : FSJ X K W (.Return (some e) pos) (sRet fe) := Je (ps_ret he) fun D σ H h => by
  obtain ⟨ι,ρ,Z,is,p⟩ := h
  exact Z5r is p fun v H1 ι1 Z1 t g1 i1 r1 p1 => p1 ι1 H1 v Gr.refl i1.sim r1
theorem Z8q (he : FJ X K (Wt W) e fe) (hs : swapsWith e none pos.line X.env = pure false := by rfl) : FSJ X K W (.Expr e pos) (sDrop fe) := Je (ps_expr he hs) fun D σ H h => by
  obtain ⟨ι,ρ,Z,is,p⟩ := h
  exact Z5r is p fun v H1 ι1 Z1 t g1 i1 r1 p1 => p1 ι1 H1 σ Gr.refl i1
theorem Vi (hc : FTJ X K (Wt W) c ft) (ha : FBJ X K W a g) (hb : FBJ X K W b g') : FSJ X K W (.If c a b pos) (sIf ft g g') := Je (ps_if hc ha hb) fun D σ H h => by
  obtain ⟨ι,ρ,Z,is,p⟩ := h
  refine Zeh is p fun v H1 ι1 Z1 g1 i1 p1 => ?_
  cases v with
  | true => exact ⟨ι1,ρ,Z1,i1,p1⟩
  | false => exact ⟨ι1,ρ,Z1,i1,p1⟩
theorem Xp : FBJ X K W [] sPass := Z8k pss_nil fun D σ H h => by
  obtain ⟨ι,ρ,Z,is,p⟩ := h
  exact p ι H σ Gr.refl is
theorem Zj (h : FSJ X K W st g) : FBJ X K W [st] g := pss_one h
theorem Zf (h : FSJ X K W st g) (h2 : FBJ X K W sts g') : FBJ X K W (st :: sts) (bCons g g') := Z8k (pss_cons h h2) fun D σ H h => by
  obtain ⟨ι,ρ,Z,is,p⟩ := h
  refine ⟨ι, ρ, Z, is, (Zah p).imp (fun σ' H' q => ?_) (fun _ _ q => q) (fun _ _ q => q) (fun _ _ q => q)⟩
  obtain ⟨ι', ρ', Z', _, i', p'⟩ := q
  exact ⟨ι', ρ', Z', i', p'⟩
end
def sPar (ix : List Nat) (f : FA) : FS := fun ρ Z => bS ρ (f ρ Z) fun xs Z1 => .nx ((ix.zip xs).foldl (fun r p => r.set p.1 (some p.2)) ρ) Z1
section
variable {X : Cx} {K : PySem.W.Frag} {W : WX} {fa : FA}
theorem Z8r {k : List T → Sto → RS} {σ : L2.St} {ρ : Env} {ι : List Addr} {H : Hp} {Z : Sto} {D : Ends} {Q : List V → Hp → Prop} (is : Is K ι H σ ρ Z) (h : PostS K W ι H D (bS ρ (fa ρ Z) k)) (hq : ∀ v H1 ι1 Z1 t,fa ρ Z = .ok t Z1 → Gr ι ι1 H H1 → Is K ι1 H1 σ ρ Z1 → Reps K ι1 H1 v t → PostS K W ι1 H1 D (k t Z1) → Q v H1) : tFA K (Wt W) fa σ H Q := by
  refine ⟨ι,ρ,Z,is.ie,?_⟩
  cases e : fa ρ Z with
  | ok a S =>
    rw [e] at h
    exact fun ι1 H1 b g s r => hq b H1 ι1 S a e g (is.gr g s) r (PostS.shift h g)
  | exc x S =>
    rw [e] at h
    exact fun ι' H' cls d g s rx => h ι' H' σ cls d g (is.gr g s) rx
  | stuck => rw [e] at h; exact h
theorem Z4d {i j : Nat} {x y : PySem.Str} {a b : Expr} {px py pt pos : Pos} {kt k2 pt2} (hc : X.calm = true) (hN : X.N.Nodup) (hi : X.N[i]? = some x) (hj : X.N[j]? = some y) (hij : i ≠ j)
    (hx : X.env.scope.names.lookup x = some .local) (hy : X.env.scope.names.lookup y = some .local) (ha : FAJ X K (Wt W) [a,b] fa) (hn : ofLen [a,b] fa)
    (hw : swappedStores [.Tuple [.Name x px,.Name y py] kt pt] (.Tuple [a,b] k2 pt2) X.env = pure (some [x,y]))
    (hs : swapsWithSole [.Tuple [.Name x px,.Name y py] kt pt] (.Tuple [a,b] k2 pt2) pos.line X.env = pure false := by rfl) :
    FSJ X K W (.Assign [.Tuple [.Name x px,.Name y py] kt pt] (.Tuple [a,b] k2 pt2) pos) (sPar [i,j] fa) := Je (ps_par hc hN hi hj hij hx hy ha hw hs) fun D σ H h => by
  obtain ⟨ι,ρ,Z,is,p⟩ := h
  refine Z8r is p fun v H1 ι1 Z1 t e g1 i1 r1 p1 => ?_
  have hl := hn _ _ _ _ e
  match t,r1,hl with
  | [t1,t2],.cons r1 (.cons r2 .nil),_ => exact ⟨_,_,rfl,p1 ι1 H1 _ Gr.refl ((i1.set r1 i).set r2 j)⟩
theorem Zco {i j l : Nat} {x y z : PySem.Str} {a b c : Expr} {px py pz pt pos : Pos} {kt k2 pt2} (hc : X.calm = true) (hN : X.N.Nodup) (hi : X.N[i]? = some x) (hj : X.N[j]? = some y) (hl : X.N[l]? = some z) (hij : i ≠ j) (hil : i ≠ l) (hjl : j ≠ l)
    (hx : X.env.scope.names.lookup x = some .local) (hy : X.env.scope.names.lookup y = some .local) (hz : X.env.scope.names.lookup z = some .local) (ha : FAJ X K (Wt W) [a,b,c] fa) (hn : ofLen [a,b,c] fa)
    (hw : swappedStores [.Tuple [.Name x px,.Name y py,.Name z pz] kt pt] (.Tuple [a,b,c] k2 pt2) X.env = pure (some [x,y,z]))
    (hs : swapsWithSole [.Tuple [.Name x px,.Name y py,.Name z pz] kt pt] (.Tuple [a,b,c] k2 pt2) pos.line X.env = pure false := by rfl) :
    FSJ X K W (.Assign [.Tuple [.Name x px,.Name y py,.Name z pz] kt pt] (.Tuple [a,b,c] k2 pt2) pos) (sPar [i,j,l] fa) := Je (ps_par3 hc hN hi hj hl hij hil hjl hx hy hz ha hw hs) fun D σ H h => by
  obtain ⟨ι,ρ,Z,is,p⟩ := h
  refine Z8r is p fun v H1 ι1 Z1 t e g1 i1 r1 p1 => ?_
  have hl := hn _ _ _ _ e
  match t,r1,hl with
  | [t1,t2,t3],.cons r1 (.cons r2 (.cons r3 .nil)),_ => exact ⟨_,_,_,rfl,p1 ι1 H1 _ Gr.refl (((i1.set r1 i).set r2 j).set r3 _)⟩
end
abbrev FG := T → Env → Sto → R Env
abbrev FGs := List T → Env → Sto → R Env
def rEnv (K : PySem.W.Frag) (ι : List Addr) (H : Hp) (σ : L2.St) (ρ : Env) : Prop := σ.length = ρ.length ∧ Envs K ι H σ ρ
def tG (K : PySem.W.Frag) (W : WX) (g : FG) : TG := fun v σ H Q => ∃ ι ρ Z t,Is K ι H σ ρ Z ∧ Rep K ι H v t ∧ Post (rEnv K) K W σ ι H Q (g t ρ Z)
def tGs (K : PySem.W.Frag) (W : WX) (g : FGs) : TGs := fun v σ H Q => ∃ ι ρ Z t,Is K ι H σ ρ Z ∧ Reps K ι H v t ∧ Post (rEnv K) K W σ ι H Q (g t ρ Z)
def gNm (i : Nat) : FG := fun t ρ Z => .ok (ρ.set i (some t)) Z
def gsNil : FGs := fun ts ρ Z => match ts with
  | [] => .ok ρ Z
  | _ => .stuck
def noX {α : Type} : R α → R α
  | .exc _ _ => .stuck
  | r => r
def gsCons (g : FG) (r : FGs) : FGs := fun ts ρ Z => match ts with
  | t :: ts => (noX (g t ρ Z)).bind fun ρ1 Z1 => noX (r ts ρ1 Z1)
  | _ => .stuck
def gTp (n : Nat) (r : FGs) : FG := fun t ρ Z => match t with
  | .tup ts => if ts.length = n then r ts ρ Z else .stuck
  | _ => .stuck
theorem Z1r {α β : Type} {rep : List Addr → Hp → β → α → Prop} {K : PySem.W.Frag} {W W' : WX} {σ σ' : L2.St} {ι : List Addr} {H : Hp} {Q : β → Hp → Prop} {r : R α} (h : Post rep K W σ ι H Q (noX r)) : Post rep K W' σ' ι H Q r := by
  cases r with
  | ok => exact h
  | exc => exact h.elim
  | stuck => exact h
section
variable {X : Cx} {K : PySem.W.Frag} {W : WX} {pos : Pos} {e : Expr} {es : List Expr}
theorem Z6t {tg : Expr} {t t' : TG} (h : PG X tg t) (i : ∀ v σ H Q, t' v σ H Q → t v σ H Q) : PG X tg t' := ⟨fun pins s σ H v u Q I r q => h.run pins s σ H v u Q I r (i _ _ _ _ q)⟩
theorem Z8s {tg : List Expr} {t t' : TGs} (h : PGs X tg t) (i : ∀ v σ H Q, t' v σ H Q → t v σ H Q) : PGs X tg t' := ⟨fun pins s σ H v u Q I r q => h.run pins s σ H v u Q I r (i _ _ _ _ q)⟩
theorem Xc {i : Nat} {x : PySem.Str} (hN : X.N.Nodup) (hi : X.N[i]? = some x) (hx : Loc X.env.scope x) (hf : X.fn x = true ∨ X.env.scope.names.lookup x = some .local := by first | exact .inl rfl | exact .inr rfl | assumption) : PG X (.Name x pos) (tG K W (gNm i)) :=
  Z6t (pg_name hN hi hx hf) fun v σ H Q h => by
    obtain ⟨ι,ρ,Z,t,is,r,p⟩ := h
    have i2 := is.set r i
    exact p ι H _ Gr.refl is.sim ⟨i2.len,i2.env⟩
theorem Uz : PGs X [] (tGs K W gsNil) := Z8s pgs_nil fun v σ H Q h => by
  obtain ⟨ι,ρ,Z,t,is,r,p⟩ := h
  cases r with
  | nil => exact ⟨rfl,p ι H _ Gr.refl is.sim ⟨is.len,is.env⟩⟩
  | cons _ _ => exact p.elim
theorem Ye {g : FG} {gs : FGs} (h1 : PG X e (tG K W g)) (h2 : PGs X es (tGs K W gs)) (hs : (assignEach (e :: es) X.env).map (·.2) = assign e X.env :: (assignEach es X.env).map (·.2) := by rfl) : PGs X (e :: es) (tGs K W (gsCons g gs)) := Z8s (pgs_cons h1 h2 hs) fun v σ H Q h => by
  obtain ⟨ι,ρ,Z,t,is,r,p⟩ := h
  cases r with
  | nil => exact p.elim
  | cons r1 r2 =>
    refine ⟨_,_,rfl,ι,ρ,Z,_,is,r1,Z1r (W := W) (σ := σ) ((Zg (rep := rEnv K) p).imp fun σ1 H1 q => ?_)⟩
    obtain ⟨ι1,Z1,ρ1,g1,s1,⟨hl,he⟩,p1⟩ := q
    exact ⟨ι1,ρ1,Z1,_,⟨hl,he,s1⟩,r2.gr g1,Z1r p1⟩
theorem Nk {k : Nat} {gs : FGs} {n : Nat} (hK : X.K = K) (hc : X.calm = true) (h : PGs X es (tGs K W gs)) (hn : (assignEach es X.env).length = n := by rfl) (hst : (assignEach es X.env).findIdx? (·.1) = none := by rfl) : PG X (.Tuple es k pos) (tG K W (gTp n gs)) := by
  subst hK
  refine Z6t (pg_tup hc h hn hst) fun v σ H Q h => ?_
  obtain ⟨ι,ρ,Z,t,is,r,p⟩ := h
  cases t with
  | tup ts =>
    obtain ⟨a,vs,rfl,hq,r⟩ := r.tupE
    simp only [gTp] at p
    split at p
    · rename_i hl
      exact ⟨a,vs,rfl,hq,by rw [r.length]; exact hl,ι,ρ,Z,ts,is,r,p⟩
    · exact p.elim
  | _ => exact p.elim
def sAsg (f : FE) (g : FG) : FS := fun ρ Z => bS ρ (f ρ Z) fun x Z1 => bS ρ (g x ρ Z1) fun ρ2 Z2 => .nx ρ2 Z2
theorem Nm {tg : Expr} {fe : FE} {g : FG} (he : FJ X K (Wt W) e fe) (hg : PG X tg (tG K W g)) (hs : swapsWithSole [tg] e pos.line X.env = pure false := by rfl) (hw : swappedStores [tg] e X.env = pure none := by rfl)
    (h1 : (assignEach [tg] X.env).map (·.2) = [assign tg X.env] := by rfl) : FSJ X K W (.Assign [tg] e pos) (sAsg fe g) := Je (ps_asg he hg hs hw h1) fun D σ H h => by
  obtain ⟨ι,ρ,Z,is,p⟩ := h
  refine Z5r is p fun v H1 ι1 Z1 t g1 i1 r1 p1 => ?_
  refine ⟨ι1,ρ,Z1,t,i1,r1,(Z1y (rep := rEnv K) i1 p1).imp fun σ2 H2 q => ?_⟩
  obtain ⟨ι2,Z2,ρ2,g2,s2,⟨hl,he⟩,p2⟩ := q
  exact p2 ι2 H2 σ2 Gr.refl ⟨hl,he,s2⟩
end
def gSetL : T → T → T → Sto → Option Sto
  | .loc j,.int k,t,Z => match getL Z j with
    | some ts => (ixN ts.length k).map fun n => Z.set j (.lst (ts.set n t))
    | none => none
  | _,_,_,_ => none
def gSubs (fo fi : FE) : FG := fun t ρ Z => (fo ρ Z).bind fun o Z1 => (fi ρ Z1).bind fun i Z2 => match gSetL o i t Z2 with
  | some Z3 => .ok ρ Z3
  | none => .stuck
section
variable {X : Cx} {K : PySem.W.Frag} {W : WX} {pos : Pos} {o e : Expr} {fo fi fe : FE}
theorem Zcp {ι : List Addr} {H : Hp} {Z Z3 : Sto} {x y v : V} {tx ty t : T} {Q : Hp → Prop} (s : Sim K ι Z H) (rx : Rep K ι H x tx) (ry : Rep K ι H y ty) (r : Rep K ι H v t) (e : gSetL tx ty t Z = some Z3) (q : ∀ H', Gr ι ι H H' → Sim K ι Z3 H' → Q H') : rSetL x y v H Q := by
  unfold gSetL at e
  split at e
  · split at e
    · rename_i ts h
      obtain ⟨n,h1,rfl⟩ := Option.map_eq_some_iff.mp e
      obtain ⟨a,vs,rfl,ha,hl,rl⟩ := Jk s (Uy h) rx
      cases ry
      refine ⟨a,vs,_,n,rfl,rfl,hl,by rw [rl.length]; exact h1,?_⟩
      have g := Gr.mut (ι := ι) (o := .lst (vs.set n v)) hl trivial (List.mem_of_getElem? ha)
      exact q _ g (s.set ha ⟨_,upd_same,(rl.gr g).set (r.gr g) n⟩)
    · cases e
  · cases e
theorem Zbm (ho : FJ X K (Wt W) o fo) (hi : FJ X K (Wt W) e fi)
    (ha : ∀ v,assign (.Subscript o e pos) X.env v = (do
      let ov ← holding [v] (eval o X.env)
      let iv ← holding [v,ov] (eval e X.env)
      standAt pos
      holding [v,ov,iv] (setItem ov iv v)
      release [v,ov,iv] []) := by intro _; rfl) : PG X (.Subscript o e pos) (tG K W (gSubs fo fi)) := Z6t (pg_sub ho hi set_list ha) fun v σ H Q h => by
  obtain ⟨ι,ρ,Z,t,is,r,p⟩ := h
  refine ⟨ι,ρ,Z,is.ie,(Zg (rep := Rep K) p).imp fun x H1 q => ?_⟩
  obtain ⟨ι1,Z1,tx,g1,s1,r1,p1⟩ := q
  refine ⟨ι1,ρ,Z1,(is.gr g1 s1).ie,(Zg (rep := Rep K) p1).imp fun y H2 q2 => ?_⟩
  obtain ⟨ι2,Z2,ty,g2,s2,r2,p2⟩ := q2
  split at p2
  · rename_i Z3 e3
    exact Zcp s2 (r1.gr g2) r2 ((r.gr g1).gr g2) e3 fun H3 g3 s3 => p2 ι2 H3 σ g3 s3 ⟨is.len,((is.env.gr g1).gr g2).gr g3⟩
  · exact p2.elim
def gIAdd : T → T → Sto → Option (T × Sto)
  | .int i,.int j,Z => some (.int (i + j),Z)
  | .str a,.str b,Z => if a.length + b.length ≤ Lim then some (.str (a ++ b),Z) else none
  | _,_,_ => none
end
abbrev ItF := Nat → Sto → Option (Option T)
abbrev FI := Env → Sto → R ItF
def loopN (it : ItF) (body : T → FS) : Nat → Nat → Env → Sto → RS
  | 0,_,_,_ => .stuck
  | n + 1,k,ρ,Z => match it k Z with
    | none => .stuck
    | some none => .nx ρ Z
    | some (some t) => seqL (body t ρ Z) fun ρ' Z' => loopN it body n (k + 1) ρ' Z'
def sFor (it : FI) (g : FG) (b : FS) : FS := fun ρ Z => bS ρ (it ρ Z) fun j Z1 => loopN j (fun t ρ' Z' => bS ρ' (g t ρ' Z') b) Fuel 0 ρ Z1
def ItR (K : PySem.W.Frag) (ι : List Addr) (H : Hp) (J : It) (it : ItF) : Prop := ∀ k ι' H' Z', Gr ι ι' H H' → Sim K ι' Z' H' → match it k Z' with
  | none => True
  | some none => J.stop k H'
  | some (some t) => J.go k H' ∧ ∀ x H'', J.yld k H' x H'' → Gr ι' ι' H' H'' ∧ Sim K ι' Z' H'' ∧ Rep K ι' H'' x t
def tI (K : PySem.W.Frag) (W : WX) (f : FI) : TI := fun σ H Q => ∃ ι ρ Z,Is K ι H σ ρ Z ∧ Post (ItR K) K W σ ι H Q (f ρ Z)
section
variable {X : Cx} {K : PySem.W.Frag} {W : WX} {pos : Pos} {tg iter c : Expr} {body : List Stmt} {fi : FI} {g : FG} {b : FS} {ft : FT}
theorem Z33 (hp : PassesOwn (model X.prog X.w) X.A X.env X.xe) (hc : X.calm = true) (hi : PI X tg iter (tI K W fi)) (hg : PG X tg (tG K W g)) (hb : FBJ X K W body b) (hs : ∀ x,foldedSetIterable iter X.env x = pure x := by intro _; rfl) :
    FSJ X K W (.For tg iter body [] pos) (sFor fi g b) := Je (ps_for hp hc hi hg hb hs) fun D σ H h => by
  obtain ⟨ι,ρ,Z,is,p⟩ := h
  refine ⟨ι,ρ,Z,is,(Z1y (rep := ItR K) is p).imp fun J H1 q => ?_⟩
  obtain ⟨ι1,Z1,it,g1,s1,rJ,p1⟩ := q
  refine ⟨fun k m σ' H' => ∃ ι' ρ' Z', Gr ι1 ι' H1 H' ∧ Is K ι' H' σ' ρ' Z' ∧ PostS K W ι' H' D (loopN it (fun t ρ' Z' => bS ρ' (g t ρ' Z') b) m k ρ' Z'), ⟨Fuel, ι1, ρ, Z1, Gr.refl, is.gr g1 s1, p1⟩, ?_⟩
  rintro k m σ' H' ⟨ι', ρ', Z', g', i', p'⟩
  cases m with
  | zero => exact p'.elim
  | succ m =>
    have hj := rJ k ι' H' Z' g' i'.sim
    unfold loopN at p'
    cases e : it k Z' with
    | none => rw [e] at p'; exact p'.elim
    | some o =>
      rw [e] at hj p'
      cases o with
      | none => exact .inl ⟨hj, p' ι' H' σ' Gr.refl i'⟩
      | some t =>
        refine .inr ⟨hj.1, _, fun σ2 H2 n => ⟨m, Nat.lt_succ_self m, n⟩, fun x H'' y => ?_⟩
        obtain ⟨g2, s2, r2⟩ := hj.2 x H'' y
        have i2 := i'.gr g2 s2
        have p2 := Z8p (PostS.shift p' g2)
        refine ⟨ι', ρ', Z', t, i2, r2, (Z1y (rep := rEnv K) i2 p2).imp fun σ3 H3 q => ?_⟩
        obtain ⟨ι3,Z3,ρ3,g3,s3,⟨hl,he⟩,p3⟩ := q
        have hN : ∀ σ4 H4, (∃ ι4 ρ4 Z4, Gr ι' ι4 H'' H4 ∧ Is K ι4 H4 σ4 ρ4 Z4 ∧ PostS K W ι4 H4 D (loopN it (fun t ρ' Z' => bS ρ' (g t ρ' Z') b) m (k + 1) ρ4 Z4)) → ∃ ι4 ρ4 Z4, Gr ι1 ι4 H1 H4 ∧ Is K ι4 H4 σ4 ρ4 Z4 ∧ PostS K W ι4 H4 D (loopN it (fun t ρ' Z' => bS ρ' (g t ρ' Z') b) m (k + 1) ρ4 Z4) :=
          fun σ4 H4 ⟨ι4, ρ4, Z4, g4, i4, p4⟩ => ⟨ι4, ρ4, Z4, (g'.trans g2).trans g4, i4, p4⟩
        exact ⟨ι3,ρ3,Z3,⟨hl,he,s3⟩,p3.imp hN (fun _ _ q => q) (fun _ _ q => q) hN⟩
end
def itSeq (ts : List T) : ItF := fun k _ => some ts[k]?
def itLoc (i : Nat) : ItF := fun k Z => (getL Z i).map fun ts => ts[k]?
def itEnum (it : ItF) : ItF := fun k Z => (it k Z).map fun o => o.map fun t => .tup [.int (k : Int),t]
def itRng (lo : Int) (n : Nat) : ItF := fun k _ => some (if k < n then some (.int (lo + k)) else none)
def itStr (l : List Nat) : ItF := fun k _ => some (l[k]?.map fun c => .str [c])
def iSeqT (f : FE) : FI := fun ρ Z => (f ρ Z).bind fun x Z1 => match x with
  | .tup ts => .ok (itSeq ts) Z1
  | _ => .stuck
def iSeqL (f : FE) : FI := fun ρ Z => (f ρ Z).bind fun x Z1 => match x with
  | .frl ts => .ok (itSeq ts) Z1
  | .loc i => match getL Z1 i with
    | some _ => .ok (itLoc i) Z1
    | none => .stuck
  | _ => .stuck
def iStr (f : FE) : FI := fun ρ Z => (f ρ Z).bind fun x Z1 => match x with
  | .str l => .ok (itStr l) Z1
  | _ => .stuck
def iRng (f : FA) : FI := fun ρ Z => (f ρ Z).bind fun xs Z1 => match xs with
  | [.int j] => if -(2 ^ 62) ≤ j ∧ j < 2 ^ 62 then .ok (itRng 0 j.toNat) Z1 else .stuck
  | [.int i,.int j] => if -(2 ^ 62) ≤ i ∧ i < 2 ^ 62 ∧ -(2 ^ 62) ≤ j ∧ j < 2 ^ 62 then .ok (itRng i (j - i).toNat) Z1 else .stuck
  | _ => .stuck
section
variable {X : Cx} {K : PySem.W.Frag} {W : WX} {pos p : Pos} {tg l a b : Expr} {fl : FE} {fa : FA}
theorem Z34 {t t' : TI} (h : PI X tg l t) (i : ∀ σ H Q, t' σ H Q → t σ H Q) : PI X tg l t' := ⟨fun pins s σ H R I q => h.run pins s σ H R I (i _ _ _ q)⟩
theorem Zbn {ι : List Addr} {H : Hp} {Z : Sto} {v : V} {t : T} {it : ItF} (s : Sim K ι Z H) (r : Rep K ι H v t) (e : (match t with
  | .frl ts => some (itSeq ts)
  | .loc i => match getL Z i with
    | some _ => some (itLoc i)
    | none => none
  | _ => none) = some it) : ∃ a,v = .ref a ∧ (∃ xs,SqL K H a xs) ∧ ItR K ι H (Itl K a) it := by
  cases t with
  | frl ts =>
    cases e
    cases r with
    | frl hq rs =>
      refine ⟨_, rfl, ⟨_, hq.sq⟩, fun k ι' H' Z' g' s' => ?_⟩
      have hq' := (hq.gr g').sq
      show match (itSeq ts k Z') with | none => True | some none => _ | some (some t) => _
      simp only [itSeq]
      cases e : ts[k]? with
      | none => exact ⟨_, hq', by rw [rs.length]; exact List.getElem?_eq_none_iff.mp e⟩
      | some u =>
        obtain ⟨x,h1,h2⟩ := rs.get e
        refine ⟨⟨_, x, hq', h1⟩, fun y H'' hy => ?_⟩
        obtain ⟨rfl,hy⟩ := hy
        have := hy _ hq'
        rw [h1] at this; cases this
        exact ⟨Gr.refl, s', h2.gr g'⟩
  | loc i =>
    simp only at e
    split at e
    · rename_i ts hl
      cases e
      obtain ⟨a,vs,rfl,ha,h1,h2⟩ := Jk s (Uy hl) r
      refine ⟨a, rfl, ⟨vs, SqL.of h1⟩, fun k ι' H' Z' g' s' => ?_⟩
      simp only [itLoc]
      cases e : getL Z' i with
      | none => exact trivial
      | some ts' =>
        obtain ⟨a', vs', ea, ha', h1', h2'⟩ := Jk s' (Uy e) (.loc (g'.pre _ _ ha))
        cases ea
        simp only [Option.map_some]
        cases e2 : ts'[k]? with
        | none => exact ⟨_, SqL.of h1', by rw [h2'.length]; exact List.getElem?_eq_none_iff.mp e2⟩
        | some u =>
          obtain ⟨x, h3, h4⟩ := h2'.get e2
          refine ⟨⟨_, x, SqL.of h1', h3⟩, fun y H'' hy => ?_⟩
          obtain ⟨rfl,hy⟩ := hy
          have := hy _ (SqL.of h1')
          rw [h3] at this; cases this
          exact ⟨Gr.refl, s', h4⟩
    · cases e
  | _ => cases e
theorem Zcq (hK : X.K = K) (hl : FJ X K (Wt W) l fl) : PI X tg l (tI K W (iSeqL fl)) := by
  subst hK
  refine Z34 (pi_list hl) fun σ H Q h => ?_
  obtain ⟨ι,ρ,Z,is,p⟩ := h
  refine ⟨ι,ρ,Z,is.ie,(Zg (rep := Rep X.K) p).imp fun v H1 q => ?_⟩
  obtain ⟨ι1,Z1,t,g1,s1,r1,p1⟩ := q
  cases t with
  | frl ts =>
    obtain ⟨a,rfl,hx,hI⟩ := Zbn (it := itSeq ts) s1 r1 rfl
    exact ⟨a,rfl,hx,p1 ι1 H1 _ Gr.refl s1 hI⟩
  | loc i =>
    simp only at p1
    split at p1
    · rename_i ts e
      obtain ⟨a,rfl,hx,hI⟩ := Zbn (it := itLoc i) s1 r1 (by simp only [e])
      exact ⟨a,rfl,hx,p1 ι1 H1 _ Gr.refl s1 hI⟩
    · exact p1.elim
  | _ => exact p1.elim
theorem Zei (hK : X.K = K) (hl : FJ X K (Wt W) l fl) : PI X tg l (tI K W (iSeqT fl)) := by
  subst hK
  refine Z34 (pi_tup hl) fun σ H Q h => ?_
  obtain ⟨ι,ρ,Z,is,p⟩ := h
  refine ⟨ι,ρ,Z,is.ie,(Zg (rep := Rep X.K) p).imp fun v H1 q => ?_⟩
  obtain ⟨ι1,Z1,t,g1,s1,r1,p1⟩ := q
  cases t with
  | tup ts =>
    obtain ⟨a,vs,rfl,hq,rs⟩ := r1.tupE
    refine ⟨a, rfl, ⟨_, hq⟩, p1 ι1 H1 _ Gr.refl s1 fun k ι' H' Z' g' s' => ?_⟩
    have hq' := SqT.gr g' hq
    show match (itSeq ts k Z') with | none => True | some none => _ | some (some t) => _
    simp only [itSeq]
    cases e : ts[k]? with
    | none => exact ⟨_, hq', by rw [rs.length]; exact List.getElem?_eq_none_iff.mp e⟩
    | some u =>
      obtain ⟨x,h1,h2⟩ := rs.get e
      refine ⟨⟨_, x, hq', h1⟩, fun y H'' hy => ?_⟩
      obtain ⟨rfl,hy⟩ := hy
      have := hy _ hq'
      rw [h1] at this; cases this
      exact ⟨Gr.refl, s', h2.gr g'⟩
  | _ => exact p1.elim
theorem Zej (hl : FJ X K (Wt W) l fl) : PI X tg l (tI K W (iStr fl)) := by
  refine Z34 (pi_str hl) fun σ H Q h => ?_
  obtain ⟨ι,ρ,Z,is,p⟩ := h
  refine ⟨ι,ρ,Z,is.ie,(Zg (rep := Rep K) p).imp fun v H1 q => ?_⟩
  obtain ⟨ι1,Z1,t,g1,s1,r1,p1⟩ := q
  cases t with
  | str u =>
    cases r1
    refine ⟨_, rfl, p1 ι1 H1 _ Gr.refl s1 fun k ι' H' Z' g' s' => ?_⟩
    simp only [itStr]
    cases e : u[k]? with
    | none => exact show (S u).cps.size ≤ k by simpa [S] using e
    | some c =>
      have hk : k < u.length := (List.getElem?_eq_some_iff.mp e).1
      refine ⟨show k < (S u).cps.size by simpa [S] using hk, fun y H'' hy => ?_⟩
      obtain ⟨rfl, c', hc', rfl⟩ := hy
      have : c' = c := by
        have h2 : u[k]? = some c' := by simpa [S] using hc'
        rw [e] at h2; exact (Option.some.inj h2).symm
      subst this
      exact ⟨Gr.refl, s', .str [c']⟩
  | _ => exact p1.elim
theorem Zek {ι : List Addr} {H : Hp} (lo : Int) (n : Nat) : ItR K ι H (Itr lo n) (itRng lo n) := fun k ι' H' Z' g' s' => by
  simp only [itRng]
  by_cases h : k < n
  · rw [if_pos h]
    refine ⟨h, fun y H'' hy => ?_⟩
    obtain ⟨rfl,rfl⟩ := hy
    exact ⟨Gr.refl, s', .int _⟩
  · rw [if_neg h]
    exact Nat.le_of_not_lt h
theorem Z1z (hg : Gl X "range") (hm : X.mg "range" = none) (ha : FAJ X K (Wt W) [a] fa) (hn : ofLen [a] fa) (hs : starEach [a] X.env = [(false, eval a X.env)] := by rfl) : PI X tg (.Call (.Name "range" p) [a] [] pos) (tI K W (iRng fa)) := by
  refine Z34 (pi_range1 hg hm ha hs) fun σ H Q h => ?_
  obtain ⟨ι,ρ,Z,is,p⟩ := h
  refine ⟨ι,ρ,Z,is.ie,?_⟩
  unfold iRng at p
  cases e : fa ρ Z with
  | ok ts Z1 =>
    rw [e,Wo] at p
    have hl := hn _ _ _ _ e
    intro ι1 H1 vs g1 s1 r1
    match ts,r1,hl with
    | [t],.cons r .nil,_ =>
      cases t with
      | int j =>
        simp only at p
        split at p
        · rename_i hb
          cases r
          exact ⟨j,rfl,hb.1,hb.2,p ι1 H1 _ g1 s1 (Zek _ _)⟩
        · exact p.elim
      | _ => exact p.elim
  | exc x Z1 => rw [e] at p; exact p
  | stuck => rw [e] at p; exact p
end
end Fx
set_option maxHeartbeats 4000000
namespace Fx
open PySem PySem.Spec PyProof.Rows L2 SX Ap
variable [Tb]
abbrev FF := List T → Sto → R T
def spF (K : PySem.W.Frag) (n : Nat) (F : FF) : Sp := fun vs H Q E => vs.length = n ∧ ∃ ι Z ts,Sim K ι Z H ∧ Reps K ι H vs ts ∧ Post (Rep K) K (fun cls d _ H => E cls d H) [] ι H Q (F ts Z)
def runF (n : Nat) (b : FS) : FF := fun ts Z => match b (ts.map some ++ List.replicate (n - ts.length) none) Z with
  | .nx _ Z' => .ok .non Z'
  | .rt t Z' => .ok t Z'
  | .exc x _ Z' => .exc x Z'
  | _ => .stuck
theorem Z7p {K : PySem.W.Frag} {ι : List Addr} {H : Hp} {vs : List V} {ts : List T} (r : Reps K ι H vs ts) (m : Nat) : Envs K ι H (vs.map some ++ List.replicate m none) (ts.map some ++ List.replicate m none) := fun i t h => by
  by_cases hi : i < ts.length
  · rw [List.getElem?_append_left (by rw [List.length_map]; exact hi),List.getElem?_map] at h
    cases e : ts[i]? with
    | none => rw [e] at h; cases h
    | some u =>
      rw [e] at h
      cases h
      obtain ⟨v,h1,h2⟩ := r.get e
      exact ⟨v,by rw [List.getElem?_append_left (by rw [List.length_map,r.length]; exact hi),List.getElem?_map,h1]; rfl,h2⟩
  · rw [List.getElem?_append_right (by rw [List.length_map]; omega)] at h
    rw [List.getElem?_replicate] at h
    split at h <;> cases h
abbrev FnG (P : Program) (w : World) (K : PySem.W.Frag) (mg : PySem.Str → Option Value) (base : Heap) (k : Nat) (f : Addr) (fd : FuncData) (ps : List PySem.Str) (sp : Sp) : Prop := GOk P w K mg base (L2.CX P w) k f fd ps sp
section
variable {P : Program} {w : World} {K : PySem.W.Frag} {mg : PySem.Str → Option Value} {base : Heap}
theorem fn_GX {k : Nat} {f : Addr} {name qual : PySem.Str} {params : Arguments} {body : List Stmt} {scope : Scope} {dV kV doc pm cdv ct oc : Value} {an od : Option Addr}
    {osl : Array (Option Value)} {N ps : List PySem.Str} {sp : Sp} (lk : K.lookup f = some ⟨oc,od,.func (PySem.W.fnOf name qual params body scope dV kV doc pm an cdv ct),osl⟩) (hcd : PySem.W.codeIn K cdv qual = true) (S : FnScope N ps scope)
    (len : ∀ vs H Q E,sp vs H Q E → vs.length = ps.length)
    (hbody : ∀ (A : Around) (outer : List PySem.Env) (s : Shared) (H : Hp) (vs : List V) (Q : VK) (E : XK),Room k (A.deeper (envOfC qual scope s.heap.objs.size f cdv)) → A.guards = some [] → sp vs H Q E →
      ∃ t, PSs (cxOf (L2.CX P w) P w K mg base N qual scope f cdv A outer s H E) body t ∧ t { nx := fun _ H' => Q .non H', rt := Q } (L2.start N vs) H) :
    FnG P w K mg base (k + 1) f (PySem.W.fnOf name qual params body scope dV kV doc pm an cdv ct) ps sp := by
  refine ⟨len,fun A outer s H args us vs Q E hr hG e0 hb r hsp => ?_⟩
  have hl := len _ _ _ _ hsp
  have KX : K.In s.heap := e0.mod.kin.keeps fun b o e => (e0.bs b o e).1
  have lim : s.heap.NoLimit := e0.mod.nolimit.keeps fun b o e => (e0.bs b o e).1
  have hkind : ∀ y ∈ ps.zip us,scope.names.lookup y.1 = some .local ∨ (scope.names.lookup y.1 = some .cell ∧ ((cellsFrom (s.heap.objs.size + 1) scope.names []).lookup y.1).isSome = true) := fun ⟨n,v⟩ hy => by
    rcases S.par n (List.of_mem_zip hy).1 with q | q
    · exact .inl q
    · exact .inr ⟨q,PySem.W.cellsFrom_some _ _ _ (.inl q)⟩
  refine codeAny_call_function hr.depth (KX _ _ lk) rfl S.co S.gen rfl (PySem.W.codeRec_of KX hcd) (hb _ _ _ _ ?_)
  refine wpAny_newFunctionEnv_cells S.kind hkind fun env he s1 x => ?_
  subst he
  refine ⟨lim.keeps x.toInCall.keep,codeAny_func ?_⟩
  obtain ⟨t,ht,hq⟩ := hbody A outer s H vs Q E (hr.deeper _) hG hsp
  have I : Inv (cxOf (L2.CX P w) P w K mg base N qual scope f cdv A outer s H E) [] (L2.start N vs) H s1 := inv_start S hr.hd e0 hl r x
  refine wpAny_mono (ht.run [] s1 (L2.start N vs) H _ I hq) (fun fl s' hs => ?_) fun e s' hs => hs
  have fin : ∀ {σ' : L2.St} {H' : Hp} {v : V} {u : Value}, Inv (cxOf (L2.CX P w) P w K mg base N qual scope f cdv A outer s H E) [] σ' H' s' → RelV v u → Q v H' → CE outer P w H s Q u s' :=
    fun {σ' H' v u} J rv q => ⟨v, H', J.os, J.bare, J.base, J.hok, rv, q⟩
  cases fl with
  | ret u =>
    obtain ⟨v, σ', H', J, rv, q⟩ := hs
    exact fin J rv q
  | next =>
    obtain ⟨σ', H', J, q⟩ := hs
    exact fin (v := V.non) (u := Value.none) J rfl q
  | brk =>
    obtain ⟨_,_,_,q⟩ := hs
    exact False.elim q
  | cont =>
    obtain ⟨_,_,_,q⟩ := hs
    exact False.elim q
def BodyJ (P : Program) (w : World) (K : PySem.W.Frag) (mg : PySem.Str → Option Value) (base : Heap) (k : Nat) (f : Addr) (N : List PySem.Str) (qual : PySem.Str) (scope : Scope) (body : List Stmt) (b : FS) : Prop :=
  ∀ (cdv : Value) (A : Around) (outer : List PySem.Env) (s : Shared) (H : Hp) (E : XK),Room k (A.deeper (envOfC qual scope s.heap.objs.size f cdv)) → A.guards = some [] →
    FBJ (cxOf (L2.CX P w) P w K mg base N qual scope f cdv A outer s H E) K (fun cls d _ H => E cls d H) body b
theorem Zel {k : Nat} {f : Addr} {N : List PySem.Str} {qual : PySem.Str} {scope : Scope} {body : List Stmt} {b : FS} {n : Nat} (hb : BodyJ P w K mg base k f N qual scope body b) (cdv : Value) (A : Around) (outer : List PySem.Env) (s : Shared) (H : Hp) (vs : List V) (Q : VK) (E : XK) (hr : Room k (A.deeper (envOfC qual scope s.heap.objs.size f cdv))) (hG : A.guards = some []) (h : spF K n (runF N.length b) vs H Q E) :
      ∃ t, PSs (cxOf (L2.CX P w) P w K mg base N qual scope f cdv A outer s H E) body t ∧ t { nx := fun _ H' => Q .non H', rt := Q } (L2.start N vs) H := by
  refine ⟨_,hb cdv A outer s H E hr hG,?_⟩
  obtain ⟨hl,ι,Z,ts,sim,r,p⟩ := h
  have hl2 := r.length
  refine ⟨ι,ts.map some ++ List.replicate (N.length - ts.length) none,Z,⟨by simp only [L2.start,List.length_append,List.length_map,List.length_replicate]; omega,?_,sim⟩,?_⟩
  · have := Z7p r (N.length - ts.length)
    unfold L2.start
    rw [hl2]
    exact this
  · unfold runF at p
    split at p
    · rename_i e; rw [e]; exact fun ι' H' σ' g is => p ι' H' _ g is.sim .non
    · rename_i e; rw [e]; exact p
    · rename_i e; rw [e]; exact fun ι' H' σ' cls d g is rx => p ι' H' cls d g is.sim rx
    · exact p.elim
theorem fnF {x qual : PySem.Str} {st : Stmt} {f : Addr} {fd : FuncData} {N ps : List PySem.Str} {k : Nat} {b : FS} (F : L2.Fun K x qual st f fd) (S : FnScope N ps (defScope st)) (hb : BodyJ P w K mg base k f N qual (defScope st) (defBody st) b) :
    FnG P w K mg base (k + 1) f fd ps (spF K ps.length (runF N.length b)) := by
  obtain ⟨oc,od,kV,doc,pm,an,cdv,ct,osl,rfl,lk,hcd⟩ := F.ex
  exact fn_GX lk hcd S (fun vs H Q E h => h.1) fun A outer s H vs Q E hr hG h => Zel hb cdv A outer s H vs Q E hr hG h
theorem Zbo {f : Addr} {fd : FuncData} {ps : List PySem.Str} {k : Nat} {sp : Sp} {n : Nat} {F : FF} (G : FnOk P w K mg base CX0 k f fd ps sp) (h : ∀ vs H Q E,spF K n F vs H Q E → sp vs H Q E) : FnG P w K mg base k f fd ps (spF K n F) :=
  ⟨fun vs H Q E q => G.len vs H Q E (h _ _ _ _ q), fun A outer s H as us vs Q E r _ e0 hb rv q => codeAny_mono (G.run A outer s H as us vs Q E r e0 hb rv (h _ _ _ _ q)) fun r s' z => by
    cases r with
    | error e => exact (show False from z).elim
    | ok f => cases f <;> exact z⟩
end
def eCall (F : FF) (ds : List T) (fa : FA) : FE := fun ρ Z => (fa ρ Z).bind fun ts Z1 => F (ts ++ ds) Z1
def eCallB (g : List T → Sto → Option (T × Sto)) (fa : FA) : FE := fun ρ Z => (fa ρ Z).bind fun xs Z1 => lift (g xs Z1)
def Dfl (K : PySem.W.Frag) (vs : List V) (ts : List T) : Prop := ∀ ι H,Reps K ι H vs ts
theorem Dfl.nil {K : PySem.W.Frag} : Dfl K [] [] := fun _ _ => .nil
section
variable {X : Cx} {K : PySem.W.Frag} {W : Wc} {x : PySem.Str} {p pos : Pos} {e : Expr} {es : List Expr} {fa : FA} {k n : Nat} {f : Addr} {fd : FuncData} {ps : List PySem.Str} {F : FF} {dvs : List V} {ds : List Value} {dts : List T}
theorem Zcr {pins : List (Addr × Obj)} {σ : L2.St} {H : Hp} {s : Shared} {Q : VK} {us : List Value} {vs : List V} {sp : Sp} (G : FnG X.prog X.w X.K X.mg X.base k f fd ps sp) (hr : Room k X.A) (hG : X.A.guards = some []) (hb : Binds X.K fd ps ds) (hd : Vals dvs ds) (tk : Takes X W.w)
    (I : Inv X pins σ H s) (r : Vals vs us) (h : sp (vs ++ dvs) H Q (WE W.w σ)) : wpAny (model X.prog X.w) X.A (call (.ref f) us) (EP X pins σ Q) X.xe s := by
  have r2 : Vals (vs ++ dvs) (us ++ ds) := r.append hd
  have hl : (us ++ ds).length = ps.length := by rw [← r2.length]; exact G.len _ _ _ _ h
  refine wpAny_call (codeAny_mono (G.run X.A X.stack s H ⟨us, []⟩ (us ++ ds) (vs ++ dvs) Q (WE W.w σ) hr hG I.env0 (hb s us I.kIn hl) r2 h) fun r s' hq => ?_)
  cases r with
  | error e => exact passAt tk σ pins H s e s' I hq
  | ok fl =>
    cases fl with
    | ret u => exact I.after hq
    | next => exact False.elim hq
    | brk => exact False.elim hq
    | cont => exact False.elim hq
theorem Post.wx {α β : Type} {rep : List Addr → Hp → β → α → Prop} {W W' : WX} {σ σ' : L2.St} {ι : List Addr} {H : Hp} {Q : β → Hp → Prop} {r : R α} (h : Post rep K W σ ι H Q r) (i : ∀ cls d H, W cls d σ H → W' cls d σ' H) : Post rep K W' σ' ι H Q r := by
  cases r with
  | ok => exact h
  | exc => exact fun ι' H' cls d g s rx => i _ _ _ (h ι' H' cls d g s rx)
  | stuck => exact h
theorem Zu (hK : X.K = K) (G : FnG X.prog X.w X.K X.mg X.base k f fd ps (spF X.K n F)) (hr : Room k X.A) (hG : X.A.guards = some []) (hg : Gl X x) (hm : X.mg x = some (.ref f)) (hk : PySem.W.keepIn X.K (.ref f) = true) (hb : Binds X.K fd ps ds) (hd : Vals dvs ds) (hdf : Dfl K dvs dts) (tk : Takes X W.w)
    (ha : FAJ X K W (e :: es) fa) (hn : ofLen (e :: es) fa) (hln : (e :: es).length + dts.length = n := by rfl) (hdb : (x == ("__debug__" : PySem.Str)) = false := by decide) (he : starEach (e :: es) X.env = (false, eval e X.env) :: starEach es X.env := by rfl) (hpl : (backTo pos (starEach es X.env)).any (·.1) = false := by rfl) :
    FJ X K W (.Call (.Name x p) (e :: es) [] pos) (eCall F dts fa) := by
  subst hK
  refine ⟨fun pins s σ H Q I h => ?_⟩
  refine wpAny_Call_Name_kw (ld_glob I hg hm ?_ hdb)
  obtain ⟨ι,ρ,Z,is,p⟩ := h
  have t : tFA X.K W fa σ H (fun vs H1 => spF X.K n F (vs ++ dvs) H1 Q (WE W.w σ)) := by
    refine ⟨ι,ρ,Z,is,?_⟩
    unfold eCall at p
    cases e : fa ρ Z with
    | ok ts Z1 =>
      rw [e,Wo] at p
      refine fun ι1 H1 vs g1 s1 r1 => ?_
      have r2 := r1.append (hdf ι1 H1)
      refine ⟨?_,ι1,Z1,_,s1,r2,(p.shift g1).wx fun _ _ _ h => h⟩
      rw [r2.length,List.length_append,hn _ _ _ _ e]
      exact hln
    | exc y Z1 => rw [e] at p; exact p
    | stuck => rw [e] at p; exact p
  refine PySem.W.callWith_K (h₀ := X.base) I.ok.mod.kin hk (thn (ha.run pos pins s σ H _ I t) fun us s1 ⟨vs,H1,I1,r,q⟩ => ⟨I1.kIn,?_⟩) he hpl
  exact Zcr G hr hG hb hd tk I1 r q
theorem Z6u {r : List V → Hp → VK → Prop} {g : List T → Sto → Option (T × Sto)} (hr : ∀ xs H Q,rFC K g xs H Q → r xs H Q) {σ : L2.St} {H : Hp} {Q : VK} (h : tF K W (eCallB g fa) σ H Q) : tCB r (tFA K W fa) σ H Q := by
  obtain ⟨ι,ρ,Z,is,p⟩ := h
  refine ⟨ι,ρ,Z,is,(Zg (rep := Reps K) p).imp fun xs H1 q => ?_⟩
  obtain ⟨ι1,Z1,ts,g1,s1,r1,p1⟩ := q
  exact hr _ _ _ ⟨ι1,Z1,ts,s1,r1,Jj p1⟩
theorem U3 {id : String} {g : List T → Sto → Option (T × Sto)} (hc : CallR X (.builtin id) (rFC K g)) (hg : Gl X x) (hm : X.mg x = none) (hv : bootBuiltins x = some (.builtin id)) (ha : FAJ X K W (e :: es) fa) (hn : x ≠ "__name__" := by decide) (hdb : (x == ("__debug__" : PySem.Str)) = false := by decide)
    (he : starEach (e :: es) X.env = (false,eval e X.env) :: starEach es X.env := by rfl) (hpl : (backTo pos (starEach es X.env)).any (·.1) = false := by rfl) : FJ X K W (.Call (.Name x p) (e :: es) [] pos) (eCallB g fa) :=
  Vw (pe_callB hc hg hm hv ha hn hdb he hpl) fun _ _ _ h => Z6u (fun _ _ _ h => h) h
theorem Yp {id : String} {g : List T → Sto → Option (T × Sto)} (hc : CallR X (.type id) (rFC K g)) (hg : Gl X x) (hm : X.mg x = none) (hv : bootBuiltins x = some (.type id)) (ha : FAJ X K W (e :: es) fa) (hn : x ≠ "__name__" := by decide) (hdb : (x == ("__debug__" : PySem.Str)) = false := by decide)
    (he : starEach (e :: es) X.env = (false,eval e X.env) :: starEach es X.env := by rfl) (hpl : (backTo pos (starEach es X.env)).any (·.1) = false := by rfl) : FJ X K W (.Call (.Name x p) (e :: es) [] pos) (eCallB g fa) :=
  Vw (pe_callTy hc hg hm hv ha hn hdb he hpl) fun _ _ _ h => Z6u (fun _ _ _ h => h) h
end
def gLen : List T → Sto → Option (T × Sto)
  | [.str l],Z => if l.length ≤ Lim then some (.int l.length,Z) else none
  | [t],Z => (asSeq t Z).map fun ts => (.int ts.length,Z)
  | _,_ => none
def gMax : List T → Sto → Option (T × Sto)
  | [.int i,.int j],Z => some (.int (if j > i then j else i),Z)
  | _,_ => none
def gMin : List T → Sto → Option (T × Sto)
  | [.int i,.int j],Z => some (.int (if j < i then j else i),Z)
  | _,_ => none
def gAbs : List T → Sto → Option (T × Sto)
  | [.int i],Z => some (.int (if i < 0 then -i else i),Z)
  | _,_ => none
def gInt : List T → Sto → Option (T × Sto)
  | [.int i],Z => some (.int i,Z)
  | [.bl b],Z => some (.int (if b then 1 else 0),Z)
  | _,_ => none
def gTuple : List T → Sto → Option (T × Sto)
  | [.tup ts],Z => some (.tup ts,Z)
  | [t],Z => (asList t Z).map fun ts => (.tup ts,Z)
  | _,_ => none
def tyT : T → Sto → Option String
  | .non, _ => some "NoneType" | .bl _, _ => some "bool" | .int _, _ => some "int" | .str _, _ => some "str" | .tup _, _ => some "tuple" | .frl _, _ => some "list"
  | .loc i,Z => match Z[i]? with
    | some (.lst _) => some "list"
    | some (.dk _) => some "dict"
    | some (.dt _) => some "dict"
    | _ => none
  | _,_ => none
def clsT : T → Option String
  | .ty n => some n
  | _ => none
def gIsiB (t : T) (c : T) (Z : Sto) : Option Bool := match tyT t Z,clsT c with
  | some a,some b => kitB a b
  | _,_ => none
def gIsi : List T → Sto → Option (T × Sto)
  | [t,.ty n],Z => (gIsiB t (.ty n) Z).map fun b => (.bl b,Z)
  | [t,.tup cs],Z => if (tyT t Z).isSome = true then ((cs.mapM fun c => gIsiB t c Z).map fun bs => (.bl (bs.any id),Z)) else none
  | _,_ => none
section
variable {X : Cx} {K : PySem.W.Frag}
theorem Reps.one {ι : List Addr} {H : Hp} {vs : List V} {t : T} (r : Reps K ι H vs [t]) : ∃ v,vs = [v] ∧ Rep K ι H v t := by
  cases r with
  | cons r q => cases q; exact ⟨_,rfl,r⟩
theorem Reps.two {ι : List Addr} {H : Hp} {vs : List V} {t u : T} (r : Reps K ι H vs [t,u]) : ∃ v w,vs = [v,w] ∧ Rep K ι H v t ∧ Rep K ι H w u := by
  cases r with
  | cons r q =>
    obtain ⟨w,rfl,r2⟩ := q.one
    exact ⟨_,_,rfl,r,r2⟩
theorem Z7q (hK : X.K = K) : CallR X (.builtin "len") (rFC K gLen) := by
  subst hK
  refine Ua (Z5i call_len_str call_len_seq) fun xs H Q h => ?_
  obtain ⟨ι,Z,ts,s,r,p⟩ := h
  match ts,r,p with
  | [],_,p => exact p.elim
  | _ :: _ :: _,_,p => simp only [gLen] at p; exact p.elim
  | [t],r,p =>
    obtain ⟨v,rfl,rr⟩ := r.one
    by_cases hs : ∃ l,t = .str l
    · obtain ⟨l,rfl⟩ := hs
      simp only [gLen] at p
      split at p
      · rename_i hz
        cases rr
        exact .inl ⟨_,rfl,by rw [S_len]; exact Jf hz,by rw [S_len]; exact Zz p s (.int _)⟩
      · exact p.elim
    · have e0 : gLen [t] Z = (asSeq t Z).map fun ts => (.int ts.length,Z) := by
        cases t <;> first | rfl | exact absurd ⟨_,rfl⟩ hs
      rw [e0] at p
      cases e : asSeq t Z with
      | none => rw [e] at p; exact p.elim
      | some us =>
        rw [e] at p
        obtain ⟨a,vs,rfl,hq,rs⟩ := Z1x s rr e
        exact .inr ⟨a,vs,rfl,hq,by rw [rs.length]; exact Zz p s (.int _)⟩
theorem c_max (hc : X.calm = true) : CallR X (.builtin "max") (rFC K gMax) := Ua (call_max2 hc) fun xs H Q h => by
  obtain ⟨ι,Z,ts,s,r,p⟩ := h
  unfold gMax at p
  split at p
  · obtain ⟨v,w,rfl,r1,r2⟩ := r.two
    cases r1; cases r2
    exact ⟨_,_,rfl,Zz p s (.int _)⟩
  · exact p.elim
theorem c_min (hc : X.calm = true) : CallR X (.builtin "min") (rFC K gMin) := Ua (call_min2 hc) fun xs H Q h => by
  obtain ⟨ι,Z,ts,s,r,p⟩ := h
  unfold gMin at p
  split at p
  · obtain ⟨v,w,rfl,r1,r2⟩ := r.two
    cases r1; cases r2
    exact ⟨_,_,rfl,Zz p s (.int _)⟩
  · exact p.elim
theorem Z6v {ι : List Addr} {H : Hp} {Z : Sto} {v : V} {t : T} {n : String} (s : Sim K ι Z H) (r : Rep K ι H v t) (e : tyT t Z = some n) : TyX K H v (.type n) := by
  cases r with
  | non => cases e; exact .base .non
  | bl b => cases e; exact .base (.bl b)
  | int i => cases e; exact .base (.int i)
  | str l => cases e; exact .base (.str _)
  | tup h r =>
    cases e
    rcases h with (h | ⟨o,h⟩) | ⟨o,its,n,h,hc,_⟩
    · exact .base (.tup h)
    · exact .fTuple h
    · exact .kTuple h hc
  | loc h =>
    simp only [tyT] at e
    split at e
    · rename_i hz
      obtain ⟨a', h1, vs, h2, _⟩ := s.at hz
      rw [h] at h1; cases h1; cases e
      exact .base (.lst h2)
    · rename_i hz
      obtain ⟨a', h1, vs, h2, _⟩ := s.at hz
      rw [h] at h1; cases h1; cases e
      exact .base (.dK h2)
    · rename_i hz
      obtain ⟨a', h1, vs, h2, _⟩ := s.at hz
      rw [h] at h1; cases h1; cases e
      exact .base (.dT h2)
    · cases e
  | frl h r =>
    cases e
    rcases h with ⟨o,h⟩ | ⟨o,its,n,h,hc,_⟩
    · exact .base (.frz h)
    · exact .kList h hc
  | ref a => cases e
  | ty m => cases e
  | lam h j => cases e
  | ktp h r => cases e
def rIsiU (K : PySem.W.Frag) : List V → Hp → VK → Prop := fun xs H Q => ∃ (x : V) (tp : Addr) (cs : List V) (t : Value) (us : List Value) (b : Bool),xs = [x,.ref tp] ∧ SqT K H tp cs ∧ Paired ClsV cs us ∧ TyX K H x t ∧ PySem.W.kitAny K t us = some b ∧ Q (.bl b) H
theorem Z8t : CallR X (.builtin "isinstance") (rIsiU X.K) := by
  intro pins s σ H xs us Q I r h
  obtain ⟨x,tp,cs,t,ws,b,rfl,hT,k,ty,e,q⟩ := h
  obtain ⟨u1,u2,rfl,r1,r2⟩ := vals2 r
  cases (show u2 = Value.ref tp from r2)
  obtain ⟨P,Z,p,hx⟩ := kit_of I r1 ty
  obtain ⟨its,rv,⟨o,h1,h2,n,h3⟩,_⟩ := I.tuple hT
  have e3 := ClsV.all k rv
  subst e3
  obtain ⟨oc,od,dt,sl⟩ := o
  simp only at h2 h3
  subst h2 h3
  exact PySem.W.kia_tup Z I.kIn p h1 e hx fun tk => ⟨.bl b,H,I.tok tk,rfl,q⟩
theorem isiAll {ι : List Addr} {H : Hp} {Z : Sto} {t : T} {n : String} (e : tyT t Z = some n) : ∀ {cs : List T} {vs : List V} {bs : List Bool},Reps K ι H vs cs → Paired (fun c b => gIsiB t c Z = some b) cs bs → ∃ us,Paired ClsV vs us ∧ PySem.W.kitAny K (.type n) us = some (bs.any id)
  | _,_,_,.nil,.nil => ⟨[],.nil,rfl⟩
  | _,_,_,.cons r q,.cons h p => by
    obtain ⟨us,h1,h2⟩ := isiAll e q p
    unfold gIsiB at h
    rw [e] at h
    rename_i v vs c cs b bs
    cases c with
    | ty m =>
      cases r
      refine ⟨.type m :: us,.cons (.ty m) h1,?_⟩
      refine kitAny_cons (kit_ty (show kitB n m = some b from h)) (fun hb => ?_) (fun hb => ?_)
      · rw [h2,List.any_cons,hb]; rfl
      · rw [List.any_cons,hb]; rfl
    | _ => cases h
theorem Zcs (hK : X.K = K) : CallR X (.builtin "isinstance") (rFC K gIsi) := by
  subst hK
  refine Ua (Z5i call_isi Z8t) fun xs H Q h => ?_
  obtain ⟨ι,Z,ts,s,r,p⟩ := h
  unfold gIsi at p
  split at p
  · obtain ⟨v,w,rfl,r1,r2⟩ := r.two
    cases r2
    rename_i t n
    cases e : gIsiB t (.ty n) Z with
    | none => rw [e] at p; exact p.elim
    | some b =>
      rw [e] at p
      unfold gIsiB at e
      split at e
      · rename_i a b' e1 e2
        cases e2
        exact .inl ⟨v,_,_,_,b,rfl,.ty _,Z6v s r1 e1,kit_ty e,Zz p s (.bl _)⟩
      · cases e
  · obtain ⟨v,w,rfl,r1,r2⟩ := r.two
    rename_i t cs
    obtain ⟨a,vs,rfl,hq,rs⟩ := r2.tupE
    split at p
    case isFalse => exact p.elim
    rename_i hty
    cases e : cs.mapM fun c => gIsiB t c Z with
    | none => rw [e] at p; exact p.elim
    | some bs =>
      rw [e] at p
      have pa := N7 e
      cases et : tyT t Z with
      | none => rw [et] at hty; cases hty
      | some n =>
        obtain ⟨us,h1,h2⟩ := isiAll et rs pa
        exact .inr ⟨v,a,vs,_,us,_,rfl,hq,h1,Z6v s r1 et,h2,Zz p s (.bl _)⟩
  · exact p.elim
end
end Fx
set_option maxHeartbeats 4000000
namespace Ap
open PySem PySem.Spec PyProof.Rows L2 SX
structure BaseC (K : PySem.W.Frag) (C0 : Addr) : Prop where
  ga : PySem.W.specialIn K (.ref C0) "__getattribute__" = some (some (.builtin "type.__getattribute__"))
  rd : PySem.W.readsIn K C0 (.type "type") = true
  iv : PySem.W.findCls K (.ref C0) (.type "type") "__init__" = some (.val (.builtin "ValueError.__init__"))
section
variable {X : Cx} {e : Expr} {es : List Expr} {ta : TA} {p1 p2 pos : Pos} {x : PySem.Str} {C0 : Addr}
theorem Z4e {pl : Sem Bool} (hg : Gl X x) (hm : X.mg x = some (.ref C0)) (B : BaseC X.K C0) (hd : (x == ("__debug__" : PySem.Str)) = false) (ha : PA X (e :: es) ta)
    (hc : eval (.Call (.Attribute (.Name x p1) "__init__" p2) (e :: es) [] pos) X.env = (do
      let ov ← eval (.Name x p1) X.env
      standAt p2.atName
      let (f, first) ← holding [ov] (getMethod ov "__init__" pl)
      callWith pos f first (backTo pos (starEach (e :: es) X.env)) (backToKw pos (keywordEach [] X.env))) := by rfl)
    (he : starEach (e :: es) X.env = (false,eval e X.env) :: starEach es X.env := by rfl) (hpl : (backTo pos (starEach es X.env)).any (·.1) = false := by rfl) :
    PE X (.Call (.Attribute (.Name x p1) "__init__" p2) (e :: es) [] pos) (tVeI X.K ta) := by
  refine ⟨fun pins s σ H Q I h => ?_⟩
  refine PySem.W.methodCall_KW (ld_glob I hg hm ?_ hd) hc
  refine PySem.W.method_cls I.kIn B.ga (PySem.W.cls_value I.kIn B.rd B.iv (by decide +kernel) ?_)
  show wpAny _ _ (callWith pos (Value.builtin "ValueError.__init__") [] (backTo pos (starEach (e :: es) X.env)) []) _ _ _
  refine PyProof.Rows.callWith_method1 (thn (ha.run pos pins _ σ H _ (I.tok _) h) fun us s1 ⟨vs,H1,I1,r1,a,C,ws,ev,hl,T,ea,q⟩ => ?_) he hpl
  subst ev
  cases r1 with
  | @cons _ u0 _ ur ra rw' =>
    obtain rfl : u0 = Value.ref a := ra
    have hlen : ur.length ≤ sizeLine := by
      rw [← Paired.length rw', sizeLine_eq]
      omega
    exact oinit_ok T I1 ea hlen fun s' J => ⟨.non, H1, J, rfl, q⟩
end
end Ap
set_option maxHeartbeats 4000000
namespace Ap
open PySem PySem.Spec PySem.Calls PyProof.Rows PySem.W
end Ap
set_option maxHeartbeats 4000000
namespace Fx
open PySem PySem.Spec PyProof.Rows L2 SX Ap
variable [Tb]
def isTy (n : String) : T → Sto → Bool
  | .str _, _ => n == "str"
  | .frl _, _ => n == "list"
  | .loc i,Z => match Z[i]? with
    | some (.lst _) => n == "list"
    | some (.dk _) => n == "dict"
    | some (.dt _) => n == "dict"
    | _ => false
  | _,_ => false
theorem Zct {K : PySem.W.Frag} {ι : List Addr} {H : Hp} {Z : Sto} {v : V} {t : T} {n : String} (s : Sim K ι Z H) (r : Rep K ι H v t) (e : isTy n t Z = true) : tyV K n v H := by
  cases r with
  | str l => exact beq_iff_eq.mp e
  | frl h r => exact .inl ⟨beq_iff_eq.mp e,_,h.sq⟩
  | loc h =>
    simp only [isTy] at e
    split at e
    · rename_i hz
      obtain ⟨a', h1, vs, h2, _⟩ := s.at hz
      rw [h] at h1; cases h1
      exact .inl ⟨beq_iff_eq.mp e,_,SqL.of h2⟩
    · rename_i hz
      obtain ⟨a', h1, vs, h2, _⟩ := s.at hz
      rw [h] at h1; cases h1
      exact .inr (.inr (.inl ⟨beq_iff_eq.mp e,.inl ⟨_,h2⟩⟩))
    · rename_i hz
      obtain ⟨a', h1, vs, h2, _⟩ := s.at hz
      rw [h] at h1; cases h1
      exact .inr (.inr (.inl ⟨beq_iff_eq.mp e,.inr ⟨_,h2⟩⟩))
    · cases e
  | _ => cases e
def eBM (n : String) (g : T → List T → Sto → Option (T × Sto)) (fo : FE) (fa : FA) : FE := fun ρ Z => (fo ρ Z).bind fun x Z1 => if isTy n x Z1 = true then (fa ρ Z1).bind fun xs Z2 => lift (g x xs Z2) else .stuck
def rFM (K : PySem.W.Frag) (g : T → List T → Sto → Option (T × Sto)) : V → List V → Hp → VK → Prop := fun x xs H Q => ∃ ι Z tx ts,Sim K ι Z H ∧ Rep K ι H x tx ∧ Reps K ι H xs ts ∧ PostO (Rep K) K ι H Q (g tx ts Z)
section
variable {X : Cx} {K : PySem.W.Frag} {W : Wc} {o e : Expr} {es : List Expr} {fo : FE} {fa : FA} {name : PySem.Str} {apos cpos : Pos} {n id : String} {g : T → List T → Sto → Option (T × Sto)}
theorem Z3q {r r' : V → List V → Hp → VK → Prop} (h : MtR X id r) (i : ∀ x xs H Q, r' x xs H Q → r x xs H Q) : MtR X id r' := fun pins s σ H x xs v us Q I rx rs q => h pins s σ H x xs v us Q I rx rs (i _ _ _ _ q)
theorem f_bm (hK : X.K = K) (pa : PlainAttrs n) (slot : Slot n name id) (hty : typeOf (.builtin id) = pure (.type "method_descriptor")) (hm : MtR X id (rFM K g)) (ho : FJ X K W o fo) (ha : FAJ X K W (e :: es) fa)
    (hbase : attributeBase o name X.env (eval o X.env) = eval o X.env := by rfl)
    (hfew : ((backTo cpos (starEach (e :: es) X.env)).all (fun x => !x.1) && (backToKw cpos (keywordEach [] X.env)).all (fun x => x.1.isSome)
      && decide ((e :: es).length + ([] : List Keyword).length + (if ([] : List Keyword).isEmpty then 0 else 1) < 30)) = true := by rfl)
    (hline : (apos.endLine == cpos.line) = true := by rfl) (hs : starEach (e :: es) X.env = (false,eval e X.env) :: starEach es X.env := by rfl) (hplain : (backTo cpos (starEach es X.env)).any (·.1) = false := by rfl) :
    FJ X K W (.Call (.Attribute o name apos) (e :: es) [] cpos) (eBM n g fo fa) := by
  subst hK
  refine Vw (pe_bm pa slot hty hm ho ha hbase hfew hline hs hplain) fun σ H Q h => ?_
  obtain ⟨ι,ρ,Z,is,p⟩ := h
  refine ⟨ι,ρ,Z,is,(Zg p).imp fun x H1 q => ?_⟩
  obtain ⟨ι1,Z1,tx,g1,s1,r1,p1⟩ := q
  split at p1
  · rename_i ht
    refine ⟨Zct s1 r1 ht,ι1,ρ,Z1,is.gr g1 s1,(Zg (rep := Reps X.K) p1).imp fun xs H2 q => ?_⟩
    obtain ⟨ι2,Z2,ts,g2,s2,r2,p2⟩ := q
    exact ⟨ι2,Z2,tx,ts,s2,r1.gr g2,r2,Jj p2⟩
  · exact p1.elim
end
def gAppend : T → List T → Sto → Option (T × Sto)
  | .loc i,[t],Z => match getL Z i with
    | some ts => if ts.length < Lim then some (.non,Z.set i (.lst (ts ++ [t]))) else none
    | none => none
  | _,_,_ => none
def asStr : T → Option (List Nat)
  | .str l => some l
  | _ => none
def gStarts : T → List T → Sto → Option (T × Sto)
  | .str a,[.str b],Z => some (.bl (b.isPrefixOf a),Z)
  | .str a,[.tup ts],Z => (ts.mapM asStr).map fun ys => (.bl (ys.any fun y => y.isPrefixOf a),Z)
  | _,_,_ => none
section
variable {X : Cx} {K : PySem.W.Frag}
theorem Z8u {ι : List Addr} {H : Hp} : ∀ {vs : List V} {ts : List T} {ys : List (List Nat)},Reps K ι H vs ts → Paired (fun t y => asStr t = some y) ts ys → vs = (ys.map S).map V.str
  | _,_,_,.nil,.nil => rfl
  | _,_,_,.cons r q,.cons h p => by
    rename_i v vs t ts y ys
    cases t with
    | str l =>
      cases h
      cases r
      rw [Z8u q p]; rfl
    | _ => cases h
theorem Z0o (hK : X.K = K) : MtR X "str.startswith" (rFM K gStarts) := by
  subst hK
  refine Z3q (mt_startswith.or Nh) fun x xs H Q h => ?_
  obtain ⟨ι,Z,tx,ts,s,rx,rs,p⟩ := h
  unfold gStarts at p
  split at p
  · obtain ⟨y,rfl,ry⟩ := rs.one
    cases rx; cases ry
    exact .inl ⟨_,_,rfl,rfl,by rw [Uo]; exact Zz p s (.bl _)⟩
  · obtain ⟨y,rfl,ry⟩ := rs.one
    cases rx
    rename_i l0 us
    obtain ⟨a,vs,rfl,hq,r⟩ := ry.tupE
    cases e : us.mapM asStr with
    | none => rw [e] at p; exact p.elim
    | some ys =>
      rw [e] at p
      have ev := Z8u r (N7 e)
      subst ev
      refine .inr ⟨_,a,ys.map S,rfl,rfl,hq,?_⟩
      have e2 : ((ys.map S).any fun y => Txt.startswith (S l0) y) = ys.any fun y => y.isPrefixOf l0 := by
        rw [List.any_map]
        congr 1
        funext y
        exact Uo _ _
      rw [e2]
      exact Zz p s (.bl _)
  · exact p.elim
end
end Fx
set_option maxHeartbeats 4000000
namespace Fx
open PySem PySem.Spec PyProof.Rows L2 SX Ap
variable [Tb]
def wipeR (ρ : Env) : List Nat → Env
  | [] => ρ
  | v :: vs => (wipeR ρ vs).set v none
def putN : List Nat → T → Env → Option Env
  | [j],t,ρ => some (ρ.set j (some t))
  | js,.tup ts,ρ => if ts.length = js.length then some ((js.zip ts).foldl (fun r p => r.set p.1 (some p.2)) ρ) else none
  | _,_,_ => none
def loopC (it : ItF) (D : Nat) (put : T → Option Env) (c : FT) (e : FE) : Nat → Nat → Sto → R T
  | 0,_,_ => .stuck
  | n + 1,k,Z => match it k Z with
    | none => .stuck
    | some none => .ok (.loc D) Z
    | some (some t) => match put t with
      | none => .stuck
      | some ρ => (noX (c ρ Z)).bind fun b Z1 => if b = true then (noX (e ρ Z1)).bind fun y Z2 => (match getL Z2 D with
          | some acc => if acc.length < Lim then loopC it D put c e n (k + 1) (Z2.set D (.lst (acc ++ [y]))) else .stuck
          | none => .stuck) else loopC it D put c e n (k + 1) Z1
def eLc (vs js : List Nat) (it : FI) (c : FT) (e : FE) : FE := fun ρ Z => (it ρ Z).bind fun j Z1 => loopC j Z1.length (fun t => putN js t (wipeR ρ vs)) c e Fuel 0 (Z1 ++ [.lst []])
def eYes : FT := fun _ Z => .ok true Z
section
variable {X : Cx} {K : PySem.W.Frag} {W : Wc}
theorem Z1c (ρ : Env) : ∀ vs : List Nat,(wipeR ρ vs).length = ρ.length
  | [] => rfl
  | v :: vs => by show ((wipeR ρ vs).set v none).length = _; rw [List.length_set,Z1c ρ vs]
theorem Z4f {ι : List Addr} {H : Hp} {σ : L2.St} {ρ : Env} (e : Envs K ι H σ ρ) (hl : σ.length = ρ.length) : ∀ vs : List Nat,Envs K ι H (wipe σ vs) (wipeR ρ vs)
  | [] => e
  | v :: vs => fun i t h => by
    have h' : ((wipeR ρ vs).set v none)[i]? = some (some t) := h
    show ∃ w,((wipe σ vs).set v none)[i]? = some (some w) ∧ _
    by_cases hi : i = v
    · subst hi
      by_cases hlt : i < (wipeR ρ vs).length
      · rw [List.getElem?_set_self hlt] at h'; cases h'
      · rw [List.getElem?_eq_none (by rw [List.length_set]; omega)] at h'; cases h'
    · rw [List.getElem?_set_ne (Ne.symm hi)] at h'
      rw [List.getElem?_set_ne (Ne.symm hi)]
      exact Z4f e hl vs i t h'
theorem Z0p (σ : L2.St) : ∀ (vs : List Nat) (i : Nat),i < σ.length → i ∈ vs → (wipe σ vs)[i]? = some none
  | v :: vs,i,hl,hm => by
    show ((wipe σ vs).set v none)[i]? = some none
    by_cases hi : i = v
    · subst hi
      rw [List.getElem?_set_self (by rw [wipe_length]; exact hl)]
    · rw [List.getElem?_set_ne (Ne.symm hi)]
      exact Z0p σ vs i hl ((List.mem_cons.mp hm).resolve_left hi)
theorem Zai (σ : L2.St) (vs : List Nat) (x : Option V) {j : Nat} (hj : j ∈ vs) : wipe (σ.set j x) vs = wipe σ vs := by
  apply List.ext_getElem?
  intro i
  by_cases hi : i ∈ vs
  · by_cases hlt : i < σ.length
    · rw [Z0p _ vs i (by rw [List.length_set]; exact hlt) hi,Z0p σ vs i hlt hi]
    · rw [List.getElem?_eq_none (by rw [wipe_length,List.length_set]; omega),List.getElem?_eq_none (by rw [wipe_length]; omega)]
  · rw [wipe_out hi,wipe_out hi,List.getElem?_set_ne (fun e => hi (by rw [← e]; exact hj))]
theorem Z8v (σ : L2.St) (vs : List Nat) : wipe (wipe σ vs) vs = wipe σ vs := by
  apply List.ext_getElem?
  intro i
  by_cases hi : i ∈ vs
  · by_cases hlt : i < σ.length
    · rw [Z0p _ vs i (by rw [wipe_length]; exact hlt) hi,Z0p σ vs i hlt hi]
    · rw [List.getElem?_eq_none (by rw [wipe_length,wipe_length]; omega),List.getElem?_eq_none (by rw [wipe_length]; omega)]
  · rw [wipe_out hi]
abbrev W0 : Wc := Wt (fun _ _ _ _ => False)
def TgOk (K : PySem.W.Frag) (js : List Nat) (g : TG) : Prop := ∀ (x : V) (σ : L2.St) (H : Hp) (Q : L2.St → Hp → Prop) ι ρ ρ' t, σ.length = ρ.length → Envs K ι H σ ρ → Rep K ι H x t → putN js t ρ = some ρ' →
  (∀ σ', σ'.length = ρ'.length → Envs K ι H σ' ρ' → (∀ vs, (∀ j ∈ js, j ∈ vs) → wipe σ' vs = wipe σ vs) → Q σ' H) → g x σ H Q
theorem Zaj (j : Nat) (t : T) (ρ : Env) : putN [j] t ρ = some (ρ.set j (some t)) := by cases t <;> rfl
theorem Zcu (j : Nat) : TgOk K [j] (gName j) := fun x σ H Q ι ρ ρ' t hl env r e q => by
  rw [Zaj] at e
  have e' := Option.some.inj e
  subst e'
  exact q _ (by rw [List.length_set,List.length_set]; exact hl) (env.set r j hl) fun vs h => Zai σ vs _ (h j List.mem_cons_self)
theorem tF_lc {fi : FI} {g : TG} {ft : FT} {fe : FE} {vs js : List Nat} (hg : TgOk K js g) (hjs : ∀ j ∈ js,j ∈ vs) {σ : L2.St} {H : Hp} {Q : VK} (hi : ∀ R,(∃ ι ρ Z,Ie K W ι H σ ρ Z ∧ Post (ItR K) K W.w σ ι H R (fi ρ Z)) → tI K W.w fi σ H R) (h : tF K W (eLc vs js fi ft fe) σ H Q) : tLc (tI K W.w fi) g (tFT K W0 ft) (tF K W0 fe) vs σ H Q := by
  obtain ⟨ι,ρ,Z,is,p⟩ := h
  refine hi _ ⟨ι,ρ,Z,is,(Zg (rep := ItR K) p).imp fun J H1 q => ?_⟩
  obtain ⟨ι1,Z1,it,g1,s1,rJ,p1⟩ := q
  intro D hD
  have is1 := is.gr g1 s1
  have sD : Sim K (ι1 ++ [D]) (Z1 ++ [.lst []]) (upd H1 D (.lst [])) := s1.newL .nil hD
  have gD : Gr ι1 (ι1 ++ [D]) H1 (upd H1 D (.lst [])) := Gr.new hD
  have hDi : (ι1 ++ [D])[Z1.length]? = some D := by rw [← s1.len]; simp
  refine ⟨fun k m H' => ∃ ι' Z', Gr (ι1 ++ [D]) ι' (upd H1 D (.lst [])) H' ∧ Sim K ι' Z' H' ∧ Post (Rep K) K W.w σ ι' H' Q (loopC it Z1.length (fun t => putN js t (wipeR ρ vs)) ft fe m k Z'), ⟨Fuel, ι1 ++ [D], _, Gr.refl, sD, p1.shift gD⟩, ?_⟩
  rintro k m H' ⟨ι', Z', g', s', p'⟩
  cases m with
  | zero => exact p'.elim
  | succ m =>
    have hj := rJ k ι' H' Z' (gD.trans g') s'
    unfold loopC at p'
    cases e : it k Z' with
    | none => rw [e] at p'; exact p'.elim
    | some o =>
      rw [e] at hj p'
      cases o with
      | none => exact .inl ⟨hj, p' ι' H' _ Gr.refl s' (.loc (g'.pre _ _ hDi))⟩
      | some t =>
        refine .inr ⟨hj.1, _, fun H2 n => ⟨m, Nat.lt_succ_self m, n⟩, fun x H'' y => ?_⟩
        obtain ⟨g2, s2, r2⟩ := hj.2 x H'' y
        simp only at p'
        cases e3 : putN js t (wipeR ρ vs) with
        | none => rw [e3] at p'; exact p'.elim
        | some ρ' =>
          rw [e3] at p'
          have env2 : Envs K ι' H'' (wipe σ vs) (wipeR ρ vs) := Z4f ((is1.env.gr (gD.trans g')).gr g2) is1.len vs
          refine hg x (wipe σ vs) H'' _ ι' _ ρ' t (by rw [wipe_length, Z1c]; exact is1.len) env2 r2 e3 fun σ' hl' env' hw => ?_
          refine ⟨by rw [hw vs hjs, Z8v], ι', ρ', Z', ⟨hl', env', s2, trivial⟩, Z1r (W := W.w) (σ := σ) ((Zg (rep := bEq) (p'.shift g2)).imp fun b H3 q => ?_)⟩
          obtain ⟨ι3, Z3, b', g3, s3, rb, p3⟩ := q
          cases (show b = b' from rb)
          cases b with
          | false =>
            rw [if_neg Bool.false_ne_true] at p3 ⊢
            exact ⟨ι3, Z3, (g'.trans g2).trans g3, s3, p3⟩
          | true =>
            rw [if_pos rfl] at p3 ⊢
            refine ⟨ι3, ρ', Z3, ⟨hl', env'.gr g3, s3, trivial⟩, Z1r (W := W.w) (σ := σ) ((Zg (rep := Rep K) p3).imp fun y H4 q => ?_)⟩
            obtain ⟨ι4,Z4,ty,g4,s4,ry,p4⟩ := q
            split at p4
            · rename_i acc ea
              split at p4
              · rename_i hz
                have hD4 : ι4[Z1.length]? = some D := g4.pre _ _ (g3.pre _ _ (g'.pre _ _ hDi))
                obtain ⟨a, ws, ea', _, h1, rw1⟩ := Jk s4 (Uy ea) (.loc hD4)
                cases ea'
                have g5 := Gr.mut (ι := ι4) (o := .lst (ws ++ [y])) h1 trivial (List.mem_of_getElem? hD4)
                refine ⟨ws, h1, by rw [rw1.length]; exact Nat.lt_of_lt_of_le hz Zbi, ι4, _, (((g'.trans g2).trans g3).trans g4).trans g5, s4.set (ob := .lst (acc ++ [ty])) hD4 ⟨_, upd_same, (rw1.gr g5).append (.cons (ry.gr g5) .nil)⟩, p4.shift g5⟩
              · exact p4.elim
            · exact p4.elim
theorem Zem {fi : FI} {σ : L2.St} {H : Hp} {R : It → Hp → Prop} (h : ∃ ι ρ Z,Ie K W ι H σ ρ Z ∧ Post (ItR K) K W.w σ ι H R (fi ρ Z)) : tI K W.w fi σ H R := by
  obtain ⟨ι,ρ,Z,is,p⟩ := h
  exact ⟨ι,ρ,Z,⟨is.len,is.env,is.sim⟩,p⟩
theorem Zcv : PTs X [] (tFT K W0 eYes) := ⟨fun pins s σ H Q I h => by
  obtain ⟨ι,ρ,Z,is,p⟩ := h
  exact pts_nil.run pins s σ H Q I (p ι H true Gr.refl is.sim rfl)⟩
theorem Zak {W : WX} {i : Nat} {y : PySem.Str} {py : Pos} {elt tg iter : Expr} {ifs : List Expr} {scope : Scope} {own : List (PySem.Str × Nat)} {pos spos : Pos} {fi : FI} {g : TG} {ft : FT} {fe : FE} {js : List Nat} (hg0 : TgOk K js g) (hjs : ∀ j ∈ js,j ∈ own.map (·.2)) (hc : X.calm = true) (hN : X.N.Nodup) (hy : X.N[i]? = some y) (hyl : X.env.scope.names.lookup y = some .local)
    (hsw : swapsWith (.ListComp elt [⟨tg,iter,ifs,0⟩] scope pos) (some (.Name y py)) spos.line X.env = pure true) (hi : PI X tg iter (tI K W fi)) (ok : BlkOk X.N X.env.scope scope own)
    (hg : ∀ (s : Shared) (H : Hp) (C : Addr) (cl : List (PySem.Str × Addr)) (fp : List Addr),PG (X.blk s H scope (compEnvC scope cl C X.env) fp) tg g) (ht : ∀ (s : Shared) (H : Hp) (C : Addr) (cl : List (PySem.Str × Addr)) (fp : List Addr),PTs (X.blk s H scope (compEnvC scope cl C X.env) fp) ifs (tFT K W0 ft))
    (he : ∀ (s : Shared) (H : Hp) (C : Addr) (cl : List (PySem.Str × Addr)) (fp : List Addr),FJ (X.blk s H scope (compEnvC scope cl C X.env) fp) K W0 elt fe) (hs : ∀ x,foldedSetIterable iter X.env x = pure x := by intro _; rfl) :
    FSJ X K W (.Assign [.Name y py] (.ListComp elt [⟨tg,iter,ifs,0⟩] scope pos) spos) (sSet i (eLc (own.map (·.2)) js fi ft fe)) := Je (ps_setLc hc hN hy hyl hsw hi ok hg ht he hs) fun D σ H h => by
  obtain ⟨ι,ρ,Z,is,p⟩ := h
  refine tF_lc (W := Wt W) hg0 hjs (fun R q => Zem q) (Z5r is p fun v H1 ι1 Z1 t g1 i1 r1 p1 => ?_)
  exact p1 ι1 H1 _ Gr.refl (i1.set r1 i)
end
end Fx
set_option maxHeartbeats 4000000
namespace Fx
open PySem PySem.Spec PyProof.Rows L2 SX Ap
variable [Tb]
def spI (C : Addr) (f : PySem.Str) : Sp := fun vs H Q _ => ∃ (a : Addr) (v : V),vs = [.ref a,v] ∧ H a = some (exo a C none) ∧ ∀ dx,H dx = none → dx ≠ a → Q .non (upd (upd H dx (exd dx [(f,v)])) a (exo a C (some dx)))
def sRaise (nm f : PySem.Str) (ds : List T) (fa : FA) : FS := fun ρ Z => bS ρ (fa ρ Z) fun ts Z1 => match ts ++ ds with
  | [t] => .exc ⟨nm,[(f,t)]⟩ ρ Z1
  | _ => .stuck
section
variable {X : Cx} {K : PySem.W.Frag} {W : WX} {x : PySem.Str} {p pos rpos : Pos} {e : Expr} {es : List Expr} {fa : FA} {k : Nat} {C fI : Addr} {fd : FuncData} {ps : List PySem.Str} {f : PySem.Str} {dvs : List V} {ds : List Value} {dts : List T}
theorem Z6w (hK : X.K = K) (hc : X.calm = true) (tk : Takes X W) (T : OexC X.K C) (iC : PySem.W.findIn X.K (.ref C) "__init__" = some (some (.ref fI))) (tI : PySem.W.typeIn X.K (.ref fI) = some (.type "function"))
    (F1 : FnOk X.prog X.w X.K X.mg X.base CX0 k fI fd ps (spI C f)) (hr : Room (k + 1) X.A) (hb : Binds X.K fd ps ds) (hd : Vals dvs ds) (hdf : Dfl K dvs dts) (hg : Gl X x) (hm : X.mg x = some (.ref C)) (ha : FAJ X K (Wt W) (e :: es) fa) (hn : ofLen (e :: es) fa) (hns : PySem.W.nsIn X.K mainGlobals x = some (some (.ref C))) (hln : (e :: es).length + dts.length = 1 := by rfl)
    (hdb : (x == ("__debug__" : PySem.Str)) = false := by decide) (he : starEach (e :: es) X.env = (false, eval e X.env) :: starEach es X.env := by rfl) (hpl : (backTo pos (starEach es X.env)).any (·.1) = false := by rfl) :
    FSJ X K W (.Raise (some (.Call (.Name x p) (e :: es) [] pos)) none rpos) (sRaise x f dts fa) := by
  subst hK
  refine Je (ps_raise hc tk (pmk_oex T iC tI F1 hr hb hd pass0 hg hm ha hdb he hpl)) fun D σ H h => ?_
  obtain ⟨ι,ρ,Z,is,q⟩ := h
  refine Z8r is q fun vs H1 ι1 Z1 ts e1 g1 i1 r1 p1 => ?_
  have r2 := r1.append (hdf ι1 H1)
  have hl := r2.length
  have hl2 : (ts ++ dts).length = 1 := by rw [List.length_append,hn _ _ _ _ e1]; exact hln
  refine ⟨?_,fun a na => ?_⟩
  · rw [List.length_append,r1.length] at *; omega
  match hts : ts ++ dts,r2,hl2 with
  | [t],r2,_ =>
    obtain ⟨v,ev,rv⟩ := r2.one
    rw [hts] at p1
    rw [ev]
    refine ⟨a,v,rfl,upd_same,fun dx nd ne => ⟨rfl,dx,[(f,v)],?_,?_,?_,?_⟩⟩
    · exact upd_same
    · rw [upd_ne ne,upd_same]
    · rw [upd_ne ne] at nd; exact nd
    · have hd1 : H1 dx = none := by rw [upd_ne ne] at nd; exact nd
      have eH : ∀ b,b ≠ dx → upd (del (upd (upd (upd H1 a (exo a C none)) dx (exd dx [(f,v)])) a (exo a C (some dx))) a) dx (.xd [(f,v)]) b = H1 b := fun b hb => by
        rw [upd_ne hb]
        by_cases hba : b = a
        · subst hba; rw [del_same,na]
        · rw [del_ne hba,upd_ne hba,upd_ne hb,upd_ne hba]
      have sm : Same H1 (upd (del (upd (upd (upd H1 a (exo a C none)) dx (exd dx [(f,v)])) a (exo a C (some dx))) a) dx (.xd [(f,v)])) := fun b o ho => by
        rw [eH b (ne_of_none ho hd1)]; exact ho
      refine p1 ι1 _ σ (.ref C) (some dx) (Gr.same sm) (i1.gr (Gr.same sm) (i1.sim.same sm)) ⟨⟨C,rfl,hns⟩,dx,[(f,v)],rfl,upd_same,.cons (rv.gr (Gr.same sm)) .nil⟩
end
theorem RepX.gr {K : PySem.W.Frag} {ι ι' : List Addr} {H H' : Hp} {cls : Value} {d : Option Addr} {x : Ex} (g : Gr ι ι' H H') (h : RepX K ι H cls d x) : RepX K ι' H' cls d x := by
  obtain ⟨h1,h2⟩ := h
  refine ⟨h1,?_⟩
  split at h2
  · rename_i e; exact h2
  · obtain ⟨dd,vs,e,h,r⟩ := h2
    exact ⟨dd,vs,e,g.xd _ _ h,r.gr g⟩
def Wx (K : PySem.W.Frag) (i : Nat) (a : Addr) (cls : Value) (d : Option Addr) (x : Ex) : Wc := ⟨fun _ _ _ _ => False,fun σ ι H => σ[i]? = some (some (.ref a)) ∧ RepX K ι H cls d x,fun _ _ _ _ _ g h => ⟨h.1,h.2.gr g⟩⟩
def eXf (x : Ex) (f : PySem.Str) : FE := fun _ Z => match x.fs.lookup f with
  | some t => .ok t Z
  | none => .stuck
def sTryAs (nm : PySem.Str) (i : Nat) (b : FS) (fe : Ex → FE) : FS := fun ρ Z => match b ρ Z with
  | .exc x ρ' Z' => if x.cls = nm ∧ i < ρ'.length ∧ x.fs.isEmpty = false then (match fe x (ρ'.set i none) Z' with
    | .ok t Z2 => .rt t Z2
    | _ => .stuck) else .stuck
  | r => r
theorem RepP.lookup {K : PySem.W.Frag} {ι : List Addr} {H : Hp} {f : PySem.Str} {t : T} : ∀ {vs : List (PySem.Str × V)} {fs : List (PySem.Str × T)},RepP K ι H vs fs → fs.lookup f = some t → ∃ v,vs.lookup f = some v ∧ Rep K ι H v t
  | _,_,.nil,e => by cases e
  | _,_,.cons r q,e => by
    rename_i k v vs t' ts
    rw [List.lookup_cons] at e ⊢
    cases h : f == k with
    | true => rw [h] at e; cases e; exact ⟨v,rfl,r⟩
    | false => rw [h] at e; exact RepP.lookup q e
section
variable {X : Cx} {K : PySem.W.Frag} {W : WX} {x : PySem.Str} {n : PySem.Str} {C : Addr} {i : Nat} {body : List Stmt} {e : Expr} {np pos pos' rpos : Pos} {b : FS} {fe : Ex → FE}
theorem f_xf {a : Addr} {oe : Obj} {cls : Value} {d : Option Addr} {pn : List (Addr × Obj)} {y : Ex} {nm f : PySem.Str} {vp : Pos} (hK : X.K = K) (hx : y.cls = nm) (hns : PySem.W.nsIn X.K mainGlobals nm = some (some (.ref C))) (T : XfC X.K C) (hno : PySem.W.findIn X.K (.ref C) f = some none) (hz : Zc cls d oe) (hf : ∃ vs,oe.data = .fields vs) (he : PE (X.suite a ((a,oe) :: pn)) (.Name n vp) (tVar i))
    (hb : attributeBase (.Name n vp) f X.env (eval (.Name n vp) X.env) = eval (.Name n vp) X.env := by rfl) : FJ (X.suite a ((a,oe) :: pn)) K (Wx K i a cls d y) (.Attribute (.Name n vp) f pos) (eXf y f) := by
  subst hK
  refine Vw (pe_xf T hno hz hf he hb) fun σ H Q h => ?_
  obtain ⟨ι,ρ,Z,is,p⟩ := h
  obtain ⟨h1,⟨c,hc,hn⟩,h2⟩ := is.jj
  rw [hx,hns] at hn
  cases hn
  unfold eXf at p
  split at p
  · rename_i t et
    refine ⟨_,h1,rfl,hc,?_⟩
    split at h2
    · rename_i e0; rw [e0] at et; cases et
    · obtain ⟨dd,vs,ed,hd,r⟩ := h2
      obtain ⟨v,hv,rv⟩ := r.lookup et
      exact ⟨dd,vs,v,ed,hd,hv,p ι H v Gr.refl is.sim rv⟩
  · exact p.elim
theorem PostS.wx {K : PySem.W.Frag} {W W' : WX} {ι : List Addr} {H : Hp} {D : Ends} {r : RS} (h : PostS K W ι H D r) (i : ∀ x ρ Z, r ≠ .exc x ρ Z) : PostS K W' ι H D r := by
  cases r with
  | nx => exact h
  | rt => exact h
  | bk => exact h
  | ct => exact h
  | exc x ρ Z => exact absurd rfl (i x ρ Z)
  | stuck => exact h
theorem Z8w (hK : X.K = K) (hs : X.stack = X.env :: X.outer) (hf : X.env.frame = some X.env.locals) (hN : X.N.Nodup) (hi : X.N[i]? = some n) (hln : X.env.kindOf n = some .local) (hc : Names X x (.ref C)) (hns : PySem.W.nsIn X.K mainGlobals x = some (some (.ref C))) (hex : PySem.W.exmOne X.K (.ref C) (.ref C) = some true) (tk : Takes X W)
    (hb : ∀ (W : WX) (pn : List (Addr × Obj)) (xe : Value → Shared → Prop),Takes (X.tr pn xe) W → PassesOwn (model X.prog X.w) X.A X.env xe → FBJ (X.tr pn xe) K W body b)
    (hsu : ∀ (a : Addr) (oe : Obj) (cls : Value) (d : Option Addr) (pn : List (Addr × Obj)) (y : Ex),Zc cls d oe → (∃ vs,oe.data = .fields vs) → y.cls = x → y.fs.isEmpty = false → FJ (X.suite a ((a,oe) :: pn)) K (Wx K i a cls d y) e (fe y)) :
    FSJ X K W (.Try body [.ExceptHandler (some (.Name x np)) (some n) [.Return (some e) rpos] pos'] [] [] pos) (sTryAs x i b fe) := by
  subst hK
  have su : ∀ (a : Addr) (oe : Obj) (cls : Value) (d : Option Addr) (pn : List (Addr × Obj)),Zc cls d oe → (∃ vs,oe.data = .fields vs) → PSs (X.suite a ((a,oe) :: pn)) [.Return (some e) rpos] (fun D σ H => ∃ y : Ex,y.cls = x ∧ y.fs.isEmpty = false ∧ tF X.K (Wx X.K i a cls d y) (fe y) σ H D.rt) := fun a oe cls d pn hz hv =>
    ⟨fun pins s σ H D I h => by
      obtain ⟨y,hy,hys,q⟩ := h
      exact (pss_one (ps_ret (hsu a oe cls d pn y hz hv hy hys))).run pins s σ H D I q⟩
  refine Je (ps_try_as hs hf hN hi hln hc tk (fun W pn xe t pa => hb W pn xe t pa) su) fun D σ H h => ?_
  obtain ⟨ι,ρ,Z,is,p⟩ := h
  refine ⟨ι,ρ,Z,is,?_⟩
  unfold sTryAs at p
  cases e0 : b ρ Z with
  | exc y ρ' Z' =>
    rw [e0] at p
    simp only at p
    intro ι' H' σ' cls d g' i' rx
    split at p
    · rename_i hyl
      obtain ⟨hy,hil,hys⟩ := hyl
      obtain ⟨c,rfl,hn⟩ := id rx.1
      rw [hy,hns] at hn
      cases hn
      refine ⟨true, hex, fun _ a na => ⟨y, hy, hys, ι', ρ'.set i none, Z', ⟨?_, ?_, i'.sim, ?_, rx⟩, ?_⟩, fun z => Bool.noConfusion z⟩
      · rw [List.length_set, List.length_set]; exact i'.len
      · intro j t hj
        by_cases hji : j = i
        · subst hji
          by_cases hlt : j < ρ'.length
          · rw [List.getElem?_set_self hlt] at hj; cases hj
          · rw [List.getElem?_eq_none (by rw [List.length_set]; omega)] at hj; cases hj
        · rw [List.getElem?_set_ne (Ne.symm hji)] at hj ⊢
          exact i'.env j t hj
      · exact List.getElem?_set_self (by rw [i'.len]; exact hil)
      · split at p
        · rename_i t Z2 e2
          rw [e2]
          exact fun ι2 H2 v g2 s2 r2 => p ι2 H2 v (g'.trans g2) s2 r2
        · exact p.elim
    · exact p.elim
  | nx => rw [e0] at p; exact p
  | rt => rw [e0] at p; exact p
  | bk => rw [e0] at p; exact p
  | ct => rw [e0] at p; exact p
  | stuck => rw [e0] at p; exact p
end
end Fx
set_option maxHeartbeats 4000000
namespace PySem
end PySem
namespace PySem
end PySem
namespace Fx
open PySem PySem.Spec PyProof.Rows L2 SX Ap
variable [Tb]
def itSeqX (ts : List T) : ItF := fun k _ => if k ≤ ts.length then some ts[k]? else none
def itStrX (l : List Nat) : ItF := fun k _ => if k ≤ l.length then some (l[k]?.map fun c => .str [c]) else none
def iAny (f : FE) : FI := fun ρ Z => (f ρ Z).bind fun x Z1 => match x with
  | .frl ts => .ok (itSeq ts) Z1
  | .loc i => match getL Z1 i with
    | some _ => .ok (itLoc i) Z1
    | none => .stuck
  | .tup ts => .ok (itSeq ts) Z1
  | .str l => .ok (itStr l) Z1
  | _ => .stuck
def iEnmA (f : FA) : FI := fun ρ Z => (f ρ Z).bind fun xs Z1 => match xs with
  | [.frl ts] => .ok (itEnum (itSeq ts)) Z1
  | [.loc i] => match getL Z1 i with
    | some _ => .ok (itEnum (itLoc i)) Z1
    | none => .stuck
  | [.tup ts] => .ok (itEnum (itSeqX ts)) Z1
  | [.str l] => .ok (itEnum (itStrX l)) Z1
  | _ => .stuck
section
variable {X : Cx} {K : PySem.W.Frag} {W : WX} {pos p : Pos} {tg l a : Expr} {fl : FE} {fa : FA}
theorem Zen {t1 t2 : TI} (h1 : PI X tg l t1) (h2 : PI X tg l t2) : PI X tg l (fun σ H R => t1 σ H R ∨ t2 σ H R) := ⟨fun pins s σ H R I q => q.elim (h1.run pins s σ H R I) (h2.run pins s σ H R I)⟩
theorem Z8x (hK : X.K = K) (hl : FJ X K (Wt W) l fl) : PI X tg l (tI K W (iAny fl)) := by
  refine Z34 (Zen (Zcq hK hl) (Zen (Zei hK hl) (Zej hl))) fun σ H Q h => ?_
  obtain ⟨ι,ρ,Z,is,p⟩ := h
  cases e : fl ρ Z with
  | ok t Z1 =>
    unfold iAny at p
    rw [e,Wo] at p
    cases t with
    | tup ts => exact .inr (.inl ⟨ι,ρ,Z,is,by unfold iSeqT; rw [e,Wo]; exact p⟩)
    | str u => exact .inr (.inr ⟨ι,ρ,Z,is,by unfold iStr; rw [e,Wo]; exact p⟩)
    | frl ts => exact .inl ⟨ι,ρ,Z,is,by unfold iSeqL; rw [e,Wo]; exact p⟩
    | loc i => exact .inl ⟨ι,ρ,Z,is,by unfold iSeqL; rw [e,Wo]; exact p⟩
    | _ => exact p.elim
  | exc x Z1 =>
    unfold iAny at p
    rw [e] at p
    exact .inl ⟨ι,ρ,Z,is,by unfold iSeqL; rw [e]; exact p⟩
  | stuck => unfold iAny at p; rw [e] at p; exact p.elim
end
end Fx
set_option maxHeartbeats 4000000
namespace Ap
open PySem PySem.Spec PyProof.Rows L2 SX
theorem Zeo {P : Program} {w : World} {K : PySem.W.Frag} {mg mb : Str → Option Value} {k : Nat} {fa a : Addr}
    {fd : FuncData} {x : Str} {sp : Sp} {s₁ : Shared} {vs : List Value} {ns : List Int}
    (KX : K.In s₁.heap) (hns : s₁.heap.Ns mainGlobals mg) (hb : s₁.heap.Ns builtinsNs mb)
    (hbb : ∀ x : Str, x ≠ "__name__" → mb x = bootBuiltins x) (hlim : s₁.heap.NoLimit) (hg : s₁.gens = #[])
    (ha : s₁.heap.get? a = some { cls := .type "list", data := .seq vs.toArray }) (hi : IntsAre vs ns) (hl : ns.length ≤ sizeLine)
    (hr : Room k callerA)
    (F : ∀ base : Heap,K.In base → base.Ns mainGlobals mg → GOk P w K mg base CX0 k fa fd [x] sp)
    (hbind : ∀ (s : Shared) (u : Value),BindsTo s fd ⟨[u],[]⟩ [(x,u)])
    (hsp : ∀ H : Hp,Fx.FrL K H a (ns.map V.int) → sp [.ref a] H (fun v _ => v = .bl true) fun _ _ _ => False) :
    codeAny (model P w) callerA (.call (.ref fa) ⟨[.ref a],[]⟩)
      (fun r s' => r = .ok (.ret (.bool true)) ∧ OldK s₁.heap s'.heap ∧ s'.os = s₁.os ∧ AllBare s'.gens) s₁ := by
  have rv := vals_ints hi
  have lenV := hi.length
  suffices core : ∀ H : Hp,Fx.FrL K H a (ns.map V.int) → HOk P w H s₁.heap →
      (∀ b u,H b = some u → b = a ∧ K.lookup a = none ∧ ∃ o xs,u = .frz o (.lst xs)) →
      codeAny (model P w) callerA (.call (.ref fa) ⟨[.ref a],[]⟩)
        (fun r s' => r = .ok (.ret (.bool true)) ∧ OldK s₁.heap s'.heap ∧ s'.os = s₁.os ∧ AllBare s'.gens) s₁ by
    cases hk : K.lookup a with
    | some o =>
      have e := KX a o hk
      rw [ha] at e
      cases e
      refine core (fun _ => none) (.inr ⟨_,vs.toArray,_,hk,rfl,rfl,rfl,?_,?_⟩) ?_ ?_
      · rw [List.size_toArray,lenV]; exact hl
      · simpa using rv
      · intro b u z; exact absurd z (by simp)
      · intro b u z; exact absurd z (by simp)
    | none =>
      let o0 : HO := .frz { cls := .type "list", data := .seq vs.toArray } (.lst (ns.map V.int))
      have at0 : ∀ b u,(fun b => if b = a then some o0 else none : Hp) b = some u → b = a ∧ u = o0 := by
        intro b u z
        dsimp only at z
        split at z
        · cases z; exact ⟨by assumption,rfl⟩
        · cases z
      refine core (fun b => if b = a then some o0 else none) (.inl ⟨{ cls := .type "list", data := .seq vs.toArray }, if_pos rfl⟩) ?_ ?_
      · intro b u z
        obtain ⟨rfl,rfl⟩ := at0 b u z
        exact ⟨ha,by rw [List.length_map]; exact hl,vs,_,rv,ha⟩
      · intro b u z
        obtain ⟨rfl,rfl⟩ := at0 b u z
        exact ⟨rfl,hk,_,_,rfl⟩
  intro H hS hok hA
  have free : ∀ {b : Addr},(∀ u,H b ≠ some u) → H b = none := fun {b} z => by
    cases q : H b with
    | none => rfl
    | some u => exact absurd q (z u)
  have dictFree : ∀ {b : Addr} {o : Obj} {es : Array DictEntry} {ep : Nat},s₁.heap.get? b = some o → o.data = .dict es ep → H b = none := by
    intro b o es ep e d
    apply free
    intro u q
    obtain ⟨rfl,_⟩ := hA b u q
    rw [ha] at e
    cases e
    exact absurd d (by simp)
  have nsOf : ∀ {b : Addr} {m : Str → Option Value},s₁.heap.Ns b m → (hidT s₁.heap H).Ns b m := by
    intro b m ⟨o,es,ep,e,d,r⟩
    exact ⟨o,es,ep,hidT_get e (dictFree e d),d,r⟩
  have inB : K.In (hidT s₁.heap H) := by
    intro b o e
    refine hidT_get (KX b o e) (free ?_)
    intro u q
    obtain ⟨rfl,n,_⟩ := hA b u q
    rw [n] at e
    cases e
  obtain ⟨mc,c1,c2⟩ := hlim
  have M : Mod K mg (hidT s₁.heap H) := ⟨inB,nsOf hns,⟨mb,nsOf hb,hbb⟩,⟨mc,nsOf c1,c2⟩⟩
  have e0 : Env0 P w K mg (hidT s₁.heap H) callerA [] s₁ H :=
    ⟨rfl,M,fun _ _ e => of_hidT e,Nat.le_of_eq (hidT_size _ _),trivial,fun b z => absurd (show b ∈ ([] : List Addr) from z) (by simp),hok,.of_eq hg⟩
  have run := (F _ inB (nsOf hns)).run callerA [] s₁ H ⟨[.ref a],[]⟩ [.ref a] [.ref a] _ _ hr rfl e0 (hbind s₁ (.ref a)) (.cons rfl .nil) (hsp H hS)
  refine codeAny_mono run ?_
  intro r s' h
  match r,h with
  | .error e,h => exact False.elim h
  | .ok .next,h => exact False.elim h
  | .ok .brk,h => exact False.elim h
  | .ok .cont,h => exact False.elim h
  | .ok (.ret u), ⟨v, H', os, bare, un, hok', r', q⟩ =>
    cases (show v = .bl true from q)
    cases (show u = Value.bool true from r')
    refine ⟨rfl,OldK.of_keep ?_,os,bare⟩
    intro b o e
    cases q : H b with
    | none => exact un.keep b o e q (fun z => absurd (show b ∈ ([] : List Addr) from z) (by simp)) (by simp)
    | some u =>
      obtain ⟨rfl,_,ob,xs,rfl⟩ := hA b u q
      obtain ⟨e1,_⟩ := hok _ _ q
      obtain ⟨e2, _⟩ := hok' _ _ (un.frzs _ ob _ q)
      rw [e] at e1
      cases e1
      exact e2
theorem Zcw {l : PySem.W.OpenLaw} {n k : Nat} {q : Program} {loose : List Str} {XP : (Str → Option Value) → Heap → Prop}
    {YP : World → Heap → Prop} {d : DefRec} {K : Params → PySem.W.Frag} {sp : PySem.W.Frag → Sp} {x : Str}
    (hn : l.most = some n) (hn2 : n ≤ sizeLine) (hdf : d.params.defaults = []) (hr : Room k callerA)
    (hY : ∀ (w : World) (h : Heap),YP w h → (K w.params).In h)
    (F : ∀ (w : World) (mg : Str → Option Value) (fa : Addr) (h : Heap),(K w.params).In h → h.Ns mainGlobals mg →
      mg d.name = some (.ref fa) → ∃ fd : FuncData,(∀ (s : Shared) (u : Value),BindsTo s fd ⟨[u],[]⟩ [(x,u)]) ∧
        ∀ base : Heap,(K w.params).In base → base.Ns mainGlobals mg → GOk l.prog w (K w.params) mg base CX0 k fa fd [x] (sp (K w.params)))
    (hsp : ∀ (K : PySem.W.Frag) (H : Hp) (a : Addr) (ns : List Int),ns.length ≤ n → Fx.FrL K H a (ns.map V.int) →
      sp K [.ref a] H (fun v _ => v = .bl true) fun _ _ _ => False) :
    PySem.W.WalkO q loose XP YP l.row.toRowW d [] (fun f vs => PySem.call f vs) := by
  apply Att.attach_call hn hdf
  intro w s₀ s₁ mg mb fa o pm cd doc a vs ns G Y ho hd hcd hmg hobj hints hlen hg
  obtain ⟨fd,hb,hF⟩ := F w mg fa _ (hY w _ Y) G.T.g hmg
  exact Zeo (hY w _ Y) G.T.g G.T.b G.T.builtins G.T.nolimit hg hobj hints (Nat.le_trans hlen hn2) hr hF hb (fun H hS => hsp _ H a ns hlen hS)
end Ap
namespace Fx
open PySem PySem.Spec PyProof.Rows L2 SX Ap
variable [Tb]
theorem Zcx {K : PySem.W.Frag} {H : Hp} {a : Addr} {ns : List Int} (h : FrL K H a (ns.map V.int)) : Rep K [] H (.ref a) (.frl (ns.map .int)) := by
  refine .frl h ?_
  clear h
  induction ns with
  | nil => exact .nil
  | cons n ns ih => exact .cons (.int n) ih
theorem fnG_0 {P : Program} {w : World} {K : PySem.W.Frag} {mg : PySem.Str → Option Value} {base : Heap} {k : Nat} {f : Addr} {fd : FuncData} {ps : List PySem.Str} {n : Nat} {F : FF} (G : FnG P w K mg base k f fd ps (spF K n F)) : GOk P w K mg base CX0 k f fd ps (fun vs H Q _ => spF K n F vs H Q (fun _ _ _ => False)) :=
  ⟨fun vs H Q E h => G.len vs H Q _ h, fun A outer s H as us vs Q E hr hG e0 hb rv h => codeAny_mono (G.run A outer s H as us vs Q _ hr hG e0 hb rv h) fun r s' z => by
    cases r with
    | error e =>
      obtain ⟨_,_,_,_,_,_,_,_,_,_,_,_,q⟩ := z
      exact q.elim
    | ok fl => cases fl <;> exact z⟩
theorem Zep (hTb : Tb.T = []) {l : PySem.W.OpenLaw} {n k : Nat} {q : Program} {loose : List PySem.Str} {XP : (PySem.Str → Option Value) → Heap → Prop} {YP : World → Heap → Prop} {d : DefRec} {K : Params → PySem.W.Frag} {F : FF} {x : PySem.Str}
    (hn : l.most = some n) (hn2 : n ≤ sizeLine) (hdf : d.params.defaults = []) (hr : Room k callerA) (hY : ∀ (w : World) (h : Heap),YP w h → (K w.params).In h)
    (hG : ∀ (w : World) (mg : PySem.Str → Option Value) (fa : Addr) (h : Heap),(K w.params).In h → h.Ns mainGlobals mg → mg d.name = some (.ref fa) → ∃ fd : FuncData,(∀ (s : Shared) (u : Value),BindsTo s fd ⟨[u],[]⟩ [(x,u)]) ∧
        ∀ base : Heap,(K w.params).In base → base.Ns mainGlobals mg → FnG l.prog w (K w.params) mg base k fa fd [x] (spF (K w.params) 1 F))
    (hF : ∀ ns : List Int,ns.length ≤ n → ∃ Z,F [.frl (ns.map .int)] [] = .ok (.bl true) Z) :
    PySem.W.WalkO q loose XP YP l.row.toRowW d [] (fun f vs => PySem.call f vs) := by
  refine Zcw (x := x) (sp := fun K vs H Q _ => spF K 1 F vs H Q (fun _ _ _ => False)) hn hn2 hdf hr hY (fun w mg fa h KX G hm => ?_) (fun K H a ns hl hS => ?_)
  · obtain ⟨fd,h1,h2⟩ := hG w mg fa h KX G hm
    exact ⟨fd,h1,fun base b1 b2 => fnG_0 (h2 base b1 b2)⟩
  · obtain ⟨Z,e⟩ := hF ns hl
    refine ⟨rfl,[],[],[.frl (ns.map .int)],⟨rfl,List.nodup_nil,fun i a o h => by simp at h,fun p hp => by rw [hTb] at hp; cases hp⟩,.cons (Zcx hS) .nil,?_⟩
    rw [e]
    intro ι' H' b g s r
    cases r
    rfl
theorem S_cps (z : PySem.Str) : S z.cps.toList = z := by
  show (⟨z.cps.toList.toArray⟩ : PySem.Str) = z
  rw [Array.toArray_toList]
def eDict0 : FE := fun _ Z => .ok (.loc Z.length) (Z ++ [.dk []])
def gNeg : T → Sto → Option (T × Sto)
  | .int i,Z => some (.int (-i),Z)
  | _,_ => none
theorem Z8y {X : Cx} {K : PySem.W.Frag} {W : Wc} {a : Expr} {fa : FE} {pos : Pos} (ha : FJ X K W a fa) : FJ X K W (.UnaryOp .USub a pos) (eUn gNeg fa) := Vw (pe_un un_neg ha) fun σ H Q h => by
  obtain ⟨ι,ρ,Z,is,p⟩ := h
  refine ⟨ι,ρ,Z,is,(Zg p).imp fun x H1 q => ?_⟩
  obtain ⟨ι1,Z1,tx,g1,s1,r1,p1⟩ := q
  have p2 := Jj p1
  unfold gNeg at p2
  split at p2
  · cases r1; exact ⟨_,rfl,Zz p2 s1 (.int _)⟩
  · exact p2.elim
end Fx
set_option maxHeartbeats 4000000
namespace Ap
open PySem PySem.Spec PyProof.Rows L2 SX
def NoDig (K : PySem.W.Frag) : Prop := PySem.W.nsIn K cStatics "sys.int_max_str_digits" = some none
theorem Zcy {K : PySem.W.Frag} {h : Heap} {a : Addr} {mg : Str → Option Value} {n : Str} (X : K.In h) (G : h.Ns a mg) (e : PySem.W.nsIn K a n = some none) : mg n = none := by
  obtain ⟨o,es,ep,ho,hd,_,hf⟩ := G
  unfold PySem.W.nsIn at e
  split at e
  · rename_i c d es' n' sl q
    have := X _ _ q
    rw [ho] at this
    cases this
    cases hd
    split at e
    · cases e
    · rename_i he
      rw [← hf]
      unfold nsFind findBy
      rw [← Array.find?_toList,he]
      rfl
  · cases e
open PySem.NumText in
theorem wp_textB {M : Model} {A : Around} {E : Value → Shared → Prop} {s : Shared} {Q : Value → Shared → Prop} {v : Value} {text : List Nat} {n : Int} (hn : s.heap.NoDigits)
    (hs : ¬ (text.takeWhile (· != 0)).length ≤ 640) (hr : (int_private% "readNumeral") 4300 10 (text.takeWhile (· != 0)) = (int_private% "Numeral.value") n)
    (ha : ((text.takeWhile (· != 0)).length == text.length) = true) (h : Q (.int n s.toks) { s with toks := s.toks + 1 }) :
    wpAny M A ((int_private% "intFromText") v text 10) Q E s := by
  obtain ⟨mc,hns,hnone⟩ := hn
  obtain ⟨hp,g,d,tk,os⟩ := s
  wp_step
  wp_step
  unfold Builtin.intMaxStrDigits
  refine wpAny_bind (wpAny_bind (wpAny_nsGet hns ?_))
  rw [hnone]
  refine wpAny_pure ?_
  dsimp only
  rw [hr]
  dsimp only
  rw [if_pos ha]
  exact wpAny_mkInt h
open PySem.NumText PySem.W PySem.W.KIN in
theorem Z5s {x : PySem.Str} {u : Tok} {n : Int} (hs : ¬ (numSeenOf x).length ≤ 640) (hr : (int_private% "readNumeral") 4300 10 (numSeenOf x) = (int_private% "Numeral.value") n) (ha : ((numSeenOf x).length == (numTextOf x).length) = true) :
    Meets (Builtin.«int.__new__» ⟨[.type "int", .str x u], []⟩) (fun _ R s => s.heap.NoDigits ∧ R (.ok (.ret (.int n s.toks))) { s with toks := s.toks + 1 }) :=
  .of_wp fun prog w A R s hh => by
    obtain ⟨hp,g,d,tk,os⟩ := s
    have hN : hp.NoDigits := hh.1
    have h := hh.2
    clear hh
    have f1 := F.conv_sub_int
    have f2 := F.madeHere_int
    have f3 := str_int
    have f4 := str_idx
    have f5 := str_trunc
    have f6 : typeOf (.str x u) = pure (.type "str") := rfl
    have hk := Hid.mk (And.intro hs (And.intro hr (And.intro ha hN)))
    clear hs hr ha hN
    repeat (any_goals (first
      | assumption
      | ((with_reducible show wpAny _ _ ((int_private% "intFromText") _ _ _) _ _ _); refine wp_textB hk.out.2.2.2 hk.out.1 hk.out.2.1 hk.out.2.2.1 ?_)
      | wp_step))
    all_goals first | exact ⟨_,rfl,h⟩ | skip
open PySem.NumText in
theorem Z7r {prog : Program} {w : World} {A : Around} {E : Value → Shared → Prop} {s : Shared} {Q : Value → Shared → Prop} {x : PySem.Str} {t : Tok} {n : Int} (hd : s.heap.NoDigits) (hA : x.cps.all (· < 128) = true) (hn : PySem.intText? x = some n) (hl : x.length ≤ sizeLine)
    (h : Q (.int n s.toks) { s with toks := s.toks + 1 }) : wpAny (model prog w) A (call (.type "int") [.str x t]) Q E s := by
  by_cases hs : (numSeenOf x).length ≤ 640
  · by_cases hl2 : x.length ≤ 640
    · exact PySem.W.KIN.call_text hn hl2 h
    · exfalso
      have e1 : numTextOf x = x.cps.toList := if_pos hA
      by_cases k : ((numSeenOf x).length == (numTextOf x).length) = true
      · have k' := beq_iff_eq.mp k
        have e2 : (numTextOf x).length = x.length := by rw [e1]; exact Array.length_toList
        rw [e2] at k'
        omega
      · unfold intText? at hn
        rw [if_neg k] at hn
        cases hn
  · rcases read4300 x hl with ⟨m,h1,h2,h3⟩ | ⟨h1,_⟩
    · rw [hn] at h1
      cases h1
      exact call_int_1 (Z5s hs h3 h2) ⟨hd,typeIs_int _ _ _,h⟩
    · rw [hn] at h1
      cases h1
section
variable {X : Cx}
theorem noDig {pins : List (Addr × Obj)} {σ : L2.St} {H : Hp} {s : Shared} (I : Inv X pins σ H s) (h : NoDig X.K) : s.heap.NoDigits := by
  obtain ⟨mc,a,_⟩ := I.nolimit
  exact ⟨mc,a,Zcy I.kIn a h⟩
abbrev rIntStrB : List V → Hp → VK → Prop := fun xs H Q => ∃ (l : List Nat) (n : Int),xs = [.str (S l)] ∧ l.all (· < 128) = true ∧ PySem.intText? (S l) = some n ∧ l.length ≤ 100000 ∧ Q (.int n) H
theorem Qz (hD : NoDig X.K) : CallR X (.type "int") rIntStrB := by
  intro pins s σ H xs us Q I rs h
  obtain ⟨l,n,rfl,hA,hn,hl,h⟩ := h
  cases rs with
  | cons r1 rs =>
    cases rs
    obtain ⟨t,rfl⟩ := r1
    exact Z7r (noDig I hD) (by simpa [S] using hA) hn (szS hl) ⟨.int n,H,I.tok _,⟨_,rfl⟩,h⟩
abbrev rStrIntB : List V → Hp → VK → Prop := fun xs H Q => ∃ i : Int,xs = [.int i] ∧ i.natAbs < 10 ^ 4300 ∧ Q (.str (toString i)) H
theorem J5 (hD : NoDig X.K) (hc : X.calm = true) : CallR X (.type "str") rStrIntB := by
  intro pins s σ H xs us Q I r h
  obtain ⟨i,rfl,hz,q⟩ := h
  obtain ⟨u,rfl,t,rfl⟩ := vals1 r
  exact str_of_int_or (I.ok.hd hc) (noDig I hD) (fun _ => ⟨.str _,H,I.tok _,⟨_,rfl⟩,q⟩) (fun h => absurd hz (Nat.not_lt.mpr h))
end
section
variable {σ : L2.St} {H : Hp} {te : TE}
theorem Z8z {i : Int} (h : Evl.Ev te σ H (.int i)) (hz : i.natAbs < 10 ^ 4300) : Evl.Ev (tCB rStrIntB (tCons te tNil)) σ H (.str (S (dec i))) := fun H1 e Q q =>
  h H1 e _ fun H2 e2 => ⟨i,rfl,hz,by rw [Zab]; exact q H2 e2⟩
end
end Ap
set_option maxHeartbeats 4000000
namespace Fx
open PySem PySem.Spec PyProof.Rows L2 SX Ap
variable [Tb]
def bools : List T → Option (List Bool)
  | [] => some []
  | .bl b :: ts => (bools ts).map (b :: ·)
  | _ :: _ => none
def gAll : List T → Sto → Option (T × Sto)
  | [t],Z => (asList t Z).bind fun ts => (bools ts).map fun bs => (.bl (bs.all id),Z)
  | _,_ => none
def gAny : List T → Sto → Option (T × Sto)
  | [t],Z => (asList t Z).bind fun ts => (bools ts).map fun bs => (.bl (bs.any id),Z)
  | _,_ => none
def txt (z : PySem.Str) : T := .str z.cps.toList
theorem Z3r {K : PySem.W.Frag} {ι : List Addr} {H : Hp} (z : PySem.Str) : Rep K ι H (.str z) (txt z) := by
  have := Rep.str (K := K) (ι := ι) (H := H) z.cps.toList
  rw [S_cps] at this; exact this
theorem Zal (l : List Nat) : txt (S l) = .str l := by
  unfold txt S; simp
def gRstrip : T → List T → Sto → Option (T × Sto)
  | .str a,[.str b],Z => if a.length ≤ Lim then some (txt (Txt.rstripChars (S a) (S b)),Z) else none
  | _,_,_ => none
theorem m_rstrip {X : Cx} {K : PySem.W.Frag} : MtR X "str.rstrip" (rFM K gRstrip) := Z3q mt_rstripChars fun x xs H Q h => by
  obtain ⟨ι,Z,tx,ts,s,rx,rs,p⟩ := h
  unfold gRstrip at p
  split at p
  · obtain ⟨y,rfl,ry⟩ := rs.one
    cases rx; cases ry
    split at p
    · rename_i hz
      exact ⟨_,_,rfl,rfl,by rw [S_len]; exact Jf hz,Zz p s (Z3r _)⟩
    · exact p.elim
  · exact p.elim
def gEndswith : T → List T → Sto → Option (T × Sto)
  | .str a,[.str b],Z => some (.bl (Txt.endswith (S a) (S b)),Z)
  | _,_,_ => none
theorem m_endswith {X : Cx} {K : PySem.W.Frag} : MtR X "str.endswith" (rFM K gEndswith) := Z3q mt_endswith fun x xs H Q h => by
  obtain ⟨ι,Z,tx,ts,s,rx,rs,p⟩ := h
  unfold gEndswith at p
  split at p
  · obtain ⟨y,rfl,ry⟩ := rs.one
    cases rx; cases ry
    exact ⟨_,_,rfl,rfl,Zz p s (.bl _)⟩
  · exact p.elim
def gPartition : T → List T → Sto → Option (T × Sto)
  | .str a,[.str b],Z => if a.length ≤ Lim ∧ ((S b).length == 0) = false then some (.tup [txt (Txt.partition (S a) (S b)).1,txt (Txt.partition (S a) (S b)).2.1,txt (Txt.partition (S a) (S b)).2.2],Z) else none
  | _,_,_ => none
theorem m_partition {X : Cx} {K : PySem.W.Frag} : MtR X "str.partition" (rFM K gPartition) := Z3q mt_partition fun x xs H Q h => by
  obtain ⟨ι,Z,tx,ts,s,rx,rs,p⟩ := h
  unfold gPartition at p
  split at p
  · obtain ⟨y,rfl,ry⟩ := rs.one
    cases rx; cases ry
    split at p
    · rename_i hz
      exact ⟨_,_,rfl,rfl,hz.2,by rw [S_len]; exact Jf hz.1,Z5n p s (.cons (Z3r _) (.cons (Z3r _) (.cons (Z3r _) .nil)))⟩
    · exact p.elim
  · exact p.elim
def gStr : List T → Sto → Option (T × Sto)
  | [.int i],Z => if i.natAbs < 10 ^ 4300 then some (.str (dec i),Z) else none
  | _,_ => none
theorem Z4g {X : Cx} {K : PySem.W.Frag} (hD : NoDig X.K) (hc : X.calm = true) : CallR X (.type "str") (rFC K gStr) := Ua (J5 hD hc) fun xs H Q h => by
  obtain ⟨ι,Z,ts,s,r,p⟩ := h
  unfold gStr at p
  split at p
  · obtain ⟨v,rfl,rr⟩ := r.one
    cases rr
    split at p
    · rename_i hz
      refine ⟨_,rfl,hz,?_⟩
      rw [Ap.Zab]
      exact Zz p s (.str _)
    · exact p.elim
  · exact p.elim
def gIntT : List T → Sto → Option (T × Sto)
  | [.int i],Z => some (.int i,Z)
  | [.bl b],Z => some (.int (if b then 1 else 0),Z)
  | [.str l],Z => if l.all (· < 128) = true ∧ l.length ≤ 100000 then (PySem.intText? (S l)).map fun n => (.int n,Z) else none
  | _,_ => none
theorem Jl {X : Cx} {K : PySem.W.Frag} (hD : NoDig X.K) : CallR X (.type "int") (rFC K gIntT) := Ua (Z5i call_int1 (Qz hD)) fun xs H Q h => by
  obtain ⟨ι,Z,ts,s,r,p⟩ := h
  unfold gIntT at p
  split at p
  · obtain ⟨v,rfl,rr⟩ := r.one
    cases rr
    exact .inl (.inl ⟨_,rfl,Zz p s (.int _)⟩)
  · obtain ⟨v,rfl,rr⟩ := r.one
    cases rr
    exact .inl (.inr ⟨_,rfl,Zz p s (.int _)⟩)
  · obtain ⟨v,rfl,rr⟩ := r.one
    cases rr
    split at p
    · rename_i hz
      cases e : PySem.intText? (S _) with
      | none => rw [e] at p; exact p.elim
      | some n =>
        rw [e] at p
        exact .inr ⟨_,n,rfl,hz.1,e,hz.2,Zz p s (.int _)⟩
    · exact p.elim
  · exact p.elim
end Fx
set_option maxHeartbeats 4000000
namespace Ap
open PySem PySem.Spec PyProof.Rows L2 SX Fx
def oSt : Option (List Nat) → Fx.T
  | none => .non
  | some l => .str l
def wordOk (l : List Nat) : Bool := decide (l.length ≤ 3500) && l.all (· < 128)
def Wy : FF
  | [.str tag,.str l],Z => if wordOk l = true then .ok (oSt (canon tag l)) Z else .stuck
  | _,_ => .stuck
def Wz : FF
  | [.str l,.str ss],Z => if l.length ≤ 100000 then .ok (.bl (areSigns l ss)) Z else .stuck
  | _,_ => .stuck
end Ap
set_option maxHeartbeats 4000000
namespace Fx
open PySem PySem.Spec PyProof.Rows L2 SX Ap
variable [Tb]
abbrev FKJ (X : Cx) (K : PySem.W.Frag) (W : Wc) (kws : List Keyword) (f : FA) : Prop := PK X kws (tFA K W f)
section
variable {X : Cx} {K : PySem.W.Frag} {W : Wc} {a : Expr} {fa : FE} {kws : List Keyword} {nm : Option PySem.Str} {kpos : Pos}
theorem Zbp {t t' : TA} (h : PK X kws t) (i : ∀ σ H Q, t' σ H Q → t σ H Q) : PK X kws t' := ⟨fun p pins s σ H Q I q => h.run p pins s σ H Q I (i _ _ _ q)⟩
theorem Zeq : FKJ X K W [] aNil := Zbp pk_nil fun σ H Q h => by
  obtain ⟨ι,ρ,Z,is,p⟩ := h
  exact p ι H [] Gr.refl is.sim .nil
theorem Z90 {fr : FA} (ha : FJ X K W a fa) (hr : FKJ X K W kws fr) : FKJ X K W (⟨nm,a,kpos⟩ :: kws) (aCons fa fr) := Zbp (pk_cons ha hr) fun σ H Q h => by
  obtain ⟨ι,ρ,Z,is,p⟩ := h
  refine ⟨ι,ρ,Z,is,(Zg p).imp fun x H1 q => ?_⟩
  obtain ⟨ι1,Z1,tx,g1,s1,r1,p1⟩ := q
  refine ⟨ι1,ρ,Z1,is.gr g1 s1,(Zg p1).imp fun y H2 q2 => ?_⟩
  obtain ⟨ι2,Z2,ty,g2,s2,r2,p2⟩ := q2
  exact p2 ι2 H2 _ Gr.refl s2 (.cons (r1.gr g2) r2)
def kLen (n : Nat) (f : FA) : Prop := ∀ ρ Z xs Z1,f ρ Z = .ok xs Z1 → xs.length = n
theorem Zam : kLen 0 aNil := fun ρ Z ts Z1 h => Za ρ Z ts Z1 h
theorem Z4h {n : Nat} {f : FA} (h : kLen n f) : kLen (n + 1) (aCons fa f) := fun ρ Z xs Z1 e => by
  have o : ofLen (List.replicate n (Expr.Name "x" ⟨0,0,0,0⟩)) f := fun ρ Z xs Z1 e => by rw [List.length_replicate]; exact h ρ Z xs Z1 e
  have := Z0 (a := Expr.Name "x" ⟨0,0,0,0⟩) (fa := fa) o ρ Z xs Z1 e
  rw [this,List.length_cons,List.length_replicate]
end
def eCallK (F : FF) (g : List T → List T) (fa : FA) : FE := fun ρ Z => (fa ρ Z).bind fun ts Z1 => F (g ts) Z1
end Fx
set_option maxHeartbeats 4000000
namespace Fx
open PySem PySem.Spec PyProof.Rows L2 SX
variable [Tb]
def atF (y : T) : List T → Option Nat
  | [] => none
  | z :: ts => if eqT z y = true then some 0 else (atF y ts).map (· + 1)
end Fx
set_option maxHeartbeats 4000000
namespace Fx
open PySem PySem.Spec PyProof.Rows L2 SX Ap
variable [Tb]
theorem Z1d {a b : String} (h : PySem.Str.ofString a = PySem.Str.ofString b) : a = b := by
  have e : a.toList.map Char.toNat = b.toList.map Char.toNat := by rw [← signs_ofString,← signs_ofString,h]
  have key : ∀ (l m : List Char),l.map Char.toNat = m.map Char.toNat → l = m := by
    intro l
    induction l with
    | nil => intro m h; cases m with
      | nil => rfl
      | cons c m => cases h
    | cons c l ih => intro m h; cases m with
      | nil => cases h
      | cons d m =>
        rw [List.map_cons,List.map_cons] at h
        have h1 := (List.cons.inj h).1
        have h2 := ih m (List.cons.inj h).2
        have : c = d := by
          apply Char.ext
          apply UInt32.toNat_inj.mp
          exact h1
        rw [this,h2]
  exact String.toList_inj.mp (key _ _ e)
theorem Zcz {a b : String} : (PySem.Str.ofString a == PySem.Str.ofString b) = (a == b) := by
  by_cases h : a = b
  · subst h; rw [beq_self_eq_true,beq_self_eq_true]
  · rw [beq_eq_false_iff_ne.mpr h,beq_eq_false_iff_ne.mpr fun e => h (Z1d e)]
theorem RepF.lookup {K : PySem.W.Frag} {ι : List Addr} {H : Hp} {f : String} : ∀ {vs : List (PySem.Str × V)} {fs : List (String × T)},RepF K ι H vs fs →
    (∀ t,fs.lookup f = some t → ∃ v,vs.lookup (PySem.Str.ofString f) = some v ∧ Rep K ι H v t) ∧ (fs.lookup f = none → vs.lookup (PySem.Str.ofString f) = none)
  | _,_,.nil => ⟨fun t e => (nomatch e),fun _ => rfl⟩
  | _,_,.cons r q => by
    rename_i k v vs t ts
    obtain ⟨h1,h2⟩ := RepF.lookup (f := f) q
    rw [List.lookup_cons,List.lookup_cons,Zcz]
    cases h : f == k with
    | true => exact ⟨fun u e => by cases e; exact ⟨v,rfl,r⟩,fun e => nomatch e⟩
    | false => exact ⟨h1,h2⟩
theorem RepF.length {K : PySem.W.Frag} {ι : List Addr} {H : Hp} : ∀ {vs : List (PySem.Str × V)} {fs : List (String × T)},RepF K ι H vs fs → vs.length = fs.length
  | _,_,.nil => rfl
  | _,_,.cons _ r => congrArg (· + 1) r.length
def putS (f : String) (t : T) : List (String × T) → List (String × T)
  | [] => [(f,t)]
  | (g,x) :: r => if g = f then (g,t) :: r else (g,x) :: putS f t r
theorem RepF.put {K : PySem.W.Frag} {ι : List Addr} {H : Hp} {f : String} {v : V} {t : T} (rv : Rep K ι H v t) : ∀ {vs : List (PySem.Str × V)} {fs : List (String × T)},RepF K ι H vs fs → RepF K ι H (putF (PySem.Str.ofString f) v vs) (putS f t fs)
  | _,_,.nil => .cons rv .nil
  | _,_,.cons r q => by
    rename_i k x vs u ts
    unfold putF putS
    by_cases h : k = f
    · rw [if_pos h,if_pos (by rw [h])]; exact .cons rv q
    · rw [if_neg h,if_neg fun e => h (Z1d e)]; exact .cons r (RepF.put rv q)
def getI (Z : Sto) (i : Nat) : Option (String × List (String × T)) := match Z[i]? with
  | some (.ins C fs) => some (C,fs)
  | _ => none
theorem Z3s {Z : Sto} {i : Nat} {C : String} {fs : List (String × T)} (h : getI Z i = some (C,fs)) : Z[i]? = some (.ins C fs) := by
  unfold getI at h
  split at h
  · rename_i e; cases h; exact e
  · cases h
structure CF (K : PySem.W.Frag) (C : String) (Ca : Addr) : Prop where
  ns : PySem.W.nsIn K mainGlobals (PySem.Str.ofString C) = some (some (.ref Ca))
  cls : Cls K Ca
def FldOk (K : PySem.W.Frag) (cs : List String) (f : String) : Prop := ∀ C ∈ cs,∃ Ca,CF K C Ca ∧ NoAttr K Ca (PySem.Str.ofString f)
theorem FldOk.nil {K : PySem.W.Frag} {f : String} : FldOk K [] f := fun _ h => nomatch h
theorem FldOk.cons {K : PySem.W.Frag} {C : String} {Ca : Addr} {cs : List String} {f : String} (c : CF K C Ca) (n : NoAttr K Ca (PySem.Str.ofString f)) (h : FldOk K cs f) : FldOk K (C :: cs) f := fun D hD => by
  rcases List.mem_cons.mp hD with rfl | k
  · exact ⟨Ca,c,n⟩
  · exact h D k
theorem Z6x {K : PySem.W.Frag} {ι : List Addr} {H : Hp} {Z : Sto} {v : V} {i : Nat} {C : String} {fs : List (String × T)} (s : Sim K ι Z H) (r : Rep K ι H v (.loc i)) (e : getI Z i = some (C,fs)) :
    ∃ a Ca dx vs,v = .ref a ∧ ι[i]? = some a ∧ PySem.W.nsIn K mainGlobals (PySem.Str.ofString C) = some (some (.ref Ca)) ∧ H a = some (.ins Ca dx vs) ∧ RepF K ι H vs fs := by
  cases r with
  | loc h =>
    obtain ⟨a,h1,Ca,dx,vs,hn,h2,h3⟩ := s.at (Z3s e)
    rw [h] at h1; cases h1
    exact ⟨_,Ca,dx,vs,rfl,h,hn,h2,h3⟩
def fldT (cs : List String) (f : String) (x : T) (Z : Sto) : Option T := match x with
  | .loc i => match getI Z i with
    | some (C,fs) => if C ∈ cs then fs.lookup f else none
    | none => none
  | _ => none
def eFld (cs : List String) (f : String) (fe : FE) : FE := fun ρ Z => (fe ρ Z).bind fun x Z1 => match fldT cs f x Z1 with
  | some t => .ok t Z1
  | none => .stuck
def setF (cs : List String) (f : String) (x y : T) (Z : Sto) : Option Sto := match x with
  | .loc i => match getI Z i with
    | some (C,fs) => if C ∈ cs ∧ fs.length < 1000 then some (Z.set i (.ins C (putS f y fs))) else none
    | none => none
  | _ => none
def sFldS (cs : List String) (f : String) (fo fv : FE) : FS := fun ρ Z => bS ρ (fv ρ Z) fun y Z1 => bS ρ (fo ρ Z1) fun x Z2 => match setF cs f x y Z2 with
  | some Z3 => .nx ρ Z3
  | none => .stuck
def gFld (cs : List String) (f : String) (fo : FE) : FG := fun y ρ Z => (fo ρ Z).bind fun x Z1 => match setF cs f x y Z1 with
  | some Z2 => .ok ρ Z2
  | none => .stuck
def insC (x : T) (Z : Sto) : Option String := match x with
  | .loc i => (getI Z i).map (·.1)
  | _ => none
section
variable {X : Cx} {K : PySem.W.Frag} {cs : List String} {f : String} {o e value : Expr} {pos pos' tpos : Pos} {fo fv fe : FE}
theorem Zer {ι : List Addr} {H : Hp} {Z : Sto} {x : V} {tx t : T} (hc : FldOk K cs f) (s : Sim K ι Z H) (r : Rep K ι H x tx) (h : fldT cs f tx Z = some t) :
    ∃ a Ca dx vs v,x = .ref a ∧ H a = some (.ins Ca dx vs) ∧ Cls K Ca ∧ NoAttr K Ca (PySem.Str.ofString f) ∧ vs.lookup (PySem.Str.ofString f) = some v ∧ Rep K ι H v t ∧ ∃ C,insC tx Z = some C ∧ PySem.W.nsIn K mainGlobals (PySem.Str.ofString C) = some (some (.ref Ca)) := by
  unfold fldT at h
  split at h
  · split at h
    · rename_i C fs eg
      split at h
      · rename_i hC
        obtain ⟨a,Ca,dx,vs,rfl,hi,hn,ha,hf⟩ := Z6x s r eg
        obtain ⟨Cb,cf,na⟩ := hc C hC
        have e2 := hn.symm.trans cf.ns
        cases e2
        obtain ⟨v,hv,rv⟩ := hf.lookup.1 t h
        exact ⟨a,_,dx,vs,v,rfl,ha,cf.cls,na,hv,rv,C,by simp only [insC,eg,Option.map_some],hn⟩
      · cases h
    · cases h
  · cases h
theorem Z91 {ι : List Addr} {H : Hp} {Z Z' : Sto} {x y : V} {tx ty : T} (hc : FldOk K cs f) (s : Sim K ι Z H) (r : Rep K ι H x tx) (ry : Rep K ι H y ty) (h : setF cs f tx ty Z = some Z') :
    ∃ a Ca dx vs,x = .ref a ∧ H a = some (.ins Ca dx vs) ∧ Cls K Ca ∧ NoAttr K Ca (PySem.Str.ofString f) ∧ vs.length < 1000 ∧
      Gr ι ι H (upd H a (.ins Ca dx (putF (PySem.Str.ofString f) y vs))) ∧ Sim K ι Z' (upd H a (.ins Ca dx (putF (PySem.Str.ofString f) y vs))) ∧ ∃ C, insC tx Z = some C ∧ PySem.W.nsIn K mainGlobals (PySem.Str.ofString C) = some (some (.ref Ca)) := by
  unfold setF at h
  split at h
  · split at h
    · rename_i C fs eg
      split at h
      · rename_i hC
        cases h
        obtain ⟨a,Ca,dx,vs,rfl,hi,hn,ha,hf⟩ := Z6x s r eg
        obtain ⟨Cb,cf,na⟩ := hc C hC.1
        have e2 := hn.symm.trans cf.ns
        cases e2
        have g := Gr.mut (ι := ι) (o := .ins Ca dx (putF (PySem.Str.ofString f) y vs)) ha trivial (List.mem_of_getElem? hi)
        exact ⟨a,_,dx,vs,rfl,ha,cf.cls,na,by rw [hf.length]; exact hC.2,g,s.set hi ⟨Ca,dx,_,hn,upd_same,(hf.gr g).put (ry.gr g)⟩,C,by simp only [insC,eg,Option.map_some],hn⟩
      · cases h
    · cases h
  · cases h
theorem Qc {W : Wc} (hK : X.K = K) (hc : FldOk K cs f) (he : FJ X K W e fe) (hb : attributeBase e (PySem.Str.ofString f) X.env (eval e X.env) = eval e X.env := by rfl) : FJ X K W (.Attribute e (PySem.Str.ofString f) pos) (eFld cs f fe) := by
  subst hK
  refine Vw (pe_fld he hb) fun σ H Q h => ?_
  obtain ⟨ι,ρ,Z,is,p⟩ := h
  refine ⟨ι,ρ,Z,is,(Zg p).imp fun x H1 q => ?_⟩
  obtain ⟨ι1,Z1,tx,g1,s1,r1,p1⟩ := q
  split at p1
  · rename_i t et
    obtain ⟨a,Ca,dx,vs,v,rfl,ha,hcl,na,hv,rv,_⟩ := Zer hc s1 r1 et
    exact ⟨a,Ca,dx,vs,v,rfl,ha,hcl,na,hv,p1 ι1 H1 _ Gr.refl s1 rv⟩
  · exact p1.elim
variable {W : WX}
theorem Zes (hK : X.K = K) (hc : FldOk K cs f) (ho : FJ X K (Wt W) o fo) (hv : FJ X K (Wt W) value fv) (hs : swapsWith value (some (.Attribute o (PySem.Str.ofString f) pos')) pos.line X.env = pure false := by rfl) :
    FSJ X K W (.Assign [.Attribute o (PySem.Str.ofString f) pos'] value pos) (sFldS cs f fo fv) := by
  subst hK
  refine Je (ps_fld ho hv hs) fun D σ H h => ?_
  obtain ⟨ι,ρ,Z,is,p⟩ := h
  refine Z5r is p fun y H1 ι1 Z1 ty g1 i1 r1 p1 => Z5r i1 p1 fun x H2 ι2 Z2 tx g2 i2 r2 p2 => ?_
  split at p2
  · rename_i Z3 e3
    obtain ⟨a,Ca,dx,vs,rfl,ha,hcl,na,hl,g3,s3,_⟩ := Z91 hc i2.sim r2 (r1.gr g2) e3
    exact ⟨a,Ca,dx,vs,rfl,ha,hcl,na,hl,p2 ι2 _ _ g3 (i2.gr g3 s3)⟩
  · exact p2.elim
end
def methK (C m : String) (x : T) (Z : Sto) (r : Nat → R T) : R T := match x with
  | .loc i => match getI Z i with
    | some (C', fs) => if C' = C ∧ fs.lookup m = none then r i else .stuck
    | none => .stuck
  | _ => .stuck
def eMeth (C m : String) (F : FF) (ds : List T) (fo : FE) (fa : FA) : FE := fun ρ Z => (fo ρ Z).bind fun x Z1 => methK C m x Z1 fun i => (fa ρ Z1).bind fun ts Z2 => F (.loc i :: (ts ++ ds)) Z2
def eMake (C : String) (F : FF) (ds : List T) (fa : FA) : FE := fun ρ Z => (fa ρ Z).bind fun ts Z1 => (F (.loc Z1.length :: (ts ++ ds)) (Z1 ++ [.ins C []])).bind fun r Z2 => match r with
  | .non => .ok (.loc Z1.length) Z2
  | _ => .stuck
section
variable {X : Cx} {K : PySem.W.Frag} {W : Wc} {x : PySem.Str} {m C : String} {p pos apos : Pos} {o e : Expr} {es : List Expr} {fo : FE} {fa : FA} {k n : Nat} {Ca f : Addr} {fd : FuncData} {ps : List PySem.Str} {F : FF} {dvs : List V} {ds : List Value} {dts : List T}
theorem Jm {ι : List Addr} {H : Hp} {Z : Sto} {v : V} {tx : T} {r : Nat → R T} {P : R T → Prop} (cf : CF K C Ca) (s : Sim K ι Z H) (rv : Rep K ι H v tx)
    (p : P (methK C m tx Z r)) (hP : ¬ P .stuck) : ∃ a dx vs i,v = .ref a ∧ tx = .loc i ∧ H a = some (.ins Ca dx vs) ∧ vs.lookup (PySem.Str.ofString m) = none ∧ P (r i) := by
  unfold methK at p
  cases tx with
  | loc i =>
    simp only at p
    split at p
    · rename_i C' fs eg
      split at p
      · rename_i hC
        obtain ⟨rfl,hm⟩ := hC
        obtain ⟨a,Cb,dx,vs,rfl,hi,hn,ha,hf⟩ := Z6x s rv eg
        have e2 := hn.symm.trans cf.ns
        cases e2
        exact ⟨a,dx,vs,i,rfl,rfl,ha,hf.lookup.2 hm,p⟩
      · exact (hP p).elim
    · exact (hP p).elim
  | _ => exact (hP p).elim
theorem Jo (hK : X.K = K) (cf : CF X.K C Ca) (hm : Meth X.K Ca (PySem.Str.ofString m) f) (G : FnG X.prog X.w X.K X.mg X.base k f fd ps (spF X.K n F)) (hr : Room k X.A) (hG : X.A.guards = some []) (hb : Binds X.K fd ps ds) (hd : Vals dvs ds) (hdf : Dfl K dvs dts) (tk : Takes X W.w)
    (ho : FJ X K W o fo) (hln : dts.length + 1 = n := by rfl) {pl : Sem Bool}
    (ht : eval (.Call (.Attribute o (PySem.Str.ofString m) apos) [] [] pos) X.env = (do
      let ov ← eval o X.env
      standAt apos.atName
      let (f,first) ← holding [ov] (getMethod ov (PySem.Str.ofString m) pl)
      callWith pos f first (backTo pos (starEach [] X.env)) (backToKw pos (keywordEach [] X.env))) := by rfl) :
    FJ X K W (.Call (.Attribute o (PySem.Str.ofString m) apos) [] [] pos) (eMeth C m F dts fo aNil) := by
  subst hK
  refine ⟨fun pins s σ H Q I h => ?_⟩
  obtain ⟨ι,ρ,Z,is,p0⟩ := h
  have t0 : tF X.K W fo σ H (fun v H1 => ∃ ι1 Z1 tx,Gr ι ι1 H H1 ∧ Sim X.K ι1 Z1 H1 ∧ Rep X.K ι1 H1 v tx ∧ Post (Rep X.K) X.K W.w σ ι1 H1 Q (methK C m tx Z1 fun i => (aNil ρ Z1).bind fun ts Z2 => F (.loc i :: (ts ++ dts)) Z2)) := ⟨ι,ρ,Z,is,Zg p0⟩
  refine PySem.W.methodCall_KW (pl := pl) (thn (ho.run pins s σ H _ I t0) fun u s1 ⟨v,H1,I1,rx,q⟩ => ?_) ht
  obtain ⟨ι1, Z1, tx, g1, s1', r1, p1⟩ := q
  obtain ⟨a, dx, vs, i, rfl, rfl, ea, l, p2⟩ := Jm (K := X.K) (P := Post (Rep X.K) X.K W.w σ ι1 H1 Q) cf s1' r1 p1 (fun z => z)
  obtain rfl : u = Value.ref a := rx
  refine getmeth_ok I1 ea cf.cls hm l ?_
  have p3 : Post (Rep X.K) X.K W.w σ ι1 H1 Q (F (.loc i :: ([] ++ dts)) Z1) := p2
  rw [List.nil_append] at p3
  have rr : Reps X.K ι1 H1 (V.ref a :: dvs) (.loc i :: dts) := .cons r1 (hdf ι1 H1)
  exact PySem.W.callWith_K0 (first := [.ref a]) I1.kIn hm.kp (Zcr (us := [.ref a]) (vs := [.ref a]) G hr hG hb hd tk I1 (.cons rfl .nil) ⟨by rw [show [V.ref a] ++ dvs = V.ref a :: dvs from rfl, rr.length, List.length_cons]; exact hln, ι1, Z1, _, s1', rr, p3.wx fun _ _ _ h => h⟩)
theorem Zet {pins : List (Addr × Obj)} {σ : L2.St} {H : Hp} {s : Shared} {Q : VK} {us : List Value} {vs : List V} {sp : Sp} (M : Mk X.K Ca f) (G : FnG X.prog X.w X.K X.mg X.base k f fd ps sp) (hr : Room (k + 1) X.A) (hG : X.A.guards = some []) (hb : Binds X.K fd ps ds) (hd : Vals dvs ds) (tk : Takes X W.w)
    (I : Inv X pins σ H s) (r : Vals vs us)
    (h : ∀ a dx,H a = none → H dx = none → dx ≠ a → sp (.ref a :: (vs ++ dvs)) (upd (upd H dx (.own a)) a (.ins Ca dx [])) (fun v H2 => v = .non ∧ Q (.ref a) H2) (WE W.w σ)) :
    wpAny (model X.prog X.w) X.A (call (.ref Ca) us) (EP X pins σ Q) X.xe s := by
  have n1 := I.hok.fresh (Nat.le_succ s.heap.objs.size)
  have n0 := I.hok.fresh (Nat.le_refl s.heap.objs.size)
  have q0 := h _ _ n1 n0 (Nat.ne_of_lt (Nat.lt_succ_self _))
  have J := Inv.made (C := Ca) I
  have rr : Vals (V.ref (s.heap.objs.size + 1) :: (vs ++ dvs)) (Value.ref (s.heap.objs.size + 1) :: (us ++ ds)) := .cons rfl (r.append hd)
  have hl : (Value.ref (s.heap.objs.size + 1) :: us ++ ds).length = ps.length := (rr.length.symm.trans (G.len _ _ _ _ q0))
  have body := G.run (X.A.under (.builtin "type.__call__" ⟨.ref Ca :: us, []⟩)) X.stack _ _ ⟨Value.ref (s.heap.objs.size + 1) :: us, []⟩ _ _ _ _
    (hr.make Ca us []) hG (J.env0.make Ca us []) (hb _ (Value.ref (s.heap.objs.size + 1) :: us) J.kIn hl) rr q0
  refine wpAny_call (make_map (f := f) I.kIn M.makes M.init (beq_iff_eq.mp M.fn) (codeAny_mono body fun z s' hz => ?_))
  cases z with
  | error e => exact passAt tk σ pins _ _ e s' J hz
  | ok fl =>
    cases fl with
    | ret u =>
      obtain ⟨v, H', I3, rv, ev, q3⟩ := J.after hz
      subst ev
      exact ⟨rv, V.ref (s.heap.objs.size + 1), H', I3, rfl, q3⟩
    | next => exact hz.elim
    | brk => exact hz.elim
    | cont => exact hz.elim
theorem Z6y {ι : List Addr} {H : Hp} {Z : Sto} {a dx : Addr} (cf : CF K C Ca) (s : Sim K ι Z H) (na : H a = none) (nd : H dx = none) (ne : dx ≠ a) :
    Gr ι (ι ++ [a]) H (upd (upd H dx (.own a)) a (.ins Ca dx [])) ∧ Sim K (ι ++ [a]) (Z ++ [.ins C []]) (upd (upd H dx (.own a)) a (.ins Ca dx [])) := by
  have g1 : Gr ι ι H (upd H dx (.own a)) := Gr.new0 nd
  have s1 := s.same (Qx (o := .own a) nd)
  have na2 : upd H dx (.own a) a = none := by rw [upd_ne (Ne.symm ne)]; exact na
  exact ⟨g1.trans (Gr.new na2),s1.new na2 ⟨Ca,dx,[],cf.ns,upd_same,.nil⟩⟩
theorem made_post {ι : List Addr} {H : Hp} {Z : Sto} {Q : VK} {σ : L2.St} {a : Addr} {ts : List T} (s : Sim K ι Z H) {H2 : Hp} (g2 : Gr ι (ι ++ [a]) H H2)
    (p : Post (Rep K) K W.w σ ι H Q ((F ts (Z ++ [.ins C []])).bind fun r Z2 => match r with | .non => .ok (.loc Z.length) Z2 | _ => .stuck)) : Post (Rep K) K W.w σ (ι ++ [a]) H2 (fun v H3 => v = .non ∧ Q (.ref a) H3) (F ts (Z ++ [.ins C []])) := by
  cases e : F ts (Z ++ [.ins C []]) with
  | ok t Z2 =>
    rw [e,Wo] at p
    intro ι3 H3 v g3 s3 r3
    cases t with
    | non =>
      cases r3
      have hi : (ι ++ [a])[Z.length]? = some a := by rw [← s.len]; simp
      exact ⟨rfl,p ι3 H3 (.ref a) (g2.trans g3) s3 (.loc (g3.pre _ _ hi))⟩
    | _ => exact p.elim
  | exc x Z2 => rw [e] at p; exact fun ι3 H3 cls d g3 s3 rx => p ι3 H3 cls d (g2.trans g3) s3 rx
  | stuck => rw [e] at p; exact p
theorem Np (hK : X.K = K) (cf : CF X.K C Ca) (M : Mk X.K Ca f) (G : FnG X.prog X.w X.K X.mg X.base k f fd ps (spF X.K n F)) (hr : Room (k + 1) X.A) (hG : X.A.guards = some []) (hg : Gl X x) (hm : X.mg x = some (.ref Ca)) (hb : Binds X.K fd ps ds) (hd : Vals dvs ds) (hdf : Dfl K dvs dts) (tk : Takes X W.w)
    (ha : FAJ X K W (e :: es) fa) (hn : ofLen (e :: es) fa) (hln : (e :: es).length + dts.length + 1 = n := by rfl) (hdb : (x == ("__debug__" : PySem.Str)) = false := by decide) (he : starEach (e :: es) X.env = (false, eval e X.env) :: starEach es X.env := by rfl) (hpl : (backTo pos (starEach es X.env)).any (·.1) = false := by rfl) :
    FJ X K W (.Call (.Name x p) (e :: es) [] pos) (eMake C F dts fa) := by
  subst hK
  refine ⟨fun pins s σ H Q I h => ?_⟩
  refine wpAny_Call_Name_kw (ld_glob I hg hm ?_ hdb)
  obtain ⟨ι,ρ,Z,is,p⟩ := h
  have t : tFA X.K W fa σ H (fun vs H1 => ∀ a dx,H1 a = none → H1 dx = none → dx ≠ a → spF X.K n F (.ref a :: (vs ++ dvs)) (upd (upd H1 dx (.own a)) a (.ins Ca dx [])) (fun v H2 => v = .non ∧ Q (.ref a) H2) (WE W.w σ)) := by
    refine ⟨ι,ρ,Z,is,?_⟩
    unfold eMake at p
    cases e : fa ρ Z with
    | ok ts Z1 =>
      rw [e,Wo] at p
      refine fun ι1 H1 vs g1 s1 r1 a dx na nd ne => ?_
      obtain ⟨g2,s2⟩ := Z6y cf s1 na nd ne
      have hi : (ι1 ++ [a])[Z1.length]? = some a := by rw [← s1.len]; simp
      have r2 : Reps X.K (ι1 ++ [a]) (upd (upd H1 dx (.own a)) a (.ins Ca dx [])) (V.ref a :: (vs ++ dvs)) (.loc Z1.length :: (ts ++ dts)) := .cons (.loc hi) ((r1.gr g2).append (hdf _ _))
      refine ⟨?_,_,_,_,s2,r2,(made_post s1 g2 (p.shift g1)).wx fun _ _ _ h => h⟩
      rw [r2.length,List.length_cons,List.length_append,hn _ _ _ _ e]
      exact hln
    | exc y Z1 => rw [e] at p; exact p
    | stuck => rw [e] at p; exact p
  refine PySem.W.callWith_K (h₀ := X.base) I.ok.mod.kin M.kp (thn (ha.run pos pins s σ H _ I t) fun us s1 ⟨vs,H1,I1,r,q⟩ => ⟨I1.kIn,?_⟩) he hpl
  exact Zet M G hr hG hb hd tk I1 r q
end
end Fx
set_option maxHeartbeats 4000000
namespace Fx
open PySem PySem.Spec PyProof.Rows L2 SX Ap
variable [Tb]
section
variable {X : Cx} {K : PySem.W.Frag} {W : WX} {cs : List String} {f : String} {o : Expr} {pos : Pos} {fo : FE}
def gFldV (K : PySem.W.Frag) (ta : TE) (f : PySem.Str) : TG := fun y σ H Q => ta σ H fun x H2 => ∃ a C dx fs,x = .ref a ∧ H2 a = some (.ins C dx fs) ∧ Cls K C ∧ NoAttr K C f ∧ fs.length < 1000 ∧ Q σ (upd H2 a (.ins C dx (putF f y fs)))
theorem Zeu {f : PySem.Str} {ta : TE} (ha : PE X o ta) (he : ∀ v,assign (.Attribute o f pos) X.env v = (do
    let ov ← holding [v] (eval o X.env)
    standAt pos.atName
    holding [v,ov] (setAttr ov f v)
    release [v,ov] []) := by intro _; rfl) : PG X (.Attribute o f pos) (gFldV X.K ta f) := by
  refine ⟨fun pins s σ H v u Q I r h => ?_⟩
  rw [he]
  refine wpAny_bind (wpAny_holding (thn (ha.run pins s σ H _ I h) fun ov s2 ⟨x,H2,I2,rx,a,C,dx,fs,ex,ea,c,n,l,q2⟩ => ?_))
  subst ex
  obtain rfl : ov = Value.ref a := rx
  refine wpAny_bind (wpAny_standAt (wpAny_bind (wpAny_holding (setattr_ok I2 ea c n l r fun s3 I3 => ?_))))
  exact wpAny_release ⟨σ,_,I3,q2⟩
theorem Z35 (hK : X.K = K) (hc : FldOk K cs f) (ho : FJ X K (Wt W) o fo) (he : ∀ v,assign (.Attribute o (PySem.Str.ofString f) pos) X.env v = (do
    let ov ← holding [v] (eval o X.env)
    standAt pos.atName
    holding [v,ov] (setAttr ov (PySem.Str.ofString f) v)
    release [v,ov] []) := by intro _; rfl) : PG X (.Attribute o (PySem.Str.ofString f) pos) (tG K W (gFld cs f fo)) := by
  subst hK
  refine Z6t (Zeu ho he) fun v σ H Q h => ?_
  obtain ⟨ι,ρ,Z,t,is,r,p⟩ := h
  refine ⟨ι,ρ,Z,is.ie,(Zg (rep := Rep X.K) p).imp fun x H1 q => ?_⟩
  obtain ⟨ι1,Z1,tx,g1,s1,r1,p1⟩ := q
  split at p1
  · rename_i Z2 e2
    obtain ⟨a,Ca,dx,vs,ex,ea,c,n,l,g2,s2,_⟩ := Z91 hc s1 r1 (r.gr g1) e2
    refine ⟨a,Ca,dx,vs,ex,ea,c,n,l,?_⟩
    have i2 := (is.gr g1 s1).gr g2 s2
    exact p1 ι1 _ _ g2 s2 ⟨i2.len,i2.env⟩
  · exact p1.elim
end
end Fx
set_option maxHeartbeats 4000000
namespace Fx
open PySem PySem.Spec PyProof.Rows L2 SX Ap
def bTypes : List String := ["NoneType", "bool", "int", "str", "tuple", "list", "dict"]
structure OC (K : PySem.W.Frag) (C : String) (Ca fe : Addr) : Prop where
  cf : CF K C Ca
  ins : C8.InsC K Ca
  eq : PySem.W.findIn K (.ref Ca) "__eq__" = some (some (.ref fe))
  fn : PySem.W.isFn K (.ref fe) = true
  nf : (bTypes.all fun n => PySem.W.notFirst K Ca (.type n)) = true
  no : (bTypes.all fun n => decide (PySem.W.kitOne K (.type n) (.ref Ca) = some false)) = true
variable [Tb]
def okY (C : String) (t : T) (Z : Sto) : Bool := match tyT t Z with
  | some n => decide (n ∈ bTypes)
  | none => decide (insC t Z = some C)
def isBl : T → Bool
  | .bl _ => true
  | _ => false
def gOwnEq (C : String) (F : FF) (x y : T) (Z : Sto) : Option (T × Sto) := if insC x Z = some C ∧ okY C y Z = true then (match F [x,y] Z with
  | .ok t Z' => if isBl t = true then some (t, Z') else none
  | _ => none) else none
theorem insC_at {K : PySem.W.Frag} {ι : List Addr} {H : Hp} {Z : Sto} {v : V} {tx : T} {C : String} {Ca : Addr} (cf : CF K C Ca) (s : Sim K ι Z H) (r : Rep K ι H v tx) (e : insC tx Z = some C) :
    ∃ a dx vs i,v = .ref a ∧ tx = .loc i ∧ H a = some (.ins Ca dx vs) := by
  unfold insC at e
  split at e
  · rename_i i
    cases eg : getI Z i with
    | none => rw [eg] at e; cases e
    | some p =>
      obtain ⟨C', fs⟩ := p
      rw [eg] at e
      cases e
      obtain ⟨a,Cb,dx,vs,rfl,hi,hn,ha,hf⟩ := Z6x s r eg
      have e2 := hn.symm.trans cf.ns
      cases e2
      exact ⟨a,dx,vs,i,rfl,rfl,ha⟩
  · cases e
section
variable {X : Cx} {K : PySem.W.Frag} {C : String} {Ca fe : Addr} {k : Nat} {fd : FuncData} {ps : List PySem.Str} {F : FF}
theorem Q3 (hK : X.K = K) (oc : OC K C Ca fe) (G : FnG X.prog X.w X.K X.mg X.base k fe fd ps (spF X.K 2 F)) (hr : Room k X.A) (hG : X.A.guards = some []) (hb : Binds X.K fd ps []) : OpF X K (compareOp .Eq) (gOwnEq C F) := by
  subst hK
  intro pins s σ H x y v u Q I rx ry h
  obtain ⟨ι,Z,tx,ty,is,r1,r2,p⟩ := h
  unfold gOwnEq at p
  split at p
  · rename_i hc
    obtain ⟨a,dx,vs,i,rfl,rfl,ha⟩ := insC_at oc.cf is r1 hc.1
    obtain rfl : v = Value.ref a := rx
    obtain ⟨mA,J,_⟩ := ins_get I.hok ha
    obtain ⟨od,J,_⟩ := J.look
    obtain ⟨m,hF⟩ := I.fr
    have hty : ∃ tb : Value,PySem.W.Looks (model X.prog X.w) s.heap (typeOf u) tb ∧ PySem.W.notFirst X.K Ca tb = true := by
      have h2 := hc.2
      unfold okY at h2
      split at h2
      · rename_i n en
        obtain ⟨P,KX,hP,_⟩ := kit_of I ry (Z6v is r2 en)
        exact ⟨_,KX.ty _ _ I.kIn hP,List.all_eq_true.mp oc.nf n (of_decide_eq_true h2)⟩
      · obtain ⟨b,dy,ws,j,rfl,rfl,hb2⟩ := insC_at oc.cf is r2 (of_decide_eq_true h2)
        obtain rfl : u = Value.ref b := ry
        obtain ⟨mB, J', _⟩ := ins_get I.hok hb2
        obtain ⟨od', J', _⟩ := J'.look
        exact ⟨_, J'.type, by simp [PySem.W.notFirst]⟩
    obtain ⟨tb,hL,hN⟩ := hty
    show wpAny (model X.prog X.w) X.A (richCompare .Eq (.ref a) u) (EP X pins σ Q) X.xe s
    refine PySem.W.cmp_K (op := .Eq) hr.units0 hF I.ok.mod.kin J hL hN oc.eq oc.fn ?_
    have tk : Takes X (Wt (fun _ _ _ _ => False)).w := fun _ _ ⟨_,_,_,_,_,_,_,_,_,_,_,_,_,_,_,_,w⟩ => w.elim
    refine wpAny_mono (Zcr (W := Wt fun _ _ _ _ => False) (us := [.ref a, u]) (vs := [.ref a, y]) (Q := fun z H' => (∃ b, z = .bl b) ∧ Q z H') G hr hG hb .nil tk I (.cons rfl (.cons ry .nil)) ?_) (fun z s' hz => ?_) fun _ _ e => e
    · refine ⟨rfl,ι,Z,[.loc i,ty],is,.cons r1 (.cons r2 .nil),?_⟩
      cases e : F [.loc i,ty] Z with
      | ok t Z' =>
        rw [e] at p
        simp only at p
        split at p
        · rename_i hbl
          intro ι2 H2 z g2 s2 r3
          refine ⟨?_,p ι2 H2 z g2 s2 r3⟩
          cases t <;> first | (cases r3; exact ⟨_,rfl⟩) | cases hbl
        · exact p.elim
      | exc _ _ => rw [e] at p; exact p.elim
      | stuck => rw [e] at p; exact p.elim
    · obtain ⟨z', H', I', rz, ⟨b, rfl⟩, q⟩ := hz
      cases rz
      exact ⟨.bl b, H', I', rfl, q⟩
  · exact p.elim
def gIsC2 (C : String) (Ca : Addr) : List T → Sto → Option (T × Sto)
  | [t,.ref c],Z => if c = Ca ∧ okY C t Z = true then some (.bl (decide (insC t Z = some C)),Z) else none
  | _,_ => none
theorem Zan {t : T} {Z : Sto} {n : String} (h : tyT t Z = some n) : insC t Z = none := by
  unfold insC
  split
  · rename_i i
    unfold tyT at h
    unfold getI
    split
    · rename_i C fs e
      simp only [e] at h
      cases h
    · rfl
  · rfl
theorem Zev (hK : X.K = K) (oc : OC K C Ca fe) : CallR X (.builtin "isinstance") (rFC K (gIsC2 C Ca)) := by
  subst hK
  refine Ua call_isi fun xs H Q h => ?_
  obtain ⟨ι,Z,ts,s,r,p⟩ := h
  unfold gIsC2 at p
  split at p
  · obtain ⟨v,w,rfl,r1,r2⟩ := r.two
    rename_i t c
    cases r2
    split at p
    · rename_i hc
      obtain ⟨rfl,hy⟩ := hc
      unfold okY at hy
      split at hy
      · rename_i n en
        have hno := of_decide_eq_true (List.all_eq_true.mp oc.no n (of_decide_eq_true hy))
        rw [Zan en] at p
        exact ⟨v,_,_,_,false,rfl,.own _,Z6v s r1 en,hno,Zz p s (.bl _)⟩
      · have e2 := of_decide_eq_true hy
        obtain ⟨a,dx,vs,i,rfl,rfl,ha⟩ := insC_at oc.cf s r1 e2
        rw [decide_eq_true e2] at p
        exact ⟨_,_,_,_,true,rfl,.own _,.base (.ins ha oc.ins.cl oc.ins.ha oc.ins.hn oc.ins.htk oc.ins.hm),oc.ins.me,Zz p s (.bl _)⟩
    · exact p.elim
  · exact p.elim
def eIsC (C : String) (fe : FE) : FE := fun ρ Z => (fe ρ Z).bind fun x Z1 => if okY C x Z1 = true then .ok (.bl (decide (insC x Z1 = some C))) Z1 else .stuck
theorem f_isC {W : Wc} {x y : PySem.Str} {e : Expr} {fx : FE} {p p2 pos : Pos} (hK : X.K = K) (oc : OC K C Ca fe) (hg : Gl X x) (hm : X.mg x = none) (hv : bootBuiltins x = some (.builtin "isinstance")) (hg2 : Gl X y) (hm2 : X.mg y = some (.ref Ca)) (he1 : FJ X K W e fx)
    (hn : x ≠ "__name__" := by decide) (hdb : (x == ("__debug__" : PySem.Str)) = false := by decide) (hd2 : (y == ("__debug__" : PySem.Str)) = false := by decide)
    (he : starEach [e,.Name y p2] X.env = (false,eval e X.env) :: starEach [.Name y p2] X.env := by rfl) (hpl : (backTo pos (starEach [.Name y p2] X.env)).any (·.1) = false := by rfl) :
    FJ X K W (.Call (.Name x p) [e,.Name y p2] [] pos) (eIsC C fx) := by
  have hy : FJ X K W (.Name y p2) (eC (.ref Ca)) := f_c (C8.pe_gc (v := .ref Ca) hg2 ⟨_,hm2,rfl⟩ hd2) fun _ _ => .ref _
  have := U3 (p := p) (pos := pos) (Zev hK oc) hg hm hv (Z9 he1 (Z9 hy Ze) he) hn hdb he hpl
  have e2 : eCallB (gIsC2 C Ca) (aCons fx (aCons (eC (.ref Ca)) aNil)) = eIsC C fx := by
    funext ρ Z
    show ((fx ρ Z).bind fun x Z1 => R.ok [x,.ref Ca] Z1).bind (fun xs Z1 => lift (gIsC2 C Ca xs Z1)) = (fx ρ Z).bind fun x Z1 => if okY C x Z1 = true then .ok (.bl (decide (insC x Z1 = some C))) Z1 else .stuck
    cases fx ρ Z with
    | ok t Z' =>
      show lift (if Ca = Ca ∧ okY C t Z' = true then some (T.bl (decide (insC t Z' = some C)), Z') else none) = if okY C t Z' = true then _ else _
      cases okY C t Z' <;> simp [lift]
    | exc x Z' => rfl
    | stuck => rfl
  rwa [e2] at this
def eProp (C : String) (F : FF) (fx : FE) : FE := fun ρ Z => (fx ρ Z).bind fun x Z1 => if insC x Z1 = some C then (match F [x] Z1 with | .ok t Z2 => .ok t Z2 | _ => .stuck) else .stuck
theorem Zao {pins : List (Addr × Obj)} {σ : L2.St} {H : Hp} {s : Shared} {Q : VK} {b : Bool} {a dx p g : Addr} {fs : List (PySem.Str × V)} {f : PySem.Str} {sp : Sp} (I : Inv X pins σ H s) (ea : H a = some (.ins Ca dx fs)) (c : Cls X.K Ca) (hp : PropOf X.K Ca f p g)
    (G : FnG X.prog X.w X.K X.mg X.base k g fd ps sp) (hr : Room (k + 1) X.A) (hG : X.A.guards = some []) (hb : Binds X.K fd ps []) (h : sp [.ref a] H Q (WE (fun _ _ _ _ => False) σ)) :
    wpAny (model X.prog X.w) X.A (getAttr (.ref a) f b) (EP X pins σ Q) X.xe s := by
  obtain ⟨mA,O,_,_,_,_⟩ := ins_get I.hok ea
  obtain ⟨od,J,_⟩ := O.look
  obtain ⟨rest,hrec⟩ := hp.rec_
  have I1 := I.tok (s.toks + 1)
  have hl : ([Value.ref a] ++ []).length = ps.length := by rw [← G.len _ _ _ _ h]; rfl
  have hc : (PySem.W.clsIn X.K Ca).isSome = true := by
    obtain ⟨cd,hc,_⟩ := PySem.W.any_some c.hd
    rw [hc]
    rfl
  refine PySem.W.get_bind I.kIn J (PySem.W.plainGet_of (c.get f)).1 (PySem.W.findObj_data hc hp.at_ hp.get hp.tak) (PySem.W.plainGet_of (c.get f)).2 (wpAny_call (PySem.W.prop_get (s := { s with toks := s.toks + 1 }) I.kIn hrec ?_))
  refine codeAny_mono (G.run X.A.in1 X.stack { s with toks := s.toks + 1 } H ⟨[.ref a], []⟩ [.ref a] [.ref a] Q (WE (fun _ _ _ _ => False) σ) hr.in1 hG I1.env0.in1 (hb _ [.ref a] I1.kIn hl) (.cons rfl .nil) h) fun r s' hq => ?_
  cases r with
  | error er =>
    obtain ⟨_,_,_,_,_,_,_,_,_,_,_,_,_,_,_,_,w⟩ := XE.of_call (W := fun _ _ _ _ => False) I1 (fun _ _ _ h => h) hq
    exact w.elim
  | ok fl =>
    cases fl with
    | ret u =>
      obtain ⟨v, H', I3, rv, q3⟩ := I1.after hq
      show wpAny _ _ (handedOut u) _ _ _
      rw [PySem.W.handedOut_of (handed_of rv)]
      exact wpAny_pure ⟨v, H', I3, rv, q3⟩
    | next => exact False.elim hq
    | brk => exact False.elim hq
    | cont => exact False.elim hq
theorem Z36 {W : Wc} {e : Expr} {fx : FE} {f : PySem.Str} {p g : Addr} {pos : Pos} (hK : X.K = K) (cf : CF X.K C Ca) (hp : PropOf X.K Ca f p g) (G : FnG X.prog X.w X.K X.mg X.base k g fd ps (spF X.K 1 F)) (hr : Room (k + 1) X.A) (hG : X.A.guards = some []) (hb : Binds X.K fd ps [])
    (he1 : FJ X K W e fx) (hab : attributeBase e f X.env (eval e X.env) = eval e X.env := by rfl) : FJ X K W (.Attribute e f pos) (eProp C F fx) := by
  subst hK
  refine ⟨fun pins s σ H Q I h => ?_⟩
  obtain ⟨ι,ρ,Z,is,p0⟩ := h
  have t0 : tF X.K W fx σ H (fun v H1 => ∃ ι1 Z1 tx,Gr ι ι1 H H1 ∧ Sim X.K ι1 Z1 H1 ∧ Rep X.K ι1 H1 v tx ∧ Post (Rep X.K) X.K W.w σ ι1 H1 Q (if insC tx Z1 = some C then (match F [tx] Z1 with | .ok t Z2 => .ok t Z2 | _ => .stuck) else .stuck)) := ⟨ι,ρ,Z,is,Zg p0⟩
  refine attr_of hab (thn (he1.run pins s σ H _ I t0) fun u s1 ⟨x,H1,I1,rx,q⟩ => ?_)
  obtain ⟨ι1, Z1, tx, g1, s1', r1, p1⟩ := q
  split at p1
  · rename_i hc
    obtain ⟨a, dx, vs, i, rfl, rfl, ha⟩ := insC_at cf s1' r1 hc
    obtain rfl : u = Value.ref a := rx
    refine Zao I1 ha cf.cls hp G hr hG hb ⟨rfl, ι1, Z1, _, s1', .cons r1 .nil, ?_⟩
    cases e : F [T.loc i] Z1 with
    | ok t Z2 => rw [e] at p1; exact p1
    | exc _ _ => rw [e] at p1; exact p1.elim
    | stuck => rw [e] at p1; exact p1.elim
  · exact p1.elim
end
end Fx
set_option maxHeartbeats 4000000
namespace Fx
open PySem PySem.Spec PyProof.Rows L2 SX Ap
variable [Tb]
end Fx
set_option maxHeartbeats 4000000
namespace Fx
open PySem PySem.Spec PyProof.Rows L2 SX Ap
variable [Tb]
structure LamP (sc scope : Scope) (N : List PySem.Str) (dn : Option (PySem.Str × Int)) : Prop where
  kind : scope.kind = .function
  co : scope.isCoroutine = false
  gen : scope.isGenerator = false
  own : ∀ y ∈ scope.names,y.2 ≠ .cell
  loc : ∀ y ∈ scope.names,y.2 = .local → y.1 ∉ N
  free : ∀ y ∈ scope.names,y.2 = .free → sc.names.lookup y.1 = some .cell ∨ sc.names.lookup y.1 = some .free
  par : ∀ y i,dn = some (y,i) → scope.names.lookup y = some .local
theorem LamP.has {X : Cx} {scope : Scope} {N : List PySem.Str} {dn : Option (PySem.Str × Int)} (L : LamP X.env.scope scope N dn) (ok : X.Ok) : ∀ y ∈ scope.names,y.2 = .free → ∃ c,X.env.cells.lookup y.1 = some c := fun y hy e => by
  rcases L.free y hy e with k | k
  · exact ok.has _ (.inl k)
  · exact ok.has _ (.inr k)
open Classical in
noncomputable def eAsk (fl : Sto → R T) (lv : T) (i : Nat) : FE := fun ρ Z => if ρ[i]? = some (some lv) then fl Z else .stuck
def eLam (F : (Sto → R T) → T → FF) (fb : FE) (fa : FA) : FE := fun ρ Z => (fa ρ Z).bind fun ts Z1 => F (fun Z' => fb ρ Z') .non (.non :: ts) Z1
end Fx
set_option maxHeartbeats 4000000
namespace Ap
open PySem PySem.Spec PyProof.Rows L2 SX
def EntS (P : Params) : List DictEntry → List (List Nat × List Nat) → Prop
  | [],[] => True
  | e :: r,x :: l => (∃ t,e.key = .str (S x.1) t) ∧ e.hash = PyData.keyHash P (S x.1) ∧ (∃ t,e.val = .str (S x.2) t) ∧ EntS P r l
  | _,_ => False
def kvS (l : List (List Nat × List Nat)) : List (L2.Key × V) := l.map fun x => (Sum.inr (S x.1),.str (S x.2))
def KIt (K : PySem.W.Frag) (w : World) (d : Addr) (l : List (List Nat × List Nat)) : Prop :=
  ∃ es n, K.lookup d = some ⟨.type "dict", none, .dict es n, #[]⟩ ∧ (d == sysModules) = false ∧ EntS w.params es.toList l ∧ (l.map (·.1)).Nodup
def GIt (K : PySem.W.Frag) (w : World) (mg : Str → Option Value) (x : Str) (l : List (List Nat × List Nat)) : Prop := ∃ a,mg x = some (.ref a) ∧ KIt K w a l
theorem Z4i {P : Program} {w : World} : ∀ {es : List DictEntry} {l : List (List Nat × List Nat)},EntS w.params es l → ∃ vs,L2.KV (kvS l) vs ∧ Pairs (mixKind P w) es vs ∧ vs.map (·.1) = l.map (fun x => Sum.inr (S x.1)) ∧ ∀ e ∈ es,∃ k,(mixKind P w).is k e.key = true ∧ e.hash = (mixKind P w).hash k
  | [],[],_ => ⟨[],.nil,.nil,rfl,fun _ h => nomatch h⟩
  | e :: r,x :: l,h => by
    obtain ⟨⟨t,h1⟩,h2,⟨t2,h3⟩,h4⟩ := h
    obtain ⟨vs,a,b,c,d⟩ := Z4i (P := P) h4
    have hk : keyIs (Sum.inr (S x.1)) e.key = true := by rw [h1]; exact (kV_is (P := P) (w := w) (k := Sum.inr (S x.1)) ⟨t,rfl⟩)
    refine ⟨(Sum.inr (S x.1), .str (S x.2) t2) :: vs, .cons ⟨rfl, ⟨t2, rfl⟩⟩ a, .cons hk h3 b, by rw [List.map_cons, List.map_cons, c], fun e' he => ?_⟩
    rcases List.mem_cons.mp he with rfl | he
    · exact ⟨Sum.inr (S x.1),hk,h2⟩
    · exact d e' he
theorem kit_at {X : Cx} {pins : List (Addr × Obj)} {σ : L2.St} {H : Hp} {s : Shared} {d : Addr} {l : List (List Nat × List Nat)} (I : Inv X pins σ H s) (h : KIt X.K X.w d l) :
    ∃ es n vs, s.heap.get? d = some ⟨.type "dict", none, .dict es n, #[]⟩ ∧ (d == sysModules) = false ∧ L2.KV (kvS l) vs ∧ s.heap.DictAt (mixKind X.prog X.w) d vs n := by
  obtain ⟨es,n,hl,hs,he,hn⟩ := h
  obtain ⟨vs,a,b,c,e⟩ := Z4i (P := X.prog) he
  have hg := I.kIn d _ hl
  refine ⟨es, n, vs, hg, hs, a, _, es, hg, ⟨rfl, rfl, rfl⟩, rfl, fun e' he => e e' (Array.mem_toList_iff.mpr he), b, ?_⟩
  rw [c]
  have : (l.map fun x => (Sum.inr (S x.1) : L2.Key)) = (l.map (·.1)).map fun y => Sum.inr (S y) := by rw [List.map_map]; rfl
  rw [this]
  exact List.pairwise_map.mpr (hn.imp fun h e => h (S_inj (Sum.inr.inj e)))
def Itw (kvs : List (L2.Key × V)) : It :=
  ⟨fun i H => i < kvs.length, fun i H x H' => ∃ T k v, kvs[i]? = some (k, v) ∧ x = .ref T ∧ H T = none ∧ H' = upd H T (.tup [kV k, v]), fun i H => kvs.length ≤ i⟩
theorem Z5t {P : Program} {w : World} {K : PySem.W.Frag} {d : Addr} {l : List (List Nat × List Nat)} {elts : List Expr} {kk : Nat} {tpos : Pos} {es : Array DictEntry} {ep : Nat} (it : Addr) (hl : K.lookup d = some ⟨.type "dict", none, .dict es ep, #[]⟩) (hk : KIt K w d l) :
    Turn P w K (.Tuple elts kk tpos) (Itw (kvS l)) [it] it (fun i h => ∃ ok ov,IsItemIter h it d i (kvS l).length ep ok ov) where
  mem := by simp
  obj := fun i h st b hb => by
    have e : b = it := by simpa using hb
    subst e
    obtain ⟨ok,ov,e⟩ := st
    exact ⟨_,e,fun v z => nomatch z⟩
  keep := fun i h h' st k => let ⟨ok, ov, e⟩ := st; ⟨ok, ov, k it (by simp) _ e⟩
  item := by
    intro X hP hw hK hc i pins s σ H E I hf st hi
    subst hP hw hK
    obtain ⟨es', ep', vs, hgd, hs, kv, hm⟩ := kit_at I hk
    have hgd2 := I.kIn d _ hl
    rw [hgd] at hgd2
    cases hgd2
    obtain ⟨⟨k,v⟩,hkv⟩ : ∃ p,(kvS l)[i]? = some p := ⟨(kvS l)[i],List.getElem?_eq_getElem hi⟩
    obtain ⟨u,hu,ru⟩ := kv_get kv hkv
    have hl' : (kvS l).length = vs.length := Paired.length kv
    obtain ⟨ok,ov,he⟩ := st
    rw [hl'] at he
    have hlt : it < s.heap.objs.size := Heap.lt_size he
    refine wpAny_pyNext_items_item he hm hu fun key h' hkey ho hT hz hk => ?_
    refine ⟨_, rfl, wpAny_letOwnedTupleGo_items (s := { s with heap := h' }) ho fun h'' he' sb => ?_⟩
    have hT2 : h''.get? s.heap.objs.size = some { cls := .type "tuple", data := .seq #[key, u] } := (sb.2 _ (Nat.ne_of_gt hlt)).trans hT
    have new : ObjOk X.prog X.w (upd H s.heap.objs.size (.tup [kV k, v])) h'' s.heap.objs.size (.tup [kV k, v]) :=
      ⟨by show 2 ≤ sizeLine; decide,[key,u],.cons (relV_key (show keyIs k key = true from hkey)) (.cons ru .nil),⟨_,hT2,rfl,_,rfl⟩⟩
    have I1 : Inv X pins σ (upd H s.heap.objs.size (.tup [kV k, v])) { s with heap := h'' } :=
      I.turnedNew (t' := s.toks) (ch := [it]) (fun b ob hb e => (sb.2 b (by simpa using hb)).trans (hk b ob (by simpa using hb) e)) hf (Nat.le_refl _) new
    refine ⟨.ref s.heap.objs.size,_,I1,rfl,⟨_,k,v,hkv,rfl,I.hok.fresh (Nat.le_refl _),rfl⟩,⟨key,u,?_⟩,fun b hb => ?_⟩
    · rw [hl']; exact he'
    · have e : b = it := by simpa using hb
      rw [e,upd_ne (Nat.ne_of_lt hlt)]
      exact (hf it (by simp)).1
  done := by
    intro X hP hw hK hc i pins s σ H E I hf st hi
    subst hP hw hK
    obtain ⟨f0,f1,f2,f3,f4,f5⟩ := hf it (by simp)
    obtain ⟨es', ep', vs, hgd, hs, kv, hm⟩ := kit_at I hk
    have hgd2 := I.kIn d _ hl
    rw [hgd] at hgd2
    cases hgd2
    have hl' : (kvS l).length = vs.length := Paired.length kv
    obtain ⟨ok,ov,he⟩ := st
    rw [hl'] at he
    exact wpAny_pyNext_items_end (I.ok.hd hc) he hm (List.getElem?_eq_none (by have : (kvS l).length ≤ i := hi; omega)) fun h' eb => ⟨rfl, I.turned (t' := s.toks) (fun b ob hb e => eb b ob hb e) f0 f1 f3 f4 f5⟩
  self := fun A i s Q E st h => let ⟨_,_,e⟩ := st; PySem.W.kcp_self e h
def iItemsW (K : PySem.W.Frag) (w : World) (td : TE) : TI := fun σ H R => td σ H fun x H1 => ∃ d l,x = .ref d ∧ KIt K w d l ∧ R (Itw (kvS l)) H1
theorem Z92 {X : Cx} {e : Expr} {td : TE} {apos cpos : Pos} {elts : List Expr} {kk : Nat} {tpos : Pos} (he : PE X e td) (hbase : attributeBase e "items" X.env (eval e X.env) = eval e X.env := by rfl) (hline : (apos.endLine == cpos.line) = true := by rfl) :
    PI X (.Tuple elts kk tpos) (.Call (.Attribute e "items" apos) [] [] cpos) (iItemsW X.K X.w td) := by
  refine ⟨fun pins s σ H R I h => ?_⟩
  refine wpAny_Call_method (T := "dict") (id := "dict.items") hbase rfl hline F.plainAttrs_dict F.slot_dict_items F.type_dict_items (thn (he.run pins s σ H _ I h) fun u s1 ⟨x, H1, I1, rx, d, l, ex, hd, q⟩ => ?_)
  subst ex
  obtain rfl : u = Value.ref d := rx
  obtain ⟨es,ep,vs,hgd,hs,kv,hm⟩ := kit_at I1 hd
  obtain ⟨es', ep', hlk, _⟩ := id hd
  have hgd2 := I1.kIn d _ hlk
  rw [hgd] at hgd2
  cases hgd2
  have hl : (kvS l).length = vs.length := Paired.length kv
  refine ⟨hm.dictOf.typeIs,hm.dictOf.mapOf.noDict,?_⟩
  have I2 : Inv X pins σ H1 { s1 with heap := s1.heap.push { cls := .type "dict_items", data := .fields #[.ref d] } } := I1.kept (t' := s1.toks) fun b ob q => Heap.get?_push_of_some _ q
  have fin : wpAny (model X.prog X.w) X.A (pyIter (.ref s1.heap.objs.size)) (PIE X pins σ (.Tuple elts kk tpos) R) X.xe { s1 with heap := s1.heap.push { cls := .type "dict_items", data := .fields #[.ref d] } } := by
    refine wpAny_pyIter_items (d := d) (knd := mixKind X.prog X.w) ⟨_,Heap.get?_push_size _ rfl,rfl,rfl⟩ (hm.push _) (pi_one (tk := s1.toks) I2 _ (Z5t _ hlk hd) ⟨.none,.none,?_⟩ q)
    rw [hl]
    exact Heap.get?_push_size _ rfl
  show wpAny _ _ (callWith cpos (.builtin "dict.items") [.ref d] [] []) _ X.xe s1
  exact method_meetsIn F.slot_dict_items F.entry_dict_items rfl (PySem.evalArgs_none ⟨rfl,hm.dictOf.typeIs,F.args_dict_items_1 _,_,meets_dict_items (mixKind X.prog X.w) d hs,⟨vs,hm.dictOf⟩,fin⟩)
end Ap
set_option maxHeartbeats 4000000
namespace Fx
open PySem PySem.Spec PyProof.Rows L2 SX Ap
variable [Tb]
def kdGet (l : List (List Nat × List Nat)) : T → Option (List Nat)
  | .str k => l.lookup k
  | _ => none
def eKdIx (l : List (List Nat × List Nat)) (fe : FE) : FE := fun ρ Z => (fe ρ Z).bind fun x Z1 => match kdGet l x with
  | some v => .ok (.str v) Z1
  | none => .stuck
def iKdItems (l : List (List Nat × List Nat)) : FI := fun _ Z => .ok (itSeq (l.map fun x => .tup [.str x.1,.str x.2])) Z
section
variable {X : Cx} {K : PySem.W.Frag} {W : Wc} {b : Expr} {fb : FE} {x : PySem.Str} {p pos : Pos} {l : List (List Nat × List Nat)}
theorem Z7s {W : WX} {apos cpos : Pos} {elts : List Expr} {kk : Nat} {tpos : Pos} (hK : X.K = K) (hg : Gl X x) (hm : GIt X.K X.w X.mg x l) (hdb : (x == ("__debug__" : PySem.Str)) = false := by decide) (hbase : attributeBase (.Name x p) "items" X.env (eval (.Name x p) X.env) = eval (.Name x p) X.env := by rfl) (hline : (apos.endLine == cpos.line) = true := by rfl) :
    PI X (.Tuple elts kk tpos) (.Call (.Attribute (.Name x p) "items" apos) [] [] cpos) (tI K W (iKdItems l)) := by
  subst hK
  obtain ⟨a,hma,hk⟩ := hm
  refine Z34 (Z92 (pe_glob (v := .ref a) hg hma rfl hdb) hbase hline) fun σ H Q h => ?_
  obtain ⟨ι,ρ,Z,is,p⟩ := h
  refine ⟨a, l, rfl, hk, p ι H _ Gr.refl is.sim fun k ι' H' Z' g' s' => ?_⟩
  show match itSeq (l.map fun x => T.tup [.str x.1, .str x.2]) k Z' with | none => True | some none => _ | some (some t) => _
  simp only [itSeq,List.getElem?_map]
  cases e : l[k]? with
  | none =>
    have := List.getElem?_eq_none_iff.mp e
    show (kvS l).length ≤ k
    rw [kvS,List.length_map]; exact this
  | some q =>
    have hk2 := (List.getElem?_eq_some_iff.mp e).1
    refine ⟨show k < (kvS l).length by rw [kvS, List.length_map]; exact hk2, fun y H'' hy => ?_⟩
    obtain ⟨Tp,kk,v,hc,rfl,nT,rfl⟩ := hy
    rw [kvS,List.getElem?_map,e] at hc
    cases hc
    exact ⟨Gr.new0 nT, s'.same (Qx nT), .tup (SqT.of upd_same) (.cons (.str _) (.cons (.str _) .nil))⟩
end
def eCallN (F : FF) (g : List T → List T → List T) (fa fk : FA) : FE := fun ρ Z => (fa ρ Z).bind fun ts Z1 => (fk ρ Z1).bind fun us Z2 => F (g ts us) Z2
section
variable {X : Cx} {K : PySem.W.Frag} {W : Wc} {x : PySem.Str} {p pos : Pos} {e : Expr} {es : List Expr} {kws : List Keyword} {fa fk : FA} {k n m : Nat} {f : Addr} {fd : FuncData} {ps ks : List PySem.Str} {F : FF} {g : List Value → List Value → List Value} {gV : List V → List V → List V} {gT : List T → List T → List T}
def PutOk (K : PySem.W.Frag) (n m np : Nat) (gV : List V → List V → List V) (gT : List T → List T → List T) : Prop := ∀ ι H vs ts zs us,Reps K ι H vs ts → Reps K ι H zs us → ts.length = n → us.length = m → Reps K ι H (gV vs zs) (gT ts us) ∧ (gT ts us).length = np
end
def pick {α : Type} (ix : List Nat) (l : List α) : List α := ix.filterMap fun i => l[i]?
theorem Jp {α : Type} (i : Nat) (ix : List Nat) (l : List α) : pick (i :: ix) l = l[i]?.toList ++ pick ix l := by
  unfold pick
  rw [List.filterMap_cons]
  cases l[i]? <;> rfl
theorem Z4j {vs : List V} {us : List Value} (r : Vals vs us) : ∀ ix : List Nat,Vals (pick ix vs) (pick ix us)
  | [] => .nil
  | i :: ix => by
    rw [Jp,Jp]
    refine Vals.append ?_ (Z4j r ix)
    cases e : vs[i]? with
    | none =>
      have h1 := List.getElem?_eq_none_iff.mp e
      rw [List.getElem?_eq_none (by rw [← Paired.length r]; exact h1)]; exact .nil
    | some v =>
      obtain ⟨u,hu,ru⟩ := Vals.get r e
      rw [hu]; exact .cons ru .nil
theorem Z4k {K : PySem.W.Frag} {ι : List Addr} {H : Hp} {vs : List V} {ts : List T} (r : Reps K ι H vs ts) : ∀ ix : List Nat,Reps K ι H (pick ix vs) (pick ix ts)
  | [] => .nil
  | i :: ix => by
    rw [Jp,Jp]
    refine Reps.append ?_ (Z4k r ix)
    cases e : ts[i]? with
    | none =>
      have h1 := List.getElem?_eq_none_iff.mp e
      rw [List.getElem?_eq_none (by rw [r.length]; exact h1)]; exact .nil
    | some t =>
      obtain ⟨v,hv,rv⟩ := r.get e
      rw [hv]; exact .cons rv .nil
theorem Z6z {α : Type} {l : List α} : ∀ {ix : List Nat},(∀ i ∈ ix,i < l.length) → (pick ix l).length = ix.length
  | [],_ => rfl
  | i :: ix,h => by
    rw [Jp,List.getElem?_eq_getElem (h i List.mem_cons_self),List.length_append,Z6z fun j hj => h j (List.mem_cons_of_mem _ hj),List.length_cons]
    exact Nat.add_comm _ _
theorem Zap {K : PySem.W.Frag} {n m np : Nat} {ix : List Nat} (h : ∀ i ∈ ix,i < n + m) (hl : ix.length = np) : PutOk K n m np (fun vs zs => pick ix (vs ++ zs)) (fun ts us => pick ix (ts ++ us)) := fun ι H vs ts zs us r1 r2 l1 l2 =>
  ⟨Z4k (r1.append r2) ix,by rw [Z6z fun i hi => by rw [List.length_append,l1,l2]; exact h i hi,hl]⟩
end Fx
set_option maxHeartbeats 4000000
namespace Fx
open PySem PySem.Spec PyProof.Rows L2 SX Ap
variable [Tb]
end Fx
namespace Fx
open PySem PySem.Spec PyProof.Rows L2 SX Ap
end Fx
set_option maxHeartbeats 4000000
namespace Ap
open PySem PySem.Spec PyProof.Rows L2 SX
def topS (i : Nat) : Stmt := PySem.Challenge.pw_anchorpages_k61_whole_numbers_near_nough.main.body.getD i (.Pass ⟨0,0,0,0⟩)
def clsS (s : Stmt) (j : Nat) : Stmt := match s with
  | .ClassDef _ _ _ b _ _ _ _ _ _ _ => b.getD j (.Pass ⟨0,0,0,0⟩)
  | _ => .Pass ⟨0,0,0,0⟩
abbrev Zw : Stmt := clsS (topS 2) 0
abbrev Yg : Stmt := clsS (topS 3) 0
abbrev Yj : Stmt := clsS (topS 29) 0
abbrev Y8 : Stmt := clsS (topS 29) 1
abbrev Zx : Stmt := clsS (topS 29) 2
abbrev Y9 : Stmt := clsS (topS 29) 3
abbrev Xd : Stmt := clsS (topS 29) 4
abbrev Zm : Stmt := clsS (topS 29) 5
abbrev Yk : Stmt := clsS (topS 29) 6
abbrev Yb : Stmt := clsS (topS 29) 7
abbrev Xe : Stmt := topS 15
abbrev Wi : Stmt := topS 16
abbrev Wj : Stmt := topS 17
abbrev Wk : Stmt := topS 18
abbrev V8 : Stmt := topS 19
abbrev X8 : Stmt := topS 20
abbrev Wl : Stmt := topS 21
abbrev Xx : Stmt := topS 22
abbrev Yc : Stmt := topS 23
abbrev Vr : Stmt := topS 24
abbrev Xf : Stmt := topS 25
abbrev W8 : Stmt := topS 26
abbrev W9 : Stmt := topS 28
abbrev Xg : Stmt := topS 30
abbrev Wr : Stmt := topS 31
abbrev Xh : Stmt := topS 33
abbrev Wb : Stmt := topS 34
abbrev Xi : Stmt := topS 35
abbrev Yd : Stmt := topS 36
abbrev Yr : Stmt := topS 37
abbrev Xj : Stmt := topS 38
abbrev Yl : Stmt := topS 39
abbrev Ys : Stmt := topS 40
abbrev Ws : Stmt := topS 41
abbrev Zq : Stmt := topS 42
abbrev Zi : Stmt := topS 43
abbrev Zr : Stmt := topS 44
abbrev Z2r : Stmt := topS 45
def Uc : List Nat := [48,49,50,51,52,53,54,55,56,57]
def Z05 : List Nat := [97,98,99,100,101,102,103,104,105,106,107,108,109,110,111,112,113,114,115,116,117,118,119,120,121,122,65,66,67,68,69,70,71,72,73,74,75,76,77,78,79,80,81,82,83,84,85,86,87,88,89,90,48,49,50,51,52,53,54,55,56,57,45,35,59,47,63,58,64,38,61,43,36,95,46,126,42,39,40,41]
def Z20 : List V := [.str (S [99,111,114,101]),.str (S [116,101,120,116])]
def Z93 : List V := [.str (S []),.str (S [126]),.str (S [110,117,108,108]),.str (S [78,117,108,108]),.str (S [78,85,76,76])]
def Z70 : List V := [.str (S [116,114,117,101]),.str (S [84,114,117,101]),.str (S [84,82,85,69])]
def Z37 : List V := [.str (S [102,97,108,115,101]),.str (S [70,97,108,115,101]),.str (S [70,65,76,83,69])]
def Z4l : List V := [.str (S [46,105,110,102]),.str (S [46,73,110,102]),.str (S [46,73,78,70])]
def Z1e : List V := [.str (S [46,110,97,110]),.str (S [46,78,97,78]),.str (S [46,78,65,78])]
def Z06 : List V := [.str (S [33,33,110,117,108,108]),.str (S [33,33,98,111,111,108]),.str (S [33,33,105,110,116]),.str (S [33,33,102,108,111,97,116])]
def Ud : List (List Nat × List Nat) := [([115,101,113,117,101,110,99,101],[33,33,115,101,113]),([109,97,112,112,105,110,103],[33,33,109,97,112]),([115,99,97,108,97,114],[33,33,115,116,114])]
structure Tx (K : PySem.W.Frag) (w : World) (mg : Str → Option Value) : Prop where
  FIGURES : GStr mg "FIGURES" Uc
  TAG_SIGNS : GStr mg "TAG_SIGNS" Z05
  SCHEMAS : GTup K mg "SCHEMAS" Z20
  NULLS : GTup K mg "NULLS" Z93
  TRUTHS : GTup K mg "TRUTHS" Z70
  UNTRUTHS : GTup K mg "UNTRUTHS" Z37
  ENDLESS : GTup K mg "ENDLESS" Z4l
  NO_NUMBERS : GTup K mg "NO_NUMBERS" Z1e
  WORD_TAGS : GTup K mg "WORD_TAGS" Z06
  KIND_TAGS : GDic K w mg "KIND_TAGS" Ud []
  b_all : mg "all" = none
  b_int : mg "int" = none
  b_isinstance : mg "isinstance" = none
  b_len : mg "len" = none
  b_max : mg "max" = none
  b_min : mg "min" = none
  b_property : mg "property" = none
  b_range : mg "range" = none
  b_str : mg "str" = none
  i_KIND_TAGS : GIt K w mg "KIND_TAGS" Ud
  dig : NoDig K
abbrev Z21 : List Str := ["self", "schema"]
abbrev Yw : List Str := ["self", "schema"]
theorem Z1n : FnScope Z21 Yw (defScope Zw) := ⟨rfl,rfl,rfl,by decide +kernel,rfl,by decide +kernel,by decide +kernel⟩
abbrev Z3t : List Str := ["self", "place"]
abbrev Xy : List Str := ["self", "place"]
theorem Z2s : FnScope Z3t Xy (defScope Yg) := ⟨rfl,rfl,rfl,by decide +kernel,rfl,by decide +kernel,by decide +kernel⟩
abbrev Z0q : List Str := ["self", "tag", "content"]
abbrev Yq : List Str := ["self", "tag", "content"]
theorem Z2t : FnScope Z0q Yq (defScope Yj) := ⟨rfl,rfl,rfl,by decide +kernel,rfl,by decide +kernel,by decide +kernel⟩
abbrev Nq : List Str := ["self"]
abbrev Wd : List Str := ["self"]
theorem Z22 : FnScope Nq Wd (defScope Y8) := ⟨rfl,rfl,rfl,by decide +kernel,rfl,by decide +kernel,by decide +kernel⟩
abbrev Jh : List Str := ["self"]
abbrev X5 : List Str := ["self"]
theorem Z17 : FnScope Jh X5 (defScope Zx) := ⟨rfl,rfl,rfl,by decide +kernel,rfl,by decide +kernel,by decide +kernel⟩
abbrev Nr : List Str := ["self"]
abbrev We : List Str := ["self"]
theorem Z23 : FnScope Nr We (defScope Y9) := ⟨rfl,rfl,rfl,by decide +kernel,rfl,by decide +kernel,by decide +kernel⟩
abbrev Z24 : List Str := ["self", "other"]
abbrev Vj : List Str := ["self", "other"]
theorem Z4m : FnScope Z24 Vj (defScope Xd) := ⟨rfl,rfl,rfl,by decide +kernel,rfl,by decide +kernel,by decide +kernel⟩
abbrev Uq : List Str := ["self"]
abbrev Xa : List Str := ["self"]
theorem Z07 : FnScope Uq Xa (defScope Zm) := ⟨rfl,rfl,rfl,by decide +kernel,rfl,by decide +kernel,by decide +kernel⟩
abbrev Z0r : List Str := ["self", "found"]
abbrev V9 : List Str := ["self"]
theorem Nt : FnScope Z0r V9 (defScope Yk) := ⟨rfl,rfl,rfl,by decide +kernel,rfl,by decide +kernel,by decide +kernel⟩
abbrev Nu : List Str := ["self"]
abbrev Wu : List Str := ["self"]
theorem Z25 : FnScope Nu Wu (defScope Yb) := ⟨rfl,rfl,rfl,by decide +kernel,rfl,by decide +kernel,by decide +kernel⟩
abbrev Z26 : List Str := ["text", "signs", "sign"]
abbrev Xz : List Str := ["text", "signs"]
theorem Jq : FnScope Z26 Xz (defScope Xe) := ⟨rfl,rfl,rfl,by decide +kernel,rfl,by decide +kernel,by decide +kernel⟩
abbrev Z7t : List Str := ["word"]
abbrev Vk : List Str := ["word"]
theorem Z5u : FnScope Z7t Vk (defScope Wi) := ⟨rfl,rfl,rfl,by decide +kernel,rfl,by decide +kernel,by decide +kernel⟩
abbrev Z7u : List Str := ["word", "signs", "found", "sign"]
abbrev Qe : List Str := ["word", "signs"]
theorem J8 : FnScope Z7u Qe (defScope Wj) := ⟨rfl,rfl,rfl,by decide +kernel,rfl,by decide +kernel,by decide +kernel⟩
abbrev Z7v : List Str := ["word"]
abbrev Qg : List Str := ["word"]
theorem Z5v : FnScope Z7v Qg (defScope Wk) := ⟨rfl,rfl,rfl,by decide +kernel,rfl,by decide +kernel,by decide +kernel⟩
abbrev Z94 : List Str := ["word", "ahead", "point", "behind"]
abbrev Jr : List Str := ["word"]
theorem N8 : FnScope Z94 Jr (defScope V8) := ⟨rfl,rfl,rfl,by decide +kernel,rfl,by decide +kernel,by decide +kernel⟩
abbrev Z4n : List Str := ["word", "head", "mark", "tail", "bare", "figures", "kept"]
abbrev Vx : List Str := ["word"]
theorem W3 : FnScope Z4n Vx (defScope X8) := ⟨rfl,rfl,rfl,by decide +kernel,rfl,by decide +kernel,by decide +kernel⟩
abbrev Z7w : List Str := ["word", "minus", "rest", "found"]
abbrev Qh : List Str := ["word"]
theorem Z08 : FnScope Z7w Qh (defScope Wl) := ⟨rfl,rfl,rfl,by decide +kernel,rfl,by decide +kernel,by decide +kernel⟩
abbrev Z5w : List Str := ["tag", "word", "whole"]
abbrev Vl : List Str := ["tag", "word"]
theorem Z1f : FnScope Z5w Vl (defScope Xx) := ⟨rfl,rfl,rfl,by decide +kernel,rfl,by decide +kernel,by decide +kernel⟩
abbrev Nv : List Str := ["schema"]
abbrev Wv : List Str := ["schema"]
theorem Z27 : FnScope Nv Wv (defScope Yc) := ⟨rfl,rfl,rfl,by decide +kernel,rfl,by decide +kernel,by decide +kernel⟩
abbrev Z71 : List Str := ["thing"]
abbrev Z0s : List Str := ["thing"]
theorem Z95 : FnScope Z71 Z0s (defScope Vr) := ⟨rfl,rfl,rfl,by decide +kernel,rfl,by decide +kernel,by decide +kernel⟩
abbrev Z28 : List Str := ["kind", "tag", "schema", "other", "own"]
abbrev Ue : List Str := ["kind", "tag", "schema"]
theorem Jt : FnScope Z28 Ue (defScope Xf) := ⟨rfl,rfl,rfl,by decide +kernel,rfl,by decide +kernel,by decide +kernel⟩
abbrev Z38 : List Str := ["kind", "tag", "content", "schema"]
abbrev Qi : List Str := ["kind", "tag", "content", "schema"]
theorem Z5x : FnScope Z38 Qi (defScope W8) := ⟨rfl,rfl,rfl,by decide +kernel,rfl,by decide +kernel,by decide +kernel⟩
abbrev Z39 : List Str := ["content", "bare", "head", "mark", "tail", "kept"]
abbrev Ql : List Str := ["content"]
theorem Vm : FnScope Z39 Ql (defScope W9) := ⟨rfl,rfl,rfl,by decide +kernel,rfl,by decide +kernel,by decide +kernel⟩
abbrev Z29 : List Str := ["one", "other"]
abbrev Ug : List Str := ["one", "other"]
theorem Z4o : FnScope Z29 Ug (defScope Xg) := ⟨rfl,rfl,rfl,by decide +kernel,rfl,by decide +kernel,by decide +kernel⟩
abbrev Z4p : List Str := ["one", "other", "here", "there"]
abbrev Qm : List Str := ["one", "other"]
theorem Z3a : FnScope Z4p Qm (defScope Wr) := ⟨rfl,rfl,rfl,by decide +kernel,rfl,by decide +kernel,by decide +kernel⟩
abbrev Z2a : List Str := ["_law_well_here", "_law_many", "_law_found", "_law_mixed"]
abbrev Vn : List Str := ["_law_well_here", "_law_many"]
theorem Ur : FnScope Z2a Vn (defScope Xh) := ⟨rfl,rfl,rfl,by decide +kernel,rfl,by decide +kernel,by decide +kernel⟩
abbrev Z3b : List Str := ["_law_well_here", "_law_some"]
abbrev U9 : List Str := ["_law_well_here", "_law_some"]
theorem Z5y : FnScope Z3b U9 (defScope Wb) := ⟨rfl,rfl,rfl,by decide +kernel,rfl,by decide +kernel,by decide +kernel⟩
abbrev Z2b : List Str := ["_law_script", "_law_k", "_law_cell"]
abbrev Uh : List Str := ["_law_script", "_law_k"]
theorem Z1g : FnScope Z2b Uh (defScope Xi) := ⟨rfl,rfl,rfl,by decide +kernel,rfl,by decide +kernel,by decide +kernel⟩
abbrev Ny : List Str := ["_law_number", "_law_rest", "_law_many", "_law_turn"]
abbrev Yt : List Str := ["_law_number"]
theorem Va : FnScope Ny Yt (defScope Yd) := ⟨rfl,rfl,rfl,by decide +kernel,rfl,by decide +kernel,by decide +kernel⟩
abbrev Z1h : List Str := ["_law_well_here", "_law_far", "_law_number", "_law_rest", "_law_many", "_law_power"]
abbrev Vy : List Str := ["_law_well_here"]
theorem W4 : FnScope Z1h Vy (defScope Yr) := ⟨rfl,rfl,rfl,by decide +kernel,rfl,by decide +kernel,by decide +kernel⟩
abbrev Z2c : List Str := ["_law_told", "_law_rest", "_law_many"]
abbrev Ui : List Str := ["_law_told"]
theorem Ju : FnScope Z2c Ui (defScope Xj) := ⟨rfl,rfl,rfl,by decide +kernel,rfl,by decide +kernel,by decide +kernel⟩
abbrev Z0t : List Str := ["_law_told", "_law_rest", "_law_many"]
abbrev Vb : List Str := ["_law_told"]
theorem Q4 : FnScope Z0t Vb (defScope Yl) := ⟨rfl,rfl,rfl,by decide +kernel,rfl,by decide +kernel,by decide +kernel⟩
abbrev Z1i : List Str := ["_law_told", "_law_one_here", "_law_rest", "_law_many", "_law_scale"]
abbrev Vz : List Str := ["_law_told"]
theorem Vc : FnScope Z1i Vz (defScope Ys) := ⟨rfl,rfl,rfl,by decide +kernel,rfl,by decide +kernel,by decide +kernel⟩
abbrev Z4q : List Str := ["_law_found", "_law_due"]
abbrev Jv : List Str := ["_law_found", "_law_due"]
theorem Z7x : FnScope Z4q Jv (defScope Ws) := ⟨rfl,rfl,rfl,by decide +kernel,rfl,by decide +kernel,by decide +kernel⟩
abbrev Qn : List Str := ["_law_told", "_law_other", "_law_one_here", "_law_two"]
abbrev Xq : List Str := ["_law_told", "_law_other"]
theorem Us : FnScope Qn Xq (defScope Zq) := ⟨rfl,rfl,rfl,by decide +kernel,rfl,by decide +kernel,by decide +kernel⟩
abbrev Wq : List Str := ["_law_told", "_law_one_here", "_law_top", "_law_low", "_law_none", "_law_two", "_law_marks", "_law_each"]
abbrev Yo : List Str := ["_law_told"]
theorem Y5 : FnScope Wq Yo (defScope Zi) := ⟨rfl,rfl,rfl,by decide +kernel,rfl,by decide +kernel,by decide +kernel⟩
abbrev Qo : List Str := ["_law_lead", "_law_text", "e"]
abbrev Xr : List Str := ["_law_lead", "_law_text"]
theorem Ut : FnScope Qo Xr (defScope Zr) := ⟨rfl,rfl,rfl,by decide +kernel,rfl,by decide +kernel,by decide +kernel⟩
abbrev Zew : List Str := ["_law_script", "_law_k", "_law_well_here", "_law_turn", "_law_told", "_law_other", "_law_two", "_law_wrong", "_law_lead", "_law_text"]
abbrev Z96 : List Str := ["_law_script"]
theorem Z0u : FnScope Zew Z96 (defScope Z2r) := ⟨rfl,rfl,rfl,by decide +kernel,rfl,by decide +kernel,by decide +kernel⟩
structure Df (K : PySem.W.Frag) (mg : Str → Option Value) (x : Str) (st : Stmt) (ps : List Str) (f : Addr) (fd : FuncData) : Prop where
  fn : Fun K x x st f fd
  gl : mg x = some (.ref f)
  bd : Binds K fd ps []
structure ExcI (K : PySem.W.Frag) (mg : Str → Option Value) (x f : Str) (C fI : Addr) : Prop where
  gP : mg x = some (.ref C)
  T : OexC K C
  iC : PySem.W.findIn K (.ref C) "__init__" = some (some (.ref fI))
  tI : PySem.W.typeIn K (.ref fI) = some (.type "function")
  nf : PySem.W.findIn K (.ref C) f = some none
  xf : XfC K C
  xc : ExcC K C
  eP : PySem.W.exmOne K (.ref C) (.ref C) = some true
  gN : PySem.W.nsIn K mainGlobals x = some (some (.ref C))
  kV : PySem.W.kitOne K (.ref C) (.type "ValueError") = some true
structure DfM (K : PySem.W.Frag) (x qual : Str) (st : Stmt) (ps : List Str) (dvs : List V) (f : Addr) (fd : FuncData) : Prop where
  fn : FunD K x qual (defArgs st) (defBody st) (defScope st) dvs [] f fd
  bd : ∀ j,j ≤ dvs.length → ∃ ds,Vals (dvs.drop j) ds ∧ Binds K fd ps ds
structure DfO (K : PySem.W.Frag) (x qual : Str) (st : Stmt) (ps : List Str) (f : Addr) (fd : FuncData) : Prop where
  fn : Fun K x qual st f fd
  bd : Binds K fd ps []
structure Ad where
  c_Number : Addr
  pp_Number_state : Addr
  pp_Number_figures : Addr
  pp_Number_power : Addr
  c_Base : Addr
  c_NoSchema : Addr
  c_BadTag : Addr
  f_NoSchema_init : Addr
  d_NoSchema_init : FuncData
  f_BadTag_init : Addr
  d_BadTag_init : FuncData
  f_Number_init : Addr
  d_Number_init : FuncData
  f_Number_state : Addr
  d_Number_state : FuncData
  f_Number_figures : Addr
  d_Number_figures : FuncData
  f_Number_power : Addr
  d_Number_power : FuncData
  f_Number_eq : Addr
  d_Number_eq : FuncData
  f_Number_all_parts : Addr
  d_Number_all_parts : FuncData
  f_Number_rank : Addr
  d_Number_rank : FuncData
  f_Number_reach : Addr
  d_Number_reach : FuncData
  f_are_signs : Addr
  d_are_signs : FuncData
  f_unsigned : Addr
  d_unsigned : FuncData
  f_whole_by : Addr
  d_whole_by : FuncData
  f_whole_in : Addr
  d_whole_in : FuncData
  f_bare_in : Addr
  d_bare_in : FuncData
  f_decimal_in : Addr
  d_decimal_in : FuncData
  f_float_in : Addr
  d_float_in : FuncData
  f_canonical : Addr
  d_canonical : FuncData
  f_check_schema : Addr
  d_check_schema : FuncData
  f_is_tag : Addr
  d_is_tag : FuncData
  f_may_stand : Addr
  d_may_stand : FuncData
  f_tag_fits : Addr
  d_tag_fits : FuncData
  f_parts_of : Addr
  d_parts_of : FuncData
  f_is_nearer : Addr
  d_is_nearer : FuncData
  f_is_less : Addr
  d_is_less : FuncData
  f__law_draw : Addr
  d__law_draw : FuncData
  f__law_one : Addr
  d__law_one : FuncData
  f__law_well : Addr
  d__law_well : FuncData
  f__law_trimmed : Addr
  d__law_trimmed : FuncData
  f__law_drawn : Addr
  d__law_drawn : FuncData
  f__law_twin : Addr
  d__law_twin : FuncData
  f__law_beside : Addr
  d__law_beside : FuncData
  f__law_is_so : Addr
  d__law_is_so : FuncData
  f__law_is : Addr
  d__law_is : FuncData
  f__law_pair_right : Addr
  d__law_pair_right : FuncData
  f__law_endless_right : Addr
  d__law_endless_right : FuncData
  f__law_is_refused : Addr
  d__law_is_refused : FuncData
  f_law : Addr
  d_law : FuncData
structure Dz (K : PySem.W.Frag) (mg : Str → Option Value) (Z : Ad) : Prop where
  gO_Number : mg "Number" = some (.ref Z.c_Number)
  cf_Number : Fx.CF K "Number" Z.c_Number
  mk_Number : Mk K Z.c_Number Z.f_Number_init
  oc_Number : Fx.OC K "Number" Z.c_Number Z.f_Number_eq
  pr_Number_state : PropOf K Z.c_Number "state" Z.pp_Number_state Z.f_Number_state
  pr_Number_figures : PropOf K Z.c_Number "figures" Z.pp_Number_figures Z.f_Number_figures
  pr_Number_power : PropOf K Z.c_Number "power" Z.pp_Number_power Z.f_Number_power
  me_Number_all_parts : Meth K Z.c_Number "all_parts" Z.f_Number_all_parts
  me_Number_rank : Meth K Z.c_Number "rank" Z.f_Number_rank
  me_Number_reach : Meth K Z.c_Number "reach" Z.f_Number_reach
  na_Number_standing : NoAttr K Z.c_Number "standing"
  na_Number_is_below : NoAttr K Z.c_Number "is_below"
  na_Number_kept : NoAttr K Z.c_Number "kept"
  na_Number_scale : NoAttr K Z.c_Number "scale"
  gB : mg "PageError" = some (.ref Z.c_Base)
  bB : BaseC K Z.c_Base
  k_NoSchema : PySem.W.kitOne K (.ref Z.c_NoSchema) (.ref Z.c_Base) = some true
  c_NoSchema : ExcI K mg "NoSchema" "schema" Z.c_NoSchema Z.f_NoSchema_init
  k_BadTag : PySem.W.kitOne K (.ref Z.c_BadTag) (.ref Z.c_Base) = some true
  c_BadTag : ExcI K mg "BadTag" "place" Z.c_BadTag Z.f_BadTag_init
  d_NoSchema_init : DfM K "__init__" "NoSchema.__init__" Zw Yw [.non] Z.f_NoSchema_init Z.d_NoSchema_init
  d_BadTag_init : DfM K "__init__" "BadTag.__init__" Yg Xy [.non] Z.f_BadTag_init Z.d_BadTag_init
  d_Number_init : DfO K "__init__" "Number.__init__" Yj Yq Z.f_Number_init Z.d_Number_init
  d_Number_state : DfO K "state" "Number.state" Y8 Wd Z.f_Number_state Z.d_Number_state
  d_Number_figures : DfO K "figures" "Number.figures" Zx X5 Z.f_Number_figures Z.d_Number_figures
  d_Number_power : DfO K "power" "Number.power" Y9 We Z.f_Number_power Z.d_Number_power
  d_Number_eq : DfO K "__eq__" "Number.__eq__" Xd Vj Z.f_Number_eq Z.d_Number_eq
  d_Number_all_parts : DfO K "all_parts" "Number.all_parts" Zm Xa Z.f_Number_all_parts Z.d_Number_all_parts
  d_Number_rank : DfO K "rank" "Number.rank" Yk V9 Z.f_Number_rank Z.d_Number_rank
  d_Number_reach : DfO K "reach" "Number.reach" Yb Wu Z.f_Number_reach Z.d_Number_reach
  d_are_signs : Df K mg "are_signs" Xe Xz Z.f_are_signs Z.d_are_signs
  d_unsigned : Df K mg "unsigned" Wi Vk Z.f_unsigned Z.d_unsigned
  d_whole_by : Df K mg "whole_by" Wj Qe Z.f_whole_by Z.d_whole_by
  d_whole_in : Df K mg "whole_in" Wk Qg Z.f_whole_in Z.d_whole_in
  d_bare_in : Df K mg "bare_in" V8 Jr Z.f_bare_in Z.d_bare_in
  d_decimal_in : Df K mg "decimal_in" X8 Vx Z.f_decimal_in Z.d_decimal_in
  d_float_in : Df K mg "float_in" Wl Qh Z.f_float_in Z.d_float_in
  d_canonical : Df K mg "canonical" Xx Vl Z.f_canonical Z.d_canonical
  d_check_schema : Df K mg "check_schema" Yc Wv Z.f_check_schema Z.d_check_schema
  d_is_tag : Df K mg "is_tag" Vr Z0s Z.f_is_tag Z.d_is_tag
  d_may_stand : Df K mg "may_stand" Xf Ue Z.f_may_stand Z.d_may_stand
  d_tag_fits : Df K mg "tag_fits" W8 Qi Z.f_tag_fits Z.d_tag_fits
  d_parts_of : Df K mg "parts_of" W9 Ql Z.f_parts_of Z.d_parts_of
  d_is_nearer : Df K mg "is_nearer" Xg Ug Z.f_is_nearer Z.d_is_nearer
  d_is_less : Df K mg "is_less" Wr Qm Z.f_is_less Z.d_is_less
  d__law_draw : Df K mg "_law_draw" Xh Vn Z.f__law_draw Z.d__law_draw
  d__law_one : Df K mg "_law_one" Wb U9 Z.f__law_one Z.d__law_one
  d__law_well : Df K mg "_law_well" Xi Uh Z.f__law_well Z.d__law_well
  d__law_trimmed : Df K mg "_law_trimmed" Yd Yt Z.f__law_trimmed Z.d__law_trimmed
  d__law_drawn : Df K mg "_law_drawn" Yr Vy Z.f__law_drawn Z.d__law_drawn
  d__law_twin : Df K mg "_law_twin" Xj Ui Z.f__law_twin Z.d__law_twin
  d__law_beside : Df K mg "_law_beside" Yl Vb Z.f__law_beside Z.d__law_beside
  d__law_is_so : Df K mg "_law_is_so" Ys Vz Z.f__law_is_so Z.d__law_is_so
  d__law_is : Df K mg "_law_is" Ws Jv Z.f__law_is Z.d__law_is
  d__law_pair_right : Df K mg "_law_pair_right" Zq Xq Z.f__law_pair_right Z.d__law_pair_right
  d__law_endless_right : Df K mg "_law_endless_right" Zi Yo Z.f__law_endless_right Z.d__law_endless_right
  d__law_is_refused : Df K mg "_law_is_refused" Zr Xr Z.f__law_is_refused Z.d__law_is_refused
  d_law : Df K mg "law" Z2r Z96 Z.f_law Z.d_law
end Ap
set_option maxHeartbeats 4000000
namespace Ap
open PySem PySem.Spec PyProof.Rows L2 SX
section
variable {σ : L2.St} {H : Hp} {ta tb : TE}
theorem Z4r (n : Nat) {l : List Nat} {i : Int} (h : Evl.Ev ta σ H (.str (S l))) (hz : l.length ≤ 100000) (e : i = (n : Int)) : Evl.Ev (tSl rSlS ta (tPart (tC (.int i))) tNoPart) σ H (.str (S (l.drop n))) := by
  subst e
  exact Evl.ev_is (Ze6 h (Evl.eo_some Evl.ev_c) Evl.eo_none hz) (by rw [Z3j])
end
def V4 : Sp := fun vs H Q _ => ∃ (l ss : List Nat), vs = [.str (S l), .str (S ss)] ∧ l.length ≤ 100000 ∧ ∀ H', Same H H' → Q (.bl (areSigns l ss)) H'
theorem Uu {P : Program} {w : World} {K : PySem.W.Frag} {mg : Str → Option Value} {base : Heap} {Z : Ad} (T : Tx K w mg) (D : Dz K mg Z) : FnOk P w K mg base CX0 1 Z.f_are_signs Z.d_are_signs Xz V4 := by
  refine D.d_are_signs.fn.ok Jq (fun vs H Q E h => ?_) (fun cdv A outer s H vs Q E hr h => ?_)
  · obtain ⟨l,ss,rfl,_⟩ := h; rfl
  · obtain ⟨l,ss,rfl,hl,q⟩ := h
    refine ⟨_, (pss_one (ps_ret (pe_and (pe_cmpR op_ne (pv 0) pe_str (nomark _)) (pe_one (pe_callB (Zc7 K rfl) (by rfl) T.b_all (by decide +kernel) (pa_cons (pe_lc (own := [("sign", 2)]) (g := gName 2) (tt := tYes) rfl Jq.nd (pi_str (pv 0)) (blkOk_by (N := Z26) (sc := defScope Xe) (by decide +kernel)) (fun _ _ _ _ _ => (pg_name (i := 2) Jq.nd rfl (Or.inl rfl))) (fun _ _ _ _ _ => pts_nil) (fun _ _ _ _ _ => (pe_cmpR op_in_sign (pv 2) (pv 1) rfl))) pa_nil)))))), ?_⟩
    exact Evl.s_ret (Evl.ev_andV (Evl.ev_op (Evl.ev_var rfl) (Yv (l := []) rfl) Z8c) (fun _ => Zcf _ (Evl.ev_var rfl) hl (wipe1 2 _) (fun c hc => Evl.ev_op (Evl.ev_var rfl) (Evl.ev_var rfl) Zc8))) (fun H1 s1 => q H1 s1)
theorem Z4s {σ : L2.St} {H : Hp} {E : XK} {ta tb : TE} {l ss : List Nat} (h : Evl.Ev ta σ H (.str (S l))) (h2 : Evl.Ev tb σ H (.str (S ss))) (hl : l.length ≤ 100000) : Evl.Ev (tCall V4 [] E (tCons ta (tCons tb tNil))) σ H (.bl (areSigns l ss)) :=
  Evl.ev_call (Evl.ea_cons h (Evl.ea_cons h2 Evl.ea_nil)) fun H1 e Q q E => ⟨l,ss,rfl,hl,q⟩
def Uj : Sp := fun vs H Q _ => ∃ (l : List Nat), vs = [.str (S l)] ∧ l.length ≤ 100000 ∧ ∀ H', Same H H' → Q (.str (S (unsg l))) H'
theorem Z09 {P : Program} {w : World} {K : PySem.W.Frag} {mg : Str → Option Value} {base : Heap} {Z : Ad} (T : Tx K w mg) (D : Dz K mg Z) : FnOk P w K mg base CX0 1 Z.f_unsigned Z.d_unsigned Vk Uj := by
  refine D.d_unsigned.fn.ok Z5u (fun vs H Q E h => ?_) (fun cdv A outer s H vs Q E hr h => ?_)
  · obtain ⟨l,rfl,_⟩ := h; rfl
  · obtain ⟨l,rfl,hl,q⟩ := h
    refine ⟨_,(pss_one (ps_ret (pe_ifExp (pt_val (pe_bm PySem.F.plainAttrs_str PySem.F.slot_str_startswith PySem.F.type_str_startswith Nh (pv 0) (pa_cons (pe_tup (pa_cons pe_str (pa_cons pe_str pa_nil))) pa_nil))) (pe_slice sl_str (pv 0) (po_some pe_int) po_none) (pv 0)))),?_⟩
    exact Evl.s_ret (Z5j (Evl.et_test (Ze9 [[43],[45]] (Evl.ev_var rfl) (Evl.eu_tup (Evl.ea_cons Evl.ev_c (Evl.ea_cons Evl.ev_c Evl.ea_nil)) (by decide)) rfl)) (fun _ => Z4r 1 (Evl.ev_var rfl) hl rfl) (fun _ => Evl.ev_var rfl)) (fun H1 s1 => q H1 s1)
theorem Z97 {σ : L2.St} {H : Hp} {E : XK} {ta : TE} {l : List Nat} (h : Evl.Ev ta σ H (.str (S l))) (hl : l.length ≤ 100000) : Evl.Ev (tCall Uj [] E (tCons ta tNil)) σ H (.str (S (unsg l))) :=
  Evl.ev_call (Evl.ea_cons h Evl.ea_nil) fun H1 e Q q E => ⟨l,rfl,hl,q⟩
theorem occ8 : ∀ c ∈ c8,Builtin.Str.occurrences (S c8) (S [c]) 0 (S c8).length 1 = [c8.idxOf c] := by decide +kernel
theorem occ16 : ∀ c ∈ c16,Builtin.Str.occurrences (S c16) (S [c]) 0 (S c16).length 1 = [c16.idxOf c] := by decide +kernel
abbrev rSindex : V → List V → Hp → VK → Prop := fun x xs H Q => ∃ a b i rest,x = .str a ∧ xs = [.str b] ∧ Builtin.Str.occurrences a b 0 a.length 1 = i :: rest ∧ Q (.int (i : Nat)) H
def Z0a : Sp := fun vs H Q _ => ∃ (l ss : List Nat), vs = [.str (S l), .str (S ss)] ∧ (ss = c8 ∨ ss = c16) ∧ l.length ≤ 100000 ∧ l.all (· < 128) = true ∧ (∀ c ∈ l, lo1 c ∈ ss) ∧ ∀ H', Same H H' → Q (.int (wholeBy l ss : Nat)) H'
def wbSt (l ss : List Nat) (i : Nat) : Nat := ((l.map lo1).take i).foldl (fun a c => a * ss.length + ss.idxOf c) 0
theorem take_succ {α : Type} {l : List α} {i : Nat} {c : α} (h : l[i]? = some c) : l.take (i + 1) = l.take i ++ [c] := by
  rw [List.take_add_one,h]; rfl
theorem Z5z {P : Program} {w : World} {K : PySem.W.Frag} {mg : Str → Option Value} {base : Heap} {Z : Ad} (T : Tx K w mg) (D : Dz K mg Z) : FnOk P w K mg base CX0 1 Z.f_whole_by Z.d_whole_by Qe Z0a := by
  refine D.d_whole_by.fn.ok J8 (fun vs H Q E h => ?_) (fun cdv A outer s H vs Q E hr h => ?_)
  · obtain ⟨l,ss,rfl,_⟩ := h; rfl
  · obtain ⟨l,ss,rfl,hss,hl,hA,hin,q⟩ := h
    have hocc : ∀ c ∈ ss,Builtin.Str.occurrences (S ss) (S [c]) 0 (S ss).length 1 = [ss.idxOf c] := by
      rcases hss with rfl | rfl
      · exact occ8
      · exact occ16
    have hlen : ss.length ≤ 16 := by rcases hss with rfl | rfl <;> decide
    refine ⟨_,(pss_cons (ps_set (i := 2) J8.nd rfl (Or.inl rfl) pe_int)
      (pss_cons (ps_for PassesOwn.never rfl (pi_str (pe_lower (pv 0))) (pg_name (i := 3) J8.nd rfl (Or.inl rfl))
        (pss_one (ps_set (i := 2) J8.nd rfl (Or.inl rfl) (pe_op op_add (pe_op op_mul (pv 2) (pe_callB call_len_str (by rfl) T.b_len (by decide +kernel) (pa_cons (pv 1) pa_nil))) (pe_bm PySem.F.plainAttrs_str PySem.F.slot_str_index PySem.F.type_str_index mt_sindex (pv 1) (pa_cons (pv 3) pa_nil))))))
      (pss_one (ps_ret (pv 2))))),?_⟩
    refine Evl.s_asg Evl.ev_c (fun H1 s1 => ?_)
    dsimp only [List.set]
    refine Zeb (Zea (Evl.ev_var rfl) hA hl) (fun i σ H' => (∃ y3, σ = [some (.str (S l)), some (.str (S ss)), some (.int (wbSt l ss i : Nat)), y3]) ∧ Same H H') (fun H2 s2 => ⟨⟨_, rfl⟩, Same.trans s1 s2⟩) (fun i c σ H2 hc h => ?_) (fun σ H2 h => ?_)
    · obtain ⟨⟨y3,rfl⟩,s2⟩ := h
      dsimp only [List.set]
      have hm : c ∈ ss := by
        obtain ⟨d,hd,rfl⟩ := List.mem_map.mp (List.mem_of_getElem? hc)
        exact hin d hd
      refine Evl.s_asg (Evl.ev_op (Evl.ev_op (Evl.ev_var rfl) (Z3k (l := ss) (Evl.ev_var rfl) (by omega)) (Evl.rv_I (.inr ⟨by omega,by omega⟩))) (Z6n (r := rSindex) (v := .int ((ss.idxOf c : Nat) : Int)) (Evl.ev_var rfl) (Evl.ev_var rfl) (fun H1 _ Q q => ⟨S ss,S [c],_,[],rfl,rfl,hocc c hm,q⟩)) Evl.rv_I0) (fun H3 s3 => ?_)
      refine ⟨⟨some (.str (S [c])),?_⟩,Same.trans s2 s3⟩
      have e : wbSt l ss (i + 1) = wbSt l ss i * ss.length + ss.idxOf c := by
        unfold wbSt
        rw [take_succ hc,List.foldl_append]; rfl
      rw [e]
      dsimp only [List.set]
      rw [Int.natCast_add,Int.natCast_mul]
    · obtain ⟨⟨y3,rfl⟩,s2⟩ := h
      refine Evl.s_ret (Evl.ev_var rfl) (fun H3 s3 => finV q (Same.trans s2 s3) ?_)
      unfold wbSt wholeBy
      rw [List.take_of_length_le (Nat.le_refl _)]
theorem Zbq {σ : L2.St} {H : Hp} {E : XK} {ta tb : TE} {l ss : List Nat} (h : Evl.Ev ta σ H (.str (S l))) (h2 : Evl.Ev tb σ H (.str (S ss))) (hs : ss = c8 ∨ ss = c16) (hl : l.length ≤ 100000) (hA : l.all (· < 128) = true) (hin : ∀ c ∈ l,lo1 c ∈ ss) : Evl.Ev (tCall Z0a [] E (tCons ta (tCons tb tNil))) σ H (.int (wholeBy l ss : Nat)) :=
  Evl.ev_call (Evl.ea_cons h (Evl.ea_cons h2 Evl.ea_nil)) fun H1 e Q q E => ⟨l,ss,rfl,hs,hl,hA,hin,q⟩
theorem Z98 {σ : L2.St} {H : Hp} {ta : TE} {l : List Nat} (h : Evl.Ev ta σ H (.str (S l))) (hk : areSigns (unsg l) figs = true) (hl : l.length ≤ 4000) : Evl.Ev (tCB rIntStrB (tCons ta tNil)) σ H (.int (intOf l)) :=
  Evl.ev_cb (Evl.ea_cons h Evl.ea_nil) fun H1 _ _ q => ⟨l,_,rfl,Zad hk,Q9 hk hl,by omega,q H1 (Evl.Ex.refl H1)⟩
def Z2d : Sp := fun vs H Q _ => ∃ (l : List Nat), vs = [.str (S l)] ∧ l.length ≤ 3500 ∧ l.all (· < 128) = true ∧ ∀ H', Same H H' → Q (oI (wholeIn l)) H'
theorem Z72 {l : List Nat} {n : Nat} {p : Nat → Bool} (h : l.all p = true) : (l.drop n).all p = true := by
  rw [List.all_eq_true] at h ⊢
  exact fun c hc => h c (List.mem_of_mem_drop hc)
theorem Z60 {P : Program} {w : World} {K : PySem.W.Frag} {mg : Str → Option Value} {base : Heap} {Z : Ad} (T : Tx K w mg) (D : Dz K mg Z) : FnOk P w K mg base CX0 2 Z.f_whole_in Z.d_whole_in Qg Z2d := by
  have G_are_signs : FnOk P w K mg base CX0 1 Z.f_are_signs Z.d_are_signs Xz V4 := Uu T D
  have G_unsigned : FnOk P w K mg base CX0 1 Z.f_unsigned Z.d_unsigned Vk Uj := Z09 T D
  have G_whole_by : FnOk P w K mg base CX0 1 Z.f_whole_by Z.d_whole_by Qe Z0a := Z5z T D
  obtain ⟨t_FIGURES,g_FIGURES⟩ := T.FIGURES
  refine D.d_whole_in.fn.ok Z5v (fun vs H Q E h => ?_) (fun cdv A outer s H vs Q E hr h => ?_)
  · obtain ⟨l,rfl,_⟩ := h; rfl
  · obtain ⟨l,rfl,hl,hA,q⟩ := h
    refine ⟨_,(pss_cons (ps_if (pt_val (pe_bm PySem.F.plainAttrs_str PySem.F.slot_str_startswith PySem.F.type_str_startswith mt_startswith (pv 0) (pa_cons pe_str pa_nil)))
        (pss_one (ps_ret (pe_ifExp (pt_val (pe_call G_are_signs (hr.mono (by decide)) (by rfl) D.d_are_signs.gl D.d_are_signs.fn.kp D.d_are_signs.bd .nil pass0 (pa_cons (pe_slice sl_str (pv 0) (po_some pe_int) po_none) (pa_cons pe_str pa_nil)))) (pe_call G_whole_by (hr.mono (by decide)) (by rfl) D.d_whole_by.gl D.d_whole_by.fn.kp D.d_whole_by.bd .nil pass0 (pa_cons (pe_slice sl_str (pv 0) (po_some pe_int) po_none) (pa_cons pe_str pa_nil))) pe_non)))
        pss_nil)
      (pss_cons (ps_if (pt_val (pe_bm PySem.F.plainAttrs_str PySem.F.slot_str_startswith PySem.F.type_str_startswith mt_startswith (pv 0) (pa_cons pe_str pa_nil)))
        (pss_one (ps_ret (pe_ifExp (pt_val (pe_call G_are_signs (hr.mono (by decide)) (by rfl) D.d_are_signs.gl D.d_are_signs.fn.kp D.d_are_signs.bd .nil pass0 (pa_cons (pe_slice sl_str (pv 0) (po_some pe_int) po_none) (pa_cons (pe_op op_add_str (pe_glob (v := .str (S Uc)) rfl g_FIGURES ⟨_,rfl⟩) pe_str) pa_nil)))) (pe_call G_whole_by (hr.mono (by decide)) (by rfl) D.d_whole_by.gl D.d_whole_by.fn.kp D.d_whole_by.bd .nil pass0 (pa_cons (pe_slice sl_str (pv 0) (po_some pe_int) po_none) (pa_cons pe_str pa_nil))) pe_non)))
        pss_nil)
      (pss_one (ps_ret (pe_ifExp (pt_val (pe_call G_are_signs (hr.mono (by decide)) (by rfl) D.d_are_signs.gl D.d_are_signs.fn.kp D.d_are_signs.bd .nil pass0 (pa_cons (pe_call G_unsigned (hr.mono (by decide)) (by rfl) D.d_unsigned.gl D.d_unsigned.fn.kp D.d_unsigned.bd .nil pass0 (pa_cons (pv 0) pa_nil)) (pa_cons (pe_glob (v := .str (S Uc)) rfl g_FIGURES ⟨_,rfl⟩) pa_nil)))) (pe_callTy (Qz T.dig) (by rfl) T.b_int (by decide +kernel) (pa_cons (pv 0) pa_nil)) pe_non))))),?_⟩
    have hd : (l.drop 2).length ≤ 100000 := by rw [List.length_drop]; omega
    refine Evl.s_if (Evl.et_test (Zch (b := [48,111]) (Evl.ev_var rfl) (Yv rfl))) (fun k1 H1 s1 => ?_) (fun k1 H1 s1 => ?_)
    · refine Evl.s_ret (Z0k (Evl.et_test (Z4s (Z4r 2 (Evl.ev_var rfl) (by omega) rfl) (Yv (l := c8) rfl) hd)) (fun k => Zbq (Z4r 2 (Evl.ev_var rfl) (by omega) rfl) (Yv (l := c8) rfl) (.inl rfl) hd (Z72 hA) (fun c hc => ?_)) (fun k => Evl.ev_c)) (fun H2 s2 => finV q (Same.trans s1 s2) ?_)
      · have : ∀ c ∈ c8,lo1 c ∈ c8 := by decide
        exact this c ((Xo k).2 c hc)
      · simp only [wholeIn,k1,if_true]
        cases areSigns (l.drop 2) c8 <;> rfl
    · refine Evl.s_if (Evl.et_test (Zch (b := [48,120]) (Evl.ev_var rfl) (Yv rfl))) (fun k2 H2 s2 => ?_) (fun k2 H2 s2 => ?_)
      · refine Evl.s_ret (Z0k (Evl.et_test (Z4s (ss := hexs) (Z4r 2 (Evl.ev_var rfl) (by omega) rfl) (Evl.ev_op (Evl.ev_c (v := .str (S Uc))) (Yv (l := [97,98,99,100,101,102,65,66,67,68,69,70]) rfl) (Ji (by decide))) hd)) (fun k => Zbq (Z4r 2 (Evl.ev_var rfl) (by omega) rfl) (Yv (l := c16) rfl) (.inr rfl) hd (Z72 hA) (fun c hc => ?_)) (fun k => Evl.ev_c)) (fun H3 s3 => finV q (Same.trans (Same.trans s1 s2) s3) ?_)
        · have : ∀ c ∈ hexs,lo1 c ∈ c16 := by decide
          exact this c ((Xo k).2 c hc)
        · simp only [wholeIn,k1,k2,Bool.false_eq_true,if_false,if_true]
          cases areSigns (l.drop 2) hexs <;> rfl
      · have hu := Z3l l
        refine Evl.s_ret (Z0k (Evl.et_test (Z4s (ss := figs) (Z97 (Evl.ev_var rfl) (by omega)) Evl.ev_c (by omega))) (fun k => Z98 (Evl.ev_var rfl) k (by omega)) (fun k => Evl.ev_c)) (fun H3 s3 => finV q (Same.trans (Same.trans s1 s2) s3) ?_)
        simp only [wholeIn,k1,k2,Bool.false_eq_true,if_false]
        cases areSigns (unsg l) figs <;> rfl
end Ap
set_option maxHeartbeats 4000000
namespace Ap
open PySem PySem.Spec PyProof.Rows L2 SX
section
variable {K : PySem.W.Frag} {σ : L2.St} {H : Hp} {ta tb te : TE} {D : Ends}
theorem Z99 {sp : Sp} {dvs vs xs : List V} {E : XK} {ta : TA} (h : Evl.EvA ta σ H vs) (hs : ∀ H1,Same H H1 → ∀ Q : VK,(∀ p H2,H1 p = none → Same H1 H2 → H2 p = some (.tup xs) → Q (.ref p) H2) → ∀ E : XK,sp (vs ++ dvs) H1 Q E) : Evl.EvU (tCall sp dvs E ta) σ H xs := fun H1 e Q q =>
  h H1 e _ fun H2 e2 => hs H2 (Same.trans e e2) Q (fun p H3 hp e3 h3 => q p H3 (Evl.fresh_back e2 hp) (Same.trans e2 e3) h3) E
theorem Z4t {p : Addr} {xs : List V} {v : V} (j : Nat) {i : Int} (h : Evl.Ev te σ H (.ref p)) (hx : SqT K H p xs) (hv : xs[j]? = some v) (e : i = (j : Int)) : Evl.Ev (tOp (rIxT K) te (tC (.int i))) σ H v := by
  subst e
  exact Evl.ev_op h Evl.ev_c (Evl.rv_ixT hx (atI_nat hv))
theorem Z3c {p : Addr} (h : Evl.Ev ta σ H (.ref p)) : Evl.EvT (tTest (tOp rIsN' ta (tC .non))) σ H false := Evl.et_is (Evl.et_test (Evl.ev_op h Evl.ev_c Z8d)) (by simp)
theorem Z18 (h : Evl.Ev ta σ H .non) : Evl.EvT (tTest (tOp rIsN' ta (tC .non))) σ H true := Evl.et_is (Evl.et_test (Evl.ev_op h Evl.ev_c Z8d)) (by simp)
end
def Z3d : Sp := fun vs H Q _ => ∃ (l : List Nat), vs = [.str (S l)] ∧ l.length ≤ 50000 ∧ (bareIn l = none → ∀ H', Same H H' → Q .non H') ∧
  (∀ b n, bareIn l = some (b, n) → ∀ p H', H p = none → Same H H' → H' p = some (.tup [.str (S b), .int ((n : Nat) : Int)]) → Q (.ref p) H')
theorem Z7y {P : Program} {w : World} {K : PySem.W.Frag} {mg : Str → Option Value} {base : Heap} {Z : Ad} (T : Tx K w mg) (D : Dz K mg Z) : FnOk P w K mg base CX0 2 Z.f_bare_in Z.d_bare_in Jr Z3d := by
  have G_are_signs : FnOk P w K mg base CX0 1 Z.f_are_signs Z.d_are_signs Xz V4 := Uu T D
  obtain ⟨t_FIGURES,g_FIGURES⟩ := T.FIGURES
  refine D.d_bare_in.fn.ok N8 (fun vs H Q E h => ?_) (fun cdv A outer s H vs Q E hr h => ?_)
  · obtain ⟨l,rfl,_⟩ := h; rfl
  · obtain ⟨l,rfl,hl,q1,q2⟩ := h
    refine ⟨_,(pss_cons (ps_asg (pe_partition (pv 0) pe_str) (pg_tup rfl (pgs_cons (pg_name (i := 1) N8.nd rfl (Or.inl rfl)) (pgs_cons (pg_name (i := 2) N8.nd rfl (Or.inl rfl)) (pgs_cons (pg_name (i := 3) N8.nd rfl (Or.inl rfl)) pgs_nil)))))
      (pss_cons (ps_if (PW.pt (pw_or (pt_cmpR op_eq (pe_op op_add_str (pv 1) (pv 3)) pe_str (nomark _)) (pw_or1 (pt_not (pt_val (pe_call G_are_signs (hr.mono (by decide)) (by rfl) D.d_are_signs.gl D.d_are_signs.fn.kp D.d_are_signs.bd .nil pass0 (pa_cons (pe_op op_add_str (pv 1) (pv 3)) (pa_cons (pe_glob (v := .str (S Uc)) rfl g_FIGURES ⟨_,rfl⟩) pa_nil))))))))
        (pss_one (ps_ret pe_non))
        pss_nil)
      (pss_one (ps_ret (pe_tup (pa_cons (pe_op op_add_str (pv 1) (pv 3)) (pa_cons (pe_callB call_len_str (by rfl) T.b_len (by decide +kernel) (pa_cons (pv 3) pa_nil)) pa_nil))))))),?_⟩
    have hp := Z1q 46 l
    refine Z8f (Z8e (c := 46) (Evl.ev_var rfl) (Yv rfl) (by omega)) (fun H1 s1 => ?_)
    dsimp only [List.set]
    have hz : ((parL 46 l).1 ++ (parL 46 l).2.2).length ≤ 100000 := by rw [List.length_append]; omega
    refine Evl.s_if (Evl.et_or (Evl.et_test (Evl.ev_op (Evl.ev_op (Evl.ev_var rfl) (Evl.ev_var rfl) (Ji (by omega))) (Yv (l := []) rfl) Z1w)) (fun _ => Evl.et_not (Evl.et_test (Z4s (ss := figs) (Evl.ev_op (Evl.ev_var rfl) (Evl.ev_var rfl) (Ji (by omega))) Evl.ev_c hz)))) (fun k H2 s2 => ?_) (fun k H2 s2 => ?_)
    · refine Evl.s_ret Evl.ev_c (fun H3 s3 => q1 ?_ H3 (Same.trans (Same.trans s1 s2) s3))
      unfold bareIn; rw [if_pos k]
    · refine Evl.s_retU (Evl.eu_tup (Evl.ea_cons (Evl.ev_op (Evl.ev_var rfl) (Evl.ev_var rfl) (Ji (by omega))) (Evl.ea_cons (Z3k (Evl.ev_var rfl) (by omega)) Evl.ea_nil)) (by show 2 ≤ 100000; decide)) (fun p H3 np s3 h3 => ?_)
      have s12 := Same.trans s1 s2
      refine q2 _ _ ?_ p H3 (Evl.fresh_back s12 np) (Same.trans s12 s3) h3
      unfold bareIn; rw [if_neg (by rw [k]; exact Bool.false_ne_true)]
def Z0v : Sp := fun vs H Q _ => ∃ (l : List Nat), vs = [.str (S l)] ∧ l.length ≤ 3600 ∧ (decimalIn l = none → ∀ H', Same H H' → Q .non H') ∧
  (∀ b n, decimalIn l = some (b, n) → ∀ p H', H p = none → Same H H' → H' p = some (.tup [.str (S b), .int n]) → Q (.ref p) H')
theorem Z3u {P : Program} {w : World} {K : PySem.W.Frag} {mg : Str → Option Value} {base : Heap} {Z : Ad} (T : Tx K w mg) (D : Dz K mg Z) : FnOk P w K mg base CX0 3 Z.f_decimal_in Z.d_decimal_in Vx Z0v := by
  have G_are_signs : FnOk P w K mg base CX0 1 Z.f_are_signs Z.d_are_signs Xz V4 := Uu T D
  have G_bare_in : FnOk P w K mg base CX0 2 Z.f_bare_in Z.d_bare_in Jr Z3d := Z7y T D
  have G_unsigned : FnOk P w K mg base CX0 1 Z.f_unsigned Z.d_unsigned Vk Uj := Z09 T D
  obtain ⟨t_FIGURES,g_FIGURES⟩ := T.FIGURES
  refine fn_T D.d_decimal_in.fn W3 (by decide +kernel) (by decide) (fun vs H Q E h => ?_) (fun cdv A outer s H vs Q E hr h => ?_)
  · obtain ⟨l,rfl,_⟩ := h; rfl
  · obtain ⟨l,rfl,hl,q1,q2⟩ := h
    refine ⟨_,(psst_cons (Zcc (Ze8 PySem.F.slot_str_partition PySem.F.type_str_partition mt_partition (CwR.pet_replC (pv 0)) pe_str) (pg_tup rfl (pgs_cons (pg_name (i := 1) W3.nd rfl (Or.inl rfl)) (pgs_cons (pg_name (i := 2) W3.nd rfl (Or.inl rfl)) (pgs_cons (pg_name (i := 3) W3.nd rfl (Or.inl rfl)) pgs_nil)))))
      (psst_cons (PST.of (ps_set (i := 4) W3.nd rfl (Or.inl rfl) (pe_call G_bare_in (hr.mono (by decide)) (by rfl) D.d_bare_in.gl D.d_bare_in.fn.kp D.d_bare_in.bd .nil pass0 (pa_cons (pv 1) pa_nil))))
      (psst_cons (PST.of (ps_if (PW.pt (pw_or (pt_cmpR op_isN (pv 4) pe_non (nomark _)) (pw_or1 (PW.pt (pw_and (pt_cmpR op_ne (pv 2) pe_str (nomark _)) (pw_and1 (pt_not (pt_val (pe_call G_are_signs (hr.mono (by decide)) (by rfl) D.d_are_signs.gl D.d_are_signs.fn.kp D.d_are_signs.bd .nil pass0 (pa_cons (pe_call G_unsigned (hr.mono (by decide)) (by rfl) D.d_unsigned.gl D.d_unsigned.fn.kp D.d_unsigned.bd .nil pass0 (pa_cons (pv 3) pa_nil)) (pa_cons (pe_glob (v := .str (S Uc)) rfl g_FIGURES ⟨_,rfl⟩) pa_nil)))))))))))
        (pss_one (ps_ret pe_non))
        pss_nil))
      (psst_cons (PST.of (ps_set (i := 5) W3.nd rfl (Or.inl rfl) (pe_bm PySem.F.plainAttrs_str PySem.F.slot_str_lstrip PySem.F.type_str_lstrip mt_lstripChars (pe_ix (Z1v K) (pv 4) pe_int (fun _ _ => rfl)) (pa_cons pe_str pa_nil))))
      (psst_cons (PST.of (ps_if (pt_cmpR op_eq (pv 5) pe_str (nomark _))
        (pss_one (ps_ret (pe_tup (pa_cons pe_str (pa_cons pe_int pa_nil)))))
        pss_nil))
      (psst_cons (PST.of (ps_set (i := 6) W3.nd rfl (Or.inl rfl) (pe_bm PySem.F.plainAttrs_str PySem.F.slot_str_rstrip PySem.F.type_str_rstrip mt_rstripChars (pv 5) (pa_cons pe_str pa_nil))))
      (CwR.psst_one (PST.of (ps_ret (pe_tup (pa_cons (pv 6) (pa_cons (pe_op op_add (pe_op op_sub (pe_op op_sub (pe_callB call_len_str (by rfl) T.b_len (by decide +kernel) (pa_cons (pv 5) pa_nil)) (pe_callB call_len_str (by rfl) T.b_len (by decide +kernel) (pa_cons (pv 6) pa_nil))) (pe_ix (Z1v K) (pv 4) pe_int (fun _ _ => rfl))) (pe_ifExp (pt_cmpR op_ne (pv 2) pe_str (nomark _)) (pe_callTy (Qz T.dig) (by rfl) T.b_int (by decide +kernel) (pa_cons (pv 3) pa_nil)) pe_int)) pa_nil)))))))))))),?_⟩
    have hp := Z1q 101 (lowE l)
    rw [Z3m] at hp
    refine Z8f (Z8e (c := 101) (a := lowE l) (Zcb (c := 69) (z := [101]) (Evl.ev_var rfl) rfl rfl (by omega) (by decide)) (Yv rfl) (by rw [Z3m]; omega)) (fun H1 s1 => ?_)
    dsimp only [List.set]
    have hu := Z3l (parL 101 (lowE l)).2.2
    have hdef : ∀ x,decimalIn l = x ↔ decimalIn l = x := fun _ => Iff.rfl
    unfold decimalIn at q1 q2
    generalize parL 101 (lowE l) = pp at *
    obtain ⟨hd,mk,tl⟩ := pp
    dsimp only at hp hu q1 q2 ⊢
    cases hb : bareIn hd with
    | none =>
      rw [hb] at q1
      refine Evl.s_asg (v := .non) (Evl.ev_call (Evl.ea_cons (Evl.ev_var rfl) Evl.ea_nil) (fun H1 e Q q E => ⟨hd,rfl,by omega,fun _ => q,fun b n k => by rw [hb] at k; cases k⟩)) (fun H2 s2 => ?_)
      dsimp only [List.set]
      refine Evl.s_if (b := true) (Evl.et_is (Evl.et_or (b := true) (Z18 (Evl.ev_var rfl)) (fun k => Bool.noConfusion k)) rfl) (fun k H3 s3 => ?_) (fun k => Bool.noConfusion k)
      exact Evl.s_ret Evl.ev_c (fun H4 s4 => q1 rfl H4 (Same.trans (Same.trans (Same.trans s1 s2) s3) s4))
    | some x =>
      obtain ⟨b,n⟩ := x
      rw [hb] at q1 q2
      obtain ⟨b1,b2⟩ := Z31 hb
      refine Evl.s_asgU (xs := [.str (S b), .int ((n : Nat) : Int)]) (Z99 (Evl.ea_cons (Evl.ev_var rfl) Evl.ea_nil) (fun H1 e Q q E => ⟨hd, rfl, by omega, (fun k => by rw [hb] at k; cases k), fun b' n' k => by rw [hb] at k; cases k; exact q⟩)) (fun p H2 np s2 h2 => ?_)
      dsimp only [List.set]
      refine Evl.s_if (Evl.et_is (Evl.et_or (Z3c (Evl.ev_var rfl)) (fun _ => Evl.et_and (Evl.et_test (Evl.ev_op (Evl.ev_var rfl) (Yv (l := []) rfl) Z8c)) (fun _ => Evl.et_not (Evl.et_test (Z4s (ss := figs) (Z97 (Evl.ev_var rfl) (by omega)) Evl.ev_c (by omega)))))) (Bool.false_or _)) (fun k H3 s3 => ?_) (fun k H3 s3 => ?_)
      · refine Evl.s_ret Evl.ev_c (fun H4 s4 => q1 ?_ H4 (Same.trans (Same.trans (Same.trans s1 s2) s3) s4))
        dsimp only
        rw [if_pos k]
      · have s13 := Same.trans (Same.trans s1 s2) s3
        have h3 := s3 _ _ h2
        dsimp only at q1 q2
        rw [if_neg (by rw [k]; exact Bool.false_ne_true)] at q1 q2
        refine Evl.s_asg (Z89 (l := b) (c := 48) (Z4t (K := K) 0 (Evl.ev_var rfl) (SqT.of h3) rfl rfl) (Yv rfl) (by omega)) (fun H4 s4 => ?_)
        dsimp only [List.set]
        have h4 := s4 _ _ h3
        have e2 := Z8i 48 b
        have e3 := Z87 48 (lst 48 b)
        generalize lst 48 b = f at *
        refine Evl.s_if (Evl.et_test (Evl.ev_op (Evl.ev_var rfl) (Yv (l := []) rfl) Z1w)) (fun k2 H5 s5 => ?_) (fun k2 H5 s5 => ?_)
        · refine Evl.s_retU (Evl.eu_tup (Evl.ea_cons (Yv (l := [48]) rfl) (Evl.ea_cons Evl.ev_c Evl.ea_nil)) (by show 2 ≤ 100000; decide)) (fun p2 H6 np2 s6 h6 => ?_)
          have s15 := Same.trans (Same.trans s13 s4) s5
          refine q2 _ _ ?_ p2 H6 (Evl.fresh_back s15 np2) (Same.trans s15 s6) h6
          rw [if_pos k2]
        · rw [if_neg (by rw [k2]; exact Bool.false_ne_true)] at q1 q2
          refine Evl.s_asg (Z88 (l := f) (c := 48) (Evl.ev_var rfl) (Yv rfl) (by omega)) (fun H6 s6 => ?_)
          dsimp only [List.set]
          have h6 := s6 _ _ (s5 _ _ h4)
          refine Evl.s_retU (Evl.eu_tup (Evl.ea_cons (Evl.ev_var rfl) (Evl.ea_cons (Evl.ev_op (Evl.ev_op (Evl.ev_op (Z3k (l := f) (Evl.ev_var rfl) (by omega)) (Z3k (l := rst 48 f) (Evl.ev_var rfl) (by omega)) Evl.rv_I0) (Z4t (K := K) 1 (Evl.ev_var rfl) (SqT.of h6) rfl rfl) Evl.rv_I0) (Zcg (Evl.et_test (Evl.ev_op (Evl.ev_var rfl) (Yv (l := []) rfl) Z8c)) (fun k3 => Z98 (Evl.ev_var rfl) ?_ (by omega)) (fun k3 => Evl.ev_c)) Evl.rv_I0) Evl.ea_nil)) (by show 2 ≤ 100000; decide)) (fun p2 H7 np2 s7 h7 => ?_)
          · rw [k3, Bool.true_and, Bool.not_eq_false'] at k
            exact k
          · have s16 := Same.trans (Same.trans (Same.trans s13 s4) s5) s6
            exact q2 _ _ rfl p2 H7 (Evl.fresh_back s16 np2) (Same.trans s16 s7) h7
end Ap
set_option maxHeartbeats 4000000
namespace Ap
open PySem PySem.Spec PyProof.Rows L2 SX
theorem Zd0 {i : Int} (h : i.natAbs < 10 ^ 4300) : (dec i).length ≤ 4301 := by
  have h2 := PySem.int_text_length_le10 (a := i) (k := 4300) (by decide) h
  show (Str.ofString (toString i)).cps.toList.length ≤ _
  have e : (Str.ofString (toString i)).cps.toList.length = (toString i).length := by rw [← PySem.ofString_length]; exact Array.length_toList
  rw [e]
  exact h2
def Z2e : Sp := fun vs H Q _ => ∃ (l : List Nat), vs = [.str (S l)] ∧ l.length ≤ 3500 ∧ ∀ H', Same H H' → Q (oS (floatIn l)) H'
theorem Z61 {P : Program} {w : World} {K : PySem.W.Frag} {mg : Str → Option Value} {base : Heap} {Z : Ad} (T : Tx K w mg) (D : Dz K mg Z) : FnOk P w K mg base CX0 4 Z.f_float_in Z.d_float_in Qh Z2e := by
  have G_decimal_in : FnOk P w K mg base CX0 3 Z.f_decimal_in Z.d_decimal_in Vx Z0v := Z3u T D
  have G_unsigned : FnOk P w K mg base CX0 1 Z.f_unsigned Z.d_unsigned Vk Uj := Z09 T D
  obtain ⟨a_ENDLESS,g_ENDLESS,q_ENDLESS⟩ := T.ENDLESS
  obtain ⟨a_NO_NUMBERS,g_NO_NUMBERS,q_NO_NUMBERS⟩ := T.NO_NUMBERS
  refine D.d_float_in.fn.ok Z08 (fun vs H Q E h => ?_) (fun cdv A outer s H vs Q E hr h => ?_)
  · obtain ⟨l,rfl,_⟩ := h; rfl
  · obtain ⟨l,rfl,hl,q⟩ := h
    refine ⟨_,(pss_cons (ps_if (pt_cmpR (U7 K) (pv 0) (pe_glob (v := .ref a_NO_NUMBERS) rfl g_NO_NUMBERS rfl) rfl)
        (pss_one (ps_ret pe_str))
        pss_nil)
      (pss_cons (ps_par (i := 1) (j := 2) rfl Z08.nd rfl rfl (by decide) rfl rfl (pa_cons (pe_ifExp (pt_val (pe_bm PySem.F.plainAttrs_str PySem.F.slot_str_startswith PySem.F.type_str_startswith mt_startswith (pv 0) (pa_cons pe_str pa_nil))) pe_str pe_str) (pa_cons (pe_call G_unsigned (hr.mono (by decide)) (by rfl) D.d_unsigned.gl D.d_unsigned.fn.kp D.d_unsigned.bd .nil pass0 (pa_cons (pv 0) pa_nil)) pa_nil)) (by rfl))
      (pss_cons (ps_if (pt_cmpR (U7 K) (pv 2) (pe_glob (v := .ref a_ENDLESS) rfl g_ENDLESS rfl) rfl)
        (pss_one (ps_ret (pe_op op_add_str (pv 1) pe_str)))
        pss_nil)
      (pss_cons (ps_set (i := 3) Z08.nd rfl (Or.inl rfl) (pe_call G_decimal_in (hr.mono (by decide)) (by rfl) D.d_decimal_in.gl D.d_decimal_in.fn.kp D.d_decimal_in.bd .nil pass0 (pa_cons (pv 2) pa_nil)))
      (pss_cons (ps_if (pt_cmpR op_isN (pv 3) pe_non (nomark _))
        (pss_one (ps_ret pe_non))
        pss_nil)
      (pss_one (ps_ret (pe_ifExp (pt_cmpR op_eq (pe_ix (Z1v K) (pv 3) pe_int (fun _ _ => rfl)) pe_str (nomark _)) pe_str (pe_op op_add_str (pe_op op_add_str (pe_op op_add_str (pv 1) (pe_ix (Z1v K) (pv 3) pe_int (fun _ _ => rfl))) pe_str) (pe_callTy (J5 T.dig rfl) (by rfl) T.b_str (by decide +kernel) (pa_cons (pe_ix (Z1v K) (pv 3) pe_int (fun _ _ => rfl)) pa_nil))))))))))),?_⟩
    have hu := Z3l l
    refine Evl.s_if (Evl.et_test (Evl.ev_op (Evl.ev_var rfl) Evl.ev_c (Z15 nans (q_NO_NUMBERS _) rfl))) (fun k1 H1 s1 => ?_) (fun k1 H1 s1 => ?_)
    · refine Evl.s_ret (Yv (l := [46,110,97,110]) rfl) (fun H2 s2 => finV q (Same.trans s1 s2) ?_)
      simp only [floatIn,k1,if_true]; rfl
    refine s_par (Evl.ea_cons (Z5j (Evl.et_test (Zch (b := [45]) (Evl.ev_var rfl) (Yv rfl))) (fun _ => Yv (l := [45]) rfl) (fun _ => Yv (l := []) rfl)) (Evl.ea_cons (Z97 (Evl.ev_var rfl) (by omega)) Evl.ea_nil)) (fun H2 s2 => ?_)
    dsimp only [List.set]
    have s12 := Same.trans s1 s2
    have em : (if List.isPrefixOf [45] l = true then [45] else []) = minusOf l := rfl
    rw [em]
    have hm : (minusOf l).length ≤ 1 := by unfold minusOf; split <;> decide
    simp only [floatIn,k1,Bool.false_eq_true,if_false] at q
    generalize minusOf l = mn at *
    generalize unsg l = rest at *
    refine Evl.s_if (Evl.et_test (Evl.ev_op (Evl.ev_var rfl) Evl.ev_c (Z15 infs (q_ENDLESS _) rfl))) (fun k2 H3 s3 => ?_) (fun k2 H3 s3 => ?_)
    · refine Evl.s_ret (Evl.ev_op (Evl.ev_var rfl) (Yv (l := [46,105,110,102]) rfl) (Ji (by simp; omega))) (fun H4 s4 => finV q (Same.trans (Same.trans s12 s3) s4) ?_)
      simp only [k2,if_true]; rfl
    simp only [k2,Bool.false_eq_true,if_false] at q
    have s13 := Same.trans s12 s3
    cases hb : decimalIn rest with
    | none =>
      rw [hb] at q
      refine Evl.s_asg (v := .non) (Evl.ev_call (Evl.ea_cons (Evl.ev_var rfl) Evl.ea_nil) (fun H1 e Q q E => ⟨rest,rfl,by omega,fun _ => q,fun b n k => by rw [hb] at k; cases k⟩)) (fun H4 s4 => ?_)
      dsimp only [List.set]
      refine Evl.s_if (Z18 (Evl.ev_var rfl)) (fun k H5 s5 => ?_) (fun k => Bool.noConfusion k)
      exact Evl.s_ret Evl.ev_c (fun H6 s6 => q H6 (Same.trans (Same.trans (Same.trans s13 s4) s5) s6))
    | some x =>
      obtain ⟨f,n⟩ := x
      rw [hb] at q
      obtain ⟨g1,g2⟩ := Z4b hb (by omega)
      have g3 := Zd0 g1
      refine Evl.s_asgU (xs := [.str (S f), .int n]) (Z99 (Evl.ea_cons (Evl.ev_var rfl) Evl.ea_nil) (fun H1 e Q q E => ⟨rest, rfl, by omega, (fun k => by rw [hb] at k; cases k), fun b' n' k => by rw [hb] at k; cases k; exact q⟩)) (fun p H4 np s4 h4 => ?_)
      dsimp only [List.set]
      refine Evl.s_if (Z3c (Evl.ev_var rfl)) (fun k => Bool.noConfusion k) (fun k H5 s5 => ?_)
      have h5 := s5 _ _ h4
      refine Evl.s_ret (Z5j (Evl.et_test (Evl.ev_op (Z4t (K := K) 0 (Evl.ev_var rfl) (SqT.of h5) rfl rfl) (Yv (l := [48]) rfl) Z1w)) (fun _ => Yv (l := [48,101,48]) rfl)
        (fun _ => Evl.ev_op (Evl.ev_op (Evl.ev_op (Evl.ev_var rfl) (Z4t (K := K) 0 (Evl.ev_var rfl) (SqT.of h5) rfl rfl) (Ji (by omega))) (Yv (l := [101]) rfl) (Ji (by simp; omega))) (Z8z (Z4t (K := K) 1 (Evl.ev_var rfl) (SqT.of h5) rfl rfl) g1) (Ji (by simp; omega)))) (fun H6 s6 => finV q (Same.trans (Same.trans (Same.trans s13 s4) s5) s6) rfl)
def Z1j : Sp := fun vs H Q _ => ∃ (tag l : List Nat), vs = [.str (S tag), .str (S l)] ∧ l.length ≤ 3500 ∧ l.all (· < 128) = true ∧ ∀ H', Same H H' → Q (oS (canon tag l)) H'
theorem Z4u {P : Program} {w : World} {K : PySem.W.Frag} {mg : Str → Option Value} {base : Heap} {Z : Ad} (T : Tx K w mg) (D : Dz K mg Z) : FnOk P w K mg base CX0 5 Z.f_canonical Z.d_canonical Vl Z1j := by
  have G_float_in : FnOk P w K mg base CX0 4 Z.f_float_in Z.d_float_in Qh Z2e := Z61 T D
  have G_whole_in : FnOk P w K mg base CX0 2 Z.f_whole_in Z.d_whole_in Qg Z2d := Z60 T D
  obtain ⟨a_NULLS,g_NULLS,q_NULLS⟩ := T.NULLS
  obtain ⟨a_TRUTHS,g_TRUTHS,q_TRUTHS⟩ := T.TRUTHS
  obtain ⟨a_UNTRUTHS,g_UNTRUTHS,q_UNTRUTHS⟩ := T.UNTRUTHS
  refine D.d_canonical.fn.ok Z1f (fun vs H Q E h => ?_) (fun cdv A outer s H vs Q E hr h => ?_)
  · obtain ⟨tag,l,rfl,_⟩ := h; rfl
  · obtain ⟨tag,l,rfl,hl,hA,q⟩ := h
    refine ⟨_,(pss_cons (ps_if (pt_cmpR (U7 K) (pv 0) (pe_tup (pa_cons pe_str (pa_cons pe_str pa_nil))) rfl)
        (pss_one (ps_ret pe_non))
        pss_nil)
      (pss_cons (ps_if (pt_cmpR op_eq (pv 0) pe_str (nomark _))
        (pss_one (ps_ret (pe_ifExp (pt_cmpR (U7 K) (pv 1) (pe_glob (v := .ref a_NULLS) rfl g_NULLS rfl) rfl) pe_str pe_non)))
        pss_nil)
      (pss_cons (ps_if (pt_cmpR op_eq (pv 0) pe_str (nomark _))
        (pss_one (ps_ret (pe_ifExp (pt_cmpR (U7 K) (pv 1) (pe_glob (v := .ref a_TRUTHS) rfl g_TRUTHS rfl) rfl) pe_str (pe_ifExp (pt_cmpR (U7 K) (pv 1) (pe_glob (v := .ref a_UNTRUTHS) rfl g_UNTRUTHS rfl) rfl) pe_str pe_non))))
        pss_nil)
      (pss_cons (ps_if (pt_cmpR op_eq (pv 0) pe_str (nomark _))
        (pss_cons (ps_set (i := 2) Z1f.nd rfl (Or.inl rfl) (pe_call G_whole_in (hr.mono (by decide)) (by rfl) D.d_whole_in.gl D.d_whole_in.fn.kp D.d_whole_in.bd .nil pass0 (pa_cons (pv 1) pa_nil)))
        (pss_one (ps_ret (pe_ifExp (pt_cmpR op_isN (pv 2) pe_non (nomark _)) pe_non (pe_callTy (J5 T.dig rfl) (by rfl) T.b_str (by decide +kernel) (pa_cons (pv 2) pa_nil))))))
        pss_nil)
      (pss_one (ps_ret (pe_ifExp (pt_cmpR op_eq (pv 0) pe_str (nomark _)) (pe_call G_float_in (hr.mono (by decide)) (by rfl) D.d_float_in.gl D.d_float_in.fn.kp D.d_float_in.bd .nil pass0 (pa_cons (pv 1) pa_nil)) (pv 1)))))))),?_⟩
    refine Evl.s_if (Evl.et_test (Zce [tSeq', tMap'] (Evl.ev_var rfl) (Evl.eu_tup (Evl.ea_cons Evl.ev_c (Evl.ea_cons Evl.ev_c Evl.ea_nil)) (by decide)) rfl)) (fun k1 H1 s1 => ?_) (fun k1 H1 s1 => ?_)
    · refine Evl.s_ret Evl.ev_c (fun H2 s2 => finV q (Same.trans s1 s2) ?_)
      simp only [canon,k1,if_true]; rfl
    simp only [canon,k1,Bool.false_eq_true,if_false] at q
    refine Evl.s_if (Evl.et_test (Evl.ev_op (Evl.ev_var rfl) (Yv (l := tNull) rfl) Z1w)) (fun k2 H2 s2 => ?_) (fun k2 H2 s2 => ?_)
    · refine Evl.s_ret (Z0k (Evl.et_test (Evl.ev_op (Evl.ev_var rfl) Evl.ev_c (Z15 nulls (q_NULLS _) rfl))) (fun _ => Yv (l := [110,117,108,108]) rfl) (fun _ => Evl.ev_c)) (fun H3 s3 => finV q (Same.trans (Same.trans s1 s2) s3) ?_)
      simp only [k2,if_true]
      cases decide (l ∈ nulls) <;> rfl
    simp only [k2,Bool.false_eq_true,if_false] at q
    have s12 := Same.trans s1 s2
    refine Evl.s_if (Evl.et_test (Evl.ev_op (Evl.ev_var rfl) (Yv (l := tBool) rfl) Z1w)) (fun k3 H3 s3 => ?_) (fun k3 H3 s3 => ?_)
    · refine Evl.s_ret (Z0k (Evl.et_test (Evl.ev_op (Evl.ev_var rfl) Evl.ev_c (Z15 truths (q_TRUTHS _) rfl))) (fun _ => Yv (l := [116,114,117,101]) rfl) (fun _ => Z0k (Evl.et_test (Evl.ev_op (Evl.ev_var rfl) Evl.ev_c (Z15 untruths (q_UNTRUTHS _) rfl))) (fun _ => Yv (l := [102,97,108,115,101]) rfl) (fun _ => Evl.ev_c))) (fun H4 s4 => finV q (Same.trans (Same.trans s12 s3) s4) ?_)
      simp only [k3,if_true]
      cases decide (l ∈ truths) <;> cases decide (l ∈ untruths) <;> rfl
    simp only [k3,Bool.false_eq_true,if_false] at q
    have s13 := Same.trans s12 s3
    refine Evl.s_if (Evl.et_test (Evl.ev_op (Evl.ev_var rfl) (Yv (l := tInt) rfl) Z1w)) (fun k4 H4 s4 => ?_) (fun k4 H4 s4 => ?_)
    · refine Evl.s_asg (v := oI (wholeIn l)) (Evl.ev_call (Evl.ea_cons (Evl.ev_var rfl) Evl.ea_nil) (fun H1 e Q q E => ⟨l,rfl,hl,hA,q⟩)) (fun H5 s5 => ?_)
      dsimp only [List.set]
      simp only [k4,if_true] at q
      have s15 := Same.trans (Same.trans s13 s4) s5
      cases hw : wholeIn l with
      | none =>
        rw [hw] at q
        exact Evl.s_ret (Evl.ev_if (Z18 (Evl.ev_var rfl)) (fun _ => Evl.ev_c) (fun k => Bool.noConfusion k)) (fun H6 s6 => finV q (Same.trans s15 s6) rfl)
      | some i =>
        rw [hw] at q
        exact Evl.s_ret (Evl.ev_if (b := false) (Evl.et_is (Evl.et_test (Evl.ev_op (Evl.ev_var (v := .int i) rfl) Evl.ev_c Z8d)) (by simp)) (fun k => Bool.noConfusion k) (fun _ => Z8z (Evl.ev_var rfl) (Z7n hw hl))) (fun H6 s6 => finV q (Same.trans s15 s6) rfl)
    simp only [k4,Bool.false_eq_true,if_false] at q
    refine Evl.s_ret (Z0k (Evl.et_test (Evl.ev_op (Evl.ev_var rfl) (Yv (l := tFloat) rfl) Z1w)) (fun _ => Evl.ev_call (z := oS (floatIn l)) (Evl.ea_cons (Evl.ev_var rfl) Evl.ea_nil) (fun H1 e Q q E => ⟨l,rfl,hl,q⟩)) (fun _ => Evl.ev_var rfl)) (fun H5 s5 => finV q (Same.trans (Same.trans s13 s4) s5) ?_)
    cases decide (tag = tFloat) <;> rfl
end Ap
set_option maxHeartbeats 4000000
namespace Ap
open PySem PySem.Spec PyProof.Rows L2 SX Fx
variable [Tb]
theorem Z4v {K : PySem.W.Frag} {vs : List V} {H : Hp} {Q : VK} {E : XK} (h : spF K 2 Wy vs H Q E) : Z1j vs H Q E := by
  obtain ⟨_,ι,Z,ts,s,r,p⟩ := h
  unfold Wy at p
  split at p
  · obtain ⟨x,y,rfl,rx,ry⟩ := r.two
    cases rx; cases ry
    rename_i tag l _
    split at p
    · rename_i hw
      simp only [wordOk,Bool.and_eq_true,decide_eq_true_eq] at hw
      refine ⟨tag, l, rfl, hw.1, hw.2, fun H' m => p ι H' _ (Gr.same m) (s.same m) ?_⟩
      cases canon tag l with
      | none => exact .non
      | some z => exact .str z
    · exact p.elim
  · exact p.elim
theorem Z4w {K : PySem.W.Frag} {vs : List V} {H : Hp} {Q : VK} {E : XK} (h : spF K 2 Wz vs H Q E) : V4 vs H Q E := by
  obtain ⟨_,ι,Z,ts,s,r,p⟩ := h
  unfold Wz at p
  split at p
  · obtain ⟨x,y,rfl,rx,ry⟩ := r.two
    cases rx; cases ry
    rename_i l ss _
    split at p
    · rename_i hw
      exact ⟨l, ss, rfl, hw, fun H' m => p ι H' _ (Gr.same m) (s.same m) (.bl _)⟩
    · exact p.elim
  · exact p.elim
end Ap
namespace Fx
open PySem PySem.Spec PyProof.Rows L2
variable [Tb]
def eMakeK (C : String) (F : FF) (gT : List T → List T → List T) (fk : FA) : FE := fun ρ Z => (fk ρ Z).bind fun us Z1 => (F (gT [.loc Z1.length] us) (Z1 ++ [.ins C []])).bind fun r Z2 => match r with
  | .non => .ok (.loc Z1.length) Z2
  | _ => .stuck
section
variable {X : Cx} {K : PySem.W.Frag} {W : Wc} {x : PySem.Str} {p pos : Pos} {kws : List Keyword} {fk : FA} {k m : Nat} {f Ca : Addr} {C : String} {fd : FuncData} {ps ks : List PySem.Str} {F : FF} {g : List Value → List Value → List Value} {gV : List V → List V → List V} {gT : List T → List T → List T}
theorem Zd1 {pins : List (Addr × Obj)} {σ : L2.St} {H : Hp} {s : Shared} {Q : VK} {ws : List Value} {zs : List V} {sp : Sp} (M : Mk X.K Ca f) (G : FnG X.prog X.w X.K X.mg X.base k f fd ps sp) (hr : Room (k + 1) X.A) (hG : X.A.guards = some []) (hb : KBn X.K fd ps 1 ks g gV) (tk : Takes X W.w)
    (I : Inv X pins σ H s) (rz : Vals zs ws) (l2 : zs.length = ks.length)
    (h : ∀ a dx,H a = none → H dx = none → dx ≠ a → sp (gV [.ref a] zs) (upd (upd H dx (.own a)) a (.ins Ca dx [])) (fun v H2 => v = .non ∧ Q (.ref a) H2) (WE W.w σ)) :
    wpAny (model X.prog X.w) X.A (call (.ref Ca) [] (ks.zip ws)) (EP X pins σ Q) X.xe s := by
  have n1 := I.hok.fresh (Nat.le_succ s.heap.objs.size)
  have n0 := I.hok.fresh (Nat.le_refl s.heap.objs.size)
  have q0 := h _ _ n1 n0 (Nat.ne_of_lt (Nat.lt_succ_self _))
  have J := Inv.made (C := Ca) I
  have r1 : Vals [V.ref (s.heap.objs.size + 1)] [Value.ref (s.heap.objs.size + 1)] := .cons rfl .nil
  have rr := hb.rel r1 rz
  have body := G.run (X.A.under (.builtin "type.__call__" ⟨[.ref Ca], ks.zip ws⟩)) X.stack _ _ ⟨[Value.ref (s.heap.objs.size + 1)], ks.zip ws⟩ _ _ _ _
    (hr.make Ca [] (ks.zip ws)) hG (J.env0.make Ca [] (ks.zip ws)) (hb.to _ [Value.ref (s.heap.objs.size + 1)] ws J.kIn rfl (rz.length.symm.trans l2)) rr q0
  refine wpAny_call (make_map (f := f) I.kIn M.makes M.init (beq_iff_eq.mp M.fn) (codeAny_mono body fun z s' hz => ?_))
  cases z with
  | error e => exact passAt tk σ pins _ _ e s' J hz
  | ok fl =>
    cases fl with
    | ret u =>
      obtain ⟨v, H', I3, rv, ev, q3⟩ := J.after hz
      subst ev
      exact ⟨rv, V.ref (s.heap.objs.size + 1), H', I3, rfl, q3⟩
    | next => exact hz.elim
    | brk => exact hz.elim
    | cont => exact hz.elim
theorem Zaq (hK : X.K = K) (cf : CF X.K C Ca) (M : Mk X.K Ca f) (G : FnG X.prog X.w X.K X.mg X.base k f fd ps (spF X.K m F)) (hr : Room (k + 1) X.A) (hG : X.A.guards = some []) (hg : Gl X x) (hm : X.mg x = some (.ref Ca)) (hb : KBn X.K fd ps 1 ks g gV) (hp : PutOk K 1 ks.length m gV gT) (tk : Takes X W.w)
    (hkw : FKJ X K W kws fk) (hkn : kLen kws.length fk) (hkl : kws.length = ks.length) (hall : (backToKw pos (keywordEach kws X.env)).all (·.1.isSome) = true := by rfl) (hks : (backToKw pos (keywordEach kws X.env)).filterMap (·.1) = ks := by rfl)
    (hdb : (x == ("__debug__" : PySem.Str)) = false := by decide)
    (hpl : ((backTo pos (starEach [] X.env)).any (·.1) || (backToKw pos (keywordEach kws X.env)).any (·.1.isNone)) = false := by rfl) :
    FJ X K W (.Call (.Name x p) [] kws pos) (eMakeK C F gT fk) := by
  subst hK
  refine ⟨fun pins s σ H Q I h => ?_⟩
  refine wpAny_Call_Name_kw (ld_glob I hg hm ?_ hdb)
  obtain ⟨ι,ρ,Z,is,p⟩ := h
  have t : tFA X.K W fk σ H (fun zs H1 => zs.length = ks.length ∧ ∀ a dx,H1 a = none → H1 dx = none → dx ≠ a → spF X.K m F (gV [.ref a] zs) (upd (upd H1 dx (.own a)) a (.ins Ca dx [])) (fun v H2 => v = .non ∧ Q (.ref a) H2) (WE W.w σ)) := by
    refine ⟨ι,ρ,Z,is,?_⟩
    unfold eMakeK at p
    cases e : fk ρ Z with
    | ok us Z1 =>
      rw [e,Wo] at p
      refine fun ι1 H1 zs g1 s1 r1 => ?_
      have l2 : us.length = ks.length := (hkn _ _ _ _ e).trans hkl
      refine ⟨by rw [r1.length]; exact l2,fun a dx na nd ne => ?_⟩
      obtain ⟨g2,s2⟩ := Z6y cf s1 na nd ne
      have hi : (ι1 ++ [a])[Z1.length]? = some a := by rw [← s1.len]; simp
      obtain ⟨rr,hl⟩ := hp (ι1 ++ [a]) (upd (upd H1 dx (.own a)) a (.ins Ca dx [])) [V.ref a] [.loc Z1.length] zs us (.cons (.loc hi) .nil) (r1.gr g2) rfl l2
      exact ⟨by rw [rr.length]; exact hl,_,_,_,s2,rr,(made_post s1 g2 (p.shift g1)).wx fun _ _ _ h => h⟩
    | exc y Z1 => rw [e] at p; exact p
    | stuck => rw [e] at p; exact p
  refine PySem.W.callWith_KW0 (h₀ := X.base) I.ok.mod.kin M.kp hall (thn (hkw.run pos pins s σ H _ I t) fun ws s2 ⟨zs,H2,I2,rz,l2,q2⟩ => ⟨I2.kIn,?_⟩) hpl
  rw [hks]
  exact Zd1 M G hr hG hb tk I2 rz l2 q2
end
def gMulW : T → T → Sto → Option (T × Sto)
  | .int i,.int j,Z => if i.natAbs < 2 ^ 1000 ∧ j.natAbs < 2 ^ 1000 then some (.int (i * j),Z) else none
  | _,_,_ => none
theorem Z73 {i j : Int} (Z : Sto) (h1 : i.natAbs < 2 ^ 1000) (h2 : j.natAbs < 2 ^ 1000) : gMulW (.int i) (.int j) Z = some (.int (i * j),Z) := if_pos ⟨h1,h2⟩
section
variable {X : Cx} {K : PySem.W.Frag}
theorem Z74 : OpF X K (binaryOp .Mult) gMulW := by
  refine Vh op_mulW fun x y H Q h => ?_
  obtain ⟨ι,Z,tx,ty,s,rx,ry,p⟩ := h
  unfold gMulW at p
  split at p
  · split at p
    · rename_i hc
      cases rx; cases ry; exact ⟨_,_,rfl,rfl,wide_mul hc.1 hc.2 (by decide) (by decide) (by decide),Zz p s (.int _)⟩
    · exact p.elim
  · exact p.elim
end
def gIsB : T → T → Sto → Option (T × Sto)
  | .bl a,.bl b,Z => some (.bl (decide (a = b)),Z)
  | _,_,_ => none
@[simp] theorem isB_bb (a b : Bool) (Z : Sto) : gIsB (.bl a) (.bl b) Z = some (.bl (decide (a = b)),Z) := (rfl)
section
variable {X : Cx} {K : PySem.W.Frag}
theorem Zex : OpF X K (compareOp .Is) gIsB := Vh op_isBl fun x y H Q h => by
  obtain ⟨ι,Z,tx,ty,s,rx,ry,p⟩ := h
  unfold gIsB at p
  split at p
  · cases rx; cases ry; exact ⟨_,_,rfl,rfl,Zz p s (.bl _)⟩
  · exact p.elim
end
end Fx
set_option maxHeartbeats 4000000
namespace Ap
open PySem PySem.Spec PyProof.Rows L2 SX Fx
def Z0b : List Nat := [97,98,99,100,101,102,103,104,105,106,107,108,109,110,111,112,113,114,115,116,117,118,119,120,121,122,65,66,67,68,69,70,71,72,73,74,75,76,77,78,79,80,81,82,83,84,85,86,87,88,89,90,48,49,50,51,52,53,54,55,56,57,45,35,59,47,63,58,64,38,61,43,36,95,46,126,42,39,40,41]
def Z2f : List Fx.T := [.str [99,111,114,101],.str [116,101,120,116]]
def Z2g : List Fx.T := [.str [33,33,110,117,108,108],.str [33,33,98,111,111,108],.str [33,33,105,110,116],.str [33,33,102,108,111,97,116]]
def Wh : List (List Nat × List Nat) := [([115,101,113,117,101,110,99,101],[33,33,115,101,113]),([109,97,112,112,105,110,103],[33,33,109,97,112]),([115,99,97,108,97,114],[33,33,115,116,114])]
def Vo : FS :=
  (bCons (sSet 1 (eIf (eTru (eBM "str" gStarts (eVar 0) (aCons (eC (.str [45])) aNil))) (eSl (eVar 0) (oSome (eC (.int 1))) oNone) (eVar 0)))
    (bCons (sAsg (eBM "str" gPartition (eVar 1) (aCons (eC (.str [101])) aNil)) (gTp 3 (gsCons (gNm 2) (gsCons (gNm 3) (gsCons (gNm 4) gsNil)))))
    (bCons (sSet 5 (eBM "str" gRstrip (eVar 2) (aCons (eC (.str [48])) aNil)))
    (bCons (sIf (eBl (eBin gEq (eVar 5) (eC (.str []))))
      (sRet (eTup (aCons (eC (.bl false)) (aCons (eC (.str [48])) (aCons (eC (.int 0)) aNil)))))
      sPass)
    (sRet (eTup (aCons (eBM "str" gStarts (eVar 0) (aCons (eC (.str [45])) aNil)) (aCons (eVar 5) (aCons (eBin gAdd (eBin gSub (eCallB gLen (aCons (eVar 2) aNil)) (eCallB gLen (aCons (eVar 5) aNil))) (eIf (eBl (eBin gNe (eVar 3) (eC (.str [])))) (eCallB gIntT (aCons (eVar 4) aNil)) (eC (.int 0)))) aNil)))))))))
def Y6 : FF := runF 6 Vo
def Nz : FS :=
  (sIf (Fx.tOr (Fx.tNot (eTru (eCallB gIsi (aCons (eVar 0) (aCons (eC (.ty "str")) aNil))))) (eBl (eBin gNotIn (eVar 0) (eC (.tup Z2f)))))
      (sRaise "NoSchema" "schema" [] (aCons (eVar 0) aNil))
      sPass)
def Ww : FF := runF 1 Nz
def Z75 : FS :=
  (bCons (sIf (Fx.tOr (Fx.tNot (eTru (eCallB gIsi (aCons (eVar 0) (aCons (eC (.ty "str")) aNil))))) (Fx.tNot (eTru (eBM "str" gStarts (eVar 0) (aCons (eC (.str [33])) aNil)))))
      (sRet (eC (.bl false)))
      sPass)
    (sRet (eCall Wz [] (aCons (eIf (eTru (eBM "str" gStarts (eVar 0) (aCons (eC (.str [33,33])) aNil))) (eSl (eVar 0) (oSome (eC (.int 2))) oNone) (eSl (eVar 0) (oSome (eC (.int 1))) oNone)) (aCons (eC (.str Z0b)) aNil)))))
def Z0w : FF := runF 1 Z75
def U6 : FS :=
  (sIf (Fx.tAnd (eBl (eBin gEq (eVar 1) (eVar 4))) (eBl (eBin gNe (eVar 0) (eVar 3))))
        (sRet (eC (.bl false)))
        sPass)
def J9 : FS :=
  (bCons (sFor (iKdItems Wh) (gTp 2 (gsCons (gNm 3) (gsCons (gNm 4) gsNil))) U6)
    (sRet (eOr (eBin gEq (eVar 0) (eC (.str [115,99,97,108,97,114]))) (eOr (eBin gEq (eVar 2) (eC (.str [116,101,120,116]))) (eBin gNotIn (eVar 1) (eC (.tup Z2g)))))))
def V1 : FF := runF 5 J9
def Nb : FS :=
  (bCons (sDrop (eCall Ww [] (aCons (eVar 3) aNil)))
    (bCons (sIf (Fx.tOr (Fx.tNot (eTru (eCall Z0w [] (aCons (eVar 1) aNil)))) (Fx.tNot (eTru (eCall V1 [] (aCons (eVar 0) (aCons (eVar 1) (aCons (eVar 3) aNil)))))))
      (sRet (eC (.bl false)))
      sPass)
    (bCons (sIf (eBl (eBin gNe (eVar 0) (eC (.str [115,99,97,108,97,114]))))
      (sRet (eC (.bl true)))
      sPass)
    (sRet (eAnd (eCallB gIsi (aCons (eVar 2) (aCons (eC (.ty "str")) aNil))) (eOr (eBin gEq (eVar 3) (eC (.str [116,101,120,116]))) (eBin gEq (eCall Wy [] (aCons (eVar 1) (aCons (eVar 2) aNil))) (eVar 2))))))))
def V5 : FF := runF 4 Nb
def Xb : FS :=
  (bCons (sIf (Fx.tOr (eBl (eBin gNotIn (eVar 1) (eTup (aCons (eC (.str [33,33,105,110,116])) (aCons (eC (.str [33,33,102,108,111,97,116])) aNil))))) (Fx.tNot (eTru (eCall V5 [] (aCons (eC (.str [115,99,97,108,97,114])) (aCons (eVar 1) (aCons (eVar 2) (aCons (eC (.str [99,111,114,101])) aNil))))))))
      (sRaise "BadTag" "place" [] (aCons (eC (.int 0)) aNil))
      sPass)
    (bCons (sFldS ["Number"] "standing" (eVar 0) (eIf (eBl (eBin gEq (eVar 2) (eC (.str [46,110,97,110])))) (eC (.str [110,97,110])) (eIf (eTru (eBM "str" gEndswith (eVar 2) (aCons (eC (.str [46,105,110,102])) aNil))) (eC (.str [105,110,102])) (eC (.str [102,105,110,105,116,101])))))
    (bCons (sAsg (eTup (aCons (eBM "str" gStarts (eVar 2) (aCons (eC (.str [45])) aNil)) (aCons (eC (.str [49])) (aCons (eC (.int 0)) aNil)))) (gTp 3 (gsCons (gFld ["Number"] "is_below" (eVar 0)) (gsCons (gFld ["Number"] "kept" (eVar 0)) (gsCons (gFld ["Number"] "scale" (eVar 0)) gsNil)))))
    (sIf (eBl (eBin gEq (eFld ["Number"] "standing" (eVar 0)) (eC (.str [102,105,110,105,116,101]))))
      (sAsg (eCall Y6 [] (aCons (eVar 2) aNil)) (gTp 3 (gsCons (gFld ["Number"] "is_below" (eVar 0)) (gsCons (gFld ["Number"] "kept" (eVar 0)) (gsCons (gFld ["Number"] "scale" (eVar 0)) gsNil)))))
      sPass))))
def Zd : FF := runF 3 Xb
def Z00 : FS :=
  (sRet (eFld ["Number"] "standing" (eVar 0)))
def Xk : FF := runF 1 Z00
def X6 : FS :=
  (bCons (sIf (eBl (eBin gEq (eFld ["Number"] "standing" (eVar 0)) (eC (.str [110,97,110]))))
      (sRet (eC (.int 0)))
      sPass)
    (sRet (eIf (eTru (eFld ["Number"] "is_below" (eVar 0))) (eUn gNeg (eCallB gIntT (aCons (eFld ["Number"] "kept" (eVar 0)) aNil))) (eCallB gIntT (aCons (eFld ["Number"] "kept" (eVar 0)) aNil)))))
def Zk : FF := runF 1 X6
def Z01 : FS :=
  (sRet (eFld ["Number"] "scale" (eVar 0)))
def Xl : FF := runF 1 Z01
def Uv : FS :=
  (sRet (eTup (aCons (eFld ["Number"] "standing" (eVar 0)) (aCons (eFld ["Number"] "is_below" (eVar 0)) (aCons (eFld ["Number"] "kept" (eVar 0)) (aCons (eFld ["Number"] "scale" (eVar 0)) aNil))))))
def Yn : FF := runF 1 Uv
def Uk : FS :=
  (sRet (eAnd (eIsC "Number" (eVar 1)) (eBin gEq (eMeth "Number" "all_parts" Yn [] (eVar 0) aNil) (eMeth "Number" "all_parts" Yn [] (eVar 1) aNil))))
def Zh : FF := runF 2 Uk
def Ja : FS :=
  (bCons (sIf (eBl (eBin gEq (eFld ["Number"] "kept" (eVar 0)) (eC (.str [48]))))
      (sRet (eC (.int 0)))
      sPass)
    (bCons (sSet 1 (eIf (eBl (eBin gEq (eFld ["Number"] "standing" (eVar 0)) (eC (.str [105,110,102])))) (eC (.int 2)) (eC (.int 1))))
    (sRet (eIf (eTru (eFld ["Number"] "is_below" (eVar 0))) (eUn gNeg (eVar 1)) (eVar 1)))))
def W6 : FF := runF 2 Ja
def Z02 : FS :=
  (sRet (eBin gAdd (eCallB gLen (aCons (eFld ["Number"] "kept" (eVar 0)) aNil)) (eFld ["Number"] "scale" (eVar 0))))
def Yu : FF := runF 1 Z02
def Z0c : FS :=
  (bCons (sIf (eBl (eBin gNe (eMeth "Number" "reach" Yu [] (eVar 0) aNil) (eMeth "Number" "reach" Yu [] (eVar 1) aNil)))
      (sRet (eBin gLt (eMeth "Number" "reach" Yu [] (eVar 0) aNil) (eMeth "Number" "reach" Yu [] (eVar 1) aNil)))
      sPass)
    (sRet (eBin gLt (eFld ["Number"] "kept" (eVar 0)) (eFld ["Number"] "kept" (eVar 1)))))
def V2 : FF := runF 2 Z0c
def Ul : FS :=
  (bCons (sIf (Fx.tOr (eBl (eBin gEq (eFld ["Number"] "standing" (eVar 0)) (eC (.str [110,97,110])))) (eBl (eBin gEq (eFld ["Number"] "standing" (eVar 1)) (eC (.str [110,97,110])))))
      (sRet (eC (.bl false)))
      sPass)
    (bCons (sPar [2,3] (aCons (eMeth "Number" "rank" W6 [] (eVar 0) aNil) (aCons (eMeth "Number" "rank" W6 [] (eVar 1) aNil) aNil)))
    (bCons (sIf (Fx.tOr (eBl (eBin gNe (eVar 2) (eVar 3))) (eBl (eBin gNotIn (eVar 2) (eTup (aCons (eUn gNeg (eC (.int 1))) (aCons (eC (.int 1)) aNil))))))
      (sRet (eBin gLt (eVar 2) (eVar 3)))
      sPass)
    (sRet (eIf (eBl (eBin gEq (eVar 2) (eC (.int 1)))) (eCall V2 [] (aCons (eVar 0) (aCons (eVar 1) aNil))) (eCall V2 [] (aCons (eVar 1) (aCons (eVar 0) aNil))))))))
def Zv : FF := runF 4 Ul
def Z0d : FS :=
  (bCons (sIf (eBl (eBin gGe (eBin gIx (eVar 0) (eC (.int 0))) (eBin gPow (eC (.int 10)) (eC (.int 18)))))
      (bCons (sSet 2 (eBin gMod (eCallB gIntT (aCons (eBin gIx (eVar 0) (eC (.int 0))) aNil)) (eVar 1)))
      (bCons (sAsg (eBin gDiv (eBin gIx (eVar 0) (eC (.int 0))) (eVar 1)) (gSubs (eVar 0) (eC (.int 0))))
      (sRet (eVar 2))))
      sPass)
    (bCons (sAsg (eBin gAdd (eBin gIx (eVar 0) (eC (.int 2))) (eC (.int 1))) (gSubs (eVar 0) (eC (.int 2))))
    (bCons (sSet 3 (eBin gMod (eCallB gIntT (aCons (eBin gMul (eBin gAdd (eBin gAdd (eBin gIx (eVar 0) (eC (.int 1))) (eBin gMul (eC (.int 7919)) (eBin gIx (eVar 0) (eC (.int 2))))) (eC (.int 1))) (eC (.int 48271))) aNil)) (eC (.int 2147483647))))
    (bCons (sSet 3 (eBin gMod (eCallB gIntT (aCons (eBin gMul (eVar 3) (eBin gAdd (eBin gDiv (eVar 3) (eC (.int 1009))) (eC (.int 69621)))) aNil)) (eC (.int 2147483629))))
    (sRet (eBin gMod (eCallB gIntT (aCons (eBin gDiv (eBin gMod (eCallB gIntT (aCons (eBin gMul (eVar 3) (eBin gAdd (eBin gDiv (eVar 3) (eC (.int 2003))) (eC (.int 40692)))) aNil)) (eC (.int 2147483587))) (eC (.int 5))) aNil)) (eVar 1)))))))
def Y0 : FF := runF 4 Z0d
def Z3e : FS :=
  (sRet (eBin gIx (eVar 1) (eCall Y0 [] (aCons (eVar 0) (aCons (eCallB gLen (aCons (eVar 1) aNil)) aNil)))))
def Wf : FF := runF 2 Z3e
def Z0e : FS :=
  (bCons (sSet 2 (eIf (eBl (eBin gLt (eVar 1) (eCallB gLen (aCons (eVar 0) aNil)))) (eBin gIx (eVar 0) (eVar 1)) (eBin gMul (eC (.int 7919)) (eVar 1))))
    (sRet (eLst (aCons (eVar 2) (aCons (eBin gMod (eCallB gIntT (aCons (eVar 2) aNil)) (eC (.int 2147483629))) (aCons (eC (.int 0)) aNil))))))
def Vp : FF := runF 3 Z0e
def X7 : FS :=
  (sIf (Fx.tAnd (eBl (eBin gNe (eVar 1) (eC (.int 0)))) (eBl (eBin gEq (eBin gMod (eCallB gIntT (aCons (eVar 1) aNil)) (eC (.int 10))) (eC (.int 0)))))
        (sPar [1,2] (aCons (eBin gDiv (eVar 1) (eC (.int 10))) (aCons (eBin gAdd (eVar 2) (eC (.int 1))) aNil)))
        sPass)
def Z03 : FS :=
  (bCons (sPar [1,2] (aCons (eVar 0) (aCons (eC (.int 0)) aNil)))
    (bCons (sFor (iRng (aCons (eC (.int 130)) aNil)) (gNm 3) X7)
    (sRet (eTup (aCons (eVar 1) (aCons (eVar 2) aNil))))))
def Zy : FF := runF 4 Z03
def Q5 : FS :=
  (sRet (eTup (aCons (eC (.str [33,33,102,108,111,97,116])) (aCons (eBin gAdd (eBin gAdd (eCallB gStr (aCons (eVar 3) aNil)) (eC (.str [101]))) (eCallB gStr (aCons (eVar 5) aNil))) (aCons (eBin gMulW (eVar 3) (eCallB gIntT (aCons (eBin gAdd (eC (.str [49])) (eBin gMul (eC (.str [48])) (eBin gAdd (eC (.int 20)) (eVar 5)))) aNil))) aNil)))))
def Q6 : FS :=
  (bCons (sIf (eBl (eBin gEq (eVar 3) (eC (.int 0))))
      (sRet (eTup (aCons (eC (.str [33,33,102,108,111,97,116])) (aCons (eC (.str [48,101,48])) (aCons (eC (.int 0)) aNil)))))
      sPass)
    Q5)
def Q7 : FS :=
  (bCons (sSet 5 (eBin gSub (eCall Y0 [] (aCons (eVar 0) (aCons (eC (.int 41)) aNil))) (eC (.int 20))))
    Q6)
def Q8 : FS :=
  (bCons (sAsg (eCall Zy [] (aCons (eVar 2) aNil)) (gTp 2 (gsCons (gNm 3) (gsCons (gNm 4) gsNil))))
    Q7)
def Wg : FS :=
  (bCons (sIf (eBl (eBin gEq (eCall Y0 [] (aCons (eVar 0) (aCons (eC (.int 2)) aNil))) (eC (.int 0))))
      (sRet (eTup (aCons (eC (.str [33,33,105,110,116])) (aCons (eCallB gStr (aCons (eVar 2) aNil)) (aCons (eBin gMulW (eVar 2) (eBin gPow (eC (.int 10)) (eC (.int 20)))) aNil)))))
      sPass)
    Q8)
def Vs : FS :=
  (bCons (sSet 2 (eCall Wf [] (aCons (eVar 0) (aCons (eLst (aCons (eVar 2) (aCons (eUn gNeg (eVar 2)) aNil))) aNil))))
    Wg)
def Vt : FS :=
  (bCons (sSet 2 (eCall Wf [] (aCons (eVar 0) (aCons (eLst (aCons (eCall Y0 [] (aCons (eVar 0) (aCons (eC (.int 10)) aNil))) (aCons (eCall Y0 [] (aCons (eVar 0) (aCons (eBin gPow (eC (.int 10)) (eC (.int 6))) aNil))) (aCons (eCall Y0 [] (aCons (eVar 0) (aCons (eBin gPow (eC (.int 10)) (eC (.int 20))) aNil))) (aCons (eBin gPow (eC (.int 10)) (eC (.int 9))) (aCons (eVar 1) aNil)))))) aNil))))
    Vs)
def Uw : FS :=
  (bCons (sSet 1 (eBin gMulW (eBin gAdd (eBin gMulW (eCall Y0 [] (aCons (eVar 0) (aCons (eBin gPow (eC (.int 10)) (eC (.int 20))) aNil))) (eBin gPow (eC (.int 10)) (eC (.int 40)))) (eCall Y0 [] (aCons (eVar 0) (aCons (eBin gPow (eC (.int 10)) (eC (.int 8))) aNil)))) (eCall Wf [] (aCons (eVar 0) (aCons (eLst (aCons (eC (.int 1)) (aCons (eBin gPow (eC (.int 10)) (eC (.int 9))) aNil))) aNil)))))
    Vt)
def Xw : FF := runF 6 Uw
def Vq : FS :=
  (bCons (sAsg (eCall Zy [] (aCons (eBin gIx (eVar 0) (eC (.int 2))) aNil)) (gTp 2 (gsCons (gNm 1) (gsCons (gNm 2) gsNil))))
    (bCons (sIf (eBl (eBin gEq (eVar 1) (eC (.int 0))))
      (sRet (eTup (aCons (eIf (eBl (eBin gEq (eBin gIx (eVar 0) (eC (.int 0))) (eC (.str [33,33,105,110,116])))) (eC (.str [33,33,102,108,111,97,116])) (eC (.str [33,33,105,110,116]))) (aCons (eIf (eBl (eBin gEq (eBin gIx (eVar 0) (eC (.int 0))) (eC (.str [33,33,105,110,116])))) (eC (.str [48,101,48])) (eC (.str [48]))) (aCons (eC (.int 0)) aNil)))))
      sPass)
    (bCons (sIf (Fx.tAnd (eBl (eBin gEq (eBin gIx (eVar 0) (eC (.int 0))) (eC (.str [33,33,102,108,111,97,116])))) (eBl (eBin gGe (eVar 2) (eC (.int 20)))))
      (sRet (eTup (aCons (eC (.str [33,33,105,110,116])) (aCons (eCallB gStr (aCons (eBin gDiv (eBin gIx (eVar 0) (eC (.int 2))) (eBin gPow (eC (.int 10)) (eC (.int 20)))) aNil)) (aCons (eBin gIx (eVar 0) (eC (.int 2))) aNil)))))
      sPass)
    (sRet (eTup (aCons (eC (.str [33,33,102,108,111,97,116])) (aCons (eBin gAdd (eBin gAdd (eCallB gStr (aCons (eVar 1) aNil)) (eC (.str [101]))) (eCallB gStr (aCons (eBin gSub (eVar 2) (eC (.int 20))) aNil))) (aCons (eBin gIx (eVar 0) (eC (.int 2))) aNil))))))))
def W7 : FF := runF 3 Vq
def Jb : FS :=
  (bCons (sAsg (eCall Zy [] (aCons (eBin gAdd (eBin gIx (eVar 0) (eC (.int 2))) (eC (.int 1))) aNil)) (gTp 2 (gsCons (gNm 1) (gsCons (gNm 2) gsNil))))
    (sRet (eTup (aCons (eC (.str [33,33,102,108,111,97,116])) (aCons (eIf (eBl (eBin gEq (eVar 1) (eC (.int 0)))) (eC (.str [48,101,48])) (eBin gAdd (eBin gAdd (eCallB gStr (aCons (eVar 1) aNil)) (eC (.str [101]))) (eCallB gStr (aCons (eBin gSub (eVar 2) (eC (.int 20))) aNil)))) (aCons (eBin gAdd (eBin gIx (eVar 0) (eC (.int 2))) (eC (.int 1))) aNil))))))
def Wm : FF := runF 3 Jb
def Jw : FS :=
  (bCons (sAsg (eTup (aCons (eMake "Number" Zd [] (aCons (eBin gIx (eVar 0) (eC (.int 0))) (aCons (eBin gIx (eVar 0) (eC (.int 1))) aNil))) (aCons (eCall Zy [] (aCons (eBin gIx (eVar 0) (eC (.int 2))) aNil)) aNil))) (gTp 2 (gsCons (gNm 1) (gsCons (gTp 2 (gsCons (gNm 2) (gsCons (gNm 3) gsNil))) gsNil))))
    (bCons (sSet 4 (eIf (eBl (eBin gEq (eVar 2) (eC (.int 0)))) (eC (.int 0)) (eBin gSub (eVar 3) (eC (.int 20)))))
    (sRet (eBin gEq (eTup (aCons (eProp "Number" Xk (eVar 1)) (aCons (eProp "Number" Zk (eVar 1)) (aCons (eProp "Number" Xl (eVar 1)) aNil)))) (eTup (aCons (eC (.str [102,105,110,105,116,101])) (aCons (eVar 2) (aCons (eVar 4) aNil))))))))
def V6 : FF := runF 5 Jw
def Z4x : FS :=
  (sRet (eIf (eTru (eVar 1)) (eBin gIsB (eVar 0) (eC (.bl true))) (eBin gIsB (eVar 0) (eC (.bl false)))))
def U0 : FF := runF 2 Z4x
def Qp : FS :=
  (bCons (sPar [2,3] (aCons (eMake "Number" Zd [] (aCons (eBin gIx (eVar 0) (eC (.int 0))) (aCons (eBin gIx (eVar 0) (eC (.int 1))) aNil))) (aCons (eMake "Number" Zd [] (aCons (eBin gIx (eVar 1) (eC (.int 0))) (aCons (eBin gIx (eVar 1) (eC (.int 1))) aNil))) aNil)))
    (bCons (sIf (Fx.tOr (Fx.tNot (eTru (eCall U0 [] (aCons (eBin (gOwnEq "Number" Zh) (eVar 2) (eVar 3)) (aCons (eBin gEq (eBin gIx (eVar 0) (eC (.int 2))) (eBin gIx (eVar 1) (eC (.int 2)))) aNil))))) (Fx.tNot (eTru (eCall U0 [] (aCons (eBin (gOwnEq "Number" Zh) (eVar 3) (eVar 2)) (aCons (eBin gEq (eBin gIx (eVar 0) (eC (.int 2))) (eBin gIx (eVar 1) (eC (.int 2)))) aNil))))))
      (sRet (eC (.bl false)))
      sPass)
    (sRet (eAnd (eCall U0 [] (aCons (eCall Zv [] (aCons (eVar 2) (aCons (eVar 3) aNil))) (aCons (eBin gLt (eBin gIx (eVar 0) (eC (.int 2))) (eBin gIx (eVar 1) (eC (.int 2)))) aNil))) (eCall U0 [] (aCons (eCall Zv [] (aCons (eVar 3) (aCons (eVar 2) aNil))) (aCons (eBin gLt (eBin gIx (eVar 1) (eC (.int 2))) (eBin gIx (eVar 0) (eC (.int 2)))) aNil)))))))
def Xu : FF := runF 4 Qp
def Vf : FS :=
  (sIf (Fx.tOr (eTru (eCall Zv [] (aCons (eVar 4) (aCons (eVar 5) aNil)))) (eTru (eCall Zv [] (aCons (eVar 5) (aCons (eVar 4) aNil)))))
        (sRet (eC (.bl false)))
        sPass)
def Yh : FE :=
  (eTup (aCons (eProp "Number" Xk (eVar 7)) (aCons (eProp "Number" Zk (eVar 7)) (aCons (eProp "Number" Xl (eVar 7)) aNil))))
def Yx : FS :=
  (sRet (eAnd (eBin gEq (eVar 6) (eLst (aCons (eTup (aCons (eC (.str [105,110,102])) (aCons (eC (.int 1)) (aCons (eC (.int 0)) aNil)))) (aCons (eTup (aCons (eC (.str [105,110,102])) (aCons (eUn gNeg (eC (.int 1))) (aCons (eC (.int 0)) aNil)))) (aCons (eTup (aCons (eC (.str [110,97,110])) (aCons (eC (.int 0)) (aCons (eC (.int 0)) aNil)))) aNil))))) (eBin (gOwnEq "Number" Zh) (eVar 4) (eMake "Number" Zd [] (aCons (eC (.str [33,33,102,108,111,97,116])) (aCons (eC (.str [46,110,97,110])) aNil))))))
def Yy : FS :=
  (bCons (sSet 6 (eLc [7] [7] (iAny (eTup (aCons (eVar 2) (aCons (eVar 3) (aCons (eVar 4) aNil))))) eYes Yh))
    Yx)
def Yz : FS :=
  (bCons (sFor (iAny (eTup (aCons (eVar 1) (aCons (eVar 2) (aCons (eVar 3) (aCons (eVar 4) aNil)))))) (gNm 5) Vf)
    Yy)
def X3 : FS :=
  (bCons (sIf (eBl (eBin gNe (eLst (aCons (eCall Zv [] (aCons (eVar 2) (aCons (eVar 1) aNil))) (aCons (eCall Zv [] (aCons (eVar 1) (aCons (eVar 3) aNil))) (aCons (eCall Zv [] (aCons (eVar 2) (aCons (eVar 3) aNil))) (aCons (eCall Zv [] (aCons (eVar 2) (aCons (eVar 2) aNil))) aNil))))) (eBin gMul (eLst (aCons (eC (.bl false)) aNil)) (eC (.int 4)))))
      (sRet (eC (.bl false)))
      sPass)
    Yz)
def X4 : FS :=
  (bCons (sIf (eBl (eBin gNe (eLst (aCons (eCall Zv [] (aCons (eVar 1) (aCons (eVar 2) aNil))) (aCons (eCall Zv [] (aCons (eVar 3) (aCons (eVar 1) aNil))) (aCons (eCall Zv [] (aCons (eVar 3) (aCons (eVar 2) aNil))) aNil)))) (eBin gMul (eLst (aCons (eC (.bl true)) aNil)) (eC (.int 3)))))
      (sRet (eC (.bl false)))
      sPass)
    X3)
def Yi : FS :=
  (bCons (sIf (eBl (eBin gNe (eLst (aCons (eBin (gOwnEq "Number" Zh) (eVar 1) (eVar 2)) (aCons (eBin (gOwnEq "Number" Zh) (eVar 1) (eVar 3)) (aCons (eBin (gOwnEq "Number" Zh) (eVar 1) (eVar 4)) (aCons (eBin (gOwnEq "Number" Zh) (eVar 1) (eBin gIx (eVar 0) (eC (.int 2)))) (aCons (eBin (gOwnEq "Number" Zh) (eVar 1) (eBin gIx (eVar 0) (eC (.int 1)))) (aCons (eBin (gOwnEq "Number" Zh) (eVar 1) (eC .non)) (aCons (eBin (gOwnEq "Number" Zh) (eVar 2) (eVar 3)) aNil)))))))) (eBin gMul (eLst (aCons (eC (.bl false)) aNil)) (eC (.int 7)))))
      (sRet (eC (.bl false)))
      sPass)
    X4)
def Vg : FS :=
  (bCons (sSet 4 (eMake "Number" Zd [] (aCons (eC (.str [33,33,102,108,111,97,116])) (aCons (eC (.str [46,110,97,110])) aNil))))
    Yi)
def Xm : FS :=
  (bCons (sPar [1,2,3] (aCons (eMake "Number" Zd [] (aCons (eBin gIx (eVar 0) (eC (.int 0))) (aCons (eBin gIx (eVar 0) (eC (.int 1))) aNil))) (aCons (eMake "Number" Zd [] (aCons (eC (.str [33,33,102,108,111,97,116])) (aCons (eC (.str [46,105,110,102])) aNil))) (aCons (eMakeK "Number" Zd (fun ts us => pick [0,2,1] (ts ++ us)) (aCons (eC (.str [45,46,105,110,102])) (aCons (eC (.str [33,33,102,108,111,97,116])) aNil))) aNil))))
    Vg)
def Xn : FF := runF 8 Xm
def Qq : FS :=
  (bCons (sTryAs "BadTag" 2 (sDrop (eMake "Number" Zd [] (aCons (eVar 0) (aCons (eVar 1) aNil))))
      (fun y => (eBin gEq (eXf y "place") (eC (.int 0)))))
    (sRet (eC (.bl false))))
def Xv : FF := runF 3 Qq
def Z62 : FS :=
  (sIf (Fx.tNot (eTru (eCall Xu [] (aCons (eVar 4) (aCons (eVar 6) aNil)))))
            (sRet (eC (.bl false)))
            sPass)
def Z3v : FS :=
  (bCons (sPar [4,5] (aCons (eCall Xw [] (aCons (eVar 2) aNil)) (aCons (eCall Xw [] (aCons (eVar 2) aNil)) aNil)))
        (bCons (sIf (Fx.tOr (Fx.tNot (eTru (eCall V6 [] (aCons (eVar 4) aNil)))) (Fx.tNot (eTru (eCall Xn [] (aCons (eVar 4) aNil)))))
          (sRet (eC (.bl false)))
          sPass)
        (sFor (iAny (eTup (aCons (eVar 4) (aCons (eVar 5) (aCons (eCall W7 [] (aCons (eVar 4) aNil)) (aCons (eCall Wm [] (aCons (eVar 4) aNil)) aNil)))))) (gNm 6) Z62)))
def Z3w : FS :=
  (bCons (sSet 2 (eCall Vp [] (aCons (eVar 0) (aCons (eVar 1) aNil))))
      (bCons (sFor (iRng (aCons (eC (.int 8)) aNil)) (gNm 3) Z3v)
      (bCons (sSet 7 (eLst (aCons (eTup (aCons (eC (.str [33,33,105,110,116])) (aCons (eC (.str [49,101,48])) aNil))) (aCons (eTup (aCons (eC (.str [33,33,102,108,111,97,116])) (aCons (eC (.str [49])) aNil))) (aCons (eTup (aCons (eC (.str [33,33,115,116,114])) (aCons (eC (.str [49])) aNil))) (aCons (eTup (aCons (eC (.str [33,33,110,117,108,108])) (aCons (eC (.str [110,117,108,108])) aNil))) (aCons (eTup (aCons (eC (.str [33,120])) (aCons (eC (.str [49])) aNil))) (aCons (eTup (aCons (eC .non) (aCons (eC (.str [49])) aNil))) aNil))))))))
      (bCons (sAsg (eCall Wf [] (aCons (eVar 2) (aCons (eBin gAdd (eVar 7) (eLst (aCons (eTup (aCons (eC (.str [33,33,105,110,116])) (aCons (eC (.str [48,49])) aNil))) (aCons (eTup (aCons (eC (.str [33,33,102,108,111,97,116])) (aCons (eC (.str [49,48,101,48])) aNil))) (aCons (eTup (aCons (eC (.str [33,33,105,110,116])) (aCons (eC (.int 1)) aNil))) (aCons (eTup (aCons (eC (.str [33,33,102,108,111,97,116])) (aCons (eC .non) aNil))) aNil)))))) aNil))) (gTp 2 (gsCons (gNm 8) (gsCons (gNm 9) gsNil))))
      (sIf (Fx.tNot (eTru (eCall Xv [] (aCons (eVar 8) (aCons (eVar 9) aNil)))))
        (sRet (eC (.bl false)))
        sPass)))))
def Zey : FS :=
  (bCons (sFor (iRng (aCons (eCallB gMax (aCons (eC (.int 1)) (aCons (eCallB gMin (aCons (eC (.int 5)) (aCons (eCallB gLen (aCons (eVar 0) aNil)) aNil))) aNil))) aNil)) (gNm 1) Z3w)
    (sRet (eC (.bl true))))
def Z9a : FF := runF 10 Zey
end Ap
set_option maxHeartbeats 4000000
namespace Ap
open PySem PySem.Spec PyProof.Rows L2 SX Fx
section
variable [Tb]
theorem Um {K : PySem.W.Frag} {mg : PySem.Str → Option Value} {Z : Ad} (D : Dz K mg Z) : KBn K Z.d_Number_init Yq 1 ["content", "tag"] (fun us ws => Fx.pick [0,2,1] (us ++ ws)) (fun vs zs => Fx.pick [0,2,1] (vs ++ zs)) := by
  obtain ⟨oc,od,kV,doc,pm,an,cdv,ct,osl,e,lk,hcd⟩ := D.d_Number_init.fn.ex
  rw [e]
  exact ⟨fun s us ws X hu hw => match us,ws,hu,hw with | [_],[_,_],_,_ => .of_eq rfl,fun r1 r2 => Fx.Z4j (Vals.append r1 r2) _⟩
theorem Z4y {P : Program} {w : World} {K : PySem.W.Frag} {mg : PySem.Str → Option Value} {base : Heap} {Z : Ad} (T : Tx K w mg) (D : Dz K mg Z) : FnG P w K mg base 1 Z.f_are_signs Z.d_are_signs Xz (spF K 2 Wz) := Zbo (Uu T D) fun _ _ _ _ h => Z4w h
theorem Z4z {P : Program} {w : World} {K : PySem.W.Frag} {mg : PySem.Str → Option Value} {base : Heap} {Z : Ad} (T : Tx K w mg) (D : Dz K mg Z) : FnG P w K mg base 5 Z.f_canonical Z.d_canonical Vl (spF K 2 Wy) := Zbo (Z4u T D) fun _ _ _ _ h => Z4v h
theorem Z7z {K : PySem.W.Frag} {ι : List Addr} {H : Hp} : Reps K ι H Z20 Z2f := (.cons (.str _) (.cons (.str _) .nil))
theorem Z50 {K : PySem.W.Frag} {ι : List Addr} {H : Hp} : Reps K ι H Z06 Z2g := (.cons (.str _) (.cons (.str _) (.cons (.str _) (.cons (.str _) .nil))))
theorem Z1o {P : Program} {w : World} {K : PySem.W.Frag} {mg : PySem.Str → Option Value} {base : Heap} {Z : Ad} (T : Tx K w mg) (D : Dz K mg Z) : FnOk P w K mg base CX0 1 Z.f_NoSchema_init Z.d_NoSchema_init Yw (spI Z.c_NoSchema "schema") := by
  refine Zbe D.d_NoSchema_init.fn Z1n (fun vs H Q E h => ?_) (fun cdv A outer s H vs Q E hr h => ?_)
  · obtain ⟨a,v,rfl,_⟩ := h; rfl
  · obtain ⟨a,v,rfl,ha,hq⟩ := h
    exact ⟨_,(pss_cons (ps_expr (Z4e (by rfl) D.gB D.bB (by decide) (pa_cons (pv 0) (pa_cons pe_str pa_nil)))) (pss_one (ps_ost (pv 0) (pv 1)))),⟨_,rfl,⟨a,Z.c_NoSchema,_,rfl,by decide,D.c_NoSchema.T,ha,⟨v,rfl,_,rfl,a,Z.c_NoSchema,rfl,D.c_NoSchema.T,D.c_NoSchema.nf,.inl ⟨ha,fun dx nd ne => hq dx nd ne⟩⟩⟩⟩⟩
theorem Z2u {P : Program} {w : World} {K : PySem.W.Frag} {mg : PySem.Str → Option Value} {base : Heap} {Z : Ad} (T : Tx K w mg) (D : Dz K mg Z) : FnOk P w K mg base CX0 1 Z.f_BadTag_init Z.d_BadTag_init Xy (spI Z.c_BadTag "place") := by
  refine Zbe D.d_BadTag_init.fn Z2s (fun vs H Q E h => ?_) (fun cdv A outer s H vs Q E hr h => ?_)
  · obtain ⟨a,v,rfl,_⟩ := h; rfl
  · obtain ⟨a,v,rfl,ha,hq⟩ := h
    exact ⟨_,(pss_cons (ps_expr (Z4e (by rfl) D.gB D.bB (by decide) (pa_cons (pv 0) (pa_cons pe_str pa_nil)))) (pss_one (ps_ost (pv 0) (pv 1)))),⟨_,rfl,⟨a,Z.c_BadTag,_,rfl,by decide,D.c_BadTag.T,ha,⟨v,rfl,_,rfl,a,Z.c_BadTag,rfl,D.c_BadTag.T,D.c_BadTag.nf,.inl ⟨ha,fun dx nd ne => hq dx nd ne⟩⟩⟩⟩⟩
theorem Z63 {P : Program} {w : World} {K : PySem.W.Frag} {mg : PySem.Str → Option Value} {base : Heap} {Z : Ad} (T : Tx K w mg) (D : Dz K mg Z) : FnG P w K mg base 1 Z.f_parts_of Z.d_parts_of Ql (spF K 1 Y6) := by
  refine fnF D.d_parts_of.fn Vm fun cdv A outer s H E hr hG => ?_
  have tk : Takes (cxOf (L2.CX P w) P w K mg base Z39 "parts_of" (defScope W9) Z.f_parts_of cdv A outer s H E) (fun cls d _ H => E cls d H) := takes_of rfl rfl rfl rfl
  exact (Zf (Ub (i := 1) Vm.nd rfl (Or.inl rfl) (f_if (V3 rfl (f_bm rfl PySem.F.plainAttrs_str PySem.F.slot_str_startswith PySem.F.type_str_startswith (Z0o rfl) (Zb (pv 0)) (Z9 (Zo [45]) Ze))) (f_sl rfl (Zb (pv 0)) (Z5q f_int) Z5p) (Zb (pv 0))))
    (Zf (Nm (f_bm rfl PySem.F.plainAttrs_str PySem.F.slot_str_partition PySem.F.type_str_partition m_partition (Zb (pv 1)) (Z9 (Zo [101]) Ze)) (Nk rfl rfl (Ye (Xc (i := 2) Vm.nd rfl (Or.inl rfl)) (Ye (Xc (i := 3) Vm.nd rfl (Or.inl rfl)) (Ye (Xc (i := 4) Vm.nd rfl (Or.inl rfl)) Uz)))))
    (Zf (Ub (i := 5) Vm.nd rfl (Or.inl rfl) (f_bm rfl PySem.F.plainAttrs_str PySem.F.slot_str_rstrip PySem.F.type_str_rstrip m_rstrip (Zb (pv 2)) (Z9 (Zo [48]) Ze)))
    (Zf (Vi (Ym (o_eq hr.units rfl) (Zb (pv 5)) (Zo []) (nomark _))
      (Zj (Zt (f_tup (Z9 f_bl (Z9 (Zo [48]) (Z9 f_int Ze))) (Z0 (Z0 (Z0 Za))))))
      Xp)
    (Zj (Zt (f_tup (Z9 (f_bm rfl PySem.F.plainAttrs_str PySem.F.slot_str_startswith PySem.F.type_str_startswith (Z0o rfl) (Zb (pv 0)) (Z9 (Zo [45]) Ze)) (Z9 (Zb (pv 5)) (Z9 (f_op (Qa rfl) (f_op Z8m (U3 (Z7q rfl) (by rfl) T.b_len (by decide +kernel) (Z9 (Zb (pv 2)) Ze)) (U3 (Z7q rfl) (by rfl) T.b_len (by decide +kernel) (Z9 (Zb (pv 5)) Ze))) (f_if (Ym (o_ne hr.units rfl) (Zb (pv 3)) (Zo []) (nomark _)) (Yp (Jl T.dig) (by rfl) T.b_int (by decide +kernel) (Z9 (Zb (pv 4)) Ze)) f_int)) Ze))) (Z0 (Z0 (Z0 Za))))))))))
theorem Z2h {P : Program} {w : World} {K : PySem.W.Frag} {mg : PySem.Str → Option Value} {base : Heap} {Z : Ad} (T : Tx K w mg) (D : Dz K mg Z) : FnG P w K mg base 3 Z.f_check_schema Z.d_check_schema Wv (spF K 1 Ww) := by
  have I_NoSchema_init : FnOk P w K mg base CX0 1 Z.f_NoSchema_init Z.d_NoSchema_init Yw (spI Z.c_NoSchema "schema") := Z1o T D
  obtain ⟨ds_NoSchema_init_1,dv_NoSchema_init_1,db_NoSchema_init_1⟩ := D.d_NoSchema_init.bd 1 (by decide)
  obtain ⟨a_SCHEMAS,g_SCHEMAS,q_SCHEMAS⟩ := T.SCHEMAS
  refine fnF D.d_check_schema.fn Z27 fun cdv A outer s H E hr hG => ?_
  have tk : Takes (cxOf (L2.CX P w) P w K mg base Nv "check_schema" (defScope Yc) Z.f_check_schema cdv A outer s H E) (fun cls d _ H => E cls d H) := takes_of rfl rfl rfl rfl
  exact (Zj (Vi (PW.pt (Z3n (Jg (V3 rfl (U3 (Zcs rfl) (by rfl) T.b_isinstance (by decide +kernel) (Z9 (Zb (pv 0)) (Z9 (f_c (pe_bltn (v := .ty "str") (by rfl) T.b_str (by decide +kernel) rfl) (fun _ _ => .ty _)) Ze))))) (Z0n (Ym (Z3p rfl) (Zb (pv 0)) (f_c (pe_glob (v := .ref a_SCHEMAS) rfl g_SCHEMAS rfl) (fun _ H => .tup (q_SCHEMAS H) Z7z)) rfl))))
      (Zj (Z6w rfl rfl tk D.c_NoSchema.T D.c_NoSchema.iC D.c_NoSchema.tI I_NoSchema_init (hr.mono (by decide)) db_NoSchema_init_1 dv_NoSchema_init_1 (fun _ _ => .nil) (by rfl) D.c_NoSchema.gP (Z9 (Zb (pv 0)) Ze) (Z0 Za) D.c_NoSchema.gN))
      Xp))
theorem Z9b {P : Program} {w : World} {K : PySem.W.Frag} {mg : PySem.Str → Option Value} {base : Heap} {Z : Ad} (T : Tx K w mg) (D : Dz K mg Z) : FnG P w K mg base 2 Z.f_is_tag Z.d_is_tag Z0s (spF K 1 Z0w) := by
  have G_are_signs : FnG P w K mg base 1 Z.f_are_signs Z.d_are_signs Xz (spF K 2 Wz) := Z4y T D
  obtain ⟨t_TAG_SIGNS,g_TAG_SIGNS⟩ := T.TAG_SIGNS
  refine fnF D.d_is_tag.fn Z95 fun cdv A outer s H E hr hG => ?_
  have tk : Takes (cxOf (L2.CX P w) P w K mg base Z71 "is_tag" (defScope Vr) Z.f_is_tag cdv A outer s H E) (fun cls d _ H => E cls d H) := takes_of rfl rfl rfl rfl
  exact (Zf (Vi (PW.pt (Z3n (Jg (V3 rfl (U3 (Zcs rfl) (by rfl) T.b_isinstance (by decide +kernel) (Z9 (Zb (pv 0)) (Z9 (f_c (pe_bltn (v := .ty "str") (by rfl) T.b_str (by decide +kernel) rfl) (fun _ _ => .ty _)) Ze))))) (Z0n (Jg (V3 rfl (f_bm rfl PySem.F.plainAttrs_str PySem.F.slot_str_startswith PySem.F.type_str_startswith (Z0o rfl) (Zb (pv 0)) (Z9 (Zo [33]) Ze)))))))
      (Zj (Zt f_bl))
      Xp)
    (Zj (Zt (Zu rfl G_are_signs (hr.mono (by decide)) hG (by rfl) D.d_are_signs.gl D.d_are_signs.fn.kp D.d_are_signs.bd .nil Dfl.nil tk (Z9 (f_if (V3 rfl (f_bm rfl PySem.F.plainAttrs_str PySem.F.slot_str_startswith PySem.F.type_str_startswith (Z0o rfl) (Zb (pv 0)) (Z9 (Zo [33,33]) Ze))) (f_sl rfl (Zb (pv 0)) (Z5q f_int) Z5p) (f_sl rfl (Zb (pv 0)) (Z5q f_int) Z5p)) (Z9 (f_c (pe_glob (v := .str (S Z05)) rfl g_TAG_SIGNS ⟨_,rfl⟩) (fun _ _ => .str _)) Ze)) (Z0 (Z0 Za))))))
theorem Z51 {P : Program} {w : World} {K : PySem.W.Frag} {mg : PySem.Str → Option Value} {base : Heap} {Z : Ad} (T : Tx K w mg) (D : Dz K mg Z) : FnG P w K mg base 1 Z.f_may_stand Z.d_may_stand Ue (spF K 3 V1) := by
  obtain ⟨a_WORD_TAGS,g_WORD_TAGS,q_WORD_TAGS⟩ := T.WORD_TAGS
  refine fnF D.d_may_stand.fn Jt fun cdv A outer s H E hr hG => ?_
  have tk : Takes (cxOf (L2.CX P w) P w K mg base Z28 "may_stand" (defScope Xf) Z.f_may_stand cdv A outer s H E) (fun cls d _ H => E cls d H) := takes_of rfl rfl rfl rfl
  exact (Zf (Z33 (passes_of rfl) rfl (Z7s rfl (by rfl) T.i_KIND_TAGS) (Nk rfl rfl (Ye (Xc (i := 3) Jt.nd rfl (Or.inl rfl)) (Ye (Xc (i := 4) Jt.nd rfl (Or.inl rfl)) Uz)))
      (Zj (Vi (PW.pt (Z8l (Ym (o_eq hr.units rfl) (Zb (pv 1)) (Zb (pv 4)) (nomark _)) (Z5l (Ym (o_ne hr.units rfl) (Zb (pv 0)) (Zb (pv 3)) (nomark _)))))
        (Zj (Zt f_bl))
        Xp)))
    (Zj (Zt (f_or rfl (Ve (o_eq hr.units rfl) (Zb (pv 0)) (Zo [115,99,97,108,97,114]) (nomark _)) (f_or rfl (Ve (o_eq hr.units rfl) (Zb (pv 2)) (Zo [116,101,120,116]) (nomark _)) (Z4c (Ve (Z3p rfl) (Zb (pv 1)) (f_c (pe_glob (v := .ref a_WORD_TAGS) rfl g_WORD_TAGS rfl) (fun _ H => .tup (q_WORD_TAGS H) Z50)) rfl)))))))
theorem Z64 {P : Program} {w : World} {K : PySem.W.Frag} {mg : PySem.Str → Option Value} {base : Heap} {Z : Ad} (T : Tx K w mg) (D : Dz K mg Z) : FnG P w K mg base 6 Z.f_tag_fits Z.d_tag_fits Qi (spF K 4 V5) := by
  have G_canonical : FnG P w K mg base 5 Z.f_canonical Z.d_canonical Vl (spF K 2 Wy) := Z4z T D
  have G_check_schema : FnG P w K mg base 3 Z.f_check_schema Z.d_check_schema Wv (spF K 1 Ww) := Z2h T D
  have G_is_tag : FnG P w K mg base 2 Z.f_is_tag Z.d_is_tag Z0s (spF K 1 Z0w) := Z9b T D
  have G_may_stand : FnG P w K mg base 1 Z.f_may_stand Z.d_may_stand Ue (spF K 3 V1) := Z51 T D
  refine fnF D.d_tag_fits.fn Z5x fun cdv A outer s H E hr hG => ?_
  have tk : Takes (cxOf (L2.CX P w) P w K mg base Z38 "tag_fits" (defScope W8) Z.f_tag_fits cdv A outer s H E) (fun cls d _ H => E cls d H) := takes_of rfl rfl rfl rfl
  exact (Zf (Z8q (Zu rfl G_check_schema (hr.mono (by decide)) hG (by rfl) D.d_check_schema.gl D.d_check_schema.fn.kp D.d_check_schema.bd .nil Dfl.nil tk (Z9 (Zb (pv 3)) Ze) (Z0 Za)))
    (Zf (Vi (PW.pt (Z3n (Jg (V3 rfl (Zu rfl G_is_tag (hr.mono (by decide)) hG (by rfl) D.d_is_tag.gl D.d_is_tag.fn.kp D.d_is_tag.bd .nil Dfl.nil tk (Z9 (Zb (pv 1)) Ze) (Z0 Za)))) (Z0n (Jg (V3 rfl (Zu rfl G_may_stand (hr.mono (by decide)) hG (by rfl) D.d_may_stand.gl D.d_may_stand.fn.kp D.d_may_stand.bd .nil Dfl.nil tk (Z9 (Zb (pv 0)) (Z9 (Zb (pv 1)) (Z9 (Zb (pv 3)) Ze))) (Z0 (Z0 (Z0 Za)))))))))
      (Zj (Zt f_bl))
      Xp)
    (Zf (Vi (Ym (o_ne hr.units rfl) (Zb (pv 0)) (Zo [115,99,97,108,97,114]) (nomark _))
      (Zj (Zt f_bl))
      Xp)
    (Zj (Zt (Zaf rfl (U3 (Zcs rfl) (by rfl) T.b_isinstance (by decide +kernel) (Z9 (Zb (pv 2)) (Z9 (f_c (pe_bltn (v := .ty "str") (by rfl) T.b_str (by decide +kernel) rfl) (fun _ _ => .ty _)) Ze))) (Z4c (f_or rfl (Ve (o_eq hr.units rfl) (Zb (pv 3)) (Zo [116,101,120,116]) (nomark _)) (Z4c (Ve (o_eq hr.units rfl) (Zu rfl G_canonical (hr.mono (by decide)) hG (by rfl) D.d_canonical.gl D.d_canonical.fn.kp D.d_canonical.bd .nil Dfl.nil tk (Z9 (Zb (pv 1)) (Z9 (Zb (pv 2)) Ze)) (Z0 (Z0 Za))) (Zb (pv 2)) (nomark _)))))))))))
theorem Vu {P : Program} {w : World} {K : PySem.W.Frag} {mg : PySem.Str → Option Value} {base : Heap} {Z : Ad} (T : Tx K w mg) (D : Dz K mg Z) : FnG P w K mg base 7 Z.f_Number_init Z.d_Number_init Yq (spF K 3 Zd) := by
  have I_BadTag_init : FnOk P w K mg base CX0 1 Z.f_BadTag_init Z.d_BadTag_init Xy (spI Z.c_BadTag "place") := Z2u T D
  obtain ⟨ds_BadTag_init_1,dv_BadTag_init_1,db_BadTag_init_1⟩ := D.d_BadTag_init.bd 1 (by decide)
  have G_parts_of : FnG P w K mg base 1 Z.f_parts_of Z.d_parts_of Ql (spF K 1 Y6) := Z63 T D
  have G_tag_fits : FnG P w K mg base 6 Z.f_tag_fits Z.d_tag_fits Qi (spF K 4 V5) := Z64 T D
  refine fnF D.d_Number_init.fn Z2t fun cdv A outer s H E hr hG => ?_
  have tk : Takes (cxOf (L2.CX P w) P w K mg base Z0q "Number.__init__" (defScope Yj) Z.f_Number_init cdv A outer s H E) (fun cls d _ H => E cls d H) := takes_of rfl rfl rfl rfl
  exact (Zf (Vi (PW.pt (Z3n (Ym (Z3p rfl) (Zb (pv 1)) (f_tup (Z9 (Zo [33,33,105,110,116]) (Z9 (Zo [33,33,102,108,111,97,116]) Ze)) (Z0 (Z0 Za))) rfl) (Z0n (Jg (V3 rfl (Zu rfl G_tag_fits (hr.mono (by decide)) hG (by rfl) D.d_tag_fits.gl D.d_tag_fits.fn.kp D.d_tag_fits.bd .nil Dfl.nil tk (Z9 (Zo [115,99,97,108,97,114]) (Z9 (Zb (pv 1)) (Z9 (Zb (pv 2)) (Z9 (Zo [99,111,114,101]) Ze)))) (Z0 (Z0 (Z0 (Z0 Za))))))))))
      (Zj (Z6w rfl rfl tk D.c_BadTag.T D.c_BadTag.iC D.c_BadTag.tI I_BadTag_init (hr.mono (by decide)) db_BadTag_init_1 dv_BadTag_init_1 (fun _ _ => .nil) (by rfl) D.c_BadTag.gP (Z9 f_int Ze) (Z0 Za) D.c_BadTag.gN))
      Xp)
    (Zf (Zes rfl (Fx.FldOk.cons D.cf_Number D.na_Number_standing .nil) (Zb (pv 0)) (f_if (Ym (o_eq hr.units rfl) (Zb (pv 2)) (Zo [46,110,97,110]) (nomark _)) (Zo [110,97,110]) (f_if (V3 rfl (f_bm rfl PySem.F.plainAttrs_str PySem.F.slot_str_endswith PySem.F.type_str_endswith m_endswith (Zb (pv 2)) (Z9 (Zo [46,105,110,102]) Ze))) (Zo [105,110,102]) (Zo [102,105,110,105,116,101]))))
    (Zf (Nm (f_tup (Z9 (f_bm rfl PySem.F.plainAttrs_str PySem.F.slot_str_startswith PySem.F.type_str_startswith (Z0o rfl) (Zb (pv 2)) (Z9 (Zo [45]) Ze)) (Z9 (Zo [49]) (Z9 f_int Ze))) (Z0 (Z0 (Z0 Za)))) (Nk rfl rfl (Ye (Z35 rfl (Fx.FldOk.cons D.cf_Number D.na_Number_is_below .nil) (Zb (pv 0))) (Ye (Z35 rfl (Fx.FldOk.cons D.cf_Number D.na_Number_kept .nil) (Zb (pv 0))) (Ye (Z35 rfl (Fx.FldOk.cons D.cf_Number D.na_Number_scale .nil) (Zb (pv 0))) Uz)))))
    (Zj (Vi (Ym (o_eq hr.units rfl) (Qc rfl (Fx.FldOk.cons D.cf_Number D.na_Number_standing .nil) (Zb (pv 0))) (Zo [102,105,110,105,116,101]) (nomark _))
      (Zj (Nm (Zu rfl G_parts_of (hr.mono (by decide)) hG (by rfl) D.d_parts_of.gl D.d_parts_of.fn.kp D.d_parts_of.bd .nil Dfl.nil tk (Z9 (Zb (pv 2)) Ze) (Z0 Za)) (Nk rfl rfl (Ye (Z35 rfl (Fx.FldOk.cons D.cf_Number D.na_Number_is_below .nil) (Zb (pv 0))) (Ye (Z35 rfl (Fx.FldOk.cons D.cf_Number D.na_Number_kept .nil) (Zb (pv 0))) (Ye (Z35 rfl (Fx.FldOk.cons D.cf_Number D.na_Number_scale .nil) (Zb (pv 0))) Uz))))))
      Xp)))))
theorem Jx {P : Program} {w : World} {K : PySem.W.Frag} {mg : PySem.Str → Option Value} {base : Heap} {Z : Ad} (T : Tx K w mg) (D : Dz K mg Z) : FnG P w K mg base 1 Z.f_Number_state Z.d_Number_state Wd (spF K 1 Xk) := by
  refine fnF D.d_Number_state.fn Z22 fun cdv A outer s H E hr hG => ?_
  have tk : Takes (cxOf (L2.CX P w) P w K mg base Nq "Number.state" (defScope Y8) Z.f_Number_state cdv A outer s H E) (fun cls d _ H => E cls d H) := takes_of rfl rfl rfl rfl
  exact (Zj (Zt (Qc rfl (Fx.FldOk.cons D.cf_Number D.na_Number_standing .nil) (Zb (pv 0)))))
theorem Qs {P : Program} {w : World} {K : PySem.W.Frag} {mg : PySem.Str → Option Value} {base : Heap} {Z : Ad} (T : Tx K w mg) (D : Dz K mg Z) : FnG P w K mg base 1 Z.f_Number_figures Z.d_Number_figures X5 (spF K 1 Zk) := by
  refine fnF D.d_Number_figures.fn Z17 fun cdv A outer s H E hr hG => ?_
  have tk : Takes (cxOf (L2.CX P w) P w K mg base Jh "Number.figures" (defScope Zx) Z.f_Number_figures cdv A outer s H E) (fun cls d _ H => E cls d H) := takes_of rfl rfl rfl rfl
  exact (Zf (Vi (Ym (o_eq hr.units rfl) (Qc rfl (Fx.FldOk.cons D.cf_Number D.na_Number_standing .nil) (Zb (pv 0))) (Zo [110,97,110]) (nomark _))
      (Zj (Zt f_int))
      Xp)
    (Zj (Zt (f_if (V3 rfl (Qc rfl (Fx.FldOk.cons D.cf_Number D.na_Number_is_below .nil) (Zb (pv 0)))) (Z8y (Yp (Jl T.dig) (by rfl) T.b_int (by decide +kernel) (Z9 (Qc rfl (Fx.FldOk.cons D.cf_Number D.na_Number_kept .nil) (Zb (pv 0))) Ze))) (Yp (Jl T.dig) (by rfl) T.b_int (by decide +kernel) (Z9 (Qc rfl (Fx.FldOk.cons D.cf_Number D.na_Number_kept .nil) (Zb (pv 0))) Ze))))))
theorem Jy {P : Program} {w : World} {K : PySem.W.Frag} {mg : PySem.Str → Option Value} {base : Heap} {Z : Ad} (T : Tx K w mg) (D : Dz K mg Z) : FnG P w K mg base 1 Z.f_Number_power Z.d_Number_power We (spF K 1 Xl) := by
  refine fnF D.d_Number_power.fn Z23 fun cdv A outer s H E hr hG => ?_
  have tk : Takes (cxOf (L2.CX P w) P w K mg base Nr "Number.power" (defScope Y9) Z.f_Number_power cdv A outer s H E) (fun cls d _ H => E cls d H) := takes_of rfl rfl rfl rfl
  exact (Zj (Zt (Qc rfl (Fx.FldOk.cons D.cf_Number D.na_Number_scale .nil) (Zb (pv 0)))))
theorem Z0f {P : Program} {w : World} {K : PySem.W.Frag} {mg : PySem.Str → Option Value} {base : Heap} {Z : Ad} (T : Tx K w mg) (D : Dz K mg Z) : FnG P w K mg base 1 Z.f_Number_all_parts Z.d_Number_all_parts Xa (spF K 1 Yn) := by
  refine fnF D.d_Number_all_parts.fn Z07 fun cdv A outer s H E hr hG => ?_
  have tk : Takes (cxOf (L2.CX P w) P w K mg base Uq "Number.all_parts" (defScope Zm) Z.f_Number_all_parts cdv A outer s H E) (fun cls d _ H => E cls d H) := takes_of rfl rfl rfl rfl
  exact (Zj (Zt (f_tup (Z9 (Qc rfl (Fx.FldOk.cons D.cf_Number D.na_Number_standing .nil) (Zb (pv 0))) (Z9 (Qc rfl (Fx.FldOk.cons D.cf_Number D.na_Number_is_below .nil) (Zb (pv 0))) (Z9 (Qc rfl (Fx.FldOk.cons D.cf_Number D.na_Number_kept .nil) (Zb (pv 0))) (Z9 (Qc rfl (Fx.FldOk.cons D.cf_Number D.na_Number_scale .nil) (Zb (pv 0))) Ze)))) (Z0 (Z0 (Z0 (Z0 Za)))))))
theorem Z1k {P : Program} {w : World} {K : PySem.W.Frag} {mg : PySem.Str → Option Value} {base : Heap} {Z : Ad} (T : Tx K w mg) (D : Dz K mg Z) : FnG P w K mg base 2 Z.f_Number_eq Z.d_Number_eq Vj (spF K 2 Zh) := by
  have G_Number_all_parts : FnG P w K mg base 1 Z.f_Number_all_parts Z.d_Number_all_parts Xa (spF K 1 Yn) := Z0f T D
  refine fnF D.d_Number_eq.fn Z4m fun cdv A outer s H E hr hG => ?_
  have tk : Takes (cxOf (L2.CX P w) P w K mg base Z24 "Number.__eq__" (defScope Xd) Z.f_Number_eq cdv A outer s H E) (fun cls d _ H => E cls d H) := takes_of rfl rfl rfl rfl
  exact (Zj (Zt (Zaf rfl (f_isC rfl D.oc_Number (by rfl) T.b_isinstance (by decide +kernel) (by rfl) D.gO_Number (Zb (pv 1))) (Z4c (Ve (o_eq hr.units rfl) (Jo rfl D.cf_Number D.me_Number_all_parts G_Number_all_parts (hr.mono (by decide)) hG D.d_Number_all_parts.bd .nil Dfl.nil tk (Zb (pv 0))) (Jo rfl D.cf_Number D.me_Number_all_parts G_Number_all_parts (hr.mono (by decide)) hG D.d_Number_all_parts.bd .nil Dfl.nil tk (Zb (pv 1))) (nomark _))))))
theorem Z2v {P : Program} {w : World} {K : PySem.W.Frag} {mg : PySem.Str → Option Value} {base : Heap} {Z : Ad} (T : Tx K w mg) (D : Dz K mg Z) : FnG P w K mg base 1 Z.f_Number_rank Z.d_Number_rank V9 (spF K 1 W6) := by
  refine fnF D.d_Number_rank.fn Nt fun cdv A outer s H E hr hG => ?_
  have tk : Takes (cxOf (L2.CX P w) P w K mg base Z0r "Number.rank" (defScope Yk) Z.f_Number_rank cdv A outer s H E) (fun cls d _ H => E cls d H) := takes_of rfl rfl rfl rfl
  exact (Zf (Vi (Ym (o_eq hr.units rfl) (Qc rfl (Fx.FldOk.cons D.cf_Number D.na_Number_kept .nil) (Zb (pv 0))) (Zo [48]) (nomark _))
      (Zj (Zt f_int))
      Xp)
    (Zf (Ub (i := 1) Nt.nd rfl (Or.inl rfl) (f_if (Ym (o_eq hr.units rfl) (Qc rfl (Fx.FldOk.cons D.cf_Number D.na_Number_standing .nil) (Zb (pv 0))) (Zo [105,110,102]) (nomark _)) f_int f_int))
    (Zj (Zt (f_if (V3 rfl (Qc rfl (Fx.FldOk.cons D.cf_Number D.na_Number_is_below .nil) (Zb (pv 0)))) (Z8y (Zb (pv 1))) (Zb (pv 1)))))))
theorem Z2i {P : Program} {w : World} {K : PySem.W.Frag} {mg : PySem.Str → Option Value} {base : Heap} {Z : Ad} (T : Tx K w mg) (D : Dz K mg Z) : FnG P w K mg base 1 Z.f_Number_reach Z.d_Number_reach Wu (spF K 1 Yu) := by
  refine fnF D.d_Number_reach.fn Z25 fun cdv A outer s H E hr hG => ?_
  have tk : Takes (cxOf (L2.CX P w) P w K mg base Nu "Number.reach" (defScope Yb) Z.f_Number_reach cdv A outer s H E) (fun cls d _ H => E cls d H) := takes_of rfl rfl rfl rfl
  exact (Zj (Zt (f_op (Qa rfl) (U3 (Z7q rfl) (by rfl) T.b_len (by decide +kernel) (Z9 (Qc rfl (Fx.FldOk.cons D.cf_Number D.na_Number_kept .nil) (Zb (pv 0))) Ze)) (Qc rfl (Fx.FldOk.cons D.cf_Number D.na_Number_scale .nil) (Zb (pv 0))))))
theorem Z52 {P : Program} {w : World} {K : PySem.W.Frag} {mg : PySem.Str → Option Value} {base : Heap} {Z : Ad} (T : Tx K w mg) (D : Dz K mg Z) : FnG P w K mg base 2 Z.f_is_nearer Z.d_is_nearer Ug (spF K 2 V2) := by
  have G_Number_reach : FnG P w K mg base 1 Z.f_Number_reach Z.d_Number_reach Wu (spF K 1 Yu) := Z2i T D
  refine fnF D.d_is_nearer.fn Z4o fun cdv A outer s H E hr hG => ?_
  have tk : Takes (cxOf (L2.CX P w) P w K mg base Z29 "is_nearer" (defScope Xg) Z.f_is_nearer cdv A outer s H E) (fun cls d _ H => E cls d H) := takes_of rfl rfl rfl rfl
  exact (Zf (Vi (Ym (o_ne hr.units rfl) (Jo rfl D.cf_Number D.me_Number_reach G_Number_reach (hr.mono (by decide)) hG D.d_Number_reach.bd .nil Dfl.nil tk (Zb (pv 0))) (Jo rfl D.cf_Number D.me_Number_reach G_Number_reach (hr.mono (by decide)) hG D.d_Number_reach.bd .nil Dfl.nil tk (Zb (pv 1))) (nomark _))
      (Zj (Zt (Ve o_lt (Jo rfl D.cf_Number D.me_Number_reach G_Number_reach (hr.mono (by decide)) hG D.d_Number_reach.bd .nil Dfl.nil tk (Zb (pv 0))) (Jo rfl D.cf_Number D.me_Number_reach G_Number_reach (hr.mono (by decide)) hG D.d_Number_reach.bd .nil Dfl.nil tk (Zb (pv 1))) (nomark _))))
      Xp)
    (Zj (Zt (Ve o_lt (Qc rfl (Fx.FldOk.cons D.cf_Number D.na_Number_kept .nil) (Zb (pv 0))) (Qc rfl (Fx.FldOk.cons D.cf_Number D.na_Number_kept .nil) (Zb (pv 1))) (nomark _)))))
theorem Z3f {P : Program} {w : World} {K : PySem.W.Frag} {mg : PySem.Str → Option Value} {base : Heap} {Z : Ad} (T : Tx K w mg) (D : Dz K mg Z) : FnG P w K mg base 3 Z.f_is_less Z.d_is_less Qm (spF K 2 Zv) := by
  have G_Number_rank : FnG P w K mg base 1 Z.f_Number_rank Z.d_Number_rank V9 (spF K 1 W6) := Z2v T D
  have G_is_nearer : FnG P w K mg base 2 Z.f_is_nearer Z.d_is_nearer Ug (spF K 2 V2) := Z52 T D
  refine fnF D.d_is_less.fn Z3a fun cdv A outer s H E hr hG => ?_
  have tk : Takes (cxOf (L2.CX P w) P w K mg base Z4p "is_less" (defScope Wr) Z.f_is_less cdv A outer s H E) (fun cls d _ H => E cls d H) := takes_of rfl rfl rfl rfl
  exact (Zf (Vi (PW.pt (Z3n (Ym (o_eq hr.units rfl) (Qc rfl (Fx.FldOk.cons D.cf_Number D.na_Number_standing .nil) (Zb (pv 0))) (Zo [110,97,110]) (nomark _)) (Z0n (Ym (o_eq hr.units rfl) (Qc rfl (Fx.FldOk.cons D.cf_Number D.na_Number_standing .nil) (Zb (pv 1))) (Zo [110,97,110]) (nomark _)))))
      (Zj (Zt f_bl))
      Xp)
    (Zf (Z4d (i := 2) (j := 3) rfl Z3a.nd rfl rfl (by decide) rfl rfl (Z9 (Jo rfl D.cf_Number D.me_Number_rank G_Number_rank (hr.mono (by decide)) hG D.d_Number_rank.bd .nil Dfl.nil tk (Zb (pv 0))) (Z9 (Jo rfl D.cf_Number D.me_Number_rank G_Number_rank (hr.mono (by decide)) hG D.d_Number_rank.bd .nil Dfl.nil tk (Zb (pv 1))) Ze)) (Z0 (Z0 Za)) (by rfl))
    (Zf (Vi (PW.pt (Z3n (Ym (o_ne hr.units rfl) (Zb (pv 2)) (Zb (pv 3)) (nomark _)) (Z0n (Ym (Z3p rfl) (Zb (pv 2)) (f_tup (Z9 (Z8y f_int) (Z9 f_int Ze)) (Z0 (Z0 Za))) rfl))))
      (Zj (Zt (Ve o_lt (Zb (pv 2)) (Zb (pv 3)) (nomark _))))
      Xp)
    (Zj (Zt (f_if (Ym (o_eq hr.units rfl) (Zb (pv 2)) f_int (nomark _)) (Zu rfl G_is_nearer (hr.mono (by decide)) hG (by rfl) D.d_is_nearer.gl D.d_is_nearer.fn.kp D.d_is_nearer.bd .nil Dfl.nil tk (Z9 (Zb (pv 0)) (Z9 (Zb (pv 1)) Ze)) (Z0 (Z0 Za))) (Zu rfl G_is_nearer (hr.mono (by decide)) hG (by rfl) D.d_is_nearer.gl D.d_is_nearer.fn.kp D.d_is_nearer.bd .nil Dfl.nil tk (Z9 (Zb (pv 1)) (Z9 (Zb (pv 0)) Ze)) (Z0 (Z0 Za)))))))))
theorem Z1l {P : Program} {w : World} {K : PySem.W.Frag} {mg : PySem.Str → Option Value} {base : Heap} {Z : Ad} (T : Tx K w mg) (D : Dz K mg Z) : FnG P w K mg base 1 Z.f__law_draw Z.d__law_draw Vn (spF K 2 Y0) := by
  refine fnF D.d__law_draw.fn Ur fun cdv A outer s H E hr hG => ?_
  have tk : Takes (cxOf (L2.CX P w) P w K mg base Z2a "_law_draw" (defScope Xh) Z.f__law_draw cdv A outer s H E) (fun cls d _ H => E cls d H) := takes_of rfl rfl rfl rfl
  exact (Zf (Vi (Ym o_ge (f_ix (i_ix rfl) (Zb (pv 0)) f_int (fun _ _ => rfl)) (f_op Z2q f_int f_int) (nomark _))
      (Zf (Ub (i := 2) Ur.nd rfl (Or.inl rfl) (f_op Z5o (Yp (Jl T.dig) (by rfl) T.b_int (by decide +kernel) (Z9 (f_ix (i_ix rfl) (Zb (pv 0)) f_int (fun _ _ => rfl)) Ze)) (Zb (pv 1))))
      (Zf (Nm (f_op Z7o (f_ix (i_ix rfl) (Zb (pv 0)) f_int (fun _ _ => rfl)) (Zb (pv 1))) (Zbm (Zb (pv 0)) f_int))
      (Zj (Zt (Zb (pv 2))))))
      Xp)
    (Zf (Nm (f_op (Qa rfl) (f_ix (i_ix rfl) (Zb (pv 0)) f_int (fun _ _ => rfl)) f_int) (Zbm (Zb (pv 0)) f_int))
    (Zf (Ub (i := 3) Ur.nd rfl (Or.inl rfl) (f_op Z5o (Yp (Jl T.dig) (by rfl) T.b_int (by decide +kernel) (Z9 (f_op Z3o (f_op (Qa rfl) (f_op (Qa rfl) (f_ix (i_ix rfl) (Zb (pv 0)) f_int (fun _ _ => rfl)) (f_op Z3o f_int (f_ix (i_ix rfl) (Zb (pv 0)) f_int (fun _ _ => rfl)))) f_int) f_int) Ze)) f_int))
    (Zf (Ub (i := 3) Ur.nd rfl (Or.inl rfl) (f_op Z5o (Yp (Jl T.dig) (by rfl) T.b_int (by decide +kernel) (Z9 (f_op Z3o (Zb (pv 3)) (f_op (Qa rfl) (f_op Z7o (Zb (pv 3)) f_int) f_int)) Ze)) f_int))
    (Zj (Zt (f_op Z5o (Yp (Jl T.dig) (by rfl) T.b_int (by decide +kernel) (Z9 (f_op Z7o (f_op Z5o (Yp (Jl T.dig) (by rfl) T.b_int (by decide +kernel) (Z9 (f_op Z3o (Zb (pv 3)) (f_op (Qa rfl) (f_op Z7o (Zb (pv 3)) f_int) f_int)) Ze)) f_int) f_int) Ze)) (Zb (pv 1)))))))))
theorem Z2j {P : Program} {w : World} {K : PySem.W.Frag} {mg : PySem.Str → Option Value} {base : Heap} {Z : Ad} (T : Tx K w mg) (D : Dz K mg Z) : FnG P w K mg base 2 Z.f__law_one Z.d__law_one U9 (spF K 2 Wf) := by
  have G__law_draw : FnG P w K mg base 1 Z.f__law_draw Z.d__law_draw Vn (spF K 2 Y0) := Z1l T D
  refine fnF D.d__law_one.fn Z5y fun cdv A outer s H E hr hG => ?_
  have tk : Takes (cxOf (L2.CX P w) P w K mg base Z3b "_law_one" (defScope Wb) Z.f__law_one cdv A outer s H E) (fun cls d _ H => E cls d H) := takes_of rfl rfl rfl rfl
  exact (Zj (Zt (f_ix (i_ix rfl) (Zb (pv 1)) (Zu rfl G__law_draw (hr.mono (by decide)) hG (by rfl) D.d__law_draw.gl D.d__law_draw.fn.kp D.d__law_draw.bd .nil Dfl.nil tk (Z9 (Zb (pv 0)) (Z9 (U3 (Z7q rfl) (by rfl) T.b_len (by decide +kernel) (Z9 (Zb (pv 1)) Ze)) Ze)) (Z0 (Z0 Za))) (fun _ _ => rfl))))
theorem Z53 {P : Program} {w : World} {K : PySem.W.Frag} {mg : PySem.Str → Option Value} {base : Heap} {Z : Ad} (T : Tx K w mg) (D : Dz K mg Z) : FnG P w K mg base 1 Z.f__law_well Z.d__law_well Uh (spF K 2 Vp) := by
  refine fnF D.d__law_well.fn Z1g fun cdv A outer s H E hr hG => ?_
  have tk : Takes (cxOf (L2.CX P w) P w K mg base Z2b "_law_well" (defScope Xi) Z.f__law_well cdv A outer s H E) (fun cls d _ H => E cls d H) := takes_of rfl rfl rfl rfl
  exact (Zf (Ub (i := 2) Z1g.nd rfl (Or.inl rfl) (f_if (Ym o_lt (Zb (pv 1)) (U3 (Z7q rfl) (by rfl) T.b_len (by decide +kernel) (Z9 (Zb (pv 0)) Ze)) (nomark _)) (f_ix (i_ix rfl) (Zb (pv 0)) (Zb (pv 1)) (fun _ _ => rfl)) (f_op Z3o f_int (Zb (pv 1)))))
    (Zj (Zt (Z16 (Z9 (Zb (pv 2)) (Z9 (f_op Z5o (Yp (Jl T.dig) (by rfl) T.b_int (by decide +kernel) (Z9 (Zb (pv 2)) Ze)) f_int) (Z9 f_int Ze))) (Z0 (Z0 (Z0 Za)))))))
theorem Vd {P : Program} {w : World} {K : PySem.W.Frag} {mg : PySem.Str → Option Value} {base : Heap} {Z : Ad} (T : Tx K w mg) (D : Dz K mg Z) : FnG P w K mg base 1 Z.f__law_trimmed Z.d__law_trimmed Yt (spF K 1 Zy) := by
  refine fnF D.d__law_trimmed.fn Va fun cdv A outer s H E hr hG => ?_
  have tk : Takes (cxOf (L2.CX P w) P w K mg base Ny "_law_trimmed" (defScope Yd) Z.f__law_trimmed cdv A outer s H E) (fun cls d _ H => E cls d H) := takes_of rfl rfl rfl rfl
  exact (Zf (Z4d (i := 1) (j := 2) rfl Va.nd rfl rfl (by decide) rfl rfl (Z9 (Zb (pv 0)) (Z9 f_int Ze)) (Z0 (Z0 Za)) (by rfl))
    (Zf (Z33 (passes_of rfl) rfl (Z1z (by rfl) T.b_range (Z9 f_int Ze) (Z0 Za)) (Xc (i := 3) Va.nd rfl (Or.inl rfl))
      (Zj (Vi (PW.pt (Z8l (Ym (o_ne hr.units rfl) (Zb (pv 1)) f_int (nomark _)) (Z5l (Ym (o_eq hr.units rfl) (f_op Z5o (Yp (Jl T.dig) (by rfl) T.b_int (by decide +kernel) (Z9 (Zb (pv 1)) Ze)) f_int) f_int (nomark _)))))
        (Zj (Z4d (i := 1) (j := 2) rfl Va.nd rfl rfl (by decide) rfl rfl (Z9 (f_op Z7o (Zb (pv 1)) f_int) (Z9 (f_op (Qa rfl) (Zb (pv 2)) f_int) Ze)) (Z0 (Z0 Za)) (by rfl)))
        Xp)))
    (Zj (Zt (f_tup (Z9 (Zb (pv 1)) (Z9 (Zb (pv 2)) Ze)) (Z0 (Z0 Za)))))))
theorem Z3x {P : Program} {w : World} {K : PySem.W.Frag} {mg : PySem.Str → Option Value} {base : Heap} {Z : Ad} (T : Tx K w mg) (D : Dz K mg Z) : FnG P w K mg base 3 Z.f__law_drawn Z.d__law_drawn Vy (spF K 1 Xw) := by
  have G__law_draw : FnG P w K mg base 1 Z.f__law_draw Z.d__law_draw Vn (spF K 2 Y0) := Z1l T D
  have G__law_one : FnG P w K mg base 2 Z.f__law_one Z.d__law_one U9 (spF K 2 Wf) := Z2j T D
  have G__law_trimmed : FnG P w K mg base 1 Z.f__law_trimmed Z.d__law_trimmed Yt (spF K 1 Zy) := Vd T D
  refine fnF D.d__law_drawn.fn W4 fun cdv A outer s H E hr hG => ?_
  have tk : Takes (cxOf (L2.CX P w) P w K mg base Z1h "_law_drawn" (defScope Yr) Z.f__law_drawn cdv A outer s H E) (fun cls d _ H => E cls d H) := takes_of rfl rfl rfl rfl
  exact (Zf (Ub (i := 1) W4.nd rfl (Or.inl rfl) (f_op Z74 (f_op (Qa rfl) (f_op Z74 (Zu rfl G__law_draw (hr.mono (by decide)) hG (by rfl) D.d__law_draw.gl D.d__law_draw.fn.kp D.d__law_draw.bd .nil Dfl.nil tk (Z9 (Zb (pv 0)) (Z9 (f_op Z2q f_int f_int) Ze)) (Z0 (Z0 Za))) (f_op Z2q f_int f_int)) (Zu rfl G__law_draw (hr.mono (by decide)) hG (by rfl) D.d__law_draw.gl D.d__law_draw.fn.kp D.d__law_draw.bd .nil Dfl.nil tk (Z9 (Zb (pv 0)) (Z9 (f_op Z2q f_int f_int) Ze)) (Z0 (Z0 Za)))) (Zu rfl G__law_one (hr.mono (by decide)) hG (by rfl) D.d__law_one.gl D.d__law_one.fn.kp D.d__law_one.bd .nil Dfl.nil tk (Z9 (Zb (pv 0)) (Z9 (Z16 (Z9 f_int (Z9 (f_op Z2q f_int f_int) Ze)) (Z0 (Z0 Za))) Ze)) (Z0 (Z0 Za)))))
    (Zf (Ub (i := 2) W4.nd rfl (Or.inl rfl) (Zu rfl G__law_one (hr.mono (by decide)) hG (by rfl) D.d__law_one.gl D.d__law_one.fn.kp D.d__law_one.bd .nil Dfl.nil tk (Z9 (Zb (pv 0)) (Z9 (Z16 (Z9 (Zu rfl G__law_draw (hr.mono (by decide)) hG (by rfl) D.d__law_draw.gl D.d__law_draw.fn.kp D.d__law_draw.bd .nil Dfl.nil tk (Z9 (Zb (pv 0)) (Z9 f_int Ze)) (Z0 (Z0 Za))) (Z9 (Zu rfl G__law_draw (hr.mono (by decide)) hG (by rfl) D.d__law_draw.gl D.d__law_draw.fn.kp D.d__law_draw.bd .nil Dfl.nil tk (Z9 (Zb (pv 0)) (Z9 (f_op Z2q f_int f_int) Ze)) (Z0 (Z0 Za))) (Z9 (Zu rfl G__law_draw (hr.mono (by decide)) hG (by rfl) D.d__law_draw.gl D.d__law_draw.fn.kp D.d__law_draw.bd .nil Dfl.nil tk (Z9 (Zb (pv 0)) (Z9 (f_op Z2q f_int f_int) Ze)) (Z0 (Z0 Za))) (Z9 (f_op Z2q f_int f_int) (Z9 (Zb (pv 1)) Ze))))) (Z0 (Z0 (Z0 (Z0 (Z0 Za)))))) Ze)) (Z0 (Z0 Za))))
    (Zf (Ub (i := 2) W4.nd rfl (Or.inl rfl) (Zu rfl G__law_one (hr.mono (by decide)) hG (by rfl) D.d__law_one.gl D.d__law_one.fn.kp D.d__law_one.bd .nil Dfl.nil tk (Z9 (Zb (pv 0)) (Z9 (Z16 (Z9 (Zb (pv 2)) (Z9 (Z8y (Zb (pv 2))) Ze)) (Z0 (Z0 Za))) Ze)) (Z0 (Z0 Za))))
    (Zf (Vi (Ym (o_eq hr.units rfl) (Zu rfl G__law_draw (hr.mono (by decide)) hG (by rfl) D.d__law_draw.gl D.d__law_draw.fn.kp D.d__law_draw.bd .nil Dfl.nil tk (Z9 (Zb (pv 0)) (Z9 f_int Ze)) (Z0 (Z0 Za))) f_int (nomark _))
      (Zj (Zt (f_tup (Z9 (Zo [33,33,105,110,116]) (Z9 (Yp (Z4g T.dig rfl) (by rfl) T.b_str (by decide +kernel) (Z9 (Zb (pv 2)) Ze)) (Z9 (f_op Z74 (Zb (pv 2)) (f_op Z2q f_int f_int)) Ze))) (Z0 (Z0 (Z0 Za))))))
      Xp)
    (Zf (Nm (Zu rfl G__law_trimmed (hr.mono (by decide)) hG (by rfl) D.d__law_trimmed.gl D.d__law_trimmed.fn.kp D.d__law_trimmed.bd .nil Dfl.nil tk (Z9 (Zb (pv 2)) Ze) (Z0 Za)) (Nk rfl rfl (Ye (Xc (i := 3) W4.nd rfl (Or.inl rfl)) (Ye (Xc (i := 4) W4.nd rfl (Or.inl rfl)) Uz))))
    (Zf (Ub (i := 5) W4.nd rfl (Or.inl rfl) (f_op Z8m (Zu rfl G__law_draw (hr.mono (by decide)) hG (by rfl) D.d__law_draw.gl D.d__law_draw.fn.kp D.d__law_draw.bd .nil Dfl.nil tk (Z9 (Zb (pv 0)) (Z9 f_int Ze)) (Z0 (Z0 Za))) f_int))
    (Zf (Vi (Ym (o_eq hr.units rfl) (Zb (pv 3)) f_int (nomark _))
      (Zj (Zt (f_tup (Z9 (Zo [33,33,102,108,111,97,116]) (Z9 (Zo [48,101,48]) (Z9 f_int Ze))) (Z0 (Z0 (Z0 Za))))))
      Xp)
    (Zj (Zt (f_tup (Z9 (Zo [33,33,102,108,111,97,116]) (Z9 (f_op (Qa rfl) (f_op (Qa rfl) (Yp (Z4g T.dig rfl) (by rfl) T.b_str (by decide +kernel) (Z9 (Zb (pv 3)) Ze)) (Zo [101])) (Yp (Z4g T.dig rfl) (by rfl) T.b_str (by decide +kernel) (Z9 (Zb (pv 5)) Ze))) (Z9 (f_op Z74 (Zb (pv 3)) (Yp (Jl T.dig) (by rfl) T.b_int (by decide +kernel) (Z9 (f_op (Qa rfl) (Zo [49]) (f_op Z3o (Zo [48]) (f_op (Qa rfl) f_int (Zb (pv 5))))) Ze))) Ze))) (Z0 (Z0 (Z0 Za)))))))))))))
theorem Z54 {P : Program} {w : World} {K : PySem.W.Frag} {mg : PySem.Str → Option Value} {base : Heap} {Z : Ad} (T : Tx K w mg) (D : Dz K mg Z) : FnG P w K mg base 2 Z.f__law_twin Z.d__law_twin Ui (spF K 1 W7) := by
  have G__law_trimmed : FnG P w K mg base 1 Z.f__law_trimmed Z.d__law_trimmed Yt (spF K 1 Zy) := Vd T D
  refine fnF D.d__law_twin.fn Ju fun cdv A outer s H E hr hG => ?_
  have tk : Takes (cxOf (L2.CX P w) P w K mg base Z2c "_law_twin" (defScope Xj) Z.f__law_twin cdv A outer s H E) (fun cls d _ H => E cls d H) := takes_of rfl rfl rfl rfl
  exact (Zf (Nm (Zu rfl G__law_trimmed (hr.mono (by decide)) hG (by rfl) D.d__law_trimmed.gl D.d__law_trimmed.fn.kp D.d__law_trimmed.bd .nil Dfl.nil tk (Z9 (f_ix (i_ix rfl) (Zb (pv 0)) f_int (fun _ _ => rfl)) Ze) (Z0 Za)) (Nk rfl rfl (Ye (Xc (i := 1) Ju.nd rfl (Or.inl rfl)) (Ye (Xc (i := 2) Ju.nd rfl (Or.inl rfl)) Uz))))
    (Zf (Vi (Ym (o_eq hr.units rfl) (Zb (pv 1)) f_int (nomark _))
      (Zj (Zt (f_tup (Z9 (f_if (Ym (o_eq hr.units rfl) (f_ix (i_ix rfl) (Zb (pv 0)) f_int (fun _ _ => rfl)) (Zo [33,33,105,110,116]) (nomark _)) (Zo [33,33,102,108,111,97,116]) (Zo [33,33,105,110,116])) (Z9 (f_if (Ym (o_eq hr.units rfl) (f_ix (i_ix rfl) (Zb (pv 0)) f_int (fun _ _ => rfl)) (Zo [33,33,105,110,116]) (nomark _)) (Zo [48,101,48]) (Zo [48])) (Z9 f_int Ze))) (Z0 (Z0 (Z0 Za))))))
      Xp)
    (Zf (Vi (PW.pt (Z8l (Ym (o_eq hr.units rfl) (f_ix (i_ix rfl) (Zb (pv 0)) f_int (fun _ _ => rfl)) (Zo [33,33,102,108,111,97,116]) (nomark _)) (Z5l (Ym o_ge (Zb (pv 2)) f_int (nomark _)))))
      (Zj (Zt (f_tup (Z9 (Zo [33,33,105,110,116]) (Z9 (Yp (Z4g T.dig rfl) (by rfl) T.b_str (by decide +kernel) (Z9 (f_op Z7o (f_ix (i_ix rfl) (Zb (pv 0)) f_int (fun _ _ => rfl)) (f_op Z2q f_int f_int)) Ze)) (Z9 (f_ix (i_ix rfl) (Zb (pv 0)) f_int (fun _ _ => rfl)) Ze))) (Z0 (Z0 (Z0 Za))))))
      Xp)
    (Zj (Zt (f_tup (Z9 (Zo [33,33,102,108,111,97,116]) (Z9 (f_op (Qa rfl) (f_op (Qa rfl) (Yp (Z4g T.dig rfl) (by rfl) T.b_str (by decide +kernel) (Z9 (Zb (pv 1)) Ze)) (Zo [101])) (Yp (Z4g T.dig rfl) (by rfl) T.b_str (by decide +kernel) (Z9 (f_op Z8m (Zb (pv 2)) f_int) Ze))) (Z9 (f_ix (i_ix rfl) (Zb (pv 0)) f_int (fun _ _ => rfl)) Ze))) (Z0 (Z0 (Z0 Za)))))))))
theorem Z2w {P : Program} {w : World} {K : PySem.W.Frag} {mg : PySem.Str → Option Value} {base : Heap} {Z : Ad} (T : Tx K w mg) (D : Dz K mg Z) : FnG P w K mg base 2 Z.f__law_beside Z.d__law_beside Vb (spF K 1 Wm) := by
  have G__law_trimmed : FnG P w K mg base 1 Z.f__law_trimmed Z.d__law_trimmed Yt (spF K 1 Zy) := Vd T D
  refine fnF D.d__law_beside.fn Q4 fun cdv A outer s H E hr hG => ?_
  have tk : Takes (cxOf (L2.CX P w) P w K mg base Z0t "_law_beside" (defScope Yl) Z.f__law_beside cdv A outer s H E) (fun cls d _ H => E cls d H) := takes_of rfl rfl rfl rfl
  exact (Zf (Nm (Zu rfl G__law_trimmed (hr.mono (by decide)) hG (by rfl) D.d__law_trimmed.gl D.d__law_trimmed.fn.kp D.d__law_trimmed.bd .nil Dfl.nil tk (Z9 (f_op (Qa rfl) (f_ix (i_ix rfl) (Zb (pv 0)) f_int (fun _ _ => rfl)) f_int) Ze) (Z0 Za)) (Nk rfl rfl (Ye (Xc (i := 1) Q4.nd rfl (Or.inl rfl)) (Ye (Xc (i := 2) Q4.nd rfl (Or.inl rfl)) Uz))))
    (Zj (Zt (f_tup (Z9 (Zo [33,33,102,108,111,97,116]) (Z9 (f_if (Ym (o_eq hr.units rfl) (Zb (pv 1)) f_int (nomark _)) (Zo [48,101,48]) (f_op (Qa rfl) (f_op (Qa rfl) (Yp (Z4g T.dig rfl) (by rfl) T.b_str (by decide +kernel) (Z9 (Zb (pv 1)) Ze)) (Zo [101])) (Yp (Z4g T.dig rfl) (by rfl) T.b_str (by decide +kernel) (Z9 (f_op Z8m (Zb (pv 2)) f_int) Ze)))) (Z9 (f_op (Qa rfl) (f_ix (i_ix rfl) (Zb (pv 0)) f_int (fun _ _ => rfl)) f_int) Ze))) (Z0 (Z0 (Z0 Za)))))))
theorem Z3y {P : Program} {w : World} {K : PySem.W.Frag} {mg : PySem.Str → Option Value} {base : Heap} {Z : Ad} (T : Tx K w mg) (D : Dz K mg Z) : FnG P w K mg base 9 Z.f__law_is_so Z.d__law_is_so Vz (spF K 1 V6) := by
  have G_Number_figures : FnG P w K mg base 1 Z.f_Number_figures Z.d_Number_figures X5 (spF K 1 Zk) := Qs T D
  have G_Number_init : FnG P w K mg base 7 Z.f_Number_init Z.d_Number_init Yq (spF K 3 Zd) := Vu T D
  have G_Number_power : FnG P w K mg base 1 Z.f_Number_power Z.d_Number_power We (spF K 1 Xl) := Jy T D
  have G_Number_state : FnG P w K mg base 1 Z.f_Number_state Z.d_Number_state Wd (spF K 1 Xk) := Jx T D
  have G__law_trimmed : FnG P w K mg base 1 Z.f__law_trimmed Z.d__law_trimmed Yt (spF K 1 Zy) := Vd T D
  refine fnF D.d__law_is_so.fn Vc fun cdv A outer s H E hr hG => ?_
  have tk : Takes (cxOf (L2.CX P w) P w K mg base Z1i "_law_is_so" (defScope Ys) Z.f__law_is_so cdv A outer s H E) (fun cls d _ H => E cls d H) := takes_of rfl rfl rfl rfl
  exact (Zf (Nm (f_tup (Z9 (Np rfl D.cf_Number D.mk_Number G_Number_init (hr.mono (by decide)) hG (by rfl) D.gO_Number D.d_Number_init.bd .nil Dfl.nil tk (Z9 (f_ix (i_ix rfl) (Zb (pv 0)) f_int (fun _ _ => rfl)) (Z9 (f_ix (i_ix rfl) (Zb (pv 0)) f_int (fun _ _ => rfl)) Ze)) (Z0 (Z0 Za))) (Z9 (Zu rfl G__law_trimmed (hr.mono (by decide)) hG (by rfl) D.d__law_trimmed.gl D.d__law_trimmed.fn.kp D.d__law_trimmed.bd .nil Dfl.nil tk (Z9 (f_ix (i_ix rfl) (Zb (pv 0)) f_int (fun _ _ => rfl)) Ze) (Z0 Za)) Ze)) (Z0 (Z0 Za))) (Nk rfl rfl (Ye (Xc (i := 1) Vc.nd rfl (Or.inl rfl)) (Ye (Nk rfl rfl (Ye (Xc (i := 2) Vc.nd rfl (Or.inl rfl)) (Ye (Xc (i := 3) Vc.nd rfl (Or.inl rfl)) Uz))) Uz))))
    (Zf (Ub (i := 4) Vc.nd rfl (Or.inl rfl) (f_if (Ym (o_eq hr.units rfl) (Zb (pv 2)) f_int (nomark _)) f_int (f_op Z8m (Zb (pv 3)) f_int)))
    (Zj (Zt (Ve (o_eq hr.units rfl) (f_tup (Z9 (Z36 rfl D.cf_Number D.pr_Number_state G_Number_state (hr.mono (by decide)) hG D.d_Number_state.bd (Zb (pv 1))) (Z9 (Z36 rfl D.cf_Number D.pr_Number_figures G_Number_figures (hr.mono (by decide)) hG D.d_Number_figures.bd (Zb (pv 1))) (Z9 (Z36 rfl D.cf_Number D.pr_Number_power G_Number_power (hr.mono (by decide)) hG D.d_Number_power.bd (Zb (pv 1))) Ze))) (Z0 (Z0 (Z0 Za)))) (f_tup (Z9 (Zo [102,105,110,105,116,101]) (Z9 (Zb (pv 2)) (Z9 (Zb (pv 4)) Ze))) (Z0 (Z0 (Z0 Za)))) (nomark _))))))
theorem Z80 {P : Program} {w : World} {K : PySem.W.Frag} {mg : PySem.Str → Option Value} {base : Heap} {Z : Ad} (T : Tx K w mg) (D : Dz K mg Z) : FnG P w K mg base 1 Z.f__law_is Z.d__law_is Jv (spF K 2 U0) := by
  refine fnF D.d__law_is.fn Z7x fun cdv A outer s H E hr hG => ?_
  have tk : Takes (cxOf (L2.CX P w) P w K mg base Z4q "_law_is" (defScope Ws) Z.f__law_is cdv A outer s H E) (fun cls d _ H => E cls d H) := takes_of rfl rfl rfl rfl
  exact (Zj (Zt (f_if (V3 rfl (Zb (pv 1))) (Ve Zex (Zb (pv 0)) f_bl (nomark _)) (Ve Zex (Zb (pv 0)) f_bl (nomark _)))))
theorem Z0x {P : Program} {w : World} {K : PySem.W.Frag} {mg : PySem.Str → Option Value} {base : Heap} {Z : Ad} (T : Tx K w mg) (D : Dz K mg Z) : FnG P w K mg base 9 Z.f__law_pair_right Z.d__law_pair_right Xq (spF K 2 Xu) := by
  have G_Number_eq : FnG P w K mg base 2 Z.f_Number_eq Z.d_Number_eq Vj (spF K 2 Zh) := Z1k T D
  have G_Number_init : FnG P w K mg base 7 Z.f_Number_init Z.d_Number_init Yq (spF K 3 Zd) := Vu T D
  have G__law_is : FnG P w K mg base 1 Z.f__law_is Z.d__law_is Jv (spF K 2 U0) := Z80 T D
  have G_is_less : FnG P w K mg base 3 Z.f_is_less Z.d_is_less Qm (spF K 2 Zv) := Z3f T D
  refine fnF D.d__law_pair_right.fn Us fun cdv A outer s H E hr hG => ?_
  have tk : Takes (cxOf (L2.CX P w) P w K mg base Qn "_law_pair_right" (defScope Zq) Z.f__law_pair_right cdv A outer s H E) (fun cls d _ H => E cls d H) := takes_of rfl rfl rfl rfl
  exact (Zf (Z4d (i := 2) (j := 3) rfl Us.nd rfl rfl (by decide) rfl rfl (Z9 (Np rfl D.cf_Number D.mk_Number G_Number_init (hr.mono (by decide)) hG (by rfl) D.gO_Number D.d_Number_init.bd .nil Dfl.nil tk (Z9 (f_ix (i_ix rfl) (Zb (pv 0)) f_int (fun _ _ => rfl)) (Z9 (f_ix (i_ix rfl) (Zb (pv 0)) f_int (fun _ _ => rfl)) Ze)) (Z0 (Z0 Za))) (Z9 (Np rfl D.cf_Number D.mk_Number G_Number_init (hr.mono (by decide)) hG (by rfl) D.gO_Number D.d_Number_init.bd .nil Dfl.nil tk (Z9 (f_ix (i_ix rfl) (Zb (pv 1)) f_int (fun _ _ => rfl)) (Z9 (f_ix (i_ix rfl) (Zb (pv 1)) f_int (fun _ _ => rfl)) Ze)) (Z0 (Z0 Za))) Ze)) (Z0 (Z0 Za)) (by rfl))
    (Zf (Vi (PW.pt (Z3n (Jg (V3 rfl (Zu rfl G__law_is (hr.mono (by decide)) hG (by rfl) D.d__law_is.gl D.d__law_is.fn.kp D.d__law_is.bd .nil Dfl.nil tk (Z9 (Ve (Q3 rfl D.oc_Number G_Number_eq (hr.mono (by decide)) hG D.d_Number_eq.bd) (Zb (pv 2)) (Zb (pv 3)) (nomark _)) (Z9 (Ve (o_eq hr.units rfl) (f_ix (i_ix rfl) (Zb (pv 0)) f_int (fun _ _ => rfl)) (f_ix (i_ix rfl) (Zb (pv 1)) f_int (fun _ _ => rfl)) (nomark _)) Ze)) (Z0 (Z0 Za))))) (Z0n (Jg (V3 rfl (Zu rfl G__law_is (hr.mono (by decide)) hG (by rfl) D.d__law_is.gl D.d__law_is.fn.kp D.d__law_is.bd .nil Dfl.nil tk (Z9 (Ve (Q3 rfl D.oc_Number G_Number_eq (hr.mono (by decide)) hG D.d_Number_eq.bd) (Zb (pv 3)) (Zb (pv 2)) (nomark _)) (Z9 (Ve (o_eq hr.units rfl) (f_ix (i_ix rfl) (Zb (pv 0)) f_int (fun _ _ => rfl)) (f_ix (i_ix rfl) (Zb (pv 1)) f_int (fun _ _ => rfl)) (nomark _)) Ze)) (Z0 (Z0 Za))))))))
      (Zj (Zt f_bl))
      Xp)
    (Zj (Zt (Zaf rfl (Zu rfl G__law_is (hr.mono (by decide)) hG (by rfl) D.d__law_is.gl D.d__law_is.fn.kp D.d__law_is.bd .nil Dfl.nil tk (Z9 (Zu rfl G_is_less (hr.mono (by decide)) hG (by rfl) D.d_is_less.gl D.d_is_less.fn.kp D.d_is_less.bd .nil Dfl.nil tk (Z9 (Zb (pv 2)) (Z9 (Zb (pv 3)) Ze)) (Z0 (Z0 Za))) (Z9 (Ve o_lt (f_ix (i_ix rfl) (Zb (pv 0)) f_int (fun _ _ => rfl)) (f_ix (i_ix rfl) (Zb (pv 1)) f_int (fun _ _ => rfl)) (nomark _)) Ze)) (Z0 (Z0 Za))) (Z4c (Zu rfl G__law_is (hr.mono (by decide)) hG (by rfl) D.d__law_is.gl D.d__law_is.fn.kp D.d__law_is.bd .nil Dfl.nil tk (Z9 (Zu rfl G_is_less (hr.mono (by decide)) hG (by rfl) D.d_is_less.gl D.d_is_less.fn.kp D.d_is_less.bd .nil Dfl.nil tk (Z9 (Zb (pv 3)) (Z9 (Zb (pv 2)) Ze)) (Z0 (Z0 Za))) (Z9 (Ve o_lt (f_ix (i_ix rfl) (Zb (pv 1)) f_int (fun _ _ => rfl)) (f_ix (i_ix rfl) (Zb (pv 0)) f_int (fun _ _ => rfl)) (nomark _)) Ze)) (Z0 (Z0 Za)))))))))
theorem Jz {P : Program} {w : World} {K : PySem.W.Frag} {mg : PySem.Str → Option Value} {base : Heap} {Z : Ad} (T : Tx K w mg) (D : Dz K mg Z) : FnG P w K mg base 9 Z.f__law_endless_right Z.d__law_endless_right Yo (spF K 1 Xn) := by
  have G_Number_eq : FnG P w K mg base 2 Z.f_Number_eq Z.d_Number_eq Vj (spF K 2 Zh) := Z1k T D
  have G_Number_figures : FnG P w K mg base 1 Z.f_Number_figures Z.d_Number_figures X5 (spF K 1 Zk) := Qs T D
  have G_Number_init : FnG P w K mg base 7 Z.f_Number_init Z.d_Number_init Yq (spF K 3 Zd) := Vu T D
  have G_Number_power : FnG P w K mg base 1 Z.f_Number_power Z.d_Number_power We (spF K 1 Xl) := Jy T D
  have G_Number_state : FnG P w K mg base 1 Z.f_Number_state Z.d_Number_state Wd (spF K 1 Xk) := Jx T D
  have G_is_less : FnG P w K mg base 3 Z.f_is_less Z.d_is_less Qm (spF K 2 Zv) := Z3f T D
  refine fnF D.d__law_endless_right.fn Y5 fun cdv A outer s H E hr hG => ?_
  have tk : Takes (cxOf (L2.CX P w) P w K mg base Wq "_law_endless_right" (defScope Zi) Z.f__law_endless_right cdv A outer s H E) (fun cls d _ H => E cls d H) := takes_of rfl rfl rfl rfl
  exact (Zf (Zco (i := 1) (j := 2) (l := 3) rfl Y5.nd rfl rfl rfl (by decide) (by decide) (by decide) rfl rfl rfl (Z9 (Np rfl D.cf_Number D.mk_Number G_Number_init (hr.mono (by decide)) hG (by rfl) D.gO_Number D.d_Number_init.bd .nil Dfl.nil tk (Z9 (f_ix (i_ix rfl) (Zb (pv 0)) f_int (fun _ _ => rfl)) (Z9 (f_ix (i_ix rfl) (Zb (pv 0)) f_int (fun _ _ => rfl)) Ze)) (Z0 (Z0 Za))) (Z9 (Np rfl D.cf_Number D.mk_Number G_Number_init (hr.mono (by decide)) hG (by rfl) D.gO_Number D.d_Number_init.bd .nil Dfl.nil tk (Z9 (Zo [33,33,102,108,111,97,116]) (Z9 (Zo [46,105,110,102]) Ze)) (Z0 (Z0 Za))) (Z9 (Zaq rfl D.cf_Number D.mk_Number G_Number_init (hr.mono (by decide)) hG (by rfl) D.gO_Number (Um D) (Zap (by decide) rfl) tk (Z90 (Zo [45,46,105,110,102]) (Z90 (Zo [33,33,102,108,111,97,116]) Zeq)) (Z4h (Z4h Zam)) rfl) Ze))) (Z0 (Z0 (Z0 Za))) (by rfl))
    (Zf (Ub (i := 4) Y5.nd rfl (Or.inl rfl) (Np rfl D.cf_Number D.mk_Number G_Number_init (hr.mono (by decide)) hG (by rfl) D.gO_Number D.d_Number_init.bd .nil Dfl.nil tk (Z9 (Zo [33,33,102,108,111,97,116]) (Z9 (Zo [46,110,97,110]) Ze)) (Z0 (Z0 Za))))
    (Zf (Vi (Ym (o_ne hr.units rfl) (Z16 (Z9 (Ve (Q3 rfl D.oc_Number G_Number_eq (hr.mono (by decide)) hG D.d_Number_eq.bd) (Zb (pv 1)) (Zb (pv 2)) (nomark _)) (Z9 (Ve (Q3 rfl D.oc_Number G_Number_eq (hr.mono (by decide)) hG D.d_Number_eq.bd) (Zb (pv 1)) (Zb (pv 3)) (nomark _)) (Z9 (Ve (Q3 rfl D.oc_Number G_Number_eq (hr.mono (by decide)) hG D.d_Number_eq.bd) (Zb (pv 1)) (Zb (pv 4)) (nomark _)) (Z9 (Ve (Q3 rfl D.oc_Number G_Number_eq (hr.mono (by decide)) hG D.d_Number_eq.bd) (Zb (pv 1)) (f_ix (i_ix rfl) (Zb (pv 0)) f_int (fun _ _ => rfl)) (nomark _)) (Z9 (Ve (Q3 rfl D.oc_Number G_Number_eq (hr.mono (by decide)) hG D.d_Number_eq.bd) (Zb (pv 1)) (f_ix (i_ix rfl) (Zb (pv 0)) f_int (fun _ _ => rfl)) (nomark _)) (Z9 (Ve (Q3 rfl D.oc_Number G_Number_eq (hr.mono (by decide)) hG D.d_Number_eq.bd) (Zb (pv 1)) Zci (nomark _)) (Z9 (Ve (Q3 rfl D.oc_Number G_Number_eq (hr.mono (by decide)) hG D.d_Number_eq.bd) (Zb (pv 2)) (Zb (pv 3)) (nomark _)) Ze))))))) (Z0 (Z0 (Z0 (Z0 (Z0 (Z0 (Z0 Za)))))))) (f_op Z3o (Z16 (Z9 f_bl Ze) (Z0 Za)) f_int) (nomark _))
      (Zj (Zt f_bl))
      Xp)
    (Zf (Vi (Ym (o_ne hr.units rfl) (Z16 (Z9 (Zu rfl G_is_less (hr.mono (by decide)) hG (by rfl) D.d_is_less.gl D.d_is_less.fn.kp D.d_is_less.bd .nil Dfl.nil tk (Z9 (Zb (pv 1)) (Z9 (Zb (pv 2)) Ze)) (Z0 (Z0 Za))) (Z9 (Zu rfl G_is_less (hr.mono (by decide)) hG (by rfl) D.d_is_less.gl D.d_is_less.fn.kp D.d_is_less.bd .nil Dfl.nil tk (Z9 (Zb (pv 3)) (Z9 (Zb (pv 1)) Ze)) (Z0 (Z0 Za))) (Z9 (Zu rfl G_is_less (hr.mono (by decide)) hG (by rfl) D.d_is_less.gl D.d_is_less.fn.kp D.d_is_less.bd .nil Dfl.nil tk (Z9 (Zb (pv 3)) (Z9 (Zb (pv 2)) Ze)) (Z0 (Z0 Za))) Ze))) (Z0 (Z0 (Z0 Za)))) (f_op Z3o (Z16 (Z9 f_bl Ze) (Z0 Za)) f_int) (nomark _))
      (Zj (Zt f_bl))
      Xp)
    (Zf (Vi (Ym (o_ne hr.units rfl) (Z16 (Z9 (Zu rfl G_is_less (hr.mono (by decide)) hG (by rfl) D.d_is_less.gl D.d_is_less.fn.kp D.d_is_less.bd .nil Dfl.nil tk (Z9 (Zb (pv 2)) (Z9 (Zb (pv 1)) Ze)) (Z0 (Z0 Za))) (Z9 (Zu rfl G_is_less (hr.mono (by decide)) hG (by rfl) D.d_is_less.gl D.d_is_less.fn.kp D.d_is_less.bd .nil Dfl.nil tk (Z9 (Zb (pv 1)) (Z9 (Zb (pv 3)) Ze)) (Z0 (Z0 Za))) (Z9 (Zu rfl G_is_less (hr.mono (by decide)) hG (by rfl) D.d_is_less.gl D.d_is_less.fn.kp D.d_is_less.bd .nil Dfl.nil tk (Z9 (Zb (pv 2)) (Z9 (Zb (pv 3)) Ze)) (Z0 (Z0 Za))) (Z9 (Zu rfl G_is_less (hr.mono (by decide)) hG (by rfl) D.d_is_less.gl D.d_is_less.fn.kp D.d_is_less.bd .nil Dfl.nil tk (Z9 (Zb (pv 2)) (Z9 (Zb (pv 2)) Ze)) (Z0 (Z0 Za))) Ze)))) (Z0 (Z0 (Z0 (Z0 Za))))) (f_op Z3o (Z16 (Z9 f_bl Ze) (Z0 Za)) f_int) (nomark _))
      (Zj (Zt f_bl))
      Xp)
    (Zf (Z33 (passes_of rfl) rfl (Z8x rfl (f_tup (Z9 (Zb (pv 1)) (Z9 (Zb (pv 2)) (Z9 (Zb (pv 3)) (Z9 (Zb (pv 4)) Ze)))) (Z0 (Z0 (Z0 (Z0 Za)))))) (Xc (i := 5) Y5.nd rfl (Or.inl rfl))
      (Zj (Vi (PW.pt (Z3n (V3 rfl (Zu rfl G_is_less (hr.mono (by decide)) hG (by rfl) D.d_is_less.gl D.d_is_less.fn.kp D.d_is_less.bd .nil Dfl.nil tk (Z9 (Zb (pv 4)) (Z9 (Zb (pv 5)) Ze)) (Z0 (Z0 Za)))) (Z0n (V3 rfl (Zu rfl G_is_less (hr.mono (by decide)) hG (by rfl) D.d_is_less.gl D.d_is_less.fn.kp D.d_is_less.bd .nil Dfl.nil tk (Z9 (Zb (pv 5)) (Z9 (Zb (pv 4)) Ze)) (Z0 (Z0 Za)))))))
        (Zj (Zt f_bl))
        Xp)))
    (Zf (Zak (i := 6) (own := [("_law_each", 7)]) (Zcu 7) (by decide) rfl Y5.nd rfl rfl (sw_true rfl rfl rfl (by decide +kernel)) (Z8x rfl (f_tup (Z9 (Zb (pv 2)) (Z9 (Zb (pv 3)) (Z9 (Zb (pv 4)) Ze))) (Z0 (Z0 (Z0 Za))))) (blkOk_by (N := Wq) (sc := defScope Zi) (by decide +kernel)) (fun _ _ _ _ _ => (pg_name (i := 7) Y5.nd rfl (Or.inl rfl))) (fun _ _ _ _ _ => Zcv) (fun _ _ _ _ _ => (f_tup (Z9 (Z36 rfl D.cf_Number D.pr_Number_state G_Number_state (hr.mono (by decide)) hG D.d_Number_state.bd (Zb (pv 7))) (Z9 (Z36 rfl D.cf_Number D.pr_Number_figures G_Number_figures (hr.mono (by decide)) hG D.d_Number_figures.bd (Zb (pv 7))) (Z9 (Z36 rfl D.cf_Number D.pr_Number_power G_Number_power (hr.mono (by decide)) hG D.d_Number_power.bd (Zb (pv 7))) Ze))) (Z0 (Z0 (Z0 Za))))))
    (Zj (Zt (Zaf rfl (Ve (o_eq hr.units rfl) (Zb (pv 6)) (Z16 (Z9 (f_tup (Z9 (Zo [105,110,102]) (Z9 f_int (Z9 f_int Ze))) (Z0 (Z0 (Z0 Za)))) (Z9 (f_tup (Z9 (Zo [105,110,102]) (Z9 (Z8y f_int) (Z9 f_int Ze))) (Z0 (Z0 (Z0 Za)))) (Z9 (f_tup (Z9 (Zo [110,97,110]) (Z9 f_int (Z9 f_int Ze))) (Z0 (Z0 (Z0 Za)))) Ze))) (Z0 (Z0 (Z0 Za)))) (nomark _)) (Z4c (Ve (Q3 rfl D.oc_Number G_Number_eq (hr.mono (by decide)) hG D.d_Number_eq.bd) (Zb (pv 4)) (Np rfl D.cf_Number D.mk_Number G_Number_init (hr.mono (by decide)) hG (by rfl) D.gO_Number D.d_Number_init.bd .nil Dfl.nil tk (Z9 (Zo [33,33,102,108,111,97,116]) (Z9 (Zo [46,110,97,110]) Ze)) (Z0 (Z0 Za))) (nomark _)))))))))))))
theorem Z0y {P : Program} {w : World} {K : PySem.W.Frag} {mg : PySem.Str → Option Value} {base : Heap} {Z : Ad} (T : Tx K w mg) (D : Dz K mg Z) : FnG P w K mg base 9 Z.f__law_is_refused Z.d__law_is_refused Xr (spF K 2 Xv) := by
  have G_Number_init : FnG P w K mg base 7 Z.f_Number_init Z.d_Number_init Yq (spF K 3 Zd) := Vu T D
  refine fnF D.d__law_is_refused.fn Ut fun cdv A outer s H E hr hG => ?_
  have tk : Takes (cxOf (L2.CX P w) P w K mg base Qo "_law_is_refused" (defScope Zr) Z.f__law_is_refused cdv A outer s H E) (fun cls d _ H => E cls d H) := takes_of rfl rfl rfl rfl
  exact (Zf (Z8w rfl rfl rfl Ut.nd (i := 2) rfl rfl ⟨rfl,by decide,.inl D.c_BadTag.gP⟩ D.c_BadTag.gN D.c_BadTag.eP tk (fun W2 pn xe tk2 pa2 => (Zj (Z8q (Np rfl D.cf_Number D.mk_Number G_Number_init (hr.mono (by decide)) hG (by rfl) D.gO_Number D.d_Number_init.bd .nil Dfl.nil tk2 (Z9 (Zb (pv 0)) (Z9 (Zb (pv 1)) Ze)) (Z0 (Z0 Za))))))
      (fun a oe cls d pn y hz hf hy hys => (Ve (o_eq hr.units rfl) (f_xf rfl hy D.c_BadTag.gN D.c_BadTag.xf D.c_BadTag.nf hz hf (pv 2)) f_int (nomark _))))
    (Zj (Zt f_bl)))
theorem Zez {P : Program} {w : World} {K : PySem.W.Frag} {mg : PySem.Str → Option Value} {base : Heap} {Z : Ad} (T : Tx K w mg) (D : Dz K mg Z) : FnG P w K mg base 10 Z.f_law Z.d_law Z96 (spF K 1 Z9a) := by
  have G__law_beside : FnG P w K mg base 2 Z.f__law_beside Z.d__law_beside Vb (spF K 1 Wm) := Z2w T D
  have G__law_drawn : FnG P w K mg base 3 Z.f__law_drawn Z.d__law_drawn Vy (spF K 1 Xw) := Z3x T D
  have G__law_endless_right : FnG P w K mg base 9 Z.f__law_endless_right Z.d__law_endless_right Yo (spF K 1 Xn) := Jz T D
  have G__law_is_refused : FnG P w K mg base 9 Z.f__law_is_refused Z.d__law_is_refused Xr (spF K 2 Xv) := Z0y T D
  have G__law_is_so : FnG P w K mg base 9 Z.f__law_is_so Z.d__law_is_so Vz (spF K 1 V6) := Z3y T D
  have G__law_one : FnG P w K mg base 2 Z.f__law_one Z.d__law_one U9 (spF K 2 Wf) := Z2j T D
  have G__law_pair_right : FnG P w K mg base 9 Z.f__law_pair_right Z.d__law_pair_right Xq (spF K 2 Xu) := Z0x T D
  have G__law_twin : FnG P w K mg base 2 Z.f__law_twin Z.d__law_twin Ui (spF K 1 W7) := Z54 T D
  have G__law_well : FnG P w K mg base 1 Z.f__law_well Z.d__law_well Uh (spF K 2 Vp) := Z53 T D
  refine fnF D.d_law.fn Z0u fun cdv A outer s H E hr hG => ?_
  have tk : Takes (cxOf (L2.CX P w) P w K mg base Zew "law" (defScope Z2r) Z.f_law cdv A outer s H E) (fun cls d _ H => E cls d H) := takes_of rfl rfl rfl rfl
  exact (Zf (Z33 (passes_of rfl) rfl (Z1z (by rfl) T.b_range (Z9 (U3 (c_max rfl) (by rfl) T.b_max (by decide +kernel) (Z9 f_int (Z9 (U3 (c_min rfl) (by rfl) T.b_min (by decide +kernel) (Z9 f_int (Z9 (U3 (Z7q rfl) (by rfl) T.b_len (by decide +kernel) (Z9 (Zb (pv 0)) Ze)) Ze))) Ze))) Ze) (Z0 Za)) (Xc (i := 1) Z0u.nd rfl (Or.inl rfl))
      (Zf (Ub (i := 2) Z0u.nd rfl (Or.inl rfl) (Zu rfl G__law_well (hr.mono (by decide)) hG (by rfl) D.d__law_well.gl D.d__law_well.fn.kp D.d__law_well.bd .nil Dfl.nil tk (Z9 (Zb (pv 0)) (Z9 (Zb (pv 1)) Ze)) (Z0 (Z0 Za))))
      (Zf (Z33 (passes_of rfl) rfl (Z1z (by rfl) T.b_range (Z9 f_int Ze) (Z0 Za)) (Xc (i := 3) Z0u.nd rfl (Or.inl rfl))
        (Zf (Z4d (i := 4) (j := 5) rfl Z0u.nd rfl rfl (by decide) rfl rfl (Z9 (Zu rfl G__law_drawn (hr.mono (by decide)) hG (by rfl) D.d__law_drawn.gl D.d__law_drawn.fn.kp D.d__law_drawn.bd .nil Dfl.nil tk (Z9 (Zb (pv 2)) Ze) (Z0 Za)) (Z9 (Zu rfl G__law_drawn (hr.mono (by decide)) hG (by rfl) D.d__law_drawn.gl D.d__law_drawn.fn.kp D.d__law_drawn.bd .nil Dfl.nil tk (Z9 (Zb (pv 2)) Ze) (Z0 Za)) Ze)) (Z0 (Z0 Za)) (by rfl))
        (Zf (Vi (PW.pt (Z3n (Jg (V3 rfl (Zu rfl G__law_is_so (hr.mono (by decide)) hG (by rfl) D.d__law_is_so.gl D.d__law_is_so.fn.kp D.d__law_is_so.bd .nil Dfl.nil tk (Z9 (Zb (pv 4)) Ze) (Z0 Za)))) (Z0n (Jg (V3 rfl (Zu rfl G__law_endless_right (hr.mono (by decide)) hG (by rfl) D.d__law_endless_right.gl D.d__law_endless_right.fn.kp D.d__law_endless_right.bd .nil Dfl.nil tk (Z9 (Zb (pv 4)) Ze) (Z0 Za)))))))
          (Zj (Zt f_bl))
          Xp)
        (Zj (Z33 (passes_of rfl) rfl (Z8x rfl (f_tup (Z9 (Zb (pv 4)) (Z9 (Zb (pv 5)) (Z9 (Zu rfl G__law_twin (hr.mono (by decide)) hG (by rfl) D.d__law_twin.gl D.d__law_twin.fn.kp D.d__law_twin.bd .nil Dfl.nil tk (Z9 (Zb (pv 4)) Ze) (Z0 Za)) (Z9 (Zu rfl G__law_beside (hr.mono (by decide)) hG (by rfl) D.d__law_beside.gl D.d__law_beside.fn.kp D.d__law_beside.bd .nil Dfl.nil tk (Z9 (Zb (pv 4)) Ze) (Z0 Za)) Ze)))) (Z0 (Z0 (Z0 (Z0 Za)))))) (Xc (i := 6) Z0u.nd rfl (Or.inl rfl))
          (Zj (Vi (Jg (V3 rfl (Zu rfl G__law_pair_right (hr.mono (by decide)) hG (by rfl) D.d__law_pair_right.gl D.d__law_pair_right.fn.kp D.d__law_pair_right.bd .nil Dfl.nil tk (Z9 (Zb (pv 4)) (Z9 (Zb (pv 6)) Ze)) (Z0 (Z0 Za)))))
            (Zj (Zt f_bl))
            Xp)))))))
      (Zf (Ub (i := 7) Z0u.nd rfl (Or.inl rfl) (Z16 (Z9 (f_tup (Z9 (Zo [33,33,105,110,116]) (Z9 (Zo [49,101,48]) Ze)) (Z0 (Z0 Za))) (Z9 (f_tup (Z9 (Zo [33,33,102,108,111,97,116]) (Z9 (Zo [49]) Ze)) (Z0 (Z0 Za))) (Z9 (f_tup (Z9 (Zo [33,33,115,116,114]) (Z9 (Zo [49]) Ze)) (Z0 (Z0 Za))) (Z9 (f_tup (Z9 (Zo [33,33,110,117,108,108]) (Z9 (Zo [110,117,108,108]) Ze)) (Z0 (Z0 Za))) (Z9 (f_tup (Z9 (Zo [33,120]) (Z9 (Zo [49]) Ze)) (Z0 (Z0 Za))) (Z9 (f_tup (Z9 Zci (Z9 (Zo [49]) Ze)) (Z0 (Z0 Za))) Ze)))))) (Z0 (Z0 (Z0 (Z0 (Z0 (Z0 Za))))))))
      (Zf (Nm (Zu rfl G__law_one (hr.mono (by decide)) hG (by rfl) D.d__law_one.gl D.d__law_one.fn.kp D.d__law_one.bd .nil Dfl.nil tk (Z9 (Zb (pv 2)) (Z9 (f_op (Qa rfl) (Zb (pv 7)) (Z16 (Z9 (f_tup (Z9 (Zo [33,33,105,110,116]) (Z9 (Zo [48,49]) Ze)) (Z0 (Z0 Za))) (Z9 (f_tup (Z9 (Zo [33,33,102,108,111,97,116]) (Z9 (Zo [49,48,101,48]) Ze)) (Z0 (Z0 Za))) (Z9 (f_tup (Z9 (Zo [33,33,105,110,116]) (Z9 f_int Ze)) (Z0 (Z0 Za))) (Z9 (f_tup (Z9 (Zo [33,33,102,108,111,97,116]) (Z9 Zci Ze)) (Z0 (Z0 Za))) Ze)))) (Z0 (Z0 (Z0 (Z0 Za)))))) Ze)) (Z0 (Z0 Za))) (Nk rfl rfl (Ye (Xc (i := 8) Z0u.nd rfl (Or.inl rfl)) (Ye (Xc (i := 9) Z0u.nd rfl (Or.inl rfl)) Uz))))
      (Zj (Vi (Jg (V3 rfl (Zu rfl G__law_is_refused (hr.mono (by decide)) hG (by rfl) D.d__law_is_refused.gl D.d__law_is_refused.fn.kp D.d__law_is_refused.bd .nil Dfl.nil tk (Z9 (Zb (pv 8)) (Z9 (Zb (pv 9)) Ze)) (Z0 (Z0 Za)))))
        (Zj (Zt f_bl))
        Xp)))))))
    (Zj (Zt f_bl)))
end
theorem Zf0 {l : PySem.W.OpenLaw} {w : World} {K : PySem.W.Frag} {h : Heap} {mg : Str → Option Value} {fa : Addr} (X : K.In h) (G : h.Ns mainGlobals mg) (hfa : mg "law" = some (.ref fa))
    {f0 T0 : Addr} {od0 an0 dT0 : Option Addr} {sl0 sT0 : Array (Option Value)} {iT0 : Array Value} {nT0 : Nat} {oc0 kV0 dc0 pm0 cd0 ct0 : Value}
    (l0 : K.lookup f0 = some ⟨oc0, od0, .func (PySem.W.fnOf "__init__" "NoSchema.__init__" (defArgs Zw) (defBody Zw) (defScope Zw) (.ref T0) kV0 dc0 pm0 an0 cd0 ct0), sl0⟩) (c0 : PySem.W.codeIn K cd0 "NoSchema.__init__" = true) (k0 : PySem.W.keepIn K (.ref f0) = true) (lT0 : K.lookup T0 = some ⟨.type "tuple", dT0, .seq iT0 nT0, sT0⟩) (vT0 : Vals [.non] iT0.toList)
    {f1 T1 : Addr} {od1 an1 dT1 : Option Addr} {sl1 sT1 : Array (Option Value)} {iT1 : Array Value} {nT1 : Nat} {oc1 kV1 dc1 pm1 cd1 ct1 : Value}
    (l1 : K.lookup f1 = some ⟨oc1, od1, .func (PySem.W.fnOf "__init__" "BadTag.__init__" (defArgs Yg) (defBody Yg) (defScope Yg) (.ref T1) kV1 dc1 pm1 an1 cd1 ct1), sl1⟩) (c1 : PySem.W.codeIn K cd1 "BadTag.__init__" = true) (k1 : PySem.W.keepIn K (.ref f1) = true) (lT1 : K.lookup T1 = some ⟨.type "tuple", dT1, .seq iT1 nT1, sT1⟩) (vT1 : Vals [.non] iT1.toList)
    {f2 : Addr} {od2 an2 : Option Addr} {sl2 : Array (Option Value)} {oc2 kV2 dc2 pm2 cd2 ct2 : Value}
    (l2 : K.lookup f2 = some ⟨oc2, od2, .func (PySem.W.fnOf "__init__" "Number.__init__" (defArgs Yj) (defBody Yj) (defScope Yj) .none kV2 dc2 pm2 an2 cd2 ct2), sl2⟩) (c2 : PySem.W.codeIn K cd2 "Number.__init__" = true) (k2 : PySem.W.keepIn K (.ref f2) = true)
    {f3 : Addr} {od3 an3 : Option Addr} {sl3 : Array (Option Value)} {oc3 kV3 dc3 pm3 cd3 ct3 : Value}
    (l3 : K.lookup f3 = some ⟨oc3, od3, .func (PySem.W.fnOf "state" "Number.state" (defArgs Y8) (defBody Y8) (defScope Y8) .none kV3 dc3 pm3 an3 cd3 ct3), sl3⟩) (c3 : PySem.W.codeIn K cd3 "Number.state" = true) (k3 : PySem.W.keepIn K (.ref f3) = true)
    {f4 : Addr} {od4 an4 : Option Addr} {sl4 : Array (Option Value)} {oc4 kV4 dc4 pm4 cd4 ct4 : Value}
    (l4 : K.lookup f4 = some ⟨oc4, od4, .func (PySem.W.fnOf "figures" "Number.figures" (defArgs Zx) (defBody Zx) (defScope Zx) .none kV4 dc4 pm4 an4 cd4 ct4), sl4⟩) (c4 : PySem.W.codeIn K cd4 "Number.figures" = true) (k4 : PySem.W.keepIn K (.ref f4) = true)
    {f5 : Addr} {od5 an5 : Option Addr} {sl5 : Array (Option Value)} {oc5 kV5 dc5 pm5 cd5 ct5 : Value}
    (l5 : K.lookup f5 = some ⟨oc5, od5, .func (PySem.W.fnOf "power" "Number.power" (defArgs Y9) (defBody Y9) (defScope Y9) .none kV5 dc5 pm5 an5 cd5 ct5), sl5⟩) (c5 : PySem.W.codeIn K cd5 "Number.power" = true) (k5 : PySem.W.keepIn K (.ref f5) = true)
    {f6 : Addr} {od6 an6 : Option Addr} {sl6 : Array (Option Value)} {oc6 kV6 dc6 pm6 cd6 ct6 : Value}
    (l6 : K.lookup f6 = some ⟨oc6, od6, .func (PySem.W.fnOf "__eq__" "Number.__eq__" (defArgs Xd) (defBody Xd) (defScope Xd) .none kV6 dc6 pm6 an6 cd6 ct6), sl6⟩) (c6 : PySem.W.codeIn K cd6 "Number.__eq__" = true) (k6 : PySem.W.keepIn K (.ref f6) = true)
    {f7 : Addr} {od7 an7 : Option Addr} {sl7 : Array (Option Value)} {oc7 kV7 dc7 pm7 cd7 ct7 : Value}
    (l7 : K.lookup f7 = some ⟨oc7, od7, .func (PySem.W.fnOf "all_parts" "Number.all_parts" (defArgs Zm) (defBody Zm) (defScope Zm) .none kV7 dc7 pm7 an7 cd7 ct7), sl7⟩) (c7 : PySem.W.codeIn K cd7 "Number.all_parts" = true) (k7 : PySem.W.keepIn K (.ref f7) = true)
    {f8 : Addr} {od8 an8 : Option Addr} {sl8 : Array (Option Value)} {oc8 kV8 dc8 pm8 cd8 ct8 : Value}
    (l8 : K.lookup f8 = some ⟨oc8, od8, .func (PySem.W.fnOf "rank" "Number.rank" (defArgs Yk) (defBody Yk) (defScope Yk) .none kV8 dc8 pm8 an8 cd8 ct8), sl8⟩) (c8 : PySem.W.codeIn K cd8 "Number.rank" = true) (k8 : PySem.W.keepIn K (.ref f8) = true)
    {f9 : Addr} {od9 an9 : Option Addr} {sl9 : Array (Option Value)} {oc9 kV9 dc9 pm9 cd9 ct9 : Value}
    (l9 : K.lookup f9 = some ⟨oc9, od9, .func (PySem.W.fnOf "reach" "Number.reach" (defArgs Yb) (defBody Yb) (defScope Yb) .none kV9 dc9 pm9 an9 cd9 ct9), sl9⟩) (c9 : PySem.W.codeIn K cd9 "Number.reach" = true) (k9 : PySem.W.keepIn K (.ref f9) = true)
    {f10 : Addr} {od10 an10 : Option Addr} {sl10 : Array (Option Value)} {oc10 kV10 dc10 pm10 cd10 ct10 : Value}
    (a10 : PySem.W.nsIn K mainGlobals "are_signs" = some (some (.ref f10))) (l10 : K.lookup f10 = some ⟨oc10, od10, .func (PySem.W.fnOf "are_signs" "are_signs" (defArgs Xe) (defBody Xe) (defScope Xe) .none kV10 dc10 pm10 an10 cd10 ct10), sl10⟩) (c10 : PySem.W.codeIn K cd10 "are_signs" = true) (k10 : PySem.W.keepIn K (.ref f10) = true)
    {f11 : Addr} {od11 an11 : Option Addr} {sl11 : Array (Option Value)} {oc11 kV11 dc11 pm11 cd11 ct11 : Value}
    (a11 : PySem.W.nsIn K mainGlobals "unsigned" = some (some (.ref f11))) (l11 : K.lookup f11 = some ⟨oc11, od11, .func (PySem.W.fnOf "unsigned" "unsigned" (defArgs Wi) (defBody Wi) (defScope Wi) .none kV11 dc11 pm11 an11 cd11 ct11), sl11⟩) (c11 : PySem.W.codeIn K cd11 "unsigned" = true) (k11 : PySem.W.keepIn K (.ref f11) = true)
    {f12 : Addr} {od12 an12 : Option Addr} {sl12 : Array (Option Value)} {oc12 kV12 dc12 pm12 cd12 ct12 : Value}
    (a12 : PySem.W.nsIn K mainGlobals "whole_by" = some (some (.ref f12))) (l12 : K.lookup f12 = some ⟨oc12, od12, .func (PySem.W.fnOf "whole_by" "whole_by" (defArgs Wj) (defBody Wj) (defScope Wj) .none kV12 dc12 pm12 an12 cd12 ct12), sl12⟩) (c12 : PySem.W.codeIn K cd12 "whole_by" = true) (k12 : PySem.W.keepIn K (.ref f12) = true)
    {f13 : Addr} {od13 an13 : Option Addr} {sl13 : Array (Option Value)} {oc13 kV13 dc13 pm13 cd13 ct13 : Value}
    (a13 : PySem.W.nsIn K mainGlobals "whole_in" = some (some (.ref f13))) (l13 : K.lookup f13 = some ⟨oc13, od13, .func (PySem.W.fnOf "whole_in" "whole_in" (defArgs Wk) (defBody Wk) (defScope Wk) .none kV13 dc13 pm13 an13 cd13 ct13), sl13⟩) (c13 : PySem.W.codeIn K cd13 "whole_in" = true) (k13 : PySem.W.keepIn K (.ref f13) = true)
    {f14 : Addr} {od14 an14 : Option Addr} {sl14 : Array (Option Value)} {oc14 kV14 dc14 pm14 cd14 ct14 : Value}
    (a14 : PySem.W.nsIn K mainGlobals "bare_in" = some (some (.ref f14))) (l14 : K.lookup f14 = some ⟨oc14, od14, .func (PySem.W.fnOf "bare_in" "bare_in" (defArgs V8) (defBody V8) (defScope V8) .none kV14 dc14 pm14 an14 cd14 ct14), sl14⟩) (c14 : PySem.W.codeIn K cd14 "bare_in" = true) (k14 : PySem.W.keepIn K (.ref f14) = true)
    {f15 : Addr} {od15 an15 : Option Addr} {sl15 : Array (Option Value)} {oc15 kV15 dc15 pm15 cd15 ct15 : Value}
    (a15 : PySem.W.nsIn K mainGlobals "decimal_in" = some (some (.ref f15))) (l15 : K.lookup f15 = some ⟨oc15, od15, .func (PySem.W.fnOf "decimal_in" "decimal_in" (defArgs X8) (defBody X8) (defScope X8) .none kV15 dc15 pm15 an15 cd15 ct15), sl15⟩) (c15 : PySem.W.codeIn K cd15 "decimal_in" = true) (k15 : PySem.W.keepIn K (.ref f15) = true)
    {f16 : Addr} {od16 an16 : Option Addr} {sl16 : Array (Option Value)} {oc16 kV16 dc16 pm16 cd16 ct16 : Value}
    (a16 : PySem.W.nsIn K mainGlobals "float_in" = some (some (.ref f16))) (l16 : K.lookup f16 = some ⟨oc16, od16, .func (PySem.W.fnOf "float_in" "float_in" (defArgs Wl) (defBody Wl) (defScope Wl) .none kV16 dc16 pm16 an16 cd16 ct16), sl16⟩) (c16 : PySem.W.codeIn K cd16 "float_in" = true) (k16 : PySem.W.keepIn K (.ref f16) = true)
    {f17 : Addr} {od17 an17 : Option Addr} {sl17 : Array (Option Value)} {oc17 kV17 dc17 pm17 cd17 ct17 : Value}
    (a17 : PySem.W.nsIn K mainGlobals "canonical" = some (some (.ref f17))) (l17 : K.lookup f17 = some ⟨oc17, od17, .func (PySem.W.fnOf "canonical" "canonical" (defArgs Xx) (defBody Xx) (defScope Xx) .none kV17 dc17 pm17 an17 cd17 ct17), sl17⟩) (c17 : PySem.W.codeIn K cd17 "canonical" = true) (k17 : PySem.W.keepIn K (.ref f17) = true)
    {f18 : Addr} {od18 an18 : Option Addr} {sl18 : Array (Option Value)} {oc18 kV18 dc18 pm18 cd18 ct18 : Value}
    (a18 : PySem.W.nsIn K mainGlobals "check_schema" = some (some (.ref f18))) (l18 : K.lookup f18 = some ⟨oc18, od18, .func (PySem.W.fnOf "check_schema" "check_schema" (defArgs Yc) (defBody Yc) (defScope Yc) .none kV18 dc18 pm18 an18 cd18 ct18), sl18⟩) (c18 : PySem.W.codeIn K cd18 "check_schema" = true) (k18 : PySem.W.keepIn K (.ref f18) = true)
    {f19 : Addr} {od19 an19 : Option Addr} {sl19 : Array (Option Value)} {oc19 kV19 dc19 pm19 cd19 ct19 : Value}
    (a19 : PySem.W.nsIn K mainGlobals "is_tag" = some (some (.ref f19))) (l19 : K.lookup f19 = some ⟨oc19, od19, .func (PySem.W.fnOf "is_tag" "is_tag" (defArgs Vr) (defBody Vr) (defScope Vr) .none kV19 dc19 pm19 an19 cd19 ct19), sl19⟩) (c19 : PySem.W.codeIn K cd19 "is_tag" = true) (k19 : PySem.W.keepIn K (.ref f19) = true)
    {f20 : Addr} {od20 an20 : Option Addr} {sl20 : Array (Option Value)} {oc20 kV20 dc20 pm20 cd20 ct20 : Value}
    (a20 : PySem.W.nsIn K mainGlobals "may_stand" = some (some (.ref f20))) (l20 : K.lookup f20 = some ⟨oc20, od20, .func (PySem.W.fnOf "may_stand" "may_stand" (defArgs Xf) (defBody Xf) (defScope Xf) .none kV20 dc20 pm20 an20 cd20 ct20), sl20⟩) (c20 : PySem.W.codeIn K cd20 "may_stand" = true) (k20 : PySem.W.keepIn K (.ref f20) = true)
    {f21 : Addr} {od21 an21 : Option Addr} {sl21 : Array (Option Value)} {oc21 kV21 dc21 pm21 cd21 ct21 : Value}
    (a21 : PySem.W.nsIn K mainGlobals "tag_fits" = some (some (.ref f21))) (l21 : K.lookup f21 = some ⟨oc21, od21, .func (PySem.W.fnOf "tag_fits" "tag_fits" (defArgs W8) (defBody W8) (defScope W8) .none kV21 dc21 pm21 an21 cd21 ct21), sl21⟩) (c21 : PySem.W.codeIn K cd21 "tag_fits" = true) (k21 : PySem.W.keepIn K (.ref f21) = true)
    {f22 : Addr} {od22 an22 : Option Addr} {sl22 : Array (Option Value)} {oc22 kV22 dc22 pm22 cd22 ct22 : Value}
    (a22 : PySem.W.nsIn K mainGlobals "parts_of" = some (some (.ref f22))) (l22 : K.lookup f22 = some ⟨oc22, od22, .func (PySem.W.fnOf "parts_of" "parts_of" (defArgs W9) (defBody W9) (defScope W9) .none kV22 dc22 pm22 an22 cd22 ct22), sl22⟩) (c22 : PySem.W.codeIn K cd22 "parts_of" = true) (k22 : PySem.W.keepIn K (.ref f22) = true)
    {f23 : Addr} {od23 an23 : Option Addr} {sl23 : Array (Option Value)} {oc23 kV23 dc23 pm23 cd23 ct23 : Value}
    (a23 : PySem.W.nsIn K mainGlobals "is_nearer" = some (some (.ref f23))) (l23 : K.lookup f23 = some ⟨oc23, od23, .func (PySem.W.fnOf "is_nearer" "is_nearer" (defArgs Xg) (defBody Xg) (defScope Xg) .none kV23 dc23 pm23 an23 cd23 ct23), sl23⟩) (c23 : PySem.W.codeIn K cd23 "is_nearer" = true) (k23 : PySem.W.keepIn K (.ref f23) = true)
    {f24 : Addr} {od24 an24 : Option Addr} {sl24 : Array (Option Value)} {oc24 kV24 dc24 pm24 cd24 ct24 : Value}
    (a24 : PySem.W.nsIn K mainGlobals "is_less" = some (some (.ref f24))) (l24 : K.lookup f24 = some ⟨oc24, od24, .func (PySem.W.fnOf "is_less" "is_less" (defArgs Wr) (defBody Wr) (defScope Wr) .none kV24 dc24 pm24 an24 cd24 ct24), sl24⟩) (c24 : PySem.W.codeIn K cd24 "is_less" = true) (k24 : PySem.W.keepIn K (.ref f24) = true)
    {f25 : Addr} {od25 an25 : Option Addr} {sl25 : Array (Option Value)} {oc25 kV25 dc25 pm25 cd25 ct25 : Value}
    (a25 : PySem.W.nsIn K mainGlobals "_law_draw" = some (some (.ref f25))) (l25 : K.lookup f25 = some ⟨oc25, od25, .func (PySem.W.fnOf "_law_draw" "_law_draw" (defArgs Xh) (defBody Xh) (defScope Xh) .none kV25 dc25 pm25 an25 cd25 ct25), sl25⟩) (c25 : PySem.W.codeIn K cd25 "_law_draw" = true) (k25 : PySem.W.keepIn K (.ref f25) = true)
    {f26 : Addr} {od26 an26 : Option Addr} {sl26 : Array (Option Value)} {oc26 kV26 dc26 pm26 cd26 ct26 : Value}
    (a26 : PySem.W.nsIn K mainGlobals "_law_one" = some (some (.ref f26))) (l26 : K.lookup f26 = some ⟨oc26, od26, .func (PySem.W.fnOf "_law_one" "_law_one" (defArgs Wb) (defBody Wb) (defScope Wb) .none kV26 dc26 pm26 an26 cd26 ct26), sl26⟩) (c26 : PySem.W.codeIn K cd26 "_law_one" = true) (k26 : PySem.W.keepIn K (.ref f26) = true)
    {f27 : Addr} {od27 an27 : Option Addr} {sl27 : Array (Option Value)} {oc27 kV27 dc27 pm27 cd27 ct27 : Value}
    (a27 : PySem.W.nsIn K mainGlobals "_law_well" = some (some (.ref f27))) (l27 : K.lookup f27 = some ⟨oc27, od27, .func (PySem.W.fnOf "_law_well" "_law_well" (defArgs Xi) (defBody Xi) (defScope Xi) .none kV27 dc27 pm27 an27 cd27 ct27), sl27⟩) (c27 : PySem.W.codeIn K cd27 "_law_well" = true) (k27 : PySem.W.keepIn K (.ref f27) = true)
    {f28 : Addr} {od28 an28 : Option Addr} {sl28 : Array (Option Value)} {oc28 kV28 dc28 pm28 cd28 ct28 : Value}
    (a28 : PySem.W.nsIn K mainGlobals "_law_trimmed" = some (some (.ref f28))) (l28 : K.lookup f28 = some ⟨oc28, od28, .func (PySem.W.fnOf "_law_trimmed" "_law_trimmed" (defArgs Yd) (defBody Yd) (defScope Yd) .none kV28 dc28 pm28 an28 cd28 ct28), sl28⟩) (c28 : PySem.W.codeIn K cd28 "_law_trimmed" = true) (k28 : PySem.W.keepIn K (.ref f28) = true)
    {f29 : Addr} {od29 an29 : Option Addr} {sl29 : Array (Option Value)} {oc29 kV29 dc29 pm29 cd29 ct29 : Value}
    (a29 : PySem.W.nsIn K mainGlobals "_law_drawn" = some (some (.ref f29))) (l29 : K.lookup f29 = some ⟨oc29, od29, .func (PySem.W.fnOf "_law_drawn" "_law_drawn" (defArgs Yr) (defBody Yr) (defScope Yr) .none kV29 dc29 pm29 an29 cd29 ct29), sl29⟩) (c29 : PySem.W.codeIn K cd29 "_law_drawn" = true) (k29 : PySem.W.keepIn K (.ref f29) = true)
    {f30 : Addr} {od30 an30 : Option Addr} {sl30 : Array (Option Value)} {oc30 kV30 dc30 pm30 cd30 ct30 : Value}
    (a30 : PySem.W.nsIn K mainGlobals "_law_twin" = some (some (.ref f30))) (l30 : K.lookup f30 = some ⟨oc30, od30, .func (PySem.W.fnOf "_law_twin" "_law_twin" (defArgs Xj) (defBody Xj) (defScope Xj) .none kV30 dc30 pm30 an30 cd30 ct30), sl30⟩) (c30 : PySem.W.codeIn K cd30 "_law_twin" = true) (k30 : PySem.W.keepIn K (.ref f30) = true)
    {f31 : Addr} {od31 an31 : Option Addr} {sl31 : Array (Option Value)} {oc31 kV31 dc31 pm31 cd31 ct31 : Value}
    (a31 : PySem.W.nsIn K mainGlobals "_law_beside" = some (some (.ref f31))) (l31 : K.lookup f31 = some ⟨oc31, od31, .func (PySem.W.fnOf "_law_beside" "_law_beside" (defArgs Yl) (defBody Yl) (defScope Yl) .none kV31 dc31 pm31 an31 cd31 ct31), sl31⟩) (c31 : PySem.W.codeIn K cd31 "_law_beside" = true) (k31 : PySem.W.keepIn K (.ref f31) = true)
    {f32 : Addr} {od32 an32 : Option Addr} {sl32 : Array (Option Value)} {oc32 kV32 dc32 pm32 cd32 ct32 : Value}
    (a32 : PySem.W.nsIn K mainGlobals "_law_is_so" = some (some (.ref f32))) (l32 : K.lookup f32 = some ⟨oc32, od32, .func (PySem.W.fnOf "_law_is_so" "_law_is_so" (defArgs Ys) (defBody Ys) (defScope Ys) .none kV32 dc32 pm32 an32 cd32 ct32), sl32⟩) (c32 : PySem.W.codeIn K cd32 "_law_is_so" = true) (k32 : PySem.W.keepIn K (.ref f32) = true)
    {f33 : Addr} {od33 an33 : Option Addr} {sl33 : Array (Option Value)} {oc33 kV33 dc33 pm33 cd33 ct33 : Value}
    (a33 : PySem.W.nsIn K mainGlobals "_law_is" = some (some (.ref f33))) (l33 : K.lookup f33 = some ⟨oc33, od33, .func (PySem.W.fnOf "_law_is" "_law_is" (defArgs Ws) (defBody Ws) (defScope Ws) .none kV33 dc33 pm33 an33 cd33 ct33), sl33⟩) (c33 : PySem.W.codeIn K cd33 "_law_is" = true) (k33 : PySem.W.keepIn K (.ref f33) = true)
    {f34 : Addr} {od34 an34 : Option Addr} {sl34 : Array (Option Value)} {oc34 kV34 dc34 pm34 cd34 ct34 : Value}
    (a34 : PySem.W.nsIn K mainGlobals "_law_pair_right" = some (some (.ref f34))) (l34 : K.lookup f34 = some ⟨oc34, od34, .func (PySem.W.fnOf "_law_pair_right" "_law_pair_right" (defArgs Zq) (defBody Zq) (defScope Zq) .none kV34 dc34 pm34 an34 cd34 ct34), sl34⟩) (c34 : PySem.W.codeIn K cd34 "_law_pair_right" = true) (k34 : PySem.W.keepIn K (.ref f34) = true)
    {f35 : Addr} {od35 an35 : Option Addr} {sl35 : Array (Option Value)} {oc35 kV35 dc35 pm35 cd35 ct35 : Value}
    (a35 : PySem.W.nsIn K mainGlobals "_law_endless_right" = some (some (.ref f35))) (l35 : K.lookup f35 = some ⟨oc35, od35, .func (PySem.W.fnOf "_law_endless_right" "_law_endless_right" (defArgs Zi) (defBody Zi) (defScope Zi) .none kV35 dc35 pm35 an35 cd35 ct35), sl35⟩) (c35 : PySem.W.codeIn K cd35 "_law_endless_right" = true) (k35 : PySem.W.keepIn K (.ref f35) = true)
    {f36 : Addr} {od36 an36 : Option Addr} {sl36 : Array (Option Value)} {oc36 kV36 dc36 pm36 cd36 ct36 : Value}
    (a36 : PySem.W.nsIn K mainGlobals "_law_is_refused" = some (some (.ref f36))) (l36 : K.lookup f36 = some ⟨oc36, od36, .func (PySem.W.fnOf "_law_is_refused" "_law_is_refused" (defArgs Zr) (defBody Zr) (defScope Zr) .none kV36 dc36 pm36 an36 cd36 ct36), sl36⟩) (c36 : PySem.W.codeIn K cd36 "_law_is_refused" = true) (k36 : PySem.W.keepIn K (.ref f36) = true)
    {f37 : Addr} {od37 an37 : Option Addr} {sl37 : Array (Option Value)} {oc37 kV37 dc37 pm37 cd37 ct37 : Value}
    (a37 : PySem.W.nsIn K mainGlobals "law" = some (some (.ref f37))) (l37 : K.lookup f37 = some ⟨oc37, od37, .func (PySem.W.fnOf "law" "law" (defArgs Z2r) (defBody Z2r) (defScope Z2r) .none kV37 dc37 pm37 an37 cd37 ct37), sl37⟩) (c37 : PySem.W.codeIn K cd37 "law" = true) (k37 : PySem.W.keepIn K (.ref f37) = true)
    {CB : Addr} (gB : PySem.W.nsIn K mainGlobals "PageError" = some (some (.ref CB))) (bB1 : PySem.W.specialIn K (.ref CB) "__getattribute__" = some (some (.builtin "type.__getattribute__"))) (bB2 : PySem.W.readsIn K CB (.type "type") = true) (bB3 : PySem.W.findCls K (.ref CB) (.type "type") "__init__" = some (.val (.builtin "ValueError.__init__")))
    {C_NoSchema N_NoSchema : Addr} {nm_NoSchema q_NoSchema : Str} {bs_NoSchema bm_NoSchema sub_NoSchema : List Value} {sn_NoSchema : List Str} {ab_NoSchema : Bool} {col_NoSchema : Option Bool} {dd_NoSchema : Option Addr} {k0_NoSchema k1_NoSchema k2_NoSchema k3_NoSchema k5_NoSchema : Option Value}
    (gX_NoSchema : PySem.W.nsIn K mainGlobals "NoSchema" = some (some (.ref C_NoSchema))) (lX_NoSchema : K.lookup C_NoSchema = some (excClassObj nm_NoSchema q_NoSchema C_NoSchema N_NoSchema bs_NoSchema bm_NoSchema true sn_NoSchema sub_NoSchema ab_NoSchema col_NoSchema dd_NoSchema k0_NoSchema k1_NoSchema k2_NoSchema k3_NoSchema k5_NoSchema "ValueError.__new__")) (rX_NoSchema : PySem.HandSPX.refsVE bm_NoSchema = true)
    (s1X_NoSchema : PySem.W.findIn K (.ref C_NoSchema) "__setattr__" = some (some (.builtin "object.__setattr__"))) (bX_NoSchema : PySem.W.subIn K (.ref C_NoSchema) (.type "BaseException") = some true) (tX_NoSchema : PySem.W.typeIn K (.ref C_NoSchema) = some (.type "type")) (kX_NoSchema : PySem.W.keepIn K (.ref C_NoSchema) = true) (iX_NoSchema : PySem.W.findIn K (.ref C_NoSchema) "__init__" = some (some (.ref f0))) (fX_NoSchema : PySem.W.typeIn K (.ref f0) = some (.type "function")) (nX_NoSchema : PySem.W.findIn K (.ref C_NoSchema) "schema" = some none) (xX_NoSchema : xfB K C_NoSchema = true) (jX_NoSchema : PySem.W.isClsIn K C_NoSchema = true) (sX_NoSchema : PySem.W.subIn K (.ref C_NoSchema) (.ref C_NoSchema) = some true) (v1X_NoSchema : PySem.W.kitOne K (.ref C_NoSchema) (.type "ValueError") = some true) (v2X_NoSchema : PySem.W.kitOne K (.ref C_NoSchema) (.ref CB) = some true)
    (c1X_NoSchema : PySem.W.findIn K (.ref C_NoSchema) "__class__" = some (some (.builtin "object.__class__"))) (c2X_NoSchema : PySem.W.specialIn K (.builtin "object.__class__") "__get__" = some (some (.builtin "getset_descriptor.__get__"))) (c3X_NoSchema : PySem.W.takesIn K (.builtin "object.__class__") = some true) (c4X_NoSchema : PySem.W.mroIn K C_NoSchema (.type "object") = some true)
    {C_BadTag N_BadTag : Addr} {nm_BadTag q_BadTag : Str} {bs_BadTag bm_BadTag sub_BadTag : List Value} {sn_BadTag : List Str} {ab_BadTag : Bool} {col_BadTag : Option Bool} {dd_BadTag : Option Addr} {k0_BadTag k1_BadTag k2_BadTag k3_BadTag k5_BadTag : Option Value}
    (gX_BadTag : PySem.W.nsIn K mainGlobals "BadTag" = some (some (.ref C_BadTag))) (lX_BadTag : K.lookup C_BadTag = some (excClassObj nm_BadTag q_BadTag C_BadTag N_BadTag bs_BadTag bm_BadTag true sn_BadTag sub_BadTag ab_BadTag col_BadTag dd_BadTag k0_BadTag k1_BadTag k2_BadTag k3_BadTag k5_BadTag "ValueError.__new__")) (rX_BadTag : PySem.HandSPX.refsVE bm_BadTag = true)
    (s1X_BadTag : PySem.W.findIn K (.ref C_BadTag) "__setattr__" = some (some (.builtin "object.__setattr__"))) (bX_BadTag : PySem.W.subIn K (.ref C_BadTag) (.type "BaseException") = some true) (tX_BadTag : PySem.W.typeIn K (.ref C_BadTag) = some (.type "type")) (kX_BadTag : PySem.W.keepIn K (.ref C_BadTag) = true) (iX_BadTag : PySem.W.findIn K (.ref C_BadTag) "__init__" = some (some (.ref f1))) (fX_BadTag : PySem.W.typeIn K (.ref f1) = some (.type "function")) (nX_BadTag : PySem.W.findIn K (.ref C_BadTag) "place" = some none) (xX_BadTag : xfB K C_BadTag = true) (jX_BadTag : PySem.W.isClsIn K C_BadTag = true) (sX_BadTag : PySem.W.subIn K (.ref C_BadTag) (.ref C_BadTag) = some true) (v1X_BadTag : PySem.W.kitOne K (.ref C_BadTag) (.type "ValueError") = some true) (v2X_BadTag : PySem.W.kitOne K (.ref C_BadTag) (.ref CB) = some true)
    (c1X_BadTag : PySem.W.findIn K (.ref C_BadTag) "__class__" = some (some (.builtin "object.__class__"))) (c2X_BadTag : PySem.W.specialIn K (.builtin "object.__class__") "__get__" = some (some (.builtin "getset_descriptor.__get__"))) (c3X_BadTag : PySem.W.takesIn K (.builtin "object.__class__") = some true) (c4X_BadTag : PySem.W.mroIn K C_BadTag (.type "object") = some true)
    {t_FIGURES : Tok} (g_FIGURES : PySem.W.nsIn K mainGlobals "FIGURES" = some (some (.str (S Uc) t_FIGURES)))
    {t_TAG_SIGNS : Tok} (g_TAG_SIGNS : PySem.W.nsIn K mainGlobals "TAG_SIGNS" = some (some (.str (S Z05) t_TAG_SIGNS)))
    {a_SCHEMAS : Addr} {dd_SCHEMAS : Option Addr} {i_SCHEMAS : Array Value} {n_SCHEMAS : Nat} {sl_SCHEMAS : Array (Option Value)} (g_SCHEMAS : PySem.W.nsIn K mainGlobals "SCHEMAS" = some (some (.ref a_SCHEMAS))) (l_SCHEMAS : K.lookup a_SCHEMAS = some ⟨.type "tuple", dd_SCHEMAS, .seq i_SCHEMAS n_SCHEMAS, sl_SCHEMAS⟩) (v_SCHEMAS : Vals Z20 i_SCHEMAS.toList) (z_SCHEMAS : i_SCHEMAS.size ≤ sizeLine)
    {a_NULLS : Addr} {dd_NULLS : Option Addr} {i_NULLS : Array Value} {n_NULLS : Nat} {sl_NULLS : Array (Option Value)} (g_NULLS : PySem.W.nsIn K mainGlobals "NULLS" = some (some (.ref a_NULLS))) (l_NULLS : K.lookup a_NULLS = some ⟨.type "tuple", dd_NULLS, .seq i_NULLS n_NULLS, sl_NULLS⟩) (v_NULLS : Vals Z93 i_NULLS.toList) (z_NULLS : i_NULLS.size ≤ sizeLine)
    {a_TRUTHS : Addr} {dd_TRUTHS : Option Addr} {i_TRUTHS : Array Value} {n_TRUTHS : Nat} {sl_TRUTHS : Array (Option Value)} (g_TRUTHS : PySem.W.nsIn K mainGlobals "TRUTHS" = some (some (.ref a_TRUTHS))) (l_TRUTHS : K.lookup a_TRUTHS = some ⟨.type "tuple", dd_TRUTHS, .seq i_TRUTHS n_TRUTHS, sl_TRUTHS⟩) (v_TRUTHS : Vals Z70 i_TRUTHS.toList) (z_TRUTHS : i_TRUTHS.size ≤ sizeLine)
    {a_UNTRUTHS : Addr} {dd_UNTRUTHS : Option Addr} {i_UNTRUTHS : Array Value} {n_UNTRUTHS : Nat} {sl_UNTRUTHS : Array (Option Value)} (g_UNTRUTHS : PySem.W.nsIn K mainGlobals "UNTRUTHS" = some (some (.ref a_UNTRUTHS))) (l_UNTRUTHS : K.lookup a_UNTRUTHS = some ⟨.type "tuple", dd_UNTRUTHS, .seq i_UNTRUTHS n_UNTRUTHS, sl_UNTRUTHS⟩) (v_UNTRUTHS : Vals Z37 i_UNTRUTHS.toList) (z_UNTRUTHS : i_UNTRUTHS.size ≤ sizeLine)
    {a_ENDLESS : Addr} {dd_ENDLESS : Option Addr} {i_ENDLESS : Array Value} {n_ENDLESS : Nat} {sl_ENDLESS : Array (Option Value)} (g_ENDLESS : PySem.W.nsIn K mainGlobals "ENDLESS" = some (some (.ref a_ENDLESS))) (l_ENDLESS : K.lookup a_ENDLESS = some ⟨.type "tuple", dd_ENDLESS, .seq i_ENDLESS n_ENDLESS, sl_ENDLESS⟩) (v_ENDLESS : Vals Z4l i_ENDLESS.toList) (z_ENDLESS : i_ENDLESS.size ≤ sizeLine)
    {a_NO_NUMBERS : Addr} {dd_NO_NUMBERS : Option Addr} {i_NO_NUMBERS : Array Value} {n_NO_NUMBERS : Nat} {sl_NO_NUMBERS : Array (Option Value)} (g_NO_NUMBERS : PySem.W.nsIn K mainGlobals "NO_NUMBERS" = some (some (.ref a_NO_NUMBERS))) (l_NO_NUMBERS : K.lookup a_NO_NUMBERS = some ⟨.type "tuple", dd_NO_NUMBERS, .seq i_NO_NUMBERS n_NO_NUMBERS, sl_NO_NUMBERS⟩) (v_NO_NUMBERS : Vals Z1e i_NO_NUMBERS.toList) (z_NO_NUMBERS : i_NO_NUMBERS.size ≤ sizeLine)
    {a_WORD_TAGS : Addr} {dd_WORD_TAGS : Option Addr} {i_WORD_TAGS : Array Value} {n_WORD_TAGS : Nat} {sl_WORD_TAGS : Array (Option Value)} (g_WORD_TAGS : PySem.W.nsIn K mainGlobals "WORD_TAGS" = some (some (.ref a_WORD_TAGS))) (l_WORD_TAGS : K.lookup a_WORD_TAGS = some ⟨.type "tuple", dd_WORD_TAGS, .seq i_WORD_TAGS n_WORD_TAGS, sl_WORD_TAGS⟩) (v_WORD_TAGS : Vals Z06 i_WORD_TAGS.toList) (z_WORD_TAGS : i_WORD_TAGS.size ≤ sizeLine)
    {a_KIND_TAGS : Addr} {e_KIND_TAGS : Array DictEntry} {n_KIND_TAGS : Nat} (g_KIND_TAGS : PySem.W.nsIn K mainGlobals "KIND_TAGS" = some (some (.ref a_KIND_TAGS))) (l_KIND_TAGS : K.lookup a_KIND_TAGS = some ⟨.type "dict", none, .dict e_KIND_TAGS n_KIND_TAGS, #[]⟩) (Wh : PySem.W.KeysLit w.params e_KIND_TAGS.toList) (w_KIND_TAGS : (a_KIND_TAGS == sysModules) = false)
    {t0_KIND_TAGS : Tok} (e0_KIND_TAGS : PySem.W.nsIn K a_KIND_TAGS (S [115,101,113,117,101,110,99,101]) = some (some (.str (S [33,33,115,101,113]) t0_KIND_TAGS)))
    {t1_KIND_TAGS : Tok} (e1_KIND_TAGS : PySem.W.nsIn K a_KIND_TAGS (S [109,97,112,112,105,110,103]) = some (some (.str (S [33,33,109,97,112]) t1_KIND_TAGS)))
    {t2_KIND_TAGS : Tok} (e2_KIND_TAGS : PySem.W.nsIn K a_KIND_TAGS (S [115,99,97,108,97,114]) = some (some (.str (S [33,33,115,116,114]) t2_KIND_TAGS)))
    (z_all : PySem.W.nsIn K mainGlobals "all" = some none)
    (z_int : PySem.W.nsIn K mainGlobals "int" = some none)
    (z_isinstance : PySem.W.nsIn K mainGlobals "isinstance" = some none)
    (z_len : PySem.W.nsIn K mainGlobals "len" = some none)
    (z_max : PySem.W.nsIn K mainGlobals "max" = some none)
    (z_min : PySem.W.nsIn K mainGlobals "min" = some none)
    (z_property : PySem.W.nsIn K mainGlobals "property" = some none)
    (z_range : PySem.W.nsIn K mainGlobals "range" = some none)
    (z_str : PySem.W.nsIn K mainGlobals "str" = some none)
    (it_KIND_TAGS : EntS w.params e_KIND_TAGS.toList Ud)
    (z_dig : PySem.W.nsIn K cStatics "sys.int_max_str_digits" = some none)
    {O_Number : Addr}
    (gO_Number : PySem.W.nsIn K mainGlobals "Number" = some (some (.ref O_Number)))
    (o1_Number : PySem.W.plainGet K O_Number Str.empty = true)
    (o2_Number : PySem.W.hasDictIn K O_Number = true)
    (o3_Number : PySem.W.plainOver K O_Number = true)
    (o4_Number : PySem.W.findIn K (.ref O_Number) "__setattr__" = some (some (.builtin "object.__setattr__")))
    (m1_Number : PySem.W.makesIn K O_Number = true)
    (m2_Number : PySem.W.findIn K (.ref O_Number) "__init__" = some (some (.ref f2)))
    (m3_Number : PySem.W.isFn K (.ref f2) = true)
    (m4_Number : PySem.W.keepIn K (.ref O_Number) = true)
    (n1_Number : PySem.W.findIn K (.ref O_Number) "__class__" = some (some (.builtin "object.__class__")))
    (n2_Number : PySem.W.specialIn K (.builtin "object.__class__") "__get__" = some (some (.builtin "getset_descriptor.__get__")))
    (n3_Number : PySem.W.takesIn K (.builtin "object.__class__") = some true)
    (n4_Number : PySem.W.mroIn K O_Number (.type "object") = some true)
    (n5_Number : PySem.W.kitOne K (.ref O_Number) (.ref O_Number) = some true)
    (q1_Number : PySem.W.findIn K (.ref O_Number) "__eq__" = some (some (.ref f6)))
    (q2_Number : PySem.W.isFn K (.ref f6) = true)
    (q3_Number : (Fx.bTypes.all fun n => PySem.W.notFirst K O_Number (.type n)) = true)
    (q4_Number : (Fx.bTypes.all fun n => decide (PySem.W.kitOne K (.type n) (.ref O_Number) = some false)) = true)
    {pp_Number_state : Addr} {rs_Number_state : List Value}
    (p1_Number_state : PySem.W.findIn K (.ref O_Number) "state" = some (some (.ref pp_Number_state)))
    (p2_Number_state : PySem.W.specialIn K (.ref pp_Number_state) "__get__" = some (some (.builtin "property.__get__")))
    (p3_Number_state : PySem.W.takesIn K (.ref pp_Number_state) = some true)
    (p4_Number_state : PySem.W.recIn K pp_Number_state "property" = some (.ref f3 :: rs_Number_state))
    {pp_Number_figures : Addr} {rs_Number_figures : List Value}
    (p1_Number_figures : PySem.W.findIn K (.ref O_Number) "figures" = some (some (.ref pp_Number_figures)))
    (p2_Number_figures : PySem.W.specialIn K (.ref pp_Number_figures) "__get__" = some (some (.builtin "property.__get__")))
    (p3_Number_figures : PySem.W.takesIn K (.ref pp_Number_figures) = some true)
    (p4_Number_figures : PySem.W.recIn K pp_Number_figures "property" = some (.ref f4 :: rs_Number_figures))
    {pp_Number_power : Addr} {rs_Number_power : List Value}
    (p1_Number_power : PySem.W.findIn K (.ref O_Number) "power" = some (some (.ref pp_Number_power)))
    (p2_Number_power : PySem.W.specialIn K (.ref pp_Number_power) "__get__" = some (some (.builtin "property.__get__")))
    (p3_Number_power : PySem.W.takesIn K (.ref pp_Number_power) = some true)
    (p4_Number_power : PySem.W.recIn K pp_Number_power "property" = some (.ref f5 :: rs_Number_power))
    (e1_Number_all_parts : PySem.W.findIn K (.ref O_Number) "all_parts" = some (some (.ref f7)))
    (e2_Number_all_parts : PySem.W.isFn K (.ref f7) = true)
    (e1_Number_rank : PySem.W.findIn K (.ref O_Number) "rank" = some (some (.ref f8)))
    (e2_Number_rank : PySem.W.isFn K (.ref f8) = true)
    (e1_Number_reach : PySem.W.findIn K (.ref O_Number) "reach" = some (some (.ref f9)))
    (e2_Number_reach : PySem.W.isFn K (.ref f9) = true)
    (na_Number_standing : PySem.W.findIn K (.ref O_Number) "standing" = some none)
    (na_Number_is_below : PySem.W.findIn K (.ref O_Number) "is_below" = some none)
    (na_Number_kept : PySem.W.findIn K (.ref O_Number) "kept" = some none)
    (na_Number_scale : PySem.W.findIn K (.ref O_Number) "scale" = some none)
    : ∃ fd : FuncData, (∀ (s : Shared) (v : Value), BindsTo s fd ⟨[v], []⟩ [("_law_script", v)]) ∧ ∀ base : Heap, K.In base → base.Ns mainGlobals mg → FnG l.prog w K mg base 10 fa fd Z96 (spF K 1 Z9a) := by
  have e := hfa.symm.trans (PySem.W.mg_of X G a37)
  cases e
  have F0 : FunD K "__init__" "NoSchema.__init__" (defArgs Zw) (defBody Zw) (defScope Zw) [.non] [] f0 _ := ⟨⟨_, _, _, _, _, _, _, _, _, _, rfl, l0, c0, .inr ⟨by simp, _, _, iT0.toList, _, rfl, lT0, by simp; rfl, vT0⟩, .inl rfl⟩, k0⟩
  have b0 : ∀ j,j ≤ 1 → ∃ ds,Vals (List.drop j [.non]) ds ∧ Binds K _ Yw ds := fun j hj => by
    match j,hj with
    | 0,_ => exact F0.binds1 (ps := Yw) 1 0 (by simp) rfl fun _ _ _ _ _ _ _ us its hu hi => match us,its,hu,hi with | [_],[_],_,_ => ⟨_,rfl,rfl⟩
    | 1,_ => exact F0.binds1 (ps := Yw) 2 1 (by simp) rfl fun _ _ _ _ _ _ _ us its hu hi => match us,its,hu,hi with | [_,_],[_],_,_ => ⟨_,rfl,rfl⟩
    | j + 2,h => exact absurd h (by omega)
  have F1 : FunD K "__init__" "BadTag.__init__" (defArgs Yg) (defBody Yg) (defScope Yg) [.non] [] f1 _ := ⟨⟨_, _, _, _, _, _, _, _, _, _, rfl, l1, c1, .inr ⟨by simp, _, _, iT1.toList, _, rfl, lT1, by simp; rfl, vT1⟩, .inl rfl⟩, k1⟩
  have b1 : ∀ j,j ≤ 1 → ∃ ds,Vals (List.drop j [.non]) ds ∧ Binds K _ Xy ds := fun j hj => by
    match j,hj with
    | 0,_ => exact F1.binds1 (ps := Xy) 1 0 (by simp) rfl fun _ _ _ _ _ _ _ us its hu hi => match us,its,hu,hi with | [_],[_],_,_ => ⟨_,rfl,rfl⟩
    | 1,_ => exact F1.binds1 (ps := Xy) 2 1 (by simp) rfl fun _ _ _ _ _ _ _ us its hu hi => match us,its,hu,hi with | [_,_],[_],_,_ => ⟨_,rfl,rfl⟩
    | j + 2,h => exact absurd h (by omega)
  have F2 := fun_mk (st := Yj) l2 c2 k2
  have b2 := F2.binds (ps := Yq) fun _ _ _ _ _ _ us hl => match us,hl with | [_,_,_],_ => rfl
  have F3 := fun_mk (st := Y8) l3 c3 k3
  have b3 := F3.binds (ps := Wd) fun _ _ _ _ _ _ us hl => match us,hl with | [_],_ => rfl
  have F4 := fun_mk (st := Zx) l4 c4 k4
  have b4 := F4.binds (ps := X5) fun _ _ _ _ _ _ us hl => match us,hl with | [_],_ => rfl
  have F5 := fun_mk (st := Y9) l5 c5 k5
  have b5 := F5.binds (ps := We) fun _ _ _ _ _ _ us hl => match us,hl with | [_],_ => rfl
  have F6 := fun_mk (st := Xd) l6 c6 k6
  have b6 := F6.binds (ps := Vj) fun _ _ _ _ _ _ us hl => match us,hl with | [_,_],_ => rfl
  have F7 := fun_mk (st := Zm) l7 c7 k7
  have b7 := F7.binds (ps := Xa) fun _ _ _ _ _ _ us hl => match us,hl with | [_],_ => rfl
  have F8 := fun_mk (st := Yk) l8 c8 k8
  have b8 := F8.binds (ps := V9) fun _ _ _ _ _ _ us hl => match us,hl with | [_],_ => rfl
  have F9 := fun_mk (st := Yb) l9 c9 k9
  have b9 := F9.binds (ps := Wu) fun _ _ _ _ _ _ us hl => match us,hl with | [_],_ => rfl
  have F10 := fun_mk (st := Xe) l10 c10 k10
  have b10 := F10.binds (ps := Xz) fun _ _ _ _ _ _ us hl => match us,hl with | [_,_],_ => rfl
  have F11 := fun_mk (st := Wi) l11 c11 k11
  have b11 := F11.binds (ps := Vk) fun _ _ _ _ _ _ us hl => match us,hl with | [_],_ => rfl
  have F12 := fun_mk (st := Wj) l12 c12 k12
  have b12 := F12.binds (ps := Qe) fun _ _ _ _ _ _ us hl => match us,hl with | [_,_],_ => rfl
  have F13 := fun_mk (st := Wk) l13 c13 k13
  have b13 := F13.binds (ps := Qg) fun _ _ _ _ _ _ us hl => match us,hl with | [_],_ => rfl
  have F14 := fun_mk (st := V8) l14 c14 k14
  have b14 := F14.binds (ps := Jr) fun _ _ _ _ _ _ us hl => match us,hl with | [_],_ => rfl
  have F15 := fun_mk (st := X8) l15 c15 k15
  have b15 := F15.binds (ps := Vx) fun _ _ _ _ _ _ us hl => match us,hl with | [_],_ => rfl
  have F16 := fun_mk (st := Wl) l16 c16 k16
  have b16 := F16.binds (ps := Qh) fun _ _ _ _ _ _ us hl => match us,hl with | [_],_ => rfl
  have F17 := fun_mk (st := Xx) l17 c17 k17
  have b17 := F17.binds (ps := Vl) fun _ _ _ _ _ _ us hl => match us,hl with | [_,_],_ => rfl
  have F18 := fun_mk (st := Yc) l18 c18 k18
  have b18 := F18.binds (ps := Wv) fun _ _ _ _ _ _ us hl => match us,hl with | [_],_ => rfl
  have F19 := fun_mk (st := Vr) l19 c19 k19
  have b19 := F19.binds (ps := Z0s) fun _ _ _ _ _ _ us hl => match us,hl with | [_],_ => rfl
  have F20 := fun_mk (st := Xf) l20 c20 k20
  have b20 := F20.binds (ps := Ue) fun _ _ _ _ _ _ us hl => match us,hl with | [_,_,_],_ => rfl
  have F21 := fun_mk (st := W8) l21 c21 k21
  have b21 := F21.binds (ps := Qi) fun _ _ _ _ _ _ us hl => match us,hl with | [_,_,_,_],_ => rfl
  have F22 := fun_mk (st := W9) l22 c22 k22
  have b22 := F22.binds (ps := Ql) fun _ _ _ _ _ _ us hl => match us,hl with | [_],_ => rfl
  have F23 := fun_mk (st := Xg) l23 c23 k23
  have b23 := F23.binds (ps := Ug) fun _ _ _ _ _ _ us hl => match us,hl with | [_,_],_ => rfl
  have F24 := fun_mk (st := Wr) l24 c24 k24
  have b24 := F24.binds (ps := Qm) fun _ _ _ _ _ _ us hl => match us,hl with | [_,_],_ => rfl
  have F25 := fun_mk (st := Xh) l25 c25 k25
  have b25 := F25.binds (ps := Vn) fun _ _ _ _ _ _ us hl => match us,hl with | [_,_],_ => rfl
  have F26 := fun_mk (st := Wb) l26 c26 k26
  have b26 := F26.binds (ps := U9) fun _ _ _ _ _ _ us hl => match us,hl with | [_,_],_ => rfl
  have F27 := fun_mk (st := Xi) l27 c27 k27
  have b27 := F27.binds (ps := Uh) fun _ _ _ _ _ _ us hl => match us,hl with | [_,_],_ => rfl
  have F28 := fun_mk (st := Yd) l28 c28 k28
  have b28 := F28.binds (ps := Yt) fun _ _ _ _ _ _ us hl => match us,hl with | [_],_ => rfl
  have F29 := fun_mk (st := Yr) l29 c29 k29
  have b29 := F29.binds (ps := Vy) fun _ _ _ _ _ _ us hl => match us,hl with | [_],_ => rfl
  have F30 := fun_mk (st := Xj) l30 c30 k30
  have b30 := F30.binds (ps := Ui) fun _ _ _ _ _ _ us hl => match us,hl with | [_],_ => rfl
  have F31 := fun_mk (st := Yl) l31 c31 k31
  have b31 := F31.binds (ps := Vb) fun _ _ _ _ _ _ us hl => match us,hl with | [_],_ => rfl
  have F32 := fun_mk (st := Ys) l32 c32 k32
  have b32 := F32.binds (ps := Vz) fun _ _ _ _ _ _ us hl => match us,hl with | [_],_ => rfl
  have F33 := fun_mk (st := Ws) l33 c33 k33
  have b33 := F33.binds (ps := Jv) fun _ _ _ _ _ _ us hl => match us,hl with | [_,_],_ => rfl
  have F34 := fun_mk (st := Zq) l34 c34 k34
  have b34 := F34.binds (ps := Xq) fun _ _ _ _ _ _ us hl => match us,hl with | [_,_],_ => rfl
  have F35 := fun_mk (st := Zi) l35 c35 k35
  have b35 := F35.binds (ps := Yo) fun _ _ _ _ _ _ us hl => match us,hl with | [_],_ => rfl
  have F36 := fun_mk (st := Zr) l36 c36 k36
  have b36 := F36.binds (ps := Xr) fun _ _ _ _ _ _ us hl => match us,hl with | [_,_],_ => rfl
  have F37 := fun_mk (st := Z2r) l37 c37 k37
  have b37 := F37.binds (ps := Z96) fun _ _ _ _ _ _ us hl => match us,hl with | [_],_ => rfl
  have m_KIND_TAGS : ∀ p ∈ Ud,∃ t,PySem.W.nsIn K a_KIND_TAGS (S p.1) = some (some (.str (S p.2) t)) := fun p hp => by
      simp only [Ud,List.mem_cons,List.not_mem_nil,or_false] at hp
      rcases hp with rfl | rfl | rfl
      · exact ⟨_,e0_KIND_TAGS⟩
      · exact ⟨_,e1_KIND_TAGS⟩
      · exact ⟨_,e2_KIND_TAGS⟩
  have o_KIND_TAGS : ∀ z ∈ ([] : List (List Nat)),PySem.W.nsIn K a_KIND_TAGS (S z) = some none := fun z hz => absurd hz (by simp)
  have T : Tx K w mg := ⟨⟨_,PySem.W.mg_of X G g_FIGURES⟩,⟨_,PySem.W.mg_of X G g_TAG_SIGNS⟩,⟨_,PySem.W.mg_of X G g_SCHEMAS,fun _ => .inr ⟨_,_,_,l_SCHEMAS,rfl,rfl,z_SCHEMAS,v_SCHEMAS⟩⟩,⟨_,PySem.W.mg_of X G g_NULLS,fun _ => .inr ⟨_,_,_,l_NULLS,rfl,rfl,z_NULLS,v_NULLS⟩⟩,⟨_,PySem.W.mg_of X G g_TRUTHS,fun _ => .inr ⟨_,_,_,l_TRUTHS,rfl,rfl,z_TRUTHS,v_TRUTHS⟩⟩,⟨_,PySem.W.mg_of X G g_UNTRUTHS,fun _ => .inr ⟨_,_,_,l_UNTRUTHS,rfl,rfl,z_UNTRUTHS,v_UNTRUTHS⟩⟩,⟨_,PySem.W.mg_of X G g_ENDLESS,fun _ => .inr ⟨_,_,_,l_ENDLESS,rfl,rfl,z_ENDLESS,v_ENDLESS⟩⟩,⟨_,PySem.W.mg_of X G g_NO_NUMBERS,fun _ => .inr ⟨_,_,_,l_NO_NUMBERS,rfl,rfl,z_NO_NUMBERS,v_NO_NUMBERS⟩⟩,⟨_,PySem.W.mg_of X G g_WORD_TAGS,fun _ => .inr ⟨_,_,_,l_WORD_TAGS,rfl,rfl,z_WORD_TAGS,v_WORD_TAGS⟩⟩,⟨_,_,_,PySem.W.mg_of X G g_KIND_TAGS,⟨l_KIND_TAGS,Wh,w_KIND_TAGS⟩,m_KIND_TAGS,o_KIND_TAGS⟩,PySem.W.mg_none_of X G z_all,PySem.W.mg_none_of X G z_int,PySem.W.mg_none_of X G z_isinstance,PySem.W.mg_none_of X G z_len,PySem.W.mg_none_of X G z_max,PySem.W.mg_none_of X G z_min,PySem.W.mg_none_of X G z_property,PySem.W.mg_none_of X G z_range,PySem.W.mg_none_of X G z_str,⟨_,PySem.W.mg_of X G g_KIND_TAGS,_,_,l_KIND_TAGS,w_KIND_TAGS,it_KIND_TAGS,by decide⟩,z_dig⟩
  let Z : Ad := ⟨O_Number, pp_Number_state, pp_Number_figures, pp_Number_power, CB, C_NoSchema, C_BadTag, f0, PySem.W.fnOf "__init__" "NoSchema.__init__" (defArgs Zw) (defBody Zw) (defScope Zw) (.ref T0) kV0 dc0 pm0 an0 cd0 ct0, f1, PySem.W.fnOf "__init__" "BadTag.__init__" (defArgs Yg) (defBody Yg) (defScope Yg) (.ref T1) kV1 dc1 pm1 an1 cd1 ct1, f2, PySem.W.fnOf "__init__" "Number.__init__" (defArgs Yj) (defBody Yj) (defScope Yj) .none kV2 dc2 pm2 an2 cd2 ct2, f3, PySem.W.fnOf "state" "Number.state" (defArgs Y8) (defBody Y8) (defScope Y8) .none kV3 dc3 pm3 an3 cd3 ct3, f4, PySem.W.fnOf "figures" "Number.figures" (defArgs Zx) (defBody Zx) (defScope Zx) .none kV4 dc4 pm4 an4 cd4 ct4, f5, PySem.W.fnOf "power" "Number.power" (defArgs Y9) (defBody Y9) (defScope Y9) .none kV5 dc5 pm5 an5 cd5 ct5, f6, PySem.W.fnOf "__eq__" "Number.__eq__" (defArgs Xd) (defBody Xd) (defScope Xd) .none kV6 dc6 pm6 an6 cd6 ct6, f7, PySem.W.fnOf "all_parts" "Number.all_parts" (defArgs Zm) (defBody Zm) (defScope Zm) .none kV7 dc7 pm7 an7 cd7 ct7, f8, PySem.W.fnOf "rank" "Number.rank" (defArgs Yk) (defBody Yk) (defScope Yk) .none kV8 dc8 pm8 an8 cd8 ct8, f9, PySem.W.fnOf "reach" "Number.reach" (defArgs Yb) (defBody Yb) (defScope Yb) .none kV9 dc9 pm9 an9 cd9 ct9, f10, PySem.W.fnOf "are_signs" "are_signs" (defArgs Xe) (defBody Xe) (defScope Xe) .none kV10 dc10 pm10 an10 cd10 ct10, f11, PySem.W.fnOf "unsigned" "unsigned" (defArgs Wi) (defBody Wi) (defScope Wi) .none kV11 dc11 pm11 an11 cd11 ct11, f12, PySem.W.fnOf "whole_by" "whole_by" (defArgs Wj) (defBody Wj) (defScope Wj) .none kV12 dc12 pm12 an12 cd12 ct12, f13, PySem.W.fnOf "whole_in" "whole_in" (defArgs Wk) (defBody Wk) (defScope Wk) .none kV13 dc13 pm13 an13 cd13 ct13, f14, PySem.W.fnOf "bare_in" "bare_in" (defArgs V8) (defBody V8) (defScope V8) .none kV14 dc14 pm14 an14 cd14 ct14, f15, PySem.W.fnOf "decimal_in" "decimal_in" (defArgs X8) (defBody X8) (defScope X8) .none kV15 dc15 pm15 an15 cd15 ct15, f16, PySem.W.fnOf "float_in" "float_in" (defArgs Wl) (defBody Wl) (defScope Wl) .none kV16 dc16 pm16 an16 cd16 ct16, f17, PySem.W.fnOf "canonical" "canonical" (defArgs Xx) (defBody Xx) (defScope Xx) .none kV17 dc17 pm17 an17 cd17 ct17, f18, PySem.W.fnOf "check_schema" "check_schema" (defArgs Yc) (defBody Yc) (defScope Yc) .none kV18 dc18 pm18 an18 cd18 ct18, f19, PySem.W.fnOf "is_tag" "is_tag" (defArgs Vr) (defBody Vr) (defScope Vr) .none kV19 dc19 pm19 an19 cd19 ct19, f20, PySem.W.fnOf "may_stand" "may_stand" (defArgs Xf) (defBody Xf) (defScope Xf) .none kV20 dc20 pm20 an20 cd20 ct20, f21, PySem.W.fnOf "tag_fits" "tag_fits" (defArgs W8) (defBody W8) (defScope W8) .none kV21 dc21 pm21 an21 cd21 ct21, f22, PySem.W.fnOf "parts_of" "parts_of" (defArgs W9) (defBody W9) (defScope W9) .none kV22 dc22 pm22 an22 cd22 ct22, f23, PySem.W.fnOf "is_nearer" "is_nearer" (defArgs Xg) (defBody Xg) (defScope Xg) .none kV23 dc23 pm23 an23 cd23 ct23, f24, PySem.W.fnOf "is_less" "is_less" (defArgs Wr) (defBody Wr) (defScope Wr) .none kV24 dc24 pm24 an24 cd24 ct24, f25, PySem.W.fnOf "_law_draw" "_law_draw" (defArgs Xh) (defBody Xh) (defScope Xh) .none kV25 dc25 pm25 an25 cd25 ct25, f26, PySem.W.fnOf "_law_one" "_law_one" (defArgs Wb) (defBody Wb) (defScope Wb) .none kV26 dc26 pm26 an26 cd26 ct26, f27, PySem.W.fnOf "_law_well" "_law_well" (defArgs Xi) (defBody Xi) (defScope Xi) .none kV27 dc27 pm27 an27 cd27 ct27, f28, PySem.W.fnOf "_law_trimmed" "_law_trimmed" (defArgs Yd) (defBody Yd) (defScope Yd) .none kV28 dc28 pm28 an28 cd28 ct28, f29, PySem.W.fnOf "_law_drawn" "_law_drawn" (defArgs Yr) (defBody Yr) (defScope Yr) .none kV29 dc29 pm29 an29 cd29 ct29, f30, PySem.W.fnOf "_law_twin" "_law_twin" (defArgs Xj) (defBody Xj) (defScope Xj) .none kV30 dc30 pm30 an30 cd30 ct30, f31, PySem.W.fnOf "_law_beside" "_law_beside" (defArgs Yl) (defBody Yl) (defScope Yl) .none kV31 dc31 pm31 an31 cd31 ct31, f32, PySem.W.fnOf "_law_is_so" "_law_is_so" (defArgs Ys) (defBody Ys) (defScope Ys) .none kV32 dc32 pm32 an32 cd32 ct32, f33, PySem.W.fnOf "_law_is" "_law_is" (defArgs Ws) (defBody Ws) (defScope Ws) .none kV33 dc33 pm33 an33 cd33 ct33, f34, PySem.W.fnOf "_law_pair_right" "_law_pair_right" (defArgs Zq) (defBody Zq) (defScope Zq) .none kV34 dc34 pm34 an34 cd34 ct34, f35, PySem.W.fnOf "_law_endless_right" "_law_endless_right" (defArgs Zi) (defBody Zi) (defScope Zi) .none kV35 dc35 pm35 an35 cd35 ct35, f36, PySem.W.fnOf "_law_is_refused" "_law_is_refused" (defArgs Zr) (defBody Zr) (defScope Zr) .none kV36 dc36 pm36 an36 cd36 ct36, fa, PySem.W.fnOf "law" "law" (defArgs Z2r) (defBody Z2r) (defScope Z2r) .none kV37 dc37 pm37 an37 cd37 ct37⟩
  have D : Dz K mg Z := ⟨PySem.W.mg_of X G gO_Number,⟨gO_Number,⟨o1_Number,o2_Number,o3_Number,o4_Number⟩⟩,⟨m1_Number,m2_Number,m3_Number,m4_Number⟩,⟨⟨gO_Number,⟨o1_Number,o2_Number,o3_Number,o4_Number⟩⟩,⟨⟨o1_Number,o2_Number,o3_Number,o4_Number⟩,n1_Number,n2_Number,n3_Number,n4_Number,n5_Number⟩,q1_Number,q2_Number,q3_Number,q4_Number⟩,⟨p1_Number_state,p2_Number_state,p3_Number_state,⟨_,p4_Number_state⟩⟩,⟨p1_Number_figures,p2_Number_figures,p3_Number_figures,⟨_,p4_Number_figures⟩⟩,⟨p1_Number_power,p2_Number_power,p3_Number_power,⟨_,p4_Number_power⟩⟩,⟨e1_Number_all_parts,e2_Number_all_parts,k7⟩,⟨e1_Number_rank,e2_Number_rank,k8⟩,⟨e1_Number_reach,e2_Number_reach,k9⟩,na_Number_standing,na_Number_is_below,na_Number_kept,na_Number_scale,PySem.W.mg_of X G gB,⟨bB1,bB2,bB3⟩,v2X_NoSchema,⟨PySem.W.mg_of X G gX_NoSchema,⟨⟨_,_,_,_,_,_,_,_,_,_,_,_,_,_,_,lX_NoSchema,rX_NoSchema⟩,s1X_NoSchema,bX_NoSchema,tX_NoSchema,kX_NoSchema⟩,iX_NoSchema,fX_NoSchema,nX_NoSchema,xfB_ok xX_NoSchema,⟨(xfB_ok xX_NoSchema).ga,(xfB_ok xX_NoSchema).gg,bX_NoSchema,(xfB_ok xX_NoSchema).hdC,c1X_NoSchema,c2X_NoSchema,c3X_NoSchema,c4X_NoSchema⟩,Z8b bX_NoSchema jX_NoSchema tX_NoSchema sX_NoSchema,gX_NoSchema,v1X_NoSchema⟩,v2X_BadTag,⟨PySem.W.mg_of X G gX_BadTag,⟨⟨_,_,_,_,_,_,_,_,_,_,_,_,_,_,_,lX_BadTag,rX_BadTag⟩,s1X_BadTag,bX_BadTag,tX_BadTag,kX_BadTag⟩,iX_BadTag,fX_BadTag,nX_BadTag,xfB_ok xX_BadTag,⟨(xfB_ok xX_BadTag).ga,(xfB_ok xX_BadTag).gg,bX_BadTag,(xfB_ok xX_BadTag).hdC,c1X_BadTag,c2X_BadTag,c3X_BadTag,c4X_BadTag⟩,Z8b bX_BadTag jX_BadTag tX_BadTag sX_BadTag,gX_BadTag,v1X_BadTag⟩,⟨F0,b0⟩,⟨F1,b1⟩,⟨F2,b2⟩,⟨F3,b3⟩,⟨F4,b4⟩,⟨F5,b5⟩,⟨F6,b6⟩,⟨F7,b7⟩,⟨F8,b8⟩,⟨F9,b9⟩,⟨F10,PySem.W.mg_of X G a10,b10⟩,⟨F11,PySem.W.mg_of X G a11,b11⟩,⟨F12,PySem.W.mg_of X G a12,b12⟩,⟨F13,PySem.W.mg_of X G a13,b13⟩,⟨F14,PySem.W.mg_of X G a14,b14⟩,⟨F15,PySem.W.mg_of X G a15,b15⟩,⟨F16,PySem.W.mg_of X G a16,b16⟩,⟨F17,PySem.W.mg_of X G a17,b17⟩,⟨F18,PySem.W.mg_of X G a18,b18⟩,⟨F19,PySem.W.mg_of X G a19,b19⟩,⟨F20,PySem.W.mg_of X G a20,b20⟩,⟨F21,PySem.W.mg_of X G a21,b21⟩,⟨F22,PySem.W.mg_of X G a22,b22⟩,⟨F23,PySem.W.mg_of X G a23,b23⟩,⟨F24,PySem.W.mg_of X G a24,b24⟩,⟨F25,PySem.W.mg_of X G a25,b25⟩,⟨F26,PySem.W.mg_of X G a26,b26⟩,⟨F27,PySem.W.mg_of X G a27,b27⟩,⟨F28,PySem.W.mg_of X G a28,b28⟩,⟨F29,PySem.W.mg_of X G a29,b29⟩,⟨F30,PySem.W.mg_of X G a30,b30⟩,⟨F31,PySem.W.mg_of X G a31,b31⟩,⟨F32,PySem.W.mg_of X G a32,b32⟩,⟨F33,PySem.W.mg_of X G a33,b33⟩,⟨F34,PySem.W.mg_of X G a34,b34⟩,⟨F35,PySem.W.mg_of X G a35,b35⟩,⟨F36,PySem.W.mg_of X G a36,b36⟩,⟨F37,PySem.W.mg_of X G a37,b37⟩⟩
  exact ⟨_,fun s v => .of_eq rfl,fun base _ _ => Zez (Z := Z) T D⟩
end Ap
set_option maxHeartbeats 4000000
namespace Fx
open PySem PySem.Spec PyProof.Rows L2 SX Ap
def rngOf (xs : List T) (Z1 : Sto) : R ItF := match xs with
  | [.int j] => if -(2 ^ 62) ≤ j ∧ j < 2 ^ 62 then .ok (itRng 0 j.toNat) Z1 else .stuck
  | [.int i,.int j] => if -(2 ^ 62) ≤ i ∧ i < 2 ^ 62 ∧ -(2 ^ 62) ≤ j ∧ j < 2 ^ 62 then .ok (itRng i (j - i).toNat) Z1 else .stuck
  | _ => .stuck
theorem rng1 {j : Int} {Z : Sto} (h1 : -1000000 ≤ j) (h2 : j ≤ 1000000) : rngOf [.int j] Z = .ok (itRng 0 j.toNat) Z := if_pos ⟨by omega,by omega⟩
theorem rngN {n : Nat} {Z : Sto} (h : n ≤ Lim) : rngOf [.int (n : Int)] Z = .ok (itRng 0 n) Z := by
  have h' : n ≤ 1000000 := h
  rw [rng1 (by omega) (by omega)]; rfl
section
variable (ρ : Env) (Z : Sto)
@[simp] theorem q_eC (t : T) : eC t ρ Z = .ok t Z := (rfl)
@[simp] theorem q_var0 (t : T) : eVar 0 (some t :: ρ) Z = .ok t Z := (rfl)
@[simp] theorem q_varS (i : Nat) (o : Option T) : eVar (i + 1) (o :: ρ) Z = eVar i ρ Z := (rfl)
@[simp] theorem q_var1 (o : Option T) : eVar 1 (o :: ρ) Z = eVar 0 ρ Z := (rfl)
@[simp] theorem q_var2 (o : Option T) : eVar 2 (o :: ρ) Z = eVar 1 ρ Z := (rfl)
@[simp] theorem q_var3 (o : Option T) : eVar 3 (o :: ρ) Z = eVar 2 ρ Z := (rfl)
@[simp] theorem q_var4 (o : Option T) : eVar 4 (o :: ρ) Z = eVar 3 ρ Z := (rfl)
@[simp] theorem q_var5 (o : Option T) : eVar 5 (o :: ρ) Z = eVar 4 ρ Z := (rfl)
@[simp] theorem q_var6 (o : Option T) : eVar 6 (o :: ρ) Z = eVar 5 ρ Z := (rfl)
@[simp] theorem q_var7 (o : Option T) : eVar 7 (o :: ρ) Z = eVar 6 ρ Z := (rfl)
@[simp] theorem q_var8 (o : Option T) : eVar 8 (o :: ρ) Z = eVar 7 ρ Z := (rfl)
@[simp] theorem q_var9 (o : Option T) : eVar 9 (o :: ρ) Z = eVar 8 ρ Z := (rfl)
@[simp] theorem q_var10 (o : Option T) : eVar 10 (o :: ρ) Z = eVar 9 ρ Z := (rfl)
@[simp] theorem q_var11 (o : Option T) : eVar 11 (o :: ρ) Z = eVar 10 ρ Z := (rfl)
@[simp] theorem q_var12 (o : Option T) : eVar 12 (o :: ρ) Z = eVar 11 ρ Z := (rfl)
@[simp] theorem q_var13 (o : Option T) : eVar 13 (o :: ρ) Z = eVar 12 ρ Z := (rfl)
@[simp] theorem q_var14 (o : Option T) : eVar 14 (o :: ρ) Z = eVar 13 ρ Z := (rfl)
@[simp] theorem q_bin (g : T → T → Sto → Option (T × Sto)) (a b : FE) : eBin g a b ρ Z = (a ρ Z).bind fun x Z1 => (b ρ Z1).bind fun y Z2 => lift (g x y Z2) := (rfl)
@[simp] theorem q_un (g : T → Sto → Option (T × Sto)) (a : FE) : eUn g a ρ Z = (a ρ Z).bind fun x Z1 => lift (g x Z1) := (rfl)
@[simp] theorem q_if (c : FT) (a b : FE) : eIf c a b ρ Z = (c ρ Z).bind fun x Z1 => if x = true then a ρ Z1 else b ρ Z1 := (rfl)
@[simp] theorem q_nil : aNil ρ Z = .ok [] Z := (rfl)
@[simp] theorem q_cons (a : FE) (r : FA) : aCons a r ρ Z = (a ρ Z).bind fun x Z1 => (r ρ Z1).bind fun xs Z2 => .ok (x :: xs) Z2 := (rfl)
@[simp] theorem q_tru (f : FE) : eTru f ρ Z = (f ρ Z).bind fun x Z1 => match truth x Z1 with | some b => .ok b Z1 | none => .stuck := (rfl)
@[simp] theorem q_tAnd (a b : FT) : Fx.tAnd a b ρ Z = (a ρ Z).bind fun x Z1 => if x = true then b ρ Z1 else .ok false Z1 := (rfl)
@[simp] theorem q_tOr (a b : FT) : Fx.tOr a b ρ Z = (a ρ Z).bind fun x Z1 => if x = true then .ok true Z1 else b ρ Z1 := (rfl)
@[simp] theorem q_tNot (a : FT) : Fx.tNot a ρ Z = (a ρ Z).bind fun x Z1 => .ok (!x) Z1 := (rfl)
@[simp] theorem q_and (a b : FE) : eAnd a b ρ Z = (a ρ Z).bind fun x Z1 => match truth x Z1 with | some true => b ρ Z1 | some false => .ok x Z1 | none => .stuck := (rfl)
@[simp] theorem q_or (a b : FE) : eOr a b ρ Z = (a ρ Z).bind fun x Z1 => match truth x Z1 with | some true => .ok x Z1 | some false => b ρ Z1 | none => .stuck := (rfl)
@[simp] theorem q_not (a : FE) : eNot a ρ Z = (a ρ Z).bind fun x Z1 => match truth x Z1 with | some b => .ok (.bl (!b)) Z1 | none => .stuck := (rfl)
@[simp] theorem q_bl (f : FE) : eBl f ρ Z = (f ρ Z).bind fun x Z1 => match x with | .bl b => .ok b Z1 | _ => .stuck := (rfl)
@[simp] theorem q_chain (g g' : T → T → Sto → Option (T × Sto)) (a b c : FE) : eChain g g' a b c ρ Z = (a ρ Z).bind fun x Z1 => (b ρ Z1).bind fun y Z2 => (lift (g x y Z2)).bind fun z Z3 => match z with | .bl true => (c ρ Z3).bind fun w Z4 => lift (g' y w Z4) | .bl false => .ok (.bl false) Z3 | _ => .stuck := (rfl)
@[simp] theorem q_oNone : oNone ρ Z = .ok none Z := (rfl)
@[simp] theorem q_oSome (f : FE) : oSome f ρ Z = (f ρ Z).bind fun x Z1 => match x with | .int i => .ok (some i) Z1 | _ => .stuck := (rfl)
@[simp] theorem q_sl (f : FE) (lo hi : FO) : eSl f lo hi ρ Z = (f ρ Z).bind fun x Z1 => (lo ρ Z1).bind fun l Z2 => (hi ρ Z2).bind fun h Z3 => lift (gSl x l h Z3) := (rfl)
@[simp] theorem q_tup (f : FA) : eTup f ρ Z = (f ρ Z).bind fun xs Z1 => .ok (.tup xs) Z1 := (rfl)
@[simp] theorem q_lst (f : FA) : eLst f ρ Z = (f ρ Z).bind fun xs Z1 => .ok (.loc Z1.length) (Z1 ++ [.lst xs]) := (rfl)
@[simp] theorem q_call (F : FF) (ds : List T) (fa : FA) : eCall F ds fa ρ Z = (fa ρ Z).bind fun ts Z1 => F (ts ++ ds) Z1 := (rfl)
@[simp] theorem q_callB (g : List T → Sto → Option (T × Sto)) (fa : FA) : eCallB g fa ρ Z = (fa ρ Z).bind fun xs Z1 => lift (g xs Z1) := (rfl)
@[simp] theorem q_bm (n : String) (g : T → List T → Sto → Option (T × Sto)) (fo : FE) (fa : FA) : eBM n g fo fa ρ Z = (fo ρ Z).bind fun x Z1 => if isTy n x Z1 = true then (fa ρ Z1).bind fun xs Z2 => lift (g x xs Z2) else .stuck := (rfl)
@[simp] theorem q_dict0 : eDict0 ρ Z = .ok (.loc Z.length) (Z ++ [.dk []]) := (rfl)
@[simp] theorem q_yes : eYes ρ Z = .ok true Z := (rfl)
@[simp] theorem q_set (i : Nat) (f : FE) : sSet i f ρ Z = bS ρ (f ρ Z) fun x Z1 => .nx (ρ.set i (some x)) Z1 := (rfl)
@[simp] theorem q_ret (f : FE) : sRet f ρ Z = bS ρ (f ρ Z) fun x Z1 => .rt x Z1 := (rfl)
@[simp] theorem q_retN : sRetN ρ Z = .rt .non Z := (rfl)
@[simp] theorem q_drop (f : FE) : sDrop f ρ Z = bS ρ (f ρ Z) fun _ Z1 => .nx ρ Z1 := (rfl)
@[simp] theorem q_pass : sPass ρ Z = .nx ρ Z := (rfl)
@[simp] theorem q_brk : sBrk ρ Z = .bk ρ Z := (rfl)
@[simp] theorem q_cnt : sCnt ρ Z = .ct ρ Z := (rfl)
@[simp] theorem q_sIf (c : FT) (a b : FS) : sIf c a b ρ Z = bS ρ (c ρ Z) fun x Z1 => if x = true then a ρ Z1 else b ρ Z1 := (rfl)
@[simp] theorem q_bCons (a b : FS) : bCons a b ρ Z = seqS (a ρ Z) b := (rfl)
@[simp] theorem q_par (ix : List Nat) (f : FA) : sPar ix f ρ Z = bS ρ (f ρ Z) fun xs Z1 => .nx ((ix.zip xs).foldl (fun r p => r.set p.1 (some p.2)) ρ) Z1 := (rfl)
@[simp] theorem q_asg (f : FE) (g : FG) : sAsg f g ρ Z = bS ρ (f ρ Z) fun x Z1 => bS ρ (g x ρ Z1) fun ρ2 Z2 => .nx ρ2 Z2 := (rfl)
@[simp] theorem Zar (i : Nat) (t : T) : gNm i t ρ Z = .ok (ρ.set i (some t)) Z := (rfl)
@[simp] theorem q_gsNil : gsNil [] ρ Z = .ok ρ Z := (rfl)
@[simp] theorem q_gsCons (g : FG) (r : FGs) (t : T) (ts : List T) : gsCons g r (t :: ts) ρ Z = (noX (g t ρ Z)).bind fun ρ1 Z1 => noX (r ts ρ1 Z1) := (rfl)
@[simp] theorem q_gTp (n : Nat) (r : FGs) (ts : List T) : gTp n r (.tup ts) ρ Z = if ts.length = n then r ts ρ Z else .stuck := (rfl)
@[simp] theorem q_gSubs (fo fi : FE) (t : T) : gSubs fo fi t ρ Z = (fo ρ Z).bind fun o Z1 => (fi ρ Z1).bind fun i Z2 => match gSetL o i t Z2 with | some Z3 => .ok ρ Z3 | none => .stuck := (rfl)
@[simp] theorem q_for (it : FI) (g : FG) (b : FS) : sFor it g b ρ Z = bS ρ (it ρ Z) fun j Z1 => loopN j (fun t ρ' Z' => bS ρ' (g t ρ' Z') b) Fuel 0 ρ Z1 := (rfl)
@[simp] theorem q_raise (nm f : PySem.Str) (ds : List T) (fa : FA) : sRaise nm f ds fa ρ Z = bS ρ (fa ρ Z) fun ts Z1 => match ts ++ ds with | [t] => .exc ⟨nm,[(f,t)]⟩ ρ Z1 | _ => .stuck := (rfl)
@[simp] theorem q_iAny (f : FE) : iAny f ρ Z = (f ρ Z).bind fun x Z1 => match x with | .frl ts => .ok (itSeq ts) Z1 | .loc i => (match getL Z1 i with | some _ => .ok (itLoc i) Z1 | none => .stuck) | .tup ts => .ok (itSeq ts) Z1 | .str l => .ok (itStr l) Z1 | _ => .stuck := (rfl)
@[simp] theorem q_iEnmA (f : FA) : iEnmA f ρ Z = (f ρ Z).bind fun xs Z1 => match xs with | [.frl ts] => .ok (itEnum (itSeq ts)) Z1 | [.loc i] => (match getL Z1 i with | some _ => .ok (itEnum (itLoc i)) Z1 | none => .stuck) | [.tup ts] => .ok (itEnum (itSeqX ts)) Z1 | [.str l] => .ok (itEnum (itStrX l)) Z1 | _ => .stuck := (rfl)
@[simp] theorem q_iRng (f : FA) : iRng f ρ Z = (f ρ Z).bind fun xs Z1 => rngOf xs Z1 := (rfl)
@[simp] theorem q_lc (vs js : List Nat) (it : FI) (c : FT) (e : FE) : eLc vs js it c e ρ Z = (it ρ Z).bind fun j Z1 => loopC j Z1.length (fun t => putN js t (wipeR ρ vs)) c e Fuel 0 (Z1 ++ [.lst []]) := (rfl)
@[simp] theorem q_xf (y : Ex) (f : PySem.Str) : eXf y f ρ Z = match y.fs.lookup f with | some t => .ok t Z | none => .stuck := (rfl)
end
@[simp] theorem Zbr {α : Type} (a : α) (Z : Sto) : noX (.ok a Z) = .ok a Z := (rfl)
@[simp] theorem t_bl (b : Bool) (Z : Sto) : truth (.bl b) Z = some b := (rfl)
@[simp] theorem t_int (i : Int) (Z : Sto) : truth (.int i) Z = some (i != 0) := (rfl)
@[simp] theorem t_non (Z : Sto) : truth .non Z = some false := (rfl)
@[simp] theorem t_tup (ts : List T) (Z : Sto) : truth (.tup ts) Z = some (!ts.isEmpty) := (rfl)
@[simp] theorem add_ii (i j : Int) (Z : Sto) : gAdd (.int i) (.int j) Z = some (.int (i + j),Z) := (rfl)
@[simp] theorem Z9c (a b : List Nat) (Z : Sto) : gAdd (.str a) (.str b) Z = if a.length + b.length ≤ Lim then some (.str (a ++ b),Z) else none := (rfl)
@[simp] theorem Z9d (a b : List T) (Z : Sto) : gAdd (.tup a) (.tup b) Z = if a.length + b.length ≤ Lim then some (.tup (a ++ b),Z) else none := (rfl)
@[simp] theorem Zf1 (i j : Nat) (Z : Sto) : gAdd (.loc i) (.loc j) Z = match getL Z i,getL Z j with | some a,some b => if a.length + b.length ≤ Lim then some (.loc Z.length,Z ++ [.lst (a ++ b)]) else none | _,_ => none := (rfl)
@[simp] theorem iadd_ii (i j : Int) (Z : Sto) : gIAdd (.int i) (.int j) Z = some (.int (i + j),Z) := (rfl)
@[simp] theorem Z65 (a b : List Nat) (Z : Sto) : gIAdd (.str a) (.str b) Z = if a.length + b.length ≤ Lim then some (.str (a ++ b),Z) else none := (rfl)
@[simp] theorem sub_ii (i j : Int) (Z : Sto) : gSub (.int i) (.int j) Z = some (.int (i - j),Z) := (rfl)
@[simp] theorem mul_ii (i j : Int) (Z : Sto) : gMul (.int i) (.int j) Z = if mulOk i j = true then some (.int (i * j),Z) else none := (rfl)
@[simp] theorem Z76 (l : List Nat) (k : Int) (Z : Sto) : gMul (.str l) (.int k) Z = if -100000 ≤ k ∧ k ≤ 100000 ∧ l.length * k.toNat ≤ 100000 then some (.str (repL k.toNat l),Z) else none := (rfl)
@[simp] theorem mul_li (i : Nat) (k : Int) (Z : Sto) : gMul (.loc i) (.int k) Z = match getL Z i with | some a => if -100000 ≤ k ∧ k ≤ 100000 ∧ a.length * k.toNat ≤ Lim then some (.loc Z.length,Z ++ [.lst (List.replicate k.toNat a).flatten]) else none | _ => none := (rfl)
@[simp] theorem div_ii (i j : Int) (Z : Sto) : gDiv (.int i) (.int j) Z = if 0 < j ∧ j < 2 ^ 200 then some (.int (i / j),Z) else none := (rfl)
@[simp] theorem mod_ii (i j : Int) (Z : Sto) : gMod (.int i) (.int j) Z = if 0 < j then some (.int (i % j),Z) else none := (rfl)
@[simp] theorem pow_ii (i j : Int) (Z : Sto) : gPow (.int i) (.int j) Z = if 0 ≤ j ∧ j ≤ 1000000 ∧ i.natAbs < 2 ^ 64 then some (.int (i ^ j.toNat),Z) else none := (rfl)
@[simp] theorem neg_i (i : Int) (Z : Sto) : gNeg (.int i) Z = some (.int (-i),Z) := (rfl)
@[simp] theorem eq_ii (i j : Int) (Z : Sto) : gEq (.int i) (.int j) Z = some (.bl (decide (i = j)),Z) := (rfl)
@[simp] theorem eq_ss (i j : List Nat) (Z : Sto) : gEq (.str i) (.str j) Z = some (.bl (decide (i = j)),Z) := (rfl)
@[simp] theorem eq_bb (i j : Bool) (Z : Sto) : gEq (.bl i) (.bl j) Z = some (.bl (decide (i = j)),Z) := (rfl)
@[simp] theorem ne_ii (i j : Int) (Z : Sto) : gNe (.int i) (.int j) Z = some (.bl (!decide (i = j)),Z) := (rfl)
@[simp] theorem ne_ss (i j : List Nat) (Z : Sto) : gNe (.str i) (.str j) Z = some (.bl (!decide (i = j)),Z) := (rfl)
@[simp] theorem ne_bb (i j : Bool) (Z : Sto) : gNe (.bl i) (.bl j) Z = some (.bl (!decide (i = j)),Z) := (rfl)
@[simp] theorem lt_ii (i j : Int) (Z : Sto) : gLt (.int i) (.int j) Z = some (.bl (decide (i < j)),Z) := (rfl)
@[simp] theorem lt_ss (i j : List Nat) (Z : Sto) : gLt (.str i) (.str j) Z = some (.bl (decide (i < j)),Z) := (rfl)
@[simp] theorem le_ii (i j : Int) (Z : Sto) : gLe (.int i) (.int j) Z = some (.bl (decide (i ≤ j)),Z) := (rfl)
@[simp] theorem gt_ii (i j : Int) (Z : Sto) : gGt (.int i) (.int j) Z = some (.bl (decide (j < i)),Z) := (rfl)
@[simp] theorem ge_ii (i j : Int) (Z : Sto) : gGe (.int i) (.int j) Z = some (.bl (decide (j ≤ i)),Z) := (rfl)
@[simp] theorem is_n (x : T) (Z : Sto) : gIs x .non Z = some (.bl (isNon x),Z) := by cases x <;> rfl
@[simp] theorem isNot_n (x : T) (Z : Sto) : gIsNot x .non Z = some (.bl (!isNon x),Z) := by cases x <;> rfl
@[simp] theorem ix_tup (ts : List T) (i : Int) (Z : Sto) : gIx (.tup ts) (.int i) Z = (atI ts i).map fun t => (t,Z) := (rfl)
@[simp] theorem ix_frl (ts : List T) (i : Int) (Z : Sto) : gIx (.frl ts) (.int i) Z = (atI ts i).map fun t => (t,Z) := (rfl)
@[simp] theorem ix_loc (n : Nat) (i : Int) (Z : Sto) : gIx (.loc n) (.int i) Z = match getL Z n with | some ts => (atI ts i).map fun t => (t,Z) | none => none := by
  simp only [gIx,asSeq,asList,getL]
  all_goals (cases Z[n]? with
    | none => rfl
    | some o => cases o <;> rfl)
@[simp] theorem ix_str (l : List Nat) (i : Int) (Z : Sto) : gIx (.str l) (.int i) Z = if l.length ≤ Lim then (atI l i).map fun c => (.str [c],Z) else none := (rfl)
@[simp] theorem sl_s (l : List Nat) (lo hi : Option Int) (Z : Sto) : gSl (.str l) lo hi Z = if l.length ≤ Lim then some (.str (cutL l lo hi),Z) else none := (rfl)
@[simp] theorem sl_t (l : List T) (lo hi : Option Int) (Z : Sto) : gSl (.tup l) lo hi Z = some (.tup (cutL l lo hi),Z) := (rfl)
@[simp] theorem sl_f (l : List T) (lo hi : Option Int) (Z : Sto) : gSl (.frl l) lo hi Z = some (.loc Z.length,Z ++ [.lst (cutL l lo hi)]) := (rfl)
@[simp] theorem sl_l (n : Nat) (lo hi : Option Int) (Z : Sto) : gSl (.loc n) lo hi Z = match getL Z n with | some ts => some (.loc Z.length,Z ++ [.lst (cutL ts lo hi)]) | none => none := by
  simp only [gSl,asList,getL]
  all_goals (cases Z[n]? with
    | none => rfl
    | some o => cases o <;> rfl)
@[simp] theorem Zd2 (l : List Nat) (Z : Sto) : gLen [.str l] Z = if l.length ≤ Lim then some (.int l.length,Z) else none := (rfl)
@[simp] theorem len_t (l : List T) (Z : Sto) : gLen [.tup l] Z = some (.int l.length,Z) := (rfl)
@[simp] theorem len_f (l : List T) (Z : Sto) : gLen [.frl l] Z = some (.int l.length,Z) := (rfl)
@[simp] theorem len_l (n : Nat) (Z : Sto) : gLen [.loc n] Z = match getL Z n with | some ts => some (.int ts.length,Z) | none => none := by
  simp only [gLen,asSeq,asList,getL]
  cases Z[n]? with
  | none => rfl
  | some o => cases o <;> rfl
@[simp] theorem max_ii (i j : Int) (Z : Sto) : gMax [.int i,.int j] Z = some (.int (if j > i then j else i),Z) := (rfl)
@[simp] theorem min_ii (i j : Int) (Z : Sto) : gMin [.int i,.int j] Z = some (.int (if j < i then j else i),Z) := (rfl)
@[simp] theorem int_i (i : Int) (Z : Sto) : gInt [.int i] Z = some (.int i,Z) := (rfl)
@[simp] theorem int_b (b : Bool) (Z : Sto) : gInt [.bl b] Z = some (.int (if b then 1 else 0),Z) := (rfl)
@[simp] theorem tuple_l (n : Nat) (Z : Sto) : gTuple [.loc n] Z = match getL Z n with | some ts => some (.tup ts,Z) | none => none := by
  simp only [gTuple,asList,getL]
  cases Z[n]? with
  | none => rfl
  | some o => cases o <;> rfl
@[simp] theorem app_l (n : Nat) (t : T) (Z : Sto) : gAppend (.loc n) [t] Z = match getL Z n with | some ts => if ts.length < Lim then some (.non,Z.set n (.lst (ts ++ [t]))) else none | none => none := (rfl)
@[simp] theorem set_l (n : Nat) (i : Int) (t : T) (Z : Sto) : gSetL (.loc n) (.int i) t Z = match getL Z n with | some ts => (ixN ts.length i).map fun m => Z.set n (.lst (ts.set m t)) | none => none := (rfl)
theorem Z3z {Z : Sto} {i : Nat} {ts : List T} : getL Z i = some ts ↔ Z[i]? = some (.lst ts) := ⟨Uy,fun h => by unfold getL; rw [h]⟩
@[simp] theorem N5 (Z : Sto) (ts : List T) : getL (Z ++ [.lst ts]) Z.length = some ts := by simp [getL]
theorem Z77 {Z Y : Sto} {i : Nat} {ts : List T} (h : getL Z i = some ts) : getL (Z ++ Y) i = some ts := by
  rw [Z3z] at h ⊢
  rw [List.getElem?_append_left (List.getElem?_eq_some_iff.mp h).1]; exact h
theorem Z78 {Z : Sto} {i : Nat} {ts us : List T} (h : getL Z i = some ts) : getL (Z.set i (.lst us)) i = some us := by
  rw [Z3z] at h ⊢
  rw [List.getElem?_set_self (List.getElem?_eq_some_iff.mp h).1]
theorem Z66 {Z : Sto} {i j : Nat} {o : O} (h : i ≠ j) : getL (Z.set i o) j = getL Z j := by unfold getL; rw [List.getElem?_set_ne h]
theorem Zd3 {Z : Sto} {i : Nat} {ts : List T} (h : getL Z i = some ts) : i < Z.length := (List.getElem?_eq_some_iff.mp (Uy h)).1
@[simp] theorem isTy_s (l : List Nat) (Z : Sto) : isTy "str" (.str l) Z = true := (rfl)
@[simp] theorem atI_0 {α : Type} (a : α) (l : List α) : atI (a :: l) 0 = some a := by simp [atI,ixN]
@[simp] theorem atI_1 {α : Type} (a b : α) (l : List α) : atI (a :: b :: l) 1 = some b := by
  have h : (1 : Int) < ((a :: b :: l).length : Int) := by simp; omega
  simp only [atI,ixN]
  rw [if_pos (by decide),if_pos h]; rfl
@[simp] theorem atI_2 {α : Type} (a b c : α) (l : List α) : atI (a :: b :: c :: l) 2 = some c := by
  have h : (2 : Int) < ((a :: b :: c :: l).length : Int) := by simp; omega
  simp only [atI,ixN]
  rw [if_pos (by decide),if_pos h]; rfl
@[simp] theorem atI_3 {α : Type} (a b c d : α) (l : List α) : atI (a :: b :: c :: d :: l) 3 = some d := by
  have h : (3 : Int) < ((a :: b :: c :: d :: l).length : Int) := by simp; omega
  simp only [atI,ixN]
  rw [if_pos (by decide),if_pos h]; rfl
theorem atI_nat {α : Type} {l : List α} {k : Nat} {a : α} (h : l[k]? = some a) : atI l (k : Int) = some a := by
  have hk := (List.getElem?_eq_some_iff.mp h).1
  simp only [atI,ixN]
  rw [if_pos (Int.natCast_nonneg k),if_pos (by omega)]
  exact h
section
theorem kk (n : String) : True := trivial
@[simp] theorem kit_1 : kitB "int" "int" = some true := by decide +kernel
@[simp] theorem kit_2 : kitB "bool" "int" = some true := by decide +kernel
@[simp] theorem kit_3 : kitB "str" "int" = some false := by decide +kernel
@[simp] theorem kit_4 : kitB "NoneType" "int" = some false := by decide +kernel
@[simp] theorem kit_5 : kitB "tuple" "int" = some false := by decide +kernel
@[simp] theorem kit_6 : kitB "list" "int" = some false := by decide +kernel
@[simp] theorem kit_7 : kitB "dict" "int" = some false := by decide +kernel
@[simp] theorem kit_11 : kitB "int" "bool" = some false := by decide +kernel
@[simp] theorem kit_12 : kitB "bool" "bool" = some true := by decide +kernel
@[simp] theorem kit_13 : kitB "str" "bool" = some false := by decide +kernel
@[simp] theorem kit_14 : kitB "NoneType" "bool" = some false := by decide +kernel
@[simp] theorem kit_15 : kitB "tuple" "bool" = some false := by decide +kernel
@[simp] theorem kit_16 : kitB "list" "bool" = some false := by decide +kernel
@[simp] theorem kit_17 : kitB "dict" "bool" = some false := by decide +kernel
@[simp] theorem kit_21 : kitB "int" "str" = some false := by decide +kernel
@[simp] theorem kit_22 : kitB "bool" "str" = some false := by decide +kernel
@[simp] theorem kit_23 : kitB "str" "str" = some true := by decide +kernel
@[simp] theorem kit_24 : kitB "NoneType" "str" = some false := by decide +kernel
@[simp] theorem kit_25 : kitB "tuple" "str" = some false := by decide +kernel
@[simp] theorem kit_26 : kitB "list" "str" = some false := by decide +kernel
@[simp] theorem kit_27 : kitB "dict" "str" = some false := by decide +kernel
@[simp] theorem kit_31 : kitB "int" "tuple" = some false := by decide +kernel
@[simp] theorem kit_32 : kitB "bool" "tuple" = some false := by decide +kernel
@[simp] theorem kit_33 : kitB "str" "tuple" = some false := by decide +kernel
@[simp] theorem kit_34 : kitB "NoneType" "tuple" = some false := by decide +kernel
@[simp] theorem kit_35 : kitB "tuple" "tuple" = some true := by decide +kernel
@[simp] theorem kit_36 : kitB "list" "tuple" = some false := by decide +kernel
@[simp] theorem kit_37 : kitB "dict" "tuple" = some false := by decide +kernel
@[simp] theorem kit_41 : kitB "int" "list" = some false := by decide +kernel
@[simp] theorem kit_42 : kitB "bool" "list" = some false := by decide +kernel
@[simp] theorem kit_43 : kitB "str" "list" = some false := by decide +kernel
@[simp] theorem kit_44 : kitB "NoneType" "list" = some false := by decide +kernel
@[simp] theorem kit_45 : kitB "tuple" "list" = some false := by decide +kernel
@[simp] theorem kit_46 : kitB "list" "list" = some true := by decide +kernel
@[simp] theorem kit_47 : kitB "dict" "list" = some false := by decide +kernel
@[simp] theorem kit_51 : kitB "int" "dict" = some false := by decide +kernel
@[simp] theorem kit_52 : kitB "bool" "dict" = some false := by decide +kernel
@[simp] theorem kit_53 : kitB "str" "dict" = some false := by decide +kernel
@[simp] theorem kit_54 : kitB "NoneType" "dict" = some false := by decide +kernel
@[simp] theorem kit_55 : kitB "tuple" "dict" = some false := by decide +kernel
@[simp] theorem kit_56 : kitB "list" "dict" = some false := by decide +kernel
@[simp] theorem kit_57 : kitB "dict" "dict" = some true := by decide +kernel
end
@[simp] theorem ty_non (Z : Sto) : tyT .non Z = some "NoneType" := (rfl)
@[simp] theorem ty_bl (b : Bool) (Z : Sto) : tyT (.bl b) Z = some "bool" := (rfl)
@[simp] theorem ty_int (b : Int) (Z : Sto) : tyT (.int b) Z = some "int" := (rfl)
@[simp] theorem ty_str (b : List Nat) (Z : Sto) : tyT (.str b) Z = some "str" := (rfl)
@[simp] theorem ty_tup (b : List T) (Z : Sto) : tyT (.tup b) Z = some "tuple" := (rfl)
@[simp] theorem ty_frl (b : List T) (Z : Sto) : tyT (.frl b) Z = some "list" := (rfl)
@[simp] theorem isiB (t : T) (n : String) (Z : Sto) : gIsiB t (.ty n) Z = (tyT t Z).bind fun a => kitB a n := by
  simp only [gIsiB,clsT]
  cases tyT t Z <;> rfl
@[simp] theorem isi_1 (t : T) (n : String) (Z : Sto) : gIsi [t,.ty n] Z = ((tyT t Z).bind fun a => kitB a n).map fun b => (.bl b,Z) := by
  simp only [gIsi,isiB]
@[simp] theorem isi_2 (t : T) (n m : String) (Z : Sto) : gIsi [t,.tup [.ty n,.ty m]] Z = if (tyT t Z).isSome = true then (((tyT t Z).bind fun a => kitB a n).bind fun b => ((tyT t Z).bind fun a => kitB a m).map fun c => (.bl (b || c),Z)) else none := by
  simp only [gIsi,List.mapM_cons,List.mapM_nil,isiB]
  cases tyT t Z with
  | none => rfl
  | some a =>
    simp only [Option.bind_some,Option.isSome_some,if_true]
    cases kitB a n <;> cases kitB a m <;> simp
def loopF (body : T → FS) : List T → Env → Sto → RS
  | [],ρ,Z => .nx ρ Z
  | t :: ts, ρ, Z => seqL (body t ρ Z) fun ρ' Z' => loopF body ts ρ' Z'
theorem Z55 (ts : List T) (body : T → FS) : ∀ (n k : Nat) (ρ : Env) (Z : Sto),ts.length < n + k → k ≤ ts.length → loopN (itSeq ts) body n k ρ Z = loopF body (ts.drop k) ρ Z
  | 0,k,ρ,Z,h,_ => by omega
  | n + 1,k,ρ,Z,h,_ => by
    unfold loopN
    simp only [itSeq]
    cases e : ts[k]? with
    | none =>
      rw [List.drop_of_length_le (List.getElem?_eq_none_iff.mp e)]; rfl
    | some t =>
      have hk := (List.getElem?_eq_some_iff.mp e).1
      rw [List.drop_eq_getElem_cons hk]
      have e2 : ts[k] = t := (List.getElem?_eq_some_iff.mp e).2
      rw [e2]
      simp only [loopF]
      congr 1
      funext ρ' Z'
      exact Z55 ts body n (k + 1) ρ' Z' (by omega) hk
theorem Z56 (lo : Int) (m : Nat) (body : T → FS) : ∀ (n k : Nat) (ρ : Env) (Z : Sto), m < n + k → k ≤ m → loopN (itRng lo m) body n k ρ Z = loopF body ((List.range' k (m - k)).map fun (i : Nat) => T.int (lo + (i : Int))) ρ Z
  | 0,k,ρ,Z,h,_ => by omega
  | n + 1,k,ρ,Z,h,_ => by
    unfold loopN
    simp only [itRng]
    by_cases hk : k < m
    · rw [if_pos hk]
      have e : m - k = (m - (k + 1)) + 1 := by omega
      rw [e, List.range'_succ, List.map_cons]
      simp only [loopF]
      congr 1
      funext ρ' Z'
      exact Z56 lo m body n (k + 1) ρ' Z' (by omega) hk
    · rw [if_neg hk]
      have : m - k = 0 := by omega
      rw [this]; rfl
theorem Z57 {body : T → FS} {ts : List T} (I : List T → Env → Sto → Prop) (Rt : T → Sto → Prop) : ∀ {pre : List T} {post : List T} {ρ : Env} {Z : Sto},ts = pre ++ post → I pre ρ Z →
    (∀ pre x post ρ Z, ts = pre ++ x :: post → I pre ρ Z → (∃ ρ' Z', (body x ρ Z = .nx ρ' Z' ∨ body x ρ Z = .ct ρ' Z') ∧ I (pre ++ [x]) ρ' Z') ∨ (∃ t Z', body x ρ Z = .rt t Z' ∧ Rt t Z')) →
    (∃ ρ' Z', loopF body post ρ Z = .nx ρ' Z' ∧ I ts ρ' Z') ∨ (∃ t Z', loopF body post ρ Z = .rt t Z' ∧ Rt t Z') := by
  intro pre post
  induction post generalizing pre with
  | nil =>
    intro ρ Z e i _
    rw [List.append_nil] at e
    exact .inl ⟨ρ,Z,rfl,by rw [e]; exact i⟩
  | cons x post ih =>
    intro ρ Z e i h
    rcases h pre x post ρ Z e i with ⟨ρ', Z', hb, i'⟩ | ⟨t, Z', hb, hr⟩
    · have e2 : loopF body (x :: post) ρ Z = loopF body post ρ' Z' := by
        rcases hb with hb | hb <;> simp only [loopF,hb,Zcl,Zcm]
      rw [e2]
      exact ih (by rw [e, List.append_assoc]; rfl) i' h
    · refine .inr ⟨t, Z', ?_, hr⟩
      simp only [loopF,hb,Zcn]
theorem Z58 {body : T → FS} {ts : List T} (I : List T → Env → Sto → Prop) {ρ : Env} {Z : Sto} (h0 : I [] ρ Z) (h : ∀ pre x post ρ Z, ts = pre ++ x :: post → I pre ρ Z → ∃ ρ' Z', (body x ρ Z = .nx ρ' Z' ∨ body x ρ Z = .ct ρ' Z') ∧ I (pre ++ [x]) ρ' Z') :
    ∃ ρ' Z', loopF body ts ρ Z = .nx ρ' Z' ∧ I ts ρ' Z' := by
  rcases Z57 I (fun _ _ => False) (pre := []) (post := ts) rfl h0 (fun pre x post ρ Z e i => .inl (h pre x post ρ Z e i)) with h | ⟨_,_,_,h⟩
  · exact h
  · exact h.elim
@[simp] theorem mulOk_r (i j : Int) (h1 : -(2 ^ 64) < j) (h2 : j < 2 ^ 64) : mulOk i j = true := by simp only [mulOk,decide_eq_true h1,decide_eq_true h2,Bool.and_true,Bool.or_true]
@[simp] theorem Zd4 (i j : Int) (h1 : -(2 ^ 64) < i) (h2 : i < 2 ^ 64) : mulOk i j = true := by simp only [mulOk,decide_eq_true h1,decide_eq_true h2,Bool.and_true,Bool.true_or]
@[simp] theorem Ze1 (x y m : Int) (h1 : 0 < m) (h2 : m ≤ 2 ^ 64) : mulOk (x % m) y = true := Zd4 _ _ (by have := Int.emod_nonneg x (Int.ne_of_gt h1); omega) (by have := Int.emod_lt_of_pos x h1; omega)
@[simp] theorem ixN3_0 : ixN 3 0 = some 0 := (rfl)
@[simp] theorem ixN3_1 : ixN 3 1 = some 1 := (rfl)
@[simp] theorem ixN3_2 : ixN 3 2 = some 2 := (rfl)
theorem modN (x : Int) {n : Nat} (h : 0 < n) : ∃ r : Nat,r < n ∧ x % (n : Int) = (r : Int) :=
  ⟨(x % n).toNat,by have := Int.emod_lt_of_pos x (by omega : (0 : Int) < n); have := Int.emod_nonneg x (by omega : (n : Int) ≠ 0); omega,by have := Int.emod_nonneg x (by omega : (n : Int) ≠ 0); omega⟩
theorem Qt {ts : List T} {body : T → FS} {ρ : Env} {Z : Sto} (h : ts.length ≤ Lim) : loopN (itSeq ts) body Fuel 0 ρ Z = loopF body ts ρ Z := by
  rw [Z5k]; exact Z55 ts body (Lim + 2) 0 ρ Z (by omega) (Nat.zero_le _)
theorem Z3g {lo : Int} {m : Nat} {body : T → FS} {ρ : Env} {Z : Sto} (h : m ≤ Lim) : loopN (itRng lo m) body Fuel 0 ρ Z = loopF body ((List.range m).map fun (i : Nat) => T.int (lo + (i : Int))) ρ Z := by
  rw [Z5k, Z56 lo m body (Lim + 2) 0 ρ Z (by omega) (Nat.zero_le _), Nat.sub_zero, List.range_eq_range']
end Fx
set_option maxHeartbeats 4000000
namespace Fx
open PySem PySem.Spec PyProof.Rows L2 SX Ap
def Wel (Z : Sto) (w : Nat) : Prop := ∃ a b c : Int,getL Z w = some [.int a,.int b,.int c]
structure Kp (w : Nat) (Z Z' : Sto) : Prop where
  wel : Wel Z' w
  len : Z.length ≤ Z'.length
  keep : ∀ i, i < Z.length → i ≠ w → Z'[i]? = Z[i]?
theorem Wel.lt {Z : Sto} {w : Nat} (h : Wel Z w) : w < Z.length := by obtain ⟨_,_,_,h⟩ := h; exact Zd3 h
theorem Kp.refl {w : Nat} {Z : Sto} (h : Wel Z w) : Kp w Z Z := ⟨h,Nat.le_refl _,fun _ _ _ => rfl⟩
theorem Kp.trans {w : Nat} {Z Z1 Z2 : Sto} (a : Kp w Z Z1) (b : Kp w Z1 Z2) : Kp w Z Z2 :=
  ⟨b.wel,Nat.le_trans a.len b.len,fun i hi hn => (b.keep i (Nat.lt_of_lt_of_le hi a.len) hn).trans (a.keep i hi hn)⟩
theorem Kp.new {w : Nat} {Z Y : Sto} (h : Wel Z w) : Kp w Z (Z ++ Y) := by
  refine ⟨?_,by rw [List.length_append]; omega,fun i hi _ => List.getElem?_append_left hi⟩
  obtain ⟨a,b,c,e⟩ := h
  exact ⟨a,b,c,Z77 e⟩
theorem Kp.turn {w : Nat} {Z : Sto} {a b c : Int} (h : Wel Z w) : Kp w Z (Z.set w (.lst [.int a,.int b,.int c])) := by
  obtain ⟨x,y,z,e⟩ := h
  exact ⟨⟨a,b,c,Z78 e⟩,by rw [List.length_set]; omega,fun i _ hn => List.getElem?_set_ne (Ne.symm hn)⟩
theorem Kp.set {w i : Nat} {Z : Sto} {o : O} (h : Wel Z w) (hi : i ≠ w) : Wel (Z.set i o) w := by
  obtain ⟨x,y,z,e⟩ := h
  exact ⟨x,y,z,by rw [Z66 hi]; exact e⟩
theorem Kp.getL {w i : Nat} {Z Z' : Sto} {ts : List T} (k : Kp w Z Z') (hn : i ≠ w) (h : getL Z i = some ts) : getL Z' i = some ts := by
  rw [Z3z] at h ⊢
  rw [k.keep i (List.getElem?_eq_some_iff.mp h).1 hn]; exact h
@[simp] theorem Z0z (Z Y : Sto) (k : Nat) : getL (Z ++ Y) (Z.length + k) = getL Y k := by
  unfold getL
  rw [List.getElem?_append_right (by omega),Nat.add_sub_cancel_left]
@[simp] theorem Zf2 (Z Y : Sto) : getL (Z ++ Y) Z.length = getL Y 0 := Z0z Z Y 0
@[simp] theorem getL_c0 (ts : List T) (Y : Sto) : getL (.lst ts :: Y) 0 = some ts := (rfl)
@[simp] theorem getL_cS (o : O) (Y : Sto) (k : Nat) : getL (o :: Y) (k + 1) = getL Y k := (rfl)
@[simp] theorem getL_c1 (o : O) (Y : Sto) : getL (o :: Y) 1 = getL Y 0 := (rfl)
@[simp] theorem getL_c2 (o : O) (Y : Sto) : getL (o :: Y) 2 = getL Y 1 := (rfl)
@[simp] theorem getL_c3 (o : O) (Y : Sto) : getL (o :: Y) 3 = getL Y 2 := (rfl)
@[simp] theorem getL_c4 (o : O) (Y : Sto) : getL (o :: Y) 4 = getL Y 3 := (rfl)
@[simp] theorem getL_c5 (o : O) (Y : Sto) : getL (o :: Y) 5 = getL Y 4 := (rfl)
@[simp] theorem getL_c6 (o : O) (Y : Sto) : getL (o :: Y) 6 = getL Y 5 := (rfl)
@[simp] theorem getL_c7 (o : O) (Y : Sto) : getL (o :: Y) 7 = getL Y 6 := (rfl)
@[simp] theorem getL_c8 (o : O) (Y : Sto) : getL (o :: Y) 8 = getL Y 7 := (rfl)
@[simp] theorem getL_c9 (o : O) (Y : Sto) : getL (o :: Y) 9 = getL Y 8 := (rfl)
@[simp] theorem getL_c10 (o : O) (Y : Sto) : getL (o :: Y) 10 = getL Y 9 := (rfl)
@[simp] theorem getL_c11 (o : O) (Y : Sto) : getL (o :: Y) 11 = getL Y 10 := (rfl)
@[simp] theorem getL_c12 (o : O) (Y : Sto) : getL (o :: Y) 12 = getL Y 11 := (rfl)
@[simp] theorem Zd5 (Z Y : Sto) (k : Nat) (o : O) : (Z ++ Y).set (Z.length + k) o = Z ++ Y.set k o := by
  rw [List.set_append_right _ _ (by omega),Nat.add_sub_cancel_left]
@[simp] theorem set_add0 (Z Y : Sto) (o : O) : (Z ++ Y).set Z.length o = Z ++ Y.set 0 o := Zd5 Z Y 0 o
@[simp] theorem Zas (n : String) (Z Y : Sto) (k : Nat) : isTy n (.loc (Z.length + k)) (Z ++ Y) = isTy n (.loc k) Y := by
  simp only [isTy]
  rw [List.getElem?_append_right (by omega),Nat.add_sub_cancel_left]
@[simp] theorem Zf3 (n : String) (Z Y : Sto) : isTy n (.loc Z.length) (Z ++ Y) = isTy n (.loc 0) Y := Zas n Z Y 0
@[simp] theorem Zd6 (Z Y : Sto) (k : Nat) : tyT (.loc (Z.length + k)) (Z ++ Y) = tyT (.loc k) Y := by
  simp only [tyT]
  rw [List.getElem?_append_right (by omega),Nat.add_sub_cancel_left]
@[simp] theorem tyT_add0 (Z Y : Sto) : tyT (.loc Z.length) (Z ++ Y) = tyT (.loc 0) Y := Zd6 Z Y 0
theorem numL_len : ∀ n : Nat,(TL.numL n).length ≤ n + 1 := by
  intro n
  induction n using Nat.strongRecOn with
  | _ n ih =>
    by_cases h : n < 10
    · rw [TL.numL_lt h]; simp
    · rw [TL.numL_step (by omega),List.length_append]
      have := ih (n / 10) (by omega)
      simp only [List.length_cons,List.length_nil]
      omega
theorem eq_self {x : T} {Z : Sto} {d : PyData} (hs : eqS x x = none) (h : toD 16 Z x = some d) (sh : SeqAt.shaped d = true) : gEqB x x Z = some true := by
  have e : PyData.eqv d d = true := SeqAt.eqv_refl d (SeqAt.canLay_of_shaped sh)
  simp only [gEqB,hs,gEqD,h,sh,and_self,if_true,e]
def OkW (r : R T) (P : T → Sto → Prop) : Prop := match r with
  | .ok t Z => P t Z
  | _ => False
@[simp] theorem okW_ok (t : T) (Z : Sto) (P : T → Sto → Prop) : OkW (.ok t Z) P = P t Z := (rfl)
theorem OkW.out {r : R T} {P : T → Sto → Prop} (h : OkW r P) : ∃ t Z,r = .ok t Z ∧ P t Z := by
  cases r with
  | ok t Z => exact ⟨t,Z,rfl,h⟩
  | _ => exact h.elim
@[simp] theorem lim_0 : (0 ≤ Lim) := by decide
@[simp] theorem limlt_0 : (0 < Lim) := by decide
@[simp] theorem lim_1 : (1 ≤ Lim) := by decide
@[simp] theorem limlt_1 : (1 < Lim) := by decide
@[simp] theorem lim_2 : (2 ≤ Lim) := by decide
@[simp] theorem limlt_2 : (2 < Lim) := by decide
@[simp] theorem lim_3 : (3 ≤ Lim) := by decide
@[simp] theorem limlt_3 : (3 < Lim) := by decide
@[simp] theorem lim_4 : (4 ≤ Lim) := by decide
@[simp] theorem limlt_4 : (4 < Lim) := by decide
@[simp] theorem lim_5 : (5 ≤ Lim) := by decide
@[simp] theorem limlt_5 : (5 < Lim) := by decide
@[simp] theorem lim_6 : (6 ≤ Lim) := by decide
@[simp] theorem limlt_6 : (6 < Lim) := by decide
@[simp] theorem lim_7 : (7 ≤ Lim) := by decide
@[simp] theorem limlt_7 : (7 < Lim) := by decide
@[simp] theorem lim_8 : (8 ≤ Lim) := by decide
@[simp] theorem limlt_8 : (8 < Lim) := by decide
@[simp] theorem lim_9 : (9 ≤ Lim) := by decide
@[simp] theorem limlt_9 : (9 < Lim) := by decide
@[simp] theorem lim_10 : (10 ≤ Lim) := by decide
@[simp] theorem limlt_10 : (10 < Lim) := by decide
@[simp] theorem lim_11 : (11 ≤ Lim) := by decide
@[simp] theorem limlt_11 : (11 < Lim) := by decide
@[simp] theorem lim_12 : (12 ≤ Lim) := by decide
@[simp] theorem limlt_12 : (12 < Lim) := by decide
@[simp] theorem lim_13 : (13 ≤ Lim) := by decide
@[simp] theorem limlt_13 : (13 < Lim) := by decide
@[simp] theorem lim_14 : (14 ≤ Lim) := by decide
@[simp] theorem limlt_14 : (14 < Lim) := by decide
@[simp] theorem lim_15 : (15 ≤ Lim) := by decide
@[simp] theorem limlt_15 : (15 < Lim) := by decide
@[simp] theorem lim_16 : (16 ≤ Lim) := by decide
@[simp] theorem limlt_16 : (16 < Lim) := by decide
@[simp] theorem lim_17 : (17 ≤ Lim) := by decide
@[simp] theorem limlt_17 : (17 < Lim) := by decide
@[simp] theorem lim_18 : (18 ≤ Lim) := by decide
@[simp] theorem limlt_18 : (18 < Lim) := by decide
@[simp] theorem lim_19 : (19 ≤ Lim) := by decide
@[simp] theorem limlt_19 : (19 < Lim) := by decide
@[simp] theorem lim_20 : (20 ≤ Lim) := by decide
@[simp] theorem limlt_20 : (20 < Lim) := by decide
@[simp] theorem lim_21 : (21 ≤ Lim) := by decide
@[simp] theorem limlt_21 : (21 < Lim) := by decide
@[simp] theorem lim_22 : (22 ≤ Lim) := by decide
@[simp] theorem limlt_22 : (22 < Lim) := by decide
@[simp] theorem lim_23 : (23 ≤ Lim) := by decide
@[simp] theorem limlt_23 : (23 < Lim) := by decide
@[simp] theorem lim_24 : (24 ≤ Lim) := by decide
@[simp] theorem limlt_24 : (24 < Lim) := by decide
@[simp] theorem lim_25 : (25 ≤ Lim) := by decide
@[simp] theorem limlt_25 : (25 < Lim) := by decide
@[simp] theorem lim_26 : (26 ≤ Lim) := by decide
@[simp] theorem limlt_26 : (26 < Lim) := by decide
@[simp] theorem lim_27 : (27 ≤ Lim) := by decide
@[simp] theorem limlt_27 : (27 < Lim) := by decide
@[simp] theorem lim_28 : (28 ≤ Lim) := by decide
@[simp] theorem limlt_28 : (28 < Lim) := by decide
@[simp] theorem lim_29 : (29 ≤ Lim) := by decide
@[simp] theorem limlt_29 : (29 < Lim) := by decide
@[simp] theorem lim_30 : (30 ≤ Lim) := by decide
@[simp] theorem limlt_30 : (30 < Lim) := by decide
@[simp] theorem lim_31 : (31 ≤ Lim) := by decide
@[simp] theorem limlt_31 : (31 < Lim) := by decide
@[simp] theorem lim_32 : (32 ≤ Lim) := by decide
@[simp] theorem limlt_32 : (32 < Lim) := by decide
@[simp] theorem lim_33 : (33 ≤ Lim) := by decide
@[simp] theorem limlt_33 : (33 < Lim) := by decide
@[simp] theorem lim_34 : (34 ≤ Lim) := by decide
@[simp] theorem limlt_34 : (34 < Lim) := by decide
@[simp] theorem lim_35 : (35 ≤ Lim) := by decide
@[simp] theorem limlt_35 : (35 < Lim) := by decide
@[simp] theorem lim_36 : (36 ≤ Lim) := by decide
@[simp] theorem limlt_36 : (36 < Lim) := by decide
@[simp] theorem lim_37 : (37 ≤ Lim) := by decide
@[simp] theorem limlt_37 : (37 < Lim) := by decide
@[simp] theorem lim_38 : (38 ≤ Lim) := by decide
@[simp] theorem limlt_38 : (38 < Lim) := by decide
@[simp] theorem lim_39 : (39 ≤ Lim) := by decide
@[simp] theorem limlt_39 : (39 < Lim) := by decide
@[simp] theorem lim_40 : (40 ≤ Lim) := by decide
@[simp] theorem limlt_40 : (40 < Lim) := by decide
@[simp] theorem lim_41 : (41 ≤ Lim) := by decide
@[simp] theorem limlt_41 : (41 < Lim) := by decide
@[simp] theorem lim_42 : (42 ≤ Lim) := by decide
@[simp] theorem limlt_42 : (42 < Lim) := by decide
@[simp] theorem lim_43 : (43 ≤ Lim) := by decide
@[simp] theorem limlt_43 : (43 < Lim) := by decide
@[simp] theorem lim_44 : (44 ≤ Lim) := by decide
@[simp] theorem limlt_44 : (44 < Lim) := by decide
@[simp] theorem lim_45 : (45 ≤ Lim) := by decide
@[simp] theorem limlt_45 : (45 < Lim) := by decide
@[simp] theorem lim_46 : (46 ≤ Lim) := by decide
@[simp] theorem limlt_46 : (46 < Lim) := by decide
@[simp] theorem lim_47 : (47 ≤ Lim) := by decide
@[simp] theorem limlt_47 : (47 < Lim) := by decide
@[simp] theorem lim_48 : (48 ≤ Lim) := by decide
@[simp] theorem limlt_48 : (48 < Lim) := by decide
@[simp] theorem isTy_c1 (n : String) (o : O) (Y : Sto) : isTy n (.loc 1) (o :: Y) = isTy n (.loc 0) Y := (rfl)
@[simp] theorem isTy_c2 (n : String) (o : O) (Y : Sto) : isTy n (.loc 2) (o :: Y) = isTy n (.loc 1) Y := (rfl)
@[simp] theorem isTy_c3 (n : String) (o : O) (Y : Sto) : isTy n (.loc 3) (o :: Y) = isTy n (.loc 2) Y := (rfl)
@[simp] theorem isTy_c4 (n : String) (o : O) (Y : Sto) : isTy n (.loc 4) (o :: Y) = isTy n (.loc 3) Y := (rfl)
@[simp] theorem isTy_c5 (n : String) (o : O) (Y : Sto) : isTy n (.loc 5) (o :: Y) = isTy n (.loc 4) Y := (rfl)
@[simp] theorem isTy_c6 (n : String) (o : O) (Y : Sto) : isTy n (.loc 6) (o :: Y) = isTy n (.loc 5) Y := (rfl)
@[simp] theorem isTy_c7 (n : String) (o : O) (Y : Sto) : isTy n (.loc 7) (o :: Y) = isTy n (.loc 6) Y := (rfl)
@[simp] theorem isTy_c8 (n : String) (o : O) (Y : Sto) : isTy n (.loc 8) (o :: Y) = isTy n (.loc 7) Y := (rfl)
@[simp] theorem isTy_c9 (n : String) (o : O) (Y : Sto) : isTy n (.loc 9) (o :: Y) = isTy n (.loc 8) Y := (rfl)
@[simp] theorem isTy_c10 (n : String) (o : O) (Y : Sto) : isTy n (.loc 10) (o :: Y) = isTy n (.loc 9) Y := (rfl)
@[simp] theorem isTy_c11 (n : String) (o : O) (Y : Sto) : isTy n (.loc 11) (o :: Y) = isTy n (.loc 10) Y := (rfl)
@[simp] theorem isTy_c12 (n : String) (o : O) (Y : Sto) : isTy n (.loc 12) (o :: Y) = isTy n (.loc 11) Y := (rfl)
@[simp] theorem tyT_c1 (o : O) (Y : Sto) : tyT (.loc 1) (o :: Y) = tyT (.loc 0) Y := (rfl)
@[simp] theorem tyT_c2 (o : O) (Y : Sto) : tyT (.loc 2) (o :: Y) = tyT (.loc 1) Y := (rfl)
@[simp] theorem tyT_c3 (o : O) (Y : Sto) : tyT (.loc 3) (o :: Y) = tyT (.loc 2) Y := (rfl)
@[simp] theorem tyT_c4 (o : O) (Y : Sto) : tyT (.loc 4) (o :: Y) = tyT (.loc 3) Y := (rfl)
@[simp] theorem tyT_c5 (o : O) (Y : Sto) : tyT (.loc 5) (o :: Y) = tyT (.loc 4) Y := (rfl)
@[simp] theorem tyT_c6 (o : O) (Y : Sto) : tyT (.loc 6) (o :: Y) = tyT (.loc 5) Y := (rfl)
@[simp] theorem tyT_c7 (o : O) (Y : Sto) : tyT (.loc 7) (o :: Y) = tyT (.loc 6) Y := (rfl)
@[simp] theorem tyT_c8 (o : O) (Y : Sto) : tyT (.loc 8) (o :: Y) = tyT (.loc 7) Y := (rfl)
@[simp] theorem tyT_c9 (o : O) (Y : Sto) : tyT (.loc 9) (o :: Y) = tyT (.loc 8) Y := (rfl)
@[simp] theorem tyT_c10 (o : O) (Y : Sto) : tyT (.loc 10) (o :: Y) = tyT (.loc 9) Y := (rfl)
@[simp] theorem tyT_c11 (o : O) (Y : Sto) : tyT (.loc 11) (o :: Y) = tyT (.loc 10) Y := (rfl)
@[simp] theorem tyT_c12 (o : O) (Y : Sto) : tyT (.loc 12) (o :: Y) = tyT (.loc 11) Y := (rfl)
@[simp] theorem isTy_c0 (ts : List T) (Y : Sto) : isTy "list" (.loc 0) (.lst ts :: Y) = true := (rfl)
@[simp] theorem tyT_c0 (ts : List T) (Y : Sto) : tyT (.loc 0) (.lst ts :: Y) = some "list" := (rfl)
@[simp] theorem tyT_c0k (ts : List (Key × T)) (Y : Sto) : tyT (.loc 0) (.dk ts :: Y) = some "dict" := (rfl)
abbrev StepI (body : T → FS) (ts : List T) (I : List T → Env → Sto → Prop) (Rt : T → Sto → Prop) : Prop :=
  ∀ pre x post ρ Z, ts = pre ++ x :: post → I pre ρ Z → (∃ ρ' Z', (body x ρ Z = .nx ρ' Z' ∨ body x ρ Z = .ct ρ' Z') ∧ I (pre ++ [x]) ρ' Z') ∨ (∃ t Z', body x ρ Z = .rt t Z' ∧ Rt t Z')
theorem Z9e {ts : List T} {body : T → FS} {ρ : Env} {Z : Sto} (I : List T → Env → Sto → Prop) (Rt : T → Sto → Prop) (hl : ts.length ≤ Lim) (h0 : I [] ρ Z) (h : StepI body ts I Rt) :
    (∃ ρ' Z', loopN (itSeq ts) body Fuel 0 ρ Z = .nx ρ' Z' ∧ I ts ρ' Z') ∨ (∃ t Z', loopN (itSeq ts) body Fuel 0 ρ Z = .rt t Z' ∧ Rt t Z') := by
  rw [Qt hl]
  exact Z57 I Rt (pre := []) rfl h0 h
theorem Z9f {ts : List T} {body : T → FS} {ρ : Env} {Z : Sto} (I : Env → Sto → Prop) (hl : ts.length ≤ Lim) (h0 : I ρ Z) (h : ∀ x ∈ ts, ∀ ρ Z, I ρ Z → ∃ ρ' Z', body x ρ Z = .nx ρ' Z' ∧ I ρ' Z') :
    ∃ ρ' Z', loopN (itSeq ts) body Fuel 0 ρ Z = .nx ρ' Z' ∧ I ρ' Z' := by
  rcases Z9e (ts := ts) (fun _ => I) (fun _ _ => False) hl h0 (fun pre x post ρ Z e k => by
    obtain ⟨ρ', Z', hb, k'⟩ := h x (by rw [e]; simp) ρ Z k
    exact .inl ⟨ρ', Z', .inl hb, k'⟩) with r | ⟨_, _, _, r⟩
  · exact r
  · exact r.elim
theorem Z59 {m : Nat} {body : T → FS} {ρ : Env} {Z : Sto} (I : Env → Sto → Prop) (hl : m ≤ Lim) (h0 : I ρ Z) (h : ∀ k < m, ∀ ρ Z, I ρ Z → ∃ ρ' Z', body (.int (k : Int)) ρ Z = .nx ρ' Z' ∧ I ρ' Z') :
    ∃ ρ' Z', loopN (itRng 0 m) body Fuel 0 ρ Z = .nx ρ' Z' ∧ I ρ' Z' := by
  rw [Z3g hl]
  refine Z58 (fun _ => I) h0 fun pre x post ρ Z e k => ?_
  have hx : x ∈ (List.range m).map fun (i : Nat) => T.int ((0 : Int) + (i : Int)) := by rw [e]; simp
  obtain ⟨j,hj,rfl⟩ := List.mem_map.mp hx
  obtain ⟨ρ', Z', hb, k'⟩ := h j (List.mem_range.mp hj) ρ Z k
  refine ⟨ρ', Z', .inl ?_, k'⟩
  rw [Int.zero_add]; exact hb
end Fx
set_option maxHeartbeats 4000000
namespace Fx
open PySem PySem.Spec PyProof.Rows L2 SX Ap
theorem Z19 {it : ItF} {D : Nat} {put : T → Option Env} {c : FT} {e : FE} {ts : List T} (I : List T → List T → Sto → Prop) (hit : ∀ pre acc Z,pre.length ≤ ts.length → I pre acc Z → it pre.length Z = some ts[pre.length]?) (hI : ∀ pre acc Z,I pre acc Z → getL Z D = some acc)
    (h : ∀ pre x post acc Z,ts = pre ++ x :: post → I pre acc Z → ∃ ρ,put x = some ρ ∧ ((∃ Z1,c ρ Z = .ok false Z1 ∧ I (pre ++ [x]) acc Z1) ∨ ∃ Z1 y Z2,c ρ Z = .ok true Z1 ∧ e ρ Z1 = .ok y Z2 ∧ getL Z2 D = some acc ∧ I (pre ++ [x]) (acc ++ [y]) (Z2.set D (.lst (acc ++ [y]))))) :
    ∀ (post pre acc : List T) (Z : Sto) (n : Nat), ts = pre ++ post → ts.length < n + pre.length → acc.length + post.length ≤ Lim → I pre acc Z → ∃ acc' Z', loopC it D put c e n pre.length Z = .ok (.loc D) Z' ∧ I ts acc' Z'
  | [],pre,acc,Z,n,et,hn,hl,hi => by
    rw [List.append_nil] at et
    subst et
    cases n with
    | zero => omega
    | succ n =>
      refine ⟨acc,Z,?_,hi⟩
      unfold loopC
      rw [hit _ _ _ (Nat.le_refl _) hi,List.getElem?_eq_none (Nat.le_refl _)]
  | x :: post,pre,acc,Z,n,et,hn,hl,hi => by
    cases n with
    | zero =>
      have : ts.length = pre.length + (post.length + 1) := by rw [et,List.length_append,List.length_cons]
      omega
    | succ n =>
      have hlen : ts.length = pre.length + (post.length + 1) := by rw [et,List.length_append,List.length_cons]
      have hx : ts[pre.length]? = some x := by rw [et,List.getElem?_append_right (Nat.le_refl _),Nat.sub_self]; rfl
      obtain ⟨ρ,hp,hh⟩ := h pre x post acc Z et hi
      have et2 : ts = (pre ++ [x]) ++ post := by rw [et,List.append_assoc]; rfl
      have hl2 : (pre ++ [x]).length = pre.length + 1 := by rw [List.length_append]; rfl
      unfold loopC
      rw [hit _ _ _ (by omega) hi,hx]
      simp only [hp]
      rcases hh with ⟨Z1,hc,i1⟩ | ⟨Z1,y,Z2,hc,he,hg,i1⟩
      · rw [hc]
        simp only [Zbr,Wo,Bool.false_eq_true,if_false]
        rw [List.length_cons] at hl
        have := Z19 I hit hI h post (pre ++ [x]) acc Z1 n et2 (by omega) (by omega) i1
        rw [hl2] at this
        exact this
      · rw [hc]
        rw [List.length_cons] at hl
        simp only [Zbr,Wo,if_true,he,hg]
        rw [if_pos (by omega)]
        have := Z19 I hit hI h post (pre ++ [x]) (acc ++ [y]) _ n et2 (by omega) (by rw [List.length_append,List.length_singleton]; omega) i1
        rw [hl2] at this
        exact this
theorem Z9g {it : ItF} {D : Nat} {put : T → Option Env} {c : FT} {e : FE} {ts : List T} (hit : ∀ k Z,k ≤ ts.length → it k Z = some ts[k]?) (I : List T → List T → Sto → Prop) (hI : ∀ pre acc Z,I pre acc Z → getL Z D = some acc)
    (h : ∀ pre x post acc Z, ts = pre ++ x :: post → I pre acc Z → ∃ ρ, put x = some ρ ∧ ((∃ Z1, c ρ Z = .ok false Z1 ∧ I (pre ++ [x]) acc Z1) ∨ ∃ Z1 y Z2, c ρ Z = .ok true Z1 ∧ e ρ Z1 = .ok y Z2 ∧ getL Z2 D = some acc ∧ I (pre ++ [x]) (acc ++ [y]) (Z2.set D (.lst (acc ++ [y]))))) (post pre acc : List T) (Z : Sto) (n : Nat) (e1 : ts = pre ++ post) (e2 : ts.length < n + pre.length) (e3 : acc.length + post.length ≤ Lim) (e4 : I pre acc Z) : ∃ acc' Z', loopC it D put c e n pre.length Z = .ok (.loc D) Z' ∧ I ts acc' Z' :=
  Z19 I (fun pre acc Z hl _ => hit _ _ hl) hI h post pre acc Z n e1 e2 e3 e4
theorem Zd7 (ts : List T) : ∀ k Z,k ≤ ts.length → itSeq ts k Z = some ts[k]? := fun _ _ _ => rfl
theorem Zat {m : Nat} {lo : Int} {pre post : List T} {x : T} (h : ((List.range m).map fun (i : Nat) => T.int (lo + (i : Int))) = pre ++ x :: post) : x = .int (lo + (pre.length : Int)) ∧ pre.length < m := by
  have hx : (pre ++ x :: post)[pre.length]? = some x := by rw [List.getElem?_append_right (Nat.le_refl _),Nat.sub_self]; rfl
  have hl := congrArg List.length h
  rw [List.length_map,List.length_range,List.length_append,List.length_cons] at hl
  rw [← h,List.getElem?_map,List.getElem?_range (by omega)] at hx
  exact ⟨(Option.some.inj hx).symm,by omega⟩
theorem Z81 {it : ItF} {put : T → Option Env} {c : FT} {e : FE} {ts : List T} {Z1 : Sto} (hit : ∀ k Z,k ≤ ts.length → it k Z = some ts[k]?) (hl : ts.length ≤ Lim) (p : T → Bool) (f : T → T)
    (h : ∀ x ∈ ts,∃ ρ,put x = some ρ ∧ ∀ acc,c ρ (Z1 ++ [.lst acc]) = .ok (p x) (Z1 ++ [.lst acc]) ∧ (p x = true → e ρ (Z1 ++ [.lst acc]) = .ok (f x) (Z1 ++ [.lst acc]))) :
    loopC it Z1.length put c e Fuel 0 (Z1 ++ [.lst []]) = .ok (.loc Z1.length) (Z1 ++ [.lst ((ts.filter p).map f)]) := by
  obtain ⟨acc, Z', e1, rfl, rfl⟩ := Z9g hit (D := Z1.length) (put := put) (c := c) (e := e) (fun pre acc Z => acc = (pre.filter p).map f ∧ Z = Z1 ++ [.lst acc]) (fun pre acc Z h => by obtain ⟨_, rfl⟩ := h; exact N5 _ _) (fun pre x post acc Z et hi => by
    obtain ⟨rfl,rfl⟩ := hi
    obtain ⟨ρ,hp,hc⟩ := h x (by rw [et]; simp)
    refine ⟨ρ,hp,?_⟩
    cases hx : p x with
    | false => exact .inl ⟨_,by rw [(hc _).1,hx],by simp [List.filter_append,hx]⟩
    | true => exact .inr ⟨_,f x,_,by rw [(hc _).1,hx],(hc _).2 hx,N5 _ _,by simp [List.filter_append,hx]⟩) ts [] [] (Z1 ++ [.lst []]) Fuel rfl (by rw [Z5k]; simp; omega) (by simpa using hl) ⟨rfl,rfl⟩
  exact e1
theorem Z3h (i : Nat) (Z : Sto) : asList (.loc i) Z = getL Z i := by
  simp only [asList,getL]
  all_goals (cases Z[i]? with
    | none => rfl
    | some o => cases o <;> rfl)
@[simp] theorem all_l (n : Nat) (Z : Sto) : gAll [.loc n] Z = (getL Z n).bind fun ts => (bools ts).map fun bs => (.bl (bs.all id),Z) := by
  simp only [gAll,Z3h]
@[simp] theorem any_l (n : Nat) (Z : Sto) : gAny [.loc n] Z = (getL Z n).bind fun ts => (bools ts).map fun bs => (.bl (bs.any id),Z) := by
  simp only [gAny,Z3h]
@[simp] theorem Zd8 (i : Int) (Z : Sto) : gStr [.int i] Z = if i.natAbs < 10 ^ 4300 then some (.str (dec i),Z) else none := (rfl)
@[simp] theorem abs_i (i : Int) (Z : Sto) : gAbs [.int i] Z = some (.int (if i < 0 then -i else i),Z) := (rfl)
@[simp] theorem intT_i (i : Int) (Z : Sto) : gIntT [.int i] Z = some (.int i,Z) := (rfl)
@[simp] theorem intT_b (b : Bool) (Z : Sto) : gIntT [.bl b] Z = some (.int (if b then 1 else 0),Z) := (rfl)
@[simp] theorem Qu (l : List Nat) (Z : Sto) : gIntT [.str l] Z = if l.all (· < 128) = true ∧ l.length ≤ 100000 then (PySem.intText? (S l)).map fun n => (.int n,Z) else none := (rfl)
@[simp] theorem sw_s (a b : List Nat) (Z : Sto) : gStarts (.str a) [.str b] Z = some (.bl (b.isPrefixOf a),Z) := (rfl)
@[simp] theorem in_cs (c : Nat) (l : List Nat) (Z : Sto) : gIn (.str [c]) (.str l) Z = some (.bl (decide (c ∈ l)),Z) := (rfl)
@[simp] theorem nin_cs (c : Nat) (l : List Nat) (Z : Sto) : gNotIn (.str [c]) (.str l) Z = some (.bl (!decide (c ∈ l)),Z) := (rfl)
@[simp] theorem q_callK (F : FF) (g : List T → List T) (fa : FA) (ρ : Env) (Z : Sto) : eCallK F g fa ρ Z = (fa ρ Z).bind fun ts Z1 => F (g ts) Z1 := (rfl)
theorem Z9h (x : T) (ts : List T) (Z : Sto) : gInB x (.tup ts) Z = if flatT x = true ∧ ts.all flatT = true then some (inT x ts) else none := by
  cases x with
  | str l => match l with
    | [] => rfl
    | [_] => rfl
    | _ :: _ :: _ => rfl
  | _ => rfl
@[simp] theorem in_tup (x : T) (ts : List T) (Z : Sto) : gIn x (.tup ts) Z = if flatT x = true ∧ ts.all flatT = true then some (.bl (inT x ts),Z) else none := by
  simp only [gIn,Z9h]
  split <;> rfl
@[simp] theorem Zd9 (x : T) (ts : List T) (Z : Sto) : gNotIn x (.tup ts) Z = if flatT x = true ∧ ts.all flatT = true then some (.bl (!inT x ts),Z) else none := by
  simp only [gNotIn,Z9h]
  split <;> rfl
def okS (l : List Nat) : Bool := l.all (· < 0x110000)
theorem Zda {l : List Nat} (h : okS l = true) : PyData.strOk (S l) = true := by
  unfold PyData.strOk
  rw [← Array.all_toList]
  exact h
theorem Zf4 {l : List Nat} (h : l.all (· < 128) = true) : okS l = true := by
  unfold okS
  rw [List.all_eq_true] at h ⊢
  intro c hc
  have := of_decide_eq_true (h c hc)
  exact decide_eq_true (by omega)
theorem Kp.put {w D : Nat} {Z Z' : Sto} {o : O} (k : Kp w Z Z') (hD : Z.length ≤ D) (hw : w < Z.length) : Kp w Z (Z'.set D o) :=
  ⟨Kp.set k.wel (by omega),by rw [List.length_set]; exact k.len,fun i hi hn => by rw [List.getElem?_set_ne (by omega)]; exact k.keep i hi hn⟩
theorem N6 (a b : List Nat) (Z : Sto) (h : a.length + b.length ≤ Lim) : gAdd (.str a) (.str b) Z = some (.str (a ++ b),Z) := if_pos h
theorem Z67 (a b : List T) (Z : Sto) (h : a.length + b.length ≤ Lim) : gAdd (.tup a) (.tup b) Z = some (.tup (a ++ b),Z) := if_pos h
theorem Zdb (i j : Nat) (Z : Sto) {a b : List T} (h1 : getL Z i = some a) (h2 : getL Z j = some b) (h : a.length + b.length ≤ Lim) : gAdd (.loc i) (.loc j) Z = some (.loc Z.length,Z ++ [.lst (a ++ b)]) := by rw [Zf1,h1,h2]; exact if_pos h
theorem Z40 (a b : List Nat) (Z : Sto) (h : a.length + b.length ≤ Lim) : gIAdd (.str a) (.str b) Z = some (.str (a ++ b),Z) := if_pos h
theorem Z9i (l : List Nat) (Z : Sto) (h : l.length ≤ Lim) : gLen [.str l] Z = some (.int l.length,Z) := if_pos h
theorem Zau (l : List Nat) (lo hi : Option Int) (Z : Sto) (h : l.length ≤ Lim) : gSl (.str l) lo hi Z = some (.str (cutL l lo hi),Z) := if_pos h
theorem Z68 (l : List Nat) (i : Int) (Z : Sto) (h : l.length ≤ Lim) : gIx (.str l) (.int i) Z = (atI l i).map fun c => (.str [c],Z) := if_pos h
theorem Z69 (l : List Nat) (k : Int) (Z : Sto) (h : -100000 ≤ k ∧ k ≤ 100000 ∧ l.length * k.toNat ≤ 100000) : gMul (.str l) (.int k) Z = some (.str (repL k.toNat l),Z) := if_pos h
theorem Zdc (c : Nat) (k : Int) (Z : Sto) (h : -100000 ≤ k ∧ k ≤ 100000) : gMul (.str [c]) (.int k) Z = some (.str (List.replicate k.toNat c),Z) := by
  rw [Z76,if_pos ⟨h.1,h.2,by simp only [List.length_singleton]; omega⟩,Z1p]
theorem Zdd (c n : Nat) (Z : Sto) (h : n ≤ 100000) : gMul (.str [c]) (.int (n : Int)) Z = some (.str (List.replicate n c),Z) := by
  rw [Zdc _ _ _ ⟨by omega,by omega⟩]; rfl
theorem Z10 (i : Int) (Z : Sto) (h : i.natAbs < 10 ^ 4300) : gStr [.int i] Z = some (.str (dec i),Z) := if_pos h
theorem Z9j (l : List Nat) (Z : Sto) (h : l.length ≤ Lim) : truth (.str l) Z = some (!l.isEmpty) := if_pos h
theorem Z0g (n : Nat) (l : List Nat) : (repL n l).length = n * l.length := by
  unfold repL
  induction n with
  | zero => simp
  | succ n ih => rw [List.replicate_succ,List.flatten_cons,List.length_append,ih,Nat.succ_mul,Nat.add_comm]
end Fx
set_option maxHeartbeats 4000000
namespace Fx
open PySem PySem.Spec PyProof.Rows L2 SX
section
variable (ρ : Env) (Z : Sto)
@[simp] theorem q_callN (F : FF) (g : List T → List T → List T) (fa fk : FA) : eCallN F g fa fk ρ Z = (fa ρ Z).bind fun ts Z1 => (fk ρ Z1).bind fun us Z2 => F (g ts us) Z2 := (rfl)
@[simp] theorem q_lam (F : (Sto → R T) → T → FF) (fb : FE) (fa : FA) : eLam F fb fa ρ Z = (fa ρ Z).bind fun ts Z1 => F (fun Z' => fb ρ Z') .non (.non :: ts) Z1 := (rfl)
@[simp] theorem q_ask0 (fl : Sto → R T) (lv : T) : eAsk fl lv 0 (some lv :: ρ) Z = fl Z := by
  unfold eAsk
  exact if_pos rfl
@[simp] theorem q_kdIx (l : List (List Nat × List Nat)) (fe : FE) : eKdIx l fe ρ Z = (fe ρ Z).bind fun x Z1 => match kdGet l x with | some v => .ok (.str v) Z1 | none => .stuck := (rfl)
@[simp] theorem Zf5 (l : List (List Nat × List Nat)) : iKdItems l ρ Z = .ok (itSeq (l.map fun x => .tup [.str x.1,.str x.2])) Z := (rfl)
theorem Zde (nm : PySem.Str) (i : Nat) (b : FS) (fe : Ex → FE) : sTryAs nm i b fe ρ Z = match b ρ Z with
  | .exc x ρ' Z' => if x.cls = nm ∧ i < ρ'.length ∧ x.fs.isEmpty = false then (match fe x (ρ'.set i none) Z' with
    | .ok t Z2 => .rt t Z2
    | _ => .stuck) else .stuck
  | r => r := (rfl)
end
@[simp] theorem pick_nil {α : Type} (l : List α) : pick [] l = [] := (rfl)
@[simp] theorem pick_c0 {α : Type} (ix : List Nat) (a : α) (l : List α) : pick (0 :: ix) (a :: l) = a :: pick ix (a :: l) := (rfl)
theorem lookup_at (f : PySem.Str) (t : T) (r : List (PySem.Str × T)) : List.lookup f ((f,t) :: r) = some t := by rw [List.lookup_cons,beq_self_eq_true]
theorem Z41 (l : List Nat) (c : Nat) (Z : Sto) (h : l.length ≤ Lim) : gRstrip (.str l) [.str [c]] Z = some (.str (Ap.rst c l),Z) := by
  show (if l.length ≤ Lim then some (txt (Txt.rstripChars (S l) (S [c])),Z) else none) = _
  rw [if_pos h,Ap.Z6p,Zal]
@[simp] theorem ne_nn (Z : Sto) : gNe .non .non Z = some (.bl false,Z) := (rfl)
@[simp] theorem eq_nn (Z : Sto) : gEq .non .non Z = some (.bl true,Z) := (rfl)
@[simp] theorem eq_ns (l : List Nat) (Z : Sto) : gEq .non (.str l) Z = some (.bl false,Z) := (rfl)
@[simp] theorem eq_sn (l : List Nat) (Z : Sto) : gEq (.str l) .non Z = some (.bl false,Z) := (rfl)
@[simp] theorem ne_ns (l : List Nat) (Z : Sto) : gNe .non (.str l) Z = some (.bl true,Z) := (rfl)
@[simp] theorem ne_sn (l : List Nat) (Z : Sto) : gNe (.str l) .non Z = some (.bl true,Z) := (rfl)
end Fx
set_option maxHeartbeats 4000000
namespace Ap
open PySem PySem.Spec PyProof.Rows L2 SX
theorem Zdf (n : Nat) : dec (n : Int) = TL.numL n := TL.tl_num n
theorem Zdg (m : Nat) : dec (Int.negSucc m) = 45 :: TL.numL (m + 1) := by
  show (Str.ofString (toString (Int.negSucc m))).cps.toList = _
  have e : toString (Int.negSucc m) = "-" ++ toString (((m + 1 : Nat)) : Int) := rfl
  rw [e]
  have h1 : ∀ a b : String,(Str.ofString (a ++ b)).cps.toList = (Str.ofString a).cps.toList ++ (Str.ofString b).cps.toList := fun a b => by
    rw [signs_ofString,signs_ofString,signs_ofString]
    simp
  rw [h1,show (Str.ofString (toString (((m + 1 : Nat)) : Int))).cps.toList = TL.numL (m + 1) from TL.tl_num (m + 1)]
  rfl
theorem Qv (i : Int) : (∃ n : Nat,i = (n : Int) ∧ dec i = TL.numL n) ∨ ∃ n : Nat,i = -((n + 1 : Nat) : Int) ∧ dec i = 45 :: TL.numL (n + 1) := by
  cases i with
  | ofNat n => exact .inl ⟨n,rfl,Zdf n⟩
  | negSucc m => exact .inr ⟨m,rfl,Zdg m⟩
theorem Wn (n : Nat) : areSigns (TL.numL n) figs = true := by
  unfold areSigns
  rw [decide_eq_false (TL.numL_ne n),Bool.not_false,Bool.true_and,List.all_eq_true]
  exact fun c hc => decide_eq_true (V7.mpr (TL.numL_digits n c hc))
theorem noPre {l : List Nat} {a b : Nat} (hb : ∀ c ∈ l,c ≠ b) : List.isPrefixOf [a,b] l = false := by
  match l,hb with
  | [],_ => rfl
  | [c],_ => simp [List.isPrefixOf]
  | c :: d :: r,hb =>
    have : (b == d) = false := beq_eq_false_iff_ne.mpr (Ne.symm (hb d (by simp)))
    simp [List.isPrefixOf,this]
theorem Z1s {l : List Nat} (h : ∀ c ∈ l,c ∈ figs) : unsg l = l := by
  rcases U8 l with ⟨r,rfl,_⟩ | ⟨r,rfl,_⟩ | ⟨e,_⟩
  · exact absurd (h 43 List.mem_cons_self) (by decide)
  · exact absurd (h 45 List.mem_cons_self) (by decide)
  · exact e
theorem Z11 {l : List Nat} (h : ∀ c ∈ l,c ∈ figs) : intOf l = ((NumText.digitsVal l : Nat) : Int) := by
  unfold intOf
  split
  · exact absurd (h 45 List.mem_cons_self) (by decide)
  · exact absurd (h 43 List.mem_cons_self) (by decide)
  · rfl
theorem Zbs {c : Nat} (h : c ∈ figs) : c ≠ 111 ∧ c ≠ 120 := by have := V7.mp h; omega
theorem Z6a {l : List Nat} (h : areSigns l figs = true) : wholeIn l = some ((NumText.digitsVal l : Nat) : Int) := by
  obtain ⟨h1,h2⟩ := Xo h
  unfold wholeIn
  rw [noPre fun c hc => (Zbs (h2 c hc)).1,noPre fun c hc => (Zbs (h2 c hc)).2,Z1s h2,h,Z11 h2]; rfl
theorem Z82 {l : List Nat} {s : Nat} (hs : s = 43 ∨ s = 45) (h : areSigns l figs = true) : wholeIn (s :: l) = some (if s = 45 then -((NumText.digitsVal l : Nat) : Int) else ((NumText.digitsVal l : Nat) : Int)) := by
  obtain ⟨h1,h2⟩ := Xo h
  have e : unsg (s :: l) = l := by rcases hs with rfl | rfl <;> simp [unsg,List.isPrefixOf]
  have p : ∀ b,List.isPrefixOf [48,b] (s :: l) = false := fun b => by rcases hs with rfl | rfl <;> simp [List.isPrefixOf]
  unfold wholeIn
  rw [p,p,e,h]
  rcases hs with rfl | rfl <;> rfl
theorem Z9k (i : Int) : wholeIn (dec i) = some i := by
  rcases Qv i with ⟨n,rfl,e⟩ | ⟨n,rfl,e⟩
  · rw [e,Z6a (Wn n),TL.numL_val]
  · rw [e,Z82 (.inr rfl) (Wn (n + 1)),TL.numL_val]; rfl
theorem Z9l {l : List Nat} {i : Int} (h : wholeIn l = some i) : canon tInt l = some (dec i) := by
  show (wholeIn l).map dec = _
  rw [h]; rfl
theorem Z5a {c : Nat} {a : List Nat} (h : c ∉ a) : parL c a = (a,[],[]) := by unfold parL; rw [par_head_none h]
theorem Z2k {c : Nat} {p q : List Nat} (h : c ∉ p) : parL c (p ++ c :: q) = (p,[c],q) := by
  unfold parL
  have := par_head (c := c) (sep := []) q h
  rw [show p ++ ([c] ++ q) = p ++ c :: q from rfl] at this
  rw [this]
def zs (k : Nat) : List Nat := List.replicate k 48
theorem Z5b (k : Nat) : (zs k).length = k := List.length_replicate ..
theorem Zf6 (a b : Nat) : zs a ++ zs b = zs (a + b) := List.replicate_append_replicate ..
theorem Zf7 {k c : Nat} (h : c ∈ zs k) : c = 48 := (List.mem_replicate.mp h).2
theorem Z42 (c : Nat) : ∀ l : List Nat,lst c l = l.dropWhile (· == c)
  | [] => rfl
  | d :: l => by
    have ih := Z42 c l
    unfold lst at ih ⊢
    rw [List.takeWhile_cons,List.dropWhile_cons]
    cases h : (d == c)
    · rfl
    · simpa using ih
theorem Zav (c : Nat) (l : List Nat) : rst c l = (l.reverse.dropWhile (· == c)).reverse := by
  rw [← Z42]
  unfold rst lst
  rw [List.drop_reverse,List.reverse_reverse]
theorem Z9m (k : Nat) {l : List Nat} (h : l.head? ≠ some 48) : (zs k ++ l).dropWhile (· == 48) = l := by
  induction k with
  | zero =>
    cases l with
    | nil => rfl
    | cons c l =>
      have : c ≠ 48 := fun e => h (by rw [e]; rfl)
      show (c :: l).dropWhile _ = _
      rw [List.dropWhile_cons,if_neg (by simpa using this)]
  | succ k ih =>
    show (48 :: (zs k ++ l)).dropWhile _ = _
    rw [List.dropWhile_cons,if_pos (by decide)]; exact ih
theorem Zf8 (k : Nat) {l : List Nat} (h : l.head? ≠ some 48) : lst 48 (zs k ++ l) = l := by rw [Z42,Z9m k h]
theorem Zbt (k : Nat) {l : List Nat} (h : l.getLast? ≠ some 48) : rst 48 (l ++ zs k) = l := by
  have e : (zs k).reverse = zs k := List.reverse_replicate ..
  rw [Zav,List.reverse_append,e,Z9m k (by rw [List.head?_reverse]; exact h),List.reverse_reverse]
theorem Z79 (a b : List Nat) : lowE (a ++ b) = lowE a ++ lowE b := List.flatMap_append ..
theorem Z6b : ∀ {l : List Nat},69 ∉ l → lowE l = l
  | [],_ => rfl
  | c :: l,h => by
    have h1 : c ≠ 69 := fun e => h (by rw [e]; exact List.mem_cons_self)
    have h2 : 69 ∉ l := fun e => h (List.mem_cons_of_mem _ e)
    have ih := Z6b h2
    unfold lowE at ih ⊢
    rw [List.flatMap_cons,if_neg h1,ih]; rfl
theorem Z2x {c : Nat} (h : c ∈ figs) : c ≠ 101 ∧ c ≠ 69 ∧ c ≠ 46 ∧ c ≠ 43 ∧ c ≠ 45 := by have := V7.mp h; omega
theorem Zdh {r : List Nat} (h : areSigns (unsg r) figs = true) : 69 ∉ r := fun hm => by
  have h2 := (Xo h).2
  rcases U8 r with ⟨q,rfl,e⟩ | ⟨q,rfl,e⟩ | ⟨e,_⟩
  · rw [e] at h2
    rcases List.mem_cons.mp hm with k | k
    · exact absurd k (by decide)
    · exact (Z2x (h2 _ k)).2.1 rfl
  · rw [e] at h2
    rcases List.mem_cons.mp hm with k | k
    · exact absurd k (by decide)
    · exact (Z2x (h2 _ k)).2.1 rfl
  · rw [e] at h2; exact (Z2x (h2 _ hm)).2.1 rfl
def ptL (pt : Bool) : List Nat := if pt = true then [46] else []
theorem Zdi {A B : List Nat} {pt : Bool} (hA : ∀ c ∈ A,c ∈ figs) (hB : ∀ c ∈ B,c ∈ figs) (hne : A ++ B ≠ []) (hp : pt = false → B = []) : bareIn (A ++ (ptL pt ++ B)) = some (A ++ B,B.length) := by
  have hs : areSigns (A ++ B) figs = true := by
    unfold areSigns
    rw [decide_eq_false hne,Bool.not_false,Bool.true_and,List.all_eq_true]
    intro c hc
    rcases List.mem_append.mp hc with k | k
    · exact decide_eq_true (hA c k)
    · exact decide_eq_true (hB c k)
  have nA : 46 ∉ A := fun h => (Z2x (hA _ h)).2.2.1 rfl
  have e : parL 46 (A ++ (ptL pt ++ B)) = (A,ptL pt,B) := by
    cases pt with
    | true => exact Z2k nA
    | false =>
      rw [hp rfl]
      show parL 46 (A ++ ([] ++ [])) = (A,[],[])
      rw [List.append_nil,List.append_nil]; exact Z5a nA
  unfold bareIn
  rw [e]
  simp only [decide_eq_false hne,hs,Bool.not_true,Bool.or_false,Bool.false_eq_true,if_false]
def decOut (b : List Nat) (n : Nat) (x : Int) : List Nat × Int := if lst 48 b = [] then ([48],0) else (rst 48 (lst 48 b),((lst 48 b).length : Int) - ((rst 48 (lst 48 b)).length : Int) - (n : Int) + x)
theorem Zf9 {W b r : List Nat} {n m : Nat} (h1 : 101 ∉ W) (h2 : 69 ∉ W) (hb : bareIn W = some (b,n)) (hm : m = 101 ∨ m = 69) (hr : areSigns (unsg r) figs = true) : decimalIn (W ++ m :: r) = some (decOut b n (intOf r)) := by
  have e : lowE (W ++ m :: r) = W ++ 101 :: r := by
    rw [Z79,Z6b h2,show m :: r = [m] ++ r from rfl,Z79,Z6b (Zdh hr)]
    rcases hm with rfl | rfl <;> rfl
  unfold decimalIn decOut
  rw [e,Z2k h1]
  have hd : decide (([101] : List Nat) = []) = false := by decide
  simp only [hb,hd,hr,Bool.not_true,Bool.not_false,Bool.and_false,Bool.false_eq_true,if_false,if_true]
  by_cases h : lst 48 b = []
  · rw [if_pos (decide_eq_true h),if_pos h]
  · rw [if_neg (by simpa using h),if_neg h]
structure Fg (F : List Nat) : Prop where
  ne : F ≠ []
  fig : ∀ c ∈ F,c ∈ figs
  hd : F.head? ≠ some 48
  la : F.getLast? ≠ some 48
theorem Z7a {F : List Nat} (h : F ≠ []) (G : List Nat) : (F ++ G).head? = F.head? := by
  cases F with
  | nil => exact absurd rfl h
  | cons c F => rfl
theorem Zaw {F : List Nat} (h : Fg F) (a b n : Nat) (x : Int) : decOut (zs a ++ F ++ zs b) n x = (F,(b : Int) - (n : Int) + x) := by
  have h1 : lst 48 (zs a ++ F ++ zs b) = F ++ zs b := by
    rw [List.append_assoc]
    exact Zf8 a (by rw [Z7a h.ne]; exact h.hd)
  have h2 : F ++ zs b ≠ [] := by simp [h.ne]
  unfold decOut
  rw [h1,if_neg h2,Zbt b h.la,List.length_append,Z5b]
  congr 1
  omega
theorem Zdj : ∀ t ∈ nans,∀ c ∈ t,c ∉ figs := by decide +kernel
theorem Zdk : ∀ t ∈ infs,∀ c ∈ t,c ∉ figs := by decide +kernel
theorem Z9n {lead w : List Nat} (hl : lead = [] ∨ lead = [43] ∨ lead = [45]) (h1 : w.head? ≠ some 43) (h2 : w.head? ≠ some 45) : unsg (lead ++ w) = w := by
  rcases hl with rfl | rfl | rfl
  · rcases U8 w with ⟨r,rfl,_⟩ | ⟨r,rfl,_⟩ | ⟨e,_⟩
    · exact absurd rfl h1
    · exact absurd rfl h2
    · exact e
  · simp [unsg,List.isPrefixOf]
  · simp [unsg,List.isPrefixOf]
def signL (lead : List Nat) : List Nat := if lead = [45] then [45] else []
theorem Z83 {lead w : List Nat} (hl : lead = [] ∨ lead = [43] ∨ lead = [45]) (h2 : w.head? ≠ some 45) : minusOf (lead ++ w) = signL lead := by
  rcases hl with rfl | rfl | rfl
  · show minusOf w = []
    unfold minusOf
    cases w with
    | nil => rfl
    | cons c w =>
      have : (45 == c) = false := beq_eq_false_iff_ne.mpr fun e => h2 (by rw [← e]; rfl)
      simp [List.isPrefixOf,this]
  · rfl
  · simp [minusOf,signL,List.isPrefixOf]
theorem float_at {lead w f : List Nat} {n : Int} (hl : lead = [] ∨ lead = [43] ∨ lead = [45]) (h1 : w.head? ≠ some 43) (h2 : w.head? ≠ some 45) {d : Nat} (hd : d ∈ w) (hf : d ∈ figs) (h : decimalIn w = some (f,n)) : floatIn (lead ++ w) = some (if f = [48] then [48,101,48] else signL lead ++ f ++ [101] ++ dec n) := by
  have n1 : lead ++ w ∉ nans := fun k => Zdj _ k d (List.mem_append_right _ hd) hf
  have n2 : w ∉ infs := fun k => Zdk _ k d hd hf
  unfold floatIn
  rw [Z9n hl h1 h2,Z83 hl h2,h]
  simp only [decide_eq_false n1,decide_eq_false n2,Bool.false_eq_true,if_false,decide_eq_true_eq]
theorem Z6c (l : List Nat) : canon tFloat l = floatIn l := rfl
end Ap
set_option maxHeartbeats 4000000
namespace Ap
open PySem PySem.Spec PyProof.Rows L2 SX
end Ap
set_option maxHeartbeats 4000000
namespace Ap
open PySem PySem.Spec PyProof.Rows L2 SX Fx
theorem Z2l {c : Nat} (h : c ∈ figs) : c < 128 := by have := V7.mp h; omega
theorem Zdl (i : Int) : ∀ c ∈ dec i,c < 128 := by
  intro c hc
  rcases Qv i with ⟨n,_,e⟩ | ⟨n,_,e⟩
  · rw [e] at hc; exact Z2l ((Xo (Wn n)).2 c hc)
  · rw [e] at hc
    rcases List.mem_cons.mp hc with rfl | hc
    · decide
    · exact Z2l ((Xo (Wn (n + 1))).2 c hc)
theorem Zdm {l : List Nat} (h : ∀ c ∈ l,c < 128) : okS l = true := Zf4 (by rw [List.all_eq_true]; exact fun c hc => decide_eq_true (h c hc))
theorem Jc {n k : Nat} (h : n < 10 ^ k) (hk : k ≤ 4300) : n < 10 ^ 4300 := Nat.lt_of_lt_of_le h (Nat.pow_le_pow_right (by decide) hk)
theorem Z12 {i : Int} {k : Nat} (hk : 0 < k) (h : i.natAbs < 10 ^ k) : (dec i).length ≤ k + 1 := by
  rcases Qv i with ⟨n,e,e2⟩ | ⟨n,e,e2⟩
  · rw [e2]
    have := TL.numL_len (n := n) (k := k) hk (by omega)
    omega
  · rw [e2,List.length_cons]
    have := TL.numL_len (n := n + 1) (k := k) hk (by omega)
    omega
theorem Nf {α : Type} (l : List α) : cutL l (some 1) none = l.drop 1 := Z3j l 1
theorem Z84 {α : Type} (l : List α) : cutL l (some 2) none = l.drop 2 := Z3j l 2
end Ap
set_option maxHeartbeats 4000000
namespace Ap
open PySem PySem.Spec PyProof.Rows L2 SX Fx
theorem Zbu {Z : Sto} {w : Nat} (hw : Wel Z w) (n : Nat) (h0 : 0 < n) (h1 : n < 2 ^ 200) :
    ∃ (r : Nat) (Z' : Sto), r < n ∧ Y0 [.loc w, .int n] Z = .ok (.int r) Z' ∧ Kp w Z Z' := by
  have hw' := hw
  obtain ⟨a,b,c,hw⟩ := hw
  have hn : (0 : Int) < (n : Int) := by omega
  have hn2 : ((n : Int) < 1606938044258990275541962092341162602522202993782792835301376) := by omega
  by_cases ha : 1000000000000000000 ≤ a
  · obtain ⟨r,hr,e⟩ := modN a h0
    refine ⟨r, Z.set w (.lst [.int (a / n), .int b, .int c]), hr, ?_, Kp.turn hw'⟩
    simp [Y0,runF,Z0d,hw,ha,h0,h1,hn2,e,ixN]
  · have e1 := Z78 (us := [.int a,.int b,.int (c + 1)]) hw
    obtain ⟨r,hr,e⟩ := modN ((((b + 7919 * (c + 1) + 1) * 48271 % 2147483647 * ((b + 7919 * (c + 1) + 1) * 48271 % 2147483647 / 1009 + 69621) % 2147483629 * ((b + 7919 * (c + 1) + 1) * 48271 % 2147483647 * ((b + 7919 * (c + 1) + 1) * 48271 % 2147483647 / 1009 + 69621) % 2147483629 / 2003 + 40692)) % 2147483587) / 5) h0
    refine ⟨r, Z.set w (.lst [.int a, .int b, .int (c + 1)]), hr, ?_, Kp.turn hw'⟩
    simp [Y0,runF,Z0d,hw,ha,h0,h1,hn2,e,e1]
theorem Z4c {Z : Sto} {w l : Nat} {xs : List Fx.T} (hw : Wel Z w) (hl : getL Z l = some xs) (hn : l ≠ w) (h0 : 0 < xs.length) (h1 : xs.length < 2 ^ 200) :
    ∃ t ∈ xs, ∃ Z', Wf [.loc w, .loc l] Z = .ok t Z' ∧ Kp w Z Z' := by
  obtain ⟨r, Z', hr, e, k⟩ := Zbu hw xs.length h0 h1
  have ex : xs[r]? = some xs[r] := List.getElem?_eq_getElem hr
  refine ⟨xs[r], List.getElem_mem hr, Z', ?_, k⟩
  simp [Wf,runF,Z3e,hl,e,k.getL hn hl,Fx.atI_nat ex]
theorem Z7b {Z : Sto} {w : Nat} {xs : List Fx.T} (hw : Wel Z w) (h0 : 0 < xs.length) (h1 : xs.length < 2 ^ 200) :
    ∃ t ∈ xs, ∃ Z', Wf [.loc w, .loc Z.length] (Z ++ [.lst xs]) = .ok t Z' ∧ Kp w Z Z' := by
  have k := Kp.new (Y := [.lst xs]) hw
  obtain ⟨t, ht, Z', e, k2⟩ := Z4c k.wel (N5 Z xs) (Nat.ne_of_gt hw.lt) h0 h1
  exact ⟨t, ht, Z', e, k.trans k2⟩
theorem Zfa (ns : List Int) (k : Nat) (Z : Sto) (hk : k ≤ 63) : ∃ a b c : Int,Vp [.frl (ns.map .int),.int k] Z = .ok (.loc Z.length) (Z ++ [.lst [.int a,.int b,.int c]]) := by
  by_cases h : k < ns.length
  · have e : (ns.map Fx.T.int)[k]? = some (.int ns[k]) := by rw [List.getElem?_map,List.getElem?_eq_getElem h]; rfl
    simp [Vp,runF,Z0e,h,Fx.atI_nat e]
  · simp [Vp,runF,Z0e,h]
theorem Z0h {Z : Sto} {w : Nat} (hw : Wel Z w) (n : Nat) (i : Int) (hi : i = (n : Int)) (h0 : 0 < n) (h1 : n < 2 ^ 200) :
    ∃ (r : Nat) (Z' : Sto), r < n ∧ Y0 [.loc w, .int i] Z = .ok (.int r) Z' ∧ Kp w Z Z' := by
  subst hi; exact Zbu hw n h0 h1
end Ap
set_option maxHeartbeats 4000000
namespace Ap
open PySem PySem.Spec PyProof.Rows L2 SX Fx
structure Num where
  st : List Nat
  below : Bool
  kept : List Nat
  scale : Int
def Num.fs (n : Num) : List (String × Fx.T) := [("standing", .str n.st), ("is_below", .bl n.below), ("kept", .str n.kept), ("scale", .int n.scale)]
def NumAt (Z : Sto) (i : Nat) (n : Num) : Prop := getI Z i = some ("Number", n.fs)
theorem U5 {Z : Sto} {i : Nat} {n : Num} (h : NumAt Z i n) : fldT ["Number"] "standing" (.loc i) Z = some (.str n.st) := by
  unfold NumAt at h
  simp [fldT,h,Num.fs]
theorem Z13 {Z : Sto} {i : Nat} {n : Num} (h : NumAt Z i n) : fldT ["Number"] "is_below" (.loc i) Z = some (.bl n.below) := by
  unfold NumAt at h
  simp [fldT,h,Num.fs,List.lookup_cons]
theorem Vv {Z : Sto} {i : Nat} {n : Num} (h : NumAt Z i n) : fldT ["Number"] "kept" (.loc i) Z = some (.str n.kept) := by
  unfold NumAt at h
  simp [fldT,h,Num.fs,List.lookup_cons]
theorem Z2m {Z : Sto} {i : Nat} {n : Num} (h : NumAt Z i n) : fldT ["Number"] "scale" (.loc i) Z = some (.int n.scale) := by
  unfold NumAt at h
  simp [fldT,h,Num.fs,List.lookup_cons]
theorem Z43 {Z : Sto} {i : Nat} {n : Num} (h : NumAt Z i n) : Xk [.loc i] Z = .ok (.str n.st) Z := by
  simp [Xk,runF,Z00,eFld,U5 h]
theorem Z44 {Z : Sto} {i : Nat} {n : Num} (h : NumAt Z i n) : Xl [.loc i] Z = .ok (.int n.scale) Z := by
  simp [Xl,runF,Z01,eFld,Z2m h]
theorem Z9o {Z : Sto} {i : Nat} {n : Num} (h : NumAt Z i n) : Yn [.loc i] Z = .ok (.tup [.str n.st,.bl n.below,.str n.kept,.int n.scale]) Z := by
  simp [Yn,runF,Uv,eFld,U5 h,Z13 h,Vv h,Z2m h]
theorem Z9p {Z : Sto} {i : Nat} {n : Num} (h : NumAt Z i n) (hl : n.kept.length ≤ Lim) : Yu [.loc i] Z = .ok (.int ((n.kept.length : Int) + n.scale)) Z := by
  simp [Yu,runF,Z02,eFld,Vv h,Z2m h,hl]
def Num.rank (n : Num) : Int := if n.kept = [48] then 0 else if n.below = true then -(if n.st = [105,110,102] then 2 else 1) else (if n.st = [105,110,102] then 2 else 1)
theorem Zbv {Z : Sto} {i : Nat} {n : Num} (h : NumAt Z i n) : W6 [.loc i] Z = .ok (.int n.rank) Z := by
  unfold Num.rank
  by_cases h1 : n.kept = [48]
  · simp [W6,runF,Ja,eFld,Vv h,h1]
  · by_cases h2 : n.st = [105,110,102] <;> cases h3 : n.below <;> simp [W6,runF,Ja,eFld,Vv h,U5 h,Z13 h,h1,h2,h3]
theorem Jm {Z : Sto} {i : Nat} {n : Num} (h : NumAt Z i n) {m : String} (hm : n.fs.lookup m = none) (r : Nat → R Fx.T) : methK "Number" m (.loc i) Z r = r i := by
  unfold NumAt at h
  simp [methK,h,hm]
theorem Z7c (n : Num) : n.fs.lookup "reach" = none := by simp [Num.fs, List.lookup_cons]
theorem Z9q (n : Num) : n.fs.lookup "rank" = none := by simp [Num.fs, List.lookup_cons]
def Num.reach (n : Num) : Int := (n.kept.length : Int) + n.scale
def nearer (n m : Num) : Bool := if n.reach = m.reach then decide (n.kept < m.kept) else decide (n.reach < m.reach)
theorem Zbw {Z : Sto} {i j : Nat} {n m : Num} (h : NumAt Z i n) (h2 : NumAt Z j m) (hl : n.kept.length ≤ Lim) (hl2 : m.kept.length ≤ Lim) : V2 [.loc i,.loc j] Z = .ok (.bl (nearer n m)) Z := by
  have e1 := Jm h (Z7c n)
  have e2 := Jm h2 (Z7c m)
  have r1 := Z9p h hl
  have r2 := Z9p h2 hl2
  unfold nearer Num.reach
  by_cases hr : (n.kept.length : Int) + n.scale = (m.kept.length : Int) + m.scale
  · simp [V2,runF,Z0c,eMeth,eFld,e1,e2,r1,r2,Vv h,Vv h2,hr]
  · simp [V2,runF,Z0c,eMeth,eFld,e1,e2,r1,r2,Vv h,Vv h2,hr]
def less (n m : Num) : Bool := if n.rank = m.rank ∧ (n.rank = -1 ∨ n.rank = 1) then (if n.rank = 1 then nearer n m else nearer m n) else decide (n.rank < m.rank)
theorem Zbx {Z : Sto} {i j : Nat} {n m : Num} (h : NumAt Z i n) (h2 : NumAt Z j m) (hl : n.kept.length ≤ Lim) (hl2 : m.kept.length ≤ Lim) (hn : n.st ≠ [110,97,110]) (hn2 : m.st ≠ [110,97,110]) : Zv [.loc i,.loc j] Z = .ok (.bl (less n m)) Z := by
  have e1 := Jm h (Z9q n)
  have e2 := Jm h2 (Z9q m)
  have r1 := Zbv h
  have r2 := Zbv h2
  have g1 := Zbw h h2 hl hl2
  have g2 := Zbw h2 h hl2 hl
  unfold less
  generalize n.rank = a at *
  generalize m.rank = b at *
  by_cases hr : a = b
  · subst hr
    by_cases h3 : a = 1
    · subst h3
      simp [Zv,runF,Ul,eMeth,eFld,U5 h,U5 h2,hn,hn2,e1,e2,r1,r2,g1,flatT,inT,Fx.eqT]
    · by_cases h4 : a = -1
      · subst h4
        simp [Zv,runF,Ul,eMeth,eFld,U5 h,U5 h2,hn,hn2,e1,e2,r1,r2,g2,flatT,inT,Fx.eqT]
      · simp [Zv,runF,Ul,eMeth,eFld,U5 h,U5 h2,hn,hn2,e1,e2,r1,r2,flatT,inT,Fx.eqT,h3,h4,Ne.symm h3,Ne.symm h4]
  · simp [Zv,runF,Ul,eMeth,eFld,U5 h,U5 h2,hn,hn2,e1,e2,r1,r2,hr]
end Ap
set_option maxHeartbeats 4000000
namespace Ap
open PySem PySem.Spec PyProof.Rows L2 SX Fx
def Num.tup (n : Num) : Fx.T := .tup [.str n.st,.bl n.below,.str n.kept,.int n.scale]
def Num.ok (n : Num) : Bool := okS n.st && okS n.kept
theorem Zfb {n m : Num} (h1 : n.ok = true) (h2 : m.ok = true) (Z : Sto) : gEq n.tup m.tup Z = some (.bl (decide (n.st = m.st ∧ n.below = m.below ∧ n.kept = m.kept ∧ n.scale = m.scale)),Z) := by
  unfold Num.ok at h1 h2
  rw [Bool.and_eq_true] at h1 h2
  have d : ∀ n : Num,toD 16 Z n.tup = some (.tuple [.str (S n.st),.bool n.below,.str (S n.kept),.int n.scale]) := fun n => rfl
  have sh : ∀ n : Num,okS n.st = true → okS n.kept = true → SeqAt.shaped (.tuple [.str (S n.st),.bool n.below,.str (S n.kept),.int n.scale]) = true := fun n a b => by
    simp [SeqAt.shaped,PyData.canLay0,PyData.canLayAll0,PyData.depth,PyData.depthAll,Zda a,Zda b]
  have e : gEqB n.tup m.tup Z = some (PyData.eqv (.tuple [.str (S n.st),.bool n.below,.str (S n.kept),.int n.scale]) (.tuple [.str (S m.st),.bool m.below,.str (S m.kept),.int m.scale])) := by
    show gEqD n.tup m.tup Z = _
    simp only [gEqD,d,sh n h1.1 h1.2,sh m h2.1 h2.2,and_self,if_true]
  simp only [gEq,e,Option.map_some]
  congr 3
  simp only [PyData.eqv,PyData.eqvAll,S_beq_eq,Bool.and_true]
  by_cases a : n.st = m.st <;> by_cases b : n.below = m.below <;> by_cases c : n.kept = m.kept <;> by_cases d : n.scale = m.scale <;> simp [a,b,c,d]
end Ap
set_option maxHeartbeats 4000000
namespace Ap
open PySem PySem.Spec PyProof.Rows L2 SX Fx
def xCore : List Nat := [99,111,114,101]
def xScalar : List Nat := [115,99,97,108,97,114]
def mayS (tag : List Nat) : Bool := !decide (tag = tSeq') && !decide (tag = tMap')
theorem Zfc (tag way : List Nat) (Z : Sto) : V1 [.str xScalar,.str tag,.str way] Z = .ok (.bl (mayS tag)) Z := by
  have hl : ([Fx.T.tup [.str [115,101,113,117,101,110,99,101],.str [33,33,115,101,113]],.tup [.str [109,97,112,112,105,110,103],.str [33,33,109,97,112]],.tup [.str [115,99,97,108,97,114],.str [33,33,115,116,114]]]).length ≤ Lim := by decide
  by_cases h1 : tag = [33,33,115,101,113]
  · subst h1
    simp [V1, runF, J9, Wh, Qt hl, loopF, U6, xScalar, mayS, tSeq']
  · by_cases h2 : tag = [33,33,109,97,112]
    · subst h2
      simp [V1, runF, J9, Wh, Qt hl, loopF, U6, xScalar, mayS, tSeq', tMap']
    · simp [V1, runF, J9, Wh, Qt hl, loopF, U6, xScalar, mayS, tSeq', tMap', h1, h2]
theorem Z7d (Z : Sto) : Ww [.str xCore] Z = .ok .non Z := by
  simp [Ww,runF,Nz,Z2f,xCore,gIsi,gIsiB,tyT,clsT,kitB,flatT,inT,Fx.eqT]
theorem f_is_tag {l : List Nat} (h : l = tInt ∨ l = tFloat) (Z : Sto) : Z0w [.str l] Z = .ok (.bl true) Z := by
  have e : ∀ t ∈ ([[105,110,116],[102,108,111,97,116]] : List (List Nat)),Wz [.str t,.str Z0b] Z = .ok (.bl true) Z := by
    intro t ht
    have h1 : ∀ t ∈ ([[105,110,116],[102,108,111,97,116]] : List (List Nat)),areSigns t Z0b = true ∧ t.length ≤ 100000 := by decide +kernel
    obtain ⟨a,b⟩ := h1 t ht
    simp only [Wz,b,a,if_true]
  simp only [List.mem_cons,List.not_mem_nil,or_false] at e
  have e1 := e _ (.inl rfl)
  have e2 := e _ (.inr rfl)
  rcases h with rfl | rfl <;> simp [Z0w,runF,Z75,gIsi,gIsiB,tyT,clsT,kitB,e1,e2,Nf,Z84,tInt,tFloat]
theorem Z7e {lead text : List Nat} (hl : lead = tInt ∨ lead = tFloat) (hw : wordOk text = true) (Z : Sto) :
    V5 [.str xScalar,.str lead,.str text,.str xCore] Z = .ok (.bl (decide (canon lead text = some text))) Z := by
  have hs := Z7d
  have ht := fun Z => f_is_tag hl Z
  have hm := fun Z => Zfc lead xCore Z
  have hmy : mayS lead = true := by rcases hl with rfl | rfl <;> decide
  rw [hmy] at hm
  have hc : ∀ Z,Wy [.str lead,.str text] Z = .ok (oSt (canon lead text)) Z := fun Z => by simp only [Wy,hw,if_true]
  simp only [xScalar,xCore] at *
  cases h : canon lead text with
  | none => simp [V5,runF,Nb,hs,ht,hm,hc,h,oSt,gIsi,gIsiB,tyT,clsT,kitB]
  | some z => simp [V5,runF,Nb,hs,ht,hm,hc,h,oSt,gIsi,gIsiB,tyT,clsT,kitB]
theorem Z9r (l : List Nat) (c : Nat) (Z : Sto) (h : l.length ≤ Lim) : gPartition (.str l) [.str [c]] Z = some (.tup [.str (parL c l).1,.str (parL c l).2.1,.str (parL c l).2.2],Z) := by
  show (if l.length ≤ Lim ∧ ((S [c]).length == 0) = false then some (Fx.T.tup [txt (Txt.partition (S l) (S [c])).1,txt (Txt.partition (S l) (S [c])).2.1,txt (Txt.partition (S l) (S [c])).2.2],Z) else none) = _
  rw [if_pos ⟨h,by rw [S_len]; rfl⟩,Zbf,Zal,Zal,Zal]
theorem Zfd (l m : List Nat) : Txt.endswith (S l) (S m) = (decide (m.length ≤ l.length) && decide (l.drop (l.length - m.length) = m)) := by
  unfold Txt.endswith
  rw [StrLaws.subAt_eq,S_len,S_len,Nat.zero_add]
  congr 1
  show ((l.drop (l.length - m.length)).take m.length == m) = _
  by_cases h : m.length ≤ l.length
  · rw [List.take_of_length_le (by rw [List.length_drop]; omega)]
    by_cases e : l.drop (l.length - m.length) = m <;> simp [e]
  · have : l.length - m.length = 0 := by omega
    rw [this,List.drop_zero,List.take_of_length_le (by omega)]
    by_cases e : l = m <;> simp [e]
theorem Zby (l m : List Nat) (Z : Sto) : gEndswith (.str l) [.str m] Z = some (.bl (decide (m.length ≤ l.length) && decide (l.drop (l.length - m.length) = m)),Z) := by
  show some (Fx.T.bl (Txt.endswith (S l) (S m)),Z) = _
  rw [Zfd]
theorem Z9s {l m : List Nat} {c d : Nat} (hl : l.getLast? = some c) (hm : m.getLast? = some d) (h : c ≠ d) (Z : Sto) : gEndswith (.str l) [.str m] Z = some (.bl false,Z) := by
  rw [Zby]
  congr 3
  rw [Bool.and_eq_false_iff]
  by_cases k : m.length ≤ l.length
  · refine .inr (decide_eq_false fun e => ?_)
    have h0 : m ≠ [] := fun e => by rw [e] at hm; cases hm
    have h1 : 0 < m.length := List.length_pos_iff.mpr h0
    have : (l.drop (l.length - m.length)).getLast? = l.getLast? := by
      rw [List.getLast?_drop,if_neg (by omega)]
    rw [e,hm,hl] at this
    cases this
    exact h rfl
  · exact .inl (decide_eq_false k)
theorem Z7f (p : Int) : areSigns (unsg (dec p)) figs = true ∧ intOf (dec p) = p := by
  rcases Qv p with ⟨n,rfl,e⟩ | ⟨n,rfl,e⟩
  · have h := Wn n
    have h2 := (Xo h).2
    rw [e,Z1s h2,Z11 h2,TL.numL_val]
    exact ⟨h,rfl⟩
  · have h := Wn (n + 1)
    rw [e]
    refine ⟨by simp [unsg,List.isPrefixOf]; exact h,?_⟩
    show -((NumText.digitsVal (TL.numL (n + 1)) : Nat) : Int) = _
    rw [TL.numL_val]
def PwOk (p : Int) : Prop := p.natAbs < 10 ^ 900
theorem Z45 {p : Int} (h : PwOk p) : (dec p).length ≤ 901 := Z12 (by decide) h
theorem Zdn {p : Int} (h : PwOk p) (Z : Sto) : gIntT [.str (dec p)] Z = some (.int p,Z) := by
  have hl := Z45 h
  have h1 : (dec p).all (· < 128) = true := by rw [List.all_eq_true]; exact fun c hc => decide_eq_true (Zdl p c hc)
  rw [Qu,if_pos ⟨h1,by omega⟩,Q9 (Z7f p).1 (by omega),(Z7f p).2]
  rfl
def sg (b : Bool) : List Nat := if b then [45] else []
theorem Zdo (b : Bool) : sg b = [] ∨ sg b = [43] ∨ sg b = [45] := by cases b <;> simp [sg]
theorem Zax (b : Bool) : signL (sg b) = sg b := by cases b <;> rfl
structure FgL (F : List Nat) : Prop where
  fg : Fg F
  len : F.length ≤ 400
theorem Z6d {F : List Nat} (h : Fg F) (G : List Nat) : ∃ d r,F ++ G = d :: r ∧ d ∈ figs := by
  cases F with
  | nil => exact absurd rfl h.ne
  | cons d r => exact ⟨d,r ++ G,rfl,h.fig d List.mem_cons_self⟩
def flT (b : Bool) (F : List Nat) (p : Int) : List Nat := sg b ++ (F ++ 101 :: dec p)
theorem Zay {F : List Nat} (h : Fg F) : 101 ∉ F ∧ 69 ∉ F ∧ 46 ∉ F ∧ 45 ∉ F :=
  ⟨fun k => (Z2x (h.fig _ k)).1 rfl,fun k => (Z2x (h.fig _ k)).2.1 rfl,fun k => (Z2x (h.fig _ k)).2.2.1 rfl,fun k => (Z2x (h.fig _ k)).2.2.2.2 rfl⟩
theorem Zfe {F : List Nat} (h : Fg F) : bareIn F = some (F,0) := by
  have := Zdi (A := F) (B := []) (pt := false) h.fig (fun c hc => by cases hc) (by simpa using h.ne) (fun _ => rfl)
  simpa [ptL] using this
theorem Z9t {F : List Nat} (h : Fg F) (n : Nat) (x : Int) : decOut F n x = (F,x - (n : Int)) := by
  have := Zaw h 0 0 n x
  simp only [zs,List.replicate_zero,List.nil_append,List.append_nil] at this
  rw [this]
  congr 1
  omega
theorem Zff {F : List Nat} (h : Fg F) (p : Int) : decimalIn (F ++ 101 :: dec p) = some (F,p) := by
  rw [Zf9 (Zay h).1 (Zay h).2.1 (Zfe h) (.inl rfl) (Z7f p).1,(Z7f p).2,Z9t h]
  simp
theorem Zaz {F : List Nat} (h : Fg F) : F ≠ [48] := fun e => by
  have := h.hd
  rw [e] at this
  exact this rfl
theorem Zb0 {F : List Nat} (h : Fg F) (b : Bool) (p : Int) : floatIn (flT b F p) = some (flT b F p) := by
  obtain ⟨d,r,e,hd⟩ := Z6d h (101 :: dec p)
  have := float_at (lead := sg b) (w := F ++ 101 :: dec p) (d := d) (Zdo b) (by rw [e]; intro k; cases k; exact absurd hd (by decide)) (by rw [e]; intro k; cases k; exact absurd hd (by decide)) (by rw [e]; exact List.mem_cons_self) hd (Zff h p)
  rw [if_neg (Zaz h),Zax] at this
  unfold flT
  rw [this]
  simp
end Ap
set_option maxHeartbeats 4000000
namespace Ap
open PySem PySem.Spec PyProof.Rows L2 SX Fx
theorem Z5c {w h m t F : List Nat} {x : Int} (b : Bool) (hw : ∃ d r,w = d :: r ∧ d ≠ 45) (hl : w.length ≤ 3000) (hp : parL 101 w = (h,m,t)) (hh : h.length ≤ 3000) (hr : rst 48 h = F) (hFl : F.length ≤ 3000) (hF : F ≠ []) (hx : (m = [] ∧ x = 0) ∨ (m ≠ [] ∧ ∀ Z,gIntT [.str t] Z = some (.int x,Z))) (Z : Sto) :
    Y6 [.str (sg b ++ w)] Z = .ok (.tup [.bl b,.str F,.int ((h.length : Int) - (F.length : Int) + x)]) Z := by
  have hpt := Z9r w 101 Z (by unfold Lim; omega)
  rw [hp] at hpt
  have hrs := Z41 h 48 Z (by unfold Lim; omega)
  rw [hr] at hrs
  have hb : List.isPrefixOf [45] (sg b ++ w) = b := by
    obtain ⟨d,r,rfl,hd⟩ := hw
    cases b
    · show ((45 == d) && _) = false
      rw [beq_eq_false_iff_ne.mpr (Ne.symm hd)]; rfl
    · simp [sg]
  have hc : (if b = true then (sg b ++ w).drop 1 else sg b ++ w) = w := by cases b <;> simp [sg]
  have hsl : (sg b ++ w).length ≤ Lim := by cases b <;> simp [sg,Lim] <;> omega
  have hL1 : h.length ≤ Lim := by unfold Lim; omega
  have hL2 : F.length ≤ Lim := by unfold Lim; omega
  generalize hW : sg b ++ w = W at *
  have hS : gSl (.str W) (some 1) none Z = some (.str (W.drop 1),Z) := by rw [Zau _ _ _ _ hsl,Nf]
  rcases hx with ⟨rfl,rfl⟩ | ⟨hm,hx⟩
  · cases b
    · simp only [Bool.false_eq_true,if_false] at hc
      subst hc
      simp [Y6,runF,Vo,hb,hS,hpt,hrs,hF,hL1,hL2]
    · simp only [if_true] at hc
      simp [Y6,runF,Vo,hb,hsl,Nf,hc,hpt,hrs,hF,hL1,hL2]
  · cases b
    · simp only [Bool.false_eq_true,if_false] at hc
      subst hc
      simp [Y6,runF,Vo,hb,hS,hpt,hrs,hF,hL1,hL2,hm,hx]
    · simp only [if_true] at hc
      simp [Y6,runF,Vo,hb,hsl,Nf,hc,hpt,hrs,hF,hL1,hL2,hm,hx]
theorem Zbz {F : List Nat} (h : Fg F) (k : Nat) : rst 48 (F ++ zs k) = F := Zbt k h.la
theorem Zb1 {F : List Nat} (h : FgL F) {p : Int} (hp : PwOk p) (b : Bool) (Z : Sto) : Y6 [.str (flT b F p)] Z = .ok (.tup [.bl b,.str F,.int p]) Z := by
  have hdl := Z45 hp
  have hFl := h.len
  have := Z5c (w := F ++ 101 :: dec p) (h := F) (m := [101]) (t := dec p) (F := F) (x := p) b (by
    obtain ⟨d,r,e,hd⟩ := Z6d h.fg (101 :: dec p)
    exact ⟨d,r,e,(Z2x hd).2.2.2.2⟩) (by simp; omega) (Z2k (Zay h.fg).1) (by omega) (by have := Zbz h.fg 0; simpa [zs] using this) (by omega) h.fg.ne (.inr ⟨by simp,fun Z => Zdn hp Z⟩) Z
  unfold flT
  rw [this]
  simp
@[simp] theorem Z9u (Z : Sto) (C : String) (fs : List (String × Fx.T)) : getI (Z ++ [.ins C fs]) Z.length = some (C,fs) := by simp [getI]
def xFin : List Nat := [102,105,110,105,116,101]
def xInf : List Nat := [105,110,102]
theorem Zfg {tag content F : List Nat} {p : Int} {b : Bool} (hl : tag = tInt ∨ tag = tFloat) (hw : wordOk content = true) (hc : canon tag content = some content) (hn : content ≠ [46,110,97,110]) {d : Nat} (hd : content.getLast? = some d) (hdf : d ≠ 102)
    (hb : ∀ Z,Y6 [.str content] Z = .ok (.tup [.bl b,.str F,.int p]) Z) (Z : Sto) :
    Zd [.loc Z.length, .str tag, .str content] (Z ++ [.ins "Number" []]) = .ok .non (Z ++ [.ins "Number" (Num.mk xFin b F p).fs]) := by
  have hf := fun Z => Z7e hl hw Z
  rw [decide_eq_true hc] at hf
  have he := fun Z => Z9s hd (m := [46,105,110,102]) (d := 102) rfl hdf Z
  have ht : inT (.str tag) [.str [33,33,105,110,116],.str [33,33,102,108,111,97,116]] = true := by rcases hl with rfl | rfl <;> simp [inT,Fx.eqT,tInt,tFloat]
  simp only [xScalar,xCore] at hf
  simp [Zd,runF,Xb,flatT,ht,hf,hn,he,sFldS,gFld,setF,eFld,fldT,putS,hb,Num.fs,xFin]
theorem Np {tag content F : List Nat} {p : Int} {b : Bool} (hl : tag = tInt ∨ tag = tFloat) (hw : wordOk content = true) (hc : canon tag content = some content) (hn : content ≠ [46,110,97,110]) {d : Nat} (hd : content.getLast? = some d) (hdf : d ≠ 102)
    (hb : ∀ Z,Y6 [.str content] Z = .ok (.tup [.bl b,.str F,.int p]) Z) {ρ : Fx.Env} {fa : FA} {Z Z1 : Sto} (ha : fa ρ Z = .ok [.str tag,.str content] Z1) :
    eMake "Number" Zd [] fa ρ Z = .ok (.loc Z1.length) (Z1 ++ [.ins "Number" (Num.mk xFin b F p).fs]) := by
  simp [eMake,ha,Zfg hl hw hc hn hd hdf hb Z1]
theorem Z7g {content : List Nat} (b : Bool) (h : content = sg b ++ [46,105,110,102]) {ρ : Fx.Env} {fa : FA} {Z Z1 : Sto} (ha : fa ρ Z = .ok [.str tFloat,.str content] Z1) :
    eMake "Number" Zd [] fa ρ Z = .ok (.loc Z1.length) (Z1 ++ [.ins "Number" (Num.mk xInf b [49] 0).fs]) := by
  have hw : wordOk content = true := by rw [h]; cases b <;> decide
  have hf := fun Z => Z7e (.inr rfl : tFloat = tInt ∨ tFloat = tFloat) hw Z
  have hc : canon tFloat content = some content := by rw [h]; cases b <;> decide +kernel
  rw [decide_eq_true hc] at hf
  have he := fun Z => Zby content [46,105,110,102] Z
  simp only [xScalar,xCore,tFloat] at hf
  have hi : Zd [.loc Z1.length, .str tFloat, .str content] (Z1 ++ [.ins "Number" []]) = .ok .non (Z1 ++ [.ins "Number" (Num.mk xInf b [49] 0).fs]) := by
    subst h
    cases b
    · simp only [sg,Bool.false_eq_true,if_false,List.nil_append] at *
      have hpp : List.isPrefixOf [45] [46,105,110,102] = false := rfl
      simp [Zd,runF,Xb,flatT,inT,Fx.eqT,hf,he,hpp,sFldS,gFld,setF,eFld,fldT,putS,Num.fs,xInf,tFloat]
    · simp only [sg,if_true,List.cons_append,List.nil_append] at *
      simp [Zd,runF,Xb,flatT,inT,Fx.eqT,hf,he,sFldS,gFld,setF,eFld,fldT,putS,Num.fs,xInf,tFloat]
  simp [eMake,ha,hi]
theorem Zdp (Z : Sto) : Y6 [.str [48]] Z = .ok (.tup [.bl false,.str [48],.int 0]) Z := by
  have hpt := Z9r [48] 101 Z (by decide)
  have hrs := Z41 [48] 48 Z (by decide)
  have e1 : parL 101 [48] = ([48],[],[]) := by decide
  have e2 : rst 48 [48] = [] := by decide
  rw [e1] at hpt
  rw [e2] at hrs
  simp [Y6,runF,Vo,hpt,hrs]
end Ap
set_option maxHeartbeats 4000000
namespace Ap
open PySem PySem.Spec PyProof.Rows L2 SX Fx
def tr : Nat → Int → Int × Nat
  | 0,v => (v,0)
  | k + 1,v => if v ≠ 0 ∧ v % 10 = 0 then ((tr k (v / 10)).1,(tr k (v / 10)).2 + 1) else (v,0)
theorem Z1a {v : Int} (h : ¬ (v ≠ 0 ∧ v % 10 = 0)) : ∀ k,tr k v = (v,0)
  | 0 => rfl
  | k + 1 => if_neg h
theorem Z6e {v : Int} (h : v ≠ 0 ∧ v % 10 = 0) (k : Nat) : tr (k + 1) v = ((tr k (v / 10)).1,(tr k (v / 10)).2 + 1) := if_pos h
theorem Zc0 (r : Int) (m : Nat) : r * 10 ^ (m + 1) = 10 * (r * 10 ^ m) := by
  rw [Int.pow_succ,← Int.mul_assoc,Int.mul_comm]
theorem Z9v {r : Int} (hr : r % 10 ≠ 0) : ∀ (m K : Nat),m ≤ K → tr K (r * 10 ^ m) = (r,m)
  | 0,K,_ => by
    rw [Int.pow_zero,Int.mul_one]
    exact Z1a (fun h => hr h.2) K
  | m + 1,0,h => by omega
  | m + 1,K + 1,h => by
    have ih := Z9v hr m K (by omega)
    rw [Zc0]
    generalize r * 10 ^ m = x at *
    have h0 : x ≠ 0 := fun e => by
      rw [e,Z1a (fun h => h.1 rfl)] at ih
      cases ih
      exact hr rfl
    rw [Z6e ⟨by omega,by omega⟩,show 10 * x / 10 = x by omega,ih]
theorem Z6f : ∀ (K : Nat) (v : Int),v ≠ 0 → v.natAbs < 10 ^ K → v = (tr K v).1 * 10 ^ (tr K v).2 ∧ (tr K v).1 % 10 ≠ 0 ∧ (tr K v).2 ≤ K
  | 0,v,h0,h => by rw [Nat.pow_zero] at h; omega
  | K + 1,v,h0,h => by
    by_cases h10 : v % 10 = 0
    · rw [Z6e ⟨h0,h10⟩]
      obtain ⟨e1,e2,e3⟩ := Z6f K (v / 10) (by omega) (by rw [Nat.pow_succ] at h; generalize (10 ^ K : Nat) = P at *; omega)
      refine ⟨?_,e2,Nat.succ_le_succ e3⟩
      simp only
      rw [Zc0,← e1]
      omega
    · rw [Z1a (fun h => h10 h.2)]
      refine ⟨?_,h10,Nat.zero_le _⟩
      simp only
      rw [Int.pow_zero,Int.mul_one]
theorem tr_0 (K : Nat) : tr K 0 = (0,0) := Z1a (fun h => h.1 rfl) K
theorem Zdq : ∀ (n : Nat),1 ≤ n → (TL.numL n).head? ≠ some 48 := by
  intro n
  induction n using Nat.strongRecOn with
  | ind n ih =>
    intro h
    by_cases h9 : n < 10
    · rw [TL.numL_lt h9]; simp; omega
    · rw [TL.numL_step (by omega),Z7a (TL.numL_ne _)]
      exact ih (n / 10) (by omega) (by omega)
theorem Zdr {n : Nat} (h : n % 10 ≠ 0) : (TL.numL n).getLast? ≠ some 48 := by
  by_cases h9 : n < 10
  · rw [TL.numL_lt h9]; simp; omega
  · rw [TL.numL_step (by omega)]; simp; exact h
theorem Z3i {n : Nat} (h : n % 10 ≠ 0) : Fg (TL.numL n) := ⟨TL.numL_ne n,(Xo (Wn n)).2,Zdq n (by omega),Zdr h⟩
theorem Qw (k : Nat) : 1 ≤ 10 ^ k := Nat.one_le_pow k 10 (by decide)
theorem Z46 {n : Nat} (h : 1 ≤ n) : ∀ k,TL.numL (n * 10 ^ k) = TL.numL n ++ zs k
  | 0 => by rw [Nat.pow_zero,Nat.mul_one]; simp [zs]
  | k + 1 => by
    have ih := Z46 h k
    have hp := Qw k
    have hx : 1 ≤ n * 10 ^ k := Nat.mul_pos h hp
    rw [Nat.pow_succ,← Nat.mul_assoc]
    generalize n * 10 ^ k = x at *
    rw [TL.numL_step (by omega),show x * 10 / 10 = x by omega,show x * 10 % 10 = 0 by omega,ih,← Zf6,List.append_assoc]
    rfl
theorem Z6g : ∀ (l : List Nat) (a : Nat),l.foldl (fun acc c => acc * 10 + (c - 48)) a = a * 10 ^ l.length + NumText.digitsVal l
  | [],a => by simp [NumText.digitsVal]
  | c :: l,a => by
    have h1 := Z6g l (a * 10 + (c - 48))
    have h2 := Z6g l (0 * 10 + (c - 48))
    rw [List.foldl_cons,h1]
    show _ = a * 10 ^ (l.length + 1) + l.foldl _ (0 * 10 + (c - 48))
    rw [h2,Nat.pow_succ,Nat.add_mul,Nat.zero_mul,Nat.zero_add,Nat.mul_assoc,Nat.mul_comm 10,Nat.add_assoc]
theorem Z6h (c : Nat) (l : List Nat) : NumText.digitsVal (c :: l) = (c - 48) * 10 ^ l.length + NumText.digitsVal l := by
  show l.foldl _ (0 * 10 + (c - 48)) = _
  rw [Z6g,Nat.zero_mul,Nat.zero_add]
theorem Zb2 : ∀ (l : List Nat),(∀ c ∈ l,c ∈ figs) → NumText.digitsVal l < 10 ^ l.length
  | [],_ => by decide
  | c :: l,h => by
    have ih := Zb2 l fun d hd => h d (List.mem_cons_of_mem _ hd)
    have hc := V7.mp (h c List.mem_cons_self)
    have h9 : c - 48 ≤ 9 := by omega
    have hm := Nat.mul_le_mul_right (10 ^ l.length) h9
    rw [Z6h,List.length_cons,Nat.pow_succ]
    generalize (10 ^ l.length : Nat) = P at *
    generalize (c - 48) * P = Q at *
    omega
theorem lex1 : ∀ (X Y : List Nat),(∀ c ∈ X,c ∈ figs) → (∀ c ∈ Y,c ∈ figs) → X.length = Y.length → (X < Y ↔ NumText.digitsVal X < NumText.digitsVal Y)
  | [],[],_,_,_ => by simp
  | [],y :: Y,_,_,h => by cases h
  | x :: X,[],_,_,h => by cases h
  | x :: X,y :: Y,hX,hY,h => by
    have hl : X.length = Y.length := Nat.succ.inj h
    have ih := lex1 X Y (fun d hd => hX d (List.mem_cons_of_mem _ hd)) (fun d hd => hY d (List.mem_cons_of_mem _ hd)) hl
    have h1 := Zb2 X fun d hd => hX d (List.mem_cons_of_mem _ hd)
    have h2 := Zb2 Y fun d hd => hY d (List.mem_cons_of_mem _ hd)
    have hx := V7.mp (hX x List.mem_cons_self)
    have hy := V7.mp (hY y List.mem_cons_self)
    rw [List.cons_lt_cons_iff,Z6h,Z6h,ih,hl]
    rw [hl] at h1
    generalize (10 ^ Y.length : Nat) = P at *
    generalize NumText.digitsVal X = a at *
    generalize NumText.digitsVal Y = b at *
    rcases Nat.lt_trichotomy x y with k | k | k
    · have hm := Nat.mul_le_mul_right P (show x - 48 + 1 ≤ y - 48 by omega)
      rw [Nat.succ_mul] at hm
      generalize (x - 48) * P = p at *
      generalize (y - 48) * P = q at *
      constructor
      · intro _; omega
      · intro _; exact .inl k
    · subst k
      generalize (x - 48) * P = p at *
      constructor
      · rintro (h | ⟨_,h⟩) <;> omega
      · intro h; exact .inr ⟨rfl,by omega⟩
    · have hm := Nat.mul_le_mul_right P (show y - 48 + 1 ≤ x - 48 by omega)
      rw [Nat.succ_mul] at hm
      generalize (x - 48) * P = p at *
      generalize (y - 48) * P = q at *
      constructor
      · rintro (h | ⟨h,_⟩) <;> omega
      · intro h; omega
def LaOk (l : List Nat) : Prop := l.getLast? ≠ some 48
theorem LaOk.tail {c : Nat} {l : List Nat} (h : LaOk (c :: l)) : LaOk l := by
  cases l with
  | nil => intro e; cases e
  | cons d l =>
    intro e
    apply h
    rw [List.getLast?_cons_cons]; exact e
theorem Z6i : ∀ (Y : List Nat) (n : Nat),Y ≠ [] → (∀ c ∈ Y,c ∈ figs) → LaOk Y → zs (Y.length + n) < Y ++ zs n
  | [],_,h,_,_ => absurd rfl h
  | c :: Y,n,_,hf,hl => by
    have hc := V7.mp (hf c List.mem_cons_self)
    have e : zs ((c :: Y).length + n) = 48 :: zs (Y.length + n) := by
      rw [List.length_cons,show Y.length + 1 + n = (Y.length + n) + 1 by omega]; rfl
    rw [e,List.cons_append,List.cons_lt_cons_iff]
    by_cases h : c = 48
    · refine .inr ⟨h.symm,?_⟩
      subst h
      cases Y with
      | nil => exact absurd rfl hl
      | cons d Y => exact Z6i (d :: Y) n (by simp) (fun d hd => hf d (List.mem_cons_of_mem _ hd)) hl.tail
    · exact .inl (by omega)
theorem Z6j : ∀ {s t : List Nat},s < t → ¬ t < s
  | [],[],h => by simp at h
  | [],b :: t,_ => by simp
  | a :: s,[],h => by simp at h
  | a :: s,b :: t,h => by
    rw [List.cons_lt_cons_iff] at h ⊢
    rcases h with h | ⟨rfl,h⟩
    · omega
    · have := Z6j h
      rintro (k | ⟨_,k⟩)
      · omega
      · exact this k
theorem Zfh (s : List Nat) : ¬ s < s := fun h => Z6j h h
theorem lex2 : ∀ (X Y : List Nat) (m n : Nat),(∀ c ∈ X,c ∈ figs) → (∀ c ∈ Y,c ∈ figs) → LaOk X → LaOk Y → X.length + m = Y.length + n → (X ++ zs m < Y ++ zs n ↔ X < Y)
  | [],[],m,n,_,_,_,_,h => by
    have : m = n := by simpa using h
    subst this
    simp [Zfh]
  | [],y :: Y,m,n,_,hY,_,lY,h => by
    have hp := Z6i (y :: Y) n (by simp) hY lY
    have e : m = (y :: Y).length + n := by simpa using h
    rw [List.nil_append,e]
    simp [hp]
    exact hp
  | x :: X,[],m,n,hX,_,lX,_,h => by
    have hp := Z6i (x :: X) m (by simp) hX lX
    have e : n = (x :: X).length + m := by have : (x :: X).length + m = n := by simpa using h
                                           exact this.symm
    rw [List.nil_append,e]
    constructor
    · intro k; exact absurd hp (Z6j k)
    · intro k; simp at k
  | x :: X,y :: Y,m,n,hX,hY,lX,lY,h => by
    have ih := lex2 X Y m n (fun d hd => hX d (List.mem_cons_of_mem _ hd)) (fun d hd => hY d (List.mem_cons_of_mem _ hd)) lX.tail lY.tail (by rw [List.length_cons,List.length_cons] at h; omega)
    rw [List.cons_append,List.cons_append,List.cons_lt_cons_iff,List.cons_lt_cons_iff,ih]
theorem Zc1 {a b : Nat} (h : (TL.numL a).length < (TL.numL b).length) : a < b := by
  have h1 := Zb2 (TL.numL a) (Xo (Wn a)).2
  rw [TL.numL_val] at h1
  have h0 : 0 < (TL.numL a).length := List.length_pos_iff.mpr (TL.numL_ne a)
  by_cases h2 : b < 10 ^ (TL.numL a).length
  · have := TL.numL_len h0 h2
    omega
  · omega
theorem Zb3 {A B m n : Nat} (hA : A % 10 ≠ 0) (hB : B % 10 ≠ 0) (s t : List Nat) (x y : Bool) : nearer ⟨s,x,TL.numL A,(m : Int) - 20⟩ ⟨t,y,TL.numL B,(n : Int) - 20⟩ = decide (A * 10 ^ m < B * 10 ^ n) := by
  have fA := Z3i hA
  have fB := Z3i hB
  have eA := Z46 (show 1 ≤ A by omega) m
  have eB := Z46 (show 1 ≤ B by omega) n
  have lA : (TL.numL (A * 10 ^ m)).length = (TL.numL A).length + m := by rw [eA,List.length_append,Z5b]
  have lB : (TL.numL (B * 10 ^ n)).length = (TL.numL B).length + n := by rw [eB,List.length_append,Z5b]
  unfold nearer Num.reach
  simp only
  by_cases h : (TL.numL A).length + m = (TL.numL B).length + n
  · rw [if_pos (by omega)]
    have h2 := lex2 _ _ m n fA.fig fB.fig fA.la fB.la h
    have h3 := lex1 _ _ (Xo (Wn (A * 10 ^ m))).2 (Xo (Wn (B * 10 ^ n))).2 (by omega)
    rw [TL.numL_val,TL.numL_val,eA,eB,h2] at h3
    by_cases k : TL.numL A < TL.numL B
    · rw [decide_eq_true k,decide_eq_true (h3.mp k)]
    · rw [decide_eq_false k,decide_eq_false fun z => k (h3.mpr z)]
  · rw [if_neg (by omega)]
    by_cases k : (TL.numL A).length + m < (TL.numL B).length + n
    · rw [decide_eq_true (by omega),decide_eq_true (Zc1 (by omega))]
    · rw [decide_eq_false (by omega),decide_eq_false fun z => ?_]
      have := Zc1 (a := B * 10 ^ n) (b := A * 10 ^ m) (by omega)
      omega
def Bd (v : Int) : Prop := v.natAbs < 10 ^ 120
def rs (v : Int) : Int := (tr 130 v).1
def mn (v : Int) : Nat := (tr 130 v).2
theorem Z2y {v : Int} (h : Bd v) (h0 : v ≠ 0) : v = rs v * 10 ^ mn v ∧ rs v % 10 ≠ 0 ∧ mn v ≤ 130 :=
  Z6f 130 v h0 (Nat.lt_of_lt_of_le h (Nat.pow_le_pow_right (by decide) (by decide)))
theorem rs_0 : rs 0 = 0 ∧ mn 0 = 0 := by unfold rs mn; rw [tr_0]; exact ⟨rfl,rfl⟩
theorem Z5d {v : Int} (h : Bd v) : rs v = 0 ↔ v = 0 := by
  constructor
  · intro e
    by_cases h0 : v = 0
    · exact h0
    · have := (Z2y h h0).2.1
      rw [e] at this
      exact absurd rfl this
  · rintro rfl; exact rs_0.1
theorem Zb4 {v : Int} (h : Bd v) (h0 : v ≠ 0) : v.natAbs = (rs v).natAbs * 10 ^ mn v := by
  have := (Z2y h h0).1
  have e : v.natAbs = (rs v * 10 ^ mn v).natAbs := by rw [← this]
  rw [e,Int.natAbs_mul,Int.natAbs_pow]; rfl
theorem Z2n {v : Int} (h : Bd v) (h0 : v ≠ 0) : (rs v).natAbs % 10 ≠ 0 := by
  have := (Z2y h h0).2.1
  omega
theorem Zfi {v : Int} (h : Bd v) (h0 : v ≠ 0) : (rs v < 0 ↔ v < 0) := by
  have e := (Z2y h h0).1
  have hp : (0 : Int) < 10 ^ mn v := Int.pow_pos (by decide)
  have hr : rs v ≠ 0 := fun k => h0 ((Z5d h).mp k)
  constructor
  · intro k; rw [e]; exact Int.mul_neg_of_neg_of_pos k hp
  · intro k
    by_cases g : rs v < 0
    · exact g
    · have := Int.mul_pos (show 0 < rs v by omega) hp
      rw [← e] at this
      omega
def numV (v : Int) : Num := if v = 0 then ⟨xFin,false,[48],0⟩ else ⟨xFin,decide (rs v < 0),TL.numL (rs v).natAbs,(mn v : Int) - 20⟩
theorem Z04 : numV 0 = ⟨xFin,false,[48],0⟩ := if_pos rfl
theorem Ux {v : Int} (h : v ≠ 0) : numV v = ⟨xFin,decide (rs v < 0),TL.numL (rs v).natAbs,(mn v : Int) - 20⟩ := if_neg h
theorem Zfj : ¬ xFin = [105,110,102] := by decide
theorem Z7h : (numV 0).rank = 0 := by rw [Z04]; rfl
theorem Z5e {v : Int} (h : Bd v) (h0 : v ≠ 0) : (numV v).rank = if v < 0 then -1 else 1 := by
  have k := Zaz (Z3i (Z2n h h0))
  have s := Zfi h h0
  rw [Ux h0]
  unfold Num.rank
  simp only [k,Zfj,if_false]
  by_cases g : v < 0
  · rw [if_pos g,if_pos (decide_eq_true (s.mpr g))]
  · rw [if_neg g,if_neg (by simp; omega)]
theorem Zc2 {v w : Int} (hv : Bd v) (hw : Bd w) (v0 : v ≠ 0) (w0 : w ≠ 0) : nearer (numV v) (numV w) = decide (v.natAbs < w.natAbs) := by
  rw [Ux v0,Ux w0,Zb3 (Z2n hv v0) (Z2n hw w0),← Zb4 hv v0,← Zb4 hw w0]
theorem Zfk {v w : Int} (hv : Bd v) (hw : Bd w) : less (numV v) (numV w) = decide (v < w) := by
  unfold less
  by_cases v0 : v = 0
  · subst v0
    by_cases w0 : w = 0
    · subst w0
      rw [Z7h]; rfl
    · rw [Z7h,Z5e hw w0]
      by_cases g : w < 0
      · rw [if_pos g]
        have : ¬ (0 : Int) < w := by omega
        simp [this]
      · rw [if_neg g]
        have : (0 : Int) < w := by omega
        simp [this]
  · by_cases w0 : w = 0
    · subst w0
      rw [Z7h,Z5e hv v0]
      by_cases g : v < 0
      · rw [if_pos g]; simp [g]
      · rw [if_neg g]; simp [g]
    · rw [Z5e hv v0,Z5e hw w0,Zc2 hv hw v0 w0,Zc2 hw hv w0 v0]
      by_cases g : v < 0 <;> by_cases k : w < 0
      · simp [g,k]; omega
      · have : v < w := by omega
        simp [g,k,this]
      · have : ¬ v < w := by omega
        simp [g,k,this]
      · simp [g,k]; omega
theorem Zb5 {v w : Int} (hv : Bd v) (hw : Bd w) (h : (numV v).kept = (numV w).kept) (h1 : (numV v).below = (numV w).below) (h2 : (numV v).scale = (numV w).scale) : v = w := by
  by_cases v0 : v = 0
  · by_cases w0 : w = 0
    · rw [v0,w0]
    · subst v0
      rw [Z04,Ux w0] at h
      exact absurd h.symm (Zaz (Z3i (Z2n hw w0)))
  · by_cases w0 : w = 0
    · subst w0
      rw [Z04,Ux v0] at h
      exact absurd h (Zaz (Z3i (Z2n hv v0)))
    · rw [Ux v0,Ux w0] at h h1 h2
      simp only at h h1 h2
      have e1 := TL.numL_inj h
      have e2 : mn v = mn w := by omega
      have e3 : (rs v < 0) ↔ (rs w < 0) := by
        constructor
        · intro k; rw [decide_eq_true k] at h1; exact of_decide_eq_true h1.symm
        · intro k; rw [decide_eq_true k] at h1; exact of_decide_eq_true h1
      have e4 : rs v = rs w := by omega
      rw [(Z2y hv v0).1,(Z2y hw w0).1,e4,e2]
theorem eq_v {v w : Int} (hv : Bd v) (hw : Bd w) : decide ((numV v).st = (numV w).st ∧ (numV v).below = (numV w).below ∧ (numV v).kept = (numV w).kept ∧ (numV v).scale = (numV w).scale) = decide (v = w) := by
  by_cases h : v = w
  · subst h; simp
  · rw [decide_eq_false h,decide_eq_false]
    rintro ⟨_,a,b,c⟩
    exact h (Zb5 hv hw b a c)
end Ap
set_option maxHeartbeats 4000000
namespace Ap
open PySem PySem.Spec PyProof.Rows L2 SX Fx
theorem Zfl {l : List Nat} (h0 : l ≠ []) (hf : ∀ c ∈ l,c ∈ figs) : areSigns l figs = true := by
  unfold areSigns
  rw [Bool.and_eq_true]
  exact ⟨by simp [h0],by rw [List.all_eq_true]; exact fun c hc => decide_eq_true (hf c hc)⟩
def signOk (c : Nat) : Prop := c ∈ figs ∨ c = 45 ∨ c = 101
theorem signOk.lt {c : Nat} (h : signOk c) : c < 128 ∧ c ≠ 102 ∧ c ≠ 46 := by
  rcases h with h | rfl | rfl
  · have := V7.mp h; omega
  · decide
  · decide
theorem Z5f (p : Int) : ∀ c ∈ dec p,signOk c := by
  rcases Qv p with ⟨n,_,e⟩ | ⟨n,_,e⟩
  · rw [e]; exact fun c hc => .inl ((Xo (Wn n)).2 c hc)
  · rw [e]
    intro c hc
    rcases List.mem_cons.mp hc with h | h
    · exact .inr (.inl h)
    · exact .inl ((Xo (Wn (n + 1))).2 c h)
theorem Z7i (b : Bool) : ∀ c ∈ sg b,signOk c := by
  cases b
  · intro c hc; cases hc
  · intro c hc; rw [List.mem_singleton.mp hc]; exact .inr (.inl rfl)
theorem Z9w (b : Bool) : (sg b).length ≤ 1 := by cases b <;> simp [sg]
theorem Zb6 {F : List Nat} (h : Fg F) (b : Bool) (p : Int) : ∀ c ∈ flT b F p,signOk c := by
  intro c hc
  unfold flT at hc
  rcases List.mem_append.mp hc with k | k
  · exact Z7i b c k
  · rcases List.mem_append.mp k with k | k
    · exact .inl (h.fig c k)
    · rcases List.mem_cons.mp k with k | k
      · exact .inr (.inr k)
      · exact Z5f p c k
theorem Zb7 {l : List Nat} (h : ∀ c ∈ l,c < 128) (hl : l.length ≤ 3500) : wordOk l = true := by
  unfold wordOk
  rw [Bool.and_eq_true]
  exact ⟨decide_eq_true hl,by rw [List.all_eq_true]; exact fun c hc => decide_eq_true (h c hc)⟩
theorem Z1t {tag content F : List Nat} {p : Int} {b : Bool} (hl : tag = tInt ∨ tag = tFloat) (hs : ∀ c ∈ content,signOk c) (h0 : content ≠ []) (hlen : content.length ≤ 3500) (hc : canon tag content = some content)
    (hb : ∀ Z,Y6 [.str content] Z = .ok (.tup [.bl b,.str F,.int p]) Z) {ρ : Fx.Env} {fa : FA} {Z Z1 : Sto} (ha : fa ρ Z = .ok [.str tag,.str content] Z1) :
    eMake "Number" Zd [] fa ρ Z = .ok (.loc Z1.length) (Z1 ++ [.ins "Number" (Num.mk xFin b F p).fs]) := by
  refine Np hl (Zb7 (fun c hc => (hs c hc).lt.1) hlen) hc (fun e => ?_) (List.getLast?_eq_some_getLast h0) (hs _ (List.getLast_mem h0)).lt.2.1 hb ha
  exact (hs 46 (by rw [e]; simp)).lt.2.2 rfl
theorem Z2o {Z : Sto} {j : Nat} {n : Num} (h : Z[j]? = some (.ins "Number" n.fs)) : NumAt Z j n := by unfold NumAt getI; rw [h]
theorem U4 {Z : Sto} {i : Nat} {n : Num} (h : NumAt Z i n) : okY "Number" (.loc i) Z = true ∧ insC (.loc i) Z = some "Number" := by
  have h2 := Z3s h
  have h3 : insC (.loc i) Z = some "Number" := by
    show (getI Z i).map (·.1) = _
    rw [show getI Z i = _ from h]; rfl
  refine ⟨?_,h3⟩
  have : tyT (.loc i) Z = none := by simp only [tyT,h2]
  unfold okY
  rw [this,h3]
  simp
theorem Z7j (n : Num) : n.fs.lookup "all_parts" = none := by simp [Num.fs, List.lookup_cons]
theorem f_eq {Z : Sto} {i j : Nat} {n m : Num} (h : NumAt Z i n) (h2 : NumAt Z j m) (o1 : n.ok = true) (o2 : m.ok = true) : Zh [.loc i,.loc j] Z = .ok (.bl (decide (n.st = m.st ∧ n.below = m.below ∧ n.kept = m.kept ∧ n.scale = m.scale))) Z := by
  have e1 := Jm h (Z7j n)
  have e2 := Jm h2 (Z7j m)
  have r1 := Z9o h
  have r2 := Z9o h2
  have g := Zfb o1 o2 Z
  obtain ⟨y1,y2⟩ := U4 h2
  unfold Num.tup at g
  generalize decide (n.st = m.st ∧ n.below = m.below ∧ n.kept = m.kept ∧ n.scale = m.scale) = D at *
  simp [Zh,runF,Uk,eIsC,y1,y2,eMeth,e1,e2,r1,r2,g]
theorem Zfm {k : Nat} (hk : k ≤ 900) (Z : Sto) : gIntT [.str (49 :: List.replicate k 48)] Z = some (.int ((10 ^ k : Nat) : Int),Z) := by
  have hz : ∀ j,NumText.digitsVal (49 :: List.replicate j 48) = 10 ^ j := by
    have h1 : ∀ (k a : Nat),(zs k).foldl (fun acc c => acc * 10 + (c - 48)) a = a * 10 ^ k := by
      intro k
      induction k with
      | zero => intro a; simp [zs]
      | succ k ih =>
        intro a
        show (48 :: zs k).foldl _ a = _
        rw [List.foldl_cons,ih,Nat.pow_succ]
        simp [Nat.mul_assoc,Nat.mul_comm (10 ^ k)]
    intro j
    show (zs j).foldl _ (0 * 10 + (49 - 48)) = _
    rw [h1]; simp
  have hf : ∀ c ∈ (49 :: List.replicate k 48),c ∈ figs := by
    intro c hc
    rcases List.mem_cons.mp hc with h | h
    · rw [h]; decide
    · rw [(List.mem_replicate.mp h).2]; decide
  have ha : areSigns (unsg (49 :: List.replicate k 48)) figs = true := by
    rw [Z1s hf]
    unfold areSigns
    rw [Bool.and_eq_true]
    exact ⟨by simp,by rw [List.all_eq_true]; exact fun c hc => decide_eq_true (hf c hc)⟩
  have hl : (49 :: List.replicate k 48).length = k + 1 := by simp
  have hlow : (49 :: List.replicate k 48).all (· < 128) = true := by rw [List.all_eq_true]; exact fun c hc => decide_eq_true (Z2l (hf c hc))
  rw [Qu,if_pos ⟨hlow,by rw [hl]; omega⟩,Q9 ha (by rw [hl]; omega),Z11 hf,hz]
  rfl
theorem Z85 {F : List Nat} (h : FgL F) {k : Nat} (hk : k ≤ 130) (b : Bool) (Z : Sto) : Y6 [.str (sg b ++ (F ++ zs k))] Z = .ok (.tup [.bl b,.str F,.int (k : Int)]) Z := by
  have hFl := h.len
  have hz := Z5b k
  have h1 : 101 ∉ F ++ zs k := by
    rw [List.mem_append]
    rintro (e | e)
    · exact (Zay h.fg).1 e
    · exact absurd (Zf7 e) (by decide)
  have := Z5c (w := F ++ zs k) (h := F ++ zs k) (m := []) (t := []) (F := F) (x := 0) b (by
    obtain ⟨d,r,e,hd⟩ := Z6d h.fg (zs k)
    exact ⟨d,r,e,(Z2x hd).2.2.2.2⟩) (by rw [List.length_append]; omega) (Z5a h1) (by rw [List.length_append]; omega) (Zbz h.fg k) (by omega) h.fg.ne (.inl ⟨rfl,rfl⟩) Z
  rw [this,List.length_append,hz]
  have : ((F.length + k : Nat) : Int) - (F.length : Int) + 0 = (k : Int) := by omega
  rw [this]
theorem Zb8 (Z : Sto) : Y6 [.str [48,101,48]] Z = .ok (.tup [.bl false,.str [48],.int 0]) Z := by
  have hpt := Z9r [48,101,48] 101 Z (by decide)
  have hrs := Z41 [48] 48 Z (by decide)
  have e1 : parL 101 [48,101,48] = ([48],[101],[48]) := by decide
  have e2 : rst 48 [48] = [] := by decide
  rw [e1] at hpt
  rw [e2] at hrs
  simp [Y6,runF,Vo,hpt,hrs]
def Told (tag text : List Nat) (v : Int) : Prop := ∀ (ρ : Fx.Env) (fa : FA) (Z Z1 : Sto), fa ρ Z = .ok [.str tag, .str text] Z1 → eMake "Number" Zd [] fa ρ Z = .ok (.loc Z1.length) (Z1 ++ [.ins "Number" (numV v).fs])
theorem toldI0 : Told tInt [48] 0 := fun ρ fa Z Z1 ha => by
  rw [Z04]
  exact Z1t (F := [48]) (p := 0) (b := false) (.inl rfl) (by intro c hc; rw [List.mem_singleton.mp hc]; exact .inl (by decide)) (by decide) (by decide) (by decide +kernel) (fun Z => Zdp Z) ha
theorem toldF0 : Told tFloat [48,101,48] 0 := fun ρ fa Z Z1 ha => by
  rw [Z04]
  exact Z1t (F := [48]) (p := 0) (b := false) (.inr rfl) (by intro c hc; simp at hc; rcases hc with rfl | rfl | rfl; exact .inl (by decide); exact .inr (.inr rfl); exact .inl (by decide)) (by decide) (by decide) (by decide +kernel) (fun Z => Zb8 Z) ha
theorem Zc3 (r : Int) : dec r = sg (decide (r < 0)) ++ TL.numL r.natAbs := by
  rcases Qv r with ⟨n,rfl,e⟩ | ⟨n,rfl,e⟩
  · have h : ¬ ((n : Nat) : Int) < 0 := by omega
    rw [e,decide_eq_false h]; rfl
  · have h : -((n + 1 : Nat) : Int) < 0 := by omega
    have h2 : (-((n + 1 : Nat) : Int)).natAbs = n + 1 := by omega
    rw [e,decide_eq_true h,h2]; rfl
theorem Zfn {v : Int} (h : Bd v) (h0 : v ≠ 0) : (rs v).natAbs < 10 ^ 120 := by
  have e := Zb4 h h0
  have := Nat.le_mul_of_pos_right (rs v).natAbs (Qw (mn v))
  unfold Bd at h
  omega
theorem Zb9 {v : Int} (h : Bd v) (h0 : v ≠ 0) : FgL (TL.numL (rs v).natAbs) ∧ (TL.numL (rs v).natAbs).length ≤ 120 := by
  have := TL.numL_len (k := 120) (by decide) (Zfn h h0)
  exact ⟨⟨Z3i (Z2n h h0),by omega⟩,this⟩
theorem pw_ok {p : Int} (h : p.natAbs ≤ 200) : PwOk p := by
  unfold PwOk
  have : (10 ^ 3 : Nat) ≤ 10 ^ 900 := Nat.pow_le_pow_right (by decide) (by decide)
  generalize (10 ^ 900 : Nat) = B at *
  omega
def fText (v : Int) : List Nat := dec (rs v) ++ 101 :: dec ((mn v : Int) - 20)
theorem toldF {v : Int} (hv : Bd v) (h0 : v ≠ 0) : Told tFloat (fText v) v := fun ρ fa Z Z1 ha => by
  obtain ⟨hF,hl⟩ := Zb9 hv h0
  have hm := (Z2y hv h0).2.2
  have hp : PwOk ((mn v : Int) - 20) := pw_ok (by omega)
  have hd := Z45 hp
  have hs := Z9w (decide (rs v < 0))
  have e : fText v = flT (decide (rs v < 0)) (TL.numL (rs v).natAbs) ((mn v : Int) - 20) := by
    unfold fText flT
    rw [Zc3,List.append_assoc]
  rw [e] at ha
  rw [Ux h0]
  exact Z1t (tag := tFloat) (.inr rfl) (Zb6 hF.fg _ _) (by unfold flT; simp) (by unfold flT; rw [List.length_append,List.length_append,List.length_cons]; omega) ((Z6c _).trans (Zb0 hF.fg _ _)) (fun Z => Zb1 hF hp _ Z) ha
theorem Zfo {n : Int} (hn : n.natAbs < 10 ^ 100) (h0 : n ≠ 0) : ∃ k : Nat,k ≤ 100 ∧ rs (n * 10 ^ 20) % 10 ≠ 0 ∧ n = rs (n * 10 ^ 20) * 10 ^ k ∧ mn (n * 10 ^ 20) = k + 20 := by
  obtain ⟨e1,e2,e3⟩ := Z6f 100 n h0 hn
  have e : n * 10 ^ 20 = (tr 100 n).1 * 10 ^ ((tr 100 n).2 + 20) := by
    rw [Int.pow_add,← Int.mul_assoc,← e1]
  have := Z9v e2 ((tr 100 n).2 + 20) 130 (by omega)
  rw [← e] at this
  refine ⟨(tr 100 n).2,e3,?_,?_,?_⟩
  · unfold rs; rw [this]; exact e2
  · unfold rs; rw [this]; exact e1
  · unfold mn; rw [this]
theorem bd_20 {n : Int} (hn : n.natAbs < 10 ^ 100) : Bd (n * 10 ^ 20) := by
  unfold Bd
  rw [Int.natAbs_mul,show ((10 : Int) ^ 20).natAbs = 10 ^ 20 from rfl,show (10 : Nat) ^ 120 = 10 ^ 100 * 10 ^ 20 by rw [← Nat.pow_add]]
  exact Nat.mul_lt_mul_of_pos_right hn (Qw 20)
theorem n20 {n : Int} (h0 : n ≠ 0) : n * 10 ^ 20 ≠ 0 := Int.mul_ne_zero h0 (by decide)
theorem toldI {n : Int} (hn : n.natAbs < 10 ^ 100) (h0 : n ≠ 0) : Told tInt (dec n) (n * 10 ^ 20) := fun ρ fa Z Z1 ha => by
  have hv := bd_20 hn
  have v0 := n20 h0
  obtain ⟨k,hk,h10,en,em⟩ := Zfo hn h0
  obtain ⟨hF,hl⟩ := Zb9 hv v0
  have hs := Z9w (decide (rs (n * 10 ^ 20) < 0))
  have ea : n.natAbs = (rs (n * 10 ^ 20)).natAbs * 10 ^ k := by
    have e : n.natAbs = (rs (n * 10 ^ 20) * 10 ^ k).natAbs := by rw [← en]
    rw [e,Int.natAbs_mul,Int.natAbs_pow]; rfl
  have es : decide (n < 0) = decide (rs (n * 10 ^ 20) < 0) := by
    have h1 := Zfi hv v0
    have h2 : n * 10 ^ 20 < 0 ↔ n < 0 := by
      have : (10 : Int) ^ 20 = 100000000000000000000 := by decide
      rw [this]; omega
    by_cases g : n < 0
    · rw [decide_eq_true g,decide_eq_true (h1.mpr (h2.mpr g))]
    · rw [decide_eq_false g,decide_eq_false fun z => g (h2.mp (h1.mp z))]
  have e : dec n = sg (decide (rs (n * 10 ^ 20) < 0)) ++ (TL.numL (rs (n * 10 ^ 20)).natAbs ++ zs k) := by
    rw [Zc3,ea,Z46 (by have := Z2n hv v0; omega),es]
  have hc : canon tInt (dec n) = some (dec n) := Z9l (Z9k n)
  have hsn := Z5f n
  rw [e] at ha hc hsn
  have hpt := fun Z => Z85 hF (show k ≤ 130 by omega) (decide (rs (n * 10 ^ 20) < 0)) Z
  have ek : ((k + 20 : Nat) : Int) - 20 = (k : Int) := by omega
  rw [Ux v0,em,ek]
  exact Z1t (tag := tInt) (.inl rfl) hsn (by simp [TL.numL_ne]) (by rw [List.length_append,List.length_append,Z5b]; omega) hc hpt ha
theorem Z14 (v : Int) (Z : Sto) : Zy [.int v] Z = .ok (.tup [.int (rs v),.int (mn v : Int)]) Z := by
  obtain ⟨ρ1, Z1, e1, rest, many, o, rfl, rfl, hh⟩ : ∃ ρ' Z', loopN (itRng 0 130) (fun t ρ' Z' => bS ρ' (gNm 3 t ρ' Z') X7) Fuel 0 [some (.int v), some (.int v), some (.int 0), none] Z = .nx ρ' Z' ∧ ∃ (rest : Int) (many : Nat) (o : Option Fx.T), ρ' = [some (.int v), some (.int rest), some (.int (many : Int)), o] ∧ Z' = Z ∧ tr 130 v = ((tr 0 rest).1, (tr 0 rest).2 + many) := by
    rw [Z3g (by decide)]
    obtain ⟨ρ', Z', e, rest, many, o, h1, h2, h3⟩ := Z58 (body := fun t ρ' Z' => bS ρ' (gNm 3 t ρ' Z') X7) (ts := (List.range 130).map fun (i : Nat) => Fx.T.int ((0 : Int) + (i : Int))) (Z := Z) (ρ := [some (.int v), some (.int v), some (.int 0), none])
      (fun pre ρ Z' => ∃ (rest : Int) (many : Nat) (o : Option Fx.T), ρ = [some (.int v), some (.int rest), some (.int (many : Int)), o] ∧ Z' = Z ∧ tr 130 v = ((tr (130 - pre.length) rest).1, (tr (130 - pre.length) rest).2 + many))
      ⟨v,0,none,rfl,rfl,rfl⟩
      (fun pre x post ρ Z' et h => by
        obtain ⟨rest,many,o,rfl,rfl,hh⟩ := h
        obtain ⟨rfl,hk⟩ := Zat et
        have el : (pre ++ [Fx.T.int (0 + (pre.length : Int))]).length = pre.length + 1 := by simp
        have eK : 130 - pre.length = (130 - (pre.length + 1)) + 1 := by omega
        by_cases hc : rest ≠ 0 ∧ rest % 10 = 0
        · obtain ⟨c1,c2⟩ := hc
          refine ⟨[some (.int v), some (.int (rest / 10)), some (.int ((many + 1 : Nat) : Int)), some (.int (0 + (pre.length : Int)))], Z', .inl ?_, rest / 10, many + 1, _, rfl, rfl, ?_⟩
          · simp [X7,c1,c2]
          · rw [el,hh,eK,Z6e ⟨c1,c2⟩]
            simp only [Prod.mk.injEq,true_and]
            omega
        · refine ⟨[some (.int v), some (.int rest), some (.int (many : Int)), some (.int (0 + (pre.length : Int)))], Z', .inl ?_, rest, many, _, rfl, rfl, ?_⟩
          · by_cases c1 : rest = 0
            · simp [X7,c1]
            · have c2 : ¬ rest % 10 = 0 := fun h => hc ⟨c1,h⟩
              simp [X7,c1,c2]
          · rw [hh,Z1a hc,Z1a hc])
    refine ⟨ρ', Z', e, rest, many, o, h1, h2, ?_⟩
    rw [h3]; simp
  have h130 : ∀ Z,rngOf [.int 130] Z = .ok (itRng 0 130) Z := fun Z => rngN (n := 130) (by decide)
  have er : rs v = rest := by unfold rs; rw [hh]; rfl
  have em : mn v = many := by unfold mn; rw [hh]; show 0 + many = many; omega
  simp only [Zar,Zag] at e1
  rw [er,em]
  simp [Zy,runF,Z03,h130,e1]
end Ap
set_option maxHeartbeats 4000000
namespace Ap
open PySem PySem.Spec PyProof.Rows L2 SX Fx
structure TOk (tag text : List Nat) (v : Int) : Prop where
  tg : tag = tInt ∨ tag = tFloat
  bd : v.natAbs < 10 ^ 115
  told : Told tag text v
def tl3 (tag text : List Nat) (v : Int) : Fx.T := .tup [.str tag,.str text,.int v]
theorem Z9x {v : Int} (h : v.natAbs < 10 ^ 115) : Bd v := Nat.lt_of_lt_of_le h (Nat.pow_le_pow_right (by decide) (by decide))
theorem bd_1 {v : Int} (h : v.natAbs < 10 ^ 115) : Bd (v + 1) := by
  unfold Bd
  have : (10 ^ 115 + 1 : Nat) ≤ 10 ^ 120 := by decide +kernel
  generalize (10 ^ 115 : Nat) = A at *
  generalize (10 ^ 120 : Nat) = B at *
  omega
theorem dec_0 : dec 0 = [48] := by decide +kernel
theorem Z6k {v : Int} (h : v.natAbs < 10 ^ 115) : v.natAbs < 10 ^ 4300 := Jc h (by decide)
theorem Zba {n : Int} {p : Nat} (hr : n % 10 ≠ 0) (hp : p ≤ 130) : fText (n * 10 ^ p) = dec n ++ 101 :: dec ((p : Int) - 20) ∧ rs (n * 10 ^ p) = n ∧ mn (n * 10 ^ p) = p := by
  have := Z9v hr p 130 hp
  have e1 : rs (n * 10 ^ p) = n := by unfold rs; rw [this]
  have e2 : mn (n * 10 ^ p) = p := by unfold mn; rw [this]
  refine ⟨?_,e1,e2⟩
  unfold fText
  rw [e1,e2]
theorem Z0i (n : Int) (p : Nat) : (n * 10 ^ p).natAbs = n.natAbs * 10 ^ p := by rw [Int.natAbs_mul,Int.natAbs_pow]; rfl
theorem Zds {Z : Sto} {w : Nat} (hw : Wel Z w) : ∃ (far n : Int) (Z' : Sto), n.natAbs < 10 ^ 71 ∧ Uw [some (.loc w), none, none, none, none, none] Z = Wg [some (.loc w), some (.int far), some (.int n), none, none, none] Z' ∧ Kp w Z Z' := by
  obtain ⟨r1,Z1,h1,e1,k1⟩ := Z0h hw 100000000000000000000 100000000000000000000 rfl (by decide) (by decide)
  obtain ⟨r2,Z2,h2,e2,k2⟩ := Z0h k1.wel 100000000 100000000 rfl (by decide) (by decide)
  obtain ⟨t3,h3,Z3,e3,k3⟩ := Z7b (xs := [.int 1,.int 1000000000]) k2.wel (by decide) (by decide)
  obtain ⟨c,rfl,hc0,hc⟩ : ∃ c : Int,t3 = .int c ∧ 1 ≤ c ∧ c ≤ 1000000000 := by
    simp at h3
    rcases h3 with rfl | rfl
    · exact ⟨1,rfl,by decide,by decide⟩
    · exact ⟨1000000000,rfl,by decide,by decide⟩
  have m1 : ∀ Z,gMulW (.int (r1 : Int)) (.int 10000000000000000000000000000000000000000) Z = some (.int ((r1 : Int) * 10000000000000000000000000000000000000000),Z) := fun Z => Z73 Z (Nat.lt_trans (show ((r1 : Int)).natAbs < 2 ^ 70 by simp; omega) (by decide)) (by decide)
  have b1 : ((r1 : Int) * 10000000000000000000000000000000000000000 + (r2 : Int)).natAbs < 2 ^ 300 := by
    have : (2 : Nat) ^ 300 = 2037035976334486086268445688409378161051468393665936250636140449354381299763336706183397376 := by decide +kernel
    rw [this]
    omega
  have m2 : ∀ Z,gMulW (.int ((r1 : Int) * 10000000000000000000000000000000000000000 + (r2 : Int))) (.int c) Z = some (.int (((r1 : Int) * 10000000000000000000000000000000000000000 + (r2 : Int)) * c),Z) := fun Z => Z73 Z (Nat.lt_trans b1 (by decide)) (Nat.lt_trans (show c.natAbs < 2 ^ 70 by omega) (by decide))
  obtain ⟨far,hfar⟩ : ∃ far,far = ((r1 : Int) * 10000000000000000000000000000000000000000 + (r2 : Int)) * c := ⟨_,rfl⟩
  have hfb : far.natAbs < 10 ^ 71 := by
    rw [hfar,Int.natAbs_mul]
    have ha : ((r1 : Int) * 10000000000000000000000000000000000000000 + (r2 : Int)).natAbs ≤ 10 ^ 61 := by
      have : (10 : Nat) ^ 61 = 10000000000000000000000000000000000000000000000000000000000000 := by decide +kernel
      rw [this]
      omega
    have hb : c.natAbs ≤ 10 ^ 9 := by omega
    exact Nat.lt_of_le_of_lt (Nat.mul_le_mul ha hb) (by decide +kernel)
  rw [← hfar] at m2
  have s1 : Uw [some (.loc w),none,none,none,none,none] Z = Vt [some (.loc w),some (.int far),none,none,none,none] Z3 := by
    generalize (r1 : Int) * 10000000000000000000000000000000000000000 = R at *
    simp [Uw,e1,e2,e3,m1,m2]
  obtain ⟨r4,Z4,h4,e4,k4⟩ := Z0h k3.wel 10 10 rfl (by decide) (by decide)
  obtain ⟨r5,Z5,h5,e5,k5⟩ := Z0h k4.wel 1000000 1000000 rfl (by decide) (by decide)
  obtain ⟨r6,Z6,h6,e6,k6⟩ := Z0h k5.wel 100000000000000000000 100000000000000000000 rfl (by decide) (by decide)
  obtain ⟨t7,h7,Z7,e7,k7⟩ := Z7b (xs := [.int (r4 : Int),.int (r5 : Int),.int (r6 : Int),.int 1000000000,.int far]) k6.wel (by simp) (by simp)
  obtain ⟨m,rfl,hm⟩ : ∃ m : Int,t7 = .int m ∧ m.natAbs < 10 ^ 71 := by
    have hbig : (100000000000000000000 : Nat) < 10 ^ 71 := by decide +kernel
    generalize (10 ^ 71 : Nat) = A at *
    simp at h7
    rcases h7 with rfl | rfl | rfl | rfl | rfl <;> exact ⟨_,rfl,by omega⟩
  have s2 : Vt [some (.loc w),some (.int far),none,none,none,none] Z3 = Vs [some (.loc w),some (.int far),some (.int m),none,none,none] Z7 := by
    simp [Vt,e4,e5,e6,e7]
  obtain ⟨t8,h8,Z8,e8,k8⟩ := Z7b (xs := [.int m,.int (-m)]) k7.wel (by simp) (by simp)
  obtain ⟨n,rfl,hn⟩ : ∃ n : Int,t8 = .int n ∧ n.natAbs < 10 ^ 71 := by
    generalize (10 ^ 71 : Nat) = A at *
    simp at h8
    rcases h8 with rfl | rfl <;> exact ⟨_,rfl,by omega⟩
  have s3 : Vs [some (.loc w),some (.int far),some (.int m),none,none,none] Z7 = Wg [some (.loc w),some (.int far),some (.int n),none,none,none] Z8 := by
    simp [Vs,e8]
  exact ⟨far,n,Z8,hn,s1.trans (s2.trans s3),(k1.trans (k2.trans k3)).trans ((k4.trans (k5.trans k6)).trans (k7.trans k8))⟩
theorem Z9y {Z : Sto} {w : Nat} (hw : Wel Z w) : ∃ (tag text : List Nat) (v : Int) (Z' : Sto), TOk tag text v ∧ Xw [.loc w] Z = .ok (tl3 tag text v) Z' ∧ Kp w Z Z' := by
  obtain ⟨far,n,Z1,hn,s1,k1⟩ := Zds hw
  have hn1 : n.natAbs < 10 ^ 100 := Nat.lt_of_lt_of_le hn (Nat.pow_le_pow_right (by decide) (by decide))
  have hn2 : n.natAbs < 10 ^ 115 := Nat.lt_of_lt_of_le hn (Nat.pow_le_pow_right (by decide) (by decide))
  have hn3 : n.natAbs < 2 ^ 1000 := Nat.lt_trans hn (by decide +kernel)
  obtain ⟨r,Z2,hr,e2,k2⟩ := Z0h k1.wel 2 2 rfl (by decide) (by decide)
  have hst : ∀ Z,gStr [.int n] Z = some (.str (dec n),Z) := fun Z => Z10 _ Z (Z6k hn2)
  have hp20 : (10 : Int) ^ 20 = 100000000000000000000 := by decide
  by_cases h0 : r = 0
  · subst h0
    have hb : (n * 10 ^ 20).natAbs < 10 ^ 115 := by
      rw [Z0i]
      exact Nat.lt_of_lt_of_le (Nat.mul_lt_mul_of_pos_right hn (Qw 20)) (by decide +kernel)
    refine ⟨tInt,dec n,n * 10 ^ 20,Z2,⟨.inl rfl,hb,?_⟩,?_,k1.trans k2⟩
    · by_cases n0 : n = 0
      · subst n0; rw [dec_0,Int.zero_mul]; exact toldI0
      · exact toldI hn1 n0
    · have hm : ∀ Z,gMulW (.int n) (.int 100000000000000000000) Z = some (.int (n * 100000000000000000000),Z) := fun Z => Z73 Z hn3 (by decide)
      simp [Xw,runF,s1,Wg,e2,hst,hm,tl3,tInt]
  · have htr := fun Z => Z14 n Z
    obtain ⟨p,Z3,hp,e3,k3⟩ := Z0h k2.wel 41 41 rfl (by decide) (by decide)
    have hB : Bd n := Z9x hn2
    by_cases n0 : n = 0
    · subst n0
      have z1 := rs_0.1
      refine ⟨tFloat,[48,101,48],0,Z3,⟨.inr rfl,by decide +kernel,toldF0⟩,?_,(k1.trans k2).trans k3⟩
      simp [Xw,runF,s1,Wg,Q8,Q7,Q6,Q5,e2,h0,htr,e3,z1,tl3,tFloat]
    · obtain ⟨q1,q2,q3⟩ := Z2y hB n0
      have hle : (rs n).natAbs < 10 ^ 71 := by
        have e := Zb4 hB n0
        have := Nat.le_mul_of_pos_right (rs n).natAbs (Qw (mn n))
        generalize (10 ^ 71 : Nat) = A at *
        omega
      have r0 : rs n ≠ 0 := fun e => n0 ((Z5d hB).mp e)
      generalize rs n = a at *
      obtain ⟨f1,f2,f3⟩ := Zba q2 (show p ≤ 130 by omega)
      have hb : (a * 10 ^ p).natAbs < 10 ^ 115 := by
        rw [Z0i]
        exact Nat.lt_of_lt_of_le (Nat.mul_lt_mul_of_lt_of_le hle (Nat.pow_le_pow_right (by decide) (show p ≤ 41 by omega)) (Qw _)) (by decide +kernel)
      have hv0 : a * 10 ^ p ≠ 0 := fun e => by
        rw [e,rs_0.1] at f2
        exact r0 f2.symm
      have ha : a.natAbs < 10 ^ 115 := Nat.lt_of_lt_of_le hle (Nat.pow_le_pow_right (by decide) (by decide))
      have hsa : ∀ Z,gStr [.int a] Z = some (.str (dec a),Z) := fun Z => Z10 _ Z (Z6k ha)
      have hpp : ((p : Int) - 20).natAbs < 10 ^ 115 := Nat.lt_of_lt_of_le (show ((p : Int) - 20).natAbs < 10 ^ 3 by omega) (Nat.pow_le_pow_right (by decide) (by decide))
      have hsp : ∀ Z,gStr [.int ((p : Int) - 20)] Z = some (.str (dec ((p : Int) - 20)),Z) := fun Z => Z10 _ Z (Z6k hpp)
      have d1 : (dec a).length ≤ 116 := Z12 (by decide) ha
      have d2 : (dec ((p : Int) - 20)).length ≤ 116 := Z12 (by decide) hpp
      have a1 : ∀ Z,gAdd (.str (dec a)) (.str [101]) Z = some (.str (dec a ++ [101]),Z) := fun Z => N6 _ _ _ (by simp only [List.length_singleton]; unfold Lim; omega)
      have a2 : ∀ Z,gAdd (.str (dec a ++ [101])) (.str (dec ((p : Int) - 20))) Z = some (.str (fText (a * 10 ^ p)),Z) := fun Z => by
        rw [N6 _ _ _ (by rw [List.length_append]; simp only [List.length_singleton]; unfold Lim; omega),f1]; simp
      have m1 : ∀ Z,gMul (.str [48]) (.int (p : Int)) Z = some (.str (List.replicate p 48),Z) := fun Z => Zdd 48 p Z (by omega)
      have m2 : ∀ Z,gAdd (.str [49]) (.str (List.replicate p 48)) Z = some (.str (49 :: List.replicate p 48),Z) := fun Z => N6 _ _ _ (by rw [List.length_replicate]; simp only [List.length_singleton]; unfold Lim; omega)
      have m3 := fun Z => Zfm (show p ≤ 900 by omega) Z
      have ep : (20 : Int) + ((p : Int) - 20) = (p : Int) := by omega
      have ec : (((10 ^ p : Nat)) : Int) = (10 : Int) ^ p := by simp
      rw [ec] at m3
      have m4 : ∀ Z,gMulW (.int a) (.int ((10 : Int) ^ p)) Z = some (.int (a * 10 ^ p),Z) := fun Z => Z73 Z (Nat.lt_trans hle (by decide +kernel)) (by
        rw [Int.natAbs_pow]
        exact Nat.lt_of_le_of_lt (Nat.pow_le_pow_right (by decide) (show p ≤ 41 by omega)) (by decide +kernel))
      refine ⟨tFloat,fText (a * 10 ^ p),a * 10 ^ p,Z3,⟨.inr rfl,hb,toldF (Z9x hb) hv0⟩,?_,(k1.trans k2).trans k3⟩
      generalize fText (a * 10 ^ p) = FT at *
      generalize (10 : Int) ^ p = P at *
      generalize a * P = V at *
      generalize dec a = DA at *
      generalize dec ((p : Int) - 20) = DP at *
      generalize 49 :: List.replicate p 48 = W1 at *
      generalize List.replicate p 48 = W0 at *
      simp [-Qu,Xw,runF,s1,Wg,Q8,Q7,Q6,Q5,e2,h0,htr,e3,r0,hsa,hsp,a1,a2,ep,m1,m2,m3,m4,tl3,tFloat]
theorem Z1m {v : Int} (h : v.natAbs < 10 ^ 120) (h0 : v ≠ 0) (Z : Sto) : gStr [.int (rs v)] Z = some (.str (dec (rs v)),Z) ∧ gStr [.int ((mn v : Int) - 20)] Z = some (.str (dec ((mn v : Int) - 20)),Z) ∧ gAdd (.str (dec (rs v))) (.str [101]) Z = some (.str (dec (rs v) ++ [101]),Z) ∧ gAdd (.str (dec (rs v) ++ [101])) (.str (dec ((mn v : Int) - 20))) Z = some (.str (fText v),Z) := by
  have h1 := Zfn h h0
  have h2 := (Z2y h h0).2.2
  have hp : ((mn v : Int) - 20).natAbs < 10 ^ 120 := Nat.lt_of_lt_of_le (show ((mn v : Int) - 20).natAbs < 10 ^ 3 by omega) (Nat.pow_le_pow_right (by decide) (by decide))
  have d1 : (dec (rs v)).length ≤ 121 := Z12 (by decide) h1
  have d2 : (dec ((mn v : Int) - 20)).length ≤ 121 := Z12 (by decide) hp
  refine ⟨Z10 _ Z (Jc h1 (by decide)),Z10 _ Z (Jc hp (by decide)),N6 _ _ _ (by simp only [List.length_singleton]; unfold Lim; omega),?_⟩
  rw [N6 _ _ _ (by rw [List.length_append]; simp only [List.length_singleton]; unfold Lim; omega)]
  unfold fText; simp
theorem Zbb {tag text : List Nat} {v : Int} (h : TOk tag text v) (Z : Sto) : ∃ text', Told tFloat text' (v + 1) ∧ Wm [tl3 tag text v] Z = .ok (tl3 tFloat text' (v + 1)) Z := by
  have hB := bd_1 h.bd
  have htr := fun Z => Z14 (v + 1) Z
  by_cases h0 : v + 1 = 0
  · refine ⟨[48,101,48],by rw [h0]; exact toldF0,?_⟩
    have z1 : rs (v + 1) = 0 := by rw [h0]; exact rs_0.1
    rw [z1] at htr
    generalize (mn (v + 1) : Int) = M at *
    generalize hV : v + 1 = V at *
    simp [Wm,runF,Jb,tl3,htr,hV,tFloat]
  · have f1 := fun Z => (Z1m hB h0 Z).1
    have f2 := fun Z => (Z1m hB h0 Z).2.1
    have f3 := fun Z => (Z1m hB h0 Z).2.2.1
    have f4 := fun Z => (Z1m hB h0 Z).2.2.2
    have r0 : rs (v + 1) ≠ 0 := fun e => h0 ((Z5d hB).mp e)
    refine ⟨fText (v + 1),toldF hB h0,?_⟩
    generalize fText (v + 1) = FT at *
    generalize (mn (v + 1) : Int) = M at *
    generalize rs (v + 1) = R at *
    generalize dec R = DR at *
    generalize dec (M - 20) = DM at *
    generalize hV : v + 1 = V at *
    simp [Wm,runF,Jb,tl3,htr,hV,r0,f1,f2,f3,f4,tFloat]
theorem Zfp {tag text : List Nat} {v : Int} (h : TOk tag text v) (Z : Sto) : ∃ tag' text', Told tag' text' v ∧ W7 [tl3 tag text v] Z = .ok (tl3 tag' text' v) Z := by
  have hB := Z9x h.bd
  have htr := fun Z => Z14 v Z
  by_cases h0 : v = 0
  · subst h0
    have z1 := rs_0.1
    rcases h.tg with rfl | rfl
    · refine ⟨tFloat,[48,101,48],toldF0,?_⟩
      simp [W7,runF,Vq,tl3,htr,z1,tInt,tFloat]
    · refine ⟨tInt,[48],toldI0,?_⟩
      simp [W7,runF,Vq,tl3,htr,z1,tInt,tFloat]
  · have f1 := fun Z => (Z1m hB h0 Z).1
    have f2 := fun Z => (Z1m hB h0 Z).2.1
    have f3 := fun Z => (Z1m hB h0 Z).2.2.1
    have f4 := fun Z => (Z1m hB h0 Z).2.2.2
    have r0 : rs v ≠ 0 := fun e => h0 ((Z5d hB).mp e)
    by_cases hi : tag = tFloat ∧ 20 ≤ mn v
    · obtain ⟨rfl,hm⟩ := hi
      obtain ⟨q1,q2,q3⟩ := Z2y hB h0
      obtain ⟨n,hn⟩ : ∃ n,n = rs v * 10 ^ (mn v - 20) := ⟨_,rfl⟩
      have ev : v = n * 10 ^ 20 := by
        rw [hn,Int.mul_assoc,← Int.pow_add,show mn v - 20 + 20 = mn v by omega]
        exact q1
      have ed : v / 100000000000000000000 = n := by
        rw [ev,show (10 : Int) ^ 20 = 100000000000000000000 from by decide]
        omega
      have n0 : n ≠ 0 := fun e => h0 (by rw [ev,e,Int.zero_mul])
      have hnb : n.natAbs < 10 ^ 100 := by
        have e : v.natAbs = n.natAbs * 10 ^ 20 := by rw [ev,Z0i]
        have hb := h.bd
        rw [e,show (10 : Nat) ^ 115 = 10 ^ 95 * 10 ^ 20 by decide +kernel] at hb
        exact Nat.lt_of_lt_of_le (Nat.lt_of_mul_lt_mul_right hb) (Nat.pow_le_pow_right (by decide) (by decide))
      have hs : ∀ Z,gStr [.int n] Z = some (.str (dec n),Z) := fun Z => Z10 _ Z (Jc hnb (by decide))
      have ht := toldI hnb n0
      rw [← ev] at ht
      refine ⟨tInt,dec n,ht,?_⟩
      have hm' : (20 : Int) ≤ (mn v : Int) := by omega
      generalize (mn v : Int) = M at *
      generalize rs v = R at *
      generalize dec n = DN at *
      simp [W7, runF, Vq, tl3, htr, r0, hm', ed, hs, tInt, tFloat]
    · refine ⟨tFloat,fText v,toldF hB h0,?_⟩
      generalize fText v = FT at *
      by_cases ht : tag = tFloat
      · have hm' : ¬ (20 : Int) ≤ (mn v : Int) := fun e => hi ⟨ht, by omega⟩
        subst ht
        generalize (mn v : Int) = M at *
        generalize rs v = R at *
        generalize dec R = DR at *
        generalize dec (M - 20) = DM at *
        simp [W7, runF, Vq, tl3, htr, r0, hm', f1, f2, f3, f4, tFloat]
      · have ht' : ¬ tag = [33,33,102,108,111,97,116] := ht
        generalize (mn v : Int) = M at *
        generalize rs v = R at *
        generalize dec R = DR at *
        generalize dec (M - 20) = DM at *
        simp [W7, runF, Vq, tl3, htr, r0, ht', f1, f2, f3, f4, tFloat]
end Ap
set_option maxHeartbeats 4000000
namespace Ap
open PySem PySem.Spec PyProof.Rows L2 SX Fx
theorem Zfq {Z : Sto} {j : Nat} {n : Num} (h : NumAt Z j n) : j < Z.length := (List.getElem?_eq_some_iff.mp (Z3s h)).1
theorem Z47 {Z Y : Sto} {j : Nat} {n : Num} (h : NumAt Z j n) : NumAt (Z ++ Y) j n := Z2o (by rw [List.getElem?_append_left (Zfq h)]; exact Z3s h)
theorem Z5g (Z : Sto) (n : Num) : NumAt (Z ++ [.ins "Number" n.fs]) Z.length n := Z9u _ _ _
theorem Zfr {F : List Nat} (h : Fg F) (hl : F.length ≤ 360) (b : Bool) (Z : Sto) : gIntT [.str (sg b ++ F)] Z = some (.int (if b = true then -((NumText.digitsVal F : Nat) : Int) else ((NumText.digitsVal F : Nat) : Int)),Z) := by
  have ha := Zfl h.ne h.fig
  have hlow : (sg b ++ F).all (· < 128) = true := by
    rw [List.all_eq_true]
    intro c hc
    rcases List.mem_append.mp hc with m | m
    · exact decide_eq_true (Z7i b c m).lt.1
    · exact decide_eq_true (Z2l (h.fig c m))
  have hsl := Z9w b
  have hu : areSigns (unsg (sg b ++ F)) figs = true := by
    cases b
    · show areSigns (unsg F) figs = true
      rw [Z1s h.fig]; exact ha
    · show areSigns (unsg (45 :: F)) figs = true
      simp [unsg,List.isPrefixOf]; exact ha
  rw [Qu,if_pos ⟨hlow,by rw [List.length_append]; omega⟩,Q9 hu (by rw [List.length_append]; omega)]
  cases b
  · show some (Fx.T.int (intOf F),Z) = _
    rw [Z11 h.fig]; rfl
  · rfl
theorem st_v (v : Int) : (numV v).st = xFin := by
  by_cases h : v = 0
  · subst h; rw [Z04]
  · rw [Ux h]
theorem ok_v {v : Int} (hB : Bd v) : (numV v).ok = true := by
  unfold Num.ok
  rw [st_v,Bool.and_eq_true]
  refine ⟨by decide,?_⟩
  by_cases h : v = 0
  · subst h; rw [Z04]; decide
  · rw [Ux h]; exact Zdm fun c hc => Z2l ((Xo (Wn _)).2 c hc)
theorem Z86 {v : Int} (hB : Bd v) : (numV v).kept.length ≤ Lim := by
  by_cases h : v = 0
  · subst h; rw [Z04]; decide
  · rw [Ux h]
    have := (Zb9 hB h).2
    show (TL.numL (rs v).natAbs).length ≤ Lim
    unfold Lim; omega
theorem Zfs {Z : Sto} {i j : Nat} {v w : Int} (h : NumAt Z i (numV v)) (h2 : NumAt Z j (numV w)) (hv : Bd v) (hw : Bd w) : gOwnEq "Number" Zh (.loc i) (.loc j) Z = some (.bl (decide (v = w)), Z) := by
  obtain ⟨_,y2⟩ := U4 h
  obtain ⟨y1,_⟩ := U4 h2
  have e := f_eq h h2 (ok_v hv) (ok_v hw)
  rw [eq_v hv hw] at e
  unfold gOwnEq
  rw [if_pos ⟨y2,y1⟩,e]
  rfl
theorem Z5h {Z : Sto} {i j : Nat} {n m : Num} (h : NumAt Z i n) (h2 : NumAt Z j m) (hn : n.ok = true) (hm : m.ok = true) {b : Bool} (hb : decide (n.st = m.st ∧ n.below = m.below ∧ n.kept = m.kept ∧ n.scale = m.scale) = b) : gOwnEq "Number" Zh (.loc i) (.loc j) Z = some (.bl b, Z) := by
  obtain ⟨_,y2⟩ := U4 h
  obtain ⟨y1,_⟩ := U4 h2
  have e := f_eq h h2 hn hm
  rw [hb] at e
  unfold gOwnEq
  rw [if_pos ⟨y2,y1⟩,e]
  rfl
theorem Zdt {Z : Sto} {i : Nat} {n : Num} (h : NumAt Z i n) (k : Int) : gOwnEq "Number" Zh (.loc i) (.int k) Z = some (.bl false, Z) := by
  obtain ⟨_,y2⟩ := U4 h
  have y1 : okY "Number" (.int k) Z = true := by simp [okY, tyT, bTypes]
  have e : Zh [.loc i,.int k] Z = .ok (.bl false) Z := by simp [Zh,runF,Uk,eIsC,y1,insC]
  unfold gOwnEq
  rw [if_pos ⟨y2,y1⟩,e]
  rfl
theorem Zdu {Z : Sto} {i : Nat} {n : Num} (h : NumAt Z i n) (k : List Nat) : gOwnEq "Number" Zh (.loc i) (.str k) Z = some (.bl false, Z) := by
  obtain ⟨_,y2⟩ := U4 h
  have y1 : okY "Number" (.str k) Z = true := by simp [okY, tyT, bTypes]
  have e : Zh [.loc i,.str k] Z = .ok (.bl false) Z := by simp [Zh,runF,Uk,eIsC,y1,insC]
  unfold gOwnEq
  rw [if_pos ⟨y2,y1⟩,e]
  rfl
theorem Zdv {Z : Sto} {i : Nat} {n : Num} (h : NumAt Z i n) : gOwnEq "Number" Zh (.loc i) .non Z = some (.bl false, Z) := by
  obtain ⟨_,y2⟩ := U4 h
  have y1 : okY "Number" .non Z = true := by simp [okY, tyT, bTypes]
  have e : Zh [.loc i,.non] Z = .ok (.bl false) Z := by simp [Zh,runF,Uk,eIsC,y1,insC]
  unfold gOwnEq
  rw [if_pos ⟨y2,y1⟩,e]
  rfl
theorem Z2p : ¬ xFin = [110,97,110] := by decide
theorem Z9z {Z : Sto} {i j : Nat} {v w : Int} (h : NumAt Z i (numV v)) (h2 : NumAt Z j (numV w)) (hv : Bd v) (hw : Bd w) : Zv [.loc i,.loc j] Z = .ok (.bl (decide (v < w))) Z := by
  rw [Zbx h h2 (Z86 hv) (Z86 hw) (by rw [st_v]; exact Z2p) (by rw [st_v]; exact Z2p),Zfk hv hw]
theorem Zft {Z : Sto} {i : Nat} {v : Int} (h : NumAt Z i (numV v)) (hv : Bd v) : Zk [.loc i] Z = .ok (.int (rs v)) Z := by
  have e1 := U5 h
  have e2 := Z13 h
  have e3 := Vv h
  rw [st_v] at e1
  have hst := Z2p
  by_cases h0 : v = 0
  · subst h0
    rw [Z04] at e2 e3
    have hi : gIntT [.str [48]] Z = some (.int 0,Z) := by
      rw [Qu,if_pos (by decide),Q9 (by decide) (by decide)]; rfl
    rw [rs_0.1]
    simp only at e2 e3
    generalize xFin = XF at *
    simp [-Qu,Zk,runF,X6,eFld,e1,e2,e3,hst,hi]
  · obtain ⟨hF,hl⟩ := Zb9 hv h0
    have hi := Zfr hF.fg (by omega) false Z
    simp only [sg,Bool.false_eq_true,if_false,List.nil_append,TL.numL_val] at hi
    rw [Ux h0] at e2 e3
    simp only at e2 e3
    generalize TL.numL (rs v).natAbs = F at *
    generalize xFin = XF at *
    by_cases g : rs v < 0
    · rw [decide_eq_true g] at e2
      have : -((rs v).natAbs : Int) = rs v := by omega
      simp [-Qu,Zk,runF,X6,eFld,e1,e2,e3,hst,hi,this]
    · rw [decide_eq_false g] at e2
      have : ((rs v).natAbs : Int) = rs v := by omega
      rw [this] at hi
      simp [-Qu,Zk,runF,X6,eFld,e1,e2,e3,hst,hi]
theorem Zc4 {s : List Nat} (hs : okS s = true) (a b : Int) (Z : Sto) : gEq (.tup [.str s,.int a,.int b]) (.tup [.str s,.int a,.int b]) Z = some (.bl true,Z) := by
  have e := eq_self (x := .tup [.str s,.int a,.int b]) (Z := Z) (d := .tuple [.str (S s),.int a,.int b]) rfl rfl (by simp [SeqAt.shaped,PyData.canLay0,PyData.canLayAll0,PyData.depth,PyData.depthAll,Zda hs])
  simp only [gEq,e,Option.map_some]
theorem Zdw {v : Int} (hv : Bd v) : (numV v).scale = if rs v = 0 then 0 else (mn v : Int) - 20 := by
  by_cases h0 : v = 0
  · subst h0; rw [Z04,if_pos rs_0.1]
  · rw [Ux h0,if_neg fun e => h0 ((Z5d hv).mp e)]
theorem Zdx {tag text : List Nat} {v : Int} (h : Told tag text v) (hv : Bd v) (Z : Sto) : V6 [tl3 tag text v] Z = .ok (.bl true) (Z ++ [.ins "Number" (numV v).fs]) := by
  have m := fun o1 o2 o3 o4 => h [some (.tup [.str tag,.str text,.int v]),o1,o2,o3,o4] (aCons (eBin gIx (eVar 0) (eC (.int 0))) (aCons (eBin gIx (eVar 0) (eC (.int 1))) aNil)) Z Z (by simp)
  have htr := fun Z => Z14 v Z
  have n1 := Z5g Z (numV v)
  have f1 := Z43 n1
  have f2 := Zft n1 hv
  have f3 := Z44 n1
  obtain ⟨_,f4⟩ := U4 n1
  have hsc := Zdw hv
  rw [st_v] at f1
  by_cases r0 : rs v = 0
  · rw [if_pos r0] at hsc
    rw [hsc] at f3
    rw [r0] at f2 htr
    have q := Zc4 (s := xFin) (by decide) 0 0 (Z ++ [.ins "Number" (numV v).fs])
    simp only [xFin] at f1 q
    generalize (mn v : Int) = M at *
    generalize (numV v).fs = FS at *
    simp [V6,runF,Jw,tl3,m,htr,eProp,f1,f2,f3,f4,q]
  · rw [if_neg r0] at hsc
    rw [hsc] at f3
    have q := Zc4 (s := xFin) (by decide) (rs v) ((mn v : Int) - 20) (Z ++ [.ins "Number" (numV v).fs])
    simp only [xFin] at f1 q
    generalize (mn v : Int) = M at *
    generalize (numV v).fs = FS at *
    generalize rs v = R at *
    simp [V6,runF,Jw,tl3,m,htr,eProp,f1,f2,f3,f4,r0,q]
theorem f_is (b : Bool) (Z : Sto) : U0 [.bl b,.bl b] Z = .ok (.bl true) Z := by
  cases b <;> simp [U0,runF,Z4x]
theorem Zfu {tag text tag' text' : List Nat} {v w : Int} (h : Told tag text v) (h2 : Told tag' text' w) (hv : Bd v) (hw : Bd w) (Z : Sto) : Xu [tl3 tag text v, tl3 tag' text' w] Z = .ok (.bl true) (Z ++ [.ins "Number" (numV v).fs, .ins "Number" (numV w).fs]) := by
  have m1 := fun o1 o2 o3 Z => h [some (.tup [.str tag,.str text,.int v]),o1,o2,o3] (aCons (eBin gIx (eVar 0) (eC (.int 0))) (aCons (eBin gIx (eVar 0) (eC (.int 1))) aNil)) Z Z (by simp)
  have m2 := fun o1 o2 o3 Z => h2 [o1, some (.tup [.str tag', .str text', .int w]), o2, o3] (aCons (eBin gIx (eVar 1) (eC (.int 0))) (aCons (eBin gIx (eVar 1) (eC (.int 1))) aNil)) Z Z (by simp)
  have n1 : NumAt (Z ++ [.ins "Number" (numV v).fs, .ins "Number" (numV w).fs]) Z.length (numV v) := Z2o (by simp)
  have n2 : NumAt (Z ++ [.ins "Number" (numV v).fs, .ins "Number" (numV w).fs]) (Z.length + 1) (numV w) := Z2o (by simp)
  have e1 := Zfs n1 n2 hv hw
  have e2 := Zfs n2 n1 hw hv
  have l1 := Z9z n1 n2 hv hw
  have l2 := Z9z n2 n1 hw hv
  have ec : decide (w = v) = decide (v = w) := by
    by_cases g : v = w
    · rw [decide_eq_true g,decide_eq_true g.symm]
    · rw [decide_eq_false g,decide_eq_false fun z => g z.symm]
  rw [ec] at e2
  have i1 := fun b Z => f_is b Z
  generalize (numV v).fs = FS at *
  generalize (numV w).fs = GS at *
  simp [Xu,runF,Qp,tl3,m1,m2,e1,e2,l1,l2,i1]
end Ap
set_option maxHeartbeats 4000000
namespace Ap
open PySem PySem.Spec PyProof.Rows L2 SX Fx
def nInf (b : Bool) : Num := ⟨xInf,b,[49],0⟩
def xNan : List Nat := [110,97,110]
def nNan : Num := ⟨xNan,false,[49],0⟩
theorem Z7k {ρ : Fx.Env} {fa : FA} {Z Z1 : Sto} (ha : fa ρ Z = .ok [.str tFloat,.str [46,110,97,110]] Z1) :
    eMake "Number" Zd [] fa ρ Z = .ok (.loc Z1.length) (Z1 ++ [.ins "Number" nNan.fs]) := by
  have hw : wordOk [46,110,97,110] = true := by decide
  have hf := fun Z => Z7e (.inr rfl : tFloat = tInt ∨ tFloat = tFloat) hw Z
  have hc : canon tFloat [46,110,97,110] = some [46,110,97,110] := by decide +kernel
  rw [decide_eq_true hc] at hf
  simp only [xScalar,xCore,tFloat] at hf
  have hi : Zd [.loc Z1.length, .str tFloat, .str [46,110,97,110]] (Z1 ++ [.ins "Number" []]) = .ok .non (Z1 ++ [.ins "Number" nNan.fs]) := by
    have hpp : List.isPrefixOf [45] [46,110,97,110] = false := rfl
    simp [Zd,runF,Xb,flatT,inT,Fx.eqT,hf,hpp,sFldS,gFld,setF,eFld,fldT,putS,Num.fs,nNan,xNan,tFloat]
  simp [eMake,ha,hi]
theorem Za0 {ρ : Fx.Env} {fk : FA} {Z Z1 : Sto} (ha : fk ρ Z = .ok [.str [45,46,105,110,102],.str tFloat] Z1) :
    eMakeK "Number" Zd (fun ts us => pick [0,2,1] (ts ++ us)) fk ρ Z = .ok (.loc Z1.length) (Z1 ++ [.ins "Number" (nInf true).fs]) := by
  have h := Z7g true (content := [45,46,105,110,102]) rfl (ρ := ρ) (fa := fun _ Z => .ok [.str tFloat,.str [45,46,105,110,102]] Z) (Z := Z1) rfl
  unfold eMakeK
  rw [ha]
  exact h
structure Four (Z : Sto) (L : Nat) (v : Int) : Prop where
  a : NumAt Z L (numV v)
  b : NumAt Z (L + 1) (nInf false)
  c : NumAt Z (L + 2) (nInf true)
  d : NumAt Z (L + 3) nNan
theorem Four.app {Z : Sto} {L : Nat} {v : Int} (h : Four Z L v) (Y : Sto) : Four (Z ++ Y) L v := ⟨Z47 h.a,Z47 h.b,Z47 h.c,Z47 h.d⟩
theorem Jd {Z : Sto} {i j : Nat} {n m : Num} (h : NumAt Z i n) (h2 : NumAt Z j m) (hn : n.st = xNan ∨ m.st = xNan) : Zv [.loc i,.loc j] Z = .ok (.bl false) Z := by
  have e1 := U5 h
  have e2 := U5 h2
  unfold xNan at hn
  by_cases g : n.st = [110,97,110]
  · simp [Zv,runF,Ul,eFld,e1,e2,g]
  · have k := hn.resolve_left g
    simp [Zv,runF,Ul,eFld,e1,e2,g,k]
theorem Z0j {Z : Sto} {i j : Nat} {n m : Num} (h : NumAt Z i n) (h2 : NumAt Z j m) (k1 : n.kept.length ≤ Lim) (k2 : m.kept.length ≤ Lim) (s1 : n.st ≠ [110,97,110]) (s2 : m.st ≠ [110,97,110]) {b : Bool} (hb : less n m = b) : Zv [.loc i,.loc j] Z = .ok (.bl b) Z := by
  rw [Zbx h h2 k1 k2 s1 s2,hb]
theorem Zdy {v : Int} (hv : Bd v) : (numV v).rank = -1 ∨ (numV v).rank = 0 ∨ (numV v).rank = 1 := by
  by_cases h : v = 0
  · subst h; exact .inr (.inl Z7h)
  · rw [Z5e hv h]
    split
    · exact .inl rfl
    · exact .inr (.inr rfl)
theorem Za1 {v : Int} (hv : Bd v) : less (numV v) (nInf false) = true ∧ less (nInf false) (numV v) = false ∧ less (nInf true) (numV v) = true ∧ less (numV v) (nInf true) = false := by
  have r1 : (nInf false).rank = 2 := by decide
  have r2 : (nInf true).rank = -2 := by decide
  unfold less
  rw [r1,r2]
  rcases Zdy hv with h | h | h <;> rw [h] <;> simp
theorem Z7l {i j : Nat} {ts : List Fx.T} {ds : List PyData} {Z : Sto} (h1 : getL Z i = some ts) (h2 : getL Z j = some ts) (hd : ts.mapM (toD 15 Z) = some ds) (sh : SeqAt.shaped (.list ds) = true) : gEqB (.loc i) (.loc j) Z = some true := by
  have e1 : toD 16 Z (.loc i) = some (.list ds) := by
    show ((getL Z i).bind fun ts => (ts.mapM (toD 15 Z)).map PyData.list) = _
    rw [h1,Option.bind_some,hd]; rfl
  have e2 : toD 16 Z (.loc j) = some (.list ds) := by
    show ((getL Z j).bind fun ts => (ts.mapM (toD 15 Z)).map PyData.list) = _
    rw [h2,Option.bind_some,hd]; rfl
  show gEqD _ _ _ = _
  simp only [gEqD,e1,e2,sh,and_self,if_true,SeqAt.eqv_refl _ (SeqAt.canLay_of_shaped sh)]
theorem Z6l {i j : Nat} {ts : List Fx.T} {ds : List PyData} {Z : Sto} (h1 : getL Z i = some ts) (h2 : getL Z j = some ts) (hd : ts.mapM (toD 15 Z) = some ds) (sh : SeqAt.shaped (.list ds) = true) : gNe (.loc i) (.loc j) Z = some (.bl false,Z) := by
  simp only [gNe,Z7l h1 h2 hd sh,Option.map_some,Bool.not_true]
section
variable {Z : Sto} {L : Nat} {v : Int} {tag text : List Nat}
theorem end_2 (h : Four Z L v) (hv : Bd v) (o5 o6 o7 : Option Fx.T) : ∃ Y,Yi [some (tl3 tag text v),some (.loc L),some (.loc (L + 1)),some (.loc (L + 2)),some (.loc (L + 3)),o5,o6,o7] Z = X4 [some (tl3 tag text v),some (.loc L),some (.loc (L + 1)),some (.loc (L + 2)),some (.loc (L + 3)),o5,o6,o7] (Z ++ Y) := by
  have k0 := ok_v hv
  have e1 := Z5h h.a h.b k0 (by decide) (b := false) (decide_eq_false fun e => absurd (by rw [← st_v v]; exact e.1) (show ¬ xFin = xInf by decide))
  have e2 := Z5h h.a h.c k0 (by decide) (b := false) (decide_eq_false fun e => absurd (by rw [← st_v v]; exact e.1) (show ¬ xFin = xInf by decide))
  have e3 := Z5h h.a h.d k0 (by decide) (b := false) (decide_eq_false fun e => absurd (by rw [← st_v v]; exact e.1) (show ¬ xFin = xNan by decide))
  have e4 := Zdt h.a v
  have e5 := Zdu h.a text
  have e6 := Zdv h.a
  have e7 := Z5h h.b h.c (by decide) (by decide) (b := false) (by decide)
  obtain ⟨Y,hY⟩ : ∃ Y : Sto,Y = [.lst [.bl false,.bl false,.bl false,.bl false,.bl false,.bl false,.bl false],.lst [.bl false],.lst [.bl false,.bl false,.bl false,.bl false,.bl false,.bl false,.bl false]] := ⟨_,rfl⟩
  have q := Z6l (Z := Z ++ Y) (i := Z.length) (j := Z.length + 2) (ts := [.bl false,.bl false,.bl false,.bl false,.bl false,.bl false,.bl false]) (by rw [hY]; simp [getL]) (by rw [hY,Z0z]; rfl) (ds := [.bool false,.bool false,.bool false,.bool false,.bool false,.bool false,.bool false]) rfl (by decide)
  refine ⟨Y,?_⟩
  rw [hY] at q ⊢
  simp [Yi,tl3,e1,e2,e3,e4,e5,e6,e7,q]
theorem end_3 (h : Four Z L v) (hv : Bd v) (o5 o6 o7 : Option Fx.T) : ∃ Y,X4 [some (tl3 tag text v),some (.loc L),some (.loc (L + 1)),some (.loc (L + 2)),some (.loc (L + 3)),o5,o6,o7] Z = X3 [some (tl3 tag text v),some (.loc L),some (.loc (L + 1)),some (.loc (L + 2)),some (.loc (L + 3)),o5,o6,o7] (Z ++ Y) := by
  obtain ⟨l1,l2,l3,l4⟩ := Za1 hv
  have s0 : (numV v).st ≠ [110,97,110] := by rw [st_v]; exact Z2p
  have e1 := Z0j h.a h.b (Z86 hv) (by decide) s0 (by decide) l1
  have e2 := Z0j h.c h.a (by decide) (Z86 hv) (by decide) s0 l3
  have e3 := Z0j h.c h.b (by decide) (by decide) (by decide) (by decide) (b := true) (by decide)
  obtain ⟨Y,hY⟩ : ∃ Y : Sto,Y = [.lst [.bl true,.bl true,.bl true],.lst [.bl true],.lst [.bl true,.bl true,.bl true]] := ⟨_,rfl⟩
  have q := Z6l (Z := Z ++ Y) (i := Z.length) (j := Z.length + 2) (ts := [.bl true,.bl true,.bl true]) (by rw [hY]; simp [getL]) (by rw [hY,Z0z]; rfl) (ds := [.bool true,.bool true,.bool true]) rfl (by decide)
  refine ⟨Y,?_⟩
  rw [hY] at q ⊢
  simp [X4,e1,e2,e3,q]
theorem end_4 (h : Four Z L v) (hv : Bd v) (o5 o6 o7 : Option Fx.T) : ∃ Y,X3 [some (tl3 tag text v),some (.loc L),some (.loc (L + 1)),some (.loc (L + 2)),some (.loc (L + 3)),o5,o6,o7] Z = Yz [some (tl3 tag text v),some (.loc L),some (.loc (L + 1)),some (.loc (L + 2)),some (.loc (L + 3)),o5,o6,o7] (Z ++ Y) := by
  obtain ⟨l1,l2,l3,l4⟩ := Za1 hv
  have s0 : (numV v).st ≠ [110,97,110] := by rw [st_v]; exact Z2p
  have e1 := Z0j h.b h.a (by decide) (Z86 hv) (by decide) s0 l2
  have e2 := Z0j h.a h.c (Z86 hv) (by decide) s0 (by decide) l4
  have e3 := Z0j h.b h.c (by decide) (by decide) (by decide) (by decide) (b := false) (by decide)
  have e4 := Z0j h.b h.b (by decide) (by decide) (by decide) (by decide) (b := false) (by decide)
  obtain ⟨Y,hY⟩ : ∃ Y : Sto,Y = [.lst [.bl false,.bl false,.bl false,.bl false],.lst [.bl false],.lst [.bl false,.bl false,.bl false,.bl false]] := ⟨_,rfl⟩
  have q := Z6l (Z := Z ++ Y) (i := Z.length) (j := Z.length + 2) (ts := [.bl false,.bl false,.bl false,.bl false]) (by rw [hY]; simp [getL]) (by rw [hY,Z0z]; rfl) (ds := [.bool false,.bool false,.bool false,.bool false]) rfl (by decide)
  refine ⟨Y,?_⟩
  rw [hY] at q ⊢
  simp [X3,e1,e2,e3,e4,q]
theorem end_5 (h : Four Z L v) (o5 o6 o7 : Option Fx.T) : Yz [some (tl3 tag text v),some (.loc L),some (.loc (L + 1)),some (.loc (L + 2)),some (.loc (L + 3)),o5,o6,o7] Z = Yy [some (tl3 tag text v),some (.loc L),some (.loc (L + 1)),some (.loc (L + 2)),some (.loc (L + 3)),some (.loc (L + 3)),o6,o7] Z := by
  have a1 := Jd h.a h.d (.inr rfl)
  have a2 := Jd h.d h.a (.inl rfl)
  have a3 := Jd h.b h.d (.inr rfl)
  have a4 := Jd h.d h.b (.inl rfl)
  have a5 := Jd h.c h.d (.inr rfl)
  have a6 := Jd h.d h.c (.inl rfl)
  have a7 := Jd h.d h.d (.inl rfl)
  have hl : ([Fx.T.loc L,.loc (L + 1),.loc (L + 2),.loc (L + 3)]).length ≤ Lim := by simp [Lim]
  simp [Yz,Qt hl,loopF,Vf,a1,a2,a3,a4,a5,a6,a7]
theorem Za2 {i : Nat} {b : Bool} (h : NumAt Z i (nInf b)) : Zk [.loc i] Z = .ok (.int (if b = true then -1 else 1)) Z := by
  have e1 := U5 h
  have e2 := Z13 h
  have e3 := Vv h
  have hi : gIntT [.str [49]] Z = some (.int 1,Z) := by
    rw [Qu,if_pos (by decide),Q9 (by decide) (by decide)]; rfl
  simp only [nInf,xInf] at e1 e2 e3
  cases b <;> simp [-Qu,Zk,runF,X6,eFld,e1,e2,e3,hi]
theorem Zbc {i : Nat} (h : NumAt Z i nNan) : Zk [.loc i] Z = .ok (.int 0) Z := by
  have e1 := U5 h
  simp only [nNan,xNan] at e1
  simp [Zk,runF,X6,eFld,e1]
def mark (L : Nat) : Fx.T → Fx.T
  | .loc i => if i = L + 1 then .tup [.str xInf,.int 1,.int 0] else if i = L + 2 then .tup [.str xInf,.int (-1),.int 0] else .tup [.str xNan,.int 0,.int 0]
  | _ => .non
theorem end_6 (h : Four Z L v) (o5 o6 : Option Fx.T) : Yy [some (tl3 tag text v),some (.loc L),some (.loc (L + 1)),some (.loc (L + 2)),some (.loc (L + 3)),o5,o6,none] Z = Yx [some (tl3 tag text v),some (.loc L),some (.loc (L + 1)),some (.loc (L + 2)),some (.loc (L + 3)),o5,some (.loc Z.length),none] (Z ++ [.lst [.tup [.str xInf,.int 1,.int 0],.tup [.str xInf,.int (-1),.int 0],.tup [.str xNan,.int 0,.int 0]]]) := by
  have e := Z81 (Z1 := Z) (ts := [Fx.T.loc (L + 1),.loc (L + 2),.loc (L + 3)]) (put := fun t => putN [7] t (wipeR [some (tl3 tag text v),some (.loc L),some (.loc (L + 1)),some (.loc (L + 2)),some (.loc (L + 3)),o5,o6,none] [7])) (c := eYes) (e := Yh) (Zd7 _) (by simp [Lim]) (fun _ => true) (mark L) (fun x hx => by
    have hx' : x = .loc (L + 1) ∨ x = .loc (L + 2) ∨ x = .loc (L + 3) := by simpa using hx
    refine ⟨_,rfl,fun acc => ⟨rfl,fun _ => ?_⟩⟩
    have h' := h.app [.lst acc]
    generalize tl3 tag text v = TL at *
    rcases hx' with rfl | rfl | rfl
    · have f1 := Z43 h'.b
      have f2 := Za2 h'.b
      have f3 := Z44 h'.b
      obtain ⟨_, f4⟩ := U4 h'.b
      have em : mark L (.loc (L + 1)) = .tup [.str xInf,.int 1,.int 0] := if_pos rfl
      rw [em]
      simp only [nInf] at f1 f3
      simp (disch := (first | assumption | (simp only [List.length_append,List.length_cons,List.length_nil,List.length_take,List.length_drop,List.length_replicate,List.length_map,Fx.Z0g,Fx.Lim]; omega) | (simp only [Fx.Lim]; omega) | omega | decide)) [-Fx.Z9c,-Fx.Z9d,-Fx.Z65,-Fx.Zd2,-Fx.sl_s,-Fx.ix_str,-Fx.Z76,-Fx.Zd8,-Fx.Qu,Fx.N6,Fx.Z67,Fx.Z40,Fx.Z9i,Fx.Zau,Fx.Z68,Fx.Z69,Ap.Z1p,Fx.Z10,Fx.Z9j,Yh,wipeR,putN,eProp,f1,f2,f3,f4]
    · have f1 := Z43 h'.c
      have f2 := Za2 h'.c
      have f3 := Z44 h'.c
      obtain ⟨_, f4⟩ := U4 h'.c
      have em : mark L (.loc (L + 2)) = .tup [.str xInf,.int (-1),.int 0] := by simp [mark]
      rw [em]
      simp only [nInf] at f1 f3
      simp (disch := (first | assumption | (simp only [List.length_append,List.length_cons,List.length_nil,List.length_take,List.length_drop,List.length_replicate,List.length_map,Fx.Z0g,Fx.Lim]; omega) | (simp only [Fx.Lim]; omega) | omega | decide)) [-Fx.Z9c,-Fx.Z9d,-Fx.Z65,-Fx.Zd2,-Fx.sl_s,-Fx.ix_str,-Fx.Z76,-Fx.Zd8,-Fx.Qu,Fx.N6,Fx.Z67,Fx.Z40,Fx.Z9i,Fx.Zau,Fx.Z68,Fx.Z69,Ap.Z1p,Fx.Z10,Fx.Z9j,Yh,wipeR,putN,eProp,f1,f2,f3,f4]
    · have f1 := Z43 h'.d
      have f2 := Zbc h'.d
      have f3 := Z44 h'.d
      obtain ⟨_, f4⟩ := U4 h'.d
      have em : mark L (.loc (L + 3)) = .tup [.str xNan,.int 0,.int 0] := by simp [mark]
      rw [em]
      simp only [nNan] at f1 f3
      simp (disch := (first | assumption | (simp only [List.length_append,List.length_cons,List.length_nil,List.length_take,List.length_drop,List.length_replicate,List.length_map,Fx.Z0g,Fx.Lim]; omega) | (simp only [Fx.Lim]; omega) | omega | decide)) [-Fx.Z9c,-Fx.Z9d,-Fx.Z65,-Fx.Zd2,-Fx.sl_s,-Fx.ix_str,-Fx.Z76,-Fx.Zd8,-Fx.Qu,Fx.N6,Fx.Z67,Fx.Z40,Fx.Z9i,Fx.Zau,Fx.Z68,Fx.Z69,Ap.Z1p,Fx.Z10,Fx.Z9j,Yh,wipeR,putN,eProp,f1,f2,f3,f4])
  have em : (([Fx.T.loc (L + 1),.loc (L + 2),.loc (L + 3)]).filter (fun _ => true)).map (mark L) = [.tup [.str xInf,.int 1,.int 0],.tup [.str xInf,.int (-1),.int 0],.tup [.str xNan,.int 0,.int 0]] := by simp [mark]
  rw [em] at e
  generalize tl3 tag text v = TL at *
  simp [Yy,e]
theorem end_7 (h : Four Z L v) {m : Nat} (hm : getL Z m = some [.tup [.str xInf,.int 1,.int 0],.tup [.str xInf,.int (-1),.int 0],.tup [.str xNan,.int 0,.int 0]]) (o5 o7 : Option Fx.T) : ∃ Y,Yx [some (tl3 tag text v),some (.loc L),some (.loc (L + 1)),some (.loc (L + 2)),some (.loc (L + 3)),o5,some (.loc m),o7] Z = .rt (.bl true) (Z ++ Y) := by
  obtain ⟨Y,hY⟩ : ∃ Y : Sto,Y = [.lst [.tup [.str xInf,.int 1,.int 0],.tup [.str xInf,.int (-1),.int 0],.tup [.str xNan,.int 0,.int 0]]] := ⟨_,rfl⟩
  have q : gEqB (.loc m) (.loc Z.length) (Z ++ Y) = some true := Z7l (ts := [.tup [.str xInf,.int 1,.int 0],.tup [.str xInf,.int (-1),.int 0],.tup [.str xNan,.int 0,.int 0]]) (Z77 hm) (by rw [hY]; simp [getL]) (ds := [.tuple [.str (S xInf),.int 1,.int 0],.tuple [.str (S xInf),.int (-1),.int 0],.tuple [.str (S xNan),.int 0,.int 0]]) rfl (by decide +kernel)
  have q2 : gEq (.loc m) (.loc Z.length) (Z ++ Y) = some (.bl true,Z ++ Y) := by simp only [gEq,q,Option.map_some]
  have h' := (h.app Y).app [.ins "Number" nNan.fs]
  have hn : NumAt ((Z ++ Y) ++ [.ins "Number" nNan.fs]) (Z ++ Y).length nNan := Z5g _ _
  have e := Z5h h'.d hn (by decide) (by decide) (b := true) (by decide)
  have mk := fun ρ Z => Z7k (ρ := ρ) (Z := Z) (Z1 := Z) (fa := (aCons (eC (.str [33,33,102,108,111,97,116])) (aCons (eC (.str [46,110,97,110])) aNil))) rfl
  refine ⟨Y ++ [.ins "Number" nNan.fs], ?_⟩
  rw [hY] at q2 e ⊢
  simp only [xInf,xNan] at q2 e ⊢
  generalize tl3 tag text v = TL at *
  generalize nNan.fs = FS at *
  simp only [List.append_assoc,List.length_append,List.length_cons,List.length_nil,Nat.zero_add,List.cons_append,List.nil_append] at e
  simp [Yx,mk,q2,e]
end
theorem Za3 {tag text : List Nat} {v : Int} (h : Told tag text v) (hv : Bd v) (Z : Sto) : ∃ Y,Xn [tl3 tag text v] Z = .ok (.bl true) (Z ++ Y) := by
  have m0 := fun o1 o2 o3 o4 o5 o6 o7 Z => h [some (tl3 tag text v),o1,o2,o3,o4,o5,o6,o7] (aCons (eBin gIx (eVar 0) (eC (.int 0))) (aCons (eBin gIx (eVar 0) (eC (.int 1))) aNil)) Z Z (by simp [tl3])
  have m1 := fun ρ Z => Z7g false (content := [46,105,110,102]) rfl (ρ := ρ) (Z := Z) (Z1 := Z) (fa := (aCons (eC (.str [33,33,102,108,111,97,116])) (aCons (eC (.str [46,105,110,102])) aNil))) rfl
  have m2 := fun ρ Z => Za0 (ρ := ρ) (Z := Z) (Z1 := Z) (fk := (aCons (eC (.str [45,46,105,110,102])) (aCons (eC (.str [33,33,102,108,111,97,116])) aNil))) rfl
  have m3 := fun ρ Z => Z7k (ρ := ρ) (Z := Z) (Z1 := Z) (fa := (aCons (eC (.str [33,33,102,108,111,97,116])) (aCons (eC (.str [46,110,97,110])) aNil))) rfl
  obtain ⟨Z4, hZ4⟩ : ∃ Z4 : Sto, Z4 = Z ++ [.ins "Number" (numV v).fs, .ins "Number" (nInf false).fs, .ins "Number" (nInf true).fs, .ins "Number" nNan.fs] := ⟨_, rfl⟩
  have hF : Four Z4 Z.length v := by
    rw [hZ4]
    exact ⟨Z2o (by simp),Z2o (by simp),Z2o (by simp),Z2o (by simp)⟩
  have s0 : Xm [some (tl3 tag text v),none,none,none,none,none,none,none] Z = Yi [some (tl3 tag text v),some (.loc Z.length),some (.loc (Z.length + 1)),some (.loc (Z.length + 2)),some (.loc (Z.length + 3)),none,none,none] Z4 := by
    rw [hZ4]
    show _ = Yi _ (Z ++ [.ins "Number" (numV v).fs, .ins "Number" (Num.mk xInf false [49] 0).fs, .ins "Number" (nInf true).fs, .ins "Number" nNan.fs])
    generalize tl3 tag text v = TL at *
    generalize (numV v).fs = F1 at *
    generalize (Num.mk xInf false [49] 0).fs = F2 at *
    generalize (nInf true).fs = F3 at *
    generalize nNan.fs = F4 at *
    simp [Xm,Vg,m0,m1,m2,m3]
  obtain ⟨Y2,s2⟩ := end_2 (tag := tag) (text := text) hF hv none none none
  obtain ⟨Y3,s3⟩ := end_3 (tag := tag) (text := text) (hF.app Y2) hv none none none
  obtain ⟨Y4,s4⟩ := end_4 (tag := tag) (text := text) ((hF.app Y2).app Y3) hv none none none
  have h5 := ((hF.app Y2).app Y3).app Y4
  have s5 := end_5 (tag := tag) (text := text) h5 none none none
  have s6 := end_6 (tag := tag) (text := text) h5 (some (.loc (Z.length + 3))) none
  obtain ⟨Y7,s7⟩ := end_7 (tag := tag) (text := text) (h5.app _) (N5 _ _) (some (.loc (Z.length + 3))) none
  have hall := s0.trans (s2.trans (s3.trans (s4.trans (s5.trans (s6.trans s7)))))
  obtain ⟨M,hM⟩ : ∃ M : Sto,M = [O.lst [.tup [.str xInf,.int 1,.int 0],.tup [.str xInf,.int (-1),.int 0],.tup [.str xNan,.int 0,.int 0]]] := ⟨_,rfl⟩
  rw [← hM] at hall
  have hz : Z ++ ([.ins "Number" (numV v).fs, .ins "Number" (nInf false).fs, .ins "Number" (nInf true).fs, .ins "Number" nNan.fs] ++ (Y2 ++ (Y3 ++ (Y4 ++ (M ++ Y7))))) = Z4 ++ Y2 ++ Y3 ++ Y4 ++ M ++ Y7 := by rw [hZ4]; simp only [List.append_assoc]
  refine ⟨([.ins "Number" (numV v).fs, .ins "Number" (nInf false).fs, .ins "Number" (nInf true).fs, .ins "Number" nNan.fs] : Sto) ++ (Y2 ++ (Y3 ++ (Y4 ++ (M ++ Y7)))), ?_⟩
  · rw [hz]
    show runF 8 Xm [tl3 tag text v] Z = _
    unfold runF
    rw [show ([tl3 tag text v].map some ++ List.replicate (8 - [tl3 tag text v].length) none) = [some (tl3 tag text v),none,none,none,none,none,none,none] from rfl,hall]
end Ap
set_option maxHeartbeats 4000000
namespace Ap
open PySem PySem.Spec PyProof.Rows L2 SX Fx
def Ref (a b : Fx.T) : Prop := ∀ Z,∃ Y,Xv [a,b] Z = .ok (.bl true) (Z ++ Y)
theorem Za4 {a b : Fx.T} (h : ∀ Z L, Zd [.loc L, a, b] Z = .exc ⟨"BadTag", [("place", .int 0)]⟩ Z) : Ref a b := fun Z => by
  refine ⟨[.ins "Number" []], ?_⟩
  simp [Xv,runF,Qq,eMake,Zde,h,lookup_at]
theorem Z48 {a b : Fx.T} (h : ∀ Z,gNotIn a (.tup [.str [33,33,105,110,116],.str [33,33,102,108,111,97,116]]) Z = some (.bl true,Z)) : Ref a b := Za4 fun Z L => by
  simp [-Zd9,Zd,runF,Xb,h]
theorem Z1u {tag text : List Nat} (hl : tag = tInt ∨ tag = tFloat) (hw : wordOk text = true) (hc : canon tag text ≠ some text) : Ref (.str tag) (.str text) := Za4 fun Z L => by
  have hf := fun Z => Z7e hl hw Z
  rw [decide_eq_false hc] at hf
  have ht : inT (.str tag) [.str [33,33,105,110,116],.str [33,33,102,108,111,97,116]] = true := by rcases hl with rfl | rfl <;> simp [inT,Fx.eqT,tInt,tFloat]
  simp only [xScalar,xCore] at hf
  simp [Zd,runF,Xb,flatT,ht,hf]
theorem Za5 {tag : List Nat} {b : Fx.T} (hl : tag = tInt ∨ tag = tFloat) (hb : b = .int 1 ∨ b = .non) : Ref (.str tag) b := Za4 fun Z L => by
  have hs := Z7d
  have ht := fun Z => f_is_tag hl Z
  have hi : inT (.str tag) [.str [33,33,105,110,116],.str [33,33,102,108,111,97,116]] = true := by rcases hl with rfl | rfl <;> simp [inT,Fx.eqT,tInt,tFloat]
  have hf : ∀ Z,V5 [.str [115,99,97,108,97,114],.str tag,b,.str [99,111,114,101]] Z = .ok (.bl false) Z := fun Z => by
    simp only [xCore] at hs
    have hm := fun Z => Zfc tag [99,111,114,101] Z
    have hmy : mayS tag = true := by rcases hl with rfl | rfl <;> decide
    rw [hmy] at hm
    simp only [xScalar] at hm
    have g1 : ∀ Z, gIsi [.int 1, .ty "str"] Z = some (.bl false, Z) := fun Z => rfl
    have g2 : ∀ Z, gIsi [.non, .ty "str"] Z = some (.bl false, Z) := fun Z => rfl
    rcases hb with rfl | rfl <;> simp [V5,runF,Nb,hs,ht,hm,g1,g2]
  simp [Zd,runF,Xb,flatT,hi,hf]
def odds1 : List Fx.T := [.tup [.str [33,33,105,110,116],.str [49,101,48]],.tup [.str [33,33,102,108,111,97,116],.str [49]],.tup [.str [33,33,115,116,114],.str [49]],.tup [.str [33,33,110,117,108,108],.str [110,117,108,108]],.tup [.str [33,120],.str [49]],.tup [.non,.str [49]]]
def odds2 : List Fx.T := [.tup [.str [33,33,105,110,116],.str [48,49]],.tup [.str [33,33,102,108,111,97,116],.str [49,48,101,48]],.tup [.str [33,33,105,110,116],.int 1],.tup [.str [33,33,102,108,111,97,116],.non]]
theorem Zbd : ∀ t ∈ odds1 ++ odds2,∃ a b,t = .tup [a,b] ∧ Ref a b := by
  intro t ht
  simp only [odds1,odds2,List.cons_append,List.nil_append,List.mem_cons,List.not_mem_nil,or_false] at ht
  rcases ht with rfl | rfl | rfl | rfl | rfl | rfl | rfl | rfl | rfl | rfl
  · exact ⟨_,_,rfl,Z1u (.inl rfl) (by decide) (by decide +kernel)⟩
  · exact ⟨_,_,rfl,Z1u (.inr rfl) (by decide) (by decide +kernel)⟩
  · exact ⟨_,_,rfl,Z48 fun _ => rfl⟩
  · exact ⟨_,_,rfl,Z48 fun _ => rfl⟩
  · exact ⟨_,_,rfl,Z48 fun _ => rfl⟩
  · exact ⟨_,_,rfl,Z48 fun _ => rfl⟩
  · exact ⟨_,_,rfl,Z1u (.inl rfl) (by decide) (by decide +kernel)⟩
  · exact ⟨_,_,rfl,Z1u (.inr rfl) (by decide) (by decide +kernel)⟩
  · exact ⟨_,_,rfl,Za5 (.inl rfl) (.inl rfl)⟩
  · exact ⟨_,_,rfl,Za5 (.inr rfl) (.inr rfl)⟩
theorem Zfv {Z : Sto} {w : Nat} (hw : Wel Z w) (s k t o4 o5 o6 o7 o8 o9 : Option Fx.T) : ∃ p4 p5 p6 Z', Z3v [s, k, some (.loc w), t, o4, o5, o6, o7, o8, o9] Z = .nx [s, k, some (.loc w), t, p4, p5, p6, o7, o8, o9] Z' ∧ Wel Z' w := by
  obtain ⟨tag,text,v,Z1,h1,e1,k1⟩ := Z9y hw
  obtain ⟨tag2,text2,v2,Z2,h2,e2,k2⟩ := Z9y k1.wel
  have hv := Z9x h1.bd
  have hv1 := bd_1 h1.bd
  have hv2 := Z9x h2.bd
  have e3 := Zdx h1.told hv Z2
  obtain ⟨Y, e4⟩ := Za3 h1.told hv (Z2 ++ [.ins "Number" (numV v).fs])
  obtain ⟨Z3, hZ3⟩ : ∃ Z3, Z3 = Z2 ++ [.ins "Number" (numV v).fs] ++ Y := ⟨_, rfl⟩
  rw [← hZ3] at e4
  obtain ⟨tag5,text5,h5,e5⟩ := Zfp h1 Z3
  obtain ⟨text6,h6,e6⟩ := Zbb h1 Z3
  have hw3 : Wel Z3 w := by rw [hZ3]; exact (Kp.new (Kp.new (Y := [.ins "Number" (numV v).fs]) (k1.trans k2).wel).wel).wel
  obtain ⟨ρ1, Z4, e7, ⟨o6', rfl⟩, hw4⟩ := Z9f (ts := [tl3 tag text v, tl3 tag2 text2 v2, tl3 tag5 text5 v, tl3 tFloat text6 (v + 1)]) (body := fun t ρ' Z' => bS ρ' (gNm 6 t ρ' Z') Z62) (Z := Z3) (ρ := [s, k, some (.loc w), t, some (tl3 tag text v), some (tl3 tag2 text2 v2), o6, o7, o8, o9])
    (fun ρ Z' => (∃ o6, ρ = [s, k, some (.loc w), t, some (tl3 tag text v), some (tl3 tag2 text2 v2), o6, o7, o8, o9]) ∧ Wel Z' w) (by simp [Lim]) ⟨⟨_, rfl⟩, hw3⟩
    (fun x hx ρ Z' h => by
      obtain ⟨⟨o6, rfl⟩, hw'⟩ := h
      obtain ⟨a,b,c,rfl,hT,hB⟩ : ∃ a b c,x = tl3 a b c ∧ Told a b c ∧ Bd c := by
        simp only [List.mem_cons,List.not_mem_nil,or_false] at hx
        rcases hx with rfl | rfl | rfl | rfl
        · exact ⟨_,_,_,rfl,h1.told,hv⟩
        · exact ⟨_,_,_,rfl,h2.told,hv2⟩
        · exact ⟨_,_,_,rfl,h5,hv⟩
        · exact ⟨_,_,_,rfl,h6,hv1⟩
      have ep := Zfu h1.told hT hv hB Z'
      refine ⟨_, _, ?_, ⟨some (tl3 a b c), rfl⟩, (Kp.new (Y := [.ins "Number" (numV v).fs, .ins "Number" (numV c).fs]) hw').wel⟩
      generalize tl3 tag text v = T1 at *
      generalize tl3 a b c = T2 at *
      generalize (numV v).fs = F1 at *
      generalize (numV c).fs = F2 at *
      simp [Z62,ep])
  simp only [Zar,Zag] at e7
  refine ⟨some (tl3 tag text v), some (tl3 tag2 text2 v2), o6', Z4, ?_, hw4⟩
  · have hl : ([tl3 tag text v,tl3 tag2 text2 v2,tl3 tag5 text5 v,tl3 tFloat text6 (v + 1)]).length ≤ Lim := by simp [Lim]
    generalize tl3 tag text v = T1 at *
    generalize tl3 tag2 text2 v2 = T2 at *
    generalize tl3 tag5 text5 v = T5 at *
    generalize tl3 tFloat text6 (v + 1) = T6 at *
    simp [Z3v,e1,e2,e3,e4,e5,e6,e7]
theorem Zdz {Z : Sto} (ns : List Int) (k : Nat) (hk : k ≤ 63) (o2 o3 o4 o5 o6 o7 o8 o9 : Option Fx.T) : ∃ p2 p3 p4 p5 p6 p7 p8 p9 Z', Z3w [some (.frl (ns.map .int)), some (.int (k : Int)), o2, o3, o4, o5, o6, o7, o8, o9] Z = .nx [some (.frl (ns.map .int)), some (.int (k : Int)), p2, p3, p4, p5, p6, p7, p8, p9] Z' := by
  obtain ⟨a,b,c,ew⟩ := Zfa ns k Z hk
  have hw : Wel (Z ++ [.lst [.int a,.int b,.int c]]) Z.length := ⟨a,b,c,N5 _ _⟩
  generalize hs : some (Fx.T.frl (ns.map .int)) = s at *
  obtain ⟨ρ2, Z2, e2, hw2, q3, q4, q5, q6, rfl⟩ := Z59 (m := 8) (body := fun t ρ' Z' => bS ρ' (gNm 3 t ρ' Z') Z3v) (Z := Z ++ [.lst [.int a, .int b, .int c]]) (ρ := [s, some (.int (k : Int)), some (.loc Z.length), o3, o4, o5, o6, o7, o8, o9])
    (fun ρ Z' => Wel Z' Z.length ∧ ∃ q3 q4 q5 q6, ρ = [s, some (.int (k : Int)), some (.loc Z.length), q3, q4, q5, q6, o7, o8, o9]) (by decide) ⟨hw, _, _, _, _, rfl⟩
    (fun j hj ρ Z' h => by
      obtain ⟨hw', q3, q4, q5, q6, rfl⟩ := h
      obtain ⟨p4, p5, p6, Z'', er, hw''⟩ := Zfv hw' s (some (.int (k : Int))) (some (.int (j : Int))) q4 q5 q6 o7 o8 o9
      exact ⟨[s, some (.int (k : Int)), some (.loc Z.length), some (.int (j : Int)), p4, p5, p6, o7, o8, o9], Z'', by simp [er], hw'', _, _, _, _, rfl⟩)
  simp only [Zar,Zag] at e2
  have r8 : ∀ Z,rngOf [.int 8] Z = .ok (itRng 0 8) Z := fun Z => rngN (n := 8) (by decide)
  obtain ⟨Z3,hZ3⟩ : ∃ Z3,Z3 = Z2 ++ [O.lst odds1,O.lst odds2] := ⟨_,rfl⟩
  have hw3 : Wel Z3 Z.length := by rw [hZ3]; exact (Kp.new hw2).wel
  obtain ⟨t,ht,Z4,e4,k4⟩ := Z7b (xs := odds1 ++ odds2) hw3 (by decide) (by decide)
  obtain ⟨x,y,rfl,hr⟩ := Zbd t ht
  obtain ⟨Y,e5⟩ := hr Z4
  have hadd : gAdd (.loc Z2.length) (.loc (Z2.length + 1)) Z3 = some (.loc Z3.length,Z3 ++ [O.lst (odds1 ++ odds2)]) := by
    rw [Zdb (a := odds1) (b := odds2) _ _ _ (by rw [hZ3]; simp [getL]) (by rw [hZ3,Z0z]; rfl) (by decide)]
  refine ⟨some (.loc Z.length),q3,q4,q5,q6,some (.loc Z2.length),some x,some y,Z4 ++ Y,?_⟩
  · have l1 : Z3.length = Z2.length + 2 := by rw [hZ3]; simp
    rw [hZ3] at hadd e4
    simp only [odds1,odds2,List.cons_append,List.nil_append,List.length_append,List.length_cons,List.length_nil,Nat.zero_add,List.append_assoc] at hadd e4
    subst hs
    simp [Z3w,ew,e2,r8,hadd,e4,e5]
theorem law_true (ns : List Int) (hn : ns.length ≤ 63) : ∃ Z,Z9a [.frl (ns.map .int)] [] = .ok (.bl true) Z := by
  obtain ⟨m,hm,em⟩ : ∃ m : Nat,m ≤ 5 ∧ (if (if (ns.length : Int) < 5 then (ns.length : Int) else 5) > 1 then (if (ns.length : Int) < 5 then (ns.length : Int) else 5) else 1) = (m : Int) := by
    refine ⟨max 1 (min 5 ns.length),by omega,?_⟩
    split <;> split <;> omega
  obtain ⟨ρ1, Z1, e1, o1, o2, o3, o4, o5, o6, o7, o8, o9, rfl⟩ := Z59 (m := m) (body := fun t ρ' Z' => bS ρ' (gNm 1 t ρ' Z') Z3w) (Z := []) (ρ := [some (.frl (ns.map .int)), none, none, none, none, none, none, none, none, none])
    (fun ρ _ => ∃ o1 o2 o3 o4 o5 o6 o7 o8 o9,ρ = [some (.frl (ns.map .int)),o1,o2,o3,o4,o5,o6,o7,o8,o9]) (by unfold Lim; omega) ⟨_,_,_,_,_,_,_,_,_,rfl⟩
    (fun k hk ρ Z h => by
      obtain ⟨o1,o2,o3,o4,o5,o6,o7,o8,o9,rfl⟩ := h
      obtain ⟨p2, p3, p4, p5, p6, p7, p8, p9, Z', er⟩ := Zdz (Z := Z) ns k (by omega) o2 o3 o4 o5 o6 o7 o8 o9
      exact ⟨[some (.frl (ns.map .int)), some (.int (k : Int)), p2, p3, p4, p5, p6, p7, p8, p9], Z', by simp [er], _, _, _, _, _, _, _, _, _, rfl⟩)
  simp only [Zar,Zag] at e1
  have hmr : ∀ Z,rngOf [.int (m : Int)] Z = .ok (itRng 0 m) Z := fun Z => rngN (n := m) (by unfold Lim; omega)
  refine ⟨Z1,?_⟩
  simp [Z9a,runF,Zey,em,hmr,e1]
end Ap
set_option maxHeartbeats 4000000
open PySem PySem.W PyProof.Rows
set_option maxRecDepth 100000 in
set_option maxHeartbeats 0 in
theorem PySem.Challenge.cw_anchorpages_k61_whole_numbers_near_nough_holds : PySem.Challenge.rw_anchorpages_k61_whole_numbers_near_nough.Holds := by
  w_on; o_law; k_head; (case hw => w_witness2)
  k_fill
  refine Fx.Zep (l := PySem.Challenge.rw_anchorpages_k61_whole_numbers_near_nough) (n := 63) (k := 10) (x := "_law_script") (F := Ap.Z9a) rfl rfl (by decide) rfl ⟨rfl, by decide, by decide⟩ (fun w h Y => by first | exact PySem.W.kIn_of Y | exact PySem.W.km_in_of Y) ?F Ap.law_true
  case F =>
    intro w mg fa h KX G hmg
    refine' Ap.Zf0 KX G hmg ?l0 ?c0 ?k0 ?lT0 ?vT0 ?l1 ?c1 ?k1 ?lT1 ?vT1 ?l2 ?c2 ?k2 ?l3 ?c3 ?k3 ?l4 ?c4 ?k4 ?l5 ?c5 ?k5 ?l6 ?c6 ?k6 ?l7 ?c7 ?k7 ?l8 ?c8 ?k8 ?l9 ?c9 ?k9 ?a10 ?l10 ?c10 ?k10 ?a11 ?l11 ?c11 ?k11 ?a12 ?l12 ?c12 ?k12 ?a13 ?l13 ?c13 ?k13 ?a14 ?l14 ?c14 ?k14 ?a15 ?l15 ?c15 ?k15 ?a16 ?l16 ?c16 ?k16 ?a17 ?l17 ?c17 ?k17 ?a18 ?l18 ?c18 ?k18 ?a19 ?l19 ?c19 ?k19 ?a20 ?l20 ?c20 ?k20 ?a21 ?l21 ?c21 ?k21 ?a22 ?l22 ?c22 ?k22 ?a23 ?l23 ?c23 ?k23 ?a24 ?l24 ?c24 ?k24 ?a25 ?l25 ?c25 ?k25 ?a26 ?l26 ?c26 ?k26 ?a27 ?l27 ?c27 ?k27 ?a28 ?l28 ?c28 ?k28 ?a29 ?l29 ?c29 ?k29 ?a30 ?l30 ?c30 ?k30 ?a31 ?l31 ?c31 ?k31 ?a32 ?l32 ?c32 ?k32 ?a33 ?l33 ?c33 ?k33 ?a34 ?l34 ?c34 ?k34 ?a35 ?l35 ?c35 ?k35 ?a36 ?l36 ?c36 ?k36 ?a37 ?l37 ?c37 ?k37 ?gB ?bB1 ?bB2 ?bB3 ?gX_NoSchema ?lX_NoSchema ?rX_NoSchema ?s1X_NoSchema ?bX_NoSchema ?tX_NoSchema ?kX_NoSchema ?iX_NoSchema ?fX_NoSchema ?nX_NoSchema ?xX_NoSchema ?jX_NoSchema ?sX_NoSchema ?v1X_NoSchema ?v2X_NoSchema ?c1X_NoSchema ?c2X_NoSchema ?c3X_NoSchema ?c4X_NoSchema ?gX_BadTag ?lX_BadTag ?rX_BadTag ?s1X_BadTag ?bX_BadTag ?tX_BadTag ?kX_BadTag ?iX_BadTag ?fX_BadTag ?nX_BadTag ?xX_BadTag ?jX_BadTag ?sX_BadTag ?v1X_BadTag ?v2X_BadTag ?c1X_BadTag ?c2X_BadTag ?c3X_BadTag ?c4X_BadTag ?g_FIGURES ?g_TAG_SIGNS ?g_SCHEMAS ?l_SCHEMAS ?v_SCHEMAS ?z_SCHEMAS ?g_NULLS ?l_NULLS ?v_NULLS ?z_NULLS ?g_TRUTHS ?l_TRUTHS ?v_TRUTHS ?z_TRUTHS ?g_UNTRUTHS ?l_UNTRUTHS ?v_UNTRUTHS ?z_UNTRUTHS ?g_ENDLESS ?l_ENDLESS ?v_ENDLESS ?z_ENDLESS ?g_NO_NUMBERS ?l_NO_NUMBERS ?v_NO_NUMBERS ?z_NO_NUMBERS ?g_WORD_TAGS ?l_WORD_TAGS ?v_WORD_TAGS ?z_WORD_TAGS ?g_KIND_TAGS ?l_KIND_TAGS ?Wh ?w_KIND_TAGS ?e0_KIND_TAGS ?e1_KIND_TAGS ?e2_KIND_TAGS ?z_all ?z_int ?z_isinstance ?z_len ?z_max ?z_min ?z_property ?z_range ?z_str ?it_KIND_TAGS ?z_dig ?gO_Number ?o1_Number ?o2_Number ?o3_Number ?o4_Number ?m1_Number ?m2_Number ?m3_Number ?m4_Number ?n1_Number ?n2_Number ?n3_Number ?n4_Number ?n5_Number ?q1_Number ?q2_Number ?q3_Number ?q4_Number ?p1_Number_state ?p2_Number_state ?p3_Number_state ?p4_Number_state ?p1_Number_figures ?p2_Number_figures ?p3_Number_figures ?p4_Number_figures ?p1_Number_power ?p2_Number_power ?p3_Number_power ?p4_Number_power ?e1_Number_all_parts ?e2_Number_all_parts ?e1_Number_rank ?e2_Number_rank ?e1_Number_reach ?e2_Number_reach ?na_Number_standing ?na_Number_is_below ?na_Number_kept ?na_Number_scale
    (case gO_Number => k_is)
    (case o1_Number => first | rfl | k_is)
    (case o2_Number => first | rfl | k_is)
    (case o3_Number => first | rfl | k_is)
    (case o4_Number => first | rfl | k_is)
    (case m1_Number => first | rfl | k_is)
    (case m2_Number => k_is)
    (case m3_Number => first | rfl | k_is)
    (case m4_Number => first | rfl | k_is)
    (case n1_Number => first | rfl | k_is)
    (case n2_Number => first | rfl | k_is)
    (case n3_Number => first | rfl | k_is)
    (case n4_Number => first | rfl | k_is)
    (case n5_Number => first | rfl | k_is)
    (case q1_Number => k_is)
    (case q2_Number => first | rfl | k_is)
    (case q3_Number => first | rfl | k_is)
    (case q4_Number => first | rfl | k_is)
    (case p1_Number_state => k_is)
    (case p2_Number_state => first | rfl | k_is)
    (case p3_Number_state => first | rfl | k_is)
    (case p4_Number_state => first | rfl | k_is)
    (case p1_Number_figures => k_is)
    (case p2_Number_figures => first | rfl | k_is)
    (case p3_Number_figures => first | rfl | k_is)
    (case p4_Number_figures => first | rfl | k_is)
    (case p1_Number_power => k_is)
    (case p2_Number_power => first | rfl | k_is)
    (case p3_Number_power => first | rfl | k_is)
    (case p4_Number_power => first | rfl | k_is)
    (case e1_Number_all_parts => k_is)
    (case e2_Number_all_parts => first | rfl | k_is)
    (case e1_Number_rank => k_is)
    (case e2_Number_rank => first | rfl | k_is)
    (case e1_Number_reach => k_is)
    (case e2_Number_reach => first | rfl | k_is)
    (case na_Number_standing => first | rfl | k_is)
    (case na_Number_is_below => first | rfl | k_is)
    (case na_Number_kept => first | rfl | k_is)
    (case na_Number_scale => first | rfl | k_is)
    (case l2 => k_is)
    (case c2 => k_is)
    (case k2 => k_is)
    (case l3 => k_is)
    (case c3 => k_is)
    (case k3 => k_is)
    (case l4 => k_is)
    (case c4 => k_is)
    (case k4 => k_is)
    (case l5 => k_is)
    (case c5 => k_is)
    (case k5 => k_is)
    (case l6 => k_is)
    (case c6 => k_is)
    (case k6 => k_is)
    (case l7 => k_is)
    (case c7 => k_is)
    (case k7 => k_is)
    (case l8 => k_is)
    (case c8 => k_is)
    (case k8 => k_is)
    (case l9 => k_is)
    (case c9 => k_is)
    (case k9 => k_is)
    (case a10 => k_is)
    (case l10 => k_is)
    (case c10 => k_is)
    (case k10 => k_is)
    (case a11 => k_is)
    (case l11 => k_is)
    (case c11 => k_is)
    (case k11 => k_is)
    (case a12 => k_is)
    (case l12 => k_is)
    (case c12 => k_is)
    (case k12 => k_is)
    (case a13 => k_is)
    (case l13 => k_is)
    (case c13 => k_is)
    (case k13 => k_is)
    (case a14 => k_is)
    (case l14 => k_is)
    (case c14 => k_is)
    (case k14 => k_is)
    (case a15 => k_is)
    (case l15 => k_is)
    (case c15 => k_is)
    (case k15 => k_is)
    (case a16 => k_is)
    (case l16 => k_is)
    (case c16 => k_is)
    (case k16 => k_is)
    (case a17 => k_is)
    (case l17 => k_is)
    (case c17 => k_is)
    (case k17 => k_is)
    (case a18 => k_is)
    (case l18 => k_is)
    (case c18 => k_is)
    (case k18 => k_is)
    (case a19 => k_is)
    (case l19 => k_is)
    (case c19 => k_is)
    (case k19 => k_is)
    (case a20 => k_is)
    (case l20 => k_is)
    (case c20 => k_is)
    (case k20 => k_is)
    (case a21 => k_is)
    (case l21 => k_is)
    (case c21 => k_is)
    (case k21 => k_is)
    (case a22 => k_is)
    (case l22 => k_is)
    (case c22 => k_is)
    (case k22 => k_is)
    (case a23 => k_is)
    (case l23 => k_is)
    (case c23 => k_is)
    (case k23 => k_is)
    (case a24 => k_is)
    (case l24 => k_is)
    (case c24 => k_is)
    (case k24 => k_is)
    (case a25 => k_is)
    (case l25 => k_is)
    (case c25 => k_is)
    (case k25 => k_is)
    (case a26 => k_is)
    (case l26 => k_is)
    (case c26 => k_is)
    (case k26 => k_is)
    (case a27 => k_is)
    (case l27 => k_is)
    (case c27 => k_is)
    (case k27 => k_is)
    (case a28 => k_is)
    (case l28 => k_is)
    (case c28 => k_is)
    (case k28 => k_is)
    (case a29 => k_is)
    (case l29 => k_is)
    (case c29 => k_is)
    (case k29 => k_is)
    (case a30 => k_is)
    (case l30 => k_is)
    (case c30 => k_is)
    (case k30 => k_is)
    (case a31 => k_is)
    (case l31 => k_is)
    (case c31 => k_is)
    (case k31 => k_is)
    (case a32 => k_is)
    (case l32 => k_is)
    (case c32 => k_is)
    (case k32 => k_is)
    (case a33 => k_is)
    (case l33 => k_is)
    (case c33 => k_is)
    (case k33 => k_is)
    (case a34 => k_is)
    (case l34 => k_is)
    (case c34 => k_is)
    (case k34 => k_is)
    (case a35 => k_is)
    (case l35 => k_is)
    (case c35 => k_is)
    (case k35 => k_is)
    (case a36 => k_is)
    (case l36 => k_is)
    (case c36 => k_is)
    (case k36 => k_is)
    (case a37 => k_is)
    (case l37 => k_is)
    (case c37 => k_is)
    (case k37 => k_is)
    (case gB => k_is)
    (case bB1 => k_is)
    (case bB2 => k_is)
    (case bB3 => k_is)
    (case gX_NoSchema => k_is)
    (case lX_NoSchema => k_is)
    (case rX_NoSchema => first | rfl | k_is)
    (case s1X_NoSchema => k_is)
    (case bX_NoSchema => k_is)
    (case tX_NoSchema => k_is)
    (case kX_NoSchema => k_is)
    (case iX_NoSchema => k_is)
    (case l0 => k_is)
    (case c0 => k_is)
    (case k0 => k_is)
    (case lT0 => k_is)
    (case vT0 => exact (.cons rfl .nil))
    (case fX_NoSchema => k_is)
    (case nX_NoSchema => k_is)
    (case xX_NoSchema => first | rfl | k_is)
    (case jX_NoSchema => k_is)
    (case sX_NoSchema => first | rfl | k_is)
    (case v1X_NoSchema => first | rfl | k_is)
    (case v2X_NoSchema => first | rfl | k_is)
    (case c1X_NoSchema => k_is)
    (case c2X_NoSchema => k_is)
    (case c3X_NoSchema => k_is)
    (case c4X_NoSchema => k_is)
    (case gX_BadTag => k_is)
    (case lX_BadTag => k_is)
    (case rX_BadTag => first | rfl | k_is)
    (case s1X_BadTag => k_is)
    (case bX_BadTag => k_is)
    (case tX_BadTag => k_is)
    (case kX_BadTag => k_is)
    (case iX_BadTag => k_is)
    (case l1 => k_is)
    (case c1 => k_is)
    (case k1 => k_is)
    (case lT1 => k_is)
    (case vT1 => exact (.cons rfl .nil))
    (case fX_BadTag => k_is)
    (case nX_BadTag => k_is)
    (case xX_BadTag => first | rfl | k_is)
    (case jX_BadTag => k_is)
    (case sX_BadTag => first | rfl | k_is)
    (case v1X_BadTag => first | rfl | k_is)
    (case v2X_BadTag => first | rfl | k_is)
    (case c1X_BadTag => k_is)
    (case c2X_BadTag => k_is)
    (case c3X_BadTag => k_is)
    (case c4X_BadTag => k_is)
    (case g_FIGURES => k_is)
    (case g_TAG_SIGNS => k_is)
    (case g_SCHEMAS => k_is)
    (case l_SCHEMAS => k_is)
    (case v_SCHEMAS => exact (.cons ⟨_,rfl⟩ (.cons ⟨_,rfl⟩ .nil)))
    (case z_SCHEMAS => show 2 ≤ sizeLine; decide)
    (case g_NULLS => k_is)
    (case l_NULLS => k_is)
    (case v_NULLS => exact (.cons ⟨_,rfl⟩ (.cons ⟨_,rfl⟩ (.cons ⟨_,rfl⟩ (.cons ⟨_,rfl⟩ (.cons ⟨_,rfl⟩ .nil))))))
    (case z_NULLS => show 5 ≤ sizeLine; decide)
    (case g_TRUTHS => k_is)
    (case l_TRUTHS => k_is)
    (case v_TRUTHS => exact (.cons ⟨_,rfl⟩ (.cons ⟨_,rfl⟩ (.cons ⟨_,rfl⟩ .nil))))
    (case z_TRUTHS => show 3 ≤ sizeLine; decide)
    (case g_UNTRUTHS => k_is)
    (case l_UNTRUTHS => k_is)
    (case v_UNTRUTHS => exact (.cons ⟨_,rfl⟩ (.cons ⟨_,rfl⟩ (.cons ⟨_,rfl⟩ .nil))))
    (case z_UNTRUTHS => show 3 ≤ sizeLine; decide)
    (case g_ENDLESS => k_is)
    (case l_ENDLESS => k_is)
    (case v_ENDLESS => exact (.cons ⟨_,rfl⟩ (.cons ⟨_,rfl⟩ (.cons ⟨_,rfl⟩ .nil))))
    (case z_ENDLESS => show 3 ≤ sizeLine; decide)
    (case g_NO_NUMBERS => k_is)
    (case l_NO_NUMBERS => k_is)
    (case v_NO_NUMBERS => exact (.cons ⟨_,rfl⟩ (.cons ⟨_,rfl⟩ (.cons ⟨_,rfl⟩ .nil))))
    (case z_NO_NUMBERS => show 3 ≤ sizeLine; decide)
    (case g_WORD_TAGS => k_is)
    (case l_WORD_TAGS => k_is)
    (case v_WORD_TAGS => exact (.cons ⟨_,rfl⟩ (.cons ⟨_,rfl⟩ (.cons ⟨_,rfl⟩ (.cons ⟨_,rfl⟩ .nil)))))
    (case z_WORD_TAGS => show 4 ≤ sizeLine; decide)
    (case g_KIND_TAGS => k_is)
    (case l_KIND_TAGS => k_is)
    (case Wh => exact ⟨⟨_,_,rfl,rfl⟩,⟨⟨_,_,rfl,rfl⟩,⟨⟨_,_,rfl,rfl⟩,trivial⟩⟩⟩)
    (case w_KIND_TAGS => rfl)
    (case e0_KIND_TAGS => k_is)
    (case e1_KIND_TAGS => k_is)
    (case e2_KIND_TAGS => k_is)
    (case z_all => k_is)
    (case z_int => k_is)
    (case z_isinstance => k_is)
    (case z_len => k_is)
    (case z_max => k_is)
    (case z_min => k_is)
    (case z_property => k_is)
    (case z_range => k_is)
    (case z_str => k_is)
    (case it_KIND_TAGS => exact ⟨⟨_,rfl⟩,rfl,⟨_,rfl⟩,⟨⟨_,rfl⟩,rfl,⟨_,rfl⟩,⟨⟨_,rfl⟩,rfl,⟨_,rfl⟩,trivial⟩⟩⟩)
    (case z_dig => k_is)
#print axioms PySem.Challenge.cw_anchorpages_k61_whole_numbers_near_nough_holds

