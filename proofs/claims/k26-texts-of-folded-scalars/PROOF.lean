import PyProof.Rows.All
import Wide.All
import OpenK.AllK
import Wide.FinOn
import HandS.ForMost
import HandS.IsInst
import HandS.StrMore
import HandS.More
import HandS.Codes
import HandS.Flow
import HandS.Style
import HandS.Walk
import HandS.RaiseMore
import HandS.Defaults
import HandS.Evl
import HandS.ReplaceLit
import HandS.ReplaceList
import HandS.ReplaceDef
import HandS.ForExc
import HandS.CallSlots
import HandS.TupAny
import HandS.Lambda
import HandS.Wide
import HandS.ExcInit
import HandS.ExcField
import HandS.ExcIs
import KE.GoesMore
import KE.KIntText
import PyProof.Rows.StrOr
import PyProof.Rows.Digits
import HandS.Replace
import HandS.Property
import HandS.Zip
import HandS.TupLe
import PyProof.DefCall
import HandS.ClsMeth
import HandS.EndTab
import HandS.HeadWalk
import HandS.Head0
import HandS.Head1
import HandS.Head2
import HandS.HeadEnd
import HandS.HeadHook1
import HandS.HeadHook2
import HandS.HeadHook3
import HandS.HeadHook4
import Wide.Once
import HandS.NoneIn
import HandS.Small
import HandS.Flt
import HandS.Iter
import HandS.ExcOwn
import HandS.SortRule
import HandS.SortInts
import HandS.DictTup
import HandS.TryMany
import PySem.Challenge.RW_anchorpages_k26_whole_texts_of_folded_sc
set_option Elab.async false
set_option linter.all false
set_option maxRecDepth 100000
set_option maxHeartbeats 4000000
namespace Ap
open PySem PySem.Spec PyProof.Rows L2 SX
theorem Z0x {H : Hp} {p : Addr} {o : HO} (h : H p = none) : Same H (upd H p o) := fun b x e => by
  rw [upd_ne (ne_of_none e h)]
  exact e
theorem fin {Q : VK} {H H' : Hp} {b b' : Bool} (q : ∀ H', Same H H' → Q (.bl b) H') (sm : Same H H') (e : b' = b) : Q (.bl b') H' := by
  rw [e]; exact q H' sm
def cutL {α : Type} (l : List α) (lo hi : Option Int) : List α := (l.drop (HT.sIx l.length 0 lo)).take (HT.sIx l.length l.length hi - HT.sIx l.length 0 lo)
theorem Zox (l : List Nat) (lo hi : Option Int) : cutS (S l) lo hi = S (cutL l lo hi) := rfl
theorem Zeb {α : Type} (l : List α) (n : Nat) : cutL l none (some (n : Int)) = l.take n := by
  unfold cutL
  rw [HT.sIx_nat,HT.sIx_none,Nat.sub_zero,List.drop_zero]
  by_cases h : n ≤ l.length
  · rw [Nat.min_eq_left h]
  · rw [Nat.min_eq_right (by omega),List.take_of_length_le (Nat.le_refl _),List.take_of_length_le (by omega)]
theorem Zlb {α : Type} (l : List α) (n : Nat) : cutL l (some (n : Int)) none = l.drop n := by
  unfold cutL
  rw [HT.sIx_nat,HT.sIx_none]
  by_cases h : n ≤ l.length
  · rw [Nat.min_eq_left h,List.take_of_length_le (by rw [List.length_drop]; exact Nat.le_refl _)]
  · rw [Nat.min_eq_right (by omega),List.drop_of_length_le (Nat.le_refl _),List.drop_of_length_le (by omega)]
    exact List.take_nil
theorem Zg1 {α : Type} (l : List α) (m n : Nat) : cutL l (some (m : Int)) (some (n : Int)) = (l.take n).drop m := by
  unfold cutL
  rw [HT.sIx_nat,HT.sIx_nat,List.drop_take]
  by_cases h : m ≤ l.length
  · rw [Nat.min_eq_left h]
    by_cases h2 : n ≤ l.length
    · rw [Nat.min_eq_left h2]
    · rw [Nat.min_eq_right (by omega),List.take_of_length_le (by rw [List.length_drop]; exact Nat.le_refl _),List.take_of_length_le (by rw [List.length_drop]; omega)]
  · rw [Nat.min_eq_right (show l.length ≤ m by omega),List.drop_of_length_le (Nat.le_refl _),List.drop_of_length_le (show l.length ≤ m by omega),List.take_nil,List.take_nil]
theorem szS {l : List Nat} (h : l.length ≤ 100000) : (S l).length ≤ sizeLine := by
  rw [S_len]; exact Nat.le_trans h (by decide)
theorem decS (a b : List Nat) : decide (V.str (S a) = V.str (S b)) = decide (a = b) := by
  by_cases h : a = b
  · rw [h,decide_eq_true rfl,decide_eq_true rfl]
  · rw [decide_eq_false h,decide_eq_false fun e => h (S_inj (V.str.inj e))]
theorem eqV_S (a b : List Nat) : eqV (.str (S a)) (.str (S b)) = decide (b = a) := by
  show (S a == S b) = _
  rw [S_beq_eq]
  by_cases h : a = b
  · rw [decide_eq_true h,decide_eq_true h.symm]
  · rw [decide_eq_false h,decide_eq_false (Ne.symm h)]
theorem Z9e : ∀ zs : List Str,(∀ z ∈ zs,PyData.strOk z = true) → PyData.canLayAll0 (zs.map PyData.str) = true
  | [],_ => by simp [PyData.canLayAll0]
  | z :: r,h => by
    simp only [List.map_cons,PyData.canLayAll0,PyData.canLay0,Bool.and_eq_true]
    exact ⟨h z List.mem_cons_self,Z9e r fun y hy => h y (List.mem_cons_of_mem _ hy)⟩
theorem Z6k : ∀ zs : List Str,PyData.depthAll (zs.map PyData.str) ≤ 1
  | [] => by simp [PyData.depthAll]
  | z :: r => by
    have := Z6k r
    simp only [List.map_cons,PyData.depthAll,PyData.depth]
    omega
theorem Z5q {zs : List Str} (h : ∀ z ∈ zs,PyData.strOk z = true) : SeqAt.shaped (.list (zs.map PyData.str)) = true := by
  have h1 := Z6k zs
  have h2 : PyData.depth (.list (zs.map PyData.str)) ≤ 64 := by simp only [PyData.depth]; omega
  show (PyData.canLay0 (.list (zs.map PyData.str)) && decide (PyData.depth (.list (zs.map PyData.str)) ≤ 64)) = true
  rw [Bool.and_eq_true]
  exact ⟨by simp only [PyData.canLay0]; exact Z9e zs h,decide_eq_true h2⟩
def SameX (a : Addr) (H H' : Hp) : Prop := ∀ b o, b ≠ a → H b = some o → H' b = some o
theorem SameX.refl (a : Addr) (H : Hp) : SameX a H H := fun _ _ _ h => h
theorem SameX.of {a : Addr} {H H' : Hp} (s : Same H H') : SameX a H H' := fun b o _ h => s b o h
theorem SameX.trans {a : Addr} {H H1 H2 : Hp} (s : SameX a H H1) (t : SameX a H1 H2) : SameX a H H2 := fun b o n h => t b o n (s b o n h)
theorem SameX.upd {a : Addr} {H H' : Hp} {o : HO} (s : SameX a H H') : SameX a H (L2.upd H' a o) := fun b u n h => by
  rw [upd_ne n]; exact s b u n h
theorem SameX.thn {a : Addr} {H H1 H2 : Hp} (s : SameX a H H1) (t : Same H1 H2) : SameX a H H2 := s.trans (.of t)
theorem SameX.seqL {K : PySem.W.Frag} {a b : Addr} {H H' : Hp} {xs : List V} (s : SameX a H H') (hn : b ≠ a) (h : SqL K H b xs) : SqL K H' b xs := by
  rcases h with (h | ⟨o,h⟩) | h
  · exact .inl (.inl (s _ _ hn h))
  · exact .inl (.inr ⟨o,s _ _ hn h⟩)
  · exact .inr h
def StOk (ns : List Int) : Prop := ns.length = 1 ∨ ns.length = 3
def DrAt (a : Addr) (H : Hp) : Prop := ∃ ns : List Int,H a = some (.lst (ns.map V.int)) ∧ StOk ns
theorem DrAt.same {a : Addr} {H H' : Hp} (d : DrAt a H) (s : Same H H') : DrAt a H' := let ⟨ns, h, k⟩ := d; ⟨ns, s _ _ h, k⟩
theorem DrAt.ne {a p : Addr} {H : Hp} (d : DrAt a H) (h : H p = none) : p ≠ a := fun e => by
  obtain ⟨ns,ha,_⟩ := d
  rw [e,ha] at h; cases h
theorem DrAt.upd {a p : Addr} {H : Hp} {o : HO} (d : DrAt a H) (h : p ≠ a) : DrAt a (upd H p o) := by
  obtain ⟨ns,ha,k⟩ := d
  exact ⟨ns,by rw [upd_ne (Ne.symm h)]; exact ha,k⟩
theorem SameX.new {a p : Addr} {H H' : Hp} {o : HO} (s : SameX a H H') (h : H' p = none) : SameX a H (L2.upd H' p o) := s.thn (Z0x h)
theorem SameX.mut {a p : Addr} {H H' : Hp} {o : HO} (s : SameX a H H') (h : H p = none) : SameX a H (L2.upd H' p o) := fun b u n e => by
  rw [upd_ne (ne_of_none e h)]; exact s b u n e
theorem Zec : ∀ ys : List (List Nat),TL.joinL [] ys = ys.flatten
  | [] => rfl
  | [y] => by simp [TL.joinL]
  | y :: z :: r => by
    have := Zec (z :: r)
    simp [TL.joinL] at this ⊢
    exact this
end Ap
set_option maxHeartbeats 4000000
namespace Ap
open PySem PySem.Spec PyProof.Rows L2 SX
structure GOk (P : Program) (w : World) (K : PySem.W.Frag) (mg : Str → Option Value) (base : Heap) (C : CXT) (k : Nat)
    (f : Addr) (fd : FuncData) (ps : List Str) (sp : Sp) : Prop where
  len : ∀ vs H Q E,sp vs H Q E → vs.length = ps.length
  run : ∀ (A : Around) (outer : List Env) (s : Shared) (H : Hp) (as : Args) (us : List Value) (vs : List V) (Q : VK) (E : XK),
    Room k A → A.guards = some [] → Env0 P w K mg base A outer s H → BindsTo s fd as (ps.zip us) → Vals vs us →
    sp vs H Q E → codeAny (model P w) A (.call (.ref f) as) (CR C outer P w H s Q E) s
theorem GOk.of {P : Program} {w : World} {K : PySem.W.Frag} {mg : Str → Option Value} {base : Heap} {C : CXT} {k : Nat}
    {f : Addr} {fd : FuncData} {ps : List Str} {sp : Sp} (F : FnOk P w K mg base C k f fd ps sp) : GOk P w K mg base C k f fd ps sp :=
  ⟨F.len,fun A outer s H as us vs Q E r _ => F.run A outer s H as us vs Q E r⟩
end Ap
set_option maxHeartbeats 4000000
namespace Ap
open PySem PySem.Spec PyProof.Rows L2 SX
def repL (n : Nat) (l : List Nat) : List Nat := (List.replicate n l).flatten
theorem Zh0 (a : Array Nat) : ∀ (n : Nat) (b : Array Nat),((List.replicate n a).foldl (· ++ ·) b).toList = b.toList ++ repL n a.toList
  | 0,b => by simp [repL]
  | n + 1,b => by
    rw [List.replicate_succ,List.foldl_cons,Zh0 a n]
    unfold repL
    rw [List.replicate_succ,List.flatten_cons,Array.toList_append,List.append_assoc]
theorem Zlc (n : Nat) : repL n [] = [] := by
  induction n with
  | zero => rfl
  | succ n ih => unfold repL at *; rw [List.replicate_succ,List.flatten_cons,ih]; rfl
theorem Zld (c n : Nat) : repL n [c] = List.replicate n c := by
  induction n with
  | zero => rfl
  | succ n ih => unfold repL at *; rw [List.replicate_succ,List.flatten_cons,ih]; rfl
theorem Zle (n : Nat) (l : List Nat) : (repL n l).length = n * l.length := by
  induction n with
  | zero => simp [repL]
  | succ n ih => unfold repL at *; rw [List.replicate_succ,List.flatten_cons,List.length_append,ih,Nat.succ_mul,Nat.add_comm]
def rMulS : R2 := fun x y H Q => ∃ (l : List Nat) (k : Int),x = .str (S l) ∧ y = .int k ∧ -100000 ≤ k ∧ k ≤ 100000 ∧ l.length * k.toNat ≤ 100000 ∧ Q (.str (S (repL k.toNat l))) H
theorem Zi3 {X : Cx} : OpR X (binaryOp .Mult) rMulS := by
  intro pins s σ H x y v u Q I rx ry h
  obtain ⟨l,k,rfl,rfl,k0,k1,hz,q⟩ := h
  obtain ⟨t,rfl⟩ := rx
  obtain ⟨t2,rfl⟩ := ry
  have hl : (S l).length = l.length := S_len l
  refine PySem.P.mul_str ?_ (fun h1 h2 => ?_) (fun h1 h2 => ?_) ?_
  · rw [decide_eq_false (by omega),decide_eq_false (by omega)]; rfl
  · rw [hl]
    obtain ⟨m,rfl⟩ : ∃ m : Nat,k = (m : Int) := ⟨k.toNat,by omega⟩
    have hm : 0 < m := by omega
    have : l.length ≤ 100000 := by
      have : l.length * 1 ≤ l.length * m := Nat.mul_le_mul_left _ hm
      simp only [Int.toNat_natCast] at hz
      omega
    have h3 : (100000 : Int) ≤ (2 ^ 63 - 1) / (m : Int) := by
      rw [Int.le_ediv_iff_mul_le (by omega)]
      have : (m : Int) ≤ 100000 := k1
      omega
    omega
  · rw [hl]
    unfold Builtin.Str.tooLong
    exact decide_eq_false (by have := sizeLine_eq; omega)
  · by_cases h1 : k < 1
    · rw [if_pos h1]
      have e : k.toNat = 0 := by omega
      rw [e] at q
      exact ⟨by decide,⟨.str (S []),H,I.tok _,⟨_,rfl⟩,q⟩⟩
    · rw [if_neg h1]
      by_cases h2 : (k == 1 || (S l).length == 0) = true
      · rw [if_pos h2]
        have e : repL k.toNat l = l := by
          rw [hl,Bool.or_eq_true,beq_iff_eq,beq_iff_eq] at h2
          rcases h2 with rfl | h2
          · show repL 1 l = l
            simp [repL]
          · rw [List.length_eq_zero_iff.mp h2]; exact Zlc _
        rw [e] at q
        exact ⟨.str (S l),H,I,⟨t,rfl⟩,q⟩
      · rw [if_neg h2]
        have e : (⟨(List.replicate k.toNat (S l).cps).foldl (· ++ ·) #[]⟩ : Str) = S (repL k.toNat l) := by
          have := Zh0 (S l).cps k.toNat #[]
          rw [show (S l).cps.toList = l from rfl] at this
          show Str.mk _ = Str.mk _
          congr 1
          apply Array.ext'
          rw [this]; rfl
        rw [e]
        refine ⟨?_,⟨.str _,H,I.tok _,⟨_,rfl⟩,q⟩⟩
        rw [S_len,Zle,Nat.mul_comm]
        have := sizeLine_eq
        omega
def IteS (x : Str) : It :=
  ⟨fun i _ => i < x.cps.size, fun i H v H' => ∃ T c, v = .ref T ∧ H T = none ∧ H' = upd H T (.tup [.int (i : Nat), .str ⟨#[c]⟩]) ∧ x.cps[i]? = some c, fun i _ => i = x.cps.size⟩
theorem Zed {P : Program} {w : World} {A : Around} (hh : A.handled = none) (it : Addr) (x : Str) (t : Tok) :
    Draws P w A it [it] x.cps.size (fun i v => ∃ c u,x.cps[i]? = some c ∧ v = .str ⟨#[c]⟩ u) (fun i h => h.IsStrIter it (strIterType x) x t i) := by
  unfold strIterType
  split
  · exact Draws.strAscii hh it x t
  · exact Draws.strWide hh it x t
theorem Zi4 {P : Program} {w : World} {K : PySem.W.Frag} {elts : List Expr} {kk : Nat} {tpos : Pos} (x : Str) (t : Tok) (e it : Addr) :
    Turn P w K (.Tuple elts kk tpos) (IteS x) [e,it] e (fun i h => (∃ old,IsEnum h e it ((i : Nat) : Int) old) ∧ h.IsStrIter it (strIterType x) x t i ∧ e ≠ it) where
  mem := List.mem_cons_self
  obj := by
    intro i h ⟨⟨old,he⟩,⟨o,ho,hc,hd⟩,_⟩ b hb
    rcases List.mem_cons.mp hb with rfl | hb
    · exact ⟨_,he,fun v q => nomatch q⟩
    · cases List.mem_singleton.mp hb
      exact ⟨o,ho,fun v q => by rw [hd] at q; cases q⟩
  keep := by
    intro i h h' ⟨⟨old, he⟩, ⟨o, ho, r⟩, hne⟩ k
    exact ⟨⟨old,k e List.mem_cons_self _ he⟩,⟨o,k it (List.mem_cons_of_mem _ List.mem_cons_self) o ho,r⟩,hne⟩
  item := by
    intro X hP hw hK hc i pins s σ H E I hf ⟨⟨old,he⟩,hit,hne⟩ hg
    cases hP; cases hw; cases hK
    have le : e < s.heap.objs.size := Heap.lt_size he
    have li : it < s.heap.objs.size := Heap.lt_size hit.choose_spec.1
    refine wpAny_pyNext_enum_itemD (Zed (A := X.A.in1) (I.ok.hd hc) it x t) he hit hg hne (by simpa using hne) ?_
    rintro v h' tk ⟨c, u, hx, rfl⟩ ho st hT hsz hk
    refine ⟨_, rfl, wpAny_letOwnedTupleGo_enum (s := { s with heap := h', toks := tk + 1 }) ho ?_⟩
    intro h'' he' sb
    have hT2 := (sb.2 s.heap.objs.size (Nat.ne_of_gt le)).trans hT
    have new : ObjOk X.prog X.w (upd H s.heap.objs.size (.tup [.int (i : Nat), .str ⟨#[c]⟩])) h'' s.heap.objs.size (.tup [.int (i : Nat), .str ⟨#[c]⟩]) :=
      ⟨by show 2 ≤ sizeLine; decide,[.int i tk,.str ⟨#[c]⟩ u],.cons ⟨_,rfl⟩ (.cons ⟨_,rfl⟩ .nil),⟨_,hT2,rfl,_,rfl⟩⟩
    have I1 := I.turnedNew (t' := tk + 1) (ch := [e, it]) (fun b ob hb q => (sb.2 b (fun z => hb (by simp [z]))).trans (hk b ob (fun z => hb (by simp [z])) (fun z => hb (by simp [z])) q)) hf (Nat.le_refl _) new
    refine ⟨.ref s.heap.objs.size,_,I1,rfl,⟨_,c,rfl,I.hok.fresh (Nat.le_refl _),rfl,hx⟩,⟨⟨.str ⟨#[c]⟩ u,?_⟩,?_,hne⟩,?_⟩
    · rw [show ((i + 1 : Nat) : Int) = (i : Int) + 1 by omega]; exact he'
    · obtain ⟨o,o1,o2⟩ := st
      exact ⟨o,(sb.2 it (Ne.symm hne)).trans o1,o2⟩
    · intro b hb
      have : b < s.heap.objs.size := by
        rcases List.mem_cons.mp hb with rfl | hb
        · exact le
        · cases List.mem_singleton.mp hb; exact li
      rw [upd_ne (Nat.ne_of_lt this)]
      exact (hf b hb).1
  done := by
    intro X hP hw hK hc i pins s σ H E I hf ⟨⟨old,he⟩,hit,hne⟩ hg
    cases hP; cases hw; cases hK
    cases (show i = x.cps.size from hg)
    obtain ⟨f0,f1,f2,f3,f4,f5⟩ := hf it (List.mem_cons_of_mem _ List.mem_cons_self)
    refine wpAny_pyNext_enum_endD (Zed (A := X.A.in1) (I.ok.hd hc) it x t) he hit ?_
    intro h' eb
    exact ⟨rfl, I.turned (t' := s.toks) (fun b o hb q => eb b o hb q) f0 f1 f3 f4 f5⟩
  self := by
    intro A i s Q E ⟨⟨_,he⟩,_⟩ h
    exact wpAny_pyIter_enum he h
def iEnumS (ta : TA) : TI := fun σ H R => ta σ H fun vs H1 => ∃ x : Str,vs = [.str x] ∧ R (IteS x) H1
theorem Zlf {X : Cx} {e : Expr} {ta : TA} {p pos tpos : Pos} {elts : List Expr} {kk : Nat} (hg : Gl X "enumerate") (hm : X.mg "enumerate" = none)
    (ha : PA X [e] ta) (hs : starEach [e] X.env = [(false,eval e X.env)] := by rfl) :
    PI X (.Tuple elts kk tpos) (.Call (.Name "enumerate" p) [e] [] pos) (iEnumS ta) := by
  constructor
  intro pins s σ H R I h
  refine Call_ (ld_blt I hg hm boot_enumerate (PyProof.Rows.callWith_type1 ?_ hs rfl))
  refine thn (ha.run pos pins s σ H _ I h) ?_
  rintro us s1 ⟨vs,H1,I1,r1,x,rfl,q⟩
  obtain ⟨u,rfl,t,rfl⟩ := vals1 r1
  refine call_enumerate_str ?_
  intro h' he hit hsz hk
  refine wpAny_pyIter_enum he ?_
  have I2 : Inv X pins σ H1 { s1 with heap := h' } := I1.kept (t' := s1.toks) hk
  refine ⟨s1.heap.objs.size + 1,[s1.heap.objs.size + 1,s1.heap.objs.size],_,_,H1,rfl,I2,Zi4 x t _ _,⟨⟨.none,he⟩,hit,Nat.succ_ne_self _⟩,?_,q⟩
  intro b hb
  have hle : s1.heap.objs.size ≤ b := by
    rcases List.mem_cons.mp hb with rfl | hb
    · exact Nat.le_add_right _ _
    · cases List.mem_singleton.mp hb; exact Nat.le_refl _
  exact I1.fpOk hle (I1.hok.fresh hle)
end Ap
set_option maxHeartbeats 4000000
namespace Ap
open PySem PySem.Spec PyProof.Rows L2 SX
section
variable {K : PySem.W.Frag} {σ : L2.St} {H : Hp} {ta tb te tl : TE} {tt : TT} {j : Nat} {vs : List Nat}
def sumL (ys : List (List Nat)) : Nat := (ys.map List.length).sum
theorem Zoy (ys : List (List Nat)) : ((ys.map S).map (·.length)).sum = sumL ys := by
  induction ys with
  | nil => rfl
  | cons y ys ih =>
    unfold sumL at *
    rw [List.map_cons,List.map_cons,List.sum_cons,ih,List.map_cons,List.sum_cons]
    show (S y).length + _ = _
    rw [S_len]
end
end Ap
set_option maxHeartbeats 4000000
namespace Ap
open PySem PySem.Spec PyProof.Rows L2 SX
def rst (c : Nat) (l : List Nat) : List Nat := l.take (l.length - (l.reverse.takeWhile (· == c)).length)
def lst (c : Nat) (l : List Nat) : List Nat := l.drop (l.takeWhile (· == c)).length
theorem has1 (c : Nat) : (S [c]).cps.contains = (· == c) := by
  funext d
  by_cases h : d = c <;> simp [S,h]
theorem Zlg (c : Nat) (l : List Nat) : Txt.rstripChars (S l) (S [c]) = S (rst c l) := by
  have hlo : PySem.stripLo (· == c) false (S l) = 0 := rfl
  have hhi : PySem.stripHi (· == c) true (S l) 0 = l.length - (l.reverse.takeWhile (· == c)).length := by
    show (S l).length - ((l.drop 0).reverse.takeWhile (· == c)).length = _
    rw [S_len,List.drop_zero]
  unfold Txt.rstripChars Txt.stripBy
  rw [has1]
  by_cases h : PySem.stripSame (· == c) false true (S l) = true
  · rw [if_pos h]
    unfold PySem.stripSame at h
    rw [hlo,hhi,S_len,Bool.and_eq_true,beq_iff_eq,beq_iff_eq] at h
    unfold rst
    rw [h.2,List.take_of_length_le (Nat.le_refl _)]
  · rw [if_neg h]
    refine TL.ext_tl ?_
    unfold PySem.stripped
    rw [TL.tl_strSub,hlo,hhi]
    show (l.drop 0).take (_ - 0) = _
    rw [List.drop_zero,Nat.sub_zero]; rfl
def dec (i : Int) : List Nat := (toString i : Str).cps.toList
theorem Znf (i : Int) : (toString i : Str) = S (dec i) := (S_tl _).symm
theorem Zoz {P : Program} {w : World} {K : PySem.W.Frag} {mg : Str → Option Value} {base : Heap} {x qual : Str} {params : Arguments} {body : List Stmt} {scope : Scope} {dvs : List V} {kws : List (Str × V)} {f : Addr} {fd : FuncData}
    {N ps : List Str} {k : Nat} {sp : Sp} (F : FunD K x qual params body scope dvs kws f fd) (S : FnScope N ps scope) (len : ∀ vs H Q E,sp vs H Q E → vs.length = ps.length)
    (hbody : ∀ (cdv : Value) (A : Around) (outer : List Env) (s : Shared) (H : Hp) (vs : List V) (Q : VK) (E : XK),Room k (A.deeper (envOfC qual scope s.heap.objs.size f cdv)) → sp vs H Q E →
      ∃ t, PSs (cxOf CX0 P w K mg base N qual scope f cdv A outer s H E).nox body t ∧ t { nx := fun _ H' => Q .non H', rt := Q } (start N vs) H) : FnOk P w K mg base CX0 (k + 1) f fd ps sp :=
  F.ok S len fun cdv A outer s H vs Q E hr h => let ⟨t,p,q⟩ := hbody cdv A outer s H vs Q E hr h; ⟨t,p.nox,q⟩
theorem fn_T {P : Program} {w : World} {K : PySem.W.Frag} {mg : Str → Option Value} {base : Heap} {x qual : Str} {st : Stmt} {f : Addr} {fd : FuncData} {N ps : List Str} {k : Nat} {sp : Sp}
    (F : Fun K x qual st f fd) (S : FnScope N ps (defScope st)) (hnc : ((defScope st).names.all fun y => match y.2 with | .cell => false | _ => true) = true) (hps : 1 ≤ ps.length) (len : ∀ vs H Q E,sp vs H Q E → vs.length = ps.length)
    (hbody : ∀ (cdv : Value) (A : Around) (outer : List Env) (s : Shared) (H : Hp) (vs : List V) (Q : VK) (E : XK),Room k (A.deeper (envOfC qual (defScope st) s.heap.objs.size f cdv)) → sp vs H Q E →
      ∃ t, PSsT (cxOf CX0 P w K mg base N qual (defScope st) f cdv A outer s H E) (defBody st) t ∧ t { nx := fun _ H' => Q .non H', rt := Q } (start N vs) H) : FnOk P w K mg base CX0 (k + 1) f fd ps sp := by
  obtain ⟨oc,od,kV,doc,pm,an,cdv,ct,osl,rfl,lk,hcd⟩ := F.ex
  refine fn_ofT lk hcd S (fun y hy e => ?_) hps len fun A outer s H vs Q E hr h => hbody cdv A outer s H vs Q E hr h
  have := List.all_eq_true.mp hnc y hy
  rw [e] at this
  exact Bool.noConfusion this
theorem repl1 {c : Nat} {z : List Nat} : ∀ l : List Nat,PySem.StrLaws.replL [c] z l = l.flatMap fun d => if d = c then z else [d]
  | [] => PySem.StrLaws.replL_nil
  | d :: l => by
    by_cases h : d = c
    · rw [PySem.StrLaws.replL_hit (by simp) (by simp [h]),List.flatMap_cons,if_pos h]
      show _ ++ PySem.StrLaws.replL [c] z l = _
      rw [repl1 l]
    · rw [PySem.StrLaws.replL_miss (by simp [h]),repl1 l,List.flatMap_cons,if_neg h]; rfl
theorem Zj2 (c : Nat) (z l : List Nat) : Txt.replace (S l) (S [c]) (S z) = S (l.flatMap fun d => if d = c then z else [d]) := by
  refine TL.ext_tl ?_
  have := PySem.StrLaws.replace_list (x := S l) (y := S [c]) (z := S z) (by rw [S_len]; exact Nat.le_refl 1)
  show (Txt.replace (S l) (S [c]) (S z)).cps.toList = _
  rw [this]
  exact repl1 l
theorem Zcn {σ : L2.St} {H : Hp} {te : TE} {c : Nat} {z l : List Nat} {y' z' : Str} (h : Evl.Ev te σ H (.str (S l))) (hy : y' = S [c]) (hz : z' = S z) (hl : l.length ≤ 100000) (hzl : z.length ≤ 10) :
    Evl.Ev (CwR.tReplC te y' z') σ H (.str (S (l.flatMap fun d => if d = c then z else [d]))) := fun H1 e Q q =>
  h H1 e _ fun H2 e2 => ⟨S l,rfl,by
    subst hz
    rw [S_len,S_len]
    have : (l.length + 1) * z.length ≤ (100000 + 1) * 10 := Nat.mul_le_mul (by omega) hzl
    omega,by
    subst hy hz
    rw [Zj2]; exact q H2 e2⟩
def LsAll (H : Hp) : List Addr → List (List V) → Prop
  | [],[] => True
  | q :: qs,y :: ys => H q = some (.lst y) ∧ LsAll H qs ys
  | _,_ => False
theorem LsAll.to {H H' : Hp} : ∀ {qs : List Addr} {yss : List (List V)}, LsAll H qs yss → (∀ q y, q ∈ qs → H q = some (.lst y) → H' q = some (.lst y)) → LsAll H' qs yss
  | [],[],_,_ => trivial
  | q :: qs, y :: ys, h, k => ⟨k q y List.mem_cons_self h.1, h.2.to fun q' y' hq => k q' y' (List.mem_cons_of_mem _ hq)⟩
  | [],_ :: _,h,_ => h
  | _ :: _,[],h,_ => h
theorem LsAll.same {H H' : Hp} {qs : List Addr} {yss : List (List V)} (h : LsAll H qs yss) (s : Same H H') : LsAll H' qs yss := h.to fun q y _ e => s q _ e
theorem LsAll.ne {H : Hp} {p : Addr} (hp : H p = none) : ∀ {qs : List Addr} {yss : List (List V)},LsAll H qs yss → ∀ q ∈ qs,q ≠ p
  | q :: qs,y :: ys,h,x,hx => by
    rcases List.mem_cons.mp hx with rfl | hx
    · intro e
      have h1 := h.1
      rw [e,hp] at h1
      cases h1
    · exact h.2.ne hp x hx
  | [],_,_,_,hx => nomatch hx
  | _ :: _,[],h,_,_ => h.elim
theorem LsAll.len {H : Hp} : ∀ {qs : List Addr} {yss : List (List V)},LsAll H qs yss → qs.length = yss.length
  | [],[],_ => rfl
  | _ :: _,_ :: _,h => by rw [List.length_cons,List.length_cons,h.2.len]
  | [],_ :: _,h => h.elim
  | _ :: _,[],h => h.elim
theorem LsAll.get {H : Hp} : ∀ {qs : List Addr} {yss : List (List V)} {i : Nat} {x : V},LsAll H qs yss → (qs.map V.ref)[i]? = some x → ∃ q y,x = .ref q ∧ yss[i]? = some y ∧ H q = some (.lst y)
  | q :: qs,y :: ys,0,x,h,e => ⟨q,y,(Option.some.inj e).symm,rfl,h.1⟩
  | q :: qs,y :: ys,i + 1,x,h,e => by
    obtain ⟨q', y', e1, e2, e3⟩ := LsAll.get (i := i) h.2 (by simpa using e)
    exact ⟨q', y', e1, by simpa using e2, e3⟩
  | [],[],i,x,h,e => by simp at e
  | [],_ :: _,_,_,h,_ => h.elim
  | _ :: _,[],_,_,h,_ => h.elim
def cont (H : Hp) : V → List V
  | .ref q => match H q with
    | some (.lst y) => y
    | _ => []
  | _ => []
theorem LsAll.cont {H : Hp} {α : Type} (f : List V → α) : ∀ {qs : List Addr} {yss : List (List V)},LsAll H qs yss → (qs.map V.ref).map (fun x => f (cont H x)) = yss.map f
  | [],[],_ => rfl
  | q :: qs,y :: ys,h => by
    rw [List.map_cons,List.map_cons,List.map_cons,h.2.cont f]
    have e : Ap.cont H (.ref q) = y := by
      show (match H q with
        | some (.lst y) => y
        | _ => []) = y
      rw [h.1]
    rw [e]
  | [],_ :: _,h => h.elim
  | _ :: _,[],h => h.elim
def EvLL (te : TE) (σ : L2.St) (H : Hp) (yss : List (List V)) : Prop :=
  ∀ H1,Same H H1 → ∀ Q : VK,(∀ p qs H2,H1 p = none → Same H1 H2 → H2 p = some (.lst (qs.map V.ref)) → LsAll H2 qs yss → Q (.ref p) H2) → te σ H1 Q
theorem EvLL.is {te : TE} {σ : L2.St} {H : Hp} {a b : List (List V)} (h : EvLL te σ H a) (e : a = b) : EvLL te σ H b := e ▸ h
end Ap
set_option maxHeartbeats 4000000
namespace Ap
open PySem PySem.Spec PyProof.Rows L2 SX
def rOr (r1 r2 : R2) : R2 := fun x y H Q => r1 x y H Q ∨ r2 x y H Q
def rOrC (r1 r2 : List V → Hp → VK → Prop) : List V → Hp → VK → Prop := fun xs H Q => r1 xs H Q ∨ r2 xs H Q
theorem Zg2 {X : Cx} {f : Value} {r1 r2 : List V → Hp → VK → Prop} (h1 : CallR X f r1) (h2 : CallR X f r2) : CallR X f (rOrC r1 r2) := fun pins s σ H xs us Q I rs h =>
  h.elim (h1 pins s σ H xs us Q I rs) (h2 pins s σ H xs us Q I rs)
open PySem.Builtin PySem.Builtin.Str in
theorem Zng (x : Str) (t : Tok) (a : Addr) : ∃ other : Sem Fin,«str.startswith» ⟨[.str x t,.ref a],[]⟩ = (do
    if let some p ← asStr? (.ref a) then return ← ret (.bool (0 + p.length ≤ min x.length x.length && subAt x p 0))
    if ← isInstance (.ref a) (.type "tuple") then
      rule s!"str.startswith.tuple"
      let some items ← seqItems? (.ref a) | unsupported s!"internal:str.startswith"
      for y in items do
        match ← asStr? y with
        | some p => if 0 + p.length ≤ min x.length x.length && subAt x p 0 then return ← ret (.bool true)
        | none =>
          rule s!"str.startswith.tuple-item-not-str"
          raiseError "TypeError" s!"tuple for startswith must only contain str, not {← typeNameOf y}"
      return ← ret (.bool false)
    other) := ⟨_,rfl⟩
open PySem.Builtin PySem.Builtin.Str in
theorem Zlh (x : Str) (t : Tok) (a : Addr) (l : List (Str × Tok)) :
    Meets («str.startswith» ⟨[.str x t, .ref a], []⟩) (fun _ R s => (∃ o n, s.heap.get? a = some o ∧ o.cls = .type "tuple" ∧ o.data = .seq (strValues l).toArray n) ∧ R (.ok (.ret (.bool (l.any fun p => Txt.startswith x p.1)))) s) := by
  obtain ⟨other,htree⟩ := Zng x t a
  intro prog w A R s ⟨⟨o,n,ho,hc,hdata⟩,hpost⟩
  rw [htree]
  refine wpAny_bind ?_
  unfold asStr?
  refine wpAny_bind (wpAny_load ho ?_)
  rw [hdata]
  refine wpAny_pure ?_
  refine wpAny_bind (wpAny_isInstance (T := "tuple") ⟨o, ho, hc⟩ isSubtype_tuple_tuple ?_)
  refine wpAny_bind (wpAny_rule ?_)
  refine wpAny_bind (wpAny_seqItems ho hdata ?_)
  refine wpAny_bind ?_
  rw [← Array.forIn_toList,List.toList_toArray]
  refine wpAny_forIn_list _ (fun rest r s' => r.1 = none ∧ s' = s ∧ ∃ m : List (Str × Tok), rest = strValues m ∧ (l.any fun p => Txt.startswith x p.1) = (m.any fun p => Txt.startswith x p.1)) _ ?_ ?_ _ _ ⟨rfl, rfl, l, rfl, rfl⟩
  · rintro v rest r s' ⟨hr, rfl, m, hm, e⟩
    match m,hm with
    | (y,u) :: m,hm =>
      cases hm
      refine wpAny_bind (wpAny_pure ?_)
      cases hb : Txt.startswith x y
      · have hb' := hb
        unfold Txt.startswith at hb'
        simp only [Nat.min_self, hb']
        refine wpAny_pure ⟨rfl,rfl,m,rfl,?_⟩
        rw [e,List.any_cons,hb,Bool.false_or]
      · have hb' := hb
        unfold Txt.startswith at hb'
        simp only [Nat.min_self, hb']
        rw [if_pos trivial]
        refine wpAny_bind (wpAny_pure (wpAny_pure (wpAny_pure ?_)))
        rw [e,List.any_cons,hb,Bool.true_or] at hpost
        exact hpost
  · rintro ⟨r1, r2⟩ s' ⟨hr, rfl, m, hm, e⟩
    simp only at hr
    subst hr
    match m,hm with
    | [],_ =>
      rw [e] at hpost
      exact wpAny_pure hpost
abbrev rSwT (K : PySem.W.Frag) : V → List V → Hp → VK → Prop := fun x xs H Q => ∃ (a : Str) (p : Addr) (ys : List Str),x = .str a ∧ xs = [.ref p] ∧ SqT K H p (ys.map V.str) ∧ Q (.bl (ys.any fun y => Txt.startswith a y)) H
theorem Zat {X : Cx} : MtR X "str.startswith" (rSwT X.K) := by
  intro pins s σ H x xs v us Q I rx rs h
  obtain ⟨a,p,ys,rfl,rfl,hp,q⟩ := h
  obtain ⟨t,rfl⟩ := rx
  cases rs with
  | cons r1 rs =>
    cases rs
    cases r1
    obtain ⟨its,r,ht,_⟩ := I.tuple hp
    obtain ⟨l,hv,hy⟩ := strsAre_values (strs_of_vals r)
    obtain ⟨o,ho,hc,n,hd⟩ := ht
    refine call_meets F.slot_str_startswith (typeIs_str _ _ _) F.entry_str_startswith (F.args_str_startswith_2 _ _) (Zlh a t p l) ⟨⟨o,n,ho,hc,by rw [hd,hv]⟩,.bl (ys.any fun y => Txt.startswith a y),H,I,?_,q⟩
    rw [← hy,List.any_map]
    rfl
end Ap
set_option maxHeartbeats 4000000
namespace Fx
class Tb where
  T : List (PySem.Addr × PySem.Str)
instance (priority := low) tb0 : Tb := ⟨[]⟩
open PySem PySem.Spec PyProof.Rows L2 SX Ap
variable [Tb]
inductive T where
  | non | bl (b : Bool) | int (i : Int) | str (l : List Nat) | tup (ts : List T) | loc (i : Nat) | frl (ts : List T) | ref (a : Addr) | ty (n : String) | lam (f c : Addr) (q : PySem.Str) (J : List Addr → Hp → Prop) | ktp (ts : List T)
inductive O where
  | lst (ts : List T) | dk (kvs : List (Key × T)) | dt (kvs : List (List Key × T)) | ins (C : String) (fs : List (String × T))
abbrev Sto := List O
structure Ex where
  cls : PySem.Str
  fs : List (PySem.Str × T)
inductive R (α : Type) where
  | ok (a : α) (S : Sto) | exc (x : Ex) (S : Sto) | stuck
def R.bind {α β : Type} : R α → (α → Sto → R β) → R β
  | .ok a S,k => k a S
  | .exc x S,_ => .exc x S
  | .stuck,_ => .stuck
def lift {α : Type} : Option (α × Sto) → R α
  | some (a,S) => .ok a S
  | none => .stuck
@[simp] theorem Xr {α β : Type} (a : α) (S : Sto) (k : α → Sto → R β) : (R.ok a S).bind k = k a S := (rfl)
@[simp] theorem bind_exc {α β : Type} (x : Ex) (S : Sto) (k : α → Sto → R β) : (R.exc x S).bind k = .exc x S := (rfl)
@[simp] theorem Zow {α β : Type} (k : α → Sto → R β) : (R.stuck (α := α)).bind k = .stuck := (rfl)
@[simp] theorem Zp0 {α : Type} (a : α) (S : Sto) : lift (some (a,S)) = .ok a S := (rfl)
@[simp] theorem Zp1 {α : Type} : lift (none : Option (α × Sto)) = .stuck := (rfl)
def FrL (K : PySem.W.Frag) (H : Hp) (a : Addr) (xs : List V) : Prop :=
  (∃ o,H a = some (.frz o (.lst xs))) ∨
    ∃ (o : Obj) (its : Array Value) (n : Nat), K.lookup a = some o ∧ o.cls = .type "list" ∧ o.dict = none ∧ o.data = .seq its n ∧ its.size ≤ sizeLine ∧ Vals xs its.toList
theorem FrL.sq {K : PySem.W.Frag} {H : Hp} {a : Addr} {xs : List V} (h : FrL K H a xs) : SqL K H a xs := h.elim (fun ⟨o,e⟩ => .inl (.inr ⟨o,e⟩)) .inr
def HMut : HO → Prop
  | .lst _ => True | .dK _ => True | .dT _ => True | .ins _ _ _ => True | _ => False
structure Gr (ι ι' : List Addr) (H H' : Hp) : Prop where
  pre : ∀ (i : Nat) a, ι[i]? = some a → ι'[i]? = some a
  tup : ∀ a xs, H a = some (.tup xs) → H' a = some (.tup xs)
  frz : ∀ a o u, H a = some (.frz o u) → H' a = some (.frz o u)
  xd : ∀ a fs, H a = some (.xd fs) → H' a = some (.xd fs)
  ext : ∀ a φ, H a = some (.ext φ) → H' a = some (.ext φ)
  tab : LamX.Tabs Tb.T H → LamX.Tabs Tb.T H'
  fre : ∀ a u, a ∈ ι' → H a = some u → HMut u → a ∈ ι
  out : ∀ a u, H a = some u → HMut u → a ∉ ι → H' a = some u
theorem Gr.refl {ι : List Addr} {H : Hp} : Gr ι ι H H := ⟨fun _ _ h => h,fun _ _ h => h,fun _ _ _ h => h,fun _ _ h => h,fun _ _ h => h,fun h => h,fun _ _ h _ _ => h,fun _ _ h _ _ => h⟩
theorem Gr.trans {ι ι1 ι2 : List Addr} {H H1 H2 : Hp} (a : Gr ι ι1 H H1) (b : Gr ι1 ι2 H1 H2) : Gr ι ι2 H H2 :=
  ⟨fun i x h => b.pre i x (a.pre i x h),fun x xs h => b.tup x xs (a.tup x xs h),fun x o u h => b.frz x o u (a.frz x o u h),fun x fs h => b.xd x fs (a.xd x fs h),fun x φ h => b.ext x φ (a.ext x φ h),fun h => b.tab (a.tab h),fun x u hx h m => Classical.byContradiction fun n => n (a.fre x u (b.fre x u hx (a.out x u h m n) m) h m),fun x u h m n => b.out x u (a.out x u h m n) m fun hx => n (a.fre x u hx h m)⟩
theorem Gr.same {ι : List Addr} {H H' : Hp} (s : Same H H') : Gr ι ι H H' := ⟨fun _ _ h => h, fun _ _ h => s _ _ h, fun _ _ _ h => s _ _ h, fun _ _ h => s _ _ h, fun _ _ h => s _ _ h, fun h => h.ext s, fun _ _ h _ _ => h, fun _ _ h _ _ => s _ _ h⟩
mutual
inductive Rep (K : PySem.W.Frag) (ι : List Addr) (H : Hp) : V → T → Prop
  | non : Rep K ι H .non .non
  | bl (b : Bool) : Rep K ι H (.bl b) (.bl b)
  | int (i : Int) : Rep K ι H (.int i) (.int i)
  | str (l : List Nat) : Rep K ι H (.str (S l)) (.str l)
  | tup {a : Addr} {vs : List V} {ts : List T} : SqT K H a vs → Reps K ι H vs ts → Rep K ι H (.ref a) (.tup ts)
  | loc {i : Nat} {a : Addr} : ι[i]? = some a → Rep K ι H (.ref a) (.loc i)
  | frl {a : Addr} {vs : List V} {ts : List T} : FrL K H a vs → Reps K ι H vs ts → Rep K ι H (.ref a) (.frl ts)
  | ref (a : Addr) : Rep K ι H (.ref a) (.ref a)
  | ty (n : String) : Rep K ι H (.ty n) (.ty n)
  | lam {f c : Addr} {q : PySem.Str} {J : List Addr → Hp → Prop} : H c = some (LamX.CodeO c q) → (∀ ι' H', Gr ι ι' H H' → J ι' H') → Rep K ι H (.ref f) (.lam f c q J)
  | ktp {a : Addr} {vs : List V} {ts : List T} : H a = some (.tup vs) → Reps K ι H vs ts → Rep K ι H (.ref a) (.ktp ts)
inductive Reps (K : PySem.W.Frag) (ι : List Addr) (H : Hp) : List V → List T → Prop
  | nil : Reps K ι H [] []
  | cons {v : V} {vs : List V} {t : T} {ts : List T} : Rep K ι H v t → Reps K ι H vs ts → Reps K ι H (v :: vs) (t :: ts)
end
theorem SqT.gr {K : PySem.W.Frag} {ι ι' : List Addr} {H H' : Hp} {a : Addr} {xs : List V} (g : Gr ι ι' H H') (h : SqT K H a xs) : SqT K H' a xs := by
  rcases h with (h | ⟨o,h⟩) | h
  · exact .inl (.inl (g.tup _ _ h))
  · exact .inl (.inr ⟨o,g.frz _ _ _ h⟩)
  · exact .inr h
theorem FrL.gr {K : PySem.W.Frag} {ι ι' : List Addr} {H H' : Hp} {a : Addr} {xs : List V} (g : Gr ι ι' H H') (h : FrL K H a xs) : FrL K H' a xs := by
  rcases h with ⟨o,h⟩ | h
  · exact .inl ⟨o,g.frz _ _ _ h⟩
  · exact .inr h
mutual
theorem Rep.gr {K : PySem.W.Frag} {ι ι' : List Addr} {H H' : Hp} (g : Gr ι ι' H H') : ∀ {v : V} {t : T}, Rep K ι H v t → Rep K ι' H' v t
  | _,_,.non => .non
  | _,_,.bl b => .bl b
  | _,_,.int i => .int i
  | _,_,.str l => .str l
  | _,_,.tup h r => .tup (SqT.gr g h) (Reps.gr g r)
  | _,_,.loc h => .loc (g.pre _ _ h)
  | _,_,.frl h r => .frl (h.gr g) (Reps.gr g r)
  | _,_,.ref a => .ref a
  | _,_,.ty n => .ty n
  | _, _, .lam h j => .lam (g.ext _ _ h) fun ι' H' g' => j ι' H' (g.trans g')
  | _,_,.ktp h r => .ktp (g.tup _ _ h) (Reps.gr g r)
theorem Reps.gr {K : PySem.W.Frag} {ι ι' : List Addr} {H H' : Hp} (g : Gr ι ι' H H') : ∀ {vs : List V} {ts : List T}, Reps K ι H vs ts → Reps K ι' H' vs ts
  | _,_,.nil => .nil
  | _,_,.cons h r => .cons (Rep.gr g h) (Reps.gr g r)
end
section
variable {K : PySem.W.Frag} {ι : List Addr} {H : Hp}
theorem Reps.length : ∀ {vs : List V} {ts : List T},Reps K ι H vs ts → vs.length = ts.length
  | _,_,.nil => rfl
  | _,_,.cons _ r => congrArg (· + 1) r.length
theorem Reps.get : ∀ {vs : List V} {ts : List T} {i : Nat} {t : T},Reps K ι H vs ts → ts[i]? = some t → ∃ v,vs[i]? = some v ∧ Rep K ι H v t
  | _,_,_,_,.nil,e => by simp at e
  | _,_,0,_,.cons r _,e => by simp at e; subst e; exact ⟨_,rfl,r⟩
  | _,_,i + 1,t,.cons _ q,e => by
    obtain ⟨v,h1,h2⟩ := Reps.get (i := i) (t := t) q (by simpa using e)
    exact ⟨v,by simpa using h1,h2⟩
theorem Reps.append : ∀ {vs ws : List V} {ts us : List T},Reps K ι H vs ts → Reps K ι H ws us → Reps K ι H (vs ++ ws) (ts ++ us)
  | _,_,_,_,.nil,s => s
  | _,_,_,_,.cons r t,s => .cons r (Reps.append t s)
theorem Reps.take : ∀ {vs : List V} {ts : List T} (n : Nat),Reps K ι H vs ts → Reps K ι H (vs.take n) (ts.take n)
  | _,_,0,_ => by simpa using Reps.nil
  | _,_,_ + 1,.nil => by simpa using Reps.nil
  | _,_,n + 1,.cons r t => .cons r (Reps.take n t)
theorem Reps.drop : ∀ {vs : List V} {ts : List T} (n : Nat),Reps K ι H vs ts → Reps K ι H (vs.drop n) (ts.drop n)
  | _,_,0,r => r
  | _,_,_ + 1,.nil => .nil
  | _,_,n + 1,.cons _ t => Reps.drop n t
theorem Reps.set {v : V} {t : T} (r : Rep K ι H v t) : ∀ {vs : List V} {ts : List T} (i : Nat),Reps K ι H vs ts → Reps K ι H (vs.set i v) (ts.set i t)
  | _,_,_,.nil => .nil
  | _,_,0,.cons _ q => .cons r q
  | _,_,i + 1,.cons p q => .cons p (Reps.set r i q)
theorem Reps.reverse : ∀ {vs : List V} {ts : List T},Reps K ι H vs ts → Reps K ι H vs.reverse ts.reverse
  | _,_,.nil => .nil
  | _,_,.cons r t => by
    rw [List.reverse_cons,List.reverse_cons]
    exact (Reps.reverse t).append (.cons r .nil)
end
inductive RepP {κ : Type} (K : PySem.W.Frag) (ι : List Addr) (H : Hp) : List (κ × V) → List (κ × T) → Prop
  | nil : RepP K ι H [] []
  | cons {k : κ} {v : V} {vs : List (κ × V)} {t : T} {ts : List (κ × T)} : Rep K ι H v t → RepP K ι H vs ts → RepP K ι H ((k,v) :: vs) ((k,t) :: ts)
theorem RepP.gr {κ : Type} {K : PySem.W.Frag} {ι ι' : List Addr} {H H' : Hp} (g : Gr ι ι' H H') : ∀ {vs : List (κ × V)} {ts : List (κ × T)}, RepP K ι H vs ts → RepP K ι' H' vs ts
  | _,_,.nil => .nil
  | _,_,.cons h r => .cons (Rep.gr g h) (RepP.gr g r)
theorem RepP.length {κ : Type} {K : PySem.W.Frag} {ι : List Addr} {H : Hp} : ∀ {vs : List (κ × V)} {ts : List (κ × T)},RepP K ι H vs ts → vs.length = ts.length
  | _,_,.nil => rfl
  | _,_,.cons _ r => congrArg (· + 1) r.length
inductive RepF (K : PySem.W.Frag) (ι : List Addr) (H : Hp) : List (PySem.Str × V) → List (String × T) → Prop
  | nil : RepF K ι H [] []
  | cons {k : String} {v : V} {vs : List (PySem.Str × V)} {t : T} {ts : List (String × T)} : Rep K ι H v t → RepF K ι H vs ts → RepF K ι H ((PySem.Str.ofString k,v) :: vs) ((k,t) :: ts)
theorem RepF.gr {K : PySem.W.Frag} {ι ι' : List Addr} {H H' : Hp} (g : Gr ι ι' H H') : ∀ {vs : List (PySem.Str × V)} {ts : List (String × T)}, RepF K ι H vs ts → RepF K ι' H' vs ts
  | _,_,.nil => .nil
  | _,_,.cons h r => .cons (Rep.gr g h) (RepF.gr g r)
def ObR (K : PySem.W.Frag) (ι : List Addr) (H : Hp) (a : Addr) : O → Prop
  | .lst ts => ∃ vs,H a = some (.lst vs) ∧ Reps K ι H vs ts
  | .dk kvs => ∃ vs,H a = some (.dK vs) ∧ RepP K ι H vs kvs
  | .dt kvs => ∃ vs,H a = some (.dT vs) ∧ RepP K ι H vs kvs
  | .ins C fs => ∃ Ca dx vs,PySem.W.nsIn K mainGlobals (PySem.Str.ofString C) = some (some (.ref Ca)) ∧ H a = some (.ins Ca dx vs) ∧ RepF K ι H vs fs
structure Sim (K : PySem.W.Frag) (ι : List Addr) (S : Sto) (H : Hp) : Prop where
  len : ι.length = S.length
  nd : ι.Nodup
  ob : ∀ (i : Nat) a o,ι[i]? = some a → S[i]? = some o → ObR K ι H a o
  tab : LamX.Tabs Tb.T H
theorem ObR.gr {K : PySem.W.Frag} {ι ι' : List Addr} {H H' : Hp} {a : Addr} {o : O} (g : Gr ι ι' H H') (e : H' a = H a) (h : ObR K ι H a o) : ObR K ι' H' a o := by
  cases o with
  | lst ts => obtain ⟨vs,h,r⟩ := h; exact ⟨vs,e.trans h,r.gr g⟩
  | dk ts => obtain ⟨vs,h,r⟩ := h; exact ⟨vs,e.trans h,r.gr g⟩
  | dt ts => obtain ⟨vs,h,r⟩ := h; exact ⟨vs,e.trans h,r.gr g⟩
  | ins C ts => obtain ⟨Ca,dx,vs,hn,h,r⟩ := h; exact ⟨Ca,dx,vs,hn,e.trans h,r.gr g⟩
theorem ObR.has {K : PySem.W.Frag} {ι : List Addr} {H : Hp} {a : Addr} {o : O} (h : ObR K ι H a o) : ∃ u,H a = some u := by
  cases o with
  | lst ts => obtain ⟨vs,h,r⟩ := h; exact ⟨_,h⟩
  | dk ts => obtain ⟨vs,h,r⟩ := h; exact ⟨_,h⟩
  | dt ts => obtain ⟨vs,h,r⟩ := h; exact ⟨_,h⟩
  | ins C ts => obtain ⟨Ca,dx,vs,hn,h,r⟩ := h; exact ⟨_,h⟩
theorem ObR.mut {K : PySem.W.Frag} {ι : List Addr} {H : Hp} {a : Addr} {o : O} (h : ObR K ι H a o) : ∃ u,H a = some u ∧ HMut u := by
  cases o with
  | lst ts => obtain ⟨vs,h,r⟩ := h; exact ⟨_,h,trivial⟩
  | dk ts => obtain ⟨vs,h,r⟩ := h; exact ⟨_,h,trivial⟩
  | dt ts => obtain ⟨vs,h,r⟩ := h; exact ⟨_,h,trivial⟩
  | ins C ts => obtain ⟨Ca,dx,vs,hn,h,r⟩ := h; exact ⟨_,h,trivial⟩
section
variable {K : PySem.W.Frag} {ι : List Addr} {H H' : Hp} {Z : Sto}
theorem Sim.same (s : Sim K ι Z H) (m : Same H H') : Sim K ι Z H' := ⟨s.len, s.nd, fun i a o e1 e2 => by
  have h := s.ob i a o e1 e2
  obtain ⟨u,hu⟩ := h.has
  exact h.gr (Gr.same m) ((m _ _ hu).trans hu.symm),s.tab.ext m⟩
theorem Sim.at (s : Sim K ι Z H) {i : Nat} {o : O} (e : Z[i]? = some o) : ∃ a,ι[i]? = some a ∧ ObR K ι H a o := by
  have h1 : i < Z.length := (List.getElem?_eq_some_iff.mp e).1
  have h2 : i < ι.length := by rw [s.len]; exact h1
  exact ⟨ι[i],List.getElem?_eq_getElem h2,s.ob i _ o (List.getElem?_eq_getElem h2) e⟩
theorem Gr.new {p : Addr} {o : HO} (n : H p = none) : Gr ι (ι ++ [p]) H (upd H p o) :=
  ⟨fun i a h => by rw [List.getElem?_append_left (List.getElem?_eq_some_iff.mp h).1]; exact h,fun a xs h => by rw [upd_ne (ne_of_none h n)]; exact h,fun a o u h => by rw [upd_ne (ne_of_none h n)]; exact h,fun a fs h => by rw [upd_ne (ne_of_none h n)]; exact h,fun a φ h => by rw [upd_ne (ne_of_none h n)]; exact h,fun h => h.ext fun b o e => by rw [upd_ne (ne_of_none e n)]; exact e,fun a u h e m => (List.mem_append.mp h).elim id fun k => absurd e (by rw [List.mem_singleton.mp k,n]; intro z; cases z),fun a u h _ _ => by rw [upd_ne (ne_of_none h n)]; exact h⟩
theorem Gr.new0 {p : Addr} {o : HO} (n : H p = none) : Gr ι ι H (upd H p o) := Gr.same (Z0x n)
theorem Sim.new (s : Sim K ι Z H) {p : Addr} {o : HO} {ob : O} (n : H p = none) (r : ObR K (ι ++ [p]) (upd H p o) p ob) : Sim K (ι ++ [p]) (Z ++ [ob]) (upd H p o) := by
  refine ⟨by rw [List.length_append,List.length_append,s.len]; rfl,?_,fun i a x e1 e2 => ?_,(Gr.new (ι := ι) n).tab s.tab⟩
  · rw [List.nodup_append]
    refine ⟨s.nd,by simp,fun a ha b hb => ?_⟩
    rw [List.mem_singleton.mp hb]
    intro e
    obtain ⟨i,h1,h2⟩ := List.mem_iff_getElem.mp ha
    have h3 : i < Z.length := by rw [← s.len]; exact h1
    obtain ⟨u,hu⟩ := (s.ob i a _ (by rw [← h2]; exact List.getElem?_eq_getElem h1) (List.getElem?_eq_getElem h3)).has
    rw [e,n] at hu
    cases hu
  · by_cases hi : i < Z.length
    · rw [List.getElem?_append_left hi] at e2
      rw [List.getElem?_append_left (by rw [s.len]; exact hi)] at e1
      have h := s.ob i a x e1 e2
      obtain ⟨u,hu⟩ := h.has
      exact h.gr (Gr.new n) (by rw [upd_ne (ne_of_none hu n)])
    · have hi' : Z.length ≤ i := Nat.le_of_not_lt hi
      rw [List.getElem?_append_right hi'] at e2
      rw [List.getElem?_append_right (by rw [s.len]; exact hi'), s.len] at e1
      obtain ⟨h1,h2⟩ := List.getElem?_eq_some_iff.mp e2
      have h0 : i - Z.length = 0 := by simpa using h1
      rw [h0] at e1 e2
      simp at e1 e2
      subst e1 e2
      exact r
theorem Gr.mut {a : Addr} {u o : HO} (h : H a = some u) (m : HMut u) (hi : a ∈ ι) : Gr ι ι H (upd H a o) := by
  have ne : ∀ b x,H b = some x → ¬ HMut x → b ≠ a := fun b x e nm z => by subst z; rw [h] at e; cases e; exact nm m
  exact ⟨fun _ _ h => h,fun b xs e => by rw [upd_ne (ne b _ e fun z => z)]; exact e,fun b o u e => by rw [upd_ne (ne b _ e fun z => z)]; exact e,fun b fs e => by rw [upd_ne (ne b _ e fun z => z)]; exact e,fun b φ e => by rw [upd_ne (ne b _ e fun z => z)]; exact e,fun t p hp => by
    obtain ⟨ps,h1,h2,h3⟩ := t p hp
    refine ⟨ps,by rw [upd_ne (ne _ _ h1 fun z => z)]; exact h1,h2,fun pos cv hc => ?_⟩
    obtain ⟨c,e1,e2⟩ := h3 pos cv hc
    exact ⟨c, e1, by rw [upd_ne (ne c _ e2 fun z => z)]; exact e2⟩, fun _ _ k _ _ => k, fun b u' e _ nb => by
    have hb : b ≠ a := fun z => nb (by rw [z]; exact hi)
    rw [upd_ne hb]; exact e⟩
theorem Sim.set (s : Sim K ι Z H) {i : Nat} {a : Addr} {o : HO} {ob : O} (hi : ι[i]? = some a) (r : ObR K ι (upd H a o) a ob) : Sim K ι (Z.set i ob) (upd H a o) := by
  have h1 : i < ι.length := (List.getElem?_eq_some_iff.mp hi).1
  have h2 : i < Z.length := by rw [← s.len]; exact h1
  obtain ⟨u,hu,mu⟩ := (s.ob i a _ hi (List.getElem?_eq_getElem h2)).mut
  refine ⟨by rw [List.length_set]; exact s.len,s.nd,fun j b x e1 e2 => ?_,(Gr.mut (ι := ι) hu mu (List.mem_of_getElem? hi)).tab s.tab⟩
  by_cases hj : j = i
  · subst hj
    rw [hi] at e1; cases e1
    rw [List.getElem?_set_self h2] at e2
    cases e2
    exact r
  · rw [List.getElem?_set_ne (Ne.symm hj)] at e2
    have hb : b ≠ a := fun z => by
      subst z
      obtain ⟨k1,k2⟩ := List.getElem?_eq_some_iff.mp e1
      obtain ⟨k3,k4⟩ := List.getElem?_eq_some_iff.mp hi
      exact hj ((List.getElem_inj s.nd).mp (k2.trans k4.symm))
    exact (s.ob j b x e1 e2).gr (Gr.mut hu mu (List.mem_of_getElem? hi)) (upd_ne hb)
end
abbrev Env := List (Option T)
def Envs (K : PySem.W.Frag) (ι : List Addr) (H : Hp) (σ : L2.St) (ρ : Env) : Prop := ∀ (i : Nat) t,ρ[i]? = some (some t) → ∃ v,σ[i]? = some (some v) ∧ Rep K ι H v t
theorem Envs.gr {K : PySem.W.Frag} {ι ι' : List Addr} {H H' : Hp} {σ : L2.St} {ρ : Env} (e : Envs K ι H σ ρ) (g : Gr ι ι' H H') : Envs K ι' H' σ ρ := fun i t h => by
  obtain ⟨v,h1,h2⟩ := e i t h
  exact ⟨v,h1,h2.gr g⟩
theorem Envs.set {K : PySem.W.Frag} {ι : List Addr} {H : Hp} {σ : L2.St} {ρ : Env} (e : Envs K ι H σ ρ) {v : V} {t : T} (r : Rep K ι H v t) (i : Nat) (hl : σ.length = ρ.length) : Envs K ι H (σ.set i (some v)) (ρ.set i (some t)) := fun j u h => by
  by_cases hj : j = i
  · subst hj
    by_cases hlt : j < ρ.length
    · rw [List.getElem?_set_self hlt] at h
      cases h
      exact ⟨v,List.getElem?_set_self (by rw [hl]; exact hlt),r⟩
    · rw [List.getElem?_eq_none (by rw [List.length_set]; omega)] at h
      cases h
  · rw [List.getElem?_set_ne (Ne.symm hj)] at h
    obtain ⟨w,h1,h2⟩ := e j u h
    exact ⟨w,by rw [List.getElem?_set_ne (Ne.symm hj)]; exact h1,h2⟩
def RepX (K : PySem.W.Frag) (ι : List Addr) (H : Hp) (cls : Value) (d : Option Addr) (x : Ex) : Prop :=
  (∃ c,cls = .ref c ∧ PySem.W.nsIn K mainGlobals x.cls = some (some (.ref c))) ∧ (match x.fs with
    | [] => d = none
    | fs => ∃ dd vs,d = some dd ∧ H dd = some (.xd vs) ∧ RepP K ι H vs fs)
section
variable {α β γ δ : Type}
def Post (rep : List Addr → Hp → β → α → Prop) (K : PySem.W.Frag) (W : WX) (σ : L2.St) (ι : List Addr) (H : Hp) (Q : β → Hp → Prop) : R α → Prop
  | .ok a S' => ∀ ι' H' b, Gr ι ι' H H' → Sim K ι' S' H' → rep ι' H' b a → Q b H'
  | .exc x S' => ∀ ι' H' cls d, Gr ι ι' H H' → Sim K ι' S' H' → RepX K ι' H' cls d x → W cls d σ H'
  | .stuck => False
def PostO (rep : List Addr → Hp → β → α → Prop) (K : PySem.W.Frag) (ι : List Addr) (H : Hp) (Q : β → Hp → Prop) : Option (α × Sto) → Prop
  | some (a, S') => ∀ ι' H' b, Gr ι ι' H H' → Sim K ι' S' H' → rep ι' H' b a → Q b H'
  | none => False
variable {rep : List Addr → Hp → β → α → Prop} {rep' : List Addr → Hp → δ → γ → Prop} {K : PySem.W.Frag} {W : WX} {σ : L2.St} {ι ι1 : List Addr} {H H1 : Hp} {Q : β → Hp → Prop} {Q' : δ → Hp → Prop}
theorem Post.shift {r : R α} (h : Post rep K W σ ι H Q r) (g : Gr ι ι1 H H1) : Post rep K W σ ι1 H1 Q r := by
  cases r with
  | ok a S => exact fun ι' H' b g' => h ι' H' b (g.trans g')
  | exc x S => exact fun ι' H' c d g' => h ι' H' c d (g.trans g')
  | stuck => exact h
theorem PostO.shift {r : Option (α × Sto)} (h : PostO rep K ι H Q r) (g : Gr ι ι1 H H1) : PostO rep K ι1 H1 Q r := by
  cases r with
  | some a => exact fun ι' H' b g' => h ι' H' b (g.trans g')
  | none => exact h
theorem Q3 {r : Option (α × Sto)} (h : Post rep K W σ ι H Q (lift r)) : PostO rep K ι H Q r := by
  cases r with
  | some a => exact h
  | none => exact h
theorem Zu {r : R α} {k : α → Sto → R γ} (h : Post rep' K W σ ι H Q' (r.bind k)) :
    Post rep K W σ ι H (fun b H1 => ∃ ι1 S1 a, Gr ι ι1 H H1 ∧ Sim K ι1 S1 H1 ∧ rep ι1 H1 b a ∧ Post rep' K W σ ι1 H1 Q' (k a S1)) r := by
  cases r with
  | ok a S => exact fun ι1 H1 b g s r => ⟨ι1,S,a,g,s,r,h.shift g⟩
  | exc x S => exact h
  | stuck => exact h
theorem Post.imp {r : R α} {Q2 : β → Hp → Prop} (h : Post rep K W σ ι H Q r) (i : ∀ b H,Q b H → Q2 b H) : Post rep K W σ ι H Q2 r := by
  cases r with
  | ok a S => exact fun ι1 H1 b g s r => i _ _ (h ι1 H1 b g s r)
  | exc x S => exact h
  | stuck => exact h
end
abbrev FE := Env → Sto → R T
abbrev FT := Env → Sto → R Bool
abbrev FA := Env → Sto → R (List T)
def bEq (_ : List Addr) (_ : Hp) (b c : Bool) : Prop := b = c
structure Wc where
  w : WX
  j : L2.St → List Addr → Hp → Prop
  st : ∀ σ ι ι' H H', Gr ι ι' H H' → j σ ι H → j σ ι' H'
def Wt (W : WX) : Wc := ⟨W,fun _ _ _ => True,fun _ _ _ _ _ _ _ => trivial⟩
structure Ie (K : PySem.W.Frag) (W : Wc) (ι : List Addr) (H : Hp) (σ : L2.St) (ρ : Env) (Z : Sto) : Prop where
  len : σ.length = ρ.length
  env : Envs K ι H σ ρ
  sim : Sim K ι Z H
  jj : W.j σ ι H
theorem Ie.gr {K : PySem.W.Frag} {W : Wc} {ι ι' : List Addr} {H H' : Hp} {σ : L2.St} {ρ : Env} {Z Z' : Sto} (h : Ie K W ι H σ ρ Z) (g : Gr ι ι' H H') (s : Sim K ι' Z' H') : Ie K W ι' H' σ ρ Z' := ⟨h.len, h.env.gr g, s, W.st _ _ _ _ _ g h.jj⟩
def tF (K : PySem.W.Frag) (W : Wc) (f : FE) : TE := fun σ H Q => ∃ ι ρ Z,Ie K W ι H σ ρ Z ∧ Post (Rep K) K W.w σ ι H Q (f ρ Z)
def tFT (K : PySem.W.Frag) (W : Wc) (f : FT) : TT := fun σ H Q => ∃ ι ρ Z,Ie K W ι H σ ρ Z ∧ Post bEq K W.w σ ι H Q (f ρ Z)
def tFA (K : PySem.W.Frag) (W : Wc) (f : FA) : TA := fun σ H Q => ∃ ι ρ Z,Ie K W ι H σ ρ Z ∧ Post (Reps K) K W.w σ ι H Q (f ρ Z)
abbrev FJ (X : Cx) (K : PySem.W.Frag) (W : Wc) (e : Expr) (f : FE) : Prop := PE X e (tF K W f)
abbrev FTJ (X : Cx) (K : PySem.W.Frag) (W : Wc) (e : Expr) (f : FT) : Prop := PT X e (tFT K W f)
abbrev FWJ (X : Cx) (K : PySem.W.Frag) (W : Wc) (e : Expr) (f : FT) : Prop := PW X e (tFT K W f)
abbrev FAJ (X : Cx) (K : PySem.W.Frag) (W : Wc) (es : List Expr) (f : FA) : Prop := PA X es (tFA K W f)
theorem Uu {X : Cx} {e : Expr} {t t' : TE} (h : PE X e t) (i : ∀ σ H Q, t' σ H Q → t σ H Q) : PE X e t' := ⟨fun pins s σ H Q I q => h.run pins s σ H Q I (i _ _ _ q)⟩
theorem Zbu {X : Cx} {e : Expr} {t t' : TT} (h : PT X e t) (i : ∀ σ H Q, t' σ H Q → t σ H Q) : PT X e t' := ⟨fun pins s σ H Q I q => h.run pins s σ H Q I (i _ _ _ q)⟩
theorem Zmo {X : Cx} {e : Expr} {t t' : TT} (h : PW X e t) (i : ∀ σ H Q, t' σ H Q → t σ H Q) : PW X e t' := ⟨fun w pins s σ H Q I q => h.run w pins s σ H Q I (i _ _ _ q)⟩
theorem Zmp {X : Cx} {es : List Expr} {t t' : TA} (h : PA X es t) (i : ∀ σ H Q, t' σ H Q → t σ H Q) : PA X es t' := ⟨fun p pins s σ H Q I q => h.run p pins s σ H Q I (i _ _ _ q)⟩
theorem Jx {X : Cx} {st : Stmt} {t t' : TS} (h : PS X st t) (i : ∀ D σ H, t' D σ H → t D σ H) : PS X st t' := ⟨fun pins s σ H D I q => h.run pins s σ H D I (i _ _ _ q)⟩
theorem Zj3 {X : Cx} {st : List Stmt} {t t' : TS} (h : PSs X st t) (i : ∀ D σ H, t' D σ H → t D σ H) : PSs X st t' := ⟨fun pins s σ H D I q => h.run pins s σ H D I (i _ _ _ q)⟩
def eVar (i : Nat) : FE := fun ρ Z => match ρ[i]? with
  | some (some t) => .ok t Z
  | _ => .stuck
def eC (t : T) : FE := fun _ Z => .ok t Z
def eBin (g : T → T → Sto → Option (T × Sto)) (a b : FE) : FE := fun ρ Z => (a ρ Z).bind fun x Z1 => (b ρ Z1).bind fun y Z2 => lift (g x y Z2)
def eUn (g : T → Sto → Option (T × Sto)) (a : FE) : FE := fun ρ Z => (a ρ Z).bind fun x Z1 => lift (g x Z1)
def eIf (c : FT) (a b : FE) : FE := fun ρ Z => (c ρ Z).bind fun x Z1 => if x = true then a ρ Z1 else b ρ Z1
def aNil : FA := fun _ Z => .ok [] Z
def aCons (a : FE) (r : FA) : FA := fun ρ Z => (a ρ Z).bind fun x Z1 => (r ρ Z1).bind fun xs Z2 => .ok (x :: xs) Z2
section
variable {X : Cx} {K : PySem.W.Frag} {W : Wc} {a b c : Expr} {fa fb fc : FE} {pos : Pos}
theorem Zf {i : Nat} {x : PySem.Str} (h : PE X (.Name x pos) (tVar i)) : FJ X K W (.Name x pos) (eVar i) := Uu h fun σ H Q q => by
  obtain ⟨ι,ρ,Z,is,p⟩ := q
  unfold eVar at p
  split at p
  · rename_i t e
    obtain ⟨v,h1,h2⟩ := is.env i t e
    exact ⟨v,h1,p ι H v Gr.refl is.sim h2⟩
  · exact p.elim
theorem f_c {v : V} {t : T} (h : PE X a (tC v)) (r : ∀ ι H,Rep K ι H v t) : FJ X K W a (eC t) := Uu h fun σ H Q q => by
  obtain ⟨ι,ρ,Z,is,p⟩ := q
  exact p ι H v Gr.refl is.sim (r ι H)
theorem f_int {i j} : FJ X K W (.Constant (.int i) j pos) (eC (.int i)) := f_c pe_int fun _ _ => .int i
theorem f_bl {i j} : FJ X K W (.Constant (.bool i) j pos) (eC (.bl i)) := f_c pe_bl fun _ _ => .bl i
theorem Z04 {j} : FJ X K W (.Constant .none j pos) (eC .non) := f_c pe_non fun _ _ => .non
theorem Zo {x j} (l : List Nat) (e : x = S l := by rfl) : FJ X K W (.Constant (.str x) j pos) (eC (.str l)) := f_c pe_str fun _ _ => by rw [e]; exact .str l
def rF2 (K : PySem.W.Frag) (g : T → T → Sto → Option (T × Sto)) : R2 := fun x y H Q => ∃ ι Z tx ty,Sim K ι Z H ∧ Rep K ι H x tx ∧ Rep K ι H y ty ∧ PostO (Rep K) K ι H Q (g tx ty Z)
def rFC (K : PySem.W.Frag) (g : List T → Sto → Option (T × Sto)) : List V → Hp → VK → Prop := fun xs H Q => ∃ ι Z ts,Sim K ι Z H ∧ Reps K ι H xs ts ∧ PostO (Rep K) K ι H Q (g ts Z)
theorem Zli {r : R2} {g : T → T → Sto → Option (T × Sto)} (hr : ∀ x y H Q,rF2 K g x y H Q → r x y H Q) {σ : L2.St} {H : Hp} {Q : VK} (h : tF K W (eBin g fa fb) σ H Q) : tOp r (tF K W fa) (tF K W fb) σ H Q := by
  obtain ⟨ι,ρ,Z,is,p⟩ := h
  refine ⟨ι,ρ,Z,is,(Zu p).imp fun x H1 q => ?_⟩
  obtain ⟨ι1,Z1,tx,g1,s1,r1,p1⟩ := q
  refine ⟨ι1,ρ,Z1,is.gr g1 s1,(Zu p1).imp fun y H2 q2 => ?_⟩
  obtain ⟨ι2,Z2,ty,g2,s2,r2,p2⟩ := q2
  exact hr _ _ _ _ ⟨ι2,Z2,tx,ty,s2,r1.gr g2,r2,Q3 p2⟩
def OpF (X : Cx) (K : PySem.W.Frag) (f : Value → Value → Sem Value) (g : T → T → Sto → Option (T × Sto)) : Prop := OpR X f (rF2 K g)
theorem Wo {f : Value → Value → Sem Value} {r r' : R2} (h : OpR X f r) (i : ∀ x y H Q, r' x y H Q → r x y H Q) : OpR X f r' := fun pins s σ H x y v u Q I rx ry q => h pins s σ H x y v u Q I rx ry (i _ _ _ _ q)
theorem Q4 {f : Value} {r r' : List V → Hp → VK → Prop} (h : CallR X f r) (i : ∀ xs H Q, r' xs H Q → r xs H Q) : CallR X f r' := fun pins s σ H xs us Q I rs q => h pins s σ H xs us Q I rs (i _ _ _ q)
theorem Jm {f : Value → Value → Sem Value} {r r' : R2} (h : OpR X f r) (h' : OpR X f r') : OpR X f (rOr r r') := fun pins s σ H x y v u Q I rx ry q => q.elim (h pins s σ H x y v u Q I rx ry) (h' pins s σ H x y v u Q I rx ry)
theorem f_op {op : Operator} {g : T → T → Sto → Option (T × Sto)} (ho : OpF X K (binaryOp op) g) (ha : FJ X K W a fa) (hb : FJ X K W b fb) : FJ X K W (.BinOp a op b pos) (eBin g fa fb) :=
  Uu (pe_op ho ha hb) fun _ _ _ h => Zli (fun _ _ _ _ h => h) h
theorem We {op : CmpOp} {g : T → T → Sto → Option (T × Sto)} (ho : OpF X K (compareOp op) g) (ha : FJ X K W a fa) (hb : FJ X K W b fb) (hm : behindInMarks op b = false) : FJ X K W (.Compare a [op] [b] pos) (eBin g fa fb) :=
  Uu (pe_cmpR ho ha hb hm) fun _ _ _ h => Zli (fun _ _ _ _ h => h) h
theorem f_ix {g : T → T → Sto → Option (T × Sto)} (hr : IxR X (rF2 K g)) (ha : FJ X K W a fa) (hb : FJ X K W b fb) (hs : PlainIx b) : FJ X K W (.Subscript a b pos) (eBin g fa fb) :=
  Uu (pe_ix hr ha hb hs) fun _ _ _ h => Zli (fun _ _ _ _ h => h) h
theorem f_if {t : FT} (hc : FTJ X K W c t) (ha : FJ X K W a fa) (hb : FJ X K W b fb) : FJ X K W (.IfExp c a b pos) (eIf t fa fb) := Uu (pe_ifExp hc ha hb) fun σ H Q h => by
  obtain ⟨ι,ρ,Z,is,p⟩ := h
  refine ⟨ι,ρ,Z,is,(Zu p).imp fun x H1 q => ?_⟩
  obtain ⟨ι1,Z1,tx,g1,s1,r1,p1⟩ := q
  cases (show x = tx from r1)
  cases x with
  | true => exact ⟨ι1,ρ,Z1,is.gr g1 s1,p1⟩
  | false => exact ⟨ι1,ρ,Z1,is.gr g1 s1,p1⟩
theorem Zj : FAJ X K W [] aNil := Zmp pa_nil fun σ H Q h => by
  obtain ⟨ι,ρ,Z,is,p⟩ := h
  exact p ι H [] Gr.refl is.sim .nil
theorem Zg {es : List Expr} {fr : FA} (ha : FJ X K W a fa) (hr : FAJ X K W es fr) (hs : starEach (a :: es) X.env = (false,eval a X.env) :: starEach es X.env := by rfl) : FAJ X K W (a :: es) (aCons fa fr) := Zmp (pa_cons ha hr hs) fun σ H Q h => by
  obtain ⟨ι,ρ,Z,is,p⟩ := h
  refine ⟨ι,ρ,Z,is,(Zu p).imp fun x H1 q => ?_⟩
  obtain ⟨ι1,Z1,tx,g1,s1,r1,p1⟩ := q
  refine ⟨ι1,ρ,Z1,is.gr g1 s1,(Zu p1).imp fun y H2 q2 => ?_⟩
  obtain ⟨ι2,Z2,ty,g2,s2,r2,p2⟩ := q2
  exact p2 ι2 H2 _ Gr.refl s2 (.cons (r1.gr g2) r2)
end
def Lim : Nat := 1000000
theorem Zee : Lim ≤ sizeLine := by decide
@[irreducible] def Fuel : Nat := Lim + 2
theorem Jv : Fuel = Lim + 2 := by unfold Fuel; rfl
theorem Z3e {n : Nat} (h : n ≤ Lim) : n ≤ sizeLine := Nat.le_trans h Zee
def asList : T → Sto → Option (List T)
  | .loc i,Z => match Z[i]? with
    | some (.lst ts) => some ts
    | _ => none
  | .frl ts,_ => some ts
  | _,_ => none
theorem Nz {K : PySem.W.Frag} {ι : List Addr} {H : Hp} {Z : Sto} {v : V} {t : T} {ts : List T} (s : Sim K ι Z H) (r : Rep K ι H v t) (e : asList t Z = some ts) : ∃ a vs,v = .ref a ∧ SqL K H a vs ∧ Reps K ι H vs ts := by
  cases r with
  | loc h =>
    simp only [asList] at e
    split at e
    · rename_i ts' hz
      obtain ⟨a', h1, h2⟩ := s.at hz
      rw [h] at h1
      cases h1
      cases e
      obtain ⟨vs,h3,h4⟩ := h2
      exact ⟨_,vs,rfl,SqL.of h3,h4⟩
    · cases e
  | frl h r => cases e; exact ⟨_,_,rfl,h.sq,r⟩
  | _ => cases e
def truth : T → Sto → Option Bool
  | .bl b,_ => some b
  | .int i,_ => some (i != 0)
  | .non,_ => some false
  | .str l,_ => if l.length ≤ Lim then some (!l.isEmpty) else none
  | .tup ts,_ => some (!ts.isEmpty)
  | .loc i,Z => match Z[i]? with
    | some (.lst ts) => some (!ts.isEmpty)
    | some (.dk ts) => some (!ts.isEmpty)
    | _ => none
  | .frl ts,_ => some (!ts.isEmpty)
  | _,_ => none
theorem Z2f {α β : Type} {a : List α} {b : List β} (h : a.length = b.length) : a.isEmpty = b.isEmpty := by
  cases a <;> cases b <;> first | rfl | (simp at h)
theorem Z4i {K : PySem.W.Frag} {ι : List Addr} {H : Hp} {Z : Sto} {v : V} {t : T} {k : Bool} (s : Sim K ι Z H) (r : Rep K ι H v t) (e : truth t Z = some k) : TruV K v H k := by
  cases r with
  | non => cases e; rfl
  | bl b => cases e; rfl
  | int i => cases e; rfl
  | str l =>
    simp only [truth] at e
    split at e
    · rename_i h
      cases e
      refine ⟨by rw [S_len]; exact Z3e h,?_⟩
      rw [S_len]
      cases l with
      | nil => rfl
      | cons c l => simp; omega
    · cases e
  | tup h r => cases e; exact .inr (.inl ⟨_,h,by rw [Z2f r.length]⟩)
  | loc h =>
    simp only [truth] at e
    split at e
    · rename_i ts' hz
      obtain ⟨a', h1, h2⟩ := s.at hz
      rw [h] at h1
      cases h1
      cases e
      obtain ⟨vs,h3,h4⟩ := h2
      exact .inl ⟨vs,SqL.of h3,by rw [Z2f h4.length]⟩
    · rename_i ts' hz
      obtain ⟨a', h1, h2⟩ := s.at hz
      rw [h] at h1
      cases h1
      cases e
      obtain ⟨vs,h3,h4⟩ := h2
      exact .inr (.inr ⟨vs,h3,by rw [Z2f h4.length]⟩)
    · cases e
  | frl h r => cases e; exact .inl ⟨_,h.sq,by rw [Z2f r.length]⟩
  | ref a => cases e
  | ty n => cases e
  | lam h j => cases e
  | ktp h r => cases e
def eTru (f : FE) : FT := fun ρ Z => (f ρ Z).bind fun x Z1 => match truth x Z1 with
  | some b => .ok b Z1
  | none => .stuck
def tAnd (a b : FT) : FT := fun ρ Z => (a ρ Z).bind fun x Z1 => if x = true then b ρ Z1 else .ok false Z1
def tOr (a b : FT) : FT := fun ρ Z => (a ρ Z).bind fun x Z1 => if x = true then .ok true Z1 else b ρ Z1
def tNot (a : FT) : FT := fun ρ Z => (a ρ Z).bind fun x Z1 => .ok (!x) Z1
def eAnd (a b : FE) : FE := fun ρ Z => (a ρ Z).bind fun x Z1 => match truth x Z1 with
  | some true => b ρ Z1
  | some false => .ok x Z1
  | none => .stuck
def eOr (a b : FE) : FE := fun ρ Z => (a ρ Z).bind fun x Z1 => match truth x Z1 with
  | some true => .ok x Z1
  | some false => b ρ Z1
  | none => .stuck
def eNot (a : FE) : FE := fun ρ Z => (a ρ Z).bind fun x Z1 => match truth x Z1 with
  | some b => .ok (.bl (!b)) Z1
  | none => .stuck
section
variable {X : Cx} {K : PySem.W.Frag} {W : Wc} {a b c : Expr} {fa fb fc : FE} {ta tb : FT} {pos : Pos} {rest : List Expr}
theorem Yw (hK : X.K = K) (ha : FJ X K W a fa) (he : ∀ whole,isTrue a X.env whole = (do let v ← whole; standAt a.pos; holding [v] (truthy v)) := by intro _; rfl) : FTJ X K W a (eTru fa) := by
  subst hK
  refine Zbu (pt_truth ha he) fun σ H Q h => ?_
  obtain ⟨ι,ρ,Z,is,p⟩ := h
  refine ⟨ι,ρ,Z,is,(Zu p).imp fun x H1 q => ?_⟩
  obtain ⟨ι1,Z1,tx,g1,s1,r1,p1⟩ := q
  split at p1
  · rename_i k e
    exact ⟨k,Z4i s1 r1 e,p1 ι1 H1 k Gr.refl s1 rfl⟩
  · exact p1.elim
def eBl (f : FE) : FT := fun ρ Z => (f ρ Z).bind fun x Z1 => match x with
  | .bl b => .ok b Z1
  | _ => .stuck
theorem Zq {op : CmpOp} {g : T → T → Sto → Option (T × Sto)} (ho : OpF X K (compareOp op) g) (ha : FJ X K W a fa) (hb : FJ X K W b fb) (hm : behindInMarks op b = false) : FTJ X K W (.Compare a [op] [b] pos) (eBl (eBin g fa fb)) := by
  refine Zbu (pt_cmpR ho ha hb hm) fun σ H Q h => ?_
  obtain ⟨ι,ρ,Z,is,p⟩ := h
  refine Zli (fun _ _ _ _ h => h) ⟨ι,ρ,Z,is,(Zu p).imp fun x H1 q => ?_⟩
  obtain ⟨ι1,Z1,tx,g1,s1,r1,p1⟩ := q
  cases r1 with
  | bl b => exact ⟨b,rfl,p1 ι1 H1 b Gr.refl s1 rfl⟩
  | _ => exact p1.elim
theorem Wi (ha : FTJ X K W a ta) : FWJ X K W (.BoolOp .And [a] pos) ta := pw_and1 ha
theorem Jo (ha : FTJ X K W a ta) : FWJ X K W (.BoolOp .Or [a] pos) ta := pw_or1 ha
theorem V6 (ha : FTJ X K W a ta) (hb : FWJ X K W (.BoolOp .And (b :: rest) pos) tb) : FWJ X K W (.BoolOp .And (a :: b :: rest) pos) (tAnd ta tb) := Zmo (pw_and ha hb) fun σ H Q h => by
  obtain ⟨ι,ρ,Z,is,p⟩ := h
  refine ⟨ι,ρ,Z,is,(Zu p).imp fun x H1 q => ?_⟩
  obtain ⟨ι1,Z1,tx,g1,s1,r1,p1⟩ := q
  cases (show x = tx from r1)
  cases x with
  | true => exact ⟨ι1,ρ,Z1,is.gr g1 s1,p1⟩
  | false => exact p1 ι1 H1 _ Gr.refl s1 rfl
theorem Z3l (ha : FTJ X K W a ta) (hb : FWJ X K W (.BoolOp .Or (b :: rest) pos) tb) : FWJ X K W (.BoolOp .Or (a :: b :: rest) pos) (tOr ta tb) := Zmo (pw_or ha hb) fun σ H Q h => by
  obtain ⟨ι,ρ,Z,is,p⟩ := h
  refine ⟨ι,ρ,Z,is,(Zu p).imp fun x H1 q => ?_⟩
  obtain ⟨ι1,Z1,tx,g1,s1,r1,p1⟩ := q
  cases (show x = tx from r1)
  cases x with
  | true => exact p1 ι1 H1 _ Gr.refl s1 rfl
  | false => exact ⟨ι1,ρ,Z1,is.gr g1 s1,p1⟩
theorem U4 (ha : FTJ X K W a ta) : FTJ X K W (.UnaryOp .Not a pos) (tNot ta) := Zbu (pt_not ha) fun σ H Q h => by
  obtain ⟨ι,ρ,Z,is,p⟩ := h
  refine ⟨ι,ρ,Z,is,(Zu p).imp fun x H1 q => ?_⟩
  obtain ⟨ι1,Z1,tx,g1,s1,r1,p1⟩ := q
  cases (show x = tx from r1)
  exact p1 ι1 H1 _ Gr.refl s1 rfl
theorem Z0w {op} (h : FJ X K W a fa) : FJ X K W (.BoolOp op [a] pos) fa := pe_one h
theorem Z21 (hK : X.K = K) (ha : FJ X K W a fa) (hb : FJ X K W (.BoolOp .And (b :: rest) pos) fb) : FJ X K W (.BoolOp .And (a :: b :: rest) pos) (eAnd fa fb) := by
  subst hK
  refine Uu (pe_andT ha hb) fun σ H Q h => ?_
  obtain ⟨ι,ρ,Z,is,p⟩ := h
  refine ⟨ι,ρ,Z,is,(Zu p).imp fun x H1 q => ?_⟩
  obtain ⟨ι1,Z1,tx,g1,s1,r1,p1⟩ := q
  split at p1
  · rename_i e; exact ⟨true,Z4i s1 r1 e,ι1,ρ,Z1,is.gr g1 s1,p1⟩
  · rename_i e; exact ⟨false,Z4i s1 r1 e,p1 ι1 H1 _ Gr.refl s1 r1⟩
  · exact p1.elim
theorem f_or (hK : X.K = K) (ha : FJ X K W a fa) (hb : FJ X K W (.BoolOp .Or (b :: rest) pos) fb) : FJ X K W (.BoolOp .Or (a :: b :: rest) pos) (eOr fa fb) := by
  subst hK
  refine Uu (pe_orT ha hb) fun σ H Q h => ?_
  obtain ⟨ι,ρ,Z,is,p⟩ := h
  refine ⟨ι,ρ,Z,is,(Zu p).imp fun x H1 q => ?_⟩
  obtain ⟨ι1,Z1,tx,g1,s1,r1,p1⟩ := q
  split at p1
  · rename_i e; exact ⟨true,Z4i s1 r1 e,p1 ι1 H1 _ Gr.refl s1 r1⟩
  · rename_i e; exact ⟨false,Z4i s1 r1 e,ι1,ρ,Z1,is.gr g1 s1,p1⟩
  · exact p1.elim
theorem Zj4 (hK : X.K = K) (ha : FJ X K W a fa) : FJ X K W (.UnaryOp .Not a pos) (eNot fa) := by
  subst hK
  refine Uu (pe_notT ha) fun σ H Q h => ?_
  obtain ⟨ι,ρ,Z,is,p⟩ := h
  refine ⟨ι,ρ,Z,is,(Zu p).imp fun x H1 q => ?_⟩
  obtain ⟨ι1,Z1,tx,g1,s1,r1,p1⟩ := q
  split at p1
  · rename_i k e; exact ⟨k,Z4i s1 r1 e,p1 ι1 H1 _ Gr.refl s1 (.bl _)⟩
  · exact p1.elim
end
end Fx
set_option maxHeartbeats 4000000
namespace Fx
open PySem PySem.Spec PyProof.Rows L2 SX Ap
variable [Tb]
section
variable {K : PySem.W.Frag} {ι : List Addr} {H : Hp} {Q : VK} {Z : Sto} {t : T} {ts : List T} {v : V} {vs : List V}
theorem Yl (p : PostO (Rep K) K ι H Q (some (t,Z))) (s : Sim K ι Z H) (r : Rep K ι H v t) : Q v H := p ι H v Gr.refl s r
theorem Sim.newL (s : Sim K ι Z H) (r : Reps K ι H vs ts) {p : Addr} (n : H p = none) : Sim K (ι ++ [p]) (Z ++ [.lst ts]) (upd H p (.lst vs)) := s.new n ⟨vs,upd_same,r.gr (Gr.new n)⟩
theorem Zh1 (s : Sim K ι Z H) {p : Addr} {H' : Hp} : Rep K (ι ++ [p]) H' (.ref p) (.loc Z.length) := .loc (by rw [← s.len]; simp)
theorem Zco (q : PostO (Rep K) K ι H Q (some (.loc Z.length,Z ++ [.lst ts]))) (s : Sim K ι Z H) (r : Reps K ι H vs ts) : ∀ p,H p = none → Q (.ref p) (upd H p (.lst vs)) := fun p n =>
  q (ι ++ [p]) _ _ (Gr.new n) (s.newL r n) (Zh1 s)
theorem Zj5 (q : PostO (Rep K) K ι H Q (some (.tup ts,Z))) (s : Sim K ι Z H) (r : Reps K ι H vs ts) : ∀ p,H p = none → Q (.ref p) (upd H p (.tup vs)) := fun p n =>
  q ι _ _ (Gr.new0 n) (s.same (Z0x n)) (.tup (SqT.of upd_same) (r.gr (Gr.new0 n)))
theorem Rep.tupE (r : Rep K ι H v (.tup ts)) : ∃ a vs,v = .ref a ∧ SqT K H a vs ∧ Reps K ι H vs ts := by
  cases r with
  | tup h r => exact ⟨_,_,rfl,h,r⟩
theorem Z05 {i : Nat} {ts : List T} (s : Sim K ι Z H) (e : Z[i]? = some (.lst ts)) (r : Rep K ι H v (.loc i)) : ∃ a vs,v = .ref a ∧ ι[i]? = some a ∧ H a = some (.lst vs) ∧ Reps K ι H vs ts := by
  cases r with
  | loc h =>
    obtain ⟨a,h1,vs,h2,h3⟩ := s.at e
    rw [h] at h1; cases h1
    exact ⟨_,vs,rfl,h,h2,h3⟩
end
def getL (Z : Sto) (i : Nat) : Option (List T) := match Z[i]? with
  | some (.lst ts) => some ts
  | _ => none
theorem Vg {Z : Sto} {i : Nat} {ts : List T} (h : getL Z i = some ts) : Z[i]? = some (.lst ts) := by
  unfold getL at h
  split at h
  · rename_i ts' e; cases h; exact e
  · cases h
def gAdd : T → T → Sto → Option (T × Sto)
  | .int i,.int j,Z => some (.int (i + j),Z)
  | .str a,.str b,Z => if a.length + b.length ≤ Lim then some (.str (a ++ b),Z) else none
  | .tup a,.tup b,Z => if a.length + b.length ≤ Lim then some (.tup (a ++ b),Z) else none
  | .loc i,.loc j,Z => match getL Z i,getL Z j with
    | some a,some b => if a.length + b.length ≤ Lim then some (.loc Z.length,Z ++ [.lst (a ++ b)]) else none
    | _,_ => none
  | _,_,_ => none
def gSub : T → T → Sto → Option (T × Sto)
  | .int i,.int j,Z => some (.int (i - j),Z)
  | _,_,_ => none
def mulOk (i j : Int) : Bool := (decide (-(2 ^ 64) < i) && decide (i < 2 ^ 64)) || (decide (-(2 ^ 64) < j) && decide (j < 2 ^ 64))
def gMul : T → T → Sto → Option (T × Sto)
  | .int i,.int j,Z => if mulOk i j = true then some (.int (i * j),Z) else none
  | .str l,.int k,Z => if -100000 ≤ k ∧ k ≤ 100000 ∧ l.length * k.toNat ≤ 100000 then some (.str (repL k.toNat l),Z) else none
  | .loc i,.int k,Z => match getL Z i with
    | some a => if -100000 ≤ k ∧ k ≤ 100000 ∧ a.length * k.toNat ≤ Lim then some (.loc Z.length,Z ++ [.lst (List.replicate k.toNat a).flatten]) else none
    | _ => none
  | _,_,_ => none
def gDiv : T → T → Sto → Option (T × Sto)
  | .int i,.int j,Z => if 0 < j ∧ j < 2 ^ 200 then some (.int (i / j),Z) else none
  | _,_,_ => none
def gMod : T → T → Sto → Option (T × Sto)
  | .int i,.int j,Z => if 0 < j then some (.int (i % j),Z) else none
  | _,_,_ => none
def gPow : T → T → Sto → Option (T × Sto)
  | .int i,.int j,Z => if 0 ≤ j ∧ j ≤ 1000000 ∧ i.natAbs < 2 ^ 64 then some (.int (i ^ j.toNat),Z) else none
  | _,_,_ => none
theorem Reps.replicate {K : PySem.W.Frag} {ι : List Addr} {H : Hp} {vs : List V} {ts : List T} (r : Reps K ι H vs ts) : ∀ n : Nat,Reps K ι H (List.replicate n vs).flatten (List.replicate n ts).flatten
  | 0 => .nil
  | n + 1 => by
    rw [List.replicate_succ,List.replicate_succ,List.flatten_cons,List.flatten_cons]
    exact r.append (r.replicate n)
theorem Zp2 (a b : List Nat) : S a ++ S b = S (a ++ b) := by
  show (⟨a.toArray ++ b.toArray⟩ : PySem.Str) = ⟨(a ++ b).toArray⟩
  simp
section
variable {X : Cx} {K : PySem.W.Frag}
theorem Z2g : OpF X K (binaryOp .Sub) gSub := Wo op_sub fun x y H Q h => by
  obtain ⟨ι,Z,tx,ty,s,rx,ry,p⟩ := h
  unfold gSub at p
  split at p
  · cases rx; cases ry; exact ⟨_,_,rfl,rfl,Yl p s (.int _)⟩
  · exact p.elim
theorem Zi5 : OpF X K (binaryOp .Mod) gMod := Wo op_mod fun x y H Q h => by
  obtain ⟨ι,Z,tx,ty,s,rx,ry,p⟩ := h
  unfold gMod at p
  split at p
  · split at p
    · cases rx; cases ry; exact ⟨_,_,rfl,rfl,by assumption,Yl p s (.int _)⟩
    · exact p.elim
  · exact p.elim
theorem Znh : OpF X K (binaryOp .FloorDiv) gDiv := Wo op_fdivW fun x y H Q h => by
  obtain ⟨ι,Z,tx,ty,s,rx,ry,p⟩ := h
  unfold gDiv at p
  split at p
  · split at p
    · rename_i hj
      cases rx; cases ry; exact ⟨_,_,rfl,rfl,wide_div (b := 200) hj.1 (by have := hj.1; have := hj.2; omega) (by decide) (by decide),Yl p s (.int _)⟩
    · exact p.elim
  · exact p.elim
theorem o_pow : OpF X K (binaryOp .Pow) gPow := Wo op_pow fun x y H Q h => by
  obtain ⟨ι,Z,tx,ty,s,rx,ry,p⟩ := h
  unfold gPow at p
  split at p
  · split at p
    · cases rx; cases ry; exact ⟨_,_,rfl,rfl,by assumption,Yl p s (.int _)⟩
    · exact p.elim
  · exact p.elim
theorem Yd (hK : X.K = K) : OpF X K (binaryOp .Add) gAdd := by
  subst hK
  refine Wo (Jm (Jm op_add op_add_str) (Jm op_catA op_cat)) fun x y H Q h => ?_
  obtain ⟨ι,Z,tx,ty,s,rx,ry,p⟩ := h
  unfold gAdd at p
  split at p
  · cases rx; cases ry; exact .inl (.inl ⟨_,_,rfl,rfl,Yl p s (.int _)⟩)
  · split at p
    · rename_i hz
      cases rx; cases ry
      exact .inl (.inr ⟨_,_,rfl,rfl,by rw [S_len,S_len]; exact Z3e hz,by rw [Zp2]; exact Yl p s (.str _)⟩)
    · exact p.elim
  · split at p
    · rename_i hz
      obtain ⟨a,xs,rfl,ha,ra⟩ := rx.tupE
      obtain ⟨b,ys,rfl,hb,rb⟩ := ry.tupE
      refine .inr (.inl ⟨a,b,xs,ys,rfl,rfl,ha,hb,by rw [ra.length,rb.length]; exact Z3e hz,fun e => ?_,fun _ e => ?_,fun _ _ => Zj5 p s (ra.append rb)⟩)
      · subst e; cases ra; exact Yl p s (by rw [List.nil_append]; exact ry)
      · subst e; cases rb; exact Yl p s (by rw [List.append_nil]; exact rx)
    · exact p.elim
  · split at p
    · rename_i a b e1 e2
      split at p
      · rename_i hz
        obtain ⟨x,xs,rfl,_,hx,r1⟩ := Z05 s (Vg e1) rx
        obtain ⟨y,ys,rfl,_,hy,r2⟩ := Z05 s (Vg e2) ry
        exact .inr (.inr ⟨x,y,xs,ys,rfl,rfl,hx,hy,by rw [r1.length,r2.length]; exact Z3e hz,Zco p s (r1.append r2)⟩)
      · exact p.elim
    · exact p.elim
  · exact p.elim
theorem Zni {i j : Int} (h : mulOk i j = true) : CMul i j := by
  unfold mulOk at h
  rw [Bool.or_eq_true,Bool.and_eq_true,Bool.and_eq_true] at h
  rcases h with ⟨a,b⟩ | ⟨a,b⟩
  · exact .inl ⟨of_decide_eq_true a,of_decide_eq_true b⟩
  · exact .inr ⟨of_decide_eq_true a,of_decide_eq_true b⟩
theorem Qw : OpF X K (binaryOp .Mult) gMul := by
  refine Wo (Jm op_mul (Jm Zi3 op_rep)) fun x y H Q h => ?_
  obtain ⟨ι,Z,tx,ty,s,rx,ry,p⟩ := h
  unfold gMul at p
  split at p
  · split at p
    · rename_i hc
      cases rx; cases ry; exact .inl ⟨_,_,rfl,rfl,Zni hc,Yl p s (.int _)⟩
    · exact p.elim
  · split at p
    · rename_i hz
      cases rx; cases ry
      exact .inr (.inl ⟨_,_,rfl,rfl,hz.1,hz.2.1,hz.2.2,Yl p s (.str _)⟩)
    · exact p.elim
  · split at p
    · rename_i a e1
      split at p
      · rename_i hz
        obtain ⟨x,xs,rfl,_,hx,r1⟩ := Z05 s (Vg e1) rx
        cases ry
        refine .inr (.inr ⟨x,_,xs,rfl,rfl,hx,by omega,by omega,by rw [r1.length]; exact Z3e hz.2.2,Zco p s (r1.replicate _)⟩)
      · exact p.elim
    · exact p.elim
  · exact p.elim
end
def eqS : T → T → Option Bool
  | .non,.non => some true | .non,.int _ => some false | .int _,.non => some false | .non,.bl _ => some false | .bl _,.non => some false | .non,.str _ => some false | .str _,.non => some false
  | .int a,.int b => some (decide (a = b)) | .bl a,.bl b => some (decide (a = b)) | .str a,.str b => some (decide (a = b))
  | .int _,.str _ => some false | .str _,.int _ => some false | .bl _,.str _ => some false | .str _,.bl _ => some false
  | _,_ => none
def toD : Nat → Sto → T → Option PyData
  | _,_,.non => some .none
  | _,_,.bl b => some (.bool b)
  | _,_,.int i => some (.int i)
  | _,_,.str l => some (.str (S l))
  | 0,_,_ => none
  | n + 1,Z,.tup ts => (ts.mapM (toD n Z)).map .tuple
  | n + 1,Z,.frl ts => (ts.mapM (toD n Z)).map .list
  | n + 1,Z,.loc i => (getL Z i).bind fun ts => (ts.mapM (toD n Z)).map .list
  | _ + 1,_,_ => none
theorem Z2h {α β : Type} {f : α → Option β} : ∀ {l : List α} {m : List β},l.mapM f = some m → Paired (fun a b => f a = some b) l m
  | [],m,h => by
    have : m = [] := by simpa using h.symm
    subst this; exact .nil
  | a :: l,m,h => by
    rw [List.mapM_cons] at h
    cases h1 : f a with
    | none => rw [h1] at h; cases h
    | some b =>
      rw [h1] at h
      cases h2 : l.mapM f with
      | none => rw [h2] at h; cases h
      | some m' =>
        rw [h2] at h
        have : m = b :: m' := (Option.some.inj h).symm
        subst this
        exact .cons h1 (Z2h h2)
section
variable {K : PySem.W.Frag} {ι : List Addr} {H : Hp} {Z : Sto}
theorem Zj6 (s : Sim K ι Z H) : ∀ (n : Nat) {v : V} {t : T} {d : PyData},Rep K ι H v t → toD n Z t = some d → Dp K H v d
  | n,v,t,d,r,e => by
    have all : ∀ m,n = m + 1 → ∀ {vs : List V} {ts : List T} {ds : List PyData},Reps K ι H vs ts → Paired (fun a b => toD m Z a = some b) ts ds → DpAll K H vs ds := by
      intro m hm vs ts ds r p
      induction p generalizing vs with
      | nil => cases r; exact .nil
      | cons h _ ih =>
        cases r with
        | cons r1 r2 => exact .cons (Zj6 s m r1 h) (ih r2)
    cases r with
    | non => simp only [toD,Option.some.injEq] at e; subst e; exact .non
    | bl b => simp only [toD,Option.some.injEq] at e; subst e; exact .bl b
    | int i => simp only [toD,Option.some.injEq] at e; subst e; exact .int i
    | str l => simp only [toD,Option.some.injEq] at e; subst e; exact .str _
    | tup h r =>
      cases n with
      | zero => simp [toD] at e
      | succ n =>
        simp only [toD] at e
        obtain ⟨ds,h1,rfl⟩ := Option.map_eq_some_iff.mp e
        exact .tup h (all n rfl r (Z2h h1))
    | frl h r =>
      cases n with
      | zero => simp [toD] at e
      | succ n =>
        simp only [toD] at e
        obtain ⟨ds,h1,rfl⟩ := Option.map_eq_some_iff.mp e
        exact .lst h.sq (all n rfl r (Z2h h1))
    | loc h =>
      cases n with
      | zero => simp [toD] at e
      | succ n =>
        simp only [toD] at e
        obtain ⟨ts,h0,e⟩ := Option.bind_eq_some_iff.mp e
        obtain ⟨ds,h1,rfl⟩ := Option.map_eq_some_iff.mp e
        obtain ⟨a,vs,hv,_,h2,r⟩ := Z05 s (Vg h0) (.loc h)
        cases hv
        exact .lst (SqL.of h2) (all n rfl r (Z2h h1))
    | ref a => cases n <;> simp [toD] at e
    | ty n' => cases n <;> simp [toD] at e
    | lam h j => cases n <;> simp [toD] at e
    | ktp h r => cases n <;> simp [toD] at e
  termination_by n => n
end
def gEqD (x y : T) (Z : Sto) : Option Bool := match toD 16 Z x,toD 16 Z y with
  | some d,some e => if SeqAt.shaped d = true ∧ SeqAt.shaped e = true then some (PyData.eqv d e) else none
  | _,_ => none
def gEqB (x y : T) (Z : Sto) : Option Bool := match eqS x y with
  | some b => some b
  | none => gEqD x y Z
def gEq (x y : T) (Z : Sto) : Option (T × Sto) := (gEqB x y Z).map fun b => (.bl b,Z)
def gNe (x y : T) (Z : Sto) : Option (T × Sto) := (gEqB x y Z).map fun b => (.bl (!b),Z)
section
variable {X : Cx} {K : PySem.W.Frag} {ι : List Addr} {H : Hp}
theorem Znf {a b : List Nat} : decide (V.str (S a) = V.str (S b)) = decide (a = b) := by
  by_cases h : a = b
  · rw [h]; simp
  · rw [decide_eq_false h,decide_eq_false]
    intro e
    exact h (S_inj (V.str.inj e))
theorem Zmq {x y : V} {tx ty : T} {b : Bool} (rx : Rep K ι H x tx) (ry : Rep K ι H y ty) (e : eqS tx ty = some b) : scal x y = true ∧ decide (x = y) = b := by
  cases rx <;> cases ry <;> simp only [eqS,Option.some.injEq] at e <;> first | (subst e; refine ⟨rfl,?_⟩; first | exact Znf | simp) | (cases e)
theorem Zmr {x y : V} {tx ty : T} {Z : Sto} {b : Bool} (s : Sim K ι Z H) (rx : Rep K ι H x tx) (ry : Rep K ι H y ty) (e : gEqD tx ty Z = some b) : ∃ d e', Dp K H x d ∧ Dp K H y e' ∧ SeqAt.shaped d = true ∧ SeqAt.shaped e' = true ∧ PyData.eqv d e' = b := by
  unfold gEqD at e
  split at e
  · rename_i d d' h1 h2
    split at e
    · rename_i h
      cases e
      exact ⟨d, d', Zj6 s 16 rx h1, Zj6 s 16 ry h2, h.1, h.2, rfl⟩
    · cases e
  · cases e
theorem o_eq (hu : X.A.units + 64 < cLine) (hK : X.K = K) : OpF X K (compareOp .Eq) gEq := by
  subst hK
  refine Wo (Jm op_eq (op_eqD hu)) fun x y H Q h => ?_
  obtain ⟨ι,Z,tx,ty,s,rx,ry,p⟩ := h
  cases e : gEqB tx ty Z with
  | none => simp only [gEq,e] at p; exact p.elim
  | some b =>
    simp only [gEq,e,Option.map_some] at p
    unfold gEqB at e
    split at e
    · rename_i b' e'
      cases e
      obtain ⟨h1, h2⟩ := Zmq rx ry e'
      exact .inl ⟨h1,by rw [h2]; exact Yl p s (.bl _)⟩
    · obtain ⟨d, d', h1, h2, h3, h4, h5⟩ := Zmr s rx ry e
      exact .inr ⟨d, d', h1, h2, h3, h4, by rw [h5]; exact Yl p s (.bl _)⟩
theorem o_ne (hu : X.A.units + 64 < cLine) (hK : X.K = K) : OpF X K (compareOp .NotEq) gNe := by
  subst hK
  refine Wo (Jm op_ne (op_neD hu)) fun x y H Q h => ?_
  obtain ⟨ι,Z,tx,ty,s,rx,ry,p⟩ := h
  cases e : gEqB tx ty Z with
  | none => simp only [gNe,e] at p; exact p.elim
  | some b =>
    simp only [gNe,e,Option.map_some] at p
    unfold gEqB at e
    split at e
    · rename_i b' e'
      cases e
      obtain ⟨h1, h2⟩ := Zmq rx ry e'
      exact .inl ⟨h1,by rw [h2]; exact Yl p s (.bl _)⟩
    · obtain ⟨d, d', h1, h2, h3, h4, h5⟩ := Zmr s rx ry e
      exact .inr ⟨d, d', h1, h2, h3, h4, by rw [h5]; exact Yl p s (.bl _)⟩
end
def gLt : T → T → Sto → Option (T × Sto)
  | .int i,.int j,Z => some (.bl (decide (i < j)),Z)
  | .str a,.str b,Z => some (.bl (decide (a < b)),Z)
  | _,_,_ => none
def gLe : T → T → Sto → Option (T × Sto)
  | .int i,.int j,Z => some (.bl (decide (i ≤ j)),Z)
  | _,_,_ => none
def gGt : T → T → Sto → Option (T × Sto)
  | .int i,.int j,Z => some (.bl (decide (j < i)),Z)
  | _,_,_ => none
def gGe : T → T → Sto → Option (T × Sto)
  | .int i,.int j,Z => some (.bl (decide (j ≤ i)),Z)
  | _,_,_ => none
def isNon : T → Bool
  | .non => true
  | _ => false
def gIs : T → T → Sto → Option (T × Sto)
  | x,.non,Z => some (.bl (isNon x),Z)
  | _,_,_ => none
def gIsNot : T → T → Sto → Option (T × Sto)
  | x,.non,Z => some (.bl (!isNon x),Z)
  | _,_,_ => none
def flatT : T → Bool
  | .non => true | .bl _ => true | .int _ => true | .str _ => true | _ => false
def eqT : T → T → Bool
  | .non,.non => true
  | .bl a,.bl b => a == b
  | .bl a,.int b => (if a then 1 else 0) == b
  | .int a,.bl b => a == (if b then 1 else 0)
  | .int a,.int b => a == b
  | .str a,.str b => decide (b = a)
  | _,_ => false
def inT (x : T) (ts : List T) : Bool := ts.any fun y => eqT y x
def asSeq : T → Sto → Option (List T)
  | .tup ts,_ => some ts
  | t,Z => asList t Z
def gInB : T → T → Sto → Option Bool
  | .str [c],.str l,_ => some (decide (c ∈ l))
  | x,y,Z => match asSeq y Z with
    | some ts => if flatT x = true ∧ ts.all flatT = true then some (inT x ts) else none
    | none => none
def gIn (x y : T) (Z : Sto) : Option (T × Sto) := (gInB x y Z).map fun b => (.bl b,Z)
def gNotIn (x y : T) (Z : Sto) : Option (T × Sto) := (gInB x y Z).map fun b => (.bl (!b),Z)
section
variable {K : PySem.W.Frag} {ι : List Addr} {H : Hp} {Z : Sto}
theorem Z6l {v : V} {t : T} {ts : List T} (s : Sim K ι Z H) (r : Rep K ι H v t) (e : asSeq t Z = some ts) : ∃ a vs,v = .ref a ∧ (SqL K H a vs ∨ SqT K H a vs) ∧ Reps K ι H vs ts := by
  cases t with
  | tup us =>
    cases e
    obtain ⟨a,vs,rfl,h,r⟩ := r.tupE
    exact ⟨a,vs,rfl,.inr h,r⟩
  | _ =>
    obtain ⟨a,vs,rfl,h,r⟩ := Nz s r (by simpa [asSeq] using e)
    exact ⟨a,vs,rfl,.inl h,r⟩
theorem Z5r {v : V} {t : T} (r : Rep K ι H v t) : flatV v = flatT t := by cases r <;> rfl
theorem Zp3 {v w : V} {t u : T} (r : Rep K ι H v t) (q : Rep K ι H w u) (h : flatT t = true) (h2 : flatT u = true) : eqV v w = eqT t u := by
  cases r <;> cases q <;> first | rfl | (exact eqV_S _ _) | (exact absurd h Bool.false_ne_true) | (exact absurd h2 Bool.false_ne_true)
theorem Zh2 : ∀ {vs : List V} {ts : List T},Reps K ι H vs ts → vs.all flatV = ts.all flatT
  | _,_,.nil => rfl
  | _,_,.cons r q => by rw [List.all_cons,List.all_cons,Z5r r,Zh2 q]
theorem Zms {x : V} {t : T} (r : Rep K ι H x t) (h : flatT t = true) : ∀ {vs : List V} {ts : List T},Reps K ι H vs ts → ts.all flatT = true → inV x vs = inT t ts
  | _,_,.nil,_ => rfl
  | _, _, .cons r' q, hh => by
    rw [List.all_cons,Bool.and_eq_true] at hh
    show (eqV _ x || inV x _) = (eqT _ t || inT t _)
    rw [Zp3 r' r hh.1 h, Zms r h q hh.2]
theorem Zmt {x y : V} {tx ty : T} {b : Bool} (s : Sim K ι Z H) (rx : Rep K ι H x tx) (ry : Rep K ι H y ty) (e : gInB tx ty Z = some b) :
    (∃ (c : Nat) (z : PySem.Str),x = .str ⟨#[c]⟩ ∧ y = .str z ∧ decide (c ∈ z.cps.toList) = b) ∨ ∃ p xs,y = .ref p ∧ (SqL K H p xs ∨ SqT K H p xs) ∧ flatV x = true ∧ xs.all flatV = true ∧ inV x xs = b := by
  unfold gInB at e
  split at e
  · cases e; cases rx; cases ry
    exact .inl ⟨_,_,rfl,rfl,by simp [S]⟩
  · split at e
    · rename_i ts h
      split at e
      · rename_i hf
        cases e
        obtain ⟨a,vs,rfl,hq,r⟩ := Z6l s ry h
        exact .inr ⟨a,vs,rfl,hq,(Z5r rx).trans hf.1,(Zh2 r).trans hf.2,Zms rx hf.1 r hf.2⟩
      · cases e
    · cases e
end
section
variable {X : Cx} {K : PySem.W.Frag}
theorem o_lt : OpF X K (compareOp .Lt) gLt := by
  refine Wo (Jm op_lt op_lt_str) fun x y H Q h => ?_
  obtain ⟨ι,Z,tx,ty,s,rx,ry,p⟩ := h
  unfold gLt at p
  split at p
  · cases rx; cases ry; exact .inl ⟨_,_,rfl,rfl,Yl p s (.bl _)⟩
  · cases rx; cases ry; exact .inr ⟨_,_,rfl,rfl,Yl p s (.bl _)⟩
  · exact p.elim
theorem Zh3 {ι : List Addr} {H : Hp} {v : V} {t : T} (r : Rep K ι H v t) : decide (v = .non) = isNon t := by cases r <;> rfl
theorem o_is : OpF X K (compareOp .Is) gIs := Wo op_isN fun x y H Q h => by
  obtain ⟨ι,Z,tx,ty,s,rx,ry,p⟩ := h
  unfold gIs at p
  split at p
  · cases ry; exact ⟨rfl,by rw [Zh3 rx]; exact Yl p s (.bl _)⟩
  · exact p.elim
theorem Zj7 : OpF X K (compareOp .IsNot) gIsNot := Wo op_notN fun x y H Q h => by
  obtain ⟨ι,Z,tx,ty,s,rx,ry,p⟩ := h
  unfold gIsNot at p
  split at p
  · cases ry; exact ⟨rfl,by rw [Zh3 rx]; exact Yl p s (.bl _)⟩
  · exact p.elim
theorem o_in (hK : X.K = K) : OpF X K (compareOp .In) gIn := by
  subst hK
  refine Wo (Jm op_in_sign op_in_seq) fun x y H Q h => ?_
  obtain ⟨ι,Z,tx,ty,s,rx,ry,p⟩ := h
  cases e : gInB tx ty Z with
  | none => simp only [gIn,e] at p; exact p.elim
  | some b =>
    simp only [gIn,e,Option.map_some] at p
    have q := Yl p s (.bl b)
    rcases Zmt s rx ry e with ⟨c,z,rfl,rfl,hb⟩ | ⟨a,xs,rfl,h1,h2,h3,hb⟩
    · exact .inl ⟨c,z,rfl,rfl,by rw [hb]; exact q⟩
    · exact .inr ⟨a,xs,rfl,h1,h2,h3,by rw [hb]; exact q⟩
theorem Znj (hK : X.K = K) : OpF X K (compareOp .NotIn) gNotIn := by
  subst hK
  refine Wo (Jm op_notIn_sign op_notIn_seq) fun x y H Q h => ?_
  obtain ⟨ι,Z,tx,ty,s,rx,ry,p⟩ := h
  cases e : gInB tx ty Z with
  | none => simp only [gNotIn,e] at p; exact p.elim
  | some b =>
    simp only [gNotIn,e,Option.map_some] at p
    have q := Yl p s (.bl (!b))
    rcases Zmt s rx ry e with ⟨c,z,rfl,rfl,hb⟩ | ⟨a,xs,rfl,h1,h2,h3,hb⟩
    · exact .inl ⟨c,z,rfl,rfl,by rw [hb]; exact q⟩
    · exact .inr ⟨a,xs,rfl,h1,h2,h3,by rw [hb]; exact q⟩
end
def eChain (g g' : T → T → Sto → Option (T × Sto)) (a b c : FE) : FE := fun ρ Z => (a ρ Z).bind fun x Z1 => (b ρ Z1).bind fun y Z2 => (lift (g x y Z2)).bind fun z Z3 => match z with
  | .bl true => (c ρ Z3).bind fun w Z4 => lift (g' y w Z4)
  | .bl false => .ok (.bl false) Z3
  | _ => .stuck
section
variable {X : Cx} {K : PySem.W.Frag} {W : Wc} {a b c : Expr} {fa fb fc : FE} {pos : Pos} {op op' : CmpOp} {g g' : T → T → Sto → Option (T × Sto)}
theorem Zh4 {σ : L2.St} {H : Hp} {Q : VK} (h : tF K W (eChain g g' fa fb fc) σ H Q) : tChain (rF2 K g) (rF2 K g') (tF K W fa) (tF K W fb) (tF K W fc) σ H Q := by
  obtain ⟨ι,ρ,Z,is,p⟩ := h
  refine ⟨ι,ρ,Z,is,(Zu p).imp fun x H1 q => ?_⟩
  obtain ⟨ι1,Z1,tx,g1,s1,r1,p1⟩ := q
  refine ⟨ι1,ρ,Z1,is.gr g1 s1,(Zu p1).imp fun y H2 q2 => ?_⟩
  obtain ⟨ι2,Z2,ty,g2,s2,r2,p2⟩ := q2
  refine ⟨ι2,Z2,tx,ty,s2,r1.gr g2,r2,Q3 (W := W.w) (σ := σ) ((Zu p2).imp fun z H3 q3 => ?_)⟩
  obtain ⟨ι3,Z3,tz,g3,s3,r3,p3⟩ := q3
  split at p3
  · cases r3
    refine ⟨true,rfl,?_⟩
    rw [if_pos rfl]
    refine ⟨ι3,ρ,Z3,is.gr ((g1.trans g2).trans g3) s3,(Zu p3).imp fun w H4 q4 => ?_⟩
    obtain ⟨ι4,Z4,tw,g4,s4,r4,p4⟩ := q4
    exact ⟨ι4,Z4,ty,tw,s4,(r2.gr g3).gr g4,r4,Q3 p4⟩
  · cases r3
    refine ⟨false,rfl,?_⟩
    rw [if_neg Bool.false_ne_true]
    exact p3 ι3 H3 _ Gr.refl s3 (.bl false)
  · exact p3.elim
theorem Zcp (ho : OpF X K (compareOp op) g) (ho' : OpF X K (compareOp op') g') (ha : FJ X K W a fa) (hb : FJ X K W b fb) (hc : FJ X K W c fc) (hm : lastMarks [op, op'] [b, c] = false := by with_unfolding_all rfl) :
    FJ X K W (.Compare a [op, op'] [b, c] pos) (eChain g g' fa fb fc) := Uu (pe_chain ho ho' ha hb hc hm) fun _ _ _ h => Zh4 h
theorem Zh5 (ho : OpF X K (compareOp op) g) (ho' : OpF X K (compareOp op') g') (ha : FJ X K W a fa) (hb : FJ X K W b fb) (hc : FJ X K W c fc) (hm : lastMarks [op, op'] [b, c] = false := by with_unfolding_all rfl) :
    FTJ X K W (.Compare a [op, op'] [b, c] pos) (eBl (eChain g g' fa fb fc)) := by
  refine Zbu (pt_chain ho ho' ha hb hc hm) fun σ H Q h => ?_
  obtain ⟨ι,ρ,Z,is,p⟩ := h
  refine Zh4 ⟨ι,ρ,Z,is,(Zu p).imp fun x H1 q => ?_⟩
  obtain ⟨ι1,Z1,tx,g1,s1,r1,p1⟩ := q
  cases r1 with
  | bl b => exact ⟨b,rfl,p1 ι1 H1 b Gr.refl s1 rfl⟩
  | _ => exact p1.elim
end
def gIx : T → T → Sto → Option (T × Sto)
  | .str l,.int i,Z => if l.length ≤ Lim then (atI l i).map fun c => (.str [c],Z) else none
  | x,.int i,Z => match asSeq x Z with
    | some ts => (atI ts i).map fun t => (t,Z)
    | none => none
  | _,_,_ => none
def gSl : T → Option Int → Option Int → Sto → Option (T × Sto)
  | .str l,lo,hi,Z => if l.length ≤ Lim then some (.str (cutL l lo hi),Z) else none
  | .tup ts,lo,hi,Z => some (.tup (cutL ts lo hi),Z)
  | x,lo,hi,Z => match asList x Z with
    | some ts => some (.loc Z.length,Z ++ [.lst (cutL ts lo hi)])
    | none => none
abbrev FO := Env → Sto → R (Option Int)
def oNone : FO := fun _ Z => .ok none Z
def oSome (f : FE) : FO := fun ρ Z => (f ρ Z).bind fun x Z1 => match x with
  | .int i => .ok (some i) Z1
  | _ => .stuck
def eSl (f : FE) (lo hi : FO) : FE := fun ρ Z => (f ρ Z).bind fun x Z1 => (lo ρ Z1).bind fun l Z2 => (hi ρ Z2).bind fun h Z3 => lift (gSl x l h Z3)
def oEq (_ : List Addr) (_ : Hp) (b c : Option Int) : Prop := b = c
def tFO (K : PySem.W.Frag) (W : Wc) (f : FO) : TO := fun σ H Q => ∃ ι ρ Z,Ie K W ι H σ ρ Z ∧ Post oEq K W.w σ ι H Q (f ρ Z)
theorem Reps.cut {K : PySem.W.Frag} {ι : List Addr} {H : Hp} {vs : List V} {ts : List T} (r : Reps K ι H vs ts) (lo hi : Option Int) : Reps K ι H (cutV vs lo hi) (cutL ts lo hi) := by
  unfold cutV cutL
  rw [r.length]
  exact (r.drop _).take _
theorem Zp4 {K : PySem.W.Frag} {ι : List Addr} {H : Hp} {vs : List V} {ts : List T} {i : Int} {t : T} (r : Reps K ι H vs ts) (e : atI ts i = some t) : ∃ v,atI vs i = some v ∧ Rep K ι H v t := by
  unfold atI at e ⊢
  rw [r.length]
  obtain ⟨j,h1,h2⟩ := Option.bind_eq_some_iff.mp e
  rw [h1]
  exact r.get h2
section
variable {X : Cx} {K : PySem.W.Frag} {W : Wc} {a : Expr} {fa : FE} {pos p2 : Pos} {lo hi : Option Expr} {fl fh : FO}
theorem Zj8 {r r' : R2} (h : IxR X r) (i : ∀ x y H Q, r' x y H Q → r x y H Q) : IxR X r' := fun value slice pins s σ H x y v u Q I rx ry q => h value slice pins s σ H x y v u Q I rx ry (i _ _ _ _ q)
theorem i_ix (hK : X.K = K) : IxR X (rF2 K gIx) := by
  subst hK
  refine Zj8 ix_seq fun x y H Q h => ?_
  obtain ⟨ι,Z,tx,ty,s,rx,ry,p⟩ := h
  unfold gIx at p
  split at p
  · split at p
    · rename_i hz
      cases rx; cases ry
      cases e : atI _ _ with
      | none => rw [e] at p; exact p.elim
      | some c =>
        rw [e] at p
        exact .inr (.inr ⟨_,_,c,rfl,rfl,by rw [S_len]; exact Z3e hz,e,Yl p s (.str [c])⟩)
    · exact p.elim
  · cases ry
    split at p
    · rename_i ts hs
      obtain ⟨a,vs,rfl,hq,r⟩ := Z6l s rx hs
      cases e : atI ts _ with
      | none => rw [e] at p; exact p.elim
      | some t =>
        rw [e] at p
        obtain ⟨v,h1,h2⟩ := Zp4 r e
        rcases hq with hq | hq
        · exact .inl ⟨a,vs,_,v,rfl,rfl,hq,h1,Yl p s h2⟩
        · exact .inr (.inl ⟨a,vs,_,v,rfl,rfl,hq,h1,Yl p s h2⟩)
    · exact p.elim
  · exact p.elim
theorem Q5 : PO X none (tFO K W oNone) := ⟨fun pins s σ H Q I h => by
  obtain ⟨ι,ρ,Z,is,p⟩ := h
  exact po_none.run pins s σ H Q I (p ι H none Gr.refl is.sim rfl)⟩
theorem Xc (h : FJ X K W a fa) : PO X (some a) (tFO K W (oSome fa)) := ⟨fun pins s σ H Q I q => by
  obtain ⟨ι,ρ,Z,is,p⟩ := q
  refine (po_some h).run pins s σ H Q I ⟨ι,ρ,Z,is,(Zu p).imp fun x H1 q => ?_⟩
  obtain ⟨ι1,Z1,tx,g1,s1,r1,p1⟩ := q
  cases r1 with
  | int i => exact ⟨i,rfl,p1 ι1 H1 (some i) Gr.refl s1 rfl⟩
  | _ => exact p1.elim⟩
theorem f_sl (hK : X.K = K) (ha : FJ X K W a fa) (hl : PO X lo (tFO K W fl)) (hh : PO X hi (tFO K W fh)) : FJ X K W (.Subscript a (.Slice lo hi none p2) pos) (eSl fa fl fh) := by
  subst hK
  refine Uu (pe_slice ((sl_list (X := X)).or ((sl_tupA (X := X)).or sl_str)) ha hl hh) fun σ H Q h => ?_
  obtain ⟨ι,ρ,Z,is,p⟩ := h
  refine ⟨ι,ρ,Z,is,(Zu p).imp fun x H1 q => ?_⟩
  obtain ⟨ι1,Z1,tx,g1,s1,r1,p1⟩ := q
  refine ⟨ι1,ρ,Z1,is.gr g1 s1,(Zu p1).imp fun l H2 q2 => ?_⟩
  obtain ⟨ι2, Z2, l', g2, s2, r2, p2⟩ := q2
  cases (show l = l' from r2)
  refine ⟨ι2,ρ,Z2,is.gr (g1.trans g2) s2,(Zu p2).imp fun u H3 q3 => ?_⟩
  obtain ⟨ι3, Z3, u', g3, s3, r3, p3⟩ := q3
  cases (show u = u' from r3)
  have rx := (r1.gr g2).gr g3
  have p4 := Q3 p3
  unfold gSl at p4
  split at p4
  · split at p4
    · rename_i hz
      cases rx
      exact .inr (.inr ⟨_,rfl,by rw [S_len]; exact Z3e hz,by rw [Zox]; exact Yl p4 s3 (.str _)⟩)
    · exact p4.elim
  · obtain ⟨a,vs,rfl,hq,r⟩ := rx.tupE
    refine .inr (.inl ⟨a,vs,rfl,hq,fun e => ?_,fun _ => Zj5 p4 s3 (r.cut _ _)⟩)
    refine Yl p4 s3 ?_
    have h := r.cut l u
    have e3 : cutV vs l u = vs := by
      unfold cutV
      rw [e.1,e.2,List.drop_zero,Nat.sub_zero]
      exact List.take_of_length_le (Nat.le_refl _)
    rw [e3] at h
    exact .tup hq h
  · split at p4
    · rename_i ts hs
      obtain ⟨a,vs,rfl,hq,r⟩ := Nz s3 rx hs
      exact .inl ⟨a,vs,rfl,hq,Zco p4 s3 (r.cut _ _)⟩
    · exact p4.elim
end
def eTup (f : FA) : FE := fun ρ Z => (f ρ Z).bind fun xs Z1 => .ok (.tup xs) Z1
def eLst (f : FA) : FE := fun ρ Z => (f ρ Z).bind fun xs Z1 => .ok (.loc Z1.length) (Z1 ++ [.lst xs])
section
variable {X : Cx} {K : PySem.W.Frag} {W : Wc} {es : List Expr} {f : FA} {pos : Pos}
def ofLen (es : List Expr) (f : FA) : Prop := ∀ ρ Z xs Z1,f ρ Z = .ok xs Z1 → xs.length = es.length
theorem Zh : ofLen [] aNil := fun ρ Z xs Z1 h => by
  unfold aNil at h
  injection h with h1 h2
  subst h1; rfl
theorem Ze {a : Expr} {fa : FE} (h : ofLen es f) : ofLen (a :: es) (aCons fa f) := fun ρ Z xs Z1 e => by
  unfold aCons at e
  cases e1 : fa ρ Z with
  | ok x Z2 =>
    rw [e1,Xr] at e
    cases e2 : f ρ Z2 with
    | ok ys Z3 =>
      rw [e2,Xr] at e
      injection e with h1 h2
      subst h1
      rw [List.length_cons,List.length_cons,h _ _ _ _ e2]
    | exc _ _ => rw [e2] at e; cases e
    | stuck => rw [e2] at e; cases e
  | exc _ _ => rw [e1] at e; cases e
  | stuck => rw [e1] at e; cases e
theorem f_tup {k} (ha : FAJ X K W es f) (hn : ofLen es f) (hz : es.length ≤ 1000 := by decide) : FJ X K W (.Tuple es k pos) (eTup f) := by
  refine Uu (pe_tup ha) fun σ H Q h => ?_
  obtain ⟨ι,ρ,Z,is,p⟩ := h
  refine ⟨ι,ρ,Z,is,?_⟩
  unfold eTup at p
  cases e : f ρ Z with
  | ok ts Z1 =>
    rw [e,Xr] at p
    intro ι1 H1 vs g1 s1 r1
    refine ⟨?_,fun q n => ?_⟩
    · rw [r1.length,hn _ _ _ _ e]; exact Z3e (by unfold Lim; omega)
    · exact p ι1 _ _ (g1.trans (Gr.new0 n)) (s1.same (Z0x n)) (.tup (SqT.of upd_same) (r1.gr (Gr.new0 n)))
  | exc x Z1 => rw [e] at p; exact p
  | stuck => rw [e] at p; exact p
theorem Vu (ha : FAJ X K W es f) (hn : ofLen es f) (hz : es.length ≤ 1000 := by decide) : FJ X K W (.List es pos) (eLst f) := by
  refine Uu (pe_lst ha) fun σ H Q h => ?_
  obtain ⟨ι,ρ,Z,is,p⟩ := h
  refine ⟨ι,ρ,Z,is,?_⟩
  unfold eLst at p
  cases e : f ρ Z with
  | ok ts Z1 =>
    rw [e,Xr] at p
    intro ι1 H1 vs g1 s1 r1
    refine ⟨?_,fun q n => ?_⟩
    · rw [r1.length,hn _ _ _ _ e]; exact Z3e (by unfold Lim; omega)
    · exact p (ι1 ++ [q]) _ _ (g1.trans (Gr.new n)) (s1.newL r1 n) (Zh1 s1)
  | exc x Z1 => rw [e] at p; exact p
  | stuck => rw [e] at p; exact p
end
end Fx
set_option maxHeartbeats 4000000
namespace Fx
open PySem PySem.Spec PyProof.Rows L2 SX Ap
variable [Tb]
inductive RS where
  | nx (ρ : Env) (Z : Sto) | rt (t : T) (Z : Sto) | bk (ρ : Env) (Z : Sto) | ct (ρ : Env) (Z : Sto) | exc (x : Ex) (ρ : Env) (Z : Sto) | stuck
abbrev FS := Env → Sto → RS
def bS {α : Type} (ρ : Env) : R α → (α → Sto → RS) → RS
  | .ok a Z,k => k a Z
  | .exc x Z,_ => .exc x ρ Z
  | .stuck,_ => .stuck
def seqS : RS → (Env → Sto → RS) → RS
  | .nx ρ Z,k => k ρ Z
  | r,_ => r
def seqL : RS → (Env → Sto → RS) → RS
  | .nx ρ Z,k => k ρ Z
  | .ct ρ Z,k => k ρ Z
  | .bk ρ Z,_ => .nx ρ Z
  | r,_ => r
@[simp] theorem Z6m {α : Type} (ρ : Env) (a : α) (Z : Sto) (k : α → Sto → RS) : bS ρ (.ok a Z) k = k a Z := (rfl)
@[simp] theorem bS_exc {α : Type} (ρ : Env) (x : Ex) (Z : Sto) (k : α → Sto → RS) : bS ρ (.exc x Z) k = .exc x ρ Z := (rfl)
@[simp] theorem bS_stuck {α : Type} (ρ : Env) (k : α → Sto → RS) : bS ρ (.stuck : R α) k = .stuck := (rfl)
@[simp] theorem seqS_nx (ρ : Env) (Z : Sto) (k : Env → Sto → RS) : seqS (.nx ρ Z) k = k ρ Z := (rfl)
@[simp] theorem seqS_rt (t : T) (Z : Sto) (k : Env → Sto → RS) : seqS (.rt t Z) k = .rt t Z := (rfl)
@[simp] theorem seqS_bk (ρ : Env) (Z : Sto) (k : Env → Sto → RS) : seqS (.bk ρ Z) k = .bk ρ Z := (rfl)
@[simp] theorem seqS_ct (ρ : Env) (Z : Sto) (k : Env → Sto → RS) : seqS (.ct ρ Z) k = .ct ρ Z := (rfl)
@[simp] theorem seqS_exc (x : Ex) (ρ : Env) (Z : Sto) (k : Env → Sto → RS) : seqS (.exc x ρ Z) k = .exc x ρ Z := (rfl)
@[simp] theorem Zcq (ρ : Env) (Z : Sto) (k : Env → Sto → RS) : seqL (.nx ρ Z) k = k ρ Z := (rfl)
@[simp] theorem Zj9 (ρ : Env) (Z : Sto) (k : Env → Sto → RS) : seqL (.ct ρ Z) k = k ρ Z := (rfl)
@[simp] theorem seqL_bk (ρ : Env) (Z : Sto) (k : Env → Sto → RS) : seqL (.bk ρ Z) k = .nx ρ Z := (rfl)
@[simp] theorem Znk (t : T) (Z : Sto) (k : Env → Sto → RS) : seqL (.rt t Z) k = .rt t Z := (rfl)
@[simp] theorem seqL_exc (x : Ex) (ρ : Env) (Z : Sto) (k : Env → Sto → RS) : seqL (.exc x ρ Z) k = .exc x ρ Z := (rfl)
structure Is (K : PySem.W.Frag) (ι : List Addr) (H : Hp) (σ : L2.St) (ρ : Env) (Z : Sto) : Prop where
  len : σ.length = ρ.length
  env : Envs K ι H σ ρ
  sim : Sim K ι Z H
theorem Is.ie {K : PySem.W.Frag} {W : WX} {ι : List Addr} {H : Hp} {σ : L2.St} {ρ : Env} {Z : Sto} (h : Is K ι H σ ρ Z) : Ie K (Wt W) ι H σ ρ Z := ⟨h.len,h.env,h.sim,trivial⟩
theorem Is.gr {K : PySem.W.Frag} {ι ι' : List Addr} {H H' : Hp} {σ : L2.St} {ρ : Env} {Z Z' : Sto} (h : Is K ι H σ ρ Z) (g : Gr ι ι' H H') (s : Sim K ι' Z' H') : Is K ι' H' σ ρ Z' := ⟨h.len, h.env.gr g, s⟩
def PostS (K : PySem.W.Frag) (W : WX) (ι : List Addr) (H : Hp) (D : Ends) : RS → Prop
  | .nx ρ' Z' => ∀ ι' H' σ', Gr ι ι' H H' → Is K ι' H' σ' ρ' Z' → D.nx σ' H'
  | .rt t Z' => ∀ ι' H' v, Gr ι ι' H H' → Sim K ι' Z' H' → Rep K ι' H' v t → D.rt v H'
  | .bk ρ' Z' => ∀ ι' H' σ', Gr ι ι' H H' → Is K ι' H' σ' ρ' Z' → D.bk σ' H'
  | .ct ρ' Z' => ∀ ι' H' σ', Gr ι ι' H H' → Is K ι' H' σ' ρ' Z' → D.ct σ' H'
  | .exc x ρ' Z' => ∀ ι' H' σ' cls d, Gr ι ι' H H' → Is K ι' H' σ' ρ' Z' → RepX K ι' H' cls d x → W cls d σ' H'
  | .stuck => False
def tS (K : PySem.W.Frag) (W : WX) (g : FS) : TS := fun D σ H => ∃ ι ρ Z,Is K ι H σ ρ Z ∧ PostS K W ι H D (g ρ Z)
abbrev FSJ (X : Cx) (K : PySem.W.Frag) (W : WX) (st : Stmt) (g : FS) : Prop := PS X st (tS K W g)
abbrev FBJ (X : Cx) (K : PySem.W.Frag) (W : WX) (st : List Stmt) (g : FS) : Prop := PSs X st (tS K W g)
section
variable {α β : Type} {K : PySem.W.Frag} {W : WX} {ι ι1 : List Addr} {H H1 : Hp} {σ : L2.St} {ρ : Env} {Z : Sto} {D : Ends}
theorem PostS.shift {r : RS} (h : PostS K W ι H D r) (g : Gr ι ι1 H H1) : PostS K W ι1 H1 D r := by
  cases r with
  | nx => exact fun ι' H' σ' g' => h ι' H' σ' (g.trans g')
  | rt => exact fun ι' H' σ' g' => h ι' H' σ' (g.trans g')
  | bk => exact fun ι' H' σ' g' => h ι' H' σ' (g.trans g')
  | ct => exact fun ι' H' σ' g' => h ι' H' σ' (g.trans g')
  | exc => exact fun ι' H' σ' c d g' => h ι' H' σ' c d (g.trans g')
  | stuck => exact h
theorem Z5s {rep : List Addr → Hp → β → α → Prop} {r : R α} {k : α → Sto → RS} (is : Is K ι H σ ρ Z) (h : PostS K W ι H D (bS ρ r k)) :
    Post rep K W σ ι H (fun b H1 => ∃ ι1 Z1 a,Gr ι ι1 H H1 ∧ Sim K ι1 Z1 H1 ∧ rep ι1 H1 b a ∧ PostS K W ι1 H1 D (k a Z1)) r := by
  cases r with
  | ok a S => exact fun ι1 H1 b g s r => ⟨ι1,S,a,g,s,r,PostS.shift h g⟩
  | exc x S => exact fun ι' H' cls d g s rx => h ι' H' σ cls d g (is.gr g s) rx
  | stuck => exact h
theorem Zlj {r : RS} {k : Env → Sto → RS} (h : PostS K W ι H D (seqS r k)) :
    PostS K W ι H { D with nx := fun σ' H' => ∃ ι' ρ' Z', Gr ι ι' H H' ∧ Is K ι' H' σ' ρ' Z' ∧ PostS K W ι' H' D (k ρ' Z') } r := by
  cases r with
  | nx ρ' Z' => exact fun ι' H' σ' g i => ⟨ι', ρ', Z', g, i, PostS.shift h g⟩
  | rt => exact h
  | bk => exact h
  | ct => exact h
  | exc => exact h
  | stuck => exact h
theorem Zef {r : RS} {k : Env → Sto → RS} (h : PostS K W ι H D (seqL r k)) :
    PostS K W ι H { D with nx := fun σ' H' => ∃ ι' ρ' Z', Gr ι ι' H H' ∧ Is K ι' H' σ' ρ' Z' ∧ PostS K W ι' H' D (k ρ' Z'), ct := fun σ' H' => ∃ ι' ρ' Z', Gr ι ι' H H' ∧ Is K ι' H' σ' ρ' Z' ∧ PostS K W ι' H' D (k ρ' Z'), bk := D.nx } r := by
  cases r with
  | nx ρ' Z' => exact fun ι' H' σ' g i => ⟨ι', ρ', Z', g, i, PostS.shift h g⟩
  | rt => exact h
  | bk => exact h
  | ct ρ' Z' => exact fun ι' H' σ' g i => ⟨ι', ρ', Z', g, i, PostS.shift h g⟩
  | exc => exact h
  | stuck => exact h
theorem PostS.imp {r : RS} {D2 : Ends} (h : PostS K W ι H D r) (h1 : ∀ σ H,D.nx σ H → D2.nx σ H) (h2 : ∀ σ H,D.rt σ H → D2.rt σ H) (h3 : ∀ σ H,D.bk σ H → D2.bk σ H) (h4 : ∀ σ H,D.ct σ H → D2.ct σ H) : PostS K W ι H D2 r := by
  cases r with
  | nx => exact fun ι' H' σ' g i => h1 _ _ (h ι' H' σ' g i)
  | rt => exact fun ι' H' σ' g i r => h2 _ _ (h ι' H' σ' g i r)
  | bk => exact fun ι' H' σ' g i => h3 _ _ (h ι' H' σ' g i)
  | ct => exact fun ι' H' σ' g i => h4 _ _ (h ι' H' σ' g i)
  | exc => exact h
  | stuck => exact h
end
def sSet (i : Nat) (f : FE) : FS := fun ρ Z => bS ρ (f ρ Z) fun x Z1 => .nx (ρ.set i (some x)) Z1
def sRet (f : FE) : FS := fun ρ Z => bS ρ (f ρ Z) fun x Z1 => .rt x Z1
def sRetN : FS := fun _ Z => .rt .non Z
def sDrop (f : FE) : FS := fun ρ Z => bS ρ (f ρ Z) fun _ Z1 => .nx ρ Z1
def sPass : FS := fun ρ Z => .nx ρ Z
def sBrk : FS := fun ρ Z => .bk ρ Z
def sCnt : FS := fun ρ Z => .ct ρ Z
def sIf (c : FT) (a b : FS) : FS := fun ρ Z => bS ρ (c ρ Z) fun x Z1 => if x = true then a ρ Z1 else b ρ Z1
def bCons (a b : FS) : FS := fun ρ Z => seqS (a ρ Z) b
section
variable {X : Cx} {K : PySem.W.Frag} {W : WX} {e c : Expr} {fe : FE} {ft : FT} {st : Stmt} {sts a b : List Stmt} {g g' : FS} {pos : Pos} {i : Nat} {x : PySem.Str}
theorem Zau {k : T → Sto → RS} {σ : L2.St} {ρ : Env} {ι : List Addr} {H : Hp} {Z : Sto} {D : Ends} {Q : VK} (is : Is K ι H σ ρ Z) (h : PostS K W ι H D (bS ρ (fe ρ Z) k)) (hq : ∀ v H1 ι1 Z1 t,Gr ι ι1 H H1 → Is K ι1 H1 σ ρ Z1 → Rep K ι1 H1 v t → PostS K W ι1 H1 D (k t Z1) → Q v H1) : tF K (Wt W) fe σ H Q :=
  ⟨ι,ρ,Z,is.ie,(Z5s (rep := Rep K) is h).imp fun v H1 ⟨ι1,Z1,t,g1,s1,r1,p1⟩ => hq v H1 ι1 Z1 t g1 (is.gr g1 s1) r1 p1⟩
theorem Zmu {k : Bool → Sto → RS} {σ : L2.St} {ρ : Env} {ι : List Addr} {H : Hp} {Z : Sto} {D : Ends} {Q : Bool → Hp → Prop} (is : Is K ι H σ ρ Z) (h : PostS K W ι H D (bS ρ (ft ρ Z) k)) (hq : ∀ v H1 ι1 Z1,Gr ι ι1 H H1 → Is K ι1 H1 σ ρ Z1 → PostS K W ι1 H1 D (k v Z1) → Q v H1) : tFT K (Wt W) ft σ H Q :=
  ⟨ι,ρ,Z,is.ie,(Z5s (rep := bEq) is h).imp fun v H1 ⟨ι1,Z1,t,g1,s1,r1,p1⟩ => hq v H1 ι1 Z1 g1 (is.gr g1 s1) (by cases (show v = t from r1); exact p1)⟩
theorem Is.set {ι : List Addr} {H : Hp} {σ : L2.St} {ρ : Env} {Z : Sto} {v : V} {t : T} (h : Is K ι H σ ρ Z) (r : Rep K ι H v t) (i : Nat) : Is K ι H (σ.set i (some v)) (ρ.set i (some t)) Z :=
  ⟨by rw [List.length_set,List.length_set]; exact h.len,h.env.set r i h.len,h.sim⟩
theorem Zt {pos' : Pos} (hN : X.N.Nodup) (hi : X.N[i]? = some x) (hx : Loc X.env.scope x) (he : FJ X K (Wt W) e fe) (hs : swapsWith e (some (.Name x pos')) pos.line X.env = pure false := by rfl) (hf : X.fn x = true ∨ X.env.scope.names.lookup x = some .local := by first | exact .inl rfl | exact .inr rfl | assumption) :
    FSJ X K W (.Assign [.Name x pos'] e pos) (sSet i fe) := Jx (ps_set hN hi hx he hs hf) fun D σ H h => by
  obtain ⟨ι,ρ,Z,is,p⟩ := h
  exact Zau is p fun v H1 ι1 Z1 t g1 i1 r1 p1 => p1 ι1 H1 _ Gr.refl (i1.set r1 i)
theorem Zr (he : FJ X K (Wt W) e fe) : FSJ X K W (.Return (some e) pos) (sRet fe) := Jx (ps_ret he) fun D σ H h => by
  obtain ⟨ι,ρ,Z,is,p⟩ := h
  exact Zau is p fun v H1 ι1 Z1 t g1 i1 r1 p1 => p1 ι1 H1 v Gr.refl i1.sim r1
theorem Xk (he : FJ X K (Wt W) e fe) (hs : swapsWith e none pos.line X.env = pure false := by rfl) : FSJ X K W (.Expr e pos) (sDrop fe) := Jx (ps_expr he hs) fun D σ H h => by
  obtain ⟨ι,ρ,Z,is,p⟩ := h
  exact Zau is p fun v H1 ι1 Z1 t g1 i1 r1 p1 => p1 ι1 H1 σ Gr.refl i1
theorem Zmv : FSJ X K W (.Break pos) sBrk := Jx ps_break fun D σ H h => by
  obtain ⟨ι,ρ,Z,is,p⟩ := h
  exact p ι H σ Gr.refl is
theorem Yp (hc : FTJ X K (Wt W) c ft) (ha : FBJ X K W a g) (hb : FBJ X K W b g') : FSJ X K W (.If c a b pos) (sIf ft g g') := Jx (ps_if hc ha hb) fun D σ H h => by
  obtain ⟨ι,ρ,Z,is,p⟩ := h
  refine Zmu is p fun v H1 ι1 Z1 g1 i1 p1 => ?_
  cases v with
  | true => exact ⟨ι1,ρ,Z1,i1,p1⟩
  | false => exact ⟨ι1,ρ,Z1,i1,p1⟩
theorem Y8 : FBJ X K W [] sPass := Zj3 pss_nil fun D σ H h => by
  obtain ⟨ι,ρ,Z,is,p⟩ := h
  exact p ι H σ Gr.refl is
theorem Zm (h : FSJ X K W st g) : FBJ X K W [st] g := pss_one h
theorem Zi (h : FSJ X K W st g) (h2 : FBJ X K W sts g') : FBJ X K W (st :: sts) (bCons g g') := Zj3 (pss_cons h h2) fun D σ H h => by
  obtain ⟨ι,ρ,Z,is,p⟩ := h
  refine ⟨ι, ρ, Z, is, (Zlj p).imp (fun σ' H' q => ?_) (fun _ _ q => q) (fun _ _ q => q) (fun _ _ q => q)⟩
  obtain ⟨ι', ρ', Z', _, i', p'⟩ := q
  exact ⟨ι', ρ', Z', i', p'⟩
end
def sPar (ix : List Nat) (f : FA) : FS := fun ρ Z => bS ρ (f ρ Z) fun xs Z1 => .nx ((ix.zip xs).foldl (fun r p => r.set p.1 (some p.2)) ρ) Z1
section
variable {X : Cx} {K : PySem.W.Frag} {W : WX} {fa : FA}
theorem Zja {k : List T → Sto → RS} {σ : L2.St} {ρ : Env} {ι : List Addr} {H : Hp} {Z : Sto} {D : Ends} {Q : List V → Hp → Prop} (is : Is K ι H σ ρ Z) (h : PostS K W ι H D (bS ρ (fa ρ Z) k)) (hq : ∀ v H1 ι1 Z1 t,fa ρ Z = .ok t Z1 → Gr ι ι1 H H1 → Is K ι1 H1 σ ρ Z1 → Reps K ι1 H1 v t → PostS K W ι1 H1 D (k t Z1) → Q v H1) : tFA K (Wt W) fa σ H Q := by
  refine ⟨ι,ρ,Z,is.ie,?_⟩
  cases e : fa ρ Z with
  | ok a S =>
    rw [e] at h
    exact fun ι1 H1 b g s r => hq b H1 ι1 S a e g (is.gr g s) r (PostS.shift h g)
  | exc x S =>
    rw [e] at h
    exact fun ι' H' cls d g s rx => h ι' H' σ cls d g (is.gr g s) rx
  | stuck => rw [e] at h; exact h
theorem Zh6 {i j : Nat} {x y : PySem.Str} {a b : Expr} {px py pt pos : Pos} {kt k2 pt2} (hc : X.calm = true) (hN : X.N.Nodup) (hi : X.N[i]? = some x) (hj : X.N[j]? = some y) (hij : i ≠ j)
    (hx : X.env.scope.names.lookup x = some .local) (hy : X.env.scope.names.lookup y = some .local) (ha : FAJ X K (Wt W) [a,b] fa) (hn : ofLen [a,b] fa)
    (hw : swappedStores [.Tuple [.Name x px,.Name y py] kt pt] (.Tuple [a,b] k2 pt2) X.env = pure (some [x,y]))
    (hs : swapsWithSole [.Tuple [.Name x px,.Name y py] kt pt] (.Tuple [a,b] k2 pt2) pos.line X.env = pure false := by rfl) :
    FSJ X K W (.Assign [.Tuple [.Name x px,.Name y py] kt pt] (.Tuple [a,b] k2 pt2) pos) (sPar [i,j] fa) := Jx (ps_par hc hN hi hj hij hx hy ha hw hs) fun D σ H h => by
  obtain ⟨ι,ρ,Z,is,p⟩ := h
  refine Zja is p fun v H1 ι1 Z1 t e g1 i1 r1 p1 => ?_
  have hl := hn _ _ _ _ e
  match t,r1,hl with
  | [t1,t2],.cons r1 (.cons r2 .nil),_ => exact ⟨_,_,rfl,p1 ι1 H1 _ Gr.refl ((i1.set r1 i).set r2 j)⟩
theorem Zjb {i j l : Nat} {x y z : PySem.Str} {a b c : Expr} {px py pz pt pos : Pos} {kt k2 pt2} (hc : X.calm = true) (hN : X.N.Nodup) (hi : X.N[i]? = some x) (hj : X.N[j]? = some y) (hl : X.N[l]? = some z) (hij : i ≠ j) (hil : i ≠ l) (hjl : j ≠ l)
    (hx : X.env.scope.names.lookup x = some .local) (hy : X.env.scope.names.lookup y = some .local) (hz : X.env.scope.names.lookup z = some .local) (ha : FAJ X K (Wt W) [a,b,c] fa) (hn : ofLen [a,b,c] fa)
    (hw : swappedStores [.Tuple [.Name x px,.Name y py,.Name z pz] kt pt] (.Tuple [a,b,c] k2 pt2) X.env = pure (some [x,y,z]))
    (hs : swapsWithSole [.Tuple [.Name x px,.Name y py,.Name z pz] kt pt] (.Tuple [a,b,c] k2 pt2) pos.line X.env = pure false := by rfl) :
    FSJ X K W (.Assign [.Tuple [.Name x px,.Name y py,.Name z pz] kt pt] (.Tuple [a,b,c] k2 pt2) pos) (sPar [i,j,l] fa) := Jx (ps_par3 hc hN hi hj hl hij hil hjl hx hy hz ha hw hs) fun D σ H h => by
  obtain ⟨ι,ρ,Z,is,p⟩ := h
  refine Zja is p fun v H1 ι1 Z1 t e g1 i1 r1 p1 => ?_
  have hl := hn _ _ _ _ e
  match t,r1,hl with
  | [t1,t2,t3],.cons r1 (.cons r2 (.cons r3 .nil)),_ => exact ⟨_,_,_,rfl,p1 ι1 H1 _ Gr.refl (((i1.set r1 i).set r2 j).set r3 _)⟩
end
abbrev FG := T → Env → Sto → R Env
abbrev FGs := List T → Env → Sto → R Env
def rEnv (K : PySem.W.Frag) (ι : List Addr) (H : Hp) (σ : L2.St) (ρ : Env) : Prop := σ.length = ρ.length ∧ Envs K ι H σ ρ
def tG (K : PySem.W.Frag) (W : WX) (g : FG) : TG := fun v σ H Q => ∃ ι ρ Z t,Is K ι H σ ρ Z ∧ Rep K ι H v t ∧ Post (rEnv K) K W σ ι H Q (g t ρ Z)
def tGs (K : PySem.W.Frag) (W : WX) (g : FGs) : TGs := fun v σ H Q => ∃ ι ρ Z t,Is K ι H σ ρ Z ∧ Reps K ι H v t ∧ Post (rEnv K) K W σ ι H Q (g t ρ Z)
def gNm (i : Nat) : FG := fun t ρ Z => .ok (ρ.set i (some t)) Z
def gsNil : FGs := fun ts ρ Z => match ts with
  | [] => .ok ρ Z
  | _ => .stuck
def noX {α : Type} : R α → R α
  | .exc _ _ => .stuck
  | r => r
def gsCons (g : FG) (r : FGs) : FGs := fun ts ρ Z => match ts with
  | t :: ts => (noX (g t ρ Z)).bind fun ρ1 Z1 => noX (r ts ρ1 Z1)
  | _ => .stuck
def gTp (n : Nat) (r : FGs) : FG := fun t ρ Z => match t with
  | .tup ts => if ts.length = n then r ts ρ Z else .stuck
  | _ => .stuck
theorem Z98 {α β : Type} {rep : List Addr → Hp → β → α → Prop} {K : PySem.W.Frag} {W W' : WX} {σ σ' : L2.St} {ι : List Addr} {H : Hp} {Q : β → Hp → Prop} {r : R α} (h : Post rep K W σ ι H Q (noX r)) : Post rep K W' σ' ι H Q r := by
  cases r with
  | ok => exact h
  | exc => exact h.elim
  | stuck => exact h
section
variable {X : Cx} {K : PySem.W.Frag} {W : WX} {pos : Pos} {e : Expr} {es : List Expr}
theorem Zh7 {tg : Expr} {t t' : TG} (h : PG X tg t) (i : ∀ v σ H Q, t' v σ H Q → t v σ H Q) : PG X tg t' := ⟨fun pins s σ H v u Q I r q => h.run pins s σ H v u Q I r (i _ _ _ _ q)⟩
theorem Zjc {tg : List Expr} {t t' : TGs} (h : PGs X tg t) (i : ∀ v σ H Q, t' v σ H Q → t v σ H Q) : PGs X tg t' := ⟨fun pins s σ H v u Q I r q => h.run pins s σ H v u Q I r (i _ _ _ _ q)⟩
theorem W8 {i : Nat} {x : PySem.Str} (hN : X.N.Nodup) (hi : X.N[i]? = some x) (hx : Loc X.env.scope x) (hf : X.fn x = true ∨ X.env.scope.names.lookup x = some .local := by first | exact .inl rfl | exact .inr rfl | assumption) : PG X (.Name x pos) (tG K W (gNm i)) :=
  Zh7 (pg_name hN hi hx hf) fun v σ H Q h => by
    obtain ⟨ι,ρ,Z,t,is,r,p⟩ := h
    have i2 := is.set r i
    exact p ι H _ Gr.refl is.sim ⟨i2.len,i2.env⟩
theorem Z2i : PGs X [] (tGs K W gsNil) := Zjc pgs_nil fun v σ H Q h => by
  obtain ⟨ι,ρ,Z,t,is,r,p⟩ := h
  cases r with
  | nil => exact ⟨rfl,p ι H _ Gr.refl is.sim ⟨is.len,is.env⟩⟩
  | cons _ _ => exact p.elim
theorem Xu {g : FG} {gs : FGs} (h1 : PG X e (tG K W g)) (h2 : PGs X es (tGs K W gs)) (hs : (assignEach (e :: es) X.env).map (·.2) = assign e X.env :: (assignEach es X.env).map (·.2) := by rfl) : PGs X (e :: es) (tGs K W (gsCons g gs)) := Zjc (pgs_cons h1 h2 hs) fun v σ H Q h => by
  obtain ⟨ι,ρ,Z,t,is,r,p⟩ := h
  cases r with
  | nil => exact p.elim
  | cons r1 r2 =>
    refine ⟨_,_,rfl,ι,ρ,Z,_,is,r1,Z98 (W := W) (σ := σ) ((Zu (rep := rEnv K) p).imp fun σ1 H1 q => ?_)⟩
    obtain ⟨ι1,Z1,ρ1,g1,s1,⟨hl,he⟩,p1⟩ := q
    exact ⟨ι1,ρ1,Z1,_,⟨hl,he,s1⟩,r2.gr g1,Z98 p1⟩
theorem Z6n {k : Nat} {gs : FGs} {n : Nat} (hK : X.K = K) (hc : X.calm = true) (h : PGs X es (tGs K W gs)) (hn : (assignEach es X.env).length = n := by rfl) (hst : (assignEach es X.env).findIdx? (·.1) = none := by rfl) : PG X (.Tuple es k pos) (tG K W (gTp n gs)) := by
  subst hK
  refine Zh7 (pg_tup hc h hn hst) fun v σ H Q h => ?_
  obtain ⟨ι,ρ,Z,t,is,r,p⟩ := h
  cases t with
  | tup ts =>
    obtain ⟨a,vs,rfl,hq,r⟩ := r.tupE
    simp only [gTp] at p
    split at p
    · rename_i hl
      exact ⟨a,vs,rfl,hq,by rw [r.length]; exact hl,ι,ρ,Z,ts,is,r,p⟩
    · exact p.elim
  | _ => exact p.elim
def sAsg (f : FE) (g : FG) : FS := fun ρ Z => bS ρ (f ρ Z) fun x Z1 => bS ρ (g x ρ Z1) fun ρ2 Z2 => .nx ρ2 Z2
theorem Z6o {tg : Expr} {fe : FE} {g : FG} (he : FJ X K (Wt W) e fe) (hg : PG X tg (tG K W g)) (hs : swapsWithSole [tg] e pos.line X.env = pure false := by rfl) (hw : swappedStores [tg] e X.env = pure none := by rfl)
    (h1 : (assignEach [tg] X.env).map (·.2) = [assign tg X.env] := by rfl) : FSJ X K W (.Assign [tg] e pos) (sAsg fe g) := Jx (ps_asg he hg hs hw h1) fun D σ H h => by
  obtain ⟨ι,ρ,Z,is,p⟩ := h
  refine Zau is p fun v H1 ι1 Z1 t g1 i1 r1 p1 => ?_
  refine ⟨ι1,ρ,Z1,t,i1,r1,(Z5s (rep := rEnv K) i1 p1).imp fun σ2 H2 q => ?_⟩
  obtain ⟨ι2,Z2,ρ2,g2,s2,⟨hl,he⟩,p2⟩ := q
  exact p2 ι2 H2 σ2 Gr.refl ⟨hl,he,s2⟩
end
def gSetL : T → T → T → Sto → Option Sto
  | .loc j,.int k,t,Z => match getL Z j with
    | some ts => (ixN ts.length k).map fun n => Z.set j (.lst (ts.set n t))
    | none => none
  | _,_,_,_ => none
def gSubs (fo fi : FE) : FG := fun t ρ Z => (fo ρ Z).bind fun o Z1 => (fi ρ Z1).bind fun i Z2 => match gSetL o i t Z2 with
  | some Z3 => .ok ρ Z3
  | none => .stuck
def sAug (i : Nat) (f : FE) (g : T → T → Sto → Option (T × Sto)) : FS := fun ρ Z => match ρ[i]? with
  | some (some x) => bS ρ (f ρ Z) fun y Z1 => bS ρ (lift (g x y Z1)) fun z Z2 => .nx (ρ.set i (some z)) Z2
  | _ => .stuck
section
variable {X : Cx} {K : PySem.W.Frag} {W : WX} {pos : Pos} {o e : Expr} {fo fi fe : FE}
theorem Zjd {ι : List Addr} {H : Hp} {Z Z3 : Sto} {x y v : V} {tx ty t : T} {Q : Hp → Prop} (s : Sim K ι Z H) (rx : Rep K ι H x tx) (ry : Rep K ι H y ty) (r : Rep K ι H v t) (e : gSetL tx ty t Z = some Z3) (q : ∀ H', Gr ι ι H H' → Sim K ι Z3 H' → Q H') : rSetL x y v H Q := by
  unfold gSetL at e
  split at e
  · split at e
    · rename_i ts h
      obtain ⟨n,h1,rfl⟩ := Option.map_eq_some_iff.mp e
      obtain ⟨a,vs,rfl,ha,hl,rl⟩ := Z05 s (Vg h) rx
      cases ry
      refine ⟨a,vs,_,n,rfl,rfl,hl,by rw [rl.length]; exact h1,?_⟩
      have g := Gr.mut (ι := ι) (o := .lst (vs.set n v)) hl trivial (List.mem_of_getElem? ha)
      exact q _ g (s.set ha ⟨_,upd_same,(rl.gr g).set (r.gr g) n⟩)
    · cases e
  · cases e
theorem Z3m {i : Nat} {x : PySem.Str} {op : Operator} {g : T → T → Sto → Option (T × Sto)} {pos' : Pos} (hN : X.N.Nodup) (hi : X.N[i]? = some x) (hx : Loc X.env.scope x) (he : FJ X K (Wt W) e fe) (ho : PIp X op (rF2 K g)) (hf : X.fn x = true ∨ X.env.scope.names.lookup x = some .local := by first | exact .inl rfl | exact .inr rfl | assumption) :
    FSJ X K W (.AugAssign (.Name x pos') op e pos) (sAug i fe g) := Jx (ps_aug hN hi hx he ho hf) fun D σ H h => by
  obtain ⟨ι,ρ,Z,is,p⟩ := h
  unfold sAug at p
  split at p
  · rename_i t et
    obtain ⟨v,h1,h2⟩ := is.env i t et
    refine ⟨v,h1,Zau is p fun y H1 ι1 Z1 ty g1 i1 r1 p1 => ⟨ι1,Z1,t,ty,i1.sim,h2.gr g1,r1,?_⟩⟩
    refine Q3 (W := W) (σ := σ) ((Z5s (rep := Rep K) i1 p1).imp fun z H2 q => ?_)
    obtain ⟨ι2,Z2,tz,g2,s2,r2,p2⟩ := q
    exact p2 ι2 H2 _ Gr.refl ((i1.gr g2 s2).set r2 i)
  · exact p.elim
def gIAdd : T → T → Sto → Option (T × Sto)
  | .int i,.int j,Z => some (.int (i + j),Z)
  | .str a,.str b,Z => if a.length + b.length ≤ Lim then some (.str (a ++ b),Z) else none
  | _,_,_ => none
theorem Z0y : PIp X .Add (rF2 K gIAdd) := by
  intro pins s σ H x y v u Q I rx ry q
  obtain ⟨ι,Z,tx,ty,sm,hx,hy,p⟩ := q
  unfold gIAdd at p
  split at p
  · cases hx; cases hy
    exact ip_add pins s σ H _ _ v u Q I rx ry ⟨_,_,rfl,rfl,Yl p sm (.int _)⟩
  · split at p
    · rename_i hz
      cases hx; cases hy
      exact iop_add_str pins s σ H _ _ v u Q I rx ry ⟨_,_,rfl,rfl,by rw [S_len,S_len]; exact Z3e hz,by rw [Zp2]; exact Yl p sm (.str _)⟩
    · exact p.elim
  · exact p.elim
end
abbrev ItF := Nat → Sto → Option (Option T)
abbrev FI := Env → Sto → R ItF
def loopN (it : ItF) (body : T → FS) : Nat → Nat → Env → Sto → RS
  | 0,_,_,_ => .stuck
  | n + 1,k,ρ,Z => match it k Z with
    | none => .stuck
    | some none => .nx ρ Z
    | some (some t) => seqL (body t ρ Z) fun ρ' Z' => loopN it body n (k + 1) ρ' Z'
def sFor (it : FI) (g : FG) (b : FS) : FS := fun ρ Z => bS ρ (it ρ Z) fun j Z1 => loopN j (fun t ρ' Z' => bS ρ' (g t ρ' Z') b) Fuel 0 ρ Z1
def loopW (c : FT) (b : FS) : Nat → Env → Sto → RS
  | 0,_,_ => .stuck
  | n + 1, ρ, Z => bS ρ (c ρ Z) fun x Z1 => if x = true then seqL (b ρ Z1) fun ρ' Z' => loopW c b n ρ' Z' else .nx ρ Z1
def sWhile (fuel : Nat) (c : FT) (b : FS) : FS := fun ρ Z => loopW c b fuel ρ Z
def ItR (K : PySem.W.Frag) (ι : List Addr) (H : Hp) (J : It) (it : ItF) : Prop := ∀ k ι' H' Z', Gr ι ι' H H' → Sim K ι' Z' H' → match it k Z' with
  | none => True
  | some none => J.stop k H'
  | some (some t) => J.go k H' ∧ ∀ x H'', J.yld k H' x H'' → Gr ι' ι' H' H'' ∧ Sim K ι' Z' H'' ∧ Rep K ι' H'' x t
def tI (K : PySem.W.Frag) (W : WX) (f : FI) : TI := fun σ H Q => ∃ ι ρ Z,Is K ι H σ ρ Z ∧ Post (ItR K) K W σ ι H Q (f ρ Z)
section
variable {X : Cx} {K : PySem.W.Frag} {W : WX} {pos : Pos} {tg iter c : Expr} {body : List Stmt} {fi : FI} {g : FG} {b : FS} {ft : FT}
theorem Z22 (hp : PassesOwn (model X.prog X.w) X.A X.env X.xe) (hc : X.calm = true) (hi : PI X tg iter (tI K W fi)) (hg : PG X tg (tG K W g)) (hb : FBJ X K W body b) (hs : ∀ x,foldedSetIterable iter X.env x = pure x := by intro _; rfl) :
    FSJ X K W (.For tg iter body [] pos) (sFor fi g b) := Jx (ps_for hp hc hi hg hb hs) fun D σ H h => by
  obtain ⟨ι,ρ,Z,is,p⟩ := h
  refine ⟨ι,ρ,Z,is,(Z5s (rep := ItR K) is p).imp fun J H1 q => ?_⟩
  obtain ⟨ι1,Z1,it,g1,s1,rJ,p1⟩ := q
  refine ⟨fun k m σ' H' => ∃ ι' ρ' Z', Gr ι1 ι' H1 H' ∧ Is K ι' H' σ' ρ' Z' ∧ PostS K W ι' H' D (loopN it (fun t ρ' Z' => bS ρ' (g t ρ' Z') b) m k ρ' Z'), ⟨Fuel, ι1, ρ, Z1, Gr.refl, is.gr g1 s1, p1⟩, ?_⟩
  rintro k m σ' H' ⟨ι', ρ', Z', g', i', p'⟩
  cases m with
  | zero => exact p'.elim
  | succ m =>
    have hj := rJ k ι' H' Z' g' i'.sim
    unfold loopN at p'
    cases e : it k Z' with
    | none => rw [e] at p'; exact p'.elim
    | some o =>
      rw [e] at hj p'
      cases o with
      | none => exact .inl ⟨hj, p' ι' H' σ' Gr.refl i'⟩
      | some t =>
        refine .inr ⟨hj.1, _, fun σ2 H2 n => ⟨m, Nat.lt_succ_self m, n⟩, fun x H'' y => ?_⟩
        obtain ⟨g2, s2, r2⟩ := hj.2 x H'' y
        have i2 := i'.gr g2 s2
        have p2 := Zef (PostS.shift p' g2)
        refine ⟨ι', ρ', Z', t, i2, r2, (Z5s (rep := rEnv K) i2 p2).imp fun σ3 H3 q => ?_⟩
        obtain ⟨ι3,Z3,ρ3,g3,s3,⟨hl,he⟩,p3⟩ := q
        have hN : ∀ σ4 H4, (∃ ι4 ρ4 Z4, Gr ι' ι4 H'' H4 ∧ Is K ι4 H4 σ4 ρ4 Z4 ∧ PostS K W ι4 H4 D (loopN it (fun t ρ' Z' => bS ρ' (g t ρ' Z') b) m (k + 1) ρ4 Z4)) → ∃ ι4 ρ4 Z4, Gr ι1 ι4 H1 H4 ∧ Is K ι4 H4 σ4 ρ4 Z4 ∧ PostS K W ι4 H4 D (loopN it (fun t ρ' Z' => bS ρ' (g t ρ' Z') b) m (k + 1) ρ4 Z4) :=
          fun σ4 H4 ⟨ι4, ρ4, Z4, g4, i4, p4⟩ => ⟨ι4, ρ4, Z4, (g'.trans g2).trans g4, i4, p4⟩
        exact ⟨ι3,ρ3,Z3,⟨hl,he,s3⟩,p3.imp hN (fun _ _ q => q) (fun _ _ q => q) hN⟩
theorem Np {fuel : Nat} (hp : PassesOwn (model X.prog X.w) X.A X.env X.xe) (hc : FTJ X K (Wt W) c ft) (hb : FBJ X K W body b) : FSJ X K W (.While c body [] pos) (sWhile fuel ft b) := Jx (ps_while hp hc hb) fun D σ H h => by
  obtain ⟨ι,ρ,Z,is,p⟩ := h
  refine ⟨fun m σ' H' => ∃ ι' ρ' Z', Gr ι ι' H H' ∧ Is K ι' H' σ' ρ' Z' ∧ PostS K W ι' H' D (loopW ft b m ρ' Z'), ⟨fuel, ι, ρ, Z, Gr.refl, is, p⟩, ?_⟩
  rintro m σ' H' ⟨ι', ρ', Z', g', i', p'⟩
  cases m with
  | zero => exact p'.elim
  | succ m =>
    unfold loopW at p'
    refine Zmu i' p' fun v H1 ι1 Z1 g1 i1 p1 => ?_
    cases v with
    | false => exact p1 ι1 H1 σ' Gr.refl i1
    | true =>
      rw [if_pos rfl] at p1 ⊢
      have hN : ∀ σ4 H4,(∃ ι4 ρ4 Z4,Gr ι1 ι4 H1 H4 ∧ Is K ι4 H4 σ4 ρ4 Z4 ∧ PostS K W ι4 H4 D (loopW ft b m ρ4 Z4)) → ∃ ι4 ρ4 Z4,Gr ι ι4 H H4 ∧ Is K ι4 H4 σ4 ρ4 Z4 ∧ PostS K W ι4 H4 D (loopW ft b m ρ4 Z4) :=
        fun σ4 H4 ⟨ι4, ρ4, Z4, g4, i4, p4⟩ => ⟨ι4, ρ4, Z4, (g'.trans g1).trans g4, i4, p4⟩
      exact ⟨_, fun σ2 H2 n => ⟨m, Nat.lt_succ_self m, n⟩, ι1, ρ', Z1, i1, (Zef p1).imp hN (fun _ _ q => q) (fun _ _ q => q) hN⟩
end
def itSeq (ts : List T) : ItF := fun k _ => some ts[k]?
def itLoc (i : Nat) : ItF := fun k Z => (getL Z i).map fun ts => ts[k]?
def itEnum (it : ItF) : ItF := fun k Z => (it k Z).map fun o => o.map fun t => .tup [.int (k : Int),t]
def itRng (lo : Int) (n : Nat) : ItF := fun k _ => some (if k < n then some (.int (lo + k)) else none)
def itStr (l : List Nat) : ItF := fun k _ => some (l[k]?.map fun c => .str [c])
def iSeqT (f : FE) : FI := fun ρ Z => (f ρ Z).bind fun x Z1 => match x with
  | .tup ts => .ok (itSeq ts) Z1
  | _ => .stuck
def iSeqL (f : FE) : FI := fun ρ Z => (f ρ Z).bind fun x Z1 => match x with
  | .frl ts => .ok (itSeq ts) Z1
  | .loc i => match getL Z1 i with
    | some _ => .ok (itLoc i) Z1
    | none => .stuck
  | _ => .stuck
def iStr (f : FE) : FI := fun ρ Z => (f ρ Z).bind fun x Z1 => match x with
  | .str l => .ok (itStr l) Z1
  | _ => .stuck
def iRng (f : FA) : FI := fun ρ Z => (f ρ Z).bind fun xs Z1 => match xs with
  | [.int j] => if -(2 ^ 62) ≤ j ∧ j < 2 ^ 62 then .ok (itRng 0 j.toNat) Z1 else .stuck
  | [.int i,.int j] => if -(2 ^ 62) ≤ i ∧ i < 2 ^ 62 ∧ -(2 ^ 62) ≤ j ∧ j < 2 ^ 62 then .ok (itRng i (j - i).toNat) Z1 else .stuck
  | _ => .stuck
section
variable {X : Cx} {K : PySem.W.Frag} {W : WX} {pos p : Pos} {tg l a b : Expr} {fl : FE} {fa : FA}
theorem Z8j {t t' : TI} (h : PI X tg l t) (i : ∀ σ H Q, t' σ H Q → t σ H Q) : PI X tg l t' := ⟨fun pins s σ H R I q => h.run pins s σ H R I (i _ _ _ q)⟩
theorem Zh8 {ι : List Addr} {H : Hp} {Z : Sto} {v : V} {t : T} {it : ItF} (s : Sim K ι Z H) (r : Rep K ι H v t) (e : (match t with
  | .frl ts => some (itSeq ts)
  | .loc i => match getL Z i with
    | some _ => some (itLoc i)
    | none => none
  | _ => none) = some it) : ∃ a,v = .ref a ∧ (∃ xs,SqL K H a xs) ∧ ItR K ι H (Itl K a) it := by
  cases t with
  | frl ts =>
    cases e
    cases r with
    | frl hq rs =>
      refine ⟨_, rfl, ⟨_, hq.sq⟩, fun k ι' H' Z' g' s' => ?_⟩
      have hq' := (hq.gr g').sq
      show match (itSeq ts k Z') with | none => True | some none => _ | some (some t) => _
      simp only [itSeq]
      cases e : ts[k]? with
      | none => exact ⟨_, hq', by rw [rs.length]; exact List.getElem?_eq_none_iff.mp e⟩
      | some u =>
        obtain ⟨x,h1,h2⟩ := rs.get e
        refine ⟨⟨_, x, hq', h1⟩, fun y H'' hy => ?_⟩
        obtain ⟨rfl,hy⟩ := hy
        have := hy _ hq'
        rw [h1] at this; cases this
        exact ⟨Gr.refl, s', h2.gr g'⟩
  | loc i =>
    simp only at e
    split at e
    · rename_i ts hl
      cases e
      obtain ⟨a,vs,rfl,ha,h1,h2⟩ := Z05 s (Vg hl) r
      refine ⟨a, rfl, ⟨vs, SqL.of h1⟩, fun k ι' H' Z' g' s' => ?_⟩
      simp only [itLoc]
      cases e : getL Z' i with
      | none => exact trivial
      | some ts' =>
        obtain ⟨a', vs', ea, ha', h1', h2'⟩ := Z05 s' (Vg e) (.loc (g'.pre _ _ ha))
        cases ea
        simp only [Option.map_some]
        cases e2 : ts'[k]? with
        | none => exact ⟨_, SqL.of h1', by rw [h2'.length]; exact List.getElem?_eq_none_iff.mp e2⟩
        | some u =>
          obtain ⟨x, h3, h4⟩ := h2'.get e2
          refine ⟨⟨_, x, SqL.of h1', h3⟩, fun y H'' hy => ?_⟩
          obtain ⟨rfl,hy⟩ := hy
          have := hy _ (SqL.of h1')
          rw [h3] at this; cases this
          exact ⟨Gr.refl, s', h4⟩
    · cases e
  | _ => cases e
theorem Znl (hK : X.K = K) (hl : FJ X K (Wt W) l fl) : PI X tg l (tI K W (iSeqL fl)) := by
  subst hK
  refine Z8j (pi_list hl) fun σ H Q h => ?_
  obtain ⟨ι,ρ,Z,is,p⟩ := h
  refine ⟨ι,ρ,Z,is.ie,(Zu (rep := Rep X.K) p).imp fun v H1 q => ?_⟩
  obtain ⟨ι1,Z1,t,g1,s1,r1,p1⟩ := q
  cases t with
  | frl ts =>
    obtain ⟨a,rfl,hx,hI⟩ := Zh8 (it := itSeq ts) s1 r1 rfl
    exact ⟨a,rfl,hx,p1 ι1 H1 _ Gr.refl s1 hI⟩
  | loc i =>
    simp only at p1
    split at p1
    · rename_i ts e
      obtain ⟨a,rfl,hx,hI⟩ := Zh8 (it := itLoc i) s1 r1 (by simp only [e])
      exact ⟨a,rfl,hx,p1 ι1 H1 _ Gr.refl s1 hI⟩
    · exact p1.elim
  | _ => exact p1.elim
theorem Zp5 (hK : X.K = K) (hl : FJ X K (Wt W) l fl) : PI X tg l (tI K W (iSeqT fl)) := by
  subst hK
  refine Z8j (pi_tup hl) fun σ H Q h => ?_
  obtain ⟨ι,ρ,Z,is,p⟩ := h
  refine ⟨ι,ρ,Z,is.ie,(Zu (rep := Rep X.K) p).imp fun v H1 q => ?_⟩
  obtain ⟨ι1,Z1,t,g1,s1,r1,p1⟩ := q
  cases t with
  | tup ts =>
    obtain ⟨a,vs,rfl,hq,rs⟩ := r1.tupE
    refine ⟨a, rfl, ⟨_, hq⟩, p1 ι1 H1 _ Gr.refl s1 fun k ι' H' Z' g' s' => ?_⟩
    have hq' := SqT.gr g' hq
    show match (itSeq ts k Z') with | none => True | some none => _ | some (some t) => _
    simp only [itSeq]
    cases e : ts[k]? with
    | none => exact ⟨_, hq', by rw [rs.length]; exact List.getElem?_eq_none_iff.mp e⟩
    | some u =>
      obtain ⟨x,h1,h2⟩ := rs.get e
      refine ⟨⟨_, x, hq', h1⟩, fun y H'' hy => ?_⟩
      obtain ⟨rfl,hy⟩ := hy
      have := hy _ hq'
      rw [h1] at this; cases this
      exact ⟨Gr.refl, s', h2.gr g'⟩
  | _ => exact p1.elim
theorem Zp6 (hl : FJ X K (Wt W) l fl) : PI X tg l (tI K W (iStr fl)) := by
  refine Z8j (pi_str hl) fun σ H Q h => ?_
  obtain ⟨ι,ρ,Z,is,p⟩ := h
  refine ⟨ι,ρ,Z,is.ie,(Zu (rep := Rep K) p).imp fun v H1 q => ?_⟩
  obtain ⟨ι1,Z1,t,g1,s1,r1,p1⟩ := q
  cases t with
  | str u =>
    cases r1
    refine ⟨_, rfl, p1 ι1 H1 _ Gr.refl s1 fun k ι' H' Z' g' s' => ?_⟩
    simp only [itStr]
    cases e : u[k]? with
    | none => exact show (S u).cps.size ≤ k by simpa [S] using e
    | some c =>
      have hk : k < u.length := (List.getElem?_eq_some_iff.mp e).1
      refine ⟨show k < (S u).cps.size by simpa [S] using hk, fun y H'' hy => ?_⟩
      obtain ⟨rfl, c', hc', rfl⟩ := hy
      have : c' = c := by
        have h2 : u[k]? = some c' := by simpa [S] using hc'
        rw [e] at h2; exact (Option.some.inj h2).symm
      subst this
      exact ⟨Gr.refl, s', .str [c']⟩
  | _ => exact p1.elim
theorem Zmw {ι : List Addr} {H : Hp} (lo : Int) (n : Nat) : ItR K ι H (Itr lo n) (itRng lo n) := fun k ι' H' Z' g' s' => by
  simp only [itRng]
  by_cases h : k < n
  · rw [if_pos h]
    refine ⟨h, fun y H'' hy => ?_⟩
    obtain ⟨rfl,rfl⟩ := hy
    exact ⟨Gr.refl, s', .int _⟩
  · rw [if_neg h]
    exact Nat.le_of_not_lt h
theorem Z3n (hg : Gl X "range") (hm : X.mg "range" = none) (ha : FAJ X K (Wt W) [a] fa) (hn : ofLen [a] fa) (hs : starEach [a] X.env = [(false, eval a X.env)] := by rfl) : PI X tg (.Call (.Name "range" p) [a] [] pos) (tI K W (iRng fa)) := by
  refine Z8j (pi_range1 hg hm ha hs) fun σ H Q h => ?_
  obtain ⟨ι,ρ,Z,is,p⟩ := h
  refine ⟨ι,ρ,Z,is.ie,?_⟩
  unfold iRng at p
  cases e : fa ρ Z with
  | ok ts Z1 =>
    rw [e,Xr] at p
    have hl := hn _ _ _ _ e
    intro ι1 H1 vs g1 s1 r1
    match ts,r1,hl with
    | [t],.cons r .nil,_ =>
      cases t with
      | int j =>
        simp only at p
        split at p
        · rename_i hb
          cases r
          exact ⟨j,rfl,hb.1,hb.2,p ι1 H1 _ g1 s1 (Zmw _ _)⟩
        · exact p.elim
      | _ => exact p.elim
  | exc x Z1 => rw [e] at p; exact p
  | stuck => rw [e] at p; exact p
theorem Zje (hg : Gl X "range") (hm : X.mg "range" = none) (ha : FAJ X K (Wt W) [a, b] fa) (hn : ofLen [a, b] fa) (hs : starEach [a, b] X.env = [(false, eval a X.env), (false, eval b X.env)] := by rfl) (hs2 : starEach [b] X.env = [(false, eval b X.env)] := by rfl) : PI X tg (.Call (.Name "range" p) [a, b] [] pos) (tI K W (iRng fa)) := by
  refine Z8j (pi_range2 hg hm ha hs hs2) fun σ H Q h => ?_
  obtain ⟨ι,ρ,Z,is,p⟩ := h
  refine ⟨ι,ρ,Z,is.ie,?_⟩
  unfold iRng at p
  cases e : fa ρ Z with
  | ok ts Z1 =>
    rw [e,Xr] at p
    have hl := hn _ _ _ _ e
    intro ι1 H1 vs g1 s1 r1
    match ts,r1,hl with
    | [t,u],.cons r (.cons r2 .nil),_ =>
      cases t with
      | int i =>
        cases u with
        | int j =>
          simp only at p
          split at p
          · rename_i hb
            cases r; cases r2
            exact ⟨i,j,rfl,hb,p ι1 H1 _ g1 s1 (Zmw _ _)⟩
          · exact p.elim
        | _ => exact p.elim
      | _ => cases u <;> exact p.elim
  | exc x Z1 => rw [e] at p; exact p
  | stuck => rw [e] at p; exact p
def iEnm (f : FA) : FI := fun ρ Z => (f ρ Z).bind fun xs Z1 => match xs with
  | [.frl ts] => .ok (itEnum (itSeq ts)) Z1
  | [.loc i] => match getL Z1 i with
    | some _ => .ok (itEnum (itLoc i)) Z1
    | none => .stuck
  | _ => .stuck
theorem Zmx {ι : List Addr} {H : Hp} {a : Addr} {it : ItF} (h : ItR K ι H (Itl K a) it) : ItR K ι H (Ite K a) (itEnum it) := fun k ι' H' Z' g' s' => by
  have h' := h k ι' H' Z' g' s'
  simp only [itEnum]
  cases e : it k Z' with
  | none => exact trivial
  | some o =>
    rw [e] at h'
    cases o with
    | none => exact h'
    | some t =>
      refine ⟨h'.1, fun x H'' y => ?_⟩
      obtain ⟨p,v,rfl,np,rfl,hv⟩ := y
      obtain ⟨_, _, r⟩ := h'.2 v H' ⟨rfl, hv⟩
      exact ⟨Gr.new0 np, s'.same (Z0x np), .tup (SqT.of upd_same) (.cons (.int _) (.cons (r.gr (Gr.new0 np)) .nil))⟩
theorem Znm {tpos : Pos} {elts : List Expr} {kk : Nat} (hK : X.K = K) (hg : Gl X "enumerate") (hm : X.mg "enumerate" = none) (ha : FAJ X K (Wt W) [a] fa) (hn : ofLen [a] fa) (hs : starEach [a] X.env = [(false, eval a X.env)] := by rfl) : PI X (.Tuple elts kk tpos) (.Call (.Name "enumerate" p) [a] [] pos) (tI K W (iEnm fa)) := by
  subst hK
  refine Z8j (pi_enum hg hm ha hs) fun σ H Q h => ?_
  obtain ⟨ι,ρ,Z,is,p⟩ := h
  refine ⟨ι,ρ,Z,is.ie,?_⟩
  unfold iEnm at p
  cases e : fa ρ Z with
  | ok ts Z1 =>
    rw [e,Xr] at p
    have hl := hn _ _ _ _ e
    intro ι1 H1 vs g1 s1 r1
    match ts,r1,hl with
    | [t],.cons r .nil,_ =>
      cases t with
      | frl us =>
        obtain ⟨b,rfl,⟨xs,hx⟩,hI⟩ := Zh8 (it := itSeq us) s1 r rfl
        exact ⟨b,xs,rfl,hx,p ι1 H1 _ g1 s1 (Zmx hI)⟩
      | loc i =>
        simp only at p
        split at p
        · rename_i us e
          obtain ⟨b,rfl,⟨xs,hx⟩,hI⟩ := Zh8 (it := itLoc i) s1 r (by simp only [e])
          exact ⟨b,xs,rfl,hx,p ι1 H1 _ g1 s1 (Zmx hI)⟩
        · exact p.elim
      | _ => exact p.elim
  | exc x Z1 => rw [e] at p; exact p
  | stuck => rw [e] at p; exact p
end
end Fx
set_option maxHeartbeats 4000000
namespace Fx
open PySem PySem.Spec PyProof.Rows L2 SX Ap
variable [Tb]
abbrev FF := List T → Sto → R T
def spF (K : PySem.W.Frag) (n : Nat) (F : FF) : Sp := fun vs H Q E => vs.length = n ∧ ∃ ι Z ts,Sim K ι Z H ∧ Reps K ι H vs ts ∧ Post (Rep K) K (fun cls d _ H => E cls d H) [] ι H Q (F ts Z)
def runF (n : Nat) (b : FS) : FF := fun ts Z => match b (ts.map some ++ List.replicate (n - ts.length) none) Z with
  | .nx _ Z' => .ok .non Z'
  | .rt t Z' => .ok t Z'
  | .exc x _ Z' => .exc x Z'
  | _ => .stuck
theorem Zi6 {K : PySem.W.Frag} {ι : List Addr} {H : Hp} {vs : List V} {ts : List T} (r : Reps K ι H vs ts) (m : Nat) : Envs K ι H (vs.map some ++ List.replicate m none) (ts.map some ++ List.replicate m none) := fun i t h => by
  by_cases hi : i < ts.length
  · rw [List.getElem?_append_left (by rw [List.length_map]; exact hi),List.getElem?_map] at h
    cases e : ts[i]? with
    | none => rw [e] at h; cases h
    | some u =>
      rw [e] at h
      cases h
      obtain ⟨v,h1,h2⟩ := r.get e
      exact ⟨v,by rw [List.getElem?_append_left (by rw [List.length_map,r.length]; exact hi),List.getElem?_map,h1]; rfl,h2⟩
  · rw [List.getElem?_append_right (by rw [List.length_map]; omega)] at h
    rw [List.getElem?_replicate] at h
    split at h <;> cases h
abbrev FnG (P : Program) (w : World) (K : PySem.W.Frag) (mg : PySem.Str → Option Value) (base : Heap) (k : Nat) (f : Addr) (fd : FuncData) (ps : List PySem.Str) (sp : Sp) : Prop := GOk P w K mg base (L2.CX P w) k f fd ps sp
section
variable {P : Program} {w : World} {K : PySem.W.Frag} {mg : PySem.Str → Option Value} {base : Heap}
theorem fn_GX {k : Nat} {f : Addr} {name qual : PySem.Str} {params : Arguments} {body : List Stmt} {scope : Scope} {dV kV doc pm cdv ct oc : Value} {an od : Option Addr}
    {osl : Array (Option Value)} {N ps : List PySem.Str} {sp : Sp} (lk : K.lookup f = some ⟨oc,od,.func (PySem.W.fnOf name qual params body scope dV kV doc pm an cdv ct),osl⟩) (hcd : PySem.W.codeIn K cdv qual = true) (S : FnScope N ps scope)
    (len : ∀ vs H Q E,sp vs H Q E → vs.length = ps.length)
    (hbody : ∀ (A : Around) (outer : List PySem.Env) (s : Shared) (H : Hp) (vs : List V) (Q : VK) (E : XK),Room k (A.deeper (envOfC qual scope s.heap.objs.size f cdv)) → A.guards = some [] → sp vs H Q E →
      ∃ t, PSs (cxOf (L2.CX P w) P w K mg base N qual scope f cdv A outer s H E) body t ∧ t { nx := fun _ H' => Q .non H', rt := Q } (L2.start N vs) H) :
    FnG P w K mg base (k + 1) f (PySem.W.fnOf name qual params body scope dV kV doc pm an cdv ct) ps sp := by
  refine ⟨len,fun A outer s H args us vs Q E hr hG e0 hb r hsp => ?_⟩
  have hl := len _ _ _ _ hsp
  have KX : K.In s.heap := e0.mod.kin.keeps fun b o e => (e0.bs b o e).1
  have lim : s.heap.NoLimit := e0.mod.nolimit.keeps fun b o e => (e0.bs b o e).1
  have hkind : ∀ y ∈ ps.zip us,scope.names.lookup y.1 = some .local ∨ (scope.names.lookup y.1 = some .cell ∧ ((cellsFrom (s.heap.objs.size + 1) scope.names []).lookup y.1).isSome = true) := fun ⟨n,v⟩ hy => by
    rcases S.par n (List.of_mem_zip hy).1 with q | q
    · exact .inl q
    · exact .inr ⟨q,PySem.W.cellsFrom_some _ _ _ (.inl q)⟩
  refine codeAny_call_function hr.depth (KX _ _ lk) rfl S.co S.gen rfl (PySem.W.codeRec_of KX hcd) (hb _ _ _ _ ?_)
  refine wpAny_newFunctionEnv_cells S.kind hkind fun env he s1 x => ?_
  subst he
  refine ⟨lim.keeps x.toInCall.keep,codeAny_func ?_⟩
  obtain ⟨t,ht,hq⟩ := hbody A outer s H vs Q E (hr.deeper _) hG hsp
  have I : Inv (cxOf (L2.CX P w) P w K mg base N qual scope f cdv A outer s H E) [] (L2.start N vs) H s1 := inv_start S hr.hd e0 hl r x
  refine wpAny_mono (ht.run [] s1 (L2.start N vs) H _ I hq) (fun fl s' hs => ?_) fun e s' hs => hs
  have fin : ∀ {σ' : L2.St} {H' : Hp} {v : V} {u : Value}, Inv (cxOf (L2.CX P w) P w K mg base N qual scope f cdv A outer s H E) [] σ' H' s' → RelV v u → Q v H' → CE outer P w H s Q u s' :=
    fun {σ' H' v u} J rv q => ⟨v, H', J.os, J.bare, J.base, J.hok, rv, q⟩
  cases fl with
  | ret u =>
    obtain ⟨v, σ', H', J, rv, q⟩ := hs
    exact fin J rv q
  | next =>
    obtain ⟨σ', H', J, q⟩ := hs
    exact fin (v := V.non) (u := Value.none) J rfl q
  | brk =>
    obtain ⟨_,_,_,q⟩ := hs
    exact False.elim q
  | cont =>
    obtain ⟨_,_,_,q⟩ := hs
    exact False.elim q
def BodyJ (P : Program) (w : World) (K : PySem.W.Frag) (mg : PySem.Str → Option Value) (base : Heap) (k : Nat) (f : Addr) (N : List PySem.Str) (qual : PySem.Str) (scope : Scope) (body : List Stmt) (b : FS) : Prop :=
  ∀ (cdv : Value) (A : Around) (outer : List PySem.Env) (s : Shared) (H : Hp) (E : XK),Room k (A.deeper (envOfC qual scope s.heap.objs.size f cdv)) → A.guards = some [] →
    FBJ (cxOf (L2.CX P w) P w K mg base N qual scope f cdv A outer s H E) K (fun cls d _ H => E cls d H) body b
theorem Zp7 {k : Nat} {f : Addr} {N : List PySem.Str} {qual : PySem.Str} {scope : Scope} {body : List Stmt} {b : FS} {n : Nat} (hb : BodyJ P w K mg base k f N qual scope body b) (cdv : Value) (A : Around) (outer : List PySem.Env) (s : Shared) (H : Hp) (vs : List V) (Q : VK) (E : XK) (hr : Room k (A.deeper (envOfC qual scope s.heap.objs.size f cdv))) (hG : A.guards = some []) (h : spF K n (runF N.length b) vs H Q E) :
      ∃ t, PSs (cxOf (L2.CX P w) P w K mg base N qual scope f cdv A outer s H E) body t ∧ t { nx := fun _ H' => Q .non H', rt := Q } (L2.start N vs) H := by
  refine ⟨_,hb cdv A outer s H E hr hG,?_⟩
  obtain ⟨hl,ι,Z,ts,sim,r,p⟩ := h
  have hl2 := r.length
  refine ⟨ι,ts.map some ++ List.replicate (N.length - ts.length) none,Z,⟨by simp only [L2.start,List.length_append,List.length_map,List.length_replicate]; omega,?_,sim⟩,?_⟩
  · have := Zi6 r (N.length - ts.length)
    unfold L2.start
    rw [hl2]
    exact this
  · unfold runF at p
    split at p
    · rename_i e; rw [e]; exact fun ι' H' σ' g is => p ι' H' _ g is.sim .non
    · rename_i e; rw [e]; exact p
    · rename_i e; rw [e]; exact fun ι' H' σ' cls d g is rx => p ι' H' cls d g is.sim rx
    · exact p.elim
theorem fnFD {x qual : PySem.Str} {params : Arguments} {body : List Stmt} {scope : Scope} {dvs : List V} {kws : List (PySem.Str × V)} {f : Addr} {fd : FuncData} {N ps : List PySem.Str} {k : Nat} {b : FS} (F : FunD K x qual params body scope dvs kws f fd) (S : FnScope N ps scope) (hb : BodyJ P w K mg base k f N qual scope body b) :
    FnG P w K mg base (k + 1) f fd ps (spF K ps.length (runF N.length b)) := by
  obtain ⟨oc,od,dV,kV,doc,pm,an,cdv,ct,osl,rfl,lk,hcd,_,_⟩ := F.ex
  exact fn_GX lk hcd S (fun vs H Q E h => h.1) fun A outer s H vs Q E hr hG h => Zp7 hb cdv A outer s H vs Q E hr hG h
theorem Zp8 {f : Addr} {fd : FuncData} {ps : List PySem.Str} {k : Nat} {sp : Sp} {n : Nat} {F : FF} (G : FnOk P w K mg base CX0 k f fd ps sp) (h : ∀ vs H Q E,spF K n F vs H Q E → sp vs H Q E) : FnG P w K mg base k f fd ps (spF K n F) :=
  ⟨fun vs H Q E q => G.len vs H Q E (h _ _ _ _ q), fun A outer s H as us vs Q E r _ e0 hb rv q => codeAny_mono (G.run A outer s H as us vs Q E r e0 hb rv (h _ _ _ _ q)) fun r s' z => by
    cases r with
    | error e => exact (show False from z).elim
    | ok f => cases f <;> exact z⟩
end
def eCall (F : FF) (ds : List T) (fa : FA) : FE := fun ρ Z => (fa ρ Z).bind fun ts Z1 => F (ts ++ ds) Z1
def eCallB (g : List T → Sto → Option (T × Sto)) (fa : FA) : FE := fun ρ Z => (fa ρ Z).bind fun xs Z1 => lift (g xs Z1)
def Dfl (K : PySem.W.Frag) (vs : List V) (ts : List T) : Prop := ∀ ι H,Reps K ι H vs ts
theorem Dfl.nil {K : PySem.W.Frag} : Dfl K [] [] := fun _ _ => .nil
section
variable {X : Cx} {K : PySem.W.Frag} {W : Wc} {x : PySem.Str} {p pos : Pos} {e : Expr} {es : List Expr} {fa : FA} {k n : Nat} {f : Addr} {fd : FuncData} {ps : List PySem.Str} {F : FF} {dvs : List V} {ds : List Value} {dts : List T}
theorem Znn {pins : List (Addr × Obj)} {σ : L2.St} {H : Hp} {s : Shared} {Q : VK} {us : List Value} {vs : List V} {sp : Sp} (G : FnG X.prog X.w X.K X.mg X.base k f fd ps sp) (hr : Room k X.A) (hG : X.A.guards = some []) (hb : Binds X.K fd ps ds) (hd : Vals dvs ds) (tk : Takes X W.w)
    (I : Inv X pins σ H s) (r : Vals vs us) (h : sp (vs ++ dvs) H Q (WE W.w σ)) : wpAny (model X.prog X.w) X.A (call (.ref f) us) (EP X pins σ Q) X.xe s := by
  have r2 : Vals (vs ++ dvs) (us ++ ds) := r.append hd
  have hl : (us ++ ds).length = ps.length := by rw [← r2.length]; exact G.len _ _ _ _ h
  refine wpAny_call (codeAny_mono (G.run X.A X.stack s H ⟨us, []⟩ (us ++ ds) (vs ++ dvs) Q (WE W.w σ) hr hG I.env0 (hb s us I.kIn hl) r2 h) fun r s' hq => ?_)
  cases r with
  | error e => exact passAt tk σ pins H s e s' I hq
  | ok fl =>
    cases fl with
    | ret u => exact I.after hq
    | next => exact False.elim hq
    | brk => exact False.elim hq
    | cont => exact False.elim hq
theorem Post.wx {α β : Type} {rep : List Addr → Hp → β → α → Prop} {W W' : WX} {σ σ' : L2.St} {ι : List Addr} {H : Hp} {Q : β → Hp → Prop} {r : R α} (h : Post rep K W σ ι H Q r) (i : ∀ cls d H, W cls d σ H → W' cls d σ' H) : Post rep K W' σ' ι H Q r := by
  cases r with
  | ok => exact h
  | exc => exact fun ι' H' cls d g s rx => i _ _ _ (h ι' H' cls d g s rx)
  | stuck => exact h
theorem Y9 (hK : X.K = K) (G : FnG X.prog X.w X.K X.mg X.base k f fd ps (spF X.K n F)) (hr : Room k X.A) (hG : X.A.guards = some []) (hg : Gl X x) (hm : X.mg x = some (.ref f)) (hk : PySem.W.keepIn X.K (.ref f) = true) (hb : Binds X.K fd ps ds) (hd : Vals dvs ds) (hdf : Dfl K dvs dts) (tk : Takes X W.w)
    (ha : FAJ X K W (e :: es) fa) (hn : ofLen (e :: es) fa) (hln : (e :: es).length + dts.length = n := by rfl) (hdb : (x == ("__debug__" : PySem.Str)) = false := by decide) (he : starEach (e :: es) X.env = (false, eval e X.env) :: starEach es X.env := by rfl) (hpl : (backTo pos (starEach es X.env)).any (·.1) = false := by rfl) :
    FJ X K W (.Call (.Name x p) (e :: es) [] pos) (eCall F dts fa) := by
  subst hK
  refine ⟨fun pins s σ H Q I h => ?_⟩
  refine wpAny_Call_Name_kw (ld_glob I hg hm ?_ hdb)
  obtain ⟨ι,ρ,Z,is,p⟩ := h
  have t : tFA X.K W fa σ H (fun vs H1 => spF X.K n F (vs ++ dvs) H1 Q (WE W.w σ)) := by
    refine ⟨ι,ρ,Z,is,?_⟩
    unfold eCall at p
    cases e : fa ρ Z with
    | ok ts Z1 =>
      rw [e,Xr] at p
      refine fun ι1 H1 vs g1 s1 r1 => ?_
      have r2 := r1.append (hdf ι1 H1)
      refine ⟨?_,ι1,Z1,_,s1,r2,(p.shift g1).wx fun _ _ _ h => h⟩
      rw [r2.length,List.length_append,hn _ _ _ _ e]
      exact hln
    | exc y Z1 => rw [e] at p; exact p
    | stuck => rw [e] at p; exact p
  refine PySem.W.callWith_K (h₀ := X.base) I.ok.mod.kin hk (thn (ha.run pos pins s σ H _ I t) fun us s1 ⟨vs,H1,I1,r,q⟩ => ⟨I1.kIn,?_⟩) he hpl
  exact Znn G hr hG hb hd tk I1 r q
theorem Zh9 {r : List V → Hp → VK → Prop} {g : List T → Sto → Option (T × Sto)} (hr : ∀ xs H Q,rFC K g xs H Q → r xs H Q) {σ : L2.St} {H : Hp} {Q : VK} (h : tF K W (eCallB g fa) σ H Q) : tCB r (tFA K W fa) σ H Q := by
  obtain ⟨ι,ρ,Z,is,p⟩ := h
  refine ⟨ι,ρ,Z,is,(Zu (rep := Reps K) p).imp fun xs H1 q => ?_⟩
  obtain ⟨ι1,Z1,ts,g1,s1,r1,p1⟩ := q
  exact hr _ _ _ ⟨ι1,Z1,ts,s1,r1,Q3 p1⟩
theorem Yo {id : String} {g : List T → Sto → Option (T × Sto)} (hc : CallR X (.builtin id) (rFC K g)) (hg : Gl X x) (hm : X.mg x = none) (hv : bootBuiltins x = some (.builtin id)) (ha : FAJ X K W (e :: es) fa) (hn : x ≠ "__name__" := by decide) (hdb : (x == ("__debug__" : PySem.Str)) = false := by decide)
    (he : starEach (e :: es) X.env = (false,eval e X.env) :: starEach es X.env := by rfl) (hpl : (backTo pos (starEach es X.env)).any (·.1) = false := by rfl) : FJ X K W (.Call (.Name x p) (e :: es) [] pos) (eCallB g fa) :=
  Uu (pe_callB hc hg hm hv ha hn hdb he hpl) fun _ _ _ h => Zh9 (fun _ _ _ h => h) h
theorem Xb {id : String} {g : List T → Sto → Option (T × Sto)} (hc : CallR X (.type id) (rFC K g)) (hg : Gl X x) (hm : X.mg x = none) (hv : bootBuiltins x = some (.type id)) (ha : FAJ X K W (e :: es) fa) (hn : x ≠ "__name__" := by decide) (hdb : (x == ("__debug__" : PySem.Str)) = false := by decide)
    (he : starEach (e :: es) X.env = (false,eval e X.env) :: starEach es X.env := by rfl) (hpl : (backTo pos (starEach es X.env)).any (·.1) = false := by rfl) : FJ X K W (.Call (.Name x p) (e :: es) [] pos) (eCallB g fa) :=
  Uu (pe_callTy hc hg hm hv ha hn hdb he hpl) fun _ _ _ h => Zh9 (fun _ _ _ h => h) h
end
def gLen : List T → Sto → Option (T × Sto)
  | [.str l],Z => if l.length ≤ Lim then some (.int l.length,Z) else none
  | [t],Z => (asSeq t Z).map fun ts => (.int ts.length,Z)
  | _,_ => none
def gMax : List T → Sto → Option (T × Sto)
  | [.int i,.int j],Z => some (.int (if j > i then j else i),Z)
  | _,_ => none
def gMin : List T → Sto → Option (T × Sto)
  | [.int i,.int j],Z => some (.int (if j < i then j else i),Z)
  | _,_ => none
def gAbs : List T → Sto → Option (T × Sto)
  | [.int i],Z => some (.int (if i < 0 then -i else i),Z)
  | _,_ => none
def gInt : List T → Sto → Option (T × Sto)
  | [.int i],Z => some (.int i,Z)
  | [.bl b],Z => some (.int (if b then 1 else 0),Z)
  | _,_ => none
def gTuple : List T → Sto → Option (T × Sto)
  | [.tup ts],Z => some (.tup ts,Z)
  | [t],Z => (asList t Z).map fun ts => (.tup ts,Z)
  | _,_ => none
def tyT : T → Sto → Option String
  | .non, _ => some "NoneType" | .bl _, _ => some "bool" | .int _, _ => some "int" | .str _, _ => some "str" | .tup _, _ => some "tuple" | .frl _, _ => some "list"
  | .loc i,Z => match Z[i]? with
    | some (.lst _) => some "list"
    | some (.dk _) => some "dict"
    | some (.dt _) => some "dict"
    | _ => none
  | _,_ => none
def clsT : T → Option String
  | .ty n => some n
  | _ => none
def gIsiB (t : T) (c : T) (Z : Sto) : Option Bool := match tyT t Z,clsT c with
  | some a,some b => kitB a b
  | _,_ => none
def gIsi : List T → Sto → Option (T × Sto)
  | [t,.ty n],Z => (gIsiB t (.ty n) Z).map fun b => (.bl b,Z)
  | [t,.tup cs],Z => if (tyT t Z).isSome = true then ((cs.mapM fun c => gIsiB t c Z).map fun bs => (.bl (bs.any id),Z)) else none
  | _,_ => none
section
variable {X : Cx} {K : PySem.W.Frag}
theorem Reps.one {ι : List Addr} {H : Hp} {vs : List V} {t : T} (r : Reps K ι H vs [t]) : ∃ v,vs = [v] ∧ Rep K ι H v t := by
  cases r with
  | cons r q => cases q; exact ⟨_,rfl,r⟩
theorem Reps.two {ι : List Addr} {H : Hp} {vs : List V} {t u : T} (r : Reps K ι H vs [t,u]) : ∃ v w,vs = [v,w] ∧ Rep K ι H v t ∧ Rep K ι H w u := by
  cases r with
  | cons r q =>
    obtain ⟨w,rfl,r2⟩ := q.one
    exact ⟨_,_,rfl,r,r2⟩
theorem Z6p (hK : X.K = K) : CallR X (.builtin "len") (rFC K gLen) := by
  subst hK
  refine Q4 (Zg2 call_len_str call_len_seq) fun xs H Q h => ?_
  obtain ⟨ι,Z,ts,s,r,p⟩ := h
  match ts,r,p with
  | [],_,p => exact p.elim
  | _ :: _ :: _,_,p => simp only [gLen] at p; exact p.elim
  | [t],r,p =>
    obtain ⟨v,rfl,rr⟩ := r.one
    by_cases hs : ∃ l,t = .str l
    · obtain ⟨l,rfl⟩ := hs
      simp only [gLen] at p
      split at p
      · rename_i hz
        cases rr
        exact .inl ⟨_,rfl,by rw [S_len]; exact Z3e hz,by rw [S_len]; exact Yl p s (.int _)⟩
      · exact p.elim
    · have e0 : gLen [t] Z = (asSeq t Z).map fun ts => (.int ts.length,Z) := by
        cases t <;> first | rfl | exact absurd ⟨_,rfl⟩ hs
      rw [e0] at p
      cases e : asSeq t Z with
      | none => rw [e] at p; exact p.elim
      | some us =>
        rw [e] at p
        obtain ⟨a,vs,rfl,hq,rs⟩ := Z6l s rr e
        exact .inr ⟨a,vs,rfl,hq,by rw [rs.length]; exact Yl p s (.int _)⟩
theorem Zeg (hc : X.calm = true) : CallR X (.builtin "max") (rFC K gMax) := Q4 (call_max2 hc) fun xs H Q h => by
  obtain ⟨ι,Z,ts,s,r,p⟩ := h
  unfold gMax at p
  split at p
  · obtain ⟨v,w,rfl,r1,r2⟩ := r.two
    cases r1; cases r2
    exact ⟨_,_,rfl,Yl p s (.int _)⟩
  · exact p.elim
theorem Zlk (hc : X.calm = true) : CallR X (.builtin "min") (rFC K gMin) := Q4 (call_min2 hc) fun xs H Q h => by
  obtain ⟨ι,Z,ts,s,r,p⟩ := h
  unfold gMin at p
  split at p
  · obtain ⟨v,w,rfl,r1,r2⟩ := r.two
    cases r1; cases r2
    exact ⟨_,_,rfl,Yl p s (.int _)⟩
  · exact p.elim
theorem Zmy {ι : List Addr} {H : Hp} {Z : Sto} {v : V} {t : T} {n : String} (s : Sim K ι Z H) (r : Rep K ι H v t) (e : tyT t Z = some n) : TyX K H v (.type n) := by
  cases r with
  | non => cases e; exact .base .non
  | bl b => cases e; exact .base (.bl b)
  | int i => cases e; exact .base (.int i)
  | str l => cases e; exact .base (.str _)
  | tup h r =>
    cases e
    rcases h with (h | ⟨o,h⟩) | ⟨o,its,n,h,hc,_⟩
    · exact .base (.tup h)
    · exact .fTuple h
    · exact .kTuple h hc
  | loc h =>
    simp only [tyT] at e
    split at e
    · rename_i hz
      obtain ⟨a', h1, vs, h2, _⟩ := s.at hz
      rw [h] at h1; cases h1; cases e
      exact .base (.lst h2)
    · rename_i hz
      obtain ⟨a', h1, vs, h2, _⟩ := s.at hz
      rw [h] at h1; cases h1; cases e
      exact .base (.dK h2)
    · rename_i hz
      obtain ⟨a', h1, vs, h2, _⟩ := s.at hz
      rw [h] at h1; cases h1; cases e
      exact .base (.dT h2)
    · cases e
  | frl h r =>
    cases e
    rcases h with ⟨o,h⟩ | ⟨o,its,n,h,hc,_⟩
    · exact .base (.frz h)
    · exact .kList h hc
  | ref a => cases e
  | ty m => cases e
  | lam h j => cases e
  | ktp h r => cases e
def rIsiU (K : PySem.W.Frag) : List V → Hp → VK → Prop := fun xs H Q => ∃ (x : V) (tp : Addr) (cs : List V) (t : Value) (us : List Value) (b : Bool),xs = [x,.ref tp] ∧ SqT K H tp cs ∧ Paired ClsV cs us ∧ TyX K H x t ∧ PySem.W.kitAny K t us = some b ∧ Q (.bl b) H
theorem Zjf : CallR X (.builtin "isinstance") (rIsiU X.K) := by
  intro pins s σ H xs us Q I r h
  obtain ⟨x,tp,cs,t,ws,b,rfl,hT,k,ty,e,q⟩ := h
  obtain ⟨u1,u2,rfl,r1,r2⟩ := vals2 r
  cases (show u2 = Value.ref tp from r2)
  obtain ⟨P,Z,p,hx⟩ := kit_of I r1 ty
  obtain ⟨its,rv,⟨o,h1,h2,n,h3⟩,_⟩ := I.tuple hT
  have e3 := ClsV.all k rv
  subst e3
  obtain ⟨oc,od,dt,sl⟩ := o
  simp only at h2 h3
  subst h2 h3
  exact PySem.W.kia_tup Z I.kIn p h1 e hx fun tk => ⟨.bl b,H,I.tok tk,rfl,q⟩
theorem isiAll {ι : List Addr} {H : Hp} {Z : Sto} {t : T} {n : String} (e : tyT t Z = some n) : ∀ {cs : List T} {vs : List V} {bs : List Bool},Reps K ι H vs cs → Paired (fun c b => gIsiB t c Z = some b) cs bs → ∃ us,Paired ClsV vs us ∧ PySem.W.kitAny K (.type n) us = some (bs.any id)
  | _,_,_,.nil,.nil => ⟨[],.nil,rfl⟩
  | _,_,_,.cons r q,.cons h p => by
    obtain ⟨us,h1,h2⟩ := isiAll e q p
    unfold gIsiB at h
    rw [e] at h
    rename_i v vs c cs b bs
    cases c with
    | ty m =>
      cases r
      refine ⟨.type m :: us,.cons (.ty m) h1,?_⟩
      refine kitAny_cons (kit_ty (show kitB n m = some b from h)) (fun hb => ?_) (fun hb => ?_)
      · rw [h2,List.any_cons,hb]; rfl
      · rw [List.any_cons,hb]; rfl
    | _ => cases h
theorem Zjg (hK : X.K = K) : CallR X (.builtin "isinstance") (rFC K gIsi) := by
  subst hK
  refine Q4 (Zg2 call_isi Zjf) fun xs H Q h => ?_
  obtain ⟨ι,Z,ts,s,r,p⟩ := h
  unfold gIsi at p
  split at p
  · obtain ⟨v,w,rfl,r1,r2⟩ := r.two
    cases r2
    rename_i t n
    cases e : gIsiB t (.ty n) Z with
    | none => rw [e] at p; exact p.elim
    | some b =>
      rw [e] at p
      unfold gIsiB at e
      split at e
      · rename_i a b' e1 e2
        cases e2
        exact .inl ⟨v,_,_,_,b,rfl,.ty _,Zmy s r1 e1,kit_ty e,Yl p s (.bl _)⟩
      · cases e
  · obtain ⟨v,w,rfl,r1,r2⟩ := r.two
    rename_i t cs
    obtain ⟨a,vs,rfl,hq,rs⟩ := r2.tupE
    split at p
    case isFalse => exact p.elim
    rename_i hty
    cases e : cs.mapM fun c => gIsiB t c Z with
    | none => rw [e] at p; exact p.elim
    | some bs =>
      rw [e] at p
      have pa := Z2h e
      cases et : tyT t Z with
      | none => rw [et] at hty; cases hty
      | some n =>
        obtain ⟨us,h1,h2⟩ := isiAll et rs pa
        exact .inr ⟨v,a,vs,_,us,_,rfl,hq,h1,Zmy s r1 et,h2,Yl p s (.bl _)⟩
  · exact p.elim
end
end Fx
set_option maxHeartbeats 4000000
namespace Ap
open PySem PySem.Spec PyProof.Rows L2 SX
structure BaseC (K : PySem.W.Frag) (C0 : Addr) : Prop where
  ga : PySem.W.specialIn K (.ref C0) "__getattribute__" = some (some (.builtin "type.__getattribute__"))
  rd : PySem.W.readsIn K C0 (.type "type") = true
  iv : PySem.W.findCls K (.ref C0) (.type "type") "__init__" = some (.val (.builtin "ValueError.__init__"))
section
variable {X : Cx} {e : Expr} {es : List Expr} {ta : TA} {p1 p2 pos : Pos} {x : PySem.Str} {C0 : Addr}
theorem Zjh {pl : Sem Bool} (hg : Gl X x) (hm : X.mg x = some (.ref C0)) (B : BaseC X.K C0) (hd : (x == ("__debug__" : PySem.Str)) = false) (ha : PA X (e :: es) ta)
    (hc : eval (.Call (.Attribute (.Name x p1) "__init__" p2) (e :: es) [] pos) X.env = (do
      let ov ← eval (.Name x p1) X.env
      standAt p2.atName
      let (f, first) ← holding [ov] (getMethod ov "__init__" pl)
      callWith pos f first (backTo pos (starEach (e :: es) X.env)) (backToKw pos (keywordEach [] X.env))) := by rfl)
    (he : starEach (e :: es) X.env = (false,eval e X.env) :: starEach es X.env := by rfl) (hpl : (backTo pos (starEach es X.env)).any (·.1) = false := by rfl) :
    PE X (.Call (.Attribute (.Name x p1) "__init__" p2) (e :: es) [] pos) (tVeI X.K ta) := by
  refine ⟨fun pins s σ H Q I h => ?_⟩
  refine PySem.W.methodCall_KW (ld_glob I hg hm ?_ hd) hc
  refine PySem.W.method_cls I.kIn B.ga (PySem.W.cls_value I.kIn B.rd B.iv (by decide +kernel) ?_)
  show wpAny _ _ (callWith pos (Value.builtin "ValueError.__init__") [] (backTo pos (starEach (e :: es) X.env)) []) _ _ _
  refine PyProof.Rows.callWith_method1 (thn (ha.run pos pins _ σ H _ (I.tok _) h) fun us s1 ⟨vs,H1,I1,r1,a,C,ws,ev,hl,T,ea,q⟩ => ?_) he hpl
  subst ev
  cases r1 with
  | @cons _ u0 _ ur ra rw' =>
    obtain rfl : u0 = Value.ref a := ra
    have hlen : ur.length ≤ sizeLine := by
      rw [← Paired.length rw', sizeLine_eq]
      omega
    exact oinit_ok T I1 ea hlen fun s' J => ⟨.non, H1, J, rfl, q⟩
end
end Ap
set_option maxHeartbeats 4000000
namespace Ap
open PySem PySem.Spec PySem.Calls PyProof.Rows PySem.W
end Ap
set_option maxHeartbeats 4000000
namespace Ap
open PySem PySem.Spec PyProof.Rows L2 SX
theorem Z8k (a b : List Nat) : Txt.startswith (S a) (S b) = b.isPrefixOf a := by
  have e : (S a).cps.toList = a := rfl
  have e2 : (S b).cps.toList = b := rfl
  unfold Txt.startswith
  rw [S_len,S_len,Nat.zero_add]
  by_cases h : b.length ≤ a.length
  · rw [decide_eq_true h,Bool.true_and]
    have : PySem.Builtin.Str.subAt (S a) (S b) 0 = true ↔ (a.drop 0).take b.length = b := by
      constructor
      · intro k
        have := PySem.StrLaws.at_take (x := S a) (y := S b) (k := 0) ⟨by rw [S_len,S_len]; omega,k⟩
        exact this
      · intro k
        by_cases hb : b = []
        · subst hb; unfold PySem.Builtin.Str.subAt; simp [S,Str.length]
        · exact (PySem.StrLaws.take_at (x := S a) (y := S b) (k := 0) (by rw [S_len]; exact List.length_pos_iff.mpr hb) k).2
    rw [Bool.eq_iff_iff,this,List.drop_zero,List.isPrefixOf_iff_prefix]
    constructor
    · intro k; have q := List.take_append_drop b.length a; rw [k] at q; exact ⟨_,q⟩
    · rintro ⟨r,rfl⟩; rw [List.take_append_of_le_length (Nat.le_refl _),List.take_of_length_le (Nat.le_refl _)]
  · rw [decide_eq_false h,Bool.false_and]
    cases hp : b.isPrefixOf a
    · rfl
    · exact absurd (List.isPrefixOf_iff_prefix.mp hp).length_le h
end Ap
set_option maxHeartbeats 4000000
namespace Fx
open PySem PySem.Spec PyProof.Rows L2 SX Ap
variable [Tb]
def isTy (n : String) : T → Sto → Bool
  | .str _, _ => n == "str"
  | .frl _, _ => n == "list"
  | .loc i,Z => match Z[i]? with
    | some (.lst _) => n == "list"
    | some (.dk _) => n == "dict"
    | some (.dt _) => n == "dict"
    | _ => false
  | _,_ => false
theorem Zno {K : PySem.W.Frag} {ι : List Addr} {H : Hp} {Z : Sto} {v : V} {t : T} {n : String} (s : Sim K ι Z H) (r : Rep K ι H v t) (e : isTy n t Z = true) : tyV K n v H := by
  cases r with
  | str l => exact beq_iff_eq.mp e
  | frl h r => exact .inl ⟨beq_iff_eq.mp e,_,h.sq⟩
  | loc h =>
    simp only [isTy] at e
    split at e
    · rename_i hz
      obtain ⟨a', h1, vs, h2, _⟩ := s.at hz
      rw [h] at h1; cases h1
      exact .inl ⟨beq_iff_eq.mp e,_,SqL.of h2⟩
    · rename_i hz
      obtain ⟨a', h1, vs, h2, _⟩ := s.at hz
      rw [h] at h1; cases h1
      exact .inr (.inr (.inl ⟨beq_iff_eq.mp e,.inl ⟨_,h2⟩⟩))
    · rename_i hz
      obtain ⟨a', h1, vs, h2, _⟩ := s.at hz
      rw [h] at h1; cases h1
      exact .inr (.inr (.inl ⟨beq_iff_eq.mp e,.inr ⟨_,h2⟩⟩))
    · cases e
  | _ => cases e
def eBM (n : String) (g : T → List T → Sto → Option (T × Sto)) (fo : FE) (fa : FA) : FE := fun ρ Z => (fo ρ Z).bind fun x Z1 => if isTy n x Z1 = true then (fa ρ Z1).bind fun xs Z2 => lift (g x xs Z2) else .stuck
def rFM (K : PySem.W.Frag) (g : T → List T → Sto → Option (T × Sto)) : V → List V → Hp → VK → Prop := fun x xs H Q => ∃ ι Z tx ts,Sim K ι Z H ∧ Rep K ι H x tx ∧ Reps K ι H xs ts ∧ PostO (Rep K) K ι H Q (g tx ts Z)
section
variable {X : Cx} {K : PySem.W.Frag} {W : Wc} {o e : Expr} {es : List Expr} {fo : FE} {fa : FA} {name : PySem.Str} {apos cpos : Pos} {n id : String} {g : T → List T → Sto → Option (T × Sto)}
theorem Z5t {r r' : V → List V → Hp → VK → Prop} (h : MtR X id r) (i : ∀ x xs H Q, r' x xs H Q → r x xs H Q) : MtR X id r' := fun pins s σ H x xs v us Q I rx rs q => h pins s σ H x xs v us Q I rx rs (i _ _ _ _ q)
theorem f_bm (hK : X.K = K) (pa : PlainAttrs n) (slot : Slot n name id) (hty : typeOf (.builtin id) = pure (.type "method_descriptor")) (hm : MtR X id (rFM K g)) (ho : FJ X K W o fo) (ha : FAJ X K W (e :: es) fa)
    (hbase : attributeBase o name X.env (eval o X.env) = eval o X.env := by rfl)
    (hfew : ((backTo cpos (starEach (e :: es) X.env)).all (fun x => !x.1) && (backToKw cpos (keywordEach [] X.env)).all (fun x => x.1.isSome)
      && decide ((e :: es).length + ([] : List Keyword).length + (if ([] : List Keyword).isEmpty then 0 else 1) < 30)) = true := by rfl)
    (hline : (apos.endLine == cpos.line) = true := by rfl) (hs : starEach (e :: es) X.env = (false,eval e X.env) :: starEach es X.env := by rfl) (hplain : (backTo cpos (starEach es X.env)).any (·.1) = false := by rfl) :
    FJ X K W (.Call (.Attribute o name apos) (e :: es) [] cpos) (eBM n g fo fa) := by
  subst hK
  refine Uu (pe_bm pa slot hty hm ho ha hbase hfew hline hs hplain) fun σ H Q h => ?_
  obtain ⟨ι,ρ,Z,is,p⟩ := h
  refine ⟨ι,ρ,Z,is,(Zu p).imp fun x H1 q => ?_⟩
  obtain ⟨ι1,Z1,tx,g1,s1,r1,p1⟩ := q
  split at p1
  · rename_i ht
    refine ⟨Zno s1 r1 ht,ι1,ρ,Z1,is.gr g1 s1,(Zu (rep := Reps X.K) p1).imp fun xs H2 q => ?_⟩
    obtain ⟨ι2,Z2,ts,g2,s2,r2,p2⟩ := q
    exact ⟨ι2,Z2,tx,ts,s2,r1.gr g2,r2,Q3 p2⟩
  · exact p1.elim
end
def gAppend : T → List T → Sto → Option (T × Sto)
  | .loc i,[t],Z => match getL Z i with
    | some ts => if ts.length < Lim then some (.non,Z.set i (.lst (ts ++ [t]))) else none
    | none => none
  | _,_,_ => none
def asStr : T → Option (List Nat)
  | .str l => some l
  | _ => none
def gJoin : T → List T → Sto → Option (T × Sto)
  | .str a,[t],Z => match (asSeq t Z).bind fun ts => ts.mapM asStr with
    | some ys => if sumL ys + ys.length * a.length ≤ Lim then some (.str (TL.joinL a ys),Z) else none
    | none => none
  | _,_,_ => none
def gSplit : T → List T → Sto → Option (T × Sto)
  | .str a,[.str [c]],Z => if a.length ≤ 100000 ∧ c < 256 then some (.loc Z.length,Z ++ [.lst ((TL.spl [c] 0 [] a).map .str)]) else none
  | _,_,_ => none
def gStarts : T → List T → Sto → Option (T × Sto)
  | .str a,[.str b],Z => some (.bl (b.isPrefixOf a),Z)
  | .str a,[.tup ts],Z => (ts.mapM asStr).map fun ys => (.bl (ys.any fun y => y.isPrefixOf a),Z)
  | _,_,_ => none
section
variable {X : Cx} {K : PySem.W.Frag}
theorem m_append : MtR X "list.append" (rFM K gAppend) := Z5t mt_append fun x xs H Q h => by
  obtain ⟨ι,Z,tx,ts,s,rx,rs,p⟩ := h
  unfold gAppend at p
  split at p
  · obtain ⟨y,rfl,ry⟩ := rs.one
    split at p
    · rename_i us e
      split at p
      · rename_i hl
        obtain ⟨a,vs,rfl,ha,h1,r⟩ := Z05 s (Vg e) rx
        refine ⟨a,vs,y,rfl,rfl,h1,by rw [r.length]; exact Nat.lt_of_lt_of_le hl Zee,?_⟩
        have g := Gr.mut (ι := ι) (o := .lst (vs ++ [y])) h1 trivial (List.mem_of_getElem? ha)
        exact p ι _ _ g (s.set ha ⟨_,upd_same,(r.gr g).append (.cons (ry.gr g) .nil)⟩) .non
      · exact p.elim
    · exact p.elim
  · exact p.elim
theorem Zg3 {ι : List Addr} {H : Hp} : ∀ {vs : List V} {ts : List T} {ys : List (List Nat)},Reps K ι H vs ts → Paired (fun t y => asStr t = some y) ts ys → vs = (ys.map S).map V.str
  | _,_,_,.nil,.nil => rfl
  | _,_,_,.cons r q,.cons h p => by
    rename_i v vs t ts y ys
    cases t with
    | str l =>
      cases h
      cases r
      rw [Zg3 q p]; rfl
    | _ => cases h
theorem Zeh {ι : List Addr} {H : Hp} : ∀ ys : List (List Nat),Reps K ι H ((ys.map S).map V.str) (ys.map .str)
  | [] => .nil
  | y :: ys => .cons (.str y) (Zeh ys)
theorem m_join (hK : X.K = K) : MtR X "str.join" (rFM K gJoin) := by
  subst hK
  refine Z5t mt_join fun x xs H Q h => ?_
  obtain ⟨ι,Z,tx,ts,s,rx,rs,p⟩ := h
  unfold gJoin at p
  split at p
  · obtain ⟨y,rfl,ry⟩ := rs.one
    cases rx
    split at p
    · rename_i ys e
      split at p
      · rename_i hz
        obtain ⟨us,e1,e2⟩ := Option.bind_eq_some_iff.mp e
        obtain ⟨a,vs,rfl,hq,r⟩ := Z6l s ry e1
        have ev := Zg3 r (Z2h e2)
        subst ev
        refine ⟨_,a,ys.map S,rfl,rfl,hq,?_,?_⟩
        · rw [Zoy,List.length_map,S_len]; exact Nat.le_trans hz (by decide)
        · rw [join_S]; exact Yl p s (.str _)
      · exact p.elim
    · exact p.elim
  · exact p.elim
theorem m_split : MtR X "str.split" (rFM K gSplit) := Z5t mt_split fun x xs H Q h => by
  obtain ⟨ι,Z,tx,ts,s,rx,rs,p⟩ := h
  unfold gSplit at p
  split at p
  · obtain ⟨y,rfl,ry⟩ := rs.one
    cases rx; cases ry
    split at p
    · rename_i hz
      refine ⟨_,_,rfl,rfl,rfl,by rw [S_len]; have := sizeLine_eq; omega,?_⟩
      rw [split_S (by simp) (by simp [hz.2])]
      exact Zco p s (Zeh _)
    · exact p.elim
  · exact p.elim
theorem Zll (hK : X.K = K) : MtR X "str.startswith" (rFM K gStarts) := by
  subst hK
  refine Z5t (mt_startswith.or Zat) fun x xs H Q h => ?_
  obtain ⟨ι,Z,tx,ts,s,rx,rs,p⟩ := h
  unfold gStarts at p
  split at p
  · obtain ⟨y,rfl,ry⟩ := rs.one
    cases rx; cases ry
    exact .inl ⟨_,_,rfl,rfl,by rw [Z8k]; exact Yl p s (.bl _)⟩
  · obtain ⟨y,rfl,ry⟩ := rs.one
    cases rx
    rename_i l0 us
    obtain ⟨a,vs,rfl,hq,r⟩ := ry.tupE
    cases e : us.mapM asStr with
    | none => rw [e] at p; exact p.elim
    | some ys =>
      rw [e] at p
      have ev := Zg3 r (Z2h e)
      subst ev
      refine .inr ⟨_,a,ys.map S,rfl,rfl,hq,?_⟩
      have e2 : ((ys.map S).any fun y => Txt.startswith (S l0) y) = ys.any fun y => y.isPrefixOf l0 := by
        rw [List.any_map]
        congr 1
        funext y
        exact Z8k _ _
      rw [e2]
      exact Yl p s (.bl _)
  · exact p.elim
end
end Fx
set_option maxHeartbeats 4000000
namespace Fx
open PySem PySem.Spec PyProof.Rows L2 SX Ap
variable [Tb]
def wipeR (ρ : Env) : List Nat → Env
  | [] => ρ
  | v :: vs => (wipeR ρ vs).set v none
def putN : List Nat → T → Env → Option Env
  | [j],t,ρ => some (ρ.set j (some t))
  | js,.tup ts,ρ => if ts.length = js.length then some ((js.zip ts).foldl (fun r p => r.set p.1 (some p.2)) ρ) else none
  | _,_,_ => none
def loopC (it : ItF) (D : Nat) (put : T → Option Env) (c : FT) (e : FE) : Nat → Nat → Sto → R T
  | 0,_,_ => .stuck
  | n + 1,k,Z => match it k Z with
    | none => .stuck
    | some none => .ok (.loc D) Z
    | some (some t) => match put t with
      | none => .stuck
      | some ρ => (noX (c ρ Z)).bind fun b Z1 => if b = true then (noX (e ρ Z1)).bind fun y Z2 => (match getL Z2 D with
          | some acc => if acc.length < Lim then loopC it D put c e n (k + 1) (Z2.set D (.lst (acc ++ [y]))) else .stuck
          | none => .stuck) else loopC it D put c e n (k + 1) Z1
def eLc (vs js : List Nat) (it : FI) (c : FT) (e : FE) : FE := fun ρ Z => (it ρ Z).bind fun j Z1 => loopC j Z1.length (fun t => putN js t (wipeR ρ vs)) c e Fuel 0 (Z1 ++ [.lst []])
def eYes : FT := fun _ Z => .ok true Z
section
variable {X : Cx} {K : PySem.W.Frag} {W : Wc}
theorem Z8l (ρ : Env) : ∀ vs : List Nat,(wipeR ρ vs).length = ρ.length
  | [] => rfl
  | v :: vs => by show ((wipeR ρ vs).set v none).length = _; rw [List.length_set,Z8l ρ vs]
theorem Zei {ι : List Addr} {H : Hp} {σ : L2.St} {ρ : Env} (e : Envs K ι H σ ρ) (hl : σ.length = ρ.length) : ∀ vs : List Nat,Envs K ι H (wipe σ vs) (wipeR ρ vs)
  | [] => e
  | v :: vs => fun i t h => by
    have h' : ((wipeR ρ vs).set v none)[i]? = some (some t) := h
    show ∃ w,((wipe σ vs).set v none)[i]? = some (some w) ∧ _
    by_cases hi : i = v
    · subst hi
      by_cases hlt : i < (wipeR ρ vs).length
      · rw [List.getElem?_set_self hlt] at h'; cases h'
      · rw [List.getElem?_eq_none (by rw [List.length_set]; omega)] at h'; cases h'
    · rw [List.getElem?_set_ne (Ne.symm hi)] at h'
      rw [List.getElem?_set_ne (Ne.symm hi)]
      exact Zei e hl vs i t h'
theorem Z6q (σ : L2.St) : ∀ (vs : List Nat) (i : Nat),i < σ.length → i ∈ vs → (wipe σ vs)[i]? = some none
  | v :: vs,i,hl,hm => by
    show ((wipe σ vs).set v none)[i]? = some none
    by_cases hi : i = v
    · subst hi
      rw [List.getElem?_set_self (by rw [wipe_length]; exact hl)]
    · rw [List.getElem?_set_ne (Ne.symm hi)]
      exact Z6q σ vs i hl ((List.mem_cons.mp hm).resolve_left hi)
theorem Zcr (σ : L2.St) (vs : List Nat) (x : Option V) {j : Nat} (hj : j ∈ vs) : wipe (σ.set j x) vs = wipe σ vs := by
  apply List.ext_getElem?
  intro i
  by_cases hi : i ∈ vs
  · by_cases hlt : i < σ.length
    · rw [Z6q _ vs i (by rw [List.length_set]; exact hlt) hi,Z6q σ vs i hlt hi]
    · rw [List.getElem?_eq_none (by rw [wipe_length,List.length_set]; omega),List.getElem?_eq_none (by rw [wipe_length]; omega)]
  · rw [wipe_out hi,wipe_out hi,List.getElem?_set_ne (fun e => hi (by rw [← e]; exact hj))]
theorem Zji (σ : L2.St) (vs : List Nat) : wipe (wipe σ vs) vs = wipe σ vs := by
  apply List.ext_getElem?
  intro i
  by_cases hi : i ∈ vs
  · by_cases hlt : i < σ.length
    · rw [Z6q _ vs i (by rw [wipe_length]; exact hlt) hi,Z6q σ vs i hlt hi]
    · rw [List.getElem?_eq_none (by rw [wipe_length,wipe_length]; omega),List.getElem?_eq_none (by rw [wipe_length]; omega)]
  · rw [wipe_out hi]
abbrev W0 : Wc := Wt (fun _ _ _ _ => False)
def TgOk (K : PySem.W.Frag) (js : List Nat) (g : TG) : Prop := ∀ (x : V) (σ : L2.St) (H : Hp) (Q : L2.St → Hp → Prop) ι ρ ρ' t, σ.length = ρ.length → Envs K ι H σ ρ → Rep K ι H x t → putN js t ρ = some ρ' →
  (∀ σ', σ'.length = ρ'.length → Envs K ι H σ' ρ' → (∀ vs, (∀ j ∈ js, j ∈ vs) → wipe σ' vs = wipe σ vs) → Q σ' H) → g x σ H Q
theorem Z4j (j : Nat) (t : T) (ρ : Env) : putN [j] t ρ = some (ρ.set j (some t)) := by cases t <;> rfl
theorem Zlm {i j : Nat} {t : T} {ρ ρ' : Env} (h : putN [i, j] t ρ = some ρ') : ∃ t1 t2, t = .tup [t1, t2] ∧ ρ' = (ρ.set i (some t1)).set j (some t2) := by
  cases t with
  | tup ts =>
    match ts with
    | [] => simp [putN] at h
    | [_] => simp [putN] at h
    | [t1,t2] => simp [putN] at h; exact ⟨t1,t2,rfl,h.symm⟩
    | _ :: _ :: _ :: _ => simp [putN] at h
  | _ => simp [putN] at h
theorem Z2j (j : Nat) : TgOk K [j] (gName j) := fun x σ H Q ι ρ ρ' t hl env r e q => by
  rw [Z4j] at e
  have e' := Option.some.inj e
  subst e'
  exact q _ (by rw [List.length_set,List.length_set]; exact hl) (env.set r j hl) fun vs h => Zcr σ vs _ (h j List.mem_cons_self)
theorem Zmz (i j : Nat) : TgOk K [i, j] (gTup K 2 (gCons (gName i) (gCons (gName j) gNil))) := fun x σ H Q ι ρ ρ' t hl env r e q => by
  obtain ⟨t1,t2,rfl,rfl⟩ := Zlm e
  obtain ⟨a,xs,rfl,hq,rs⟩ := r.tupE
  obtain ⟨v1,v2,rfl,r1,r2⟩ := rs.two
  have e1 := env.set r1 i hl
  have l1 : (σ.set i (some v1)).length = (ρ.set i (some t1)).length := by rw [List.length_set,List.length_set]; exact hl
  have e2 := e1.set r2 j l1
  have q2 := q ((σ.set i (some v1)).set j (some v2)) (by simp only [List.length_set]; exact hl) e2 fun vs h => by rw [Zcr _ vs _ (h j (by simp)),Zcr _ vs _ (h i (by simp))]
  exact ⟨a,[v1,v2],rfl,hq,rfl,v1,[v2],rfl,v2,[],rfl,rfl,q2⟩
theorem Zp9 {fi : FI} {g : TG} {ft : FT} {fe : FE} {vs js : List Nat} (hg : TgOk K js g) (hjs : ∀ j ∈ js,j ∈ vs) {σ : L2.St} {H : Hp} {Q : VK} (hi : ∀ R,(∃ ι ρ Z,Ie K W ι H σ ρ Z ∧ Post (ItR K) K W.w σ ι H R (fi ρ Z)) → tI K W.w fi σ H R) (h : tF K W (eLc vs js fi ft fe) σ H Q) : tLc (tI K W.w fi) g (tFT K W0 ft) (tF K W0 fe) vs σ H Q := by
  obtain ⟨ι,ρ,Z,is,p⟩ := h
  refine hi _ ⟨ι,ρ,Z,is,(Zu (rep := ItR K) p).imp fun J H1 q => ?_⟩
  obtain ⟨ι1,Z1,it,g1,s1,rJ,p1⟩ := q
  intro D hD
  have is1 := is.gr g1 s1
  have sD : Sim K (ι1 ++ [D]) (Z1 ++ [.lst []]) (upd H1 D (.lst [])) := s1.newL .nil hD
  have gD : Gr ι1 (ι1 ++ [D]) H1 (upd H1 D (.lst [])) := Gr.new hD
  have hDi : (ι1 ++ [D])[Z1.length]? = some D := by rw [← s1.len]; simp
  refine ⟨fun k m H' => ∃ ι' Z', Gr (ι1 ++ [D]) ι' (upd H1 D (.lst [])) H' ∧ Sim K ι' Z' H' ∧ Post (Rep K) K W.w σ ι' H' Q (loopC it Z1.length (fun t => putN js t (wipeR ρ vs)) ft fe m k Z'), ⟨Fuel, ι1 ++ [D], _, Gr.refl, sD, p1.shift gD⟩, ?_⟩
  rintro k m H' ⟨ι', Z', g', s', p'⟩
  cases m with
  | zero => exact p'.elim
  | succ m =>
    have hj := rJ k ι' H' Z' (gD.trans g') s'
    unfold loopC at p'
    cases e : it k Z' with
    | none => rw [e] at p'; exact p'.elim
    | some o =>
      rw [e] at hj p'
      cases o with
      | none => exact .inl ⟨hj, p' ι' H' _ Gr.refl s' (.loc (g'.pre _ _ hDi))⟩
      | some t =>
        refine .inr ⟨hj.1, _, fun H2 n => ⟨m, Nat.lt_succ_self m, n⟩, fun x H'' y => ?_⟩
        obtain ⟨g2, s2, r2⟩ := hj.2 x H'' y
        simp only at p'
        cases e3 : putN js t (wipeR ρ vs) with
        | none => rw [e3] at p'; exact p'.elim
        | some ρ' =>
          rw [e3] at p'
          have env2 : Envs K ι' H'' (wipe σ vs) (wipeR ρ vs) := Zei ((is1.env.gr (gD.trans g')).gr g2) is1.len vs
          refine hg x (wipe σ vs) H'' _ ι' _ ρ' t (by rw [wipe_length, Z8l]; exact is1.len) env2 r2 e3 fun σ' hl' env' hw => ?_
          refine ⟨by rw [hw vs hjs, Zji], ι', ρ', Z', ⟨hl', env', s2, trivial⟩, Z98 (W := W.w) (σ := σ) ((Zu (rep := bEq) (p'.shift g2)).imp fun b H3 q => ?_)⟩
          obtain ⟨ι3, Z3, b', g3, s3, rb, p3⟩ := q
          cases (show b = b' from rb)
          cases b with
          | false =>
            rw [if_neg Bool.false_ne_true] at p3 ⊢
            exact ⟨ι3, Z3, (g'.trans g2).trans g3, s3, p3⟩
          | true =>
            rw [if_pos rfl] at p3 ⊢
            refine ⟨ι3, ρ', Z3, ⟨hl', env'.gr g3, s3, trivial⟩, Z98 (W := W.w) (σ := σ) ((Zu (rep := Rep K) p3).imp fun y H4 q => ?_)⟩
            obtain ⟨ι4,Z4,ty,g4,s4,ry,p4⟩ := q
            split at p4
            · rename_i acc ea
              split at p4
              · rename_i hz
                have hD4 : ι4[Z1.length]? = some D := g4.pre _ _ (g3.pre _ _ (g'.pre _ _ hDi))
                obtain ⟨a, ws, ea', _, h1, rw1⟩ := Z05 s4 (Vg ea) (.loc hD4)
                cases ea'
                have g5 := Gr.mut (ι := ι4) (o := .lst (ws ++ [y])) h1 trivial (List.mem_of_getElem? hD4)
                refine ⟨ws, h1, by rw [rw1.length]; exact Nat.lt_of_lt_of_le hz Zee, ι4, _, (((g'.trans g2).trans g3).trans g4).trans g5, s4.set (ob := .lst (acc ++ [ty])) hD4 ⟨_, upd_same, (rw1.gr g5).append (.cons (ry.gr g5) .nil)⟩, p4.shift g5⟩
              · exact p4.elim
            · exact p4.elim
theorem Zn0 {fi : FI} {σ : L2.St} {H : Hp} {R : It → Hp → Prop} (h : ∃ ι ρ Z,Ie K W ι H σ ρ Z ∧ Post (ItR K) K W.w σ ι H R (fi ρ Z)) : tI K W.w fi σ H R := by
  obtain ⟨ι,ρ,Z,is,p⟩ := h
  exact ⟨ι,ρ,Z,⟨is.len,is.env,is.sim⟩,p⟩
theorem Z2k : PTs X [] (tFT K W0 eYes) := ⟨fun pins s σ H Q I h => by
  obtain ⟨ι,ρ,Z,is,p⟩ := h
  exact pts_nil.run pins s σ H Q I (p ι H true Gr.refl is.sim rfl)⟩
theorem Zjj {c : Expr} {ft : FT} (h : FTJ X K W0 c ft) : PTs X [c] (tFT K W0 ft) := pts_one h
theorem f_lc {elt tg iter : Expr} {ifs : List Expr} {scope : Scope} {own : List (PySem.Str × Nat)} {pos : Pos} {fi : FI} {g : TG} {ft : FT} {fe : FE} {js : List Nat} (hg0 : TgOk K js g) (hjs : ∀ j ∈ js,j ∈ own.map (·.2)) (hc : X.calm = true) (hN : X.N.Nodup) (hi : PI X tg iter (tI K W.w fi)) (ok : BlkOk X.N X.env.scope scope own)
    (hg : ∀ (s : Shared) (H : Hp) (C : Addr) (cl : List (PySem.Str × Addr)) (fp : List Addr),PG (X.blk s H scope (compEnvC scope cl C X.env) fp) tg g) (ht : ∀ (s : Shared) (H : Hp) (C : Addr) (cl : List (PySem.Str × Addr)) (fp : List Addr),PTs (X.blk s H scope (compEnvC scope cl C X.env) fp) ifs (tFT K W0 ft))
    (he : ∀ (s : Shared) (H : Hp) (C : Addr) (cl : List (PySem.Str × Addr)) (fp : List Addr),FJ (X.blk s H scope (compEnvC scope cl C X.env) fp) K W0 elt fe) (hs : ∀ x,foldedSetIterable iter X.env x = pure x := by intro _; rfl) :
    FJ X K W (.ListComp elt [⟨tg,iter,ifs,0⟩] scope pos) (eLc (own.map (·.2)) js fi ft fe) := Uu (pe_lc hc hN hi ok hg ht he hs) fun σ H Q h => Zp9 hg0 hjs (fun R q => Zn0 q) h
theorem Zha {W : WX} {i : Nat} {y : PySem.Str} {py : Pos} {elt tg iter : Expr} {ifs : List Expr} {scope : Scope} {own : List (PySem.Str × Nat)} {pos spos : Pos} {fi : FI} {g : TG} {ft : FT} {fe : FE} {js : List Nat} (hg0 : TgOk K js g) (hjs : ∀ j ∈ js,j ∈ own.map (·.2)) (hc : X.calm = true) (hN : X.N.Nodup) (hy : X.N[i]? = some y) (hyl : X.env.scope.names.lookup y = some .local)
    (hsw : swapsWith (.ListComp elt [⟨tg,iter,ifs,0⟩] scope pos) (some (.Name y py)) spos.line X.env = pure true) (hi : PI X tg iter (tI K W fi)) (ok : BlkOk X.N X.env.scope scope own)
    (hg : ∀ (s : Shared) (H : Hp) (C : Addr) (cl : List (PySem.Str × Addr)) (fp : List Addr),PG (X.blk s H scope (compEnvC scope cl C X.env) fp) tg g) (ht : ∀ (s : Shared) (H : Hp) (C : Addr) (cl : List (PySem.Str × Addr)) (fp : List Addr),PTs (X.blk s H scope (compEnvC scope cl C X.env) fp) ifs (tFT K W0 ft))
    (he : ∀ (s : Shared) (H : Hp) (C : Addr) (cl : List (PySem.Str × Addr)) (fp : List Addr),FJ (X.blk s H scope (compEnvC scope cl C X.env) fp) K W0 elt fe) (hs : ∀ x,foldedSetIterable iter X.env x = pure x := by intro _; rfl) :
    FSJ X K W (.Assign [.Name y py] (.ListComp elt [⟨tg,iter,ifs,0⟩] scope pos) spos) (sSet i (eLc (own.map (·.2)) js fi ft fe)) := Jx (ps_setLc hc hN hy hyl hsw hi ok hg ht he hs) fun D σ H h => by
  obtain ⟨ι,ρ,Z,is,p⟩ := h
  refine Zp9 (W := Wt W) hg0 hjs (fun R q => Zn0 q) (Zau is p fun v H1 ι1 Z1 t g1 i1 r1 p1 => ?_)
  exact p1 ι1 H1 _ Gr.refl (i1.set r1 i)
theorem Z6r {X : Cx} : Takes X W0.w := takes0
end
end Fx
set_option maxHeartbeats 4000000
namespace Fx
open PySem PySem.Spec PyProof.Rows L2 SX Ap
variable [Tb]
def spI (C : Addr) (f : PySem.Str) : Sp := fun vs H Q _ => ∃ (a : Addr) (v : V),vs = [.ref a,v] ∧ H a = some (exo a C none) ∧ ∀ dx,H dx = none → dx ≠ a → Q .non (upd (upd H dx (exd dx [(f,v)])) a (exo a C (some dx)))
def sRaise (nm f : PySem.Str) (ds : List T) (fa : FA) : FS := fun ρ Z => bS ρ (fa ρ Z) fun ts Z1 => match ts ++ ds with
  | [t] => .exc ⟨nm,[(f,t)]⟩ ρ Z1
  | _ => .stuck
section
variable {X : Cx} {K : PySem.W.Frag} {W : WX} {x : PySem.Str} {p pos rpos : Pos} {e : Expr} {es : List Expr} {fa : FA} {k : Nat} {C fI : Addr} {fd : FuncData} {ps : List PySem.Str} {f : PySem.Str} {dvs : List V} {ds : List Value} {dts : List T}
theorem Z4k (hK : X.K = K) (hc : X.calm = true) (tk : Takes X W) (T : OexC X.K C) (iC : PySem.W.findIn X.K (.ref C) "__init__" = some (some (.ref fI))) (tI : PySem.W.typeIn X.K (.ref fI) = some (.type "function"))
    (F1 : FnOk X.prog X.w X.K X.mg X.base CX0 k fI fd ps (spI C f)) (hr : Room (k + 1) X.A) (hb : Binds X.K fd ps ds) (hd : Vals dvs ds) (hdf : Dfl K dvs dts) (hg : Gl X x) (hm : X.mg x = some (.ref C)) (ha : FAJ X K (Wt W) (e :: es) fa) (hn : ofLen (e :: es) fa) (hns : PySem.W.nsIn X.K mainGlobals x = some (some (.ref C))) (hln : (e :: es).length + dts.length = 1 := by rfl)
    (hdb : (x == ("__debug__" : PySem.Str)) = false := by decide) (he : starEach (e :: es) X.env = (false, eval e X.env) :: starEach es X.env := by rfl) (hpl : (backTo pos (starEach es X.env)).any (·.1) = false := by rfl) :
    FSJ X K W (.Raise (some (.Call (.Name x p) (e :: es) [] pos)) none rpos) (sRaise x f dts fa) := by
  subst hK
  refine Jx (ps_raise hc tk (pmk_oex T iC tI F1 hr hb hd pass0 hg hm ha hdb he hpl)) fun D σ H h => ?_
  obtain ⟨ι,ρ,Z,is,q⟩ := h
  refine Zja is q fun vs H1 ι1 Z1 ts e1 g1 i1 r1 p1 => ?_
  have r2 := r1.append (hdf ι1 H1)
  have hl := r2.length
  have hl2 : (ts ++ dts).length = 1 := by rw [List.length_append,hn _ _ _ _ e1]; exact hln
  refine ⟨?_,fun a na => ?_⟩
  · rw [List.length_append,r1.length] at *; omega
  match hts : ts ++ dts,r2,hl2 with
  | [t],r2,_ =>
    obtain ⟨v,ev,rv⟩ := r2.one
    rw [hts] at p1
    rw [ev]
    refine ⟨a,v,rfl,upd_same,fun dx nd ne => ⟨rfl,dx,[(f,v)],?_,?_,?_,?_⟩⟩
    · exact upd_same
    · rw [upd_ne ne,upd_same]
    · rw [upd_ne ne] at nd; exact nd
    · have hd1 : H1 dx = none := by rw [upd_ne ne] at nd; exact nd
      have eH : ∀ b,b ≠ dx → upd (del (upd (upd (upd H1 a (exo a C none)) dx (exd dx [(f,v)])) a (exo a C (some dx))) a) dx (.xd [(f,v)]) b = H1 b := fun b hb => by
        rw [upd_ne hb]
        by_cases hba : b = a
        · subst hba; rw [del_same,na]
        · rw [del_ne hba,upd_ne hba,upd_ne hb,upd_ne hba]
      have sm : Same H1 (upd (del (upd (upd (upd H1 a (exo a C none)) dx (exd dx [(f,v)])) a (exo a C (some dx))) a) dx (.xd [(f,v)])) := fun b o ho => by
        rw [eH b (ne_of_none ho hd1)]; exact ho
      refine p1 ι1 _ σ (.ref C) (some dx) (Gr.same sm) (i1.gr (Gr.same sm) (i1.sim.same sm)) ⟨⟨C,rfl,hns⟩,dx,[(f,v)],rfl,upd_same,.cons (rv.gr (Gr.same sm)) .nil⟩
end
theorem RepX.gr {K : PySem.W.Frag} {ι ι' : List Addr} {H H' : Hp} {cls : Value} {d : Option Addr} {x : Ex} (g : Gr ι ι' H H') (h : RepX K ι H cls d x) : RepX K ι' H' cls d x := by
  obtain ⟨h1,h2⟩ := h
  refine ⟨h1,?_⟩
  split at h2
  · rename_i e; exact h2
  · obtain ⟨dd,vs,e,h,r⟩ := h2
    exact ⟨dd,vs,e,g.xd _ _ h,r.gr g⟩
def eXf (x : Ex) (f : PySem.Str) : FE := fun _ Z => match x.fs.lookup f with
  | some t => .ok t Z
  | none => .stuck
theorem RepP.lookup {K : PySem.W.Frag} {ι : List Addr} {H : Hp} {f : PySem.Str} {t : T} : ∀ {vs : List (PySem.Str × V)} {fs : List (PySem.Str × T)},RepP K ι H vs fs → fs.lookup f = some t → ∃ v,vs.lookup f = some v ∧ Rep K ι H v t
  | _,_,.nil,e => by cases e
  | _,_,.cons r q,e => by
    rename_i k v vs t' ts
    rw [List.lookup_cons] at e ⊢
    cases h : f == k with
    | true => rw [h] at e; cases e; exact ⟨v,rfl,r⟩
    | false => rw [h] at e; exact RepP.lookup q e
section
variable {X : Cx} {K : PySem.W.Frag} {W : WX} {x : PySem.Str} {n : PySem.Str} {C : Addr} {i : Nat} {body : List Stmt} {e : Expr} {np pos pos' rpos : Pos} {b : FS} {fe : Ex → FE}
theorem PostS.wx {K : PySem.W.Frag} {W W' : WX} {ι : List Addr} {H : Hp} {D : Ends} {r : RS} (h : PostS K W ι H D r) (i : ∀ x ρ Z, r ≠ .exc x ρ Z) : PostS K W' ι H D r := by
  cases r with
  | nx => exact h
  | rt => exact h
  | bk => exact h
  | ct => exact h
  | exc x ρ Z => exact absurd rfl (i x ρ Z)
  | stuck => exact h
end
end Fx
set_option maxHeartbeats 4000000
namespace PySem
set_option maxHeartbeats 1000000 in
theorem Z4u (l : Addr) (items : Array Value) (n : Nat) (dct : Option Addr) (sl : Array (Option Value)) :
    Meets (Builtin.«enumerate.__new__» ⟨[.type "enumerate", .ref l], []⟩) (fun _ R s =>
      s.heap.get? l = some { cls := .type "tuple", dict := dct, data := .seq items n, slots := sl } ∧
      R (.ok (.ret (.ref (s.heap.push { cls := .type "tuple_iterator", data := .fields #[.ref l, .int 0 0] }).objs.size)))
        { s with heap := (s.heap.push { cls := .type "tuple_iterator", data := .fields #[.ref l, .int 0 0] }).push { cls := .type "enumerate", data := .fields #[.none, .bool false, .ref s.heap.objs.size, rawInt 0, .none, .none] } }) :=
  .of_wp fun prog w A R s h => by
    obtain ⟨hl,h⟩ := h
    obtain ⟨hp,g,d,tk,os⟩ := s
    have hL : hp.IsTuple l items := ⟨_,hl,rfl,n,rfl⟩
    have hsub := sub_enumerate
    wp_walk using wpAny_loadPart' hl
    refine wpAny_stack_any fun st => wpAny_pure ?_
    split
    · rename_i c _ _ _ _ _
      cases (c == Value.type "enumerate")
      · wp_walk using wpAny_loadPart' hl, wpAny_pyIter_tuple hL
        exact ⟨_,rfl,h⟩
      · wp_walk using wpAny_loadPart' hl, wpAny_pyIter_tuple hL
        exact ⟨_,rfl,h⟩
    · wp_walk using wpAny_loadPart' hl, wpAny_pyIter_tuple hL
      exact ⟨_,rfl,h⟩
end PySem
namespace PySem
section
variable {prog : Program} {w : World} {A : Around} {E : Value → Shared → Prop} {s : Shared}
theorem Z6s {l : Addr} {items : Array Value} {Q : Value → Shared → Prop} (hL : s.heap.IsTuple l items)
    (k : ∀ h', IsEnum h' (s.heap.objs.size + 1) s.heap.objs.size 0 .none → h'.IsTupleIter s.heap.objs.size l 0 → (∀ b o, s.heap.get? b = some o → h'.get? b = some o) → Q (.ref (s.heap.objs.size + 1)) { s with heap := h' }) :
    wpAny (model prog w) A (call (.type "enumerate") [.ref l]) Q E s := by
  obtain ⟨⟨c,dct,dt,sl⟩,hl,hc,n,hd⟩ := hL
  obtain rfl : c = .type "tuple" := hc
  obtain rfl : dt = .seq items n := hd
  refine callType_new F.called_enumerate (by decide) (F.typeCall_enumerate_1 _) (F.newCall_enumerate_1 _) (fun obj => F.args_object_init_2 obj _) F.entry_enumerate_new (Z4u l items n dct sl) ⟨hl,?_⟩
  have hz : (s.heap.push { cls := .type "tuple_iterator", data := .fields #[.ref l, .int 0 0] }).objs.size = s.heap.objs.size + 1 := Heap.size_push ..
  show _ ∧ _
  rw [hz]
  have he : IsEnum ((s.heap.push { cls := .type "tuple_iterator", data := .fields #[.ref l, .int 0 0] }).push
      { cls := .type "enumerate", data := .fields #[.none, .bool false, .ref s.heap.objs.size, rawInt 0, .none, .none] }) (s.heap.objs.size + 1) s.heap.objs.size 0 .none := by
    have q := Heap.get?_push_size (s.heap.push { cls := .type "tuple_iterator", data := .fields #[.ref l, .int 0 0] })
      (o := { cls := .type "enumerate", data := .fields #[.none, .bool false, .ref s.heap.objs.size, rawInt 0, .none, .none] }) rfl
    rw [hz] at q; exact q
  exact ⟨⟨_,he,rfl⟩,k _ he ⟨_,Heap.get?_push_of_some _ (Heap.get?_push_size _ rfl),rfl,rfl⟩ fun b o x => Heap.get?_push_of_some _ (Heap.get?_push_of_some _ x)⟩
end
end PySem
namespace Fx
open PySem PySem.Spec PyProof.Rows L2 SX Ap
variable [Tb]
def IteT (K : PySem.W.Frag) (a : Addr) : It :=
  ⟨fun i H => ∃ (xs : List V) (x : V), SqT K H a xs ∧ xs[i]? = some x, fun i H v H' => ∃ T x, v = .ref T ∧ H T = none ∧ H' = upd H T (.tup [.int (i : Nat), x]) ∧ ∀ xs, SqT K H a xs → xs[i]? = some x, fun i H => ∃ xs : List V, SqT K H a xs ∧ xs.length = i⟩
theorem Zi7 {P : Program} {w : World} {K : PySem.W.Frag} {elts : List Expr} {kk : Nat} {tpos : Pos} (a e it : Addr) :
    Turn P w K (.Tuple elts kk tpos) (IteT K a) [e,it] e (fun i h => (∃ old,IsEnum h e it ((i : Nat) : Int) old) ∧ h.IsTupleIter it a i ∧ e ≠ it ∧ a ≠ it) where
  mem := List.mem_cons_self
  obj := by
    intro i h ⟨⟨old,he⟩,⟨o,ho,hc,hd⟩,_⟩ b hb
    rcases List.mem_cons.mp hb with rfl | hb
    · exact ⟨_,he,fun v q => nomatch q⟩
    · cases List.mem_singleton.mp hb
      exact ⟨o,ho,fun v q => by rw [hd] at q; cases q⟩
  keep := by
    intro i h h' ⟨⟨old, he⟩, ⟨o, ho, r⟩, hne⟩ k
    exact ⟨⟨old,k e List.mem_cons_self _ he⟩,⟨o,k it (List.mem_cons_of_mem _ List.mem_cons_self) o ho,r⟩,hne⟩
  item := by
    intro X hP hw hK hc i pins s σ H E I hf ⟨⟨old,he⟩,hit,hne,hai⟩ hg
    cases hP; cases hw; cases hK
    have le : e < s.heap.objs.size := Heap.lt_size he
    have li : it < s.heap.objs.size := Heap.lt_size hit.choose_spec.1
    obtain ⟨xs,x,hq,hx⟩ := hg
    obtain ⟨its,rv,pt,hz⟩ := I.tuple hq
    obtain ⟨u,hu,ru⟩ := rv.get hx
    have hil : i < its.toArray.size := by
      have := (List.getElem?_eq_some_iff.mp hu).1
      simpa using this
    have hae : a ≠ e := fun z => by
      obtain ⟨o,h1,h2,_⟩ := pt
      rw [z] at h1
      have h3 := he.symm.trans h1
      cases h3
      exact absurd (Value.type.inj h2) (by decide)
    refine wpAny_pyNext_enum_itemD (Draws.tuple (A := X.A.in1) (I.ok.hd hc) it a hai its.toArray) he ⟨hit,pt⟩ hil hne (by simp [hne,Ne.symm hae]) ?_
    rintro v h' tk hv ho ⟨st, _⟩ hT hsz hk
    have hv' : v = u := by
      have h0 : its.toArray[i]? = some v := hv
      have : its[i]? = some v := by simpa using h0
      rw [hu] at this; exact (Option.some.inj this).symm
    subst hv'
    refine ⟨_, rfl, wpAny_letOwnedTupleGo_enum (s := { s with heap := h', toks := tk + 1 }) ho ?_⟩
    intro h'' he' sb
    have hT2 := (sb.2 s.heap.objs.size (Nat.ne_of_gt le)).trans hT
    have new : ObjOk X.prog X.w (upd H s.heap.objs.size (.tup [.int (i : Nat), x])) h'' s.heap.objs.size (.tup [.int (i : Nat), x]) :=
      ⟨by show 2 ≤ sizeLine; decide,[.int i tk,v],.cons ⟨_,rfl⟩ (.cons ru .nil),⟨_,hT2,rfl,_,rfl⟩⟩
    have I1 := I.turnedNew (t' := tk + 1) (ch := [e, it]) (fun b ob hb q => (sb.2 b (fun z => hb (by simp [z]))).trans (hk b ob (fun z => hb (by simp [z])) (fun z => hb (by simp [z])) q)) hf (Nat.le_refl _) new
    refine ⟨.ref s.heap.objs.size,_,I1,rfl,⟨_,x,rfl,I.hok.fresh (Nat.le_refl _),rfl,fun ys hy => by rw [I.tuple_inj hy hq]; exact hx⟩,⟨⟨v,?_⟩,?_,hne,hai⟩,?_⟩
    · rw [show ((i + 1 : Nat) : Int) = (i : Int) + 1 by omega]; exact he'
    · obtain ⟨o,o1,o2⟩ := st
      exact ⟨o,(sb.2 it (Ne.symm hne)).trans o1,o2⟩
    · intro b hb
      have : b < s.heap.objs.size := by
        rcases List.mem_cons.mp hb with rfl | hb
        · exact le
        · cases List.mem_singleton.mp hb; exact li
      rw [upd_ne (Nat.ne_of_lt this)]
      exact (hf b hb).1
  done := by
    intro X hP hw hK hc i pins s σ H E I hf ⟨⟨old,he⟩,hit,hne,hai⟩ hg
    cases hP; cases hw; cases hK
    obtain ⟨xs,hq,rfl⟩ := hg
    obtain ⟨its,rv,pt,hz⟩ := I.tuple hq
    obtain ⟨f0,f1,f2,f3,f4,f5⟩ := hf it (List.mem_cons_of_mem _ List.mem_cons_self)
    have hsz : its.toArray.size = xs.length := by rw [List.size_toArray,rv.length]
    refine wpAny_pyNext_enum_endD (Draws.tuple (A := X.A.in1) (I.ok.hd hc) it a hai its.toArray) he (by rw [hsz]; exact ⟨hit,pt⟩) ?_
    intro h' eb
    exact ⟨rfl, I.turned (t' := s.toks) (fun b o hb q => eb b o hb q) f0 f1 f3 f4 f5⟩
  self := by
    intro A i s Q E ⟨⟨_,he⟩,_⟩ h
    exact wpAny_pyIter_enum he h
def iEnumT (K : PySem.W.Frag) (ta : TA) : TI := fun σ H R => ta σ H fun vs H1 => ∃ a xs,vs = [.ref a] ∧ SqT K H1 a xs ∧ R (IteT K a) H1
theorem Zln {X : Cx} {e : Expr} {ta : TA} {p pos tpos : Pos} {elts : List Expr} {kk : Nat} (hg : Gl X "enumerate") (hm : X.mg "enumerate" = none)
    (ha : PA X [e] ta) (hs : starEach [e] X.env = [(false,eval e X.env)] := by rfl) :
    PI X (.Tuple elts kk tpos) (.Call (.Name "enumerate" p) [e] [] pos) (iEnumT X.K ta) := by
  constructor
  intro pins s σ H R I h
  refine Call_ (ld_blt I hg hm boot_enumerate (PyProof.Rows.callWith_type1 ?_ hs rfl))
  refine thn (ha.run pos pins s σ H _ I h) ?_
  rintro us s1 ⟨vs,H1,I1,r1,a,xs,rfl,hq,q⟩
  obtain ⟨u,rfl,ru⟩ := vals1 r1
  cases (show u = Value.ref a from ru)
  obtain ⟨its,rv,pt,hz⟩ := I1.tuple hq
  refine Z6s (show s1.heap.IsTuple a its.toArray from pt) ?_
  intro h' he hit hk
  refine wpAny_pyIter_enum he ?_
  have I2 : Inv X pins σ H1 { s1 with heap := h' } := I1.kept (t' := s1.toks) hk
  have la : a < s1.heap.objs.size := by obtain ⟨o,h1,_⟩ := pt; exact Heap.lt_size h1
  refine ⟨s1.heap.objs.size + 1,[s1.heap.objs.size + 1,s1.heap.objs.size],_,_,H1,rfl,I2,Zi7 a _ _,⟨⟨.none,he⟩,hit,Nat.succ_ne_self _,Nat.ne_of_lt la⟩,?_,q⟩
  intro b hb
  have hle : s1.heap.objs.size ≤ b := by
    rcases List.mem_cons.mp hb with rfl | hb
    · exact Nat.le_add_right _ _
    · cases List.mem_singleton.mp hb; exact Nat.le_refl _
  exact I1.fpOk hle (I1.hok.fresh hle)
def itSeqX (ts : List T) : ItF := fun k _ => if k ≤ ts.length then some ts[k]? else none
def itStrX (l : List Nat) : ItF := fun k _ => if k ≤ l.length then some (l[k]?.map fun c => .str [c]) else none
def iAny (f : FE) : FI := fun ρ Z => (f ρ Z).bind fun x Z1 => match x with
  | .frl ts => .ok (itSeq ts) Z1
  | .loc i => match getL Z1 i with
    | some _ => .ok (itLoc i) Z1
    | none => .stuck
  | .tup ts => .ok (itSeq ts) Z1
  | .str l => .ok (itStr l) Z1
  | _ => .stuck
def iEnmA (f : FA) : FI := fun ρ Z => (f ρ Z).bind fun xs Z1 => match xs with
  | [.frl ts] => .ok (itEnum (itSeq ts)) Z1
  | [.loc i] => match getL Z1 i with
    | some _ => .ok (itEnum (itLoc i)) Z1
    | none => .stuck
  | [.tup ts] => .ok (itEnum (itSeqX ts)) Z1
  | [.str l] => .ok (itEnum (itStrX l)) Z1
  | _ => .stuck
section
variable {X : Cx} {K : PySem.W.Frag} {W : WX} {pos p : Pos} {tg l a : Expr} {fl : FE} {fa : FA}
theorem Zlo {t1 t2 : TI} (h1 : PI X tg l t1) (h2 : PI X tg l t2) : PI X tg l (fun σ H R => t1 σ H R ∨ t2 σ H R) := ⟨fun pins s σ H R I q => q.elim (h1.run pins s σ H R I) (h2.run pins s σ H R I)⟩
theorem Z0z (hK : X.K = K) (hl : FJ X K (Wt W) l fl) : PI X tg l (tI K W (iAny fl)) := by
  refine Z8j (Zlo (Znl hK hl) (Zlo (Zp5 hK hl) (Zp6 hl))) fun σ H Q h => ?_
  obtain ⟨ι,ρ,Z,is,p⟩ := h
  cases e : fl ρ Z with
  | ok t Z1 =>
    unfold iAny at p
    rw [e,Xr] at p
    cases t with
    | tup ts => exact .inr (.inl ⟨ι,ρ,Z,is,by unfold iSeqT; rw [e,Xr]; exact p⟩)
    | str u => exact .inr (.inr ⟨ι,ρ,Z,is,by unfold iStr; rw [e,Xr]; exact p⟩)
    | frl ts => exact .inl ⟨ι,ρ,Z,is,by unfold iSeqL; rw [e,Xr]; exact p⟩
    | loc i => exact .inl ⟨ι,ρ,Z,is,by unfold iSeqL; rw [e,Xr]; exact p⟩
    | _ => exact p.elim
  | exc x Z1 =>
    unfold iAny at p
    rw [e] at p
    exact .inl ⟨ι,ρ,Z,is,by unfold iSeqL; rw [e]; exact p⟩
  | stuck => unfold iAny at p; rw [e] at p; exact p.elim
theorem Z99 {tpos : Pos} {elts : List Expr} {kk : Nat} (hK : X.K = K) (hg : Gl X "enumerate") (hm : X.mg "enumerate" = none) (ha : FAJ X K (Wt W) [a] fa) (hn : ofLen [a] fa) (hs : starEach [a] X.env = [(false, eval a X.env)] := by rfl) : PI X (.Tuple elts kk tpos) (.Call (.Name "enumerate" p) [a] [] pos) (tI K W (iEnmA fa)) := by
  subst hK
  refine Z8j (Zlo (Znm rfl hg hm ha hn hs) (Zlo (Zln hg hm ha hs) (Zlf hg hm ha hs))) fun σ H Q h => ?_
  obtain ⟨ι,ρ,Z,is,p⟩ := h
  unfold iEnmA at p
  cases e : fa ρ Z with
  | ok ts Z1 =>
    rw [e,Xr] at p
    have hl := hn _ _ _ _ e
    match ts,hl,p with
    | [t],_,p =>
      cases t with
      | frl us => exact .inl ⟨ι,ρ,Z,is,by unfold iEnm; rw [e,Xr]; exact p⟩
      | loc i => exact .inl ⟨ι,ρ,Z,is,by unfold iEnm; rw [e,Xr]; exact p⟩
      | tup us =>
        refine .inr (.inl ⟨ι,ρ,Z,is.ie,?_⟩)
        rw [e]
        intro ι1 H1 vs g1 s1 r1
        obtain ⟨v,rfl,r⟩ := r1.one
        obtain ⟨b,xs,rfl,hq,rs⟩ := r.tupE
        refine ⟨b, xs, rfl, hq, p ι1 H1 _ g1 s1 fun k ι' H' Z' g' s' => ?_⟩
        simp only [itEnum,itSeqX]
        by_cases hk : k ≤ us.length
        · rw [if_pos hk]
          simp only [Option.map_some]
          cases eu : us[k]? with
          | none => exact ⟨xs, SqT.gr g' hq, by rw [rs.length]; have := List.getElem?_eq_none_iff.mp eu; omega⟩
          | some u =>
            obtain ⟨x,h1,h2⟩ := rs.get eu
            refine ⟨⟨xs, x, SqT.gr g' hq, h1⟩, fun y H'' hy => ?_⟩
            obtain ⟨q, x', rfl, nq, rfl, hx'⟩ := hy
            have := hx' xs (SqT.gr g' hq)
            rw [h1] at this; cases this
            exact ⟨Gr.new0 nq, s'.same (Z0x nq), .tup (SqT.of upd_same) (.cons (.int _) (.cons ((h2.gr g').gr (Gr.new0 nq)) .nil))⟩
        · rw [if_neg hk]; exact trivial
      | str u =>
        refine .inr (.inr ⟨ι,ρ,Z,is.ie,?_⟩)
        rw [e]
        intro ι1 H1 vs g1 s1 r1
        obtain ⟨v,rfl,r⟩ := r1.one
        cases r
        refine ⟨S u, rfl, p ι1 H1 _ g1 s1 fun k ι' H' Z' g' s' => ?_⟩
        have hsz : (S u).cps.size = u.length := by simp [S]
        simp only [itEnum,itStrX]
        by_cases hk : k ≤ u.length
        · rw [if_pos hk]
          simp only [Option.map_some]
          cases eu : u[k]? with
          | none => exact show k = (S u).cps.size by rw [hsz]; have := List.getElem?_eq_none_iff.mp eu; omega
          | some c =>
            have hlt : k < u.length := (List.getElem?_eq_some_iff.mp eu).1
            refine ⟨show k < (S u).cps.size by rw [hsz]; exact hlt, fun y H'' hy => ?_⟩
            obtain ⟨q, c', rfl, nq, rfl, hc'⟩ := hy
            have : c' = c := by
              have h2 : u[k]? = some c' := by simpa [S] using hc'
              rw [eu] at h2; exact (Option.some.inj h2).symm
            subst this
            exact ⟨Gr.new0 nq, s'.same (Z0x nq), .tup (SqT.of upd_same) (.cons (.int _) (.cons (.str [c']) .nil))⟩
        · rw [if_neg hk]; exact trivial
      | _ => exact p.elim
  | exc x Z1 => rw [e] at p; exact .inl ⟨ι,ρ,Z,is,by unfold iEnm; rw [e]; exact p⟩
  | stuck => rw [e] at p; exact p.elim
end
end Fx
set_option maxHeartbeats 4000000
namespace Ap
open PySem PySem.Spec PyProof.Rows L2 SX
end Ap
namespace Fx
open PySem PySem.Spec PyProof.Rows L2 SX Ap
variable [Tb]
theorem Znp {K : PySem.W.Frag} {H : Hp} {a : Addr} {ns : List Int} (h : FrL K H a (ns.map V.int)) : Rep K [] H (.ref a) (.frl (ns.map .int)) := by
  refine .frl h ?_
  clear h
  induction ns with
  | nil => exact .nil
  | cons n ns ih => exact .cons (.int n) ih
theorem fnG_0 {P : Program} {w : World} {K : PySem.W.Frag} {mg : PySem.Str → Option Value} {base : Heap} {k : Nat} {f : Addr} {fd : FuncData} {ps : List PySem.Str} {n : Nat} {F : FF} (G : FnG P w K mg base k f fd ps (spF K n F)) : GOk P w K mg base CX0 k f fd ps (fun vs H Q _ => spF K n F vs H Q (fun _ _ _ => False)) :=
  ⟨fun vs H Q E h => G.len vs H Q _ h, fun A outer s H as us vs Q E hr hG e0 hb rv h => codeAny_mono (G.run A outer s H as us vs Q _ hr hG e0 hb rv h) fun r s' z => by
    cases r with
    | error e =>
      obtain ⟨_,_,_,_,_,_,_,_,_,_,_,_,q⟩ := z
      exact q.elim
    | ok fl => cases fl <;> exact z⟩
theorem Zlp (z : PySem.Str) : S z.cps.toList = z := by
  show (⟨z.cps.toList.toArray⟩ : PySem.Str) = z
  rw [Array.toArray_toList]
def eDict0 : FE := fun _ Z => .ok (.loc Z.length) (Z ++ [.dk []])
def gNeg : T → Sto → Option (T × Sto)
  | .int i,Z => some (.int (-i),Z)
  | _,_ => none
theorem Zi8 {X : Cx} {K : PySem.W.Frag} {W : Wc} {a : Expr} {fa : FE} {pos : Pos} (ha : FJ X K W a fa) : FJ X K W (.UnaryOp .USub a pos) (eUn gNeg fa) := Uu (pe_un un_neg ha) fun σ H Q h => by
  obtain ⟨ι,ρ,Z,is,p⟩ := h
  refine ⟨ι,ρ,Z,is,(Zu p).imp fun x H1 q => ?_⟩
  obtain ⟨ι1,Z1,tx,g1,s1,r1,p1⟩ := q
  have p2 := Q3 p1
  unfold gNeg at p2
  split at p2
  · cases r1; exact ⟨_,rfl,Yl p2 s1 (.int _)⟩
  · exact p2.elim
end Fx
set_option maxHeartbeats 4000000
namespace Ap
open PySem PySem.Spec PyProof.Rows L2 SX
def NoDig (K : PySem.W.Frag) : Prop := PySem.W.nsIn K cStatics "sys.int_max_str_digits" = some none
theorem Znq {K : PySem.W.Frag} {h : Heap} {a : Addr} {mg : Str → Option Value} {n : Str} (X : K.In h) (G : h.Ns a mg) (e : PySem.W.nsIn K a n = some none) : mg n = none := by
  obtain ⟨o,es,ep,ho,hd,_,hf⟩ := G
  unfold PySem.W.nsIn at e
  split at e
  · rename_i c d es' n' sl q
    have := X _ _ q
    rw [ho] at this
    cases this
    cases hd
    split at e
    · cases e
    · rename_i he
      rw [← hf]
      unfold nsFind findBy
      rw [← Array.find?_toList,he]
      rfl
  · cases e
open PySem.NumText in
theorem wp_textB {M : Model} {A : Around} {E : Value → Shared → Prop} {s : Shared} {Q : Value → Shared → Prop} {v : Value} {text : List Nat} {n : Int} (hn : s.heap.NoDigits)
    (hs : ¬ (text.takeWhile (· != 0)).length ≤ 640) (hr : (int_private% "readNumeral") 4300 10 (text.takeWhile (· != 0)) = (int_private% "Numeral.value") n)
    (ha : ((text.takeWhile (· != 0)).length == text.length) = true) (h : Q (.int n s.toks) { s with toks := s.toks + 1 }) :
    wpAny M A ((int_private% "intFromText") v text 10) Q E s := by
  obtain ⟨mc,hns,hnone⟩ := hn
  obtain ⟨hp,g,d,tk,os⟩ := s
  wp_step
  wp_step
  unfold Builtin.intMaxStrDigits
  refine wpAny_bind (wpAny_bind (wpAny_nsGet hns ?_))
  rw [hnone]
  refine wpAny_pure ?_
  dsimp only
  rw [hr]
  dsimp only
  rw [if_pos ha]
  exact wpAny_mkInt h
open PySem.NumText PySem.W PySem.W.KIN in
theorem Zg4 {x : PySem.Str} {u : Tok} {n : Int} (hs : ¬ (numSeenOf x).length ≤ 640) (hr : (int_private% "readNumeral") 4300 10 (numSeenOf x) = (int_private% "Numeral.value") n) (ha : ((numSeenOf x).length == (numTextOf x).length) = true) :
    Meets (Builtin.«int.__new__» ⟨[.type "int", .str x u], []⟩) (fun _ R s => s.heap.NoDigits ∧ R (.ok (.ret (.int n s.toks))) { s with toks := s.toks + 1 }) :=
  .of_wp fun prog w A R s hh => by
    obtain ⟨hp,g,d,tk,os⟩ := s
    have hN : hp.NoDigits := hh.1
    have h := hh.2
    clear hh
    have f1 := F.conv_sub_int
    have f2 := F.madeHere_int
    have f3 := str_int
    have f4 := str_idx
    have f5 := str_trunc
    have f6 : typeOf (.str x u) = pure (.type "str") := rfl
    have hk := Hid.mk (And.intro hs (And.intro hr (And.intro ha hN)))
    clear hs hr ha hN
    repeat (any_goals (first
      | assumption
      | ((with_reducible show wpAny _ _ ((int_private% "intFromText") _ _ _) _ _ _); refine wp_textB hk.out.2.2.2 hk.out.1 hk.out.2.1 hk.out.2.2.1 ?_)
      | wp_step))
    all_goals first | exact ⟨_,rfl,h⟩ | skip
open PySem.NumText in
theorem Zi9 {prog : Program} {w : World} {A : Around} {E : Value → Shared → Prop} {s : Shared} {Q : Value → Shared → Prop} {x : PySem.Str} {t : Tok} {n : Int} (hd : s.heap.NoDigits) (hA : x.cps.all (· < 128) = true) (hn : PySem.intText? x = some n) (hl : x.length ≤ sizeLine)
    (h : Q (.int n s.toks) { s with toks := s.toks + 1 }) : wpAny (model prog w) A (call (.type "int") [.str x t]) Q E s := by
  by_cases hs : (numSeenOf x).length ≤ 640
  · by_cases hl2 : x.length ≤ 640
    · exact PySem.W.KIN.call_text hn hl2 h
    · exfalso
      have e1 : numTextOf x = x.cps.toList := if_pos hA
      by_cases k : ((numSeenOf x).length == (numTextOf x).length) = true
      · have k' := beq_iff_eq.mp k
        have e2 : (numTextOf x).length = x.length := by rw [e1]; exact Array.length_toList
        rw [e2] at k'
        omega
      · unfold intText? at hn
        rw [if_neg k] at hn
        cases hn
  · rcases read4300 x hl with ⟨m,h1,h2,h3⟩ | ⟨h1,_⟩
    · rw [hn] at h1
      cases h1
      exact call_int_1 (Zg4 hs h3 h2) ⟨hd,typeIs_int _ _ _,h⟩
    · rw [hn] at h1
      cases h1
section
variable {X : Cx}
theorem noDig {pins : List (Addr × Obj)} {σ : L2.St} {H : Hp} {s : Shared} (I : Inv X pins σ H s) (h : NoDig X.K) : s.heap.NoDigits := by
  obtain ⟨mc,a,_⟩ := I.nolimit
  exact ⟨mc,a,Znq I.kIn a h⟩
abbrev rIntStrB : List V → Hp → VK → Prop := fun xs H Q => ∃ (l : List Nat) (n : Int),xs = [.str (S l)] ∧ l.all (· < 128) = true ∧ PySem.intText? (S l) = some n ∧ l.length ≤ 100000 ∧ Q (.int n) H
theorem Zcs (hD : NoDig X.K) : CallR X (.type "int") rIntStrB := by
  intro pins s σ H xs us Q I rs h
  obtain ⟨l,n,rfl,hA,hn,hl,h⟩ := h
  cases rs with
  | cons r1 rs =>
    cases rs
    obtain ⟨t,rfl⟩ := r1
    exact Zi9 (noDig I hD) (by simpa [S] using hA) hn (szS hl) ⟨.int n,H,I.tok _,⟨_,rfl⟩,h⟩
abbrev rStrIntB : List V → Hp → VK → Prop := fun xs H Q => ∃ i : Int,xs = [.int i] ∧ i.natAbs < 10 ^ 4300 ∧ Q (.str (toString i)) H
theorem Zct (hD : NoDig X.K) (hc : X.calm = true) : CallR X (.type "str") rStrIntB := by
  intro pins s σ H xs us Q I r h
  obtain ⟨i,rfl,hz,q⟩ := h
  obtain ⟨u,rfl,t,rfl⟩ := vals1 r
  exact str_of_int_or (I.ok.hd hc) (noDig I hD) (fun _ => ⟨.str _,H,I.tok _,⟨_,rfl⟩,q⟩) (fun h => absurd hz (Nat.not_lt.mpr h))
end
end Ap
set_option maxHeartbeats 4000000
namespace Fx
open PySem PySem.Spec PyProof.Rows L2 SX Ap
variable [Tb]
def bools : List T → Option (List Bool)
  | [] => some []
  | .bl b :: ts => (bools ts).map (b :: ·)
  | _ :: _ => none
def gAll : List T → Sto → Option (T × Sto)
  | [t],Z => (asList t Z).bind fun ts => (bools ts).map fun bs => (.bl (bs.all id),Z)
  | _,_ => none
def gAny : List T → Sto → Option (T × Sto)
  | [t],Z => (asList t Z).bind fun ts => (bools ts).map fun bs => (.bl (bs.any id),Z)
  | _,_ => none
theorem Z9f {K : PySem.W.Frag} {ι : List Addr} {H : Hp} : ∀ {vs : List V} {ts : List T} {bs : List Bool},Reps K ι H vs ts → bools ts = some bs → vs = bs.map V.bl
  | _,[],bs,r,h => by
    cases r
    have : bs = [] := (Option.some.inj h).symm
    subst this; rfl
  | _,t :: ts,bs,r,h => by
    cases r with
    | cons r1 rs =>
      cases t with
      | bl b =>
        simp only [bools] at h
        cases e : bools ts with
        | none => rw [e] at h; cases h
        | some cs =>
          rw [e] at h
          have : bs = b :: cs := (Option.some.inj h).symm
          subst this
          cases r1
          rw [Z9f rs e]; rfl
      | _ => simp [bools] at h
theorem Zpa {X : Cx} {K : PySem.W.Frag} (hK : X.K = K) (hc : X.calm = true) : CallR X (.builtin "all") (rFC K gAll) := by
  subst hK
  refine Q4 (cr_all hc) fun xs H Q h => ?_
  obtain ⟨ι,Z,ts,s,r,p⟩ := h
  match ts,r,p with
  | [],_,p => exact p.elim
  | _ :: _ :: _,_,p => simp only [gAll] at p; exact p.elim
  | [t],r,p =>
    obtain ⟨v,rfl,rr⟩ := r.one
    simp only [gAll] at p
    cases e : asList t Z with
    | none => rw [e] at p; exact p.elim
    | some us =>
      rw [e] at p
      obtain ⟨a,vs,rfl,hq,rs⟩ := Nz s rr e
      cases eb : bools us with
      | none => simp only [Option.bind_some,eb] at p; exact p.elim
      | some bs =>
        simp only [Option.bind_some,eb,Option.map_some] at p
        have := Z9f rs eb
        subst this
        exact ⟨a,bs,rfl,hq,Yl p s (.bl _)⟩
theorem Zlq {X : Cx} {K : PySem.W.Frag} (hK : X.K = K) (hc : X.calm = true) : CallR X (.builtin "any") (rFC K gAny) := by
  subst hK
  refine Q4 (cr_any hc) fun xs H Q h => ?_
  obtain ⟨ι,Z,ts,s,r,p⟩ := h
  match ts,r,p with
  | [],_,p => exact p.elim
  | _ :: _ :: _,_,p => simp only [gAny] at p; exact p.elim
  | [t],r,p =>
    obtain ⟨v,rfl,rr⟩ := r.one
    simp only [gAny] at p
    cases e : asList t Z with
    | none => rw [e] at p; exact p.elim
    | some us =>
      rw [e] at p
      obtain ⟨a,vs,rfl,hq,rs⟩ := Nz s rr e
      cases eb : bools us with
      | none => simp only [Option.bind_some,eb] at p; exact p.elim
      | some bs =>
        simp only [Option.bind_some,eb,Option.map_some] at p
        have := Z9f rs eb
        subst this
        exact ⟨a,bs,rfl,hq,Yl p s (.bl _)⟩
def txt (z : PySem.Str) : T := .str z.cps.toList
theorem Znr {K : PySem.W.Frag} {ι : List Addr} {H : Hp} (z : PySem.Str) : Rep K ι H (.str z) (txt z) := by
  have := Rep.str (K := K) (ι := ι) (H := H) z.cps.toList
  rw [Zlp] at this; exact this
theorem txt_S (l : List Nat) : txt (S l) = .str l := by
  unfold txt S; simp
def gRstrip : T → List T → Sto → Option (T × Sto)
  | .str a,[.str b],Z => if a.length ≤ Lim then some (txt (Txt.rstripChars (S a) (S b)),Z) else none
  | _,_,_ => none
theorem m_rstrip {X : Cx} {K : PySem.W.Frag} : MtR X "str.rstrip" (rFM K gRstrip) := Z5t mt_rstripChars fun x xs H Q h => by
  obtain ⟨ι,Z,tx,ts,s,rx,rs,p⟩ := h
  unfold gRstrip at p
  split at p
  · obtain ⟨y,rfl,ry⟩ := rs.one
    cases rx; cases ry
    split at p
    · rename_i hz
      exact ⟨_,_,rfl,rfl,by rw [S_len]; exact Z3e hz,Yl p s (Znr _)⟩
    · exact p.elim
  · exact p.elim
def gStr : List T → Sto → Option (T × Sto)
  | [.int i],Z => if i.natAbs < 10 ^ 4300 then some (.str (dec i),Z) else none
  | _,_ => none
theorem Zpb {X : Cx} {K : PySem.W.Frag} (hD : NoDig X.K) (hc : X.calm = true) : CallR X (.type "str") (rFC K gStr) := Q4 (Zct hD hc) fun xs H Q h => by
  obtain ⟨ι,Z,ts,s,r,p⟩ := h
  unfold gStr at p
  split at p
  · obtain ⟨v,rfl,rr⟩ := r.one
    cases rr
    split at p
    · rename_i hz
      refine ⟨_,rfl,hz,?_⟩
      rw [Ap.Znf]
      exact Yl p s (.str _)
    · exact p.elim
  · exact p.elim
def gIntT : List T → Sto → Option (T × Sto)
  | [.int i],Z => some (.int i,Z)
  | [.bl b],Z => some (.int (if b then 1 else 0),Z)
  | [.str l],Z => if l.all (· < 128) = true ∧ l.length ≤ 100000 then (PySem.intText? (S l)).map fun n => (.int n,Z) else none
  | _,_ => none
theorem U0 {X : Cx} {K : PySem.W.Frag} (hD : NoDig X.K) : CallR X (.type "int") (rFC K gIntT) := Q4 (Zg2 call_int1 (Zcs hD)) fun xs H Q h => by
  obtain ⟨ι,Z,ts,s,r,p⟩ := h
  unfold gIntT at p
  split at p
  · obtain ⟨v,rfl,rr⟩ := r.one
    cases rr
    exact .inl (.inl ⟨_,rfl,Yl p s (.int _)⟩)
  · obtain ⟨v,rfl,rr⟩ := r.one
    cases rr
    exact .inl (.inr ⟨_,rfl,Yl p s (.int _)⟩)
  · obtain ⟨v,rfl,rr⟩ := r.one
    cases rr
    split at p
    · rename_i hz
      cases e : PySem.intText? (S _) with
      | none => rw [e] at p; exact p.elim
      | some n =>
        rw [e] at p
        exact .inr ⟨_,n,rfl,hz.1,e,hz.2,Yl p s (.int _)⟩
    · exact p.elim
  · exact p.elim
end Fx
set_option maxHeartbeats 4000000
namespace Fx
open PySem PySem.Spec PyProof.Rows L2 SX Ap
variable [Tb]
def eCallK (F : FF) (g : List T → List T) (fa : FA) : FE := fun ρ Z => (fa ρ Z).bind fun ts Z1 => F (g ts) Z1
end Fx
set_option maxHeartbeats 4000000
namespace Fx
open PySem PySem.Spec PyProof.Rows L2 SX
variable [Tb]
end Fx
set_option maxHeartbeats 4000000
namespace Fx
open PySem PySem.Spec PyProof.Rows L2 SX Ap
variable [Tb]
theorem Z8m {a b : String} (h : PySem.Str.ofString a = PySem.Str.ofString b) : a = b := by
  have e : a.toList.map Char.toNat = b.toList.map Char.toNat := by rw [← signs_ofString,← signs_ofString,h]
  have key : ∀ (l m : List Char),l.map Char.toNat = m.map Char.toNat → l = m := by
    intro l
    induction l with
    | nil => intro m h; cases m with
      | nil => rfl
      | cons c m => cases h
    | cons c l ih => intro m h; cases m with
      | nil => cases h
      | cons d m =>
        rw [List.map_cons,List.map_cons] at h
        have h1 := (List.cons.inj h).1
        have h2 := ih m (List.cons.inj h).2
        have : c = d := by
          apply Char.ext
          apply UInt32.toNat_inj.mp
          exact h1
        rw [this,h2]
  exact String.toList_inj.mp (key _ _ e)
theorem Zns {a b : String} : (PySem.Str.ofString a == PySem.Str.ofString b) = (a == b) := by
  by_cases h : a = b
  · subst h; rw [beq_self_eq_true,beq_self_eq_true]
  · rw [beq_eq_false_iff_ne.mpr h,beq_eq_false_iff_ne.mpr fun e => h (Z8m e)]
theorem RepF.lookup {K : PySem.W.Frag} {ι : List Addr} {H : Hp} {f : String} : ∀ {vs : List (PySem.Str × V)} {fs : List (String × T)},RepF K ι H vs fs →
    (∀ t,fs.lookup f = some t → ∃ v,vs.lookup (PySem.Str.ofString f) = some v ∧ Rep K ι H v t) ∧ (fs.lookup f = none → vs.lookup (PySem.Str.ofString f) = none)
  | _,_,.nil => ⟨fun t e => (nomatch e),fun _ => rfl⟩
  | _,_,.cons r q => by
    rename_i k v vs t ts
    obtain ⟨h1,h2⟩ := RepF.lookup (f := f) q
    rw [List.lookup_cons,List.lookup_cons,Zns]
    cases h : f == k with
    | true => exact ⟨fun u e => by cases e; exact ⟨v,rfl,r⟩,fun e => nomatch e⟩
    | false => exact ⟨h1,h2⟩
theorem RepF.length {K : PySem.W.Frag} {ι : List Addr} {H : Hp} : ∀ {vs : List (PySem.Str × V)} {fs : List (String × T)},RepF K ι H vs fs → vs.length = fs.length
  | _,_,.nil => rfl
  | _,_,.cons _ r => congrArg (· + 1) r.length
def putS (f : String) (t : T) : List (String × T) → List (String × T)
  | [] => [(f,t)]
  | (g,x) :: r => if g = f then (g,t) :: r else (g,x) :: putS f t r
theorem RepF.put {K : PySem.W.Frag} {ι : List Addr} {H : Hp} {f : String} {v : V} {t : T} (rv : Rep K ι H v t) : ∀ {vs : List (PySem.Str × V)} {fs : List (String × T)},RepF K ι H vs fs → RepF K ι H (putF (PySem.Str.ofString f) v vs) (putS f t fs)
  | _,_,.nil => .cons rv .nil
  | _,_,.cons r q => by
    rename_i k x vs u ts
    unfold putF putS
    by_cases h : k = f
    · rw [if_pos h,if_pos (by rw [h])]; exact .cons rv q
    · rw [if_neg h,if_neg fun e => h (Z8m e)]; exact .cons r (RepF.put rv q)
def getI (Z : Sto) (i : Nat) : Option (String × List (String × T)) := match Z[i]? with
  | some (.ins C fs) => some (C,fs)
  | _ => none
theorem Zcu {Z : Sto} {i : Nat} {C : String} {fs : List (String × T)} (h : getI Z i = some (C,fs)) : Z[i]? = some (.ins C fs) := by
  unfold getI at h
  split at h
  · rename_i e; cases h; exact e
  · cases h
structure CF (K : PySem.W.Frag) (C : String) (Ca : Addr) : Prop where
  ns : PySem.W.nsIn K mainGlobals (PySem.Str.ofString C) = some (some (.ref Ca))
  cls : Cls K Ca
def FldOk (K : PySem.W.Frag) (cs : List String) (f : String) : Prop := ∀ C ∈ cs,∃ Ca,CF K C Ca ∧ NoAttr K Ca (PySem.Str.ofString f)
theorem FldOk.nil {K : PySem.W.Frag} {f : String} : FldOk K [] f := fun _ h => nomatch h
theorem FldOk.cons {K : PySem.W.Frag} {C : String} {Ca : Addr} {cs : List String} {f : String} (c : CF K C Ca) (n : NoAttr K Ca (PySem.Str.ofString f)) (h : FldOk K cs f) : FldOk K (C :: cs) f := fun D hD => by
  rcases List.mem_cons.mp hD with rfl | k
  · exact ⟨Ca,c,n⟩
  · exact h D k
theorem Zjk {K : PySem.W.Frag} {ι : List Addr} {H : Hp} {Z : Sto} {v : V} {i : Nat} {C : String} {fs : List (String × T)} (s : Sim K ι Z H) (r : Rep K ι H v (.loc i)) (e : getI Z i = some (C,fs)) :
    ∃ a Ca dx vs,v = .ref a ∧ ι[i]? = some a ∧ PySem.W.nsIn K mainGlobals (PySem.Str.ofString C) = some (some (.ref Ca)) ∧ H a = some (.ins Ca dx vs) ∧ RepF K ι H vs fs := by
  cases r with
  | loc h =>
    obtain ⟨a,h1,Ca,dx,vs,hn,h2,h3⟩ := s.at (Zcu e)
    rw [h] at h1; cases h1
    exact ⟨_,Ca,dx,vs,rfl,h,hn,h2,h3⟩
def fldT (cs : List String) (f : String) (x : T) (Z : Sto) : Option T := match x with
  | .loc i => match getI Z i with
    | some (C,fs) => if C ∈ cs then fs.lookup f else none
    | none => none
  | _ => none
def eFld (cs : List String) (f : String) (fe : FE) : FE := fun ρ Z => (fe ρ Z).bind fun x Z1 => match fldT cs f x Z1 with
  | some t => .ok t Z1
  | none => .stuck
def setF (cs : List String) (f : String) (x y : T) (Z : Sto) : Option Sto := match x with
  | .loc i => match getI Z i with
    | some (C,fs) => if C ∈ cs ∧ fs.length < 1000 then some (Z.set i (.ins C (putS f y fs))) else none
    | none => none
  | _ => none
def sFldS (cs : List String) (f : String) (fo fv : FE) : FS := fun ρ Z => bS ρ (fv ρ Z) fun y Z1 => bS ρ (fo ρ Z1) fun x Z2 => match setF cs f x y Z2 with
  | some Z3 => .nx ρ Z3
  | none => .stuck
def gFld (cs : List String) (f : String) (fo : FE) : FG := fun y ρ Z => (fo ρ Z).bind fun x Z1 => match setF cs f x y Z1 with
  | some Z2 => .ok ρ Z2
  | none => .stuck
def insC (x : T) (Z : Sto) : Option String := match x with
  | .loc i => (getI Z i).map (·.1)
  | _ => none
def sFldA (cs : List String) (f : String) (fo fv : FE) (g : T → T → Sto → Option (T × Sto)) : FS := fun ρ Z => bS ρ (fo ρ Z) fun x Z1 => match fldT cs f x Z1 with
  | some t => bS ρ (fv ρ Z1) fun y Z2 => bS ρ (lift (g t y Z2)) fun z Z3 => if insC x Z3 = insC x Z1 then (match setF cs f x z Z3 with
    | some Z4 => .nx ρ Z4
    | none => .stuck) else .stuck
  | none => .stuck
section
variable {X : Cx} {K : PySem.W.Frag} {cs : List String} {f : String} {o e value : Expr} {pos pos' tpos : Pos} {fo fv fe : FE}
theorem Zn1 {ι : List Addr} {H : Hp} {Z : Sto} {x : V} {tx t : T} (hc : FldOk K cs f) (s : Sim K ι Z H) (r : Rep K ι H x tx) (h : fldT cs f tx Z = some t) :
    ∃ a Ca dx vs v,x = .ref a ∧ H a = some (.ins Ca dx vs) ∧ Cls K Ca ∧ NoAttr K Ca (PySem.Str.ofString f) ∧ vs.lookup (PySem.Str.ofString f) = some v ∧ Rep K ι H v t ∧ ∃ C,insC tx Z = some C ∧ PySem.W.nsIn K mainGlobals (PySem.Str.ofString C) = some (some (.ref Ca)) := by
  unfold fldT at h
  split at h
  · split at h
    · rename_i C fs eg
      split at h
      · rename_i hC
        obtain ⟨a,Ca,dx,vs,rfl,hi,hn,ha,hf⟩ := Zjk s r eg
        obtain ⟨Cb,cf,na⟩ := hc C hC
        have e2 := hn.symm.trans cf.ns
        cases e2
        obtain ⟨v,hv,rv⟩ := hf.lookup.1 t h
        exact ⟨a,_,dx,vs,v,rfl,ha,cf.cls,na,hv,rv,C,by simp only [insC,eg,Option.map_some],hn⟩
      · cases h
    · cases h
  · cases h
theorem Zg5 {ι : List Addr} {H : Hp} {Z Z' : Sto} {x y : V} {tx ty : T} (hc : FldOk K cs f) (s : Sim K ι Z H) (r : Rep K ι H x tx) (ry : Rep K ι H y ty) (h : setF cs f tx ty Z = some Z') :
    ∃ a Ca dx vs,x = .ref a ∧ H a = some (.ins Ca dx vs) ∧ Cls K Ca ∧ NoAttr K Ca (PySem.Str.ofString f) ∧ vs.length < 1000 ∧
      Gr ι ι H (upd H a (.ins Ca dx (putF (PySem.Str.ofString f) y vs))) ∧ Sim K ι Z' (upd H a (.ins Ca dx (putF (PySem.Str.ofString f) y vs))) ∧ ∃ C, insC tx Z = some C ∧ PySem.W.nsIn K mainGlobals (PySem.Str.ofString C) = some (some (.ref Ca)) := by
  unfold setF at h
  split at h
  · split at h
    · rename_i C fs eg
      split at h
      · rename_i hC
        cases h
        obtain ⟨a,Ca,dx,vs,rfl,hi,hn,ha,hf⟩ := Zjk s r eg
        obtain ⟨Cb,cf,na⟩ := hc C hC.1
        have e2 := hn.symm.trans cf.ns
        cases e2
        have g := Gr.mut (ι := ι) (o := .ins Ca dx (putF (PySem.Str.ofString f) y vs)) ha trivial (List.mem_of_getElem? hi)
        exact ⟨a,_,dx,vs,rfl,ha,cf.cls,na,by rw [hf.length]; exact hC.2,g,s.set hi ⟨Ca,dx,_,hn,upd_same,(hf.gr g).put (ry.gr g)⟩,C,by simp only [insC,eg,Option.map_some],hn⟩
      · cases h
    · cases h
  · cases h
theorem Wf {W : Wc} (hK : X.K = K) (hc : FldOk K cs f) (he : FJ X K W e fe) (hb : attributeBase e (PySem.Str.ofString f) X.env (eval e X.env) = eval e X.env := by rfl) : FJ X K W (.Attribute e (PySem.Str.ofString f) pos) (eFld cs f fe) := by
  subst hK
  refine Uu (pe_fld he hb) fun σ H Q h => ?_
  obtain ⟨ι,ρ,Z,is,p⟩ := h
  refine ⟨ι,ρ,Z,is,(Zu p).imp fun x H1 q => ?_⟩
  obtain ⟨ι1,Z1,tx,g1,s1,r1,p1⟩ := q
  split at p1
  · rename_i t et
    obtain ⟨a,Ca,dx,vs,v,rfl,ha,hcl,na,hv,rv,_⟩ := Zn1 hc s1 r1 et
    exact ⟨a,Ca,dx,vs,v,rfl,ha,hcl,na,hv,p1 ι1 H1 _ Gr.refl s1 rv⟩
  · exact p1.elim
variable {W : WX}
theorem Z3o (hK : X.K = K) (hc : FldOk K cs f) (ho : FJ X K (Wt W) o fo) (hv : FJ X K (Wt W) value fv) (hs : swapsWith value (some (.Attribute o (PySem.Str.ofString f) pos')) pos.line X.env = pure false := by rfl) :
    FSJ X K W (.Assign [.Attribute o (PySem.Str.ofString f) pos'] value pos) (sFldS cs f fo fv) := by
  subst hK
  refine Jx (ps_fld ho hv hs) fun D σ H h => ?_
  obtain ⟨ι,ρ,Z,is,p⟩ := h
  refine Zau is p fun y H1 ι1 Z1 ty g1 i1 r1 p1 => Zau i1 p1 fun x H2 ι2 Z2 tx g2 i2 r2 p2 => ?_
  split at p2
  · rename_i Z3 e3
    obtain ⟨a,Ca,dx,vs,rfl,ha,hcl,na,hl,g3,s3,_⟩ := Zg5 hc i2.sim r2 (r1.gr g2) e3
    exact ⟨a,Ca,dx,vs,rfl,ha,hcl,na,hl,p2 ι2 _ _ g3 (i2.gr g3 s3)⟩
  · exact p2.elim
theorem Zg6 {op : Operator} {g : T → T → Sto → Option (T × Sto)} (hK : X.K = K) (hc : FldOk K cs f) (ho : FJ X K (Wt W) o fo) (hv : FJ X K (Wt W) value fv) (hop : PIp X op (rF2 K g)) :
    FSJ X K W (.AugAssign (.Attribute o (PySem.Str.ofString f) tpos) op value pos) (sFldA cs f fo fv g) := by
  subst hK
  refine Jx (ps_fldaug (rd := rF2 X.K g) ho hv hop) fun D σ H h => ?_
  obtain ⟨ι,ρ,Z,is,p⟩ := h
  refine Zau is p fun x H1 ι1 Z1 tx g1 i1 r1 p1 => ?_
  split at p1
  · rename_i t et
    obtain ⟨a,Ca,dx,vs,v,rfl,ha,hcl,na,hv,rv,C1,ic1,nc1⟩ := Zn1 hc i1.sim r1 et
    refine ⟨a,Ca,dx,vs,v,rfl,ha,hcl,na,hv,?_⟩
    refine Zau i1 p1 fun y H2 ι2 Z2 ty g2 i2 r2 p2 => ⟨ι2,Z2,t,ty,i2.sim,rv.gr g2,r2,?_⟩
    refine Q3 (W := W) (σ := σ) ((Z5s (rep := Rep X.K) i2 p2).imp fun z H3 q => ?_)
    obtain ⟨ι3,Z3,tz,g3,s3,r3,p3⟩ := q
    split at p3
    · rename_i hic
      split at p3
      · rename_i Z4 e4
        obtain ⟨a', Ca', dx', vs', ea, ha', hcl', na', hl', g4, s4, C2, ic2, nc2⟩ := Zg5 hc s3 (r1.gr (g2.trans g3)) r3 e4
        cases ea
        rw [hic,ic1] at ic2
        cases ic2
        have e5 := nc1.symm.trans nc2
        cases e5
        exact ⟨dx', vs', ha', hl', p3 ι3 _ _ g4 ((i2.gr g3 s3).gr g4 s4)⟩
      · exact p3.elim
    · exact p3.elim
  · exact p1.elim
end
def methK (C m : String) (x : T) (Z : Sto) (r : Nat → R T) : R T := match x with
  | .loc i => match getI Z i with
    | some (C', fs) => if C' = C ∧ fs.lookup m = none then r i else .stuck
    | none => .stuck
  | _ => .stuck
def eMeth (C m : String) (F : FF) (ds : List T) (fo : FE) (fa : FA) : FE := fun ρ Z => (fo ρ Z).bind fun x Z1 => methK C m x Z1 fun i => (fa ρ Z1).bind fun ts Z2 => F (.loc i :: (ts ++ ds)) Z2
def eMake (C : String) (F : FF) (ds : List T) (fa : FA) : FE := fun ρ Z => (fa ρ Z).bind fun ts Z1 => (F (.loc Z1.length :: (ts ++ ds)) (Z1 ++ [.ins C []])).bind fun r Z2 => match r with
  | .non => .ok (.loc Z1.length) Z2
  | _ => .stuck
section
variable {X : Cx} {K : PySem.W.Frag} {W : Wc} {x : PySem.Str} {m C : String} {p pos apos : Pos} {o e : Expr} {es : List Expr} {fo : FE} {fa : FA} {k n : Nat} {Ca f : Addr} {fd : FuncData} {ps : List PySem.Str} {F : FF} {dvs : List V} {ds : List Value} {dts : List T}
theorem Zjl {ι : List Addr} {H : Hp} {Z : Sto} {v : V} {tx : T} {r : Nat → R T} {P : R T → Prop} (cf : CF K C Ca) (s : Sim K ι Z H) (rv : Rep K ι H v tx)
    (p : P (methK C m tx Z r)) (hP : ¬ P .stuck) : ∃ a dx vs i,v = .ref a ∧ tx = .loc i ∧ H a = some (.ins Ca dx vs) ∧ vs.lookup (PySem.Str.ofString m) = none ∧ P (r i) := by
  unfold methK at p
  cases tx with
  | loc i =>
    simp only at p
    split at p
    · rename_i C' fs eg
      split at p
      · rename_i hC
        obtain ⟨rfl,hm⟩ := hC
        obtain ⟨a,Cb,dx,vs,rfl,hi,hn,ha,hf⟩ := Zjk s rv eg
        have e2 := hn.symm.trans cf.ns
        cases e2
        exact ⟨a,dx,vs,i,rfl,rfl,ha,hf.lookup.2 hm,p⟩
      · exact (hP p).elim
    · exact (hP p).elim
  | _ => exact (hP p).elim
theorem Y5 (hK : X.K = K) (cf : CF X.K C Ca) (hm : Meth X.K Ca (PySem.Str.ofString m) f) (G : FnG X.prog X.w X.K X.mg X.base k f fd ps (spF X.K n F)) (hr : Room k X.A) (hG : X.A.guards = some []) (hb : Binds X.K fd ps ds) (hd : Vals dvs ds) (hdf : Dfl K dvs dts) (tk : Takes X W.w)
    (ho : FJ X K W o fo) (ha : FAJ X K W (e :: es) fa) (hn : ofLen (e :: es) fa) (hln : (e :: es).length + dts.length + 1 = n := by rfl) {pl : Sem Bool}
    (hst : starEach (e :: es) X.env = (false,eval e X.env) :: starEach es X.env := by rfl) (hpl : (backTo pos (starEach es X.env)).any (·.1) = false := by rfl)
    (ht : eval (.Call (.Attribute o (PySem.Str.ofString m) apos) (e :: es) [] pos) X.env = (do
      let ov ← eval o X.env
      standAt apos.atName
      let (f,first) ← holding [ov] (getMethod ov (PySem.Str.ofString m) pl)
      callWith pos f first (backTo pos (starEach (e :: es) X.env)) (backToKw pos (keywordEach [] X.env))) := by rfl) :
    FJ X K W (.Call (.Attribute o (PySem.Str.ofString m) apos) (e :: es) [] pos) (eMeth C m F dts fo fa) := by
  subst hK
  refine ⟨fun pins s σ H Q I h => ?_⟩
  obtain ⟨ι,ρ,Z,is,p0⟩ := h
  have t0 : tF X.K W fo σ H (fun v H1 => ∃ ι1 Z1 tx,Gr ι ι1 H H1 ∧ Sim X.K ι1 Z1 H1 ∧ Rep X.K ι1 H1 v tx ∧ Post (Rep X.K) X.K W.w σ ι1 H1 Q (methK C m tx Z1 fun i => (fa ρ Z1).bind fun ts Z2 => F (.loc i :: (ts ++ dts)) Z2)) := ⟨ι,ρ,Z,is,Zu p0⟩
  refine PySem.W.methodCall_KW (pl := pl) (thn (ho.run pins s σ H _ I t0) fun u s1 ⟨v,H1,I1,rx,q⟩ => ?_) ht
  obtain ⟨ι1, Z1, tx, g1, s1', r1, p1⟩ := q
  obtain ⟨a, dx, vs, i, rfl, rfl, ea, l, p2⟩ := Zjl (K := X.K) (P := Post (Rep X.K) X.K W.w σ ι1 H1 Q) cf s1' r1 p1 (fun z => z)
  obtain rfl : u = Value.ref a := rx
  refine getmeth_ok I1 ea cf.cls hm l ?_
  have t : tFA X.K W fa σ H1 (fun ws H2 => spF X.K n F (.ref a :: (ws ++ dvs)) H2 Q (WE W.w σ)) := by
    refine ⟨ι1, ρ, Z1, is.gr g1 s1', ?_⟩
    cases e : fa ρ Z1 with
    | ok ts Z2 =>
      rw [e,Xr] at p2
      refine fun ι2 H2 ws g2 s2 r2 => ?_
      have r3 := r2.append (hdf ι2 H2)
      have rr : Reps X.K ι2 H2 (V.ref a :: (ws ++ dvs)) (.loc i :: (ts ++ dts)) := .cons (r1.gr g2) r3
      refine ⟨?_,ι2,Z2,_,s2,rr,(p2.shift g2).wx fun _ _ _ h => h⟩
      rw [rr.length,List.length_cons,List.length_append,hn _ _ _ _ e]
      exact hln
    | exc y Z2 => rw [e] at p2; exact p2
    | stuck => rw [e] at p2; exact p2
  refine PySem.W.callWith_K (first := [.ref a]) (h₀ := X.base) I1.ok.mod.kin hm.kp (thn (ha.run pos pins s1 σ H1 _ I1 t) fun us s2 ⟨ws,H2,I2,r,q2⟩ => ⟨I2.kIn,?_⟩) hst hpl
  exact Znn (us := .ref a :: us) (vs := .ref a :: ws) G hr hG hb hd tk I2 (.cons rfl r) q2
theorem Zjm (hK : X.K = K) (cf : CF X.K C Ca) (hm : Meth X.K Ca (PySem.Str.ofString m) f) (G : FnG X.prog X.w X.K X.mg X.base k f fd ps (spF X.K n F)) (hr : Room k X.A) (hG : X.A.guards = some []) (hb : Binds X.K fd ps ds) (hd : Vals dvs ds) (hdf : Dfl K dvs dts) (tk : Takes X W.w)
    (ho : FJ X K W o fo) (hln : dts.length + 1 = n := by rfl) {pl : Sem Bool}
    (ht : eval (.Call (.Attribute o (PySem.Str.ofString m) apos) [] [] pos) X.env = (do
      let ov ← eval o X.env
      standAt apos.atName
      let (f,first) ← holding [ov] (getMethod ov (PySem.Str.ofString m) pl)
      callWith pos f first (backTo pos (starEach [] X.env)) (backToKw pos (keywordEach [] X.env))) := by rfl) :
    FJ X K W (.Call (.Attribute o (PySem.Str.ofString m) apos) [] [] pos) (eMeth C m F dts fo aNil) := by
  subst hK
  refine ⟨fun pins s σ H Q I h => ?_⟩
  obtain ⟨ι,ρ,Z,is,p0⟩ := h
  have t0 : tF X.K W fo σ H (fun v H1 => ∃ ι1 Z1 tx,Gr ι ι1 H H1 ∧ Sim X.K ι1 Z1 H1 ∧ Rep X.K ι1 H1 v tx ∧ Post (Rep X.K) X.K W.w σ ι1 H1 Q (methK C m tx Z1 fun i => (aNil ρ Z1).bind fun ts Z2 => F (.loc i :: (ts ++ dts)) Z2)) := ⟨ι,ρ,Z,is,Zu p0⟩
  refine PySem.W.methodCall_KW (pl := pl) (thn (ho.run pins s σ H _ I t0) fun u s1 ⟨v,H1,I1,rx,q⟩ => ?_) ht
  obtain ⟨ι1, Z1, tx, g1, s1', r1, p1⟩ := q
  obtain ⟨a, dx, vs, i, rfl, rfl, ea, l, p2⟩ := Zjl (K := X.K) (P := Post (Rep X.K) X.K W.w σ ι1 H1 Q) cf s1' r1 p1 (fun z => z)
  obtain rfl : u = Value.ref a := rx
  refine getmeth_ok I1 ea cf.cls hm l ?_
  have p3 : Post (Rep X.K) X.K W.w σ ι1 H1 Q (F (.loc i :: ([] ++ dts)) Z1) := p2
  rw [List.nil_append] at p3
  have rr : Reps X.K ι1 H1 (V.ref a :: dvs) (.loc i :: dts) := .cons r1 (hdf ι1 H1)
  exact PySem.W.callWith_K0 (first := [.ref a]) I1.kIn hm.kp (Znn (us := [.ref a]) (vs := [.ref a]) G hr hG hb hd tk I1 (.cons rfl .nil) ⟨by rw [show [V.ref a] ++ dvs = V.ref a :: dvs from rfl, rr.length, List.length_cons]; exact hln, ι1, Z1, _, s1', rr, p3.wx fun _ _ _ h => h⟩)
theorem Zpc {pins : List (Addr × Obj)} {σ : L2.St} {H : Hp} {s : Shared} {Q : VK} {us : List Value} {vs : List V} {sp : Sp} (M : Mk X.K Ca f) (G : FnG X.prog X.w X.K X.mg X.base k f fd ps sp) (hr : Room (k + 1) X.A) (hG : X.A.guards = some []) (hb : Binds X.K fd ps ds) (hd : Vals dvs ds) (tk : Takes X W.w)
    (I : Inv X pins σ H s) (r : Vals vs us)
    (h : ∀ a dx,H a = none → H dx = none → dx ≠ a → sp (.ref a :: (vs ++ dvs)) (upd (upd H dx (.own a)) a (.ins Ca dx [])) (fun v H2 => v = .non ∧ Q (.ref a) H2) (WE W.w σ)) :
    wpAny (model X.prog X.w) X.A (call (.ref Ca) us) (EP X pins σ Q) X.xe s := by
  have n1 := I.hok.fresh (Nat.le_succ s.heap.objs.size)
  have n0 := I.hok.fresh (Nat.le_refl s.heap.objs.size)
  have q0 := h _ _ n1 n0 (Nat.ne_of_lt (Nat.lt_succ_self _))
  have J := Inv.made (C := Ca) I
  have rr : Vals (V.ref (s.heap.objs.size + 1) :: (vs ++ dvs)) (Value.ref (s.heap.objs.size + 1) :: (us ++ ds)) := .cons rfl (r.append hd)
  have hl : (Value.ref (s.heap.objs.size + 1) :: us ++ ds).length = ps.length := (rr.length.symm.trans (G.len _ _ _ _ q0))
  have body := G.run (X.A.under (.builtin "type.__call__" ⟨.ref Ca :: us, []⟩)) X.stack _ _ ⟨Value.ref (s.heap.objs.size + 1) :: us, []⟩ _ _ _ _
    (hr.make Ca us []) hG (J.env0.make Ca us []) (hb _ (Value.ref (s.heap.objs.size + 1) :: us) J.kIn hl) rr q0
  refine wpAny_call (make_map (f := f) I.kIn M.makes M.init (beq_iff_eq.mp M.fn) (codeAny_mono body fun z s' hz => ?_))
  cases z with
  | error e => exact passAt tk σ pins _ _ e s' J hz
  | ok fl =>
    cases fl with
    | ret u =>
      obtain ⟨v, H', I3, rv, ev, q3⟩ := J.after hz
      subst ev
      exact ⟨rv, V.ref (s.heap.objs.size + 1), H', I3, rfl, q3⟩
    | next => exact hz.elim
    | brk => exact hz.elim
    | cont => exact hz.elim
theorem Zlr {ι : List Addr} {H : Hp} {Z : Sto} {a dx : Addr} (cf : CF K C Ca) (s : Sim K ι Z H) (na : H a = none) (nd : H dx = none) (ne : dx ≠ a) :
    Gr ι (ι ++ [a]) H (upd (upd H dx (.own a)) a (.ins Ca dx [])) ∧ Sim K (ι ++ [a]) (Z ++ [.ins C []]) (upd (upd H dx (.own a)) a (.ins Ca dx [])) := by
  have g1 : Gr ι ι H (upd H dx (.own a)) := Gr.new0 nd
  have s1 := s.same (Z0x (o := .own a) nd)
  have na2 : upd H dx (.own a) a = none := by rw [upd_ne (Ne.symm ne)]; exact na
  exact ⟨g1.trans (Gr.new na2),s1.new na2 ⟨Ca,dx,[],cf.ns,upd_same,.nil⟩⟩
theorem made_post {ι : List Addr} {H : Hp} {Z : Sto} {Q : VK} {σ : L2.St} {a : Addr} {ts : List T} (s : Sim K ι Z H) {H2 : Hp} (g2 : Gr ι (ι ++ [a]) H H2)
    (p : Post (Rep K) K W.w σ ι H Q ((F ts (Z ++ [.ins C []])).bind fun r Z2 => match r with | .non => .ok (.loc Z.length) Z2 | _ => .stuck)) : Post (Rep K) K W.w σ (ι ++ [a]) H2 (fun v H3 => v = .non ∧ Q (.ref a) H3) (F ts (Z ++ [.ins C []])) := by
  cases e : F ts (Z ++ [.ins C []]) with
  | ok t Z2 =>
    rw [e,Xr] at p
    intro ι3 H3 v g3 s3 r3
    cases t with
    | non =>
      cases r3
      have hi : (ι ++ [a])[Z.length]? = some a := by rw [← s.len]; simp
      exact ⟨rfl,p ι3 H3 (.ref a) (g2.trans g3) s3 (.loc (g3.pre _ _ hi))⟩
    | _ => exact p.elim
  | exc x Z2 => rw [e] at p; exact fun ι3 H3 cls d g3 s3 rx => p ι3 H3 cls d (g2.trans g3) s3 rx
  | stuck => rw [e] at p; exact p
theorem Zjn (hK : X.K = K) (cf : CF X.K C Ca) (M : Mk X.K Ca f) (G : FnG X.prog X.w X.K X.mg X.base k f fd ps (spF X.K n F)) (hr : Room (k + 1) X.A) (hG : X.A.guards = some []) (hg : Gl X x) (hm : X.mg x = some (.ref Ca)) (hb : Binds X.K fd ps ds) (hd : Vals dvs ds) (hdf : Dfl K dvs dts) (tk : Takes X W.w)
    (ha : FAJ X K W (e :: es) fa) (hn : ofLen (e :: es) fa) (hln : (e :: es).length + dts.length + 1 = n := by rfl) (hdb : (x == ("__debug__" : PySem.Str)) = false := by decide) (he : starEach (e :: es) X.env = (false, eval e X.env) :: starEach es X.env := by rfl) (hpl : (backTo pos (starEach es X.env)).any (·.1) = false := by rfl) :
    FJ X K W (.Call (.Name x p) (e :: es) [] pos) (eMake C F dts fa) := by
  subst hK
  refine ⟨fun pins s σ H Q I h => ?_⟩
  refine wpAny_Call_Name_kw (ld_glob I hg hm ?_ hdb)
  obtain ⟨ι,ρ,Z,is,p⟩ := h
  have t : tFA X.K W fa σ H (fun vs H1 => ∀ a dx,H1 a = none → H1 dx = none → dx ≠ a → spF X.K n F (.ref a :: (vs ++ dvs)) (upd (upd H1 dx (.own a)) a (.ins Ca dx [])) (fun v H2 => v = .non ∧ Q (.ref a) H2) (WE W.w σ)) := by
    refine ⟨ι,ρ,Z,is,?_⟩
    unfold eMake at p
    cases e : fa ρ Z with
    | ok ts Z1 =>
      rw [e,Xr] at p
      refine fun ι1 H1 vs g1 s1 r1 a dx na nd ne => ?_
      obtain ⟨g2,s2⟩ := Zlr cf s1 na nd ne
      have hi : (ι1 ++ [a])[Z1.length]? = some a := by rw [← s1.len]; simp
      have r2 : Reps X.K (ι1 ++ [a]) (upd (upd H1 dx (.own a)) a (.ins Ca dx [])) (V.ref a :: (vs ++ dvs)) (.loc Z1.length :: (ts ++ dts)) := .cons (.loc hi) ((r1.gr g2).append (hdf _ _))
      refine ⟨?_,_,_,_,s2,r2,(made_post s1 g2 (p.shift g1)).wx fun _ _ _ h => h⟩
      rw [r2.length,List.length_cons,List.length_append,hn _ _ _ _ e]
      exact hln
    | exc y Z1 => rw [e] at p; exact p
    | stuck => rw [e] at p; exact p
  refine PySem.W.callWith_K (h₀ := X.base) I.ok.mod.kin M.kp (thn (ha.run pos pins s σ H _ I t) fun us s1 ⟨vs,H1,I1,r,q⟩ => ⟨I1.kIn,?_⟩) he hpl
  exact Zpc M G hr hG hb hd tk I1 r q
end
end Fx
set_option maxHeartbeats 4000000
namespace Fx
open PySem PySem.Spec PyProof.Rows L2 SX Ap
variable [Tb]
section
variable {X : Cx} {K : PySem.W.Frag} {W : WX} {cs : List String} {f : String} {o : Expr} {pos : Pos} {fo : FE}
def gFldV (K : PySem.W.Frag) (ta : TE) (f : PySem.Str) : TG := fun y σ H Q => ta σ H fun x H2 => ∃ a C dx fs,x = .ref a ∧ H2 a = some (.ins C dx fs) ∧ Cls K C ∧ NoAttr K C f ∧ fs.length < 1000 ∧ Q σ (upd H2 a (.ins C dx (putF f y fs)))
theorem Zpd {f : PySem.Str} {ta : TE} (ha : PE X o ta) (he : ∀ v,assign (.Attribute o f pos) X.env v = (do
    let ov ← holding [v] (eval o X.env)
    standAt pos.atName
    holding [v,ov] (setAttr ov f v)
    release [v,ov] []) := by intro _; rfl) : PG X (.Attribute o f pos) (gFldV X.K ta f) := by
  refine ⟨fun pins s σ H v u Q I r h => ?_⟩
  rw [he]
  refine wpAny_bind (wpAny_holding (thn (ha.run pins s σ H _ I h) fun ov s2 ⟨x,H2,I2,rx,a,C,dx,fs,ex,ea,c,n,l,q2⟩ => ?_))
  subst ex
  obtain rfl : ov = Value.ref a := rx
  refine wpAny_bind (wpAny_standAt (wpAny_bind (wpAny_holding (setattr_ok I2 ea c n l r fun s3 I3 => ?_))))
  exact wpAny_release ⟨σ,_,I3,q2⟩
theorem Zej (hK : X.K = K) (hc : FldOk K cs f) (ho : FJ X K (Wt W) o fo) (he : ∀ v,assign (.Attribute o (PySem.Str.ofString f) pos) X.env v = (do
    let ov ← holding [v] (eval o X.env)
    standAt pos.atName
    holding [v,ov] (setAttr ov (PySem.Str.ofString f) v)
    release [v,ov] []) := by intro _; rfl) : PG X (.Attribute o (PySem.Str.ofString f) pos) (tG K W (gFld cs f fo)) := by
  subst hK
  refine Zh7 (Zpd ho he) fun v σ H Q h => ?_
  obtain ⟨ι,ρ,Z,t,is,r,p⟩ := h
  refine ⟨ι,ρ,Z,is.ie,(Zu (rep := Rep X.K) p).imp fun x H1 q => ?_⟩
  obtain ⟨ι1,Z1,tx,g1,s1,r1,p1⟩ := q
  split at p1
  · rename_i Z2 e2
    obtain ⟨a,Ca,dx,vs,ex,ea,c,n,l,g2,s2,_⟩ := Zg5 hc s1 r1 (r.gr g1) e2
    refine ⟨a,Ca,dx,vs,ex,ea,c,n,l,?_⟩
    have i2 := (is.gr g1 s1).gr g2 s2
    exact p1 ι1 _ _ g2 s2 ⟨i2.len,i2.env⟩
  · exact p1.elim
end
end Fx
set_option maxHeartbeats 4000000
namespace Fx
open PySem PySem.Spec PyProof.Rows L2 SX Ap
variable [Tb]
end Fx
set_option maxHeartbeats 4000000
namespace Fx
open PySem PySem.Spec PyProof.Rows L2 SX Ap
variable [Tb]
end Fx
set_option maxHeartbeats 4000000
namespace Fx
open PySem PySem.Spec PyProof.Rows L2 SX Ap
variable [Tb]
structure LamP (sc scope : Scope) (N : List PySem.Str) (dn : Option (PySem.Str × Int)) : Prop where
  kind : scope.kind = .function
  co : scope.isCoroutine = false
  gen : scope.isGenerator = false
  own : ∀ y ∈ scope.names,y.2 ≠ .cell
  loc : ∀ y ∈ scope.names,y.2 = .local → y.1 ∉ N
  free : ∀ y ∈ scope.names,y.2 = .free → sc.names.lookup y.1 = some .cell ∨ sc.names.lookup y.1 = some .free
  par : ∀ y i,dn = some (y,i) → scope.names.lookup y = some .local
theorem LamP.has {X : Cx} {scope : Scope} {N : List PySem.Str} {dn : Option (PySem.Str × Int)} (L : LamP X.env.scope scope N dn) (ok : X.Ok) : ∀ y ∈ scope.names,y.2 = .free → ∃ c,X.env.cells.lookup y.1 = some c := fun y hy e => by
  rcases L.free y hy e with k | k
  · exact ok.has _ (.inl k)
  · exact ok.has _ (.inr k)
open Classical in
noncomputable def eAsk (fl : Sto → R T) (lv : T) (i : Nat) : FE := fun ρ Z => if ρ[i]? = some (some lv) then fl Z else .stuck
def eLam (F : (Sto → R T) → T → FF) (fb : FE) (fa : FA) : FE := fun ρ Z => (fa ρ Z).bind fun ts Z1 => F (fun Z' => fb ρ Z') .non (.non :: ts) Z1
end Fx
set_option maxHeartbeats 4000000
namespace Ap
open PySem PySem.Spec PyProof.Rows L2 SX
end Ap
set_option maxHeartbeats 4000000
namespace Fx
open PySem PySem.Spec PyProof.Rows L2 SX Ap
variable [Tb]
def kdGet (l : List (List Nat × List Nat)) : T → Option (List Nat)
  | .str k => l.lookup k
  | _ => none
def eKdIx (l : List (List Nat × List Nat)) (fe : FE) : FE := fun ρ Z => (fe ρ Z).bind fun x Z1 => match kdGet l x with
  | some v => .ok (.str v) Z1
  | none => .stuck
def iKdItems (l : List (List Nat × List Nat)) : FI := fun _ Z => .ok (itSeq (l.map fun x => .tup [.str x.1,.str x.2])) Z
def eCallN (F : FF) (g : List T → List T → List T) (fa fk : FA) : FE := fun ρ Z => (fa ρ Z).bind fun ts Z1 => (fk ρ Z1).bind fun us Z2 => F (g ts us) Z2
def pick {α : Type} (ix : List Nat) (l : List α) : List α := ix.filterMap fun i => l[i]?
end Fx
set_option maxHeartbeats 4000000
namespace Fx
open PySem PySem.Spec PyProof.Rows L2 SX Ap
variable [Tb]
theorem Znt {P : Program} {w : World} {K : PySem.W.Frag} {mg mb : PySem.Str → Option Value} {k : Nat} {fa a : Addr} {cs : List (Addr × Addr)}
    {fd : FuncData} {x : PySem.Str} {sp : Sp} {s₁ : Shared} {vs : List Value} {ns : List Int}
    (KX : K.In s₁.heap) (hns : s₁.heap.Ns mainGlobals mg) (hb : s₁.heap.Ns builtinsNs mb)
    (hbb : ∀ x : PySem.Str, x ≠ "__name__" → mb x = bootBuiltins x) (hlim : s₁.heap.NoLimit) (hg : s₁.gens = #[])
    (hT : ∀ p ∈ cs,s₁.heap.get? p.2 = some { cls := .none,data := .fields #[] }) (nT : ∀ p ∈ cs,K.lookup p.2 = none) (C : ∀ p ∈ cs,PySem.W.CodeHd s₁.heap p.1 p.2)
    (hbm : ∃ (bm : Addr) (ob : Obj), mg "__builtins__" = some (.ref bm) ∧ bm ≠ builtinsNs ∧ s₁.heap.get? bm = some ob ∧ ob.cls = .type "module" ∧ ob.dict = some builtinsNs ∧ ob.data = .plain)
    (ha : s₁.heap.get? a = some { cls := .type "list", data := .seq vs.toArray }) (hi : IntsAre vs ns) (hl : ns.length ≤ sizeLine)
    (hr : Room k callerA)
    (F : ∀ base : Heap,K.In base → base.Ns mainGlobals mg → (∀ p ∈ cs,LamX.TabB base mg p.1 p.2) → GOk P w K mg base CX0 k fa fd [x] sp)
    (hbind : ∀ (s : Shared) (u : Value),BindsTo s fd ⟨[u],[]⟩ [(x,u)])
    (hsp : ∀ H : Hp,(∀ p ∈ cs,H p.2 = some (.tbl #[])) → Fx.FrL K H a (ns.map V.int) → sp [.ref a] H (fun v _ => v = .bl true) fun _ _ _ => False) :
    codeAny (model P w) callerA (.call (.ref fa) ⟨[.ref a],[]⟩)
      (fun r s' => r = .ok (.ret (.bool true)) ∧ OldK s₁.heap s'.heap ∧ s'.os = s₁.os ∧ AllBare s'.gens) s₁ := by
  have rv := vals_ints hi
  have lenV := hi.length
  have tabAt : ∀ {b : Addr},b ∈ cs.map (·.2) → s₁.heap.get? b = some { cls := .none,data := .fields #[] } := fun {b} hb => by
    obtain ⟨p,hp,rfl⟩ := List.mem_map.mp hb
    exact hT p hp
  have aNo : a ∉ cs.map (·.2) := fun z => by
    have q := tabAt z
    rw [ha] at q
    have := congrArg Obj.data (Option.some.inj q)
    cases this
  have inT : ∀ p ∈ cs,p.2 ∈ cs.map (·.2) := fun p hp => List.mem_map.mpr ⟨p,hp,rfl⟩
  suffices core : ∀ H : Hp,(∀ p ∈ cs,H p.2 = some (.tbl #[])) → Fx.FrL K H a (ns.map V.int) → HOk P w H s₁.heap →
      (∀ b u,H b = some u → (b = a ∧ K.lookup a = none ∧ ∃ o xs,u = .frz o (.lst xs)) ∨ (b ∈ cs.map (·.2) ∧ u = .tbl #[])) →
      codeAny (model P w) callerA (.call (.ref fa) ⟨[.ref a],[]⟩)
        (fun r s' => r = .ok (.ret (.bool true)) ∧ OldK s₁.heap s'.heap ∧ s'.os = s₁.os ∧ AllBare s'.gens) s₁ by
    cases hk : K.lookup a with
    | some o =>
      have e := KX a o hk
      rw [ha] at e
      cases e
      have at0 : ∀ b u,(fun b => if b ∈ cs.map (·.2) then some (.tbl #[]) else none : Hp) b = some u → b ∈ cs.map (·.2) ∧ u = .tbl #[] := by
        intro b u z
        dsimp only at z
        split at z
        · cases z; exact ⟨by assumption,rfl⟩
        · cases z
      refine core (fun b => if b ∈ cs.map (·.2) then some (.tbl #[]) else none) (fun p hp => if_pos (inT p hp)) (.inr ⟨_,vs.toArray,_,hk,rfl,rfl,rfl,?_,?_⟩) ?_ ?_
      · rw [List.size_toArray,lenV]; exact hl
      · simpa using rv
      · intro b u z
        obtain ⟨h1,rfl⟩ := at0 b u z
        exact tabAt h1
      · intro b u z
        exact .inr (at0 b u z)
    | none =>
      let o0 : HO := .frz { cls := .type "list", data := .seq vs.toArray } (.lst (ns.map V.int))
      have at0 : ∀ b u,(fun b => if b = a then some o0 else if b ∈ cs.map (·.2) then some (.tbl #[]) else none : Hp) b = some u → (b = a ∧ u = o0) ∨ (b ∈ cs.map (·.2) ∧ u = .tbl #[]) := by
        intro b u z
        dsimp only at z
        split at z
        · cases z; exact .inl ⟨by assumption,rfl⟩
        · split at z
          · cases z; exact .inr ⟨by assumption,rfl⟩
          · cases z
      refine core (fun b => if b = a then some o0 else if b ∈ cs.map (·.2) then some (.tbl #[]) else none) (fun p hp => ?_) (.inl ⟨{ cls := .type "list", data := .seq vs.toArray }, if_pos rfl⟩) ?_ ?_
      · show (if p.2 = a then some o0 else if p.2 ∈ cs.map (·.2) then some (HO.tbl #[]) else none) = _
        rw [if_neg (fun z => aNo (by rw [← z]; exact inT p hp)),if_pos (inT p hp)]
      · intro b u z
        rcases at0 b u z with ⟨rfl,rfl⟩ | ⟨h1,rfl⟩
        · exact ⟨ha,by rw [List.length_map]; exact hl,vs,_,rv,ha⟩
        · exact tabAt h1
      · intro b u z
        rcases at0 b u z with ⟨rfl,rfl⟩ | h1
        · exact .inl ⟨rfl,hk,_,_,rfl⟩
        · exact .inr h1
  intro H hH hS hok hA
  have free : ∀ {b : Addr},(∀ u,H b ≠ some u) → H b = none := fun {b} z => by
    cases q : H b with
    | none => rfl
    | some u => exact absurd q (z u)
  have noD : ∀ {b : Addr} {o : Obj},s₁.heap.get? b = some o → (∀ vs n,o.data ≠ .seq vs n) → o.data ≠ .fields #[] → H b = none := fun {b o} e h1 h2 => by
    apply free
    intro u q
    rcases hA b u q with ⟨rfl,_⟩ | ⟨h3,_⟩
    · rw [ha] at e
      cases e
      exact h1 _ _ rfl
    · rw [tabAt h3] at e
      cases e
      exact h2 rfl
  have dictFree : ∀ {b : Addr} {o : Obj} {es : Array DictEntry} {ep : Nat},s₁.heap.get? b = some o → o.data = .dict es ep → H b = none := fun e d =>
    noD e (fun vs n z => by rw [d] at z; cases z) (fun z => by rw [d] at z; cases z)
  have nsOf : ∀ {b : Addr} {m : PySem.Str → Option Value},s₁.heap.Ns b m → (hidT s₁.heap H).Ns b m := by
    intro b m ⟨o,es,ep,e,d,r⟩
    exact ⟨o,es,ep,hidT_get e (dictFree e d),d,r⟩
  have inB : K.In (hidT s₁.heap H) := by
    intro b o e
    refine hidT_get (KX b o e) (free ?_)
    intro u q
    rcases hA b u q with ⟨rfl,n,_⟩ | ⟨h3,_⟩
    · rw [n] at e
      cases e
    · obtain ⟨p,hp,rfl⟩ := List.mem_map.mp h3
      rw [nT p hp] at e
      cases e
  obtain ⟨mc,c1,c2⟩ := hlim
  have M : Mod K mg (hidT s₁.heap H) := ⟨inB,nsOf hns,⟨mb,nsOf hb,hbb⟩,⟨mc,nsOf c1,c2⟩⟩
  have e0 : Env0 P w K mg (hidT s₁.heap H) callerA [] s₁ H :=
    ⟨rfl,M,fun _ _ e => of_hidT e,Nat.le_of_eq (hidT_size _ _),trivial,fun b z => absurd (show b ∈ ([] : List Addr) from z) (by simp),hok,.of_eq hg⟩
  have TB : ∀ p ∈ cs,LamX.TabB (hidT s₁.heap H) mg p.1 p.2 := fun p hp => by
    have hTp := hT p hp
    refine ⟨?_,?_,fun z => ?_⟩
    · obtain ⟨o,us,file,tf,flags,tg,inF,text,tt,e1,r1,r2,r3,r⟩ := C p hp
      refine ⟨o,us,file,tf,flags,tg,inF,text,tt,hidT_get e1 (noD e1 (fun vs n z => ?_) fun z => ?_),r1,r2,r3,r⟩
      · rw [r2] at z; cases z
      · rw [r2] at z; cases z; simp at r3
    · obtain ⟨bm,ob,b1,b2,b3,b4,b5,b6⟩ := hbm
      have nG : bm ≠ mainGlobals := fun q => by
        obtain ⟨o,es,ep,e,hd,_⟩ := hns
        rw [q,e] at b3; cases b3; rw [hd] at b6; cases b6
      have nP : bm ≠ p.2 := fun q => by
        rw [q,hTp] at b3; cases b3; cases b6
      exact ⟨bm,ob,b1,b2,nG,nP,hidT_get b3 (noD b3 (fun vs n z => by rw [b6] at z; cases z) fun z => by rw [b6] at z; cases z),b4,b5,b6⟩
    · obtain ⟨o,es,ep,e,hd,_⟩ := hns
      rw [z,hTp] at e; cases e; cases hd
  have run := (F _ inB (nsOf hns) TB).run callerA [] s₁ H ⟨[.ref a],[]⟩ [.ref a] [.ref a] _ _ hr rfl e0 (hbind s₁ (.ref a)) (.cons rfl .nil) (hsp H hH hS)
  refine codeAny_mono run ?_
  intro r s' h
  match r,h with
  | .error e,h => exact False.elim h
  | .ok .next,h => exact False.elim h
  | .ok .brk,h => exact False.elim h
  | .ok .cont,h => exact False.elim h
  | .ok (.ret u), ⟨v, H', os, bare, un, hok', r', q⟩ =>
    cases (show v = .bl true from q)
    cases (show u = Value.bool true from r')
    have key : ∀ b o, b ∉ cs.map (·.2) → s₁.heap.get? b = some o → s'.heap.get? b = some o := fun b o nb e => by
      cases q : H b with
      | none => exact un.keep b o e q (fun z => absurd (show b ∈ ([] : List Addr) from z) (by simp)) (by simp)
      | some u =>
        rcases hA b u q with ⟨rfl,_,ob,xs,rfl⟩ | ⟨h3,_⟩
        · obtain ⟨e1,_⟩ := hok _ _ q
          obtain ⟨e2, _⟩ := hok' _ _ (un.frzs _ ob _ q)
          rw [e] at e1
          cases e1
          exact e2
        · exact absurd h3 nb
    have grown : ∀ p ∈ cs, ∃ more : Array Value, s'.heap.get? p.2 = some { cls := .none, data := .fields more } := fun p hp => by
      obtain ⟨more,z⟩ := un.tbls p.2 #[] (hH p hp)
      exact ⟨_, hok' p.2 _ z⟩
    refine ⟨rfl,⟨fun b o e => ?_,fun b o e => ?_⟩,os,bare⟩
    · by_cases hb : b ∈ cs.map (·.2)
      · obtain ⟨p,hp,rfl⟩ := List.mem_map.mp hb
        obtain ⟨more,hm⟩ := grown p hp
        rw [hT p hp] at e
        cases e
        exact .inr (.inl ⟨((C p hp).tab (hT p hp)).isCodeTable,rfl,#[],more,rfl,by rw [Array.empty_append]; exact hm⟩)
      · exact .inl (key b o hb e)
    · by_cases hb : b ∈ cs.map (·.2)
      · obtain ⟨p,hp,rfl⟩ := List.mem_map.mp hb
        obtain ⟨more,hm⟩ := grown p hp
        exact ⟨_,hm⟩
      · exact ⟨o,key b o hb e⟩
end Fx
namespace Fx
open PySem PySem.Spec PyProof.Rows L2 SX Ap
end Fx
set_option maxHeartbeats 4000000
namespace Fx
open PySem PySem.Spec PyProof.Rows L2 SX Ap
structure DefY where
  at_ : PySem.W.Frag → Addr
  name : PySem.Str
  qual : PySem.Str
  params : Arguments
  body : List Stmt
  scope : Scope
  dfl : List He.Dv := []
  kwd : List (PySem.Str × He.Dv) := []
def fnY (K : PySem.W.Frag) (a : Addr) : He.FnW := match K.lookup a with
  | some ⟨_,_,.func fd,_⟩ => some (fd.name,fd.qualname,fd.params,fd.body,fd.scope,fd.globals,fd.closure,fd.builtins)
  | _ => none
def fdOf (K : PySem.W.Frag) (a : Addr) : FuncData := match K.lookup a with
  | some ⟨_,_,.func fd,_⟩ => fd
  | _ => default
def DefY.val (d : DefY) : He.FnW := some (d.name,d.qual,d.params,.stmts d.body,d.scope,mainGlobals,[],builtinsNs)
def DefY.dvs (K : PySem.W.Frag) (d : DefY) : List V := d.dfl.map (He.Dv.v K)
def DefY.kws (K : PySem.W.Frag) (d : DefY) : List (PySem.Str × V) := d.kwd.map fun q => (q.1,q.2.v K)
def DefY.ok (K : PySem.W.Frag) (d : DefY) : Bool := PySem.W.keepIn K (.ref (d.at_ K)) && (match K.lookup (d.at_ K) with
  | some ⟨_,_,.func fd,_⟩ => PySem.W.codeIn K fd.code d.qual && (He.dflB K fd.defaults (d.dvs K) && He.kwdB K fd.kwdefaults (d.kws K))
  | _ => false)
theorem DefY.funD {K : PySem.W.Frag} {d : DefY} (e : fnY K (d.at_ K) = d.val) (c : d.ok K = true) : FunD K d.name d.qual d.params d.body d.scope (d.dvs K) (d.kws K) (d.at_ K) (fdOf K (d.at_ K)) := by
  obtain ⟨kp,c2⟩ := He.ba c
  unfold fnY at e
  unfold fdOf
  cases q : K.lookup (d.at_ K) with
  | none => rw [q] at c2; cases c2
  | some o =>
    obtain ⟨oc,od,dt,osl⟩ := o
    rw [q] at c2 e
    cases dt with
    | func fd =>
      obtain ⟨n1,n2,n3,n4,n5,n6,n7,n8,n9,n10,n11,n12,n13,n14,n15⟩ := fd
      have e2 : (some (n1,n2,n3,n4,n5,n6,n7,n15) : He.FnW) = some (d.name,d.qual,d.params,.stmts d.body,d.scope,mainGlobals,[],builtinsNs) := e
      simp only [Option.some.injEq,Prod.mk.injEq] at e2
      obtain ⟨h1,h2,h3,h4,h5,h6,h7,h8⟩ := e2
      subst h1 h2 h3 h4 h5 h6 h7 h8
      have c3 : (PySem.W.codeIn K n13 d.qual && (He.dflB K n8 (d.dvs K) && He.kwdB K n9 (d.kws K))) = true := c2
      obtain ⟨k1,k2⟩ := He.ba c3
      obtain ⟨k3,k4⟩ := He.ba k2
      exact ⟨⟨oc,od,n8,n9,n10,n11,n12,n13,n14,osl,rfl,q,k1,He.dflB_ok k3,He.kwdB_ok k4⟩,kp⟩
    | _ => cases c2
def asY (g : Addr → Option Obj) : Nat → List Addr
  | 0 => [mainGlobals,cStatics]
  | n + 1 => He.growD g (asY g n)
abbrev Exs : Type := List (PySem.W.Frag → Bool)
structure Says (fn : List DefY) (ts : List He.Tab) (ex : Exs) (w : World) (K : PySem.W.Frag) : Prop where
  df : fn.map (fun d => fnY K (d.at_ K)) = fn.map DefY.val
  dk : ts.map (fun t => He.dicW K (t.1 K)) = ts.map fun t => some (He.keysIn w.params t.2)
  ok : ((fn.all fun d => d.ok K) && ex.all fun e => e K) = true
abbrev AlY : Type := List He.FnW × List (Option (List (Option (PySem.Str × Int)))) × Bool
def obsK (fn : List DefY) (ts : List He.Tab) (ex : Exs) (K : PySem.W.Frag) : AlY := (fn.map (fun d => fnY K (d.at_ K)),ts.map (fun t => He.dicW K (t.1 K)),(fn.all fun d => d.ok K) && ex.all fun e => e K)
def valY (fn : List DefY) (ts : List He.Tab) (w : World) : AlY := (fn.map DefY.val,ts.map fun t => some (He.keysIn w.params t.2),true)
def obsY (n : Nat) (fn : List DefY) (ts : List He.Tab) (ex : Exs) (g : Addr → Option Obj) : AlY := obsK fn ts ex (He.frG g (asY g n))
def hookY (n : Nat) (fn : List DefY) (ts : List He.Tab) (ex : Exs) : PySem.W.Hook where
  α := AlY
  obs := fun s => obsY n fn ts ex s.heap.get?
  val := fun w => valY fn ts w
  says := fun w h => ∃ K : PySem.W.Frag,K.In h ∧ Says fn ts ex w K
  of := fun _ _ e => ⟨_,He.frG_in,⟨congrArg (fun z : AlY => z.1) e,congrArg (fun z : AlY => z.2.1) e,congrArg (fun z : AlY => z.2.2) e⟩⟩
  keeps := fun _ _ _ ⟨K,hK,c⟩ k => ⟨K,PySem.W.Frag.In.keeps hK k,c⟩
section
variable {fn : List DefY} {ts : List He.Tab} {ex : Exs} {w : World} {K : PySem.W.Frag}
theorem Says.fact (c : Says fn ts ex w K) (i : Nat) {e : PySem.W.Frag → Bool} (h : ex[i]? = some e := by rfl) : e K = true := by
  have := (He.ba c.ok).2
  exact List.all_eq_true.mp this e (List.mem_of_getElem? h)
theorem Says.def_ (c : Says fn ts ex w K) (i : Nat) {d : DefY} (h : fn[i]? = some d := by rfl) : FunD K d.name d.qual d.params d.body d.scope (d.dvs K) (d.kws K) (d.at_ K) (fdOf K (d.at_ K)) := by
  have h1 := List.all_eq_true.mp (He.ba c.ok).1 d (List.mem_of_getElem? h)
  refine DefY.funD ?_ h1
  have h2 := congrArg (fun l => l[i]?) c.df
  simp only [List.getElem?_map,h,Option.map_some] at h2
  exact Option.some.inj h2
theorem Says.tab (c : Says fn ts ex w K) (i : Nat) {t : He.Tab} (h : ts[i]? = some t := by rfl) : ∃ es n,KDict K w (t.1 K) es n := by
  have h2 := congrArg (fun l => l[i]?) c.dk
  simp only [List.getElem?_map,h,Option.map_some] at h2
  exact He.dicW_ok (Option.some.inj h2)
end
structure Cx5 (fn : List DefY) (ts : List He.Tab) (ex : Exs) (w : World) (K : PySem.W.Frag) (mg : PySem.Str → Option Value) : Prop where
  c : Says fn ts ex w K
  kx : ∃ h : Heap,K.In h ∧ h.Ns mainGlobals mg
section
variable {fn : List DefY} {ts : List He.Tab} {ex : Exs} {w : World} {K : PySem.W.Frag} {mg : PySem.Str → Option Value}
theorem Cx5.glo (C : Cx5 fn ts ex w K mg) (i : Nat) {x : PySem.Str} (h : ex[i]? = some (fun K => (He.Fa.glo x).ok K) := by rfl) : mg x = some (.ref (He.ga K x)) := by
  obtain ⟨h', X, G⟩ := C.kx
  exact He.glo_ok X G (C.c.fact i h)
theorem Cx5.free (C : Cx5 fn ts ex w K mg) (i : Nat) {x : PySem.Str} (h : ex[i]? = some (fun K => (He.Fa.free x).ok K) := by rfl) : mg x = none := by
  obtain ⟨h', X, G⟩ := C.kx
  exact He.free_ok X G (C.c.fact i h)
theorem Cx5.str (C : Cx5 fn ts ex w K mg) (i : Nat) {x z : PySem.Str} (h : ex[i]? = some (fun K => (He.Fa.str x z).ok K) := by rfl) : ∃ t,mg x = some (.str z t) := by
  obtain ⟨h', X, G⟩ := C.kx
  exact He.str_ok X G (C.c.fact i h)
theorem Cx5.int (C : Cx5 fn ts ex w K mg) (i : Nat) {x : PySem.Str} {z : Int} (h : ex[i]? = some (fun K => (He.Fa.int x z).ok K) := by rfl) : ∃ t,mg x = some (.int z t) := by
  obtain ⟨h', X, G⟩ := C.kx
  exact He.int_ok X G (C.c.fact i h)
theorem Cx5.ns (C : Cx5 fn ts ex w K mg) (i : Nat) {x : PySem.Str} (h : ex[i]? = some (fun K => (He.Fa.glo x).ok K) := by rfl) : PySem.W.nsIn K mainGlobals x = some (some (.ref (He.ga K x))) := He.eqO_ok (C.c.fact i h)
end
def tupAt (p : PySem.W.Frag → Addr) (vs : List He.Dv) (K : PySem.W.Frag) : Bool := match K.lookup (p K) with
  | some ⟨.type c, _, .seq its _, _⟩ => decide (c = "tuple") && (decide (its.size ≤ sizeLine) && He.relAll (vs.map (He.Dv.v K)) its.toList)
  | _ => false
theorem Z2l {K : PySem.W.Frag} {p : PySem.W.Frag → Addr} {vs : List He.Dv} (h : tupAt p vs K = true) (H : Hp) : SqT K H (p K) (vs.map (He.Dv.v K)) := by
  unfold tupAt at h
  cases q : K.lookup (p K) with
  | none => rw [q] at h; cases h
  | some o =>
    obtain ⟨oc,od,dt,osl⟩ := o
    rw [q] at h
    cases oc with
    | type c =>
      cases dt with
      | seq its n =>
        obtain ⟨h1, h2⟩ := He.ba (show (decide (c = "tuple") && (decide (its.size ≤ sizeLine) && He.relAll (vs.map (He.Dv.v K)) its.toList)) = true from h)
        obtain ⟨h3,h4⟩ := He.ba h2
        exact .inr ⟨_,its,n,q,congrArg Value.type (of_decide_eq_true h1),rfl,of_decide_eq_true h3,He.relAll_ok h4⟩
      | _ => cases h
    | _ => cases dt <;> cases h
def dflY (f : PySem.W.Frag → Addr) (i : Nat) (K : PySem.W.Frag) : Addr := match K.lookup (f K) with
  | some ⟨_,_,.func fd,_⟩ => (match fd.defaults with
    | .ref T => (match K.lookup T with
      | some ⟨_,_,.seq its _,_⟩ => (match its.toList[i]? with
        | some (.ref a) => a
        | _ => 0)
      | _ => 0)
    | _ => 0)
  | _ => 0
def gY (x : PySem.Str) (K : PySem.W.Frag) : Addr := He.ga K x
def mY (c m : PySem.Str) (K : PySem.W.Frag) : Addr := He.ma K (He.ga K c) m
def oexB (x : PySem.Str) (K : PySem.W.Frag) : Bool := (match K.lookup (He.ga K x) with
  | some ⟨.type t, _, .cls ⟨_, _, .ref C :: bm, _, _, hd, _, _, _, _, hdel⟩, ⟨[_, _, _, _, some (.builtin n), _]⟩⟩ => decide (t = "type") && (decide (C = He.ga K x) && (hd && (!hdel && (decide (n = "ValueError.__new__") && PySem.HandSPX.refsVE bm))))
  | _ => false) && (He.eqO (PySem.W.findIn K (.ref (He.ga K x)) "__setattr__") (some (some (.builtin "object.__setattr__"))) && (decide (PySem.W.subIn K (.ref (He.ga K x)) (.type "BaseException") = some true) && (decide (PySem.W.typeIn K (.ref (He.ga K x)) = some (.type "type")) && PySem.W.keepIn K (.ref (He.ga K x)))))
theorem Znu {x : PySem.Str} {K : PySem.W.Frag} (h : oexB x K = true) : OexC K (He.ga K x) := by
  obtain ⟨h0,h⟩ := He.ba h
  obtain ⟨h1,h⟩ := He.ba h
  obtain ⟨h2,h⟩ := He.ba h
  obtain ⟨h3,h4⟩ := He.ba h
  refine ⟨?_,He.eqO_ok h1,of_decide_eq_true h2,of_decide_eq_true h3,h4⟩
  split at h0
  · rename_i t dd nm bs C bm ns qn hd sn sub ab col hdel k0 k1 k2 k3 n k5 e
    obtain ⟨a1,h0⟩ := He.ba h0
    obtain ⟨a2,h0⟩ := He.ba h0
    obtain ⟨a3,h0⟩ := He.ba h0
    obtain ⟨a4,h0⟩ := He.ba h0
    obtain ⟨a5,a6⟩ := He.ba h0
    have b1 := of_decide_eq_true a1
    have b2 := of_decide_eq_true a2
    have b5 := of_decide_eq_true a5
    have b4 : hdel = false := by cases hdel <;> simp_all
    subst b1 b4 b5
    refine ⟨nm,qn,ns,bs,bm,sn,sub,ab,col,dd,k0,k1,k2,k3,k5,?_,a6⟩
    rw [e,b2,a3]
  · cases h0
def exCB (x : PySem.Str) (K : PySem.W.Frag) : Bool := xfB K (He.ga K x) && (He.eqO (PySem.W.findIn K (.ref (He.ga K x)) "__class__") (some (some (.builtin "object.__class__"))) && (He.eqO (PySem.W.specialIn K (.builtin "object.__class__") "__get__") (some (some (.builtin "getset_descriptor.__get__"))) && (decide (PySem.W.takesIn K (.builtin "object.__class__") = some true) && decide (PySem.W.mroIn K (He.ga K x) (.type "object") = some true))))
def baseB (x : PySem.Str) (K : PySem.W.Frag) : Bool := He.eqO (PySem.W.specialIn K (.ref (He.ga K x)) "__getattribute__") (some (some (.builtin "type.__getattribute__"))) && (PySem.W.readsIn K (He.ga K x) (.type "type") && (match PySem.W.findCls K (.ref (He.ga K x)) (.type "type") "__init__" with
  | some (.val (.builtin n)) => decide (n = "ValueError.__init__")
  | _ => false))
theorem Zls {x : PySem.Str} {K : PySem.W.Frag} (h : baseB x K = true) : BaseC K (He.ga K x) := by
  obtain ⟨h1,h⟩ := He.ba h
  obtain ⟨h2,h3⟩ := He.ba h
  refine ⟨He.eqO_ok h1,h2,?_⟩
  split at h3
  · rename_i n e; rw [e,of_decide_eq_true h3]
  · cases h3
def kitB2 (x : PySem.Str) (v : PySem.W.Frag → Value) (K : PySem.W.Frag) : Bool := decide (PySem.W.kitOne K (.ref (He.ga K x)) (v K) = some true)
def initB (x : PySem.Str) (K : PySem.W.Frag) : Bool := He.eqO (PySem.W.findIn K (.ref (He.ga K x)) "__init__") (some (some (.ref (mY x "__init__" K)))) && decide (PySem.W.typeIn K (.ref (mY x "__init__" K)) = some (.type "function"))
theorem Zlt {x : PySem.Str} {K : PySem.W.Frag} (h : initB x K = true) : PySem.W.findIn K (.ref (He.ga K x)) "__init__" = some (some (.ref (mY x "__init__" K))) ∧ PySem.W.typeIn K (.ref (mY x "__init__" K)) = some (.type "function") := by
  obtain ⟨h1,h2⟩ := He.ba h
  exact ⟨He.eqO_ok h1,of_decide_eq_true h2⟩
def noDigB (K : PySem.W.Frag) : Bool := He.eqO (PySem.W.nsIn K cStatics "sys.int_max_str_digits") (some none)
theorem Zjo {K : PySem.W.Frag} (h : noDigB K = true) : NoDig K := He.eqO_ok h
theorem Znv (hTb : ∀ T : Tb,T = tb0 → True) {l : PySem.W.OpenLaw} {n k m : Nat} {q : Program} {loose : List PySem.Str} {XP : (PySem.Str → Option Value) → Heap → Prop} {fn : List DefY} {ts : List He.Tab} {ex : Exs} {d : DefRec} {F : FF} {x : PySem.Str}
    (hn : l.most = some n) (hn2 : n ≤ sizeLine) (hdf : d.params.defaults = []) (hr : Room k callerA)
    (hG : ∀ (w : World) (mg : PySem.Str → Option Value) (K : PySem.W.Frag),Cx5 fn ts ex w K mg → ∃ fd : FuncData,mg d.name = some (.ref (He.ga K d.name)) ∧ (∀ (s : Shared) (u : Value),BindsTo s fd ⟨[u],[]⟩ [(x,u)]) ∧
        ∀ base : Heap,FnG l.prog w K mg base k (He.ga K d.name) fd [x] (@spF tb0 K 1 F))
    (hF : ∀ ns : List Int,ns.length ≤ n → ∃ Z,F [.frl (ns.map .int)] [] = .ok (.bl true) Z) :
    PySem.W.WalkO q loose XP (hookY m fn ts ex).says l.row.toRowW d [] (fun f vs => PySem.call f vs) := by
  apply Att.attach_call hn hdf
  intro w s₀ s₁ mg mb fa o pm cd doc a vs ns G Y ho hd hcd hmg hobj hints hlen hg
  obtain ⟨K,KX,c⟩ := Y
  obtain ⟨fd,h0,hb,hf⟩ := hG w mg K ⟨c,_,KX,G.T.g⟩
  have e := hmg.symm.trans h0
  cases e
  letI tb : Tb := tb0
  refine Znt (cs := []) (sp := fun vs H Q _ => spF K 1 F vs H Q (fun _ _ _ => False)) KX G.T.g G.T.b G.T.builtins G.T.nolimit hg (fun p hp => by cases hp) (fun p hp => by cases hp) (fun p hp => by cases hp) G.T.bmain hobj hints (Nat.le_trans hlen hn2) hr (fun base b1 b2 b3 => ?_) hb (fun H hH hS => ?_)
  · exact fnG_0 (hf base)
  · obtain ⟨Z,e⟩ := hF ns hlen
    refine ⟨rfl,[],[],[.frl (ns.map .int)],⟨rfl,List.nodup_nil,fun i a o h => by simp at h,fun p hp => by cases hp⟩,.cons (Znp hS) .nil,?_⟩
    rw [e]
    intro ι' H' b g s r
    cases r
    rfl
end Fx
set_option maxHeartbeats 4000000
set_option maxHeartbeats 0
section
open PySem PySem.W PySem.Calls PyProof.Rows
theorem Ap.pre_law : (OpenLaw.row PySem.Challenge.rw_anchorpages_k26_whole_texts_of_folded_sc).Holds → PySem.Challenge.rw_anchorpages_k26_whole_texts_of_folded_sc.Holds := by
  intro h
  w_on; o_law
  exact h
end
set_option maxHeartbeats 4000000
namespace Fx
open PySem PySem.Spec PyProof.Rows L2 SX Ap
variable [Tb]
mutual
def T.mv (f : Nat → Option Nat) : T → Option T
  | .non => some .non
  | .bl b => some (.bl b)
  | .int i => some (.int i)
  | .str l => some (.str l)
  | .tup ts => (T.mvs f ts).map .tup
  | .loc i => (f i).map .loc
  | .frl ts => (T.mvs f ts).map .frl
  | .ref a => some (.ref a)
  | .ty n => some (.ty n)
  | .lam _ _ _ _ => none
  | .ktp ts => (T.mvs f ts).map .ktp
def T.mvs (f : Nat → Option Nat) : List T → Option (List T)
  | [] => some []
  | t :: ts => match T.mv f t,T.mvs f ts with
    | some u,some us => some (u :: us)
    | _,_ => none
end
def mvP {κ : Type} (f : Nat → Option Nat) : List (κ × T) → Option (List (κ × T))
  | [] => some []
  | (k,t) :: ts => match T.mv f t,mvP f ts with
    | some u,some us => some ((k,u) :: us)
    | _,_ => none
def O.mv (f : Nat → Option Nat) : O → Option O
  | .lst ts => (T.mvs f ts).map .lst
  | .dk ts => (mvP f ts).map .dk
  | .dt ts => (mvP f ts).map .dt
  | .ins C ts => (mvP f ts).map (.ins C)
section
variable {K : PySem.W.Frag} {ι ι' : List Addr} {H : Hp} {f : Nat → Option Nat}
mutual
theorem Rep.mv (hf : ∀ i j a, f i = some j → ι[i]? = some a → ι'[j]? = some a) : ∀ {v : V} {t t' : T}, Rep K ι H v t → T.mv f t = some t' → Rep K ι' H v t'
  | _,_,_,.non,e => by cases e; exact .non
  | _,_,_,.bl b,e => by cases e; exact .bl b
  | _,_,_,.int i,e => by cases e; exact .int i
  | _,_,_,.str l,e => by cases e; exact .str l
  | _,_,_,.tup h r,e => by
    simp only [T.mv] at e
    obtain ⟨us,e1,rfl⟩ := Option.map_eq_some_iff.mp e
    exact .tup h (Reps.mv hf r e1)
  | _,_,_,.loc h,e => by
    simp only [T.mv] at e
    obtain ⟨j,e1,rfl⟩ := Option.map_eq_some_iff.mp e
    exact .loc (hf _ _ _ e1 h)
  | _,_,_,.frl h r,e => by
    simp only [T.mv] at e
    obtain ⟨us,e1,rfl⟩ := Option.map_eq_some_iff.mp e
    exact .frl h (Reps.mv hf r e1)
  | _,_,_,.ref a,e => by cases e; exact .ref a
  | _,_,_,.ty n,e => by cases e; exact .ty n
  | _,_,_,.lam _ _,e => by cases e
  | _,_,_,.ktp h r,e => by
    simp only [T.mv] at e
    obtain ⟨us,e1,rfl⟩ := Option.map_eq_some_iff.mp e
    exact .ktp h (Reps.mv hf r e1)
theorem Reps.mv (hf : ∀ i j a, f i = some j → ι[i]? = some a → ι'[j]? = some a) : ∀ {vs : List V} {ts ts' : List T}, Reps K ι H vs ts → T.mvs f ts = some ts' → Reps K ι' H vs ts'
  | _,_,_,.nil,e => by cases e; exact .nil
  | _,_,_,.cons r q,e => by
    simp only [T.mvs] at e
    split at e
    · rename_i u us e1 e2
      cases e
      exact .cons (Rep.mv hf r e1) (Reps.mv hf q e2)
    · cases e
end
theorem RepP.mv {κ : Type} (hf : ∀ i j a, f i = some j → ι[i]? = some a → ι'[j]? = some a) : ∀ {vs : List (κ × V)} {ts ts' : List (κ × T)}, RepP K ι H vs ts → mvP f ts = some ts' → RepP K ι' H vs ts'
  | _,_,_,.nil,e => by cases e; exact .nil
  | _,_,_,.cons r q,e => by
    simp only [mvP] at e
    split at e
    · rename_i u us e1 e2
      cases e
      exact .cons (Rep.mv hf r e1) (RepP.mv hf q e2)
    · cases e
theorem RepF.mv (hf : ∀ i j a, f i = some j → ι[i]? = some a → ι'[j]? = some a) : ∀ {vs : List (PySem.Str × V)} {ts ts' : List (String × T)}, RepF K ι H vs ts → mvP f ts = some ts' → RepF K ι' H vs ts'
  | _,_,_,.nil,e => by cases e; exact .nil
  | _,_,_,.cons r q,e => by
    simp only [mvP] at e
    split at e
    · rename_i u us e1 e2
      cases e
      exact .cons (Rep.mv hf r e1) (RepF.mv hf q e2)
    · cases e
theorem ObR.mv (hf : ∀ i j a, f i = some j → ι[i]? = some a → ι'[j]? = some a) {a : Addr} {o o' : O} (h : ObR K ι H a o) (e : O.mv f o = some o') : ObR K ι' H a o' := by
  cases o with
  | lst ts =>
    obtain ⟨us,e1,rfl⟩ := Option.map_eq_some_iff.mp e
    obtain ⟨vs,h,r⟩ := h
    exact ⟨vs,h,r.mv hf e1⟩
  | dk ts =>
    obtain ⟨us,e1,rfl⟩ := Option.map_eq_some_iff.mp e
    obtain ⟨vs,h,r⟩ := h
    exact ⟨vs,h,r.mv hf e1⟩
  | dt ts =>
    obtain ⟨us,e1,rfl⟩ := Option.map_eq_some_iff.mp e
    obtain ⟨vs,h,r⟩ := h
    exact ⟨vs,h,r.mv hf e1⟩
  | ins C ts =>
    obtain ⟨us,e1,rfl⟩ := Option.map_eq_some_iff.mp e
    obtain ⟨Ca,dx,vs,hn,h,r⟩ := h
    exact ⟨Ca,dx,vs,hn,h,r.mv hf e1⟩
end
section
variable {K : PySem.W.Frag} {n : Nat} {F : FF}
theorem Zjp {ι ι1 : List Addr} {H H1 : Hp} {Y Y' : Sto} (g : Gr ι ι1 H H1) (s : Sim K ι Y H) (s1 : Sim K ι1 Y' H1) : Y.length ≤ Y'.length := by
  rw [← s.len,← s1.len]
  cases h : ι.length with
  | zero => omega
  | succ m =>
    have hm : m < ι.length := by omega
    have := g.pre m _ (List.getElem?_eq_getElem hm)
    have := (List.getElem?_eq_some_iff.mp this).1
    omega
end
end Fx
set_option maxHeartbeats 4000000
namespace Fx
open PySem PySem.Spec PyProof.Rows L2 SX Ap
variable [Tb]
def gLeW : T → T → Sto → Option (T × Sto)
  | .int i,.int j,Z => some (.bl (decide (i ≤ j)),Z)
  | .str a,.str b,Z => some (.bl (!decide (b < a)),Z)
  | _,_,_ => none
def gGtW : T → T → Sto → Option (T × Sto)
  | .int i,.int j,Z => some (.bl (decide (j < i)),Z)
  | .str a,.str b,Z => some (.bl (decide (b < a)),Z)
  | _,_,_ => none
def gGeW : T → T → Sto → Option (T × Sto)
  | .int i,.int j,Z => some (.bl (decide (j ≤ i)),Z)
  | .str a,.str b,Z => some (.bl (!decide (a < b)),Z)
  | _,_,_ => none
section
variable {X : Cx} {K : PySem.W.Frag}
theorem Z7s : OpF X K (compareOp .LtE) gLeW := by
  refine Wo (Jm op_le op_le_str) fun x y H Q h => ?_
  obtain ⟨ι,Z,tx,ty,s,rx,ry,p⟩ := h
  unfold gLeW at p
  split at p
  · cases rx; cases ry; exact .inl ⟨_,_,rfl,rfl,Yl p s (.bl _)⟩
  · cases rx; cases ry; exact .inr ⟨_,_,rfl,rfl,Yl p s (.bl _)⟩
  · exact p.elim
theorem Zcv : OpF X K (compareOp .Gt) gGtW := by
  refine Wo (Jm op_gt op_gt_str) fun x y H Q h => ?_
  obtain ⟨ι,Z,tx,ty,s,rx,ry,p⟩ := h
  unfold gGtW at p
  split at p
  · cases rx; cases ry; exact .inl ⟨_,_,rfl,rfl,Yl p s (.bl _)⟩
  · cases rx; cases ry; exact .inr ⟨_,_,rfl,rfl,Yl p s (.bl _)⟩
  · exact p.elim
theorem Zpe : OpF X K (compareOp .GtE) gGeW := by
  refine Wo (Jm op_ge op_ge_str) fun x y H Q h => ?_
  obtain ⟨ι,Z,tx,ty,s,rx,ry,p⟩ := h
  unfold gGeW at p
  split at p
  · cases rx; cases ry; exact .inl ⟨_,_,rfl,rfl,Yl p s (.bl _)⟩
  · cases rx; cases ry; exact .inr ⟨_,_,rfl,rfl,Yl p s (.bl _)⟩
  · exact p.elim
end
def gExtend : T → List T → Sto → Option (T × Sto)
  | .loc n,[.loc m],Z => match getL Z n,getL Z m with
    | some ts,some us => if ts.length + us.length ≤ Lim then some (.non,Z.set n (.lst (ts ++ us))) else none
    | _,_ => none
  | _,_,_ => none
def gFind2 : T → List T → Sto → Option (T × Sto)
  | .str a,[.str b],Z => some (.int (Txt.find (S a) (S b)),Z)
  | .str a,[.str b,.int i],Z => some (.int (Txt.find3 (S a) (S b) i),Z)
  | _,_,_ => none
theorem MtM.r {X : Cx} {id : String} {r : V → List V → Hp → VK → Prop} (h : MtM X id r) : MtR X id r := h
section
variable {X : Cx} {K : PySem.W.Frag}
theorem Reps.dropLast {ι : List Addr} {H : Hp} {vs : List V} {ts : List T} (r : Reps K ι H vs ts) : Reps K ι H vs.dropLast ts.dropLast := by
  rw [List.dropLast_eq_take,List.dropLast_eq_take,r.length]
  exact r.take _
theorem m_extend : MtR X "list.extend" (rFM K gExtend) := Z5t (MtM.r mt_extend) fun x xs H Q h => by
  obtain ⟨ι,Z,tx,ts,s,rx,rs,p⟩ := h
  unfold gExtend at p
  split at p
  · obtain ⟨y,rfl,ry⟩ := rs.one
    split at p
    · rename_i us ws e1 e2
      split at p
      · rename_i hl
        obtain ⟨a,vs,rfl,ha,h1,r⟩ := Z05 s (Vg e1) rx
        obtain ⟨b,zs,rfl,hb,h2,r2⟩ := Z05 s (Vg e2) ry
        refine ⟨a,b,vs,zs,rfl,rfl,h1,h2,by rw [r.length,r2.length]; exact Nat.le_trans hl Zee,?_⟩
        have g := Gr.mut (ι := ι) (o := .lst (vs ++ zs)) h1 trivial (List.mem_of_getElem? ha)
        exact p ι _ _ g (s.set ha ⟨_,upd_same,(r.gr g).append (r2.gr g)⟩) .non
      · exact p.elim
    · exact p.elim
  · exact p.elim
theorem Znw : MtR X "str.find" (rFM K gFind2) := by
  have h2 : MtR X "str.find" (fun x xs H Q => (∃ a b, x = .str a ∧ xs = [.str b] ∧ Q (.int (Txt.find a b)) H) ∨ ∃ (a b : Str) (i : Int), x = .str a ∧ xs = [.str b, .int i] ∧ Q (.int (Txt.find3 a b i)) H) := by
    intro pins s σ H x xs v us Q I rx rs h
    rcases h with h | h
    · exact mt_find pins s σ H x xs v us Q I rx rs h
    · exact mt_find3 pins s σ H x xs v us Q I rx rs h
  refine Z5t h2 fun x xs H Q h => ?_
  obtain ⟨ι,Z,tx,ts,s,rx,rs,p⟩ := h
  unfold gFind2 at p
  split at p
  · obtain ⟨y,rfl,ry⟩ := rs.one
    cases rx; cases ry
    exact .inl ⟨_,_,rfl,rfl,Yl p s (.int _)⟩
  · obtain ⟨y,z,rfl,ry,rz⟩ := rs.two
    cases rx; cases ry; cases rz
    exact .inr ⟨_,_,_,rfl,rfl,Yl p s (.int _)⟩
  · exact p.elim
end
def keyT : T → Option Key
  | .int i => some (.inl i)
  | .str l => some (.inr (S l))
  | _ => none
def keyEq : Key → Key → Bool
  | .inl i,.inl j => i == j
  | .inr a,.inr b => a.cps.toList == b.cps.toList
  | _,_ => false
theorem Z2m (a b : Key) : keyEq a b = decide (a = b) := by
  cases a with
  | inl i => cases b with
    | inl j => by_cases h : i = j <;> simp [keyEq,h]
    | inr y => simp [keyEq]
  | inr x => cases b with
    | inl j => simp [keyEq]
    | inr y =>
      have : (x = y) ↔ x.cps.toList = y.cps.toList := ⟨fun h => by rw [h],fun h => by
        rw [← Zlp x,← Zlp y,h]⟩
      by_cases h : x.cps.toList = y.cps.toList
      · simp [keyEq,h,this.mpr h]
      · have h2 : ¬ x = y := fun z => h (this.mp z)
        have e1 : (x.cps.toList == y.cps.toList) = false := by simpa using h
        show (x.cps.toList == y.cps.toList) = _
        rw [e1,decide_eq_false (fun z => h2 (Sum.inr.inj z))]
def getK : List (Key × T) → Key → Option T
  | [],_ => none
  | (k,t) :: r,x => if keyEq k x = true then some t else getK r x
def hasK (kvs : List (Key × T)) (x : Key) : Bool := kvs.any fun p => keyEq p.1 x
def putKT (kvs : List (Key × T)) (x : Key) (y : T) : List (Key × T) := if hasK kvs x = true then kvs.map (fun p => if keyEq p.1 x = true then (p.1,y) else p) else kvs ++ [(x,y)]
def getDK (Z : Sto) (i : Nat) : Option (List (Key × T)) := match Z[i]? with
  | some (.dk kvs) => some kvs
  | _ => none
theorem Zlu {Z : Sto} {i : Nat} {kvs : List (Key × T)} (h : getDK Z i = some kvs) : Z[i]? = some (.dk kvs) := by
  unfold getDK at h
  split at h
  · rename_i e; cases h; exact e
  · cases h
section
variable {K : PySem.W.Frag} {ι : List Addr} {H : Hp} {Z : Sto}
theorem Zhb {v : V} {t : T} {k : Key} (r : Rep K ι H v t) (e : keyT t = some k) : v = kV k := by
  cases r <;> first | (cases e; rfl) | (cases e)
theorem Zjq : ∀ {vs : List (Key × V)} {ts : List (Key × T)} {k : Key},RepP K ι H vs ts → match getK ts k with
    | some t => ∃ v,valV vs k = some v ∧ Rep K ι H v t
    | none => valV vs k = none
  | _,_,k,.nil => rfl
  | _,_,k,.cons (k := k0) (v := v) (vs := vs) (t := t) (ts := ts) r q => by
    by_cases h : k0 = k
    · have e : keyEq k0 k = true := by rw [Z2m]; exact decide_eq_true h
      simp only [getK,e,if_true]
      exact ⟨v,valV_pos (p := (k0,v)) h,r⟩
    · have e : keyEq k0 k = false := by rw [Z2m]; exact decide_eq_false h
      have e2 : valV ((k0,v) :: vs) k = valV vs k := valV_neg (p := (k0,v)) h
      simp only [getK,e,Bool.false_eq_true,if_false,e2]
      exact Zjq q
theorem Zn2 : ∀ {vs : List (Key × V)} {ts : List (Key × T)} {k : Key},RepP K ι H vs ts → (vs.any fun kv => decide (kv.1 = k)) = hasK ts k
  | _,_,k,.nil => rfl
  | _,_,k,.cons r q => by
    simp only [hasK,List.any_cons,Z2m]
    congr 1
    have := Zn2 (k := k) q
    simpa only [hasK,Z2m] using this
theorem Zjr {k : Key} {y : V} {t : T} (ry : Rep K ι H y t) : ∀ {vs : List (Key × V)} {ts : List (Key × T)},RepP K ι H vs ts → RepP K ι H (vs.map fun kv => if kv.1 = k then (kv.1,y) else kv) (ts.map fun p => if keyEq p.1 k = true then (p.1,t) else p)
  | _,_,.nil => .nil
  | _,_,.cons (k := k0) r q => by
    simp only [List.map_cons,Z2m]
    by_cases h : k0 = k
    · simp only [h,if_true,decide_true]
      have := Zjr ry q (k := k)
      simp only [Z2m] at this
      exact .cons ry this
    · simp only [h,if_false,decide_false,Bool.false_eq_true]
      have := Zjr ry q (k := k)
      simp only [Z2m] at this
      exact .cons r this
theorem app_ok {k : Key} {y : V} {t : T} (ry : Rep K ι H y t) : ∀ {vs : List (Key × V)} {ts : List (Key × T)},RepP K ι H vs ts → RepP K ι H (vs ++ [(k,y)]) (ts ++ [(k,t)])
  | _,_,.nil => .cons ry .nil
  | _,_,.cons r q => .cons r (app_ok ry q)
theorem Zpf {vs : List (Key × V)} {ts : List (Key × T)} {k : Key} {y : V} {t : T} (r : RepP K ι H vs ts) (ry : Rep K ι H y t) : RepP K ι H (putK vs k y) (putKT ts k t) := by
  unfold putK putKT
  rw [Zn2 r]
  split
  · exact Zjr ry r
  · exact app_ok ry r
theorem Z9a {i : Nat} {v : V} {kvs : List (Key × T)} (s : Sim K ι Z H) (r : Rep K ι H v (.loc i)) (e : getDK Z i = some kvs) : ∃ a vs,v = .ref a ∧ ι[i]? = some a ∧ H a = some (.dK vs) ∧ RepP K ι H vs kvs := by
  cases r with
  | loc h =>
    obtain ⟨a', h1, vs, h2, h3⟩ := s.at (Zlu e)
    rw [h] at h1; cases h1
    exact ⟨_,vs,rfl,h,h2,h3⟩
end
def gInW (x y : T) (Z : Sto) : Option (T × Sto) := match y with
  | .loc i => (match getDK Z i with
    | some kvs => (keyT x).map fun k => (.bl (getK kvs k).isSome,Z)
    | none => gIn x y Z)
  | _ => gIn x y Z
def gNotInW (x y : T) (Z : Sto) : Option (T × Sto) := match y with
  | .loc i => (match getDK Z i with
    | some kvs => (keyT x).map fun k => (.bl (!(getK kvs k).isSome),Z)
    | none => gNotIn x y Z)
  | _ => gNotIn x y Z
def gIxW (x y : T) (Z : Sto) : Option (T × Sto) := match x with
  | .loc i => (match getDK Z i with
    | some kvs => (match keyT y with
      | some k => (getK kvs k).map fun t => (t,Z)
      | none => none)
    | none => gIx x y Z)
  | _ => gIx x y Z
section
variable {X : Cx} {K : PySem.W.Frag}
theorem Zhc {ι : List Addr} {H : Hp} {vs : List (Key × V)} {ts : List (Key × T)} {k : Key} (r : RepP K ι H vs ts) : (valV vs k).isSome = (getK ts k).isSome := by
  have := Zjq (k := k) r
  cases e : getK ts k with
  | none => rw [e] at this; rw [this]; rfl
  | some t => rw [e] at this; obtain ⟨v,h,_⟩ := this; rw [h]; rfl
theorem Zpg (hu : X.A.units + 1 < cLine) : OpR X (compareOp .In) (fun x y H Q => ∃ a o,y = .ref a ∧ DGet H a x o ∧ Q (.bl o.isSome) H) := by
  intro pins s σ H x y v u Q I rx ry h
  obtain ⟨a,o,rfl,g,q⟩ := h
  cases ry
  exact d_in hu I g rx fun s3 I3 => ⟨.bl o.isSome,H,I3,rfl,q⟩
theorem Zjs (hu : X.A.units + 1 < cLine) : OpR X (compareOp .NotIn) (fun x y H Q => ∃ a o,y = .ref a ∧ DGet H a x o ∧ Q (.bl (!o.isSome)) H) := by
  intro pins s σ H x y v u Q I rx ry h
  obtain ⟨a,o,rfl,g,q⟩ := h
  cases ry
  exact d_notIn hu I g rx fun s3 I3 => ⟨.bl (!o.isSome),H,I3,rfl,q⟩
theorem Z23 (hu : X.A.units + 64 < cLine) (hK : X.K = K) : OpF X K (compareOp .In) gInW := by
  have h0 := o_in hK
  subst hK
  refine Wo (Jm h0 (Zpg (by omega))) fun x y H Q h => ?_
  obtain ⟨ι,Z,tx,ty,s,rx,ry,p⟩ := h
  unfold gInW at p
  split at p
  · split at p
    · rename_i i kvs e
      cases ek : keyT tx with
      | none => rw [ek] at p; exact p.elim
      | some k =>
        rw [ek,Option.map_some] at p
        obtain ⟨a,vs,rfl,_,h1,r⟩ := Z9a s ry e
        have := Zhb rx ek
        subst this
        exact .inr ⟨a,valV vs k,rfl,DGet.k h1,by rw [Zhc r]; exact Yl p s (.bl _)⟩
    · exact .inl ⟨ι,Z,tx,_,s,rx,ry,p⟩
  · exact .inl ⟨ι,Z,tx,ty,s,rx,ry,p⟩
theorem Nq (hu : X.A.units + 64 < cLine) (hK : X.K = K) : OpF X K (compareOp .NotIn) gNotInW := by
  have h0 := Znj hK
  subst hK
  refine Wo (Jm h0 (Zjs (by omega))) fun x y H Q h => ?_
  obtain ⟨ι,Z,tx,ty,s,rx,ry,p⟩ := h
  unfold gNotInW at p
  split at p
  · split at p
    · rename_i i kvs e
      cases ek : keyT tx with
      | none => rw [ek] at p; exact p.elim
      | some k =>
        rw [ek,Option.map_some] at p
        obtain ⟨a,vs,rfl,_,h1,r⟩ := Z9a s ry e
        have := Zhb rx ek
        subst this
        exact .inr ⟨a,valV vs k,rfl,DGet.k h1,by rw [Zhc r]; exact Yl p s (.bl _)⟩
    · exact .inl ⟨ι,Z,tx,_,s,rx,ry,p⟩
  · exact .inl ⟨ι,Z,tx,ty,s,rx,ry,p⟩
theorem Znx (hu : X.A.units + 1 < cLine) : IxR X (fun x y H Q => ∃ a v,x = .ref a ∧ DGet H a y (some v) ∧ Q v H) := by
  intro value slice pins s σ H x y v u Q I rx ry h hs
  obtain ⟨a,r,rfl,g,q⟩ := h
  cases rx
  exact tail_any (dict_typeIs I g) slot_dict_getitem.lookup (d_getItem hu I g ry fun w' s3 I3 rw' => ⟨r, H, I3, rw', q⟩) hs
theorem Xv (hu : X.A.units + 64 < cLine) (hK : X.K = K) : IxR X (rF2 K gIxW) := by
  have h0 := i_ix hK
  subst hK
  refine Zj8 (IxR.or h0 (Znx (by omega))) fun x y H Q h => ?_
  obtain ⟨ι,Z,tx,ty,s,rx,ry,p⟩ := h
  unfold gIxW at p
  split at p
  · split at p
    · rename_i i kvs e
      cases ek : keyT ty with
      | none => rw [ek] at p; exact p.elim
      | some k =>
        rw [ek] at p
        cases eg : getK kvs k with
        | none => simp only [eg] at p; exact p.elim
        | some t =>
          simp only [eg,Option.map_some] at p
          obtain ⟨a,vs,rfl,_,h1,r⟩ := Z9a s rx e
          have := Zhb ry ek
          subst this
          have hv := Zjq (k := k) r
          rw [eg] at hv
          obtain ⟨v,hv,rv⟩ := hv
          exact .inr ⟨a,v,rfl,hv ▸ DGet.k h1,Yl p s rv⟩
    · exact .inl ⟨ι,Z,_,ty,s,rx,ry,p⟩
  · exact .inl ⟨ι,Z,tx,ty,s,rx,ry,p⟩
end
def gSetW (x y t : T) (Z : Sto) : Option Sto := match x with
  | .loc i => (match getDK Z i with
    | some kvs => (match keyT y with
      | some k => if kvs.length < Lim then some (Z.set i (.dk (putKT kvs k t))) else none
      | none => none)
    | none => gSetL x y t Z)
  | _ => gSetL x y t Z
def gSubsW (fo fi : FE) : FG := fun t ρ Z => (fo ρ Z).bind fun x Z1 => (fi ρ Z1).bind fun y Z2 => match gSetW x y t Z2 with
  | some Z3 => .ok ρ Z3
  | none => .stuck
section
variable {X : Cx} {K : PySem.W.Frag} {W : WX} {o e : Expr} {pos : Pos} {fo fi : FE}
theorem Zph {t t' : TSet} (h : PSet X t) (h' : PSet X t') : PSet X (fun o i v H Q => t o i v H Q ∨ t' o i v H Q) := fun pins s σ H o i v ov iv u Q I ro ri rv q => q.elim (h pins s σ H o i v ov iv u Q I ro ri rv) (h' pins s σ H o i v ov iv u Q I ro ri rv)
theorem Zny {ι : List Addr} {H : Hp} {Z Z3 : Sto} {x y v : V} {tx ty t : T} {Q : Hp → Prop} (s : Sim K ι Z H) (rx : Rep K ι H x tx) (ry : Rep K ι H y ty) (r : Rep K ι H v t) (e : gSetW tx ty t Z = some Z3) (q : ∀ H', Gr ι ι H H' → Sim K ι Z3 H' → Q H') : rSetL x y v H Q ∨ rSetD x y v H Q := by
  unfold gSetW at e
  split at e
  · split at e
    · rename_i i kvs eg
      split at e
      · rename_i k ek
        split at e
        · rename_i hz
          cases e
          obtain ⟨a,vs,rfl,hi,h1,rk⟩ := Z9a s rx eg
          have := Zhb ry ek
          subst this
          have g := Gr.mut (ι := ι) (o := .dK (putK vs k v)) h1 trivial (List.mem_of_getElem? hi)
          refine .inr ⟨a,_,rfl,DPut.k h1 (by rw [rk.length]; exact Nat.lt_of_lt_of_le hz Zee),q _ g (s.set hi ⟨_,upd_same,Zpf (rk.gr g) (r.gr g)⟩)⟩
        · cases e
      · cases e
    · exact .inl (Zjd s rx ry r e q)
  · exact .inl (Zjd s rx ry r e q)
theorem Z9g (hu : X.A.units + 64 < cLine) (ho : FJ X K (Wt W) o fo) (hi : FJ X K (Wt W) e fi)
    (ha : ∀ v,assign (.Subscript o e pos) X.env v = (do
      let ov ← holding [v] (eval o X.env)
      let iv ← holding [v,ov] (eval e X.env)
      standAt pos
      holding [v,ov,iv] (setItem ov iv v)
      release [v,ov,iv] []) := by intro _; rfl) : PG X (.Subscript o e pos) (tG K W (gSubsW fo fi)) := Zh7 (pg_sub ho hi (Zph set_list (set_dict (by omega))) ha) fun v σ H Q h => by
  obtain ⟨ι,ρ,Z,t,is,r,p⟩ := h
  refine ⟨ι,ρ,Z,is.ie,(Zu (rep := Rep K) p).imp fun x H1 q => ?_⟩
  obtain ⟨ι1,Z1,tx,g1,s1,r1,p1⟩ := q
  refine ⟨ι1,ρ,Z1,(is.gr g1 s1).ie,(Zu (rep := Rep K) p1).imp fun y H2 q2 => ?_⟩
  obtain ⟨ι2,Z2,ty,g2,s2,r2,p2⟩ := q2
  split at p2
  · rename_i Z3 e3
    exact Zny s2 (r1.gr g2) r2 ((r.gr g1).gr g2) e3 fun H3 g3 s3 => p2 ι2 H3 σ g3 s3 ⟨is.len,((is.env.gr g1).gr g2).gr g3⟩
  · exact p2.elim
end
inductive RepQ (K : PySem.W.Frag) (ι : List Addr) (H : Hp) : List (V × V) → List (T × T) → Prop
  | nil : RepQ K ι H [] []
  | cons {v w : V} {vs : List (V × V)} {t u : T} {ts : List (T × T)} : Rep K ι H v t → Rep K ι H w u → RepQ K ι H vs ts → RepQ K ι H ((v,w) :: vs) ((t,u) :: ts)
theorem RepQ.gr {K : PySem.W.Frag} {ι ι' : List Addr} {H H' : Hp} (g : Gr ι ι' H H') : ∀ {vs : List (V × V)} {ts : List (T × T)}, RepQ K ι H vs ts → RepQ K ι' H' vs ts
  | _,_,.nil => .nil
  | _,_,.cons a b r => .cons (a.gr g) (b.gr g) (r.gr g)
end Fx
set_option maxHeartbeats 4000000
namespace Fx
open PySem PySem.Spec PyProof.Rows L2 SX Ap
variable [Tb]
theorem Reps.pick {K : PySem.W.Frag} {ι : List Addr} {H : Hp} {vs : List V} {ts : List T} (r : Reps K ι H vs ts) : ∀ js : List Nat,Reps K ι H (js.filterMap (vs[·]?)) (js.filterMap (ts[·]?))
  | [] => .nil
  | j :: js => by
    cases e : ts[j]? with
    | none =>
      have e2 : vs[j]? = none := by rw [List.getElem?_eq_none_iff] at e ⊢; rw [r.length]; exact e
      rw [List.filterMap_cons,List.filterMap_cons,e,e2]
      exact Reps.pick r js
    | some t =>
      obtain ⟨v,e2,rv⟩ := r.get e
      rw [List.filterMap_cons,List.filterMap_cons,e,e2]
      exact .cons rv (Reps.pick r js)
def dvT : He.Dv → Option T
  | .non => some .non
  | .bl b => some (.bl b)
  | .int i => some (.int i)
  | .str x => some (.str x.cps.toList)
  | _ => none
def GDk (K : PySem.W.Frag) (w : World) (mg : PySem.Str → Option Value) (x : PySem.Str) (l : List (List Nat × T)) : Prop :=
  ∃ a es n,mg x = some (.ref a) ∧ KDict K w a es n ∧ (∀ q ∈ l,∃ u v,PySem.W.nsIn K a (S q.1) = some (some u) ∧ RelV v u ∧ ∀ ι H,Rep K ι H v q.2) ∧ ∀ z,z ∉ l.map (·.1) → PySem.W.nsIn K a (S z) = some none
def dkB (x : PySem.Str) (l : List (List Nat × He.Dv)) (K : PySem.W.Frag) : Bool := (He.Fa.glo x).ok K && (He.valsB K (He.ga K x) (l.map fun q => (S q.1,q.2)) && decide (He.dicW K (He.ga K x) ≠ none) && (match K.lookup (He.ga K x) with
  | some ⟨_,_,.dict es _,_⟩ => es.toList.all fun e => match e.key with | .str y _ => (l.map (·.1)).any fun z => decide (y = S z) | _ => false
  | _ => false))
theorem Zpi {K : PySem.W.Frag} {d : He.Dv} {t : T} (e : dvT d = some t) (ι : List Addr) (H : Hp) : Rep K ι H (d.v K) t := by
  cases d <;> first | (cases e; done) | skip
  · cases e; exact .non
  · cases e; exact .bl _
  · cases e; exact .int _
  · rename_i x
    cases e
    show Rep K ι H (.str x) (.str x.cps.toList)
    have : V.str x = V.str (S x.cps.toList) := by rw [Zlp]
    rw [this]
    exact .str _
theorem Zjt {fn : List DefY} {ts : List He.Tab} {ex : Exs} {w : World} {K : PySem.W.Frag} {mg : PySem.Str → Option Value} (C : Cx5 fn ts ex w K mg) {x : PySem.Str} {l : List (List Nat × He.Dv)} {lt : List (List Nat × T)} (i j : Nat) (h : ex[i]? = some (dkB x l) := by rfl)
    {ks : List PySem.Str} (ht : ts[j]? = some (fun K => He.ga K x,ks) := by rfl) (hl : l.map (fun q => (dvT q.2).map fun t => (q.1,t)) = lt.map some := by rfl) : GDk K w mg x lt := by
  have h1 := C.c.fact i h
  obtain ⟨a1,a2⟩ := He.ba h1
  obtain ⟨a2,a3⟩ := He.ba a2
  obtain ⟨a2,_⟩ := He.ba a2
  obtain ⟨es,n,D⟩ := C.c.tab j ht
  obtain ⟨h', X, G⟩ := C.kx
  refine ⟨He.ga K x,es,n,He.glo_ok X G a1,D,fun q hq => ?_,fun z hz => ?_⟩
  · obtain ⟨k,hk⟩ := List.mem_iff_getElem?.mp hq
    have e1 := congrArg (fun m => m[k]?) hl
    simp only [List.getElem?_map,hk,Option.map_some] at e1
    cases e2 : l[k]? with
    | none => rw [e2] at e1; cases e1
    | some r =>
      rw [e2] at e1
      have e3 := Option.some.inj e1
      obtain ⟨t,e4,e5⟩ := Option.map_eq_some_iff.mp e3
      have hm : (S r.1,r.2) ∈ l.map fun q => (S q.1,q.2) := List.mem_map.mpr ⟨r,List.mem_of_getElem? e2,rfl⟩
      obtain ⟨u,e6,e7⟩ := He.valsB_ok a2 hm
      refine ⟨u,r.2.v K,?_,e7,fun ι H => ?_⟩
      · rw [← e5]; exact e6
      · rw [← e5]; exact Zpi e4 ι H
  · have hlk : l.map (·.1) = lt.map (·.1) := by
      have : ∀ (l : List (List Nat × He.Dv)) (lt : List (List Nat × T)),l.map (fun q => (dvT q.2).map fun t => (q.1,t)) = lt.map some → l.map (·.1) = lt.map (·.1) := by
        intro l
        induction l with
        | nil => intro lt h; cases lt with
          | nil => rfl
          | cons _ _ => cases h
        | cons q l ih =>
          intro lt h
          cases lt with
          | nil => cases h
          | cons p lt =>
            rw [List.map_cons,List.map_cons,List.cons.injEq] at h
            obtain ⟨t,e1,e2⟩ := Option.map_eq_some_iff.mp h.1
            rw [List.map_cons,List.map_cons,ih lt h.2,← e2]
      exact this l lt hl
    rw [D.at_] at a3
    simp only at a3
    have key : ∀ e ∈ es.toList,e.key.isStr (S z) = false := fun e he => by
      have := List.all_eq_true.mp a3 e he
      split at this
      · rename_i y t ey
        obtain ⟨z', hz', ez⟩ := List.any_eq_true.mp this
        have ey' := of_decide_eq_true ez
        rw [ey]
        show (y == S z) = false
        rw [ey', S_beq_eq]
        refine decide_eq_false fun e => hz ?_
        rw [← hlk, ← e]; exact hz'
      · cases this
    have noref : es.toList.any (·.refKey) = false := by
      rw [List.any_eq_false]
      intro e he hr
      have := List.all_eq_true.mp a3 e he
      split at this
      · rename_i y t ey
        unfold DictEntry.refKey at hr
        rw [ey] at hr
        simp at hr
      · cases this
    unfold PySem.W.nsIn
    rw [D.at_]
    simp only
    have : es.toList.find? (fun e => e.key.isStr (S z)) = none := by
      rw [List.find?_eq_none]
      intro e he
      simp [key e he]
    rw [this]
    simp only [noref,Bool.false_eq_true,if_false]
def kdT (l : List (List Nat × T)) : T → Option T
  | .str z => (l.find? fun q => q.1 == z).map (·.2)
  | _ => none
def kdHas (l : List (List Nat × T)) : T → Option Bool
  | .str z => some (l.any fun q => q.1 == z)
  | _ => none
def eKdI (l : List (List Nat × T)) (fe : FE) : FE := fun ρ Z => (fe ρ Z).bind fun x Z1 => match kdT l x with
  | some t => .ok t Z1
  | none => .stuck
section
variable {X : Cx} {K : PySem.W.Frag} {W : Wc} {x : PySem.Str} {b : Expr} {fb : FE} {pos p : Pos} {l : List (List Nat × T)}
theorem Zpj {a : Addr} {es : Array DictEntry} {n : Nat} {w : World} {ι : List Addr} {H : Hp} {v : V} {t t' : T} (D : KDict K w a es n) (hv : ∀ q ∈ l, ∃ u v, PySem.W.nsIn K a (S q.1) = some (some u) ∧ RelV v u ∧ ∀ ι H, Rep K ι H v q.2) (r : Rep K ι H v t) (e : kdT l t = some t') :
    ∃ z v', v = .str z ∧ KDct K w a z v' ∧ ∀ ι H, Rep K ι H v' t' := by
  cases r with
  | str z =>
    obtain ⟨q,hq,rfl⟩ := Option.map_eq_some_iff.mp e
    have hm := List.mem_of_find?_eq_some hq
    have hz := List.find?_some hq
    have hz' : q.1 = z := by simpa using hz
    obtain ⟨u, v', e1, e2, e3⟩ := hv q hm
    exact ⟨S z, v', rfl, ⟨es, n, u, D.at_, D.lit, by rw [← hz']; exact e1, e2⟩, e3⟩
  | _ => cases e
theorem Z94 (hK : X.K = K) (hg : Gl X x) (hm : GDk X.K X.w X.mg x l) (hb : FJ X K W b fb) (hs : PlainIx b) (hdb : (x == ("__debug__" : PySem.Str)) = false := by decide) : FJ X K W (.Subscript (.Name x p) b pos) (eKdI l fb) := by
  subst hK
  obtain ⟨a,es,n,hx,D,hv,_⟩ := hm
  refine Uu (pe_ix ix_kdict (pe_glob (v := .ref a) hg hx rfl hdb) hb hs) fun σ H Q h => ?_
  obtain ⟨ι,ρ,Z,is,q⟩ := h
  show tF X.K W fb σ H _
  refine ⟨ι,ρ,Z,is,(Zu q).imp fun y H1 q1 => ?_⟩
  obtain ⟨ι1,Z1,ty,g1,s1,r1,p1⟩ := q1
  split at p1
  · rename_i t e
    obtain ⟨z, v', rfl, hd, hr⟩ := Zpj D hv r1 e
    exact ⟨a, z, v', rfl, rfl, hd, p1 ι1 H1 v' Gr.refl s1 (hr _ _)⟩
  · exact p1.elim
theorem kd_in {a : Addr} {ι : List Addr} {H : Hp} {v : V} {t : T} {c : Bool} (hv : ∀ q ∈ l,∃ u v,PySem.W.nsIn K a (S q.1) = some (some u) ∧ RelV v u ∧ ∀ ι H,Rep K ι H v q.2) (hn : ∀ z,z ∉ l.map (·.1) → PySem.W.nsIn K a (S z) = some none) (r : Rep K ι H v t) (e : kdHas l t = some c) :
    ∃ z o,v = .str z ∧ PySem.W.nsIn K a z = some o ∧ o.isSome = c := by
  cases r with
  | str z =>
    have e' := Option.some.inj e
    cases c with
    | true =>
      obtain ⟨q, hq, hz⟩ := List.any_eq_true.mp e'
      have hz' : q.1 = z := by simpa using hz
      obtain ⟨u, v', e1, _, _⟩ := hv q hq
      exact ⟨S z, some u, rfl, by rw [← hz']; exact e1, rfl⟩
    | false =>
      refine ⟨S z,none,rfl,hn z fun hm => ?_,rfl⟩
      obtain ⟨q,hq,hz⟩ := List.mem_map.mp hm
      have := List.any_eq_false.mp e' q hq
      simp [hz] at this
  | _ => cases e
end
end Fx
set_option maxHeartbeats 4000000
namespace Ap
open PySem PySem.Spec PyProof.Rows L2 SX Fx
def topS (i : Nat) : Stmt := PySem.Challenge.pw_anchorpages_k26_whole_texts_of_folded_sc.main.body.getD i (.Pass ⟨0,0,0,0⟩)
def clsS (s : Stmt) (j : Nat) : Stmt := match s with
  | .ClassDef _ _ _ b _ _ _ _ _ _ _ => b.getD j (.Pass ⟨0,0,0,0⟩)
  | _ => .Pass ⟨0,0,0,0⟩
abbrev Wj : Stmt := clsS (topS 3) 0
abbrev Zav : List Str := ["self", "part"]
abbrev Jh : List Str := ["self", "part"]
theorem Z9h : FnScope Zav Jh (defScope Wj) := ⟨rfl,rfl,rfl,by decide +kernel,rfl,by decide +kernel,by decide +kernel⟩
def Z3p : DefY := { at_ := (mY "NoStyle" "__init__"), name := "__init__", qual := "NoStyle.__init__", params := defArgs Wj, body := defBody Wj, scope := defScope Wj, dfl := [.non], kwd := [] }
abbrev Jp : Stmt := topS 38
abbrev Zek : List Str := ["thing", "sign"]
abbrev Z9i : List Str := ["thing"]
theorem Z7t : FnScope Zek Z9i (defScope Jp) := ⟨rfl,rfl,rfl,by decide +kernel,rfl,by decide +kernel,by decide +kernel⟩
def Zbv : DefY := { at_ := (gY "is_text"), name := "is_text", qual := "is_text", params := defArgs Jp, body := defBody Jp, scope := defScope Jp, dfl := [], kwd := [] }
abbrev Wv : Stmt := topS 40
abbrev Zcw : List Str := ["value"]
abbrev Z2n : List Str := ["value"]
theorem Zaw : FnScope Zcw Z2n (defScope Wv) := ⟨rfl,rfl,rfl,by decide +kernel,rfl,by decide +kernel,by decide +kernel⟩
def Z52 : DefY := { at_ := (gY "check_value"), name := "check_value", qual := "check_value", params := defArgs Wv, body := defBody Wv, scope := defScope Wv, dfl := [], kwd := [] }
abbrev Ww : Stmt := topS 41
abbrev Zcx : List Str := ["style", "context"]
abbrev Z2o : List Str := ["style", "context"]
theorem Zax : FnScope Zcx Z2o (defScope Ww) := ⟨rfl,rfl,rfl,by decide +kernel,rfl,by decide +kernel,by decide +kernel⟩
def Z53 : DefY := { at_ := (gY "check_place"), name := "check_place", qual := "check_place", params := defArgs Ww, body := defBody Ww, scope := defScope Ww, dfl := [], kwd := [] }
abbrev Vh : Stmt := topS 39
abbrev Zel : List Str := ["thing", "low", "high"]
abbrev Z3q : List Str := ["thing", "low", "high"]
theorem Zcy : FnScope Zel Z3q (defScope Vh) := ⟨rfl,rfl,rfl,by decide +kernel,rfl,by decide +kernel,by decide +kernel⟩
def Z6t : DefY := { at_ := (gY "is_from_to"), name := "is_from_to", qual := "is_from_to", params := defArgs Vh, body := defBody Vh, scope := defScope Vh, dfl := [], kwd := [] }
abbrev W3 : Stmt := topS 42
abbrev Z9j : List Str := ["indent", "width", "deep"]
abbrev Z06 : List Str := ["indent", "width", "deep"]
theorem Z95 : FnScope Z9j Z06 (defScope W3) := ⟨rfl,rfl,rfl,by decide +kernel,rfl,by decide +kernel,by decide +kernel⟩
def Z3f : DefY := { at_ := (gY "check_numbers"), name := "check_numbers", qual := "check_numbers", params := defArgs W3, body := defBody W3, scope := defScope W3, dfl := [], kwd := [] }
abbrev Qx : Stmt := topS 50
abbrev Zia : List Str := ["word", "style"]
abbrev Z7u : List Str := ["word", "style"]
theorem Zg7 : FnScope Zia Z7u (defScope Qx) := ⟨rfl,rfl,rfl,by decide +kernel,rfl,by decide +kernel,by decide +kernel⟩
def Z9k : DefY := { at_ := (gY "signs_of"), name := "signs_of", qual := "signs_of", params := defArgs Qx, body := defBody Qx, scope := defScope Qx, dfl := [], kwd := [] }
abbrev Z07 : Stmt := topS 37
abbrev Zju : List Str := ["sign"]
abbrev Z9l : List Str := ["sign"]
theorem Zib : FnScope Zju Z9l (defScope Z07) := ⟨rfl,rfl,rfl,by decide +kernel,rfl,by decide +kernel,by decide +kernel⟩
def Zbw : DefY := { at_ := (gY "is_sign"), name := "is_sign", qual := "is_sign", params := defArgs Z07, body := defBody Z07, scope := defScope Z07, dfl := [], kwd := [] }
abbrev Qy : Stmt := topS 46
abbrev Zic : List Str := ["row", "found", "begin", "at"]
abbrev Z7v : List Str := ["row"]
theorem Z2p : FnScope Zic Z7v (defScope Qy) := ⟨rfl,rfl,rfl,by decide +kernel,rfl,by decide +kernel,by decide +kernel⟩
def Z9m : DefY := { at_ := (gY "words_of"), name := "words_of", qual := "words_of", params := defArgs Qy, body := defBody Qy, scope := defScope Qy, dfl := [], kwd := [] }
abbrev Uh : Stmt := topS 47
abbrev Zg8 : List Str := ["row"]
abbrev Z5u : List Str := ["row"]
theorem Zem : FnScope Zg8 Z5u (defScope Uh) := ⟨rfl,rfl,rfl,by decide +kernel,rfl,by decide +kernel,by decide +kernel⟩
def Z8n : DefY := { at_ := (gY "is_marked"), name := "is_marked", qual := "is_marked", params := defArgs Uh, body := defBody Uh, scope := defScope Uh, dfl := [], kwd := [] }
abbrev Wk : Stmt := topS 49
abbrev Zay : List Str := ["word", "indent"]
abbrev Z1q : List Str := ["word", "indent"]
theorem Z9n : FnScope Zay Z1q (defScope Wk) := ⟨rfl,rfl,rfl,by decide +kernel,rfl,by decide +kernel,by decide +kernel⟩
def Z3r : DefY := { at_ := (gY "blanks_ahead"), name := "blanks_ahead", qual := "blanks_ahead", params := defArgs Wk, body := defBody Wk, scope := defScope Wk, dfl := [], kwd := [] }
abbrev Z2q : Stmt := topS 48
abbrev Zlv : List Str := ["words", "width", "indent", "is_first", "lines", "line", "word"]
abbrev Zcz : List Str := ["words", "width", "indent", "is_first"]
theorem Z24 : FnScope Zlv Zcz (defScope Z2q) := ⟨rfl,rfl,rfl,by decide +kernel,rfl,by decide +kernel,by decide +kernel⟩
def Zen : DefY := { at_ := (gY "filled"), name := "filled", qual := "filled", params := defArgs Z2q, body := defBody Z2q, scope := defScope Z2q, dfl := [], kwd := [] }
abbrev Vi : Stmt := topS 51
abbrev Z9o : List Str := ["value", "style", "indent", "width", "rows", "lines", "at", "row", "words", "word"]
abbrev Z5v : List Str := ["value", "style", "indent", "width"]
theorem Vj : FnScope Z9o Z5v (defScope Vi) := ⟨rfl,rfl,rfl,by decide +kernel,rfl,by decide +kernel,by decide +kernel⟩
def Z8o : DefY := { at_ := (gY "flow_text"), name := "flow_text", qual := "flow_text", params := defArgs Vi, body := defBody Vi, scope := defScope Vi, dfl := [], kwd := [] }
abbrev Qz : Stmt := topS 52
abbrev Zid : List Str := ["core", "is_folded", "found", "is_joined", "part", "is_bare"]
abbrev Z7w : List Str := ["core", "is_folded"]
theorem Z08 : FnScope Zid Z7w (defScope Qz) := ⟨rfl,rfl,rfl,by decide +kernel,rfl,by decide +kernel,by decide +kernel⟩
def Z9p : DefY := { at_ := (gY "parts_of"), name := "parts_of", qual := "parts_of", params := defArgs Qz, body := defBody Qz, scope := defScope Qz, dfl := [], kwd := [] }
abbrev Ui : Stmt := topS 53
abbrev Zg9 : List Str := ["part", "is_folded"]
abbrev Z5w : List Str := ["part", "is_folded"]
theorem Zeo : FnScope Zg9 Z5w (defScope Ui) := ⟨rfl,rfl,rfl,by decide +kernel,rfl,by decide +kernel,by decide +kernel⟩
def Z8p : DefY := { at_ := (gY "is_parted"), name := "is_parted", qual := "is_parted", params := defArgs Ui, body := defBody Ui, scope := defScope Ui, dfl := [], kwd := [] }
abbrev Xy : Stmt := topS 54
abbrev Uv : List Str := ["value", "style", "indent", "width", "deep", "core", "feeds", "parts", "rows", "words", "is_at_marks", "lines", "first", "digit", "sign", "part", "word"]
abbrev Z3s : List Str := ["value", "style", "indent", "width", "deep"]
theorem Ye : FnScope Uv Z3s (defScope Xy) := ⟨rfl,rfl,rfl,by decide +kernel,rfl,by decide +kernel,by decide +kernel⟩
def Z6u : DefY := { at_ := (gY "block_text"), name := "block_text", qual := "block_text", params := defArgs Xy, body := defBody Xy, scope := defScope Xy, dfl := [], kwd := [] }
abbrev Z09 : Stmt := topS 55
abbrev Zjv : List Str := ["value", "style", "context", "indent", "width", "deep"]
abbrev Z9q : List Str := ["value", "style", "context", "indent", "width", "deep"]
theorem Zie : FnScope Zjv Z9q (defScope Z09) := ⟨rfl,rfl,rfl,by decide +kernel,rfl,by decide +kernel,by decide +kernel⟩
def Zbx : DefY := { at_ := (gY "text_in"), name := "text_in", qual := "text_in", params := defArgs Z09, body := defBody Z09, scope := defScope Z09, dfl := [], kwd := [] }
abbrev Xw : Stmt := topS 44
abbrev Z2r : List Str := ["value", "context", "rows", "row"]
abbrev Z2s : List Str := ["value", "context"]
theorem V9 : FnScope Z2r Z2s (defScope Xw) := ⟨rfl,rfl,rfl,by decide +kernel,rfl,by decide +kernel,by decide +kernel⟩
def Z54 : DefY := { at_ := (gY "fits_single"), name := "fits_single", qual := "fits_single", params := defArgs Xw, body := defBody Xw, scope := defScope Xw, dfl := [], kwd := [] }
abbrev Z0a : Stmt := topS 11
abbrev Zjw : List Str := ["sign", "c"]
abbrev Z9r : List Str := ["sign", "c"]
theorem Zif : FnScope Zjw Z9r (defScope Z0a) := ⟨rfl,rfl,rfl,by decide +kernel,rfl,by decide +kernel,by decide +kernel⟩
def Zby : DefY := { at_ := (gY "is_safe"), name := "is_safe", qual := "is_safe", params := defArgs Z0a, body := defBody Z0a, scope := defScope Z0a, dfl := [], kwd := [] }
abbrev Wl : Stmt := topS 43
abbrev Zaz : List Str := ["value", "at", "context", "sign", "ahead", "behind", "is_last"]
abbrev Z1r : List Str := ["value", "at", "context"]
theorem Z0b : FnScope Zaz Z1r (defScope Wl) := ⟨rfl,rfl,rfl,by decide +kernel,rfl,by decide +kernel,by decide +kernel⟩
def Z3t : DefY := { at_ := (gY "stands_plain"), name := "stands_plain", qual := "stands_plain", params := defArgs Wl, body := defBody Wl, scope := defScope Wl, dfl := [], kwd := [] }
abbrev Wu : Stmt := topS 45
abbrev Z8q : List Str := ["value", "style", "context", "at"]
abbrev Z3u : List Str := ["value", "style", "context"]
theorem Z2t : FnScope Z8q Z3u (defScope Wu) := ⟨rfl,rfl,rfl,by decide +kernel,rfl,by decide +kernel,by decide +kernel⟩
def Z6v : DefY := { at_ := (gY "is_fitting"), name := "is_fitting", qual := "is_fitting", params := defArgs Wu, body := defBody Wu, scope := defScope Wu, dfl := [], kwd := [] }
abbrev Z0c : Stmt := topS 56
abbrev Zjx : List Str := ["value", "style", "context", "indent", "width", "deep"]
abbrev Z6w : List Str := ["value", "style", "context", "indent", "width", "deep"]
theorem Zig : FnScope Zjx Z6w (defScope Z0c) := ⟨rfl,rfl,rfl,by decide +kernel,rfl,by decide +kernel,by decide +kernel⟩
def Zbz : DefY := { at_ := (gY "written"), name := "written", qual := "written", params := defArgs Z0c, body := defBody Z0c, scope := defScope Z0c, dfl := [(.int 0), (.int 1)], kwd := [] }
abbrev Vk : Stmt := topS 61
abbrev Zep : List Str := ["_law_state", "_law_base", "_law_found", "_law_mixed"]
abbrev Z3v : List Str := ["_law_state", "_law_base"]
theorem Nr : FnScope Zep Z3v (defScope Vk) := ⟨rfl,rfl,rfl,by decide +kernel,rfl,by decide +kernel,by decide +kernel⟩
def Z6x : DefY := { at_ := (gY "_law_digit"), name := "_law_digit", qual := "_law_digit", params := defArgs Vk, body := defBody Vk, scope := defScope Vk, dfl := [], kwd := [] }
abbrev J5 : Stmt := topS 62
abbrev Zih : List Str := ["_law_state", "_law_some"]
abbrev Z7x : List Str := ["_law_state", "_law_some"]
theorem Zga : FnScope Zih Z7x (defScope J5) := ⟨rfl,rfl,rfl,by decide +kernel,rfl,by decide +kernel,by decide +kernel⟩
def Z9s : DefY := { at_ := (gY "_law_one"), name := "_law_one", qual := "_law_one", params := defArgs J5, body := defBody J5, scope := defScope J5, dfl := [], kwd := [] }
abbrev Uj : Stmt := topS 63
abbrev Zgb : List Str := ["_law_state", "_law_some", "_law_rows_here", "_law_turn", "_law_many"]
abbrev Z5x : List Str := ["_law_state"]
theorem Jq : FnScope Zgb Z5x (defScope Uj) := ⟨rfl,rfl,rfl,by decide +kernel,rfl,by decide +kernel,by decide +kernel⟩
def Z8r : DefY := { at_ := (gY "_law_rows"), name := "_law_rows", qual := "_law_rows", params := defArgs Uj, body := defBody Uj, scope := defScope Uj, dfl := [], kwd := [] }
abbrev Vl : Stmt := topS 64
abbrev Z9t : List Str := ["_law_rows_here", "_law_feeds", "_law_indent", "_law_deep", "_law_many", "_law_row", "_law_more", "_law_found", "_law_last", "_law_k", "_law_is_bare", "_law_empty"]
abbrev Z5y : List Str := ["_law_rows_here", "_law_feeds", "_law_indent", "_law_deep"]
theorem Yy : FnScope Z9t Z5y (defScope Vl) := ⟨rfl,rfl,rfl,by decide +kernel,rfl,by decide +kernel,by decide +kernel⟩
def Z8s : DefY := { at_ := (gY "_law_text"), name := "_law_text", qual := "_law_text", params := defArgs Vl, body := defBody Vl, scope := defScope Vl, dfl := [], kwd := [] }
abbrev Wx : Stmt := clsS (topS 12) 0
abbrev Zd0 : List Str := ["self", "text"]
abbrev Z2u : List Str := ["self", "text"]
theorem Zb0 : FnScope Zd0 Z2u (defScope Wx) := ⟨rfl,rfl,rfl,by decide +kernel,rfl,by decide +kernel,by decide +kernel⟩
def Z55 : DefY := { at_ := (mY "Source" "__init__"), name := "__init__", qual := "Source.__init__", params := defArgs Wx, body := defBody Wx, scope := defScope Wx, dfl := [], kwd := [] }
abbrev Uk : Stmt := clsS (topS 12) 1
abbrev Zgc : List Str := ["self", "i"]
abbrev Z5z : List Str := ["self", "i"]
theorem Zeq : FnScope Zgc Z5z (defScope Uk) := ⟨rfl,rfl,rfl,by decide +kernel,rfl,by decide +kernel,by decide +kernel⟩
def Z8t : DefY := { at_ := (mY "Source" "at"), name := "at", qual := "Source.at", params := defArgs Uk, body := defBody Uk, scope := defScope Uk, dfl := [], kwd := [] }
abbrev Yx : Stmt := clsS (topS 12) 5
abbrev Z4v : List Str := ["self", "i"]
abbrev U3 : List Str := ["self", "i"]
theorem Jr : FnScope Z4v U3 (defScope Yx) := ⟨rfl,rfl,rfl,by decide +kernel,rfl,by decide +kernel,by decide +kernel⟩
def Jt : DefY := { at_ := (mY "Source" "past_blanks"), name := "past_blanks", qual := "Source.past_blanks", params := defArgs Yx, body := defBody Yx, scope := defScope Yx, dfl := [], kwd := [] }
abbrev Xg : Stmt := clsS (topS 12) 3
abbrev Z7y : List Str := ["self", "i"]
abbrev J8 : List Str := ["self", "i"]
theorem Z6y : FnScope Z7y J8 (defScope Xg) := ⟨rfl,rfl,rfl,by decide +kernel,rfl,by decide +kernel,by decide +kernel⟩
def Z14 : DefY := { at_ := (mY "Source" "is_begin"), name := "is_begin", qual := "Source.is_begin", params := defArgs Xg, body := defBody Xg, scope := defScope Xg, dfl := [], kwd := [] }
abbrev Xn : Stmt := clsS (topS 12) 7
abbrev Z96 : List Str := ["self", "i", "words"]
abbrev Ud : List Str := ["self", "i", "words"]
theorem Z7z : FnScope Z96 Ud (defScope Xn) := ⟨rfl,rfl,rfl,by decide +kernel,rfl,by decide +kernel,by decide +kernel⟩
def Z25 : DefY := { at_ := (mY "Source" "is_mark"), name := "is_mark", qual := "Source.is_mark", params := defArgs Xn, body := defBody Xn, scope := defScope Xn, dfl := [(.adr (dflY (mY "Source" "is_mark") 0))], kwd := [] }
abbrev Wy : Stmt := clsS (topS 12) 2
abbrev Zd1 : List Str := ["self", "i"]
abbrev Z2v : List Str := ["self", "i"]
theorem Zb1 : FnScope Zd1 Z2v (defScope Wy) := ⟨rfl,rfl,rfl,by decide +kernel,rfl,by decide +kernel,by decide +kernel⟩
def Z56 : DefY := { at_ := (mY "Source" "miss"), name := "miss", qual := "Source.miss", params := defArgs Wy, body := defBody Wy, scope := defScope Wy, dfl := [], kwd := [] }
abbrev Xd : Stmt := clsS (topS 12) 8
abbrev Z6z : List Str := ["self", "i"]
abbrev Q6 : List Str := ["self", "i"]
theorem Z60 : FnScope Z6z Q6 (defScope Xd) := ⟨rfl,rfl,rfl,by decide +kernel,rfl,by decide +kernel,by decide +kernel⟩
def Z0d : DefY := { at_ := (mY "Source" "is_barred"), name := "is_barred", qual := "Source.is_barred", params := defArgs Xd, body := defBody Xd, scope := defScope Xd, dfl := [], kwd := [] }
abbrev Z0e : Stmt := topS 18
abbrev Zjy : List Str := ["source", "i", "c", "is_behind", "sign"]
abbrev Z9u : List Str := ["source", "i", "c", "is_behind"]
theorem Zc0 : FnScope Zjy Z9u (defScope Z0e) := ⟨rfl,rfl,rfl,by decide +kernel,rfl,by decide +kernel,by decide +kernel⟩
def Zc1 : DefY := { at_ := (gY "is_next"), name := "is_next", qual := "is_next", params := defArgs Z0e, body := defBody Z0e, scope := defScope Z0e, dfl := [], kwd := [] }
abbrev Z0f : Stmt := topS 19
abbrev Zjz : List Str := ["source", "i", "c", "j"]
abbrev Z9v : List Str := ["source", "i", "c"]
theorem Z80 : FnScope Zjz Z9v (defScope Z0f) := ⟨rfl,rfl,rfl,by decide +kernel,rfl,by decide +kernel,by decide +kernel⟩
def Zc2 : DefY := { at_ := (gY "row_end"), name := "row_end", qual := "row_end", params := defArgs Z0f, body := defBody Z0f, scope := defScope Z0f, dfl := [], kwd := [] }
abbrev J9 : Stmt := topS 17
abbrev Zii : List Str := ["source", "i", "c", "sign"]
abbrev Z81 : List Str := ["source", "i", "c"]
theorem Z9w : FnScope Zii Z81 (defScope J9) := ⟨rfl,rfl,rfl,by decide +kernel,rfl,by decide +kernel,by decide +kernel⟩
def Z9x : DefY := { at_ := (gY "is_first"), name := "is_first", qual := "is_first", params := defArgs J9, body := defBody J9, scope := defScope J9, dfl := [], kwd := [] }
abbrev Xh : Stmt := clsS (topS 12) 10
abbrev Z82 : List Str := ["self", "i", "n", "k"]
abbrev Ja : List Str := ["self", "i", "n"]
theorem Z15 : FnScope Z82 Ja (defScope Xh) := ⟨rfl,rfl,rfl,by decide +kernel,rfl,by decide +kernel,by decide +kernel⟩
def Z16 : DefY := { at_ := (mY "Source" "indented"), name := "indented", qual := "Source.indented", params := defArgs Xh, body := defBody Xh, scope := defScope Xh, dfl := [], kwd := [] }
abbrev Vm : Stmt := topS 20
abbrev Zer : List Str := ["source", "i", "n", "j", "count", "k"]
abbrev Z3w : List Str := ["source", "i", "n"]
theorem Wz : FnScope Zer Z3w (defScope Vm) := ⟨rfl,rfl,rfl,by decide +kernel,rfl,by decide +kernel,by decide +kernel⟩
def Z70 : DefY := { at_ := (gY "plain_fold"), name := "plain_fold", qual := "plain_fold", params := defArgs Vm, body := defBody Vm, scope := defScope Vm, dfl := [], kwd := [] }
abbrev Z61 : Stmt := topS 21
abbrev Znz : List Str := ["source", "i", "n", "c", "end", "value", "found"]
abbrev Zgd : List Str := ["source", "i", "n", "c"]
theorem Z4l : FnScope Znz Zgd (defScope Z61) := ⟨rfl,rfl,rfl,by decide +kernel,rfl,by decide +kernel,by decide +kernel⟩
def Zhd : DefY := { at_ := (gY "plain"), name := "plain", qual := "plain", params := defArgs Z61, body := defBody Z61, scope := defScope Z61, dfl := [], kwd := [] }
abbrev X4 : Stmt := clsS (topS 12) 6
abbrev Z62 : List Str := ["self", "i"]
abbrev Ul : List Str := ["self", "i"]
theorem Jy : FnScope Z62 Ul (defScope X4) := ⟨rfl,rfl,rfl,by decide +kernel,rfl,by decide +kernel,by decide +kernel⟩
def Jz : DefY := { at_ := (mY "Source" "past_white"), name := "past_white", qual := "Source.past_white", params := defArgs X4, body := defBody X4, scope := defScope X4, dfl := [], kwd := [] }
abbrev Vn : Stmt := topS 22
abbrev Zes : List Str := ["source", "i", "n", "count", "j"]
abbrev Z3x : List Str := ["source", "i", "n"]
theorem Vv : FnScope Zes Z3x (defScope Vn) := ⟨rfl,rfl,rfl,by decide +kernel,rfl,by decide +kernel,by decide +kernel⟩
def Z71 : DefY := { at_ := (gY "quote_fold"), name := "quote_fold", qual := "quote_fold", params := defArgs Vn, body := defBody Vn, scope := defScope Vn, dfl := [], kwd := [] }
abbrev V1 : Stmt := topS 24
abbrev Zd2 : List Str := ["source", "i", "n", "c", "found"]
abbrev Z2w : List Str := ["source", "i", "n", "c"]
theorem Z57 : FnScope Zd2 Z2w (defScope V1) := ⟨rfl,rfl,rfl,by decide +kernel,rfl,by decide +kernel,by decide +kernel⟩
def Z58 : DefY := { at_ := (gY "folded_part"), name := "folded_part", qual := "folded_part", params := defArgs V1, body := defBody V1, scope := defScope V1, dfl := [], kwd := [] }
abbrev Z0g : Stmt := topS 23
abbrev Zk0 : List Str := ["source", "i", "n", "c", "sign", "found"]
abbrev Z9y : List Str := ["source", "i", "n", "c"]
theorem Z83 : FnScope Zk0 Z9y (defScope Z0g) := ⟨rfl,rfl,rfl,by decide +kernel,rfl,by decide +kernel,by decide +kernel⟩
def Zc3 : DefY := { at_ := (gY "escaped"), name := "escaped", qual := "escaped", params := defArgs Z0g, body := defBody Z0g, scope := defScope Z0g, dfl := [], kwd := [] }
abbrev Z2x : Stmt := topS 25
abbrev Zlw : List Str := ["source", "i", "n", "c", "quote", "value", "sign", "j", "part"]
abbrev Zd3 : List Str := ["source", "i", "n", "c"]
theorem V7 : FnScope Zlw Zd3 (defScope Z2x) := ⟨rfl,rfl,rfl,by decide +kernel,rfl,by decide +kernel,by decide +kernel⟩
def Zet : DefY := { at_ := (gY "quoted"), name := "quoted", qual := "quoted", params := defArgs Z2x, body := defBody Z2x, scope := defScope Z2x, dfl := [], kwd := [] }
abbrev Vo : Stmt := clsS (topS 6) 0
abbrev Zeu : List Str := ["self", "source", "start", "n"]
abbrev Z3y : List Str := ["self", "source", "start", "n"]
theorem Zd4 : FnScope Zeu Z3y (defScope Vo) := ⟨rfl,rfl,rfl,by decide +kernel,rfl,by decide +kernel,by decide +kernel⟩
def Z72 : DefY := { at_ := (mY "Piece" "__init__"), name := "__init__", qual := "Piece.__init__", params := defArgs Vo, body := defBody Vo, scope := defScope Vo, dfl := [], kwd := [] }
abbrev Xi : Stmt := clsS (topS 12) 4
abbrev Z84 : List Str := ["self", "i", "found"]
abbrev Jb : List Str := ["self", "i"]
theorem Z17 : FnScope Z84 Jb (defScope Xi) := ⟨rfl,rfl,rfl,by decide +kernel,rfl,by decide +kernel,by decide +kernel⟩
def Z18 : DefY := { at_ := (mY "Source" "line_end"), name := "line_end", qual := "Source.line_end", params := defArgs Xi, body := defBody Xi, scope := defScope Xi, dfl := [], kwd := [] }
abbrev Wm : Stmt := clsS (topS 12) 11
abbrev Zb2 : List Str := ["self", "i", "j"]
abbrev Z1s : List Str := ["self", "i"]
theorem Z0h : FnScope Zb2 Z1s (defScope Wm) := ⟨rfl,rfl,rfl,by decide +kernel,rfl,by decide +kernel,by decide +kernel⟩
def Z3z : DefY := { at_ := (mY "Source" "close"), name := "close", qual := "Source.close", params := defArgs Wm, body := defBody Wm, scope := defScope Wm, dfl := [], kwd := [] }
abbrev X5 : Stmt := clsS (topS 6) 1
abbrev Z63 : List Str := ["self", "is_told", "turn", "sign"]
abbrev Um : List Str := ["self"]
theorem Xp : FnScope Z63 Um (defScope X5) := ⟨rfl,rfl,rfl,by decide +kernel,rfl,by decide +kernel,by decide +kernel⟩
def N5 : DefY := { at_ := (mY "Piece" "read_header"), name := "read_header", qual := "Piece.read_header", params := defArgs X5, body := defBody X5, scope := defScope X5, dfl := [], kwd := [] }
abbrev Xe : Stmt := clsS (topS 6) 4
abbrev Z73 : List Str := ["self", "own"]
abbrev Q7 : List Str := ["self"]
theorem Z0i : FnScope Z73 Q7 (defScope Xe) := ⟨rfl,rfl,rfl,by decide +kernel,rfl,by decide +kernel,by decide +kernel⟩
def Z0j : DefY := { at_ := (mY "Piece" "last_feeds"), name := "last_feeds", qual := "Piece.last_feeds", params := defArgs Xe, body := defBody Xe, scope := defScope Xe, dfl := [], kwd := [] }
abbrev V2 : Stmt := clsS (topS 6) 5
abbrev Zd5 : List Str := ["self", "is_folded", "found", "is_white", "k", "row", "empties", "line", "has_feed", "is_now_white"]
abbrev Z2y : List Str := ["self", "is_folded"]
theorem Yn : FnScope Zd5 Z2y (defScope V2) := ⟨rfl,rfl,rfl,by decide +kernel,rfl,by decide +kernel,by decide +kernel⟩
def Z59 : DefY := { at_ := (mY "Piece" "value"), name := "value", qual := "Piece.value", params := defArgs V2, body := defBody V2, scope := defScope V2, dfl := [], kwd := [] }
abbrev Yr : Stmt := clsS (topS 12) 9
abbrev Z3k : List Str := ["self", "i", "word", "k", "sign"]
abbrev Vd : List Str := ["self", "i", "word"]
theorem V3 : FnScope Z3k Vd (defScope Yr) := ⟨rfl,rfl,rfl,by decide +kernel,rfl,by decide +kernel,by decide +kernel⟩
def Q8 : DefY := { at_ := (mY "Source" "expected_mark"), name := "expected_mark", qual := "Source.expected_mark", params := defArgs Yr, body := defBody Yr, scope := defScope Yr, dfl := [], kwd := [] }
abbrev X6 : Stmt := clsS (topS 6) 2
abbrev Z64 : List Str := ["self", "i", "longest", "j"]
abbrev Uo : List Str := ["self", "i"]
theorem Xq : FnScope Z64 Uo (defScope X6) := ⟨rfl,rfl,rfl,by decide +kernel,rfl,by decide +kernel,by decide +kernel⟩
def N6 : DefY := { at_ := (mY "Piece" "indentation"), name := "indentation", qual := "Piece.indentation", params := defArgs X6, body := defBody X6, scope := defScope X6, dfl := [], kwd := [] }
abbrev Vp : Stmt := clsS (topS 6) 3
abbrev Zev : List Str := ["self", "i", "width", "source", "j", "end", "has_feed"]
abbrev Z40 : List Str := ["self", "i", "width"]
theorem Q9 : FnScope Zev Z40 (defScope Vp) := ⟨rfl,rfl,rfl,by decide +kernel,rfl,by decide +kernel,by decide +kernel⟩
def Z74 : DefY := { at_ := (mY "Piece" "take"), name := "take", qual := "Piece.take", params := defArgs Vp, body := defBody Vp, scope := defScope Vp, dfl := [], kwd := [] }
abbrev V4 : Stmt := topS 57
abbrev Zd6 : List Str := ["text", "style", "n", "source", "piece", "i", "width"]
abbrev Z2z : List Str := ["text", "style", "n"]
theorem U5 : FnScope Zd6 Z2z (defScope V4) := ⟨rfl,rfl,rfl,by decide +kernel,rfl,by decide +kernel,by decide +kernel⟩
def Z5a : DefY := { at_ := (gY "block_value"), name := "block_value", qual := "block_value", params := defArgs V4, body := defBody V4, scope := defScope V4, dfl := [], kwd := [] }
abbrev V5 : Stmt := topS 58
abbrev Zd7 : List Str := ["text", "style", "context", "indent", "deep", "source", "letter", "found"]
abbrev Nt : List Str := ["text", "style", "context", "indent", "deep"]
theorem Z1t : FnScope Zd7 Nt (defScope V5) := ⟨rfl,rfl,rfl,by decide +kernel,rfl,by decide +kernel,by decide +kernel⟩
def Z5b : DefY := { at_ := (gY "read_scalar"), name := "read_scalar", qual := "read_scalar", params := defArgs V5, body := defBody V5, scope := defScope V5, dfl := [(.int 1)], kwd := [] }
abbrev Zew : Stmt := topS 65
abbrev Zpk : List Str := ["_law_script", "_law_cell", "_law_state", "_law_turn", "_law_rows_here", "_law_feeds", "_law_indent", "_law_deep", "_law_value", "_law_text_here", "_law_other", "_law_told", "_law_many", "_law_row"]
abbrev Zo0 : List Str := ["_law_script"]
theorem Z19 : FnScope Zpk Zo0 (defScope Zew) := ⟨rfl,rfl,rfl,by decide +kernel,rfl,by decide +kernel,by decide +kernel⟩
def Zn3 : DefY := { at_ := (gY "law"), name := "law", qual := "law", params := defArgs Zew, body := defBody Zew, scope := defScope Zew, dfl := [], kwd := [] }
def fns : List DefY := [Z3p,Zbv,Z52,Z53,Z6t,Z3f,Z9k,Zbw,Z9m,Z8n,Z3r,Zen,Z8o,Z9p,Z8p,Z6u,Zbx,Z54,Zby,Z3t,Z6v,Zbz,Z6x,Z9s,Z8r,Z8s,Z55,Z8t,Jt,Z14,Z25,Z56,Z0d,Zc1,Zc2,Z9x,Z16,Z70,Zhd,Jz,Z71,Z58,Zc3,Zet,Z72,Z18,Z3z,N5,Z0j,Z59,Q8,N6,Z74,Z5a,Z5b,Zn3]
def tabs : List He.Tab := [(fun K => He.ga K "LETTERS", [(S [98,108,111,99,107]), (S [107,101,121]), (S [102,108,111,119]), (S [112,97,105,114])]), (fun K => He.ga K "QUOTES", [(S [112,108,97,105,110]), (S [115,105,110,103,108,101]), (S [100,111,117,98,108,101])]), (fun K => He.ga K "HEADS", [(S [108,105,116,101,114,97,108]), (S [102,111,108,100,101,100])]), (fun K => He.ga K "BEHIND", [(S [98,108,111,99,107]), (S [107,101,121]), (S [102,108,111,119]), (S [112,97,105,114])]), (fun K => He.ga K "ESCAPES", [(S [34]), (S [92]), (S [47]), (S [110]), (S [116]), (S [32]), (S [9])])]
def exs : Exs := [
  tupAt (dflY (mY "Source" "is_mark") 0) [(.str (S [45,45,45])), (.str (S [46,46,46]))],
  fun K => (He.Fa.int "MOST_SIGNS" (3000)).ok K,
  tupAt (gY "STYLES") [(.str (S [112,108,97,105,110])), (.str (S [115,105,110,103,108,101])), (.str (S [100,111,117,98,108,101])), (.str (S [108,105,116,101,114,97,108])), (.str (S [102,111,108,100,101,100]))],
  dkB "LETTERS" [([98,108,111,99,107], (.str (S [79]))), ([107,101,121], (.str (S [75]))), ([102,108,111,119], (.str (S [73]))), ([112,97,105,114], (.str (S [80])))],
  fun K => (He.Fa.int "MOST_INDENT" (100)).ok K,
  fun K => (He.Fa.int "MOST_WIDTH" (200)).ok K,
  dkB "QUOTES" [([112,108,97,105,110], (.str (S []))), ([115,105,110,103,108,101], (.str (S [39]))), ([100,111,117,98,108,101], (.str (S [34])))],
  tupAt (gY "WHITE") [(.str (S [32])), (.str (S [9]))],
  dkB "HEADS" [([108,105,116,101,114,97,108], (.str (S [124]))), ([102,111,108,100,101,100], (.str (S [62])))],
  tupAt (gY "ONE_LINE") [(.str (S [107,101,121])), (.str (S [112,97,105,114]))],
  fun K => (He.Fa.str "BRACKETS" (S [44,91,93,123,125])).ok K,
  tupAt (gY "IN_BRACKETS") [(.str (S [73])), (.str (S [80]))],
  dkB "BEHIND" [([98,108,111,99,107], (.str (S [10]))), ([107,101,121], (.str (S [58,32]))), ([102,108,111,119], (.str (S [93]))), ([112,97,105,114], (.str (S [58,32])))],
  fun K => (He.Fa.str "MAYBE_FIRST" (S [45,63,58])).ok K,
  fun K => (He.Fa.str "NOT_FIRST" (S [44,91,93,123,125,35,38,42,33,124,62,39,34,64,96])).ok K,
  tupAt (gY "ON_A_LINE") [(.str (S [75])), (.str (S [80]))],
  dkB "ESCAPES" [([34], (.str (S [34]))), ([92], (.str (S [92]))), ([47], (.str (S [47]))), ([110], (.str (S [10]))), ([116], (.str (S [9]))), ([32], (.str (S [32]))), ([9], (.str (S [9])))],
  fun K => (He.Fa.glo "Piece").ok K,
  fun K => (He.Fa.cls "Piece").ok K,
  fun K => (He.Fa.mkr "Piece").ok K,
  fun K => (He.Fa.meth "Piece" "read_header").ok K,
  fun K => (He.Fa.meth "Piece" "last_feeds").ok K,
  fun K => (He.Fa.meth "Piece" "value").ok K,
  fun K => (He.Fa.meth "Piece" "indentation").ok K,
  fun K => (He.Fa.meth "Piece" "take").ok K,
  fun K => (He.Fa.noat "Piece" "source").ok K,
  fun K => (He.Fa.noat "Piece" "rows").ok K,
  fun K => (He.Fa.noat "Piece" "empties").ok K,
  fun K => (He.Fa.noat "Piece" "end").ok K,
  fun K => (He.Fa.noat "Piece" "start").ok K,
  fun K => (He.Fa.noat "Piece" "n").ok K,
  fun K => (He.Fa.noat "Piece" "digit").ok K,
  fun K => (He.Fa.noat "Piece" "chomp").ok K,
  fun K => (He.Fa.glo "Source").ok K,
  fun K => (He.Fa.cls "Source").ok K,
  fun K => (He.Fa.mkr "Source").ok K,
  fun K => (He.Fa.meth "Source" "at").ok K,
  fun K => (He.Fa.meth "Source" "past_blanks").ok K,
  fun K => (He.Fa.meth "Source" "is_begin").ok K,
  fun K => (He.Fa.meth "Source" "is_mark").ok K,
  fun K => (He.Fa.meth "Source" "miss").ok K,
  fun K => (He.Fa.meth "Source" "is_barred").ok K,
  fun K => (He.Fa.meth "Source" "indented").ok K,
  fun K => (He.Fa.meth "Source" "past_white").ok K,
  fun K => (He.Fa.meth "Source" "line_end").ok K,
  fun K => (He.Fa.meth "Source" "close").ok K,
  fun K => (He.Fa.meth "Source" "expected_mark").ok K,
  fun K => (He.Fa.noat "Source" "text").ok K,
  fun K => (He.Fa.noat "Source" "length").ok K,
  fun K => (He.Fa.noat "Source" "far").ok K,
  fun K => (He.Fa.glo "NoStyle").ok K,
  oexB "NoStyle",
  exCB "NoStyle",
  fun K => (He.Fa.noat "NoStyle" "part").ok K,
  initB "NoStyle",
  fun K => (He.Fa.exm "NoStyle" "NoStyle" true).ok K,
  kitB2 "NoStyle" (fun K => .ref (He.ga K "PageError")),
  kitB2 "NoStyle" (fun _ => .type "ValueError"),
  fun K => (He.Fa.glo "NoFit").ok K,
  fun K => (He.Fa.exc "NoFit").ok K,
  baseB "PageError",
  noDigB,
  fun K => (He.Fa.glo "is_text").ok K,
  fun K => (He.Fa.glo "is_from_to").ok K,
  fun K => (He.Fa.glo "is_sign").ok K,
  fun K => (He.Fa.glo "is_marked").ok K,
  fun K => (He.Fa.glo "blanks_ahead").ok K,
  fun K => (He.Fa.glo "words_of").ok K,
  fun K => (He.Fa.glo "signs_of").ok K,
  fun K => (He.Fa.glo "filled").ok K,
  fun K => (He.Fa.glo "parts_of").ok K,
  fun K => (He.Fa.glo "is_parted").ok K,
  fun K => (He.Fa.glo "block_text").ok K,
  fun K => (He.Fa.glo "flow_text").ok K,
  fun K => (He.Fa.glo "is_safe").ok K,
  fun K => (He.Fa.glo "stands_plain").ok K,
  fun K => (He.Fa.glo "fits_single").ok K,
  fun K => (He.Fa.glo "check_value").ok K,
  fun K => (He.Fa.glo "check_place").ok K,
  fun K => (He.Fa.glo "check_numbers").ok K,
  fun K => (He.Fa.glo "is_fitting").ok K,
  fun K => (He.Fa.glo "text_in").ok K,
  fun K => (He.Fa.glo "_law_digit").ok K,
  fun K => (He.Fa.glo "_law_one").ok K,
  fun K => (He.Fa.glo "is_next").ok K,
  fun K => (He.Fa.glo "is_first").ok K,
  fun K => (He.Fa.glo "row_end").ok K,
  fun K => (He.Fa.glo "plain_fold").ok K,
  fun K => (He.Fa.glo "quote_fold").ok K,
  fun K => (He.Fa.glo "folded_part").ok K,
  fun K => (He.Fa.glo "escaped").ok K,
  fun K => (He.Fa.glo "block_value").ok K,
  fun K => (He.Fa.glo "plain").ok K,
  fun K => (He.Fa.glo "quoted").ok K,
  fun K => (He.Fa.glo "_law_rows").ok K,
  fun K => (He.Fa.glo "written").ok K,
  fun K => (He.Fa.glo "_law_text").ok K,
  fun K => (He.Fa.glo "read_scalar").ok K,
  fun K => (He.Fa.glo "PageError").ok K,
  fun K => (He.Fa.glo "STYLES").ok K,
  fun K => (He.Fa.glo "WHITE").ok K,
  fun K => (He.Fa.glo "ONE_LINE").ok K,
  fun K => (He.Fa.glo "IN_BRACKETS").ok K,
  fun K => (He.Fa.glo "ON_A_LINE").ok K,
  fun K => (He.Fa.glo "law").ok K,
  fun K => (He.Fa.free "all").ok K,
  fun K => (He.Fa.free "str").ok K,
  fun K => (He.Fa.free "isinstance").ok K,
  fun K => (He.Fa.free "len").ok K,
  fun K => (He.Fa.free "bool").ok K,
  fun K => (He.Fa.free "int").ok K,
  fun K => (He.Fa.free "min").ok K,
  fun K => (He.Fa.free "range").ok K,
  fun K => (He.Fa.free "enumerate").ok K,
  fun K => (He.Fa.free "any").ok K,
  fun K => (He.Fa.free "max").ok K]
abbrev GT (P : Program) (w : World) (K : PySem.W.Frag) (mg : PySem.Str → Option Value) (base : Heap) (lv : Nat) (a : PySem.W.Frag → PySem.Addr) (p : List PySem.Str) (n : Nat) (F : FF) := FnG P w K mg base lv (a K) (fdOf K (a K)) p (spF K n F)
theorem tk {P : Program} {w : World} {K : PySem.W.Frag} {mg : PySem.Str → Option Value} {base : Heap} {n : List PySem.Str} {q : PySem.Str} {sc : Scope} {a : PySem.Addr} {cdv : Value} {A : Around} {outer : List PySem.Env} {s : Shared} {H : Hp} {E : XK} : Takes (cxOf (L2.CX P w) P w K mg base n q sc a cdv A outer s H E) (fun cls d _ H => E cls d H) := takes_of rfl rfl rfl rfl
end Ap
set_option maxHeartbeats 4000000
namespace Fx
open PySem PySem.Spec PyProof.Rows L2 SX Ap
def obsR (as : List Addr) (fn : List DefY) (ts : List He.Tab) (ex : Exs) (g : Addr → Option Obj) : AlY := obsK fn ts ex (He.frG g as)
def hookR (as : List Addr) (fn : List DefY) (ts : List He.Tab) (ex : Exs) : PySem.W.Hook where
  α := AlY
  obs := fun s => obsR as fn ts ex s.heap.get?
  val := fun w => valY fn ts w
  says := fun w h => ∃ K : PySem.W.Frag,K.In h ∧ Says fn ts ex w K
  of := fun _ _ e => ⟨_,He.frG_in,⟨congrArg (fun z : AlY => z.1) e,congrArg (fun z : AlY => z.2.1) e,congrArg (fun z : AlY => z.2.2) e⟩⟩
  keeps := fun _ _ _ ⟨K,hK,c⟩ k => ⟨K,PySem.W.Frag.In.keeps hK k,c⟩
theorem Zo1 {as : List Addr} {fn : List DefY} {ts : List He.Tab} {ex : Exs} {g : Addr → Option Obj} {s : Shared} (h : ∀ a,g a = s.heap.get? a) : obsR as fn ts ex g = (hookR as fn ts ex).obs s := by
  have e : g = s.heap.get? := funext h
  rw [e] <;> rfl
section
open HandSHeadRun PySem.W
end
end Fx
set_option maxHeartbeats 4000000
namespace Ap
open PySem PySem.W PySem.Calls PyProof.Rows
def nm0 : List PySem.Str := [PySem.Str.ofString "_wall", PySem.Str.ofString "PageError", PySem.Str.ofString "NoStyle", PySem.Str.ofString "NoFit", PySem.Str.ofString "Piece", PySem.Str.ofString "IN_BRACKETS", PySem.Str.ofString "ON_A_LINE", PySem.Str.ofString "BRACKETS", PySem.Str.ofString "is_safe", PySem.Str.ofString "Source", PySem.Str.ofString "NOT_FIRST", PySem.Str.ofString "MAYBE_FIRST", PySem.Str.ofString "ESCAPES", PySem.Str.ofString "is_first", PySem.Str.ofString "is_next", PySem.Str.ofString "row_end", PySem.Str.ofString "plain_fold", PySem.Str.ofString "plain", PySem.Str.ofString "quote_fold", PySem.Str.ofString "escaped", PySem.Str.ofString "folded_part", PySem.Str.ofString "quoted", PySem.Str.ofString "STYLES", PySem.Str.ofString "LETTERS", PySem.Str.ofString "BEHIND", PySem.Str.ofString "QUOTES", PySem.Str.ofString "HEADS", PySem.Str.ofString "ONE_LINE", PySem.Str.ofString "WHITE", PySem.Str.ofString "MOST_SIGNS", PySem.Str.ofString "MOST_INDENT", PySem.Str.ofString "MOST_WIDTH", PySem.Str.ofString "is_sign", PySem.Str.ofString "is_text", PySem.Str.ofString "is_from_to"]
def nm1 : List PySem.Str := [PySem.Str.ofString "check_value", PySem.Str.ofString "check_place", PySem.Str.ofString "check_numbers", PySem.Str.ofString "stands_plain", PySem.Str.ofString "fits_single", PySem.Str.ofString "is_fitting", PySem.Str.ofString "words_of", PySem.Str.ofString "is_marked", PySem.Str.ofString "filled", PySem.Str.ofString "blanks_ahead", PySem.Str.ofString "signs_of", PySem.Str.ofString "flow_text", PySem.Str.ofString "parts_of", PySem.Str.ofString "is_parted", PySem.Str.ofString "block_text", PySem.Str.ofString "text_in", PySem.Str.ofString "written", PySem.Str.ofString "block_value", PySem.Str.ofString "read_scalar", PySem.Str.ofString "_law_cell_at", PySem.Str.ofString "_law_digit", PySem.Str.ofString "_law_one", PySem.Str.ofString "_law_rows", PySem.Str.ofString "_law_text"]
def nms : List PySem.Str := nm0 ++ nm1
abbrev R5 : OpenRow := OpenLaw.row PySem.Challenge.rw_anchorpages_k26_whole_texts_of_folded_sc
def ads : List PySem.Addr := [3,1399,1398,1397,1396,1395,1394,1393,1392,1391,1390,1389,1388,1387,1386,1385,1384,1383,1382,1381,1380,1379,1378,1377,1376,1375,1374,1373,1372,1371,1370,1369,1368,1367,1366,1365,1364,1363,1362,1361,1360,1359,1358,1357,1356,1355,1354,1353,1352,1351,1350,1349,1348,1347,1346,1345,1344,1343,1342,1341,1340,1339,1338,1337,1336,1335,1334,1333,1332,1331,1330,1329,1328,1327,1326,1325,1324,1323,1322,1321,1320,1319,1318,1317,1316,1315,1314,1313,1312,1311,1310,1309,1308,1307,1306,1305,1304,1303,1302,1301,1300,1299,1298,1297,1296,1295,1294,1293,1292,1291,1290,1289,1288,1287,1286,1285,1284,1283,1282,1281,1280,1279,1278,1277,1276,1275,1274,1273,1272,1271,1270,1269,1268,1267,1266,1265,1264,1263,1262,1261,1260,1259,1258,1257,1256,1255,1254,1253,1252,1251,1250,1249,1248,1247,1246,1245,1244,1243,1242,1241,1240,1239,1238,1237,1236,1235,1234,1233,1232,1231,1230,1229,1228,1227,1226,1225,1224,1223,1222,1221,1220,1219,1218,1217,1216,1215,1214,1213,1212,1211,1210,1209,1208,1207,1206,1205,1204,1203,1202,1201,1200,1199,1198,1197,1196,1195,1194,1193,1192,1191,1190,1189,1188,1187,1186,1185,1184,1183,1182,1181,1180,1179,1178,1177,1176,1175,1174,1173,1172,1171,1170,1169,1168,1167,1166,1165,1164,1163,1162,1161,1160,1159,1158,1157,1156,1155,1154,1153,1152,1151,1150,1149,1148,1147,1146,1145,1144,1143,1142,1141,1140,1139,1138,1137,1136,1135,1134,1133,1132,1131,1130,1129,1128,1127,1126,1125,1124,1123,1122,1121,1120,1119,1118,1117,1116,1115,1114,1113,1112,1111,1110,1109,1108,1107,1106,1105,1104,1103,1102,1101,1100,1099,1098,1097,1096,1095,1094,1093,1092,1091,1090,1089,1088,1087,1086,1085,1084,1083,1082,1081,1080,1079,1078,1077,1076,1075,1074,1073,1072,1071,1070,1069,1068,1067,1066,1065,1064,1063,1062,1061,1060,1059,1058,1057,1056,1055,1054,1053,1052,1051,1050,1049,1048,1047,1046,1045,1044,1043,1042,1041,1040,1039,1038,1037,1036,1035,1034,1033,1032,1031,1030,1029,1028,1027,1026,1025,1024,1023,1022,1021,1020,1019,1018,1017,1016,1015,1014,1013,1012,1011,1010,1009,1008,1007,1006,1005,1004,1003,1002,1001,1000,999,998,997,996,995,994,993,992,991,990,989,988,987,986,985,984,983,982,981,980,979,978,977,976,975,974,973,972,971,970,969,968,967,966,965,964,963,962,961,960,959,958,957,956,955,954,953,952,951,950,949,948,947,946,945,944,943,942,941,940,939,938,937,936,935,934,933,932,931,930,929,928,927,926,925,924,923,922,921,920,919,918,917,916,915,914,913,912,911,910,909,908,907,906,905,904,903,902,901,900,899,898,897,896,895,894,893,892,891,890,889,888,887,886,885,884,883,882,881,880,879,878,877,876,875,874,873,872,871,870,869,868,867,866,865,864,863,862,861,860,859,858,857,856,855,854,853,852,851,850,849,848,847,846,845,844,843,842,841,840,839,838,837,836,835,834,833,832,831,830,829,828,827,826,825,824,823,822,821,820,819,818,817,816,815,814,813,812,811,810,809,808,807,806,805,804,803,802,801,800,799,798,797,796,795,794,793,792,791,790,789,788,787,786,785,784,783,782,781,780,779,778,777,776,775,774,773,772,771,770,769,768,767,766,765,764,763,762,761,760,759,758,757,756,755,754,753,752,751,750,749,748,747,746,745,744,743,742,741,740,739,738,737,736,735,734,733,732,731,730,729,728,727,726,725,724,723,722,721,720,719,718,717,716,715,714,713,712,711,710,709,708,707,706,705,704,703,702,701,700,699,698,697,696,695,694,693,692,691,690,689,688,687,686,685,684,683,682,681,680,679,678,677,676,675,674,673,672,671,670,669,668,667,666,665,664,663,662,661,660,659,658,657,656,655,654,653,652,651,650,649,648,647,646,645,644,643,642,641,640,639,638,637,636,635,634,633,632,631,630,629,628,627,626,625,624,623,622,621,620,619,618,617,616,615,614,613,612,611,610,609,608,607,606,605,604,603,602,601,600,599,598,597,596,595,594,593,592,591,590,589,588,587,586,585,584,583,582,581,580,579,578,577,576,575,574,573,572,571,570,569,568,567,566,565,564,563,562,561,560,559,558,557,556,555,554,553,552,551,550,549,548,547,546,545,544,543,542,541,540,539,538,537,536,535,534,533,532,531,530,529,528,527,526,525,524,523,522,521,520,519,518,517,516,515,514,513,512,511,510,509,508,507,506,505,504,503,502,501,500,499,498,497,496,495,494,493,492,491,490,489,488,487,486,485,484,483,482,481,480,479,478,477,476,475,474,473,472,471,470,469,468,467,466,465,464,463,462,461,460,459,458,457,456,455,454,453,452,451,450,449,448,447,446,445,444,443,442,441,440,439,438,437,436,435,434,433,432,431,430,429,428,427,426,425,424,423,422,421,420,419,418,417,416,415,414,413,412,411,410,409,408,407,406,405,404,403,402,401,400,399,398,397,396,395,394,393,392,391,390,389,388,387,386,385,384,383,382,381,380,379,378,377,376,375,374,373,372,371,370,369,368,367,366,365,364,363,362,361,360,359,358,357,356,355,354,353,352,351,350,349,348,347,346,345,344,343,342,341,340,339,338,337,336,335,334,333,332,331,330,329,328,327,326,325,324,323,322,321,320,319,318,317,316,315,314,313,312,311,310,309,308,307,306,305,304,303,302,301,300,299,298,297,296,295,294,293,292,291,290,289,288,287,286,285,284,283,282,281,280,279,278,277,276,275,274,273,272,271,270,269,268,267,266,265,264,263,262,261,260,259,258,257,256,255,254,253,252,251,250,249,248,247,246,245,244,243,242,241,240,239,238,237,236,235,234,233,232,231,230,229,228,227,226,225,224,223,222,221,220,219,218,217,216,215,214,213,212,211,210,209,208,207,206,205,204,203,202,201,200,199,198,197,196,195,194,193,192,191,190,189,188,187,186,185,184,183,182,181,180,179,178,177,176,175,174,173,172,171,170,169,168,167,166,165,164,163,162,161,160,159,158,157,156,155,154,153,152,151,150,149,148,147,146,145,144,143,142,141,140,139,138,137,136,135,134,133,132,131,130,129,128,127,126,125,124,123,122,121,120,119,118,117,116,115,114,113,112,111,110,109,108,107,106,105,104,103,102,101,100,99,98,97,96,95,94,93,92,91,90,89,88,87,86,85,84,83,82,81,80,79,78,77,76,75,74,73,72,71,70,69,68,67,66,65,64,63,62,61,60,59,58,57,56,55,54,53,52,51,50,49,48,47,46,45,44,43,42,41,40,39,38,37,36,35,34,33,32,31,30,29,28,27,26,25,24,23,22,21,20,19,18,17,16,15,14,13,12,11,10,9,8,7,6,5,4,2,1,0]
abbrev hk5 : PySem.W.Hook := Fx.hookR ads fns tabs exs
def ob5 (s : PySem.W.SharedT) : Fx.AlY := Fx.obsR ads fns tabs exs (HandSHeadRun.getT s)
theorem Zpl (s : PySem.W.SharedT) : ob5 s = hk5.obs s.abs := Fx.Zo1 (HandSHeadRun.getT_eq s)
theorem run0 (w : World) : HandSHeadRun.RunEq R5 (view R5.prog [65]) hk5 ob5 7960 nms (w.withFollow "special-get-raises" false) := by
  intro os
  kernel_rfl
theorem run1 (w : World) : HandSHeadRun.RunEq R5 (view R5.prog [65]) hk5 ob5 7960 nms (w.withFollow "special-get-raises" true) := by
  intro os
  kernel_rfl
theorem run5 (w : World) : HandSHeadRun.RunEq R5 (view R5.prog [65]) hk5 ob5 7960 nms w := byRow2 "special-get-raises" (P := fun w => HandSHeadRun.RunEq R5 (view R5.prog [65]) hk5 ob5 7960 nms w) run0 run1 w
end Ap
set_option maxHeartbeats 4000000
namespace Fx
open PySem PySem.Spec PyProof.Rows L2 SX
variable [Tb]
def gMax3 : List T → Sto → Option (T × Sto)
  | [.int a,.int b,.int c],Z => some (.int (max (max a b) c),Z)
  | _,_ => none
theorem Zpm (a b c : Int) : nuMax3 (.int a) (.int b) (.int c) = some (.int (max (max a b) c)) := by
  have e : ∀ i j : Int,nuMax2 (.int i) (.int j) = some (.int (max i j)) := fun i j => by
    show (nuLt (.int i) (.int j)).map _ = _
    have : nuLt (.int i) (.int j) = some (decide (i < j)) := rfl
    rw [this]
    by_cases h : i < j
    · rw [decide_eq_true h]
      show some (V.int j) = _
      rw [Int.max_eq_right (by omega)]
    · rw [decide_eq_false h]
      show some (V.int i) = _
      rw [Int.max_eq_left (by omega)]
  show (nuMax2 (.int a) (.int b)).bind _ = _
  rw [e]
  exact e _ _
theorem Zpn {X : Cx} {K : PySem.W.Frag} (hK : X.K = K) (hc : X.calm = true) : CallR X (.builtin "max") (rFC K gMax3) := by
  subst hK
  refine Q4 (call_max3Nu hc) fun xs H Q h => ?_
  obtain ⟨ι,Z,ts,s,r,p⟩ := h
  unfold gMax3 at p
  split at p
  · cases r with
    | cons r1 rr =>
      obtain ⟨v,w,rfl,r2,r3⟩ := rr.two
      cases r1
      cases r2
      cases r3
      exact ⟨_,_,_,_,rfl,Zpm _ _ _,Yl p s (.int _)⟩
  · exact p.elim
@[simp] theorem max3_i (a b c : Int) (Z : Sto) : gMax3 [.int a,.int b,.int c] Z = some (.int (max (max a b) c),Z) := (rfl)
end Fx
set_option maxHeartbeats 4000000
namespace Fx
open PySem PySem.Spec PyProof.Rows L2 SX Ap
variable [Tb]
section
variable {P : Program} {w : World} {K : PySem.W.Frag} {mg : PySem.Str → Option Value} {base : Heap}
theorem Zlx {x qual : PySem.Str} {st : Stmt} {f : Addr} {fd : FuncData} (F : FunD K x qual (defArgs st) (defBody st) (defScope st) [] [] f fd) : L2.Fun K x qual st f fd := by
  obtain ⟨⟨oc,od,dV,kV,doc,pm,an,cdv,ct,osl,e,lk,hcd,hd,_⟩,kp⟩ := F
  have : dV = .none := by
    rcases hd with ⟨_,h⟩ | ⟨h,_⟩
    · exact h
    · exact (h rfl).elim
  subst this
  exact ⟨⟨oc,od,kV,doc,pm,an,cdv,ct,osl,e,lk,hcd⟩,kp⟩
def repC (c : Nat) (z l : List Nat) : List Nat := l.flatMap fun d => if d = c then z else [d]
def sgnL (y w : List Nat) : List Nat := if y = [115,105,110,103,108,101] then repC 39 [39,39] w else if y = [100,111,117,98,108,101] then repC 10 [92,110] (repC 34 [92,34] (repC 92 [92,92] w)) else w
def sgnF : FF := fun ts Z => match ts with
  | [.str w,.str y] => if w.length ≤ 10000 then .ok (.str (sgnL y w)) Z else .stuck
  | _ => .stuck
theorem Zd8 {c : Nat} {z : List Nat} (hz : z.length ≤ 2) : ∀ l : List Nat,(repC c z l).length ≤ 2 * l.length
  | [] => Nat.le_refl _
  | a :: l => by
    have := Zd8 hz l (c := c)
    unfold repC at *
    rw [List.flatMap_cons,List.length_append,List.length_cons]
    have : (if a = c then z else [a]).length ≤ 2 := by
      split
      · exact hz
      · exact (by decide : 1 ≤ 2)
    omega
def spSgn : Sp := fun vs H Q _ => ∃ w y : List Nat, vs = [.str (S w), .str (S y)] ∧ w.length ≤ 10000 ∧ ∀ H', Same H H' → Q (.str (S (sgnL y w))) H'
theorem Zpo {f : Addr} {fd : FuncData} {ps : List PySem.Str} {k : Nat} (G : FnOk P w K mg base CX0 k f fd ps spSgn) : FnG P w K mg base k f fd ps (spF K 2 sgnF) :=
  Zp8 G fun vs H Q E h => by
    obtain ⟨hl,ι,Z,ts,s,r,p⟩ := h
    match ts,r,p with
    | [.str w,.str y],.cons (.str _) (.cons (.str _) .nil),p =>
      by_cases hw : w.length ≤ 10000
      · have e : sgnF [.str w,.str y] Z = .ok (.str (sgnL y w)) Z := if_pos hw
        rw [e] at p
        exact ⟨w, y, rfl, hw, fun H' sm => p ι H' _ (Gr.same sm) (s.same sm) (.str _)⟩
      · have e : sgnF [.str w,.str y] Z = .stuck := if_neg hw
        rw [e] at p; exact p.elim
end
def tKdIn (l : List (List Nat × T)) (neg : Bool) (fb : FE) : FT := fun ρ Z => (fb ρ Z).bind fun y Z1 => match kdHas l y with
  | some c => .ok (c != neg) Z1
  | none => .stuck
section
variable {X : Cx} {K : PySem.W.Frag} {W : Wc} {b : Expr} {fb : FE} {pos p : Pos} {x : PySem.Str} {l : List (List Nat × T)}
theorem Zk1 (hK : X.K = K) (hg : Gl X x) (hm : GDk X.K X.w X.mg x l) (hb : FJ X K W b fb) (hm2 : behindInMarks .In (.Name x p) = false := by rfl) (hdb : (x == ("__debug__" : PySem.Str)) = false := by decide) : FTJ X K W (.Compare b [.In] [.Name x p] pos) (tKdIn l false fb) := by
  subst hK
  obtain ⟨a,es,n,hx,D,hv,hn⟩ := hm
  refine Zbu (pt_cmpR (op_in_kd D) hb (pe_glob (v := .ref a) hg hx rfl hdb) hm2) fun σ H Q h => ?_
  obtain ⟨ι,ρ,Z,is,q⟩ := h
  refine ⟨ι,ρ,Z,is,(Zu q).imp fun y H1 q1 => ?_⟩
  obtain ⟨ι1,Z1,ty,g1,s1,r1,p1⟩ := q1
  split at p1
  · rename_i c e
    obtain ⟨z,o,rfl,ho,hc⟩ := kd_in hv hn r1 e
    refine ⟨z,o,rfl,rfl,ho,?_⟩
    rw [hc]
    exact ⟨_,rfl,by have := p1 ι1 H1 (c != false) Gr.refl s1 rfl; simpa using this⟩
  · exact p1.elim
theorem Zc4 (hK : X.K = K) (hg : Gl X x) (hm : GDk X.K X.w X.mg x l) (hb : FJ X K W b fb) (hm2 : behindInMarks .NotIn (.Name x p) = false := by rfl) (hdb : (x == ("__debug__" : PySem.Str)) = false := by decide) : FTJ X K W (.Compare b [.NotIn] [.Name x p] pos) (tKdIn l true fb) := by
  subst hK
  obtain ⟨a,es,n,hx,D,hv,hn⟩ := hm
  refine Zbu (pt_cmpR (op_notIn_kd D) hb (pe_glob (v := .ref a) hg hx rfl hdb) hm2) fun σ H Q h => ?_
  obtain ⟨ι,ρ,Z,is,q⟩ := h
  refine ⟨ι,ρ,Z,is,(Zu q).imp fun y H1 q1 => ?_⟩
  obtain ⟨ι1,Z1,ty,g1,s1,r1,p1⟩ := q1
  split at p1
  · rename_i c e
    obtain ⟨z,o,rfl,ho,hc⟩ := kd_in hv hn r1 e
    refine ⟨z,o,rfl,rfl,ho,?_⟩
    rw [hc]
    exact ⟨_,rfl,by have := p1 ι1 H1 (c != true) Gr.refl s1 rfl; simpa using this⟩
  · exact p1.elim
end
end Fx
set_option maxHeartbeats 4000000
namespace Fx
open PySem PySem.Spec PyProof.Rows L2 SX Ap
def rngOf (xs : List T) (Z1 : Sto) : R ItF := match xs with
  | [.int j] => if -(2 ^ 62) ≤ j ∧ j < 2 ^ 62 then .ok (itRng 0 j.toNat) Z1 else .stuck
  | [.int i,.int j] => if -(2 ^ 62) ≤ i ∧ i < 2 ^ 62 ∧ -(2 ^ 62) ≤ j ∧ j < 2 ^ 62 then .ok (itRng i (j - i).toNat) Z1 else .stuck
  | _ => .stuck
theorem rng1 {j : Int} {Z : Sto} (h1 : -1000000 ≤ j) (h2 : j ≤ 1000000) : rngOf [.int j] Z = .ok (itRng 0 j.toNat) Z := if_pos ⟨by omega,by omega⟩
theorem rngN {n : Nat} {Z : Sto} (h : n ≤ Lim) : rngOf [.int (n : Int)] Z = .ok (itRng 0 n) Z := by
  have h' : n ≤ 1000000 := h
  rw [rng1 (by omega) (by omega)]; rfl
section
variable (ρ : Env) (Z : Sto)
@[simp] theorem q_eC (t : T) : eC t ρ Z = .ok t Z := (rfl)
@[simp] theorem q_var0 (t : T) : eVar 0 (some t :: ρ) Z = .ok t Z := (rfl)
@[simp] theorem q_varS (i : Nat) (o : Option T) : eVar (i + 1) (o :: ρ) Z = eVar i ρ Z := (rfl)
@[simp] theorem q_var1 (o : Option T) : eVar 1 (o :: ρ) Z = eVar 0 ρ Z := (rfl)
@[simp] theorem q_var2 (o : Option T) : eVar 2 (o :: ρ) Z = eVar 1 ρ Z := (rfl)
@[simp] theorem q_var3 (o : Option T) : eVar 3 (o :: ρ) Z = eVar 2 ρ Z := (rfl)
@[simp] theorem q_var4 (o : Option T) : eVar 4 (o :: ρ) Z = eVar 3 ρ Z := (rfl)
@[simp] theorem q_var5 (o : Option T) : eVar 5 (o :: ρ) Z = eVar 4 ρ Z := (rfl)
@[simp] theorem q_var6 (o : Option T) : eVar 6 (o :: ρ) Z = eVar 5 ρ Z := (rfl)
@[simp] theorem q_var7 (o : Option T) : eVar 7 (o :: ρ) Z = eVar 6 ρ Z := (rfl)
@[simp] theorem q_var8 (o : Option T) : eVar 8 (o :: ρ) Z = eVar 7 ρ Z := (rfl)
@[simp] theorem q_var9 (o : Option T) : eVar 9 (o :: ρ) Z = eVar 8 ρ Z := (rfl)
@[simp] theorem q_var10 (o : Option T) : eVar 10 (o :: ρ) Z = eVar 9 ρ Z := (rfl)
@[simp] theorem q_var11 (o : Option T) : eVar 11 (o :: ρ) Z = eVar 10 ρ Z := (rfl)
@[simp] theorem q_var12 (o : Option T) : eVar 12 (o :: ρ) Z = eVar 11 ρ Z := (rfl)
@[simp] theorem q_var13 (o : Option T) : eVar 13 (o :: ρ) Z = eVar 12 ρ Z := (rfl)
@[simp] theorem q_var14 (o : Option T) : eVar 14 (o :: ρ) Z = eVar 13 ρ Z := (rfl)
@[simp] theorem q_bin (g : T → T → Sto → Option (T × Sto)) (a b : FE) : eBin g a b ρ Z = (a ρ Z).bind fun x Z1 => (b ρ Z1).bind fun y Z2 => lift (g x y Z2) := (rfl)
@[simp] theorem q_un (g : T → Sto → Option (T × Sto)) (a : FE) : eUn g a ρ Z = (a ρ Z).bind fun x Z1 => lift (g x Z1) := (rfl)
@[simp] theorem q_if (c : FT) (a b : FE) : eIf c a b ρ Z = (c ρ Z).bind fun x Z1 => if x = true then a ρ Z1 else b ρ Z1 := (rfl)
@[simp] theorem q_nil : aNil ρ Z = .ok [] Z := (rfl)
@[simp] theorem q_cons (a : FE) (r : FA) : aCons a r ρ Z = (a ρ Z).bind fun x Z1 => (r ρ Z1).bind fun xs Z2 => .ok (x :: xs) Z2 := (rfl)
@[simp] theorem q_tru (f : FE) : eTru f ρ Z = (f ρ Z).bind fun x Z1 => match truth x Z1 with | some b => .ok b Z1 | none => .stuck := (rfl)
@[simp] theorem q_tAnd (a b : FT) : Fx.tAnd a b ρ Z = (a ρ Z).bind fun x Z1 => if x = true then b ρ Z1 else .ok false Z1 := (rfl)
@[simp] theorem q_tOr (a b : FT) : Fx.tOr a b ρ Z = (a ρ Z).bind fun x Z1 => if x = true then .ok true Z1 else b ρ Z1 := (rfl)
@[simp] theorem q_tNot (a : FT) : Fx.tNot a ρ Z = (a ρ Z).bind fun x Z1 => .ok (!x) Z1 := (rfl)
@[simp] theorem q_and (a b : FE) : eAnd a b ρ Z = (a ρ Z).bind fun x Z1 => match truth x Z1 with | some true => b ρ Z1 | some false => .ok x Z1 | none => .stuck := (rfl)
@[simp] theorem q_or (a b : FE) : eOr a b ρ Z = (a ρ Z).bind fun x Z1 => match truth x Z1 with | some true => .ok x Z1 | some false => b ρ Z1 | none => .stuck := (rfl)
@[simp] theorem q_not (a : FE) : eNot a ρ Z = (a ρ Z).bind fun x Z1 => match truth x Z1 with | some b => .ok (.bl (!b)) Z1 | none => .stuck := (rfl)
@[simp] theorem q_bl (f : FE) : eBl f ρ Z = (f ρ Z).bind fun x Z1 => match x with | .bl b => .ok b Z1 | _ => .stuck := (rfl)
@[simp] theorem q_chain (g g' : T → T → Sto → Option (T × Sto)) (a b c : FE) : eChain g g' a b c ρ Z = (a ρ Z).bind fun x Z1 => (b ρ Z1).bind fun y Z2 => (lift (g x y Z2)).bind fun z Z3 => match z with | .bl true => (c ρ Z3).bind fun w Z4 => lift (g' y w Z4) | .bl false => .ok (.bl false) Z3 | _ => .stuck := (rfl)
@[simp] theorem q_oNone : oNone ρ Z = .ok none Z := (rfl)
@[simp] theorem q_oSome (f : FE) : oSome f ρ Z = (f ρ Z).bind fun x Z1 => match x with | .int i => .ok (some i) Z1 | _ => .stuck := (rfl)
@[simp] theorem q_sl (f : FE) (lo hi : FO) : eSl f lo hi ρ Z = (f ρ Z).bind fun x Z1 => (lo ρ Z1).bind fun l Z2 => (hi ρ Z2).bind fun h Z3 => lift (gSl x l h Z3) := (rfl)
@[simp] theorem q_tup (f : FA) : eTup f ρ Z = (f ρ Z).bind fun xs Z1 => .ok (.tup xs) Z1 := (rfl)
@[simp] theorem q_lst (f : FA) : eLst f ρ Z = (f ρ Z).bind fun xs Z1 => .ok (.loc Z1.length) (Z1 ++ [.lst xs]) := (rfl)
@[simp] theorem q_call (F : FF) (ds : List T) (fa : FA) : eCall F ds fa ρ Z = (fa ρ Z).bind fun ts Z1 => F (ts ++ ds) Z1 := (rfl)
@[simp] theorem q_callB (g : List T → Sto → Option (T × Sto)) (fa : FA) : eCallB g fa ρ Z = (fa ρ Z).bind fun xs Z1 => lift (g xs Z1) := (rfl)
@[simp] theorem q_bm (n : String) (g : T → List T → Sto → Option (T × Sto)) (fo : FE) (fa : FA) : eBM n g fo fa ρ Z = (fo ρ Z).bind fun x Z1 => if isTy n x Z1 = true then (fa ρ Z1).bind fun xs Z2 => lift (g x xs Z2) else .stuck := (rfl)
@[simp] theorem q_dict0 : eDict0 ρ Z = .ok (.loc Z.length) (Z ++ [.dk []]) := (rfl)
@[simp] theorem q_yes : eYes ρ Z = .ok true Z := (rfl)
@[simp] theorem Zpp (i : Nat) (f : FE) : sSet i f ρ Z = bS ρ (f ρ Z) fun x Z1 => .nx (ρ.set i (some x)) Z1 := (rfl)
@[simp] theorem q_ret (f : FE) : sRet f ρ Z = bS ρ (f ρ Z) fun x Z1 => .rt x Z1 := (rfl)
@[simp] theorem q_retN : sRetN ρ Z = .rt .non Z := (rfl)
@[simp] theorem q_drop (f : FE) : sDrop f ρ Z = bS ρ (f ρ Z) fun _ Z1 => .nx ρ Z1 := (rfl)
@[simp] theorem q_pass : sPass ρ Z = .nx ρ Z := (rfl)
@[simp] theorem q_brk : sBrk ρ Z = .bk ρ Z := (rfl)
@[simp] theorem q_cnt : sCnt ρ Z = .ct ρ Z := (rfl)
@[simp] theorem q_sIf (c : FT) (a b : FS) : sIf c a b ρ Z = bS ρ (c ρ Z) fun x Z1 => if x = true then a ρ Z1 else b ρ Z1 := (rfl)
@[simp] theorem q_bCons (a b : FS) : bCons a b ρ Z = seqS (a ρ Z) b := (rfl)
@[simp] theorem q_par (ix : List Nat) (f : FA) : sPar ix f ρ Z = bS ρ (f ρ Z) fun xs Z1 => .nx ((ix.zip xs).foldl (fun r p => r.set p.1 (some p.2)) ρ) Z1 := (rfl)
@[simp] theorem q_asg (f : FE) (g : FG) : sAsg f g ρ Z = bS ρ (f ρ Z) fun x Z1 => bS ρ (g x ρ Z1) fun ρ2 Z2 => .nx ρ2 Z2 := (rfl)
@[simp] theorem Zk2 (i : Nat) (t : T) : gNm i t ρ Z = .ok (ρ.set i (some t)) Z := (rfl)
@[simp] theorem q_gsNil : gsNil [] ρ Z = .ok ρ Z := (rfl)
@[simp] theorem q_gsCons (g : FG) (r : FGs) (t : T) (ts : List T) : gsCons g r (t :: ts) ρ Z = (noX (g t ρ Z)).bind fun ρ1 Z1 => noX (r ts ρ1 Z1) := (rfl)
@[simp] theorem q_gTp (n : Nat) (r : FGs) (ts : List T) : gTp n r (.tup ts) ρ Z = if ts.length = n then r ts ρ Z else .stuck := (rfl)
@[simp] theorem q_gSubs (fo fi : FE) (t : T) : gSubs fo fi t ρ Z = (fo ρ Z).bind fun o Z1 => (fi ρ Z1).bind fun i Z2 => match gSetL o i t Z2 with | some Z3 => .ok ρ Z3 | none => .stuck := (rfl)
@[simp] theorem Zd9 (it : FI) (g : FG) (b : FS) : sFor it g b ρ Z = bS ρ (it ρ Z) fun j Z1 => loopN j (fun t ρ' Z' => bS ρ' (g t ρ' Z') b) Fuel 0 ρ Z1 := (rfl)
@[simp] theorem q_raise (nm f : PySem.Str) (ds : List T) (fa : FA) : sRaise nm f ds fa ρ Z = bS ρ (fa ρ Z) fun ts Z1 => match ts ++ ds with | [t] => .exc ⟨nm,[(f,t)]⟩ ρ Z1 | _ => .stuck := (rfl)
@[simp] theorem q_iAny (f : FE) : iAny f ρ Z = (f ρ Z).bind fun x Z1 => match x with | .frl ts => .ok (itSeq ts) Z1 | .loc i => (match getL Z1 i with | some _ => .ok (itLoc i) Z1 | none => .stuck) | .tup ts => .ok (itSeq ts) Z1 | .str l => .ok (itStr l) Z1 | _ => .stuck := (rfl)
@[simp] theorem q_iEnmA (f : FA) : iEnmA f ρ Z = (f ρ Z).bind fun xs Z1 => match xs with | [.frl ts] => .ok (itEnum (itSeq ts)) Z1 | [.loc i] => (match getL Z1 i with | some _ => .ok (itEnum (itLoc i)) Z1 | none => .stuck) | [.tup ts] => .ok (itEnum (itSeqX ts)) Z1 | [.str l] => .ok (itEnum (itStrX l)) Z1 | _ => .stuck := (rfl)
@[simp] theorem q_iRng (f : FA) : iRng f ρ Z = (f ρ Z).bind fun xs Z1 => rngOf xs Z1 := (rfl)
@[simp] theorem q_lc (vs js : List Nat) (it : FI) (c : FT) (e : FE) : eLc vs js it c e ρ Z = (it ρ Z).bind fun j Z1 => loopC j Z1.length (fun t => putN js t (wipeR ρ vs)) c e Fuel 0 (Z1 ++ [.lst []]) := (rfl)
@[simp] theorem q_xf (y : Ex) (f : PySem.Str) : eXf y f ρ Z = match y.fs.lookup f with | some t => .ok t Z | none => .stuck := (rfl)
end
@[simp] theorem Zex {α : Type} (a : α) (Z : Sto) : noX (.ok a Z) = .ok a Z := (rfl)
@[simp] theorem t_bl (b : Bool) (Z : Sto) : truth (.bl b) Z = some b := (rfl)
@[simp] theorem t_int (i : Int) (Z : Sto) : truth (.int i) Z = some (i != 0) := (rfl)
@[simp] theorem t_non (Z : Sto) : truth .non Z = some false := (rfl)
@[simp] theorem t_tup (ts : List T) (Z : Sto) : truth (.tup ts) Z = some (!ts.isEmpty) := (rfl)
@[simp] theorem add_ii (i j : Int) (Z : Sto) : gAdd (.int i) (.int j) Z = some (.int (i + j),Z) := (rfl)
@[simp] theorem Z3g (a b : List Nat) (Z : Sto) : gAdd (.str a) (.str b) Z = if a.length + b.length ≤ Lim then some (.str (a ++ b),Z) else none := (rfl)
@[simp] theorem add_tt (a b : List T) (Z : Sto) : gAdd (.tup a) (.tup b) Z = if a.length + b.length ≤ Lim then some (.tup (a ++ b),Z) else none := (rfl)
@[simp] theorem Zk3 (i j : Nat) (Z : Sto) : gAdd (.loc i) (.loc j) Z = match getL Z i,getL Z j with | some a,some b => if a.length + b.length ≤ Lim then some (.loc Z.length,Z ++ [.lst (a ++ b)]) else none | _,_ => none := (rfl)
@[simp] theorem iadd_ii (i j : Int) (Z : Sto) : gIAdd (.int i) (.int j) Z = some (.int (i + j),Z) := (rfl)
@[simp] theorem Zda (a b : List Nat) (Z : Sto) : gIAdd (.str a) (.str b) Z = if a.length + b.length ≤ Lim then some (.str (a ++ b),Z) else none := (rfl)
@[simp] theorem sub_ii (i j : Int) (Z : Sto) : gSub (.int i) (.int j) Z = some (.int (i - j),Z) := (rfl)
@[simp] theorem mul_ii (i j : Int) (Z : Sto) : gMul (.int i) (.int j) Z = if mulOk i j = true then some (.int (i * j),Z) else none := (rfl)
@[simp] theorem Qa (l : List Nat) (k : Int) (Z : Sto) : gMul (.str l) (.int k) Z = if -100000 ≤ k ∧ k ≤ 100000 ∧ l.length * k.toNat ≤ 100000 then some (.str (repL k.toNat l),Z) else none := (rfl)
@[simp] theorem Zn4 (i : Nat) (k : Int) (Z : Sto) : gMul (.loc i) (.int k) Z = match getL Z i with | some a => if -100000 ≤ k ∧ k ≤ 100000 ∧ a.length * k.toNat ≤ Lim then some (.loc Z.length,Z ++ [.lst (List.replicate k.toNat a).flatten]) else none | _ => none := (rfl)
@[simp] theorem div_ii (i j : Int) (Z : Sto) : gDiv (.int i) (.int j) Z = if 0 < j ∧ j < 2 ^ 200 then some (.int (i / j),Z) else none := (rfl)
@[simp] theorem mod_ii (i j : Int) (Z : Sto) : gMod (.int i) (.int j) Z = if 0 < j then some (.int (i % j),Z) else none := (rfl)
@[simp] theorem pow_ii (i j : Int) (Z : Sto) : gPow (.int i) (.int j) Z = if 0 ≤ j ∧ j ≤ 1000000 ∧ i.natAbs < 2 ^ 64 then some (.int (i ^ j.toNat),Z) else none := (rfl)
@[simp] theorem neg_i (i : Int) (Z : Sto) : gNeg (.int i) Z = some (.int (-i),Z) := (rfl)
@[simp] theorem eq_ii (i j : Int) (Z : Sto) : gEq (.int i) (.int j) Z = some (.bl (decide (i = j)),Z) := (rfl)
@[simp] theorem eq_ss (i j : List Nat) (Z : Sto) : gEq (.str i) (.str j) Z = some (.bl (decide (i = j)),Z) := (rfl)
@[simp] theorem eq_bb (i j : Bool) (Z : Sto) : gEq (.bl i) (.bl j) Z = some (.bl (decide (i = j)),Z) := (rfl)
@[simp] theorem ne_ii (i j : Int) (Z : Sto) : gNe (.int i) (.int j) Z = some (.bl (!decide (i = j)),Z) := (rfl)
@[simp] theorem ne_ss (i j : List Nat) (Z : Sto) : gNe (.str i) (.str j) Z = some (.bl (!decide (i = j)),Z) := (rfl)
@[simp] theorem ne_bb (i j : Bool) (Z : Sto) : gNe (.bl i) (.bl j) Z = some (.bl (!decide (i = j)),Z) := (rfl)
@[simp] theorem lt_ii (i j : Int) (Z : Sto) : gLt (.int i) (.int j) Z = some (.bl (decide (i < j)),Z) := (rfl)
@[simp] theorem lt_ss (i j : List Nat) (Z : Sto) : gLt (.str i) (.str j) Z = some (.bl (decide (i < j)),Z) := (rfl)
@[simp] theorem le_ii (i j : Int) (Z : Sto) : gLe (.int i) (.int j) Z = some (.bl (decide (i ≤ j)),Z) := (rfl)
@[simp] theorem gt_ii (i j : Int) (Z : Sto) : gGt (.int i) (.int j) Z = some (.bl (decide (j < i)),Z) := (rfl)
@[simp] theorem ge_ii (i j : Int) (Z : Sto) : gGe (.int i) (.int j) Z = some (.bl (decide (j ≤ i)),Z) := (rfl)
@[simp] theorem is_n (x : T) (Z : Sto) : gIs x .non Z = some (.bl (isNon x),Z) := by cases x <;> rfl
@[simp] theorem isNot_n (x : T) (Z : Sto) : gIsNot x .non Z = some (.bl (!isNon x),Z) := by cases x <;> rfl
@[simp] theorem ix_tup (ts : List T) (i : Int) (Z : Sto) : gIx (.tup ts) (.int i) Z = (atI ts i).map fun t => (t,Z) := (rfl)
@[simp] theorem ix_frl (ts : List T) (i : Int) (Z : Sto) : gIx (.frl ts) (.int i) Z = (atI ts i).map fun t => (t,Z) := (rfl)
@[simp] theorem Zpq (n : Nat) (i : Int) (Z : Sto) : gIx (.loc n) (.int i) Z = match getL Z n with | some ts => (atI ts i).map fun t => (t,Z) | none => none := by
  simp only [gIx,asSeq,asList,getL]
  all_goals (cases Z[n]? with
    | none => rfl
    | some o => cases o <;> rfl)
@[simp] theorem ix_str (l : List Nat) (i : Int) (Z : Sto) : gIx (.str l) (.int i) Z = if l.length ≤ Lim then (atI l i).map fun c => (.str [c],Z) else none := (rfl)
@[simp] theorem sl_s (l : List Nat) (lo hi : Option Int) (Z : Sto) : gSl (.str l) lo hi Z = if l.length ≤ Lim then some (.str (cutL l lo hi),Z) else none := (rfl)
@[simp] theorem sl_t (l : List T) (lo hi : Option Int) (Z : Sto) : gSl (.tup l) lo hi Z = some (.tup (cutL l lo hi),Z) := (rfl)
@[simp] theorem sl_f (l : List T) (lo hi : Option Int) (Z : Sto) : gSl (.frl l) lo hi Z = some (.loc Z.length,Z ++ [.lst (cutL l lo hi)]) := (rfl)
@[simp] theorem sl_l (n : Nat) (lo hi : Option Int) (Z : Sto) : gSl (.loc n) lo hi Z = match getL Z n with | some ts => some (.loc Z.length,Z ++ [.lst (cutL ts lo hi)]) | none => none := by
  simp only [gSl,asList,getL]
  all_goals (cases Z[n]? with
    | none => rfl
    | some o => cases o <;> rfl)
@[simp] theorem len_s (l : List Nat) (Z : Sto) : gLen [.str l] Z = if l.length ≤ Lim then some (.int l.length,Z) else none := (rfl)
@[simp] theorem len_t (l : List T) (Z : Sto) : gLen [.tup l] Z = some (.int l.length,Z) := (rfl)
@[simp] theorem len_f (l : List T) (Z : Sto) : gLen [.frl l] Z = some (.int l.length,Z) := (rfl)
@[simp] theorem len_l (n : Nat) (Z : Sto) : gLen [.loc n] Z = match getL Z n with | some ts => some (.int ts.length,Z) | none => none := by
  simp only [gLen,asSeq,asList,getL]
  cases Z[n]? with
  | none => rfl
  | some o => cases o <;> rfl
@[simp] theorem max_ii (i j : Int) (Z : Sto) : gMax [.int i,.int j] Z = some (.int (if j > i then j else i),Z) := (rfl)
@[simp] theorem min_ii (i j : Int) (Z : Sto) : gMin [.int i,.int j] Z = some (.int (if j < i then j else i),Z) := (rfl)
@[simp] theorem int_i (i : Int) (Z : Sto) : gInt [.int i] Z = some (.int i,Z) := (rfl)
@[simp] theorem int_b (b : Bool) (Z : Sto) : gInt [.bl b] Z = some (.int (if b then 1 else 0),Z) := (rfl)
@[simp] theorem tuple_l (n : Nat) (Z : Sto) : gTuple [.loc n] Z = match getL Z n with | some ts => some (.tup ts,Z) | none => none := by
  simp only [gTuple,asList,getL]
  cases Z[n]? with
  | none => rfl
  | some o => cases o <;> rfl
@[simp] theorem Zij (n : Nat) (t : T) (Z : Sto) : gAppend (.loc n) [t] Z = match getL Z n with | some ts => if ts.length < Lim then some (.non,Z.set n (.lst (ts ++ [t]))) else none | none => none := (rfl)
@[simp] theorem set_l (n : Nat) (i : Int) (t : T) (Z : Sto) : gSetL (.loc n) (.int i) t Z = match getL Z n with | some ts => (ixN ts.length i).map fun m => Z.set n (.lst (ts.set m t)) | none => none := (rfl)
theorem Ys {Z : Sto} {i : Nat} {ts : List T} : getL Z i = some ts ↔ Z[i]? = some (.lst ts) := ⟨Vg,fun h => by unfold getL; rw [h]⟩
@[simp] theorem Ym (Z : Sto) (ts : List T) : getL (Z ++ [.lst ts]) Z.length = some ts := by simp [getL]
theorem Ue {Z Y : Sto} {i : Nat} {ts : List T} (h : getL Z i = some ts) : getL (Z ++ Y) i = some ts := by
  rw [Ys] at h ⊢
  rw [List.getElem?_append_left (List.getElem?_eq_some_iff.mp h).1]; exact h
theorem Vw {Z : Sto} {i : Nat} {ts us : List T} (h : getL Z i = some ts) : getL (Z.set i (.lst us)) i = some us := by
  rw [Ys] at h ⊢
  rw [List.getElem?_set_self (List.getElem?_eq_some_iff.mp h).1]
theorem Zge {Z : Sto} {i j : Nat} {o : O} (h : i ≠ j) : getL (Z.set i o) j = getL Z j := by unfold getL; rw [List.getElem?_set_ne h]
theorem Z1u {Z : Sto} {i : Nat} {ts : List T} (h : getL Z i = some ts) : i < Z.length := (List.getElem?_eq_some_iff.mp (Vg h)).1
theorem Z75 {Z : Sto} {i : Nat} {ts : List T} (h : getL Z i = some ts) : isTy "list" (.loc i) Z = true := by simp [isTy, Vg h]
@[simp] theorem isTy_s (l : List Nat) (Z : Sto) : isTy "str" (.str l) Z = true := (rfl)
@[simp] theorem atI_0 {α : Type} (a : α) (l : List α) : atI (a :: l) 0 = some a := by simp [atI,ixN]
@[simp] theorem atI_1 {α : Type} (a b : α) (l : List α) : atI (a :: b :: l) 1 = some b := by
  have h : (1 : Int) < ((a :: b :: l).length : Int) := by simp; omega
  simp only [atI,ixN]
  rw [if_pos (by decide),if_pos h]; rfl
@[simp] theorem atI_2 {α : Type} (a b c : α) (l : List α) : atI (a :: b :: c :: l) 2 = some c := by
  have h : (2 : Int) < ((a :: b :: c :: l).length : Int) := by simp; omega
  simp only [atI,ixN]
  rw [if_pos (by decide),if_pos h]; rfl
@[simp] theorem atI_3 {α : Type} (a b c d : α) (l : List α) : atI (a :: b :: c :: d :: l) 3 = some d := by
  have h : (3 : Int) < ((a :: b :: c :: d :: l).length : Int) := by simp; omega
  simp only [atI,ixN]
  rw [if_pos (by decide),if_pos h]; rfl
theorem atI_nat {α : Type} {l : List α} {k : Nat} {a : α} (h : l[k]? = some a) : atI l (k : Int) = some a := by
  have hk := (List.getElem?_eq_some_iff.mp h).1
  simp only [atI,ixN]
  rw [if_pos (Int.natCast_nonneg k),if_pos (by omega)]
  exact h
section
theorem kk (n : String) : True := trivial
@[simp] theorem kit_1 : kitB "int" "int" = some true := by decide +kernel
@[simp] theorem kit_2 : kitB "bool" "int" = some true := by decide +kernel
@[simp] theorem kit_3 : kitB "str" "int" = some false := by decide +kernel
@[simp] theorem kit_4 : kitB "NoneType" "int" = some false := by decide +kernel
@[simp] theorem kit_5 : kitB "tuple" "int" = some false := by decide +kernel
@[simp] theorem kit_6 : kitB "list" "int" = some false := by decide +kernel
@[simp] theorem kit_7 : kitB "dict" "int" = some false := by decide +kernel
@[simp] theorem kit_11 : kitB "int" "bool" = some false := by decide +kernel
@[simp] theorem kit_12 : kitB "bool" "bool" = some true := by decide +kernel
@[simp] theorem kit_13 : kitB "str" "bool" = some false := by decide +kernel
@[simp] theorem kit_14 : kitB "NoneType" "bool" = some false := by decide +kernel
@[simp] theorem kit_15 : kitB "tuple" "bool" = some false := by decide +kernel
@[simp] theorem kit_16 : kitB "list" "bool" = some false := by decide +kernel
@[simp] theorem kit_17 : kitB "dict" "bool" = some false := by decide +kernel
@[simp] theorem kit_21 : kitB "int" "str" = some false := by decide +kernel
@[simp] theorem kit_22 : kitB "bool" "str" = some false := by decide +kernel
@[simp] theorem kit_23 : kitB "str" "str" = some true := by decide +kernel
@[simp] theorem kit_24 : kitB "NoneType" "str" = some false := by decide +kernel
@[simp] theorem kit_25 : kitB "tuple" "str" = some false := by decide +kernel
@[simp] theorem kit_26 : kitB "list" "str" = some false := by decide +kernel
@[simp] theorem kit_27 : kitB "dict" "str" = some false := by decide +kernel
@[simp] theorem kit_31 : kitB "int" "tuple" = some false := by decide +kernel
@[simp] theorem kit_32 : kitB "bool" "tuple" = some false := by decide +kernel
@[simp] theorem kit_33 : kitB "str" "tuple" = some false := by decide +kernel
@[simp] theorem kit_34 : kitB "NoneType" "tuple" = some false := by decide +kernel
@[simp] theorem kit_35 : kitB "tuple" "tuple" = some true := by decide +kernel
@[simp] theorem kit_36 : kitB "list" "tuple" = some false := by decide +kernel
@[simp] theorem kit_37 : kitB "dict" "tuple" = some false := by decide +kernel
@[simp] theorem kit_41 : kitB "int" "list" = some false := by decide +kernel
@[simp] theorem kit_42 : kitB "bool" "list" = some false := by decide +kernel
@[simp] theorem kit_43 : kitB "str" "list" = some false := by decide +kernel
@[simp] theorem kit_44 : kitB "NoneType" "list" = some false := by decide +kernel
@[simp] theorem kit_45 : kitB "tuple" "list" = some false := by decide +kernel
@[simp] theorem kit_46 : kitB "list" "list" = some true := by decide +kernel
@[simp] theorem kit_47 : kitB "dict" "list" = some false := by decide +kernel
@[simp] theorem kit_51 : kitB "int" "dict" = some false := by decide +kernel
@[simp] theorem kit_52 : kitB "bool" "dict" = some false := by decide +kernel
@[simp] theorem kit_53 : kitB "str" "dict" = some false := by decide +kernel
@[simp] theorem kit_54 : kitB "NoneType" "dict" = some false := by decide +kernel
@[simp] theorem kit_55 : kitB "tuple" "dict" = some false := by decide +kernel
@[simp] theorem kit_56 : kitB "list" "dict" = some false := by decide +kernel
@[simp] theorem kit_57 : kitB "dict" "dict" = some true := by decide +kernel
end
@[simp] theorem ty_non (Z : Sto) : tyT .non Z = some "NoneType" := (rfl)
@[simp] theorem ty_bl (b : Bool) (Z : Sto) : tyT (.bl b) Z = some "bool" := (rfl)
@[simp] theorem ty_int (b : Int) (Z : Sto) : tyT (.int b) Z = some "int" := (rfl)
@[simp] theorem ty_str (b : List Nat) (Z : Sto) : tyT (.str b) Z = some "str" := (rfl)
@[simp] theorem ty_tup (b : List T) (Z : Sto) : tyT (.tup b) Z = some "tuple" := (rfl)
@[simp] theorem ty_frl (b : List T) (Z : Sto) : tyT (.frl b) Z = some "list" := (rfl)
@[simp] theorem isiB (t : T) (n : String) (Z : Sto) : gIsiB t (.ty n) Z = (tyT t Z).bind fun a => kitB a n := by
  simp only [gIsiB,clsT]
  cases tyT t Z <;> rfl
@[simp] theorem isi_1 (t : T) (n : String) (Z : Sto) : gIsi [t,.ty n] Z = ((tyT t Z).bind fun a => kitB a n).map fun b => (.bl b,Z) := by
  simp only [gIsi,isiB]
@[simp] theorem isi_2 (t : T) (n m : String) (Z : Sto) : gIsi [t,.tup [.ty n,.ty m]] Z = if (tyT t Z).isSome = true then (((tyT t Z).bind fun a => kitB a n).bind fun b => ((tyT t Z).bind fun a => kitB a m).map fun c => (.bl (b || c),Z)) else none := by
  simp only [gIsi,List.mapM_cons,List.mapM_nil,isiB]
  cases tyT t Z with
  | none => rfl
  | some a =>
    simp only [Option.bind_some,Option.isSome_some,if_true]
    cases kitB a n <;> cases kitB a m <;> simp
def loopF (body : T → FS) : List T → Env → Sto → RS
  | [],ρ,Z => .nx ρ Z
  | t :: ts, ρ, Z => seqL (body t ρ Z) fun ρ' Z' => loopF body ts ρ' Z'
theorem Zey (lo : Int) (m : Nat) (body : T → FS) : ∀ (n k : Nat) (ρ : Env) (Z : Sto), m < n + k → k ≤ m → loopN (itRng lo m) body n k ρ Z = loopF body ((List.range' k (m - k)).map fun (i : Nat) => T.int (lo + (i : Int))) ρ Z
  | 0,k,ρ,Z,h,_ => by omega
  | n + 1,k,ρ,Z,h,_ => by
    unfold loopN
    simp only [itRng]
    by_cases hk : k < m
    · rw [if_pos hk]
      have e : m - k = (m - (k + 1)) + 1 := by omega
      rw [e, List.range'_succ, List.map_cons]
      simp only [loopF]
      congr 1
      funext ρ' Z'
      exact Zey lo m body n (k + 1) ρ' Z' (by omega) hk
    · rw [if_neg hk]
      have : m - k = 0 := by omega
      rw [this]; rfl
theorem Zez {body : T → FS} {ts : List T} (I : List T → Env → Sto → Prop) (Rt : T → Sto → Prop) : ∀ {pre : List T} {post : List T} {ρ : Env} {Z : Sto},ts = pre ++ post → I pre ρ Z →
    (∀ pre x post ρ Z, ts = pre ++ x :: post → I pre ρ Z → (∃ ρ' Z', (body x ρ Z = .nx ρ' Z' ∨ body x ρ Z = .ct ρ' Z') ∧ I (pre ++ [x]) ρ' Z') ∨ (∃ t Z', body x ρ Z = .rt t Z' ∧ Rt t Z')) →
    (∃ ρ' Z', loopF body post ρ Z = .nx ρ' Z' ∧ I ts ρ' Z') ∨ (∃ t Z', loopF body post ρ Z = .rt t Z' ∧ Rt t Z') := by
  intro pre post
  induction post generalizing pre with
  | nil =>
    intro ρ Z e i _
    rw [List.append_nil] at e
    exact .inl ⟨ρ,Z,rfl,by rw [e]; exact i⟩
  | cons x post ih =>
    intro ρ Z e i h
    rcases h pre x post ρ Z e i with ⟨ρ', Z', hb, i'⟩ | ⟨t, Z', hb, hr⟩
    · have e2 : loopF body (x :: post) ρ Z = loopF body post ρ' Z' := by
        rcases hb with hb | hb <;> simp only [loopF,hb,Zcq,Zj9]
      rw [e2]
      exact ih (by rw [e, List.append_assoc]; rfl) i' h
    · refine .inr ⟨t, Z', ?_, hr⟩
      simp only [loopF,hb,Znk]
theorem Zk4 {body : T → FS} {ts : List T} (I : List T → Env → Sto → Prop) {ρ : Env} {Z : Sto} (h0 : I [] ρ Z) (h : ∀ pre x post ρ Z, ts = pre ++ x :: post → I pre ρ Z → ∃ ρ' Z', (body x ρ Z = .nx ρ' Z' ∨ body x ρ Z = .ct ρ' Z') ∧ I (pre ++ [x]) ρ' Z') :
    ∃ ρ' Z', loopF body ts ρ Z = .nx ρ' Z' ∧ I ts ρ' Z' := by
  rcases Zez I (fun _ _ => False) (pre := []) (post := ts) rfl h0 (fun pre x post ρ Z e i => .inl (h pre x post ρ Z e i)) with h | ⟨_,_,_,h⟩
  · exact h
  · exact h.elim
@[simp] theorem mulOk_r (i j : Int) (h1 : -(2 ^ 64) < j) (h2 : j < 2 ^ 64) : mulOk i j = true := by simp only [mulOk,decide_eq_true h1,decide_eq_true h2,Bool.and_true,Bool.or_true]
@[simp] theorem Zo2 (i j : Int) (h1 : -(2 ^ 64) < i) (h2 : i < 2 ^ 64) : mulOk i j = true := by simp only [mulOk,decide_eq_true h1,decide_eq_true h2,Bool.and_true,Bool.true_or]
@[simp] theorem Zc5 (x y m : Int) (h1 : 0 < m) (h2 : m ≤ 2 ^ 64) : mulOk (x % m) y = true := Zo2 _ _ (by have := Int.emod_nonneg x (Int.ne_of_gt h1); omega) (by have := Int.emod_lt_of_pos x h1; omega)
@[simp] theorem ixN3_0 : ixN 3 0 = some 0 := (rfl)
@[simp] theorem ixN3_1 : ixN 3 1 = some 1 := (rfl)
@[simp] theorem ixN3_2 : ixN 3 2 = some 2 := (rfl)
theorem modN (x : Int) {n : Nat} (h : 0 < n) : ∃ r : Nat,r < n ∧ x % (n : Int) = (r : Int) :=
  ⟨(x % n).toNat,by have := Int.emod_lt_of_pos x (by omega : (0 : Int) < n); have := Int.emod_nonneg x (by omega : (n : Int) ≠ 0); omega,by have := Int.emod_nonneg x (by omega : (n : Int) ≠ 0); omega⟩
def StayL (i : Nat) (us : List T) (body : T → FS) : List T → Env → Sto → Prop
  | [],_,Z => getL Z i = some us
  | t :: r,ρ,Z => getL Z i = some us ∧ match body t ρ Z with
    | .nx ρ' Z' => StayL i us body r ρ' Z'
    | .ct ρ' Z' => StayL i us body r ρ' Z'
    | _ => True
theorem Z85 {i : Nat} {ts : List T} {body : T → FS} : ∀ (n k : Nat) (ρ : Env) (Z : Sto),ts.length < n + k → k ≤ ts.length → StayL i ts body (ts.drop k) ρ Z → loopN (itLoc i) body n k ρ Z = loopF body (ts.drop k) ρ Z
  | 0,k,ρ,Z,h,_,_ => by omega
  | n + 1,k,ρ,Z,h,_,hs => by
    unfold loopN
    cases e : ts[k]? with
    | none =>
      rw [List.drop_of_length_le (List.getElem?_eq_none_iff.mp e)] at hs ⊢
      simp only [itLoc,show getL Z i = some ts from hs,Option.map_some,e]; rfl
    | some t =>
      have hk := (List.getElem?_eq_some_iff.mp e).1
      have e2 : ts[k] = t := (List.getElem?_eq_some_iff.mp e).2
      rw [List.drop_eq_getElem_cons hk,e2] at hs ⊢
      obtain ⟨h1,h2⟩ := hs
      simp only [itLoc,h1,Option.map_some,e,loopF]
      cases eb : body t ρ Z with
      | nx ρ' Z' => rw [eb] at h2; simp only [Zcq]; exact Z85 n (k + 1) ρ' Z' (by omega) hk h2
      | ct ρ' Z' => rw [eb] at h2; simp only [Zj9]; exact Z85 n (k + 1) ρ' Z' (by omega) hk h2
      | _ => rfl
theorem Zik {i : Nat} {ts : List T} {body : T → FS} {ρ : Env} {Z : Sto} (h : ts.length ≤ Lim) (hs : StayL i ts body ts ρ Z) : loopN (itLoc i) body Fuel 0 ρ Z = loopF body ts ρ Z := by
  rw [Jv]; exact Z85 (ts := ts) (Lim + 2) 0 ρ Z (by omega) (Nat.zero_le _) hs
theorem Zil {lo : Int} {m : Nat} {body : T → FS} {ρ : Env} {Z : Sto} (h : m ≤ Lim) : loopN (itRng lo m) body Fuel 0 ρ Z = loopF body ((List.range m).map fun (i : Nat) => T.int (lo + (i : Int))) ρ Z := by
  rw [Jv, Zey lo m body (Lim + 2) 0 ρ Z (by omega) (Nat.zero_le _), Nat.sub_zero, List.range_eq_range']
end Fx
set_option maxHeartbeats 4000000
namespace Fx
open PySem PySem.Spec PyProof.Rows L2 SX Ap
def Wel (Z : Sto) (w : Nat) : Prop := ∃ a b c : Int,getL Z w = some [.int a,.int b,.int c]
structure Kp (w : Nat) (Z Z' : Sto) : Prop where
  wel : Wel Z' w
  len : Z.length ≤ Z'.length
  keep : ∀ i, i < Z.length → i ≠ w → Z'[i]? = Z[i]?
theorem Wel.lt {Z : Sto} {w : Nat} (h : Wel Z w) : w < Z.length := by obtain ⟨_,_,_,h⟩ := h; exact Z1u h
theorem Kp.refl {w : Nat} {Z : Sto} (h : Wel Z w) : Kp w Z Z := ⟨h,Nat.le_refl _,fun _ _ _ => rfl⟩
theorem Kp.trans {w : Nat} {Z Z1 Z2 : Sto} (a : Kp w Z Z1) (b : Kp w Z1 Z2) : Kp w Z Z2 :=
  ⟨b.wel,Nat.le_trans a.len b.len,fun i hi hn => (b.keep i (Nat.lt_of_lt_of_le hi a.len) hn).trans (a.keep i hi hn)⟩
theorem Kp.new {w : Nat} {Z Y : Sto} (h : Wel Z w) : Kp w Z (Z ++ Y) := by
  refine ⟨?_,by rw [List.length_append]; omega,fun i hi _ => List.getElem?_append_left hi⟩
  obtain ⟨a,b,c,e⟩ := h
  exact ⟨a,b,c,Ue e⟩
theorem Kp.turn {w : Nat} {Z : Sto} {a b c : Int} (h : Wel Z w) : Kp w Z (Z.set w (.lst [.int a,.int b,.int c])) := by
  obtain ⟨x,y,z,e⟩ := h
  exact ⟨⟨a,b,c,Vw e⟩,by rw [List.length_set]; omega,fun i _ hn => List.getElem?_set_ne (Ne.symm hn)⟩
theorem Kp.set {w i : Nat} {Z : Sto} {o : O} (h : Wel Z w) (hi : i ≠ w) : Wel (Z.set i o) w := by
  obtain ⟨x,y,z,e⟩ := h
  exact ⟨x,y,z,by rw [Zge hi]; exact e⟩
theorem Kp.getL {w i : Nat} {Z Z' : Sto} {ts : List T} (k : Kp w Z Z') (hn : i ≠ w) (h : getL Z i = some ts) : getL Z' i = some ts := by
  rw [Ys] at h ⊢
  rw [k.keep i (List.getElem?_eq_some_iff.mp h).1 hn]; exact h
@[simp] theorem Zly (Z Y : Sto) (k : Nat) : getL (Z ++ Y) (Z.length + k) = getL Y k := by
  unfold getL
  rw [List.getElem?_append_right (by omega),Nat.add_sub_cancel_left]
@[simp] theorem Zpr (Z Y : Sto) : getL (Z ++ Y) Z.length = getL Y 0 := Zly Z Y 0
@[simp] theorem getL_c0 (ts : List T) (Y : Sto) : getL (.lst ts :: Y) 0 = some ts := (rfl)
@[simp] theorem getL_cS (o : O) (Y : Sto) (k : Nat) : getL (o :: Y) (k + 1) = getL Y k := (rfl)
@[simp] theorem getL_c1 (o : O) (Y : Sto) : getL (o :: Y) 1 = getL Y 0 := (rfl)
@[simp] theorem getL_c2 (o : O) (Y : Sto) : getL (o :: Y) 2 = getL Y 1 := (rfl)
@[simp] theorem getL_c3 (o : O) (Y : Sto) : getL (o :: Y) 3 = getL Y 2 := (rfl)
@[simp] theorem getL_c4 (o : O) (Y : Sto) : getL (o :: Y) 4 = getL Y 3 := (rfl)
@[simp] theorem getL_c5 (o : O) (Y : Sto) : getL (o :: Y) 5 = getL Y 4 := (rfl)
@[simp] theorem getL_c6 (o : O) (Y : Sto) : getL (o :: Y) 6 = getL Y 5 := (rfl)
@[simp] theorem getL_c7 (o : O) (Y : Sto) : getL (o :: Y) 7 = getL Y 6 := (rfl)
@[simp] theorem getL_c8 (o : O) (Y : Sto) : getL (o :: Y) 8 = getL Y 7 := (rfl)
@[simp] theorem getL_c9 (o : O) (Y : Sto) : getL (o :: Y) 9 = getL Y 8 := (rfl)
@[simp] theorem getL_c10 (o : O) (Y : Sto) : getL (o :: Y) 10 = getL Y 9 := (rfl)
@[simp] theorem getL_c11 (o : O) (Y : Sto) : getL (o :: Y) 11 = getL Y 10 := (rfl)
@[simp] theorem getL_c12 (o : O) (Y : Sto) : getL (o :: Y) 12 = getL Y 11 := (rfl)
@[simp] theorem Zo3 (Z Y : Sto) (k : Nat) (o : O) : (Z ++ Y).set (Z.length + k) o = Z ++ Y.set k o := by
  rw [List.set_append_right _ _ (by omega),Nat.add_sub_cancel_left]
@[simp] theorem set_add0 (Z Y : Sto) (o : O) : (Z ++ Y).set Z.length o = Z ++ Y.set 0 o := Zo3 Z Y 0 o
@[simp] theorem Zlz (n : String) (Z Y : Sto) (k : Nat) : isTy n (.loc (Z.length + k)) (Z ++ Y) = isTy n (.loc k) Y := by
  simp only [isTy]
  rw [List.getElem?_append_right (by omega),Nat.add_sub_cancel_left]
@[simp] theorem Zps (n : String) (Z Y : Sto) : isTy n (.loc Z.length) (Z ++ Y) = isTy n (.loc 0) Y := Zlz n Z Y 0
@[simp] theorem Zo4 (Z Y : Sto) (k : Nat) : tyT (.loc (Z.length + k)) (Z ++ Y) = tyT (.loc k) Y := by
  simp only [tyT]
  rw [List.getElem?_append_right (by omega),Nat.add_sub_cancel_left]
@[simp] theorem tyT_add0 (Z Y : Sto) : tyT (.loc Z.length) (Z ++ Y) = tyT (.loc 0) Y := Zo4 Z Y 0
def OkW (r : R T) (P : T → Sto → Prop) : Prop := match r with
  | .ok t Z => P t Z
  | _ => False
@[simp] theorem okW_ok (t : T) (Z : Sto) (P : T → Sto → Prop) : OkW (.ok t Z) P = P t Z := (rfl)
theorem OkW.out {r : R T} {P : T → Sto → Prop} (h : OkW r P) : ∃ t Z,r = .ok t Z ∧ P t Z := by
  cases r with
  | ok t Z => exact ⟨t,Z,rfl,h⟩
  | _ => exact h.elim
@[simp] theorem lim_0 : (0 ≤ Lim) := by decide
@[simp] theorem limlt_0 : (0 < Lim) := by decide
@[simp] theorem lim_1 : (1 ≤ Lim) := by decide
@[simp] theorem limlt_1 : (1 < Lim) := by decide
@[simp] theorem lim_2 : (2 ≤ Lim) := by decide
@[simp] theorem limlt_2 : (2 < Lim) := by decide
@[simp] theorem lim_3 : (3 ≤ Lim) := by decide
@[simp] theorem limlt_3 : (3 < Lim) := by decide
@[simp] theorem lim_4 : (4 ≤ Lim) := by decide
@[simp] theorem limlt_4 : (4 < Lim) := by decide
@[simp] theorem lim_5 : (5 ≤ Lim) := by decide
@[simp] theorem limlt_5 : (5 < Lim) := by decide
@[simp] theorem lim_6 : (6 ≤ Lim) := by decide
@[simp] theorem limlt_6 : (6 < Lim) := by decide
@[simp] theorem lim_7 : (7 ≤ Lim) := by decide
@[simp] theorem limlt_7 : (7 < Lim) := by decide
@[simp] theorem lim_8 : (8 ≤ Lim) := by decide
@[simp] theorem limlt_8 : (8 < Lim) := by decide
@[simp] theorem lim_9 : (9 ≤ Lim) := by decide
@[simp] theorem limlt_9 : (9 < Lim) := by decide
@[simp] theorem lim_10 : (10 ≤ Lim) := by decide
@[simp] theorem limlt_10 : (10 < Lim) := by decide
@[simp] theorem lim_11 : (11 ≤ Lim) := by decide
@[simp] theorem limlt_11 : (11 < Lim) := by decide
@[simp] theorem lim_12 : (12 ≤ Lim) := by decide
@[simp] theorem limlt_12 : (12 < Lim) := by decide
@[simp] theorem lim_13 : (13 ≤ Lim) := by decide
@[simp] theorem limlt_13 : (13 < Lim) := by decide
@[simp] theorem lim_14 : (14 ≤ Lim) := by decide
@[simp] theorem limlt_14 : (14 < Lim) := by decide
@[simp] theorem lim_15 : (15 ≤ Lim) := by decide
@[simp] theorem limlt_15 : (15 < Lim) := by decide
@[simp] theorem lim_16 : (16 ≤ Lim) := by decide
@[simp] theorem limlt_16 : (16 < Lim) := by decide
@[simp] theorem lim_17 : (17 ≤ Lim) := by decide
@[simp] theorem limlt_17 : (17 < Lim) := by decide
@[simp] theorem lim_18 : (18 ≤ Lim) := by decide
@[simp] theorem limlt_18 : (18 < Lim) := by decide
@[simp] theorem lim_19 : (19 ≤ Lim) := by decide
@[simp] theorem limlt_19 : (19 < Lim) := by decide
@[simp] theorem lim_20 : (20 ≤ Lim) := by decide
@[simp] theorem limlt_20 : (20 < Lim) := by decide
@[simp] theorem lim_21 : (21 ≤ Lim) := by decide
@[simp] theorem limlt_21 : (21 < Lim) := by decide
@[simp] theorem lim_22 : (22 ≤ Lim) := by decide
@[simp] theorem limlt_22 : (22 < Lim) := by decide
@[simp] theorem lim_23 : (23 ≤ Lim) := by decide
@[simp] theorem limlt_23 : (23 < Lim) := by decide
@[simp] theorem lim_24 : (24 ≤ Lim) := by decide
@[simp] theorem limlt_24 : (24 < Lim) := by decide
@[simp] theorem lim_25 : (25 ≤ Lim) := by decide
@[simp] theorem limlt_25 : (25 < Lim) := by decide
@[simp] theorem lim_26 : (26 ≤ Lim) := by decide
@[simp] theorem limlt_26 : (26 < Lim) := by decide
@[simp] theorem lim_27 : (27 ≤ Lim) := by decide
@[simp] theorem limlt_27 : (27 < Lim) := by decide
@[simp] theorem lim_28 : (28 ≤ Lim) := by decide
@[simp] theorem limlt_28 : (28 < Lim) := by decide
@[simp] theorem lim_29 : (29 ≤ Lim) := by decide
@[simp] theorem limlt_29 : (29 < Lim) := by decide
@[simp] theorem lim_30 : (30 ≤ Lim) := by decide
@[simp] theorem limlt_30 : (30 < Lim) := by decide
@[simp] theorem lim_31 : (31 ≤ Lim) := by decide
@[simp] theorem limlt_31 : (31 < Lim) := by decide
@[simp] theorem lim_32 : (32 ≤ Lim) := by decide
@[simp] theorem limlt_32 : (32 < Lim) := by decide
@[simp] theorem lim_33 : (33 ≤ Lim) := by decide
@[simp] theorem limlt_33 : (33 < Lim) := by decide
@[simp] theorem lim_34 : (34 ≤ Lim) := by decide
@[simp] theorem limlt_34 : (34 < Lim) := by decide
@[simp] theorem lim_35 : (35 ≤ Lim) := by decide
@[simp] theorem limlt_35 : (35 < Lim) := by decide
@[simp] theorem lim_36 : (36 ≤ Lim) := by decide
@[simp] theorem limlt_36 : (36 < Lim) := by decide
@[simp] theorem lim_37 : (37 ≤ Lim) := by decide
@[simp] theorem limlt_37 : (37 < Lim) := by decide
@[simp] theorem lim_38 : (38 ≤ Lim) := by decide
@[simp] theorem limlt_38 : (38 < Lim) := by decide
@[simp] theorem lim_39 : (39 ≤ Lim) := by decide
@[simp] theorem limlt_39 : (39 < Lim) := by decide
@[simp] theorem lim_40 : (40 ≤ Lim) := by decide
@[simp] theorem limlt_40 : (40 < Lim) := by decide
@[simp] theorem lim_41 : (41 ≤ Lim) := by decide
@[simp] theorem limlt_41 : (41 < Lim) := by decide
@[simp] theorem lim_42 : (42 ≤ Lim) := by decide
@[simp] theorem limlt_42 : (42 < Lim) := by decide
@[simp] theorem lim_43 : (43 ≤ Lim) := by decide
@[simp] theorem limlt_43 : (43 < Lim) := by decide
@[simp] theorem lim_44 : (44 ≤ Lim) := by decide
@[simp] theorem limlt_44 : (44 < Lim) := by decide
@[simp] theorem lim_45 : (45 ≤ Lim) := by decide
@[simp] theorem limlt_45 : (45 < Lim) := by decide
@[simp] theorem lim_46 : (46 ≤ Lim) := by decide
@[simp] theorem limlt_46 : (46 < Lim) := by decide
@[simp] theorem lim_47 : (47 ≤ Lim) := by decide
@[simp] theorem limlt_47 : (47 < Lim) := by decide
@[simp] theorem lim_48 : (48 ≤ Lim) := by decide
@[simp] theorem limlt_48 : (48 < Lim) := by decide
@[simp] theorem isTy_c1 (n : String) (o : O) (Y : Sto) : isTy n (.loc 1) (o :: Y) = isTy n (.loc 0) Y := (rfl)
@[simp] theorem isTy_c2 (n : String) (o : O) (Y : Sto) : isTy n (.loc 2) (o :: Y) = isTy n (.loc 1) Y := (rfl)
@[simp] theorem isTy_c3 (n : String) (o : O) (Y : Sto) : isTy n (.loc 3) (o :: Y) = isTy n (.loc 2) Y := (rfl)
@[simp] theorem isTy_c4 (n : String) (o : O) (Y : Sto) : isTy n (.loc 4) (o :: Y) = isTy n (.loc 3) Y := (rfl)
@[simp] theorem isTy_c5 (n : String) (o : O) (Y : Sto) : isTy n (.loc 5) (o :: Y) = isTy n (.loc 4) Y := (rfl)
@[simp] theorem isTy_c6 (n : String) (o : O) (Y : Sto) : isTy n (.loc 6) (o :: Y) = isTy n (.loc 5) Y := (rfl)
@[simp] theorem isTy_c7 (n : String) (o : O) (Y : Sto) : isTy n (.loc 7) (o :: Y) = isTy n (.loc 6) Y := (rfl)
@[simp] theorem isTy_c8 (n : String) (o : O) (Y : Sto) : isTy n (.loc 8) (o :: Y) = isTy n (.loc 7) Y := (rfl)
@[simp] theorem isTy_c9 (n : String) (o : O) (Y : Sto) : isTy n (.loc 9) (o :: Y) = isTy n (.loc 8) Y := (rfl)
@[simp] theorem isTy_c10 (n : String) (o : O) (Y : Sto) : isTy n (.loc 10) (o :: Y) = isTy n (.loc 9) Y := (rfl)
@[simp] theorem isTy_c11 (n : String) (o : O) (Y : Sto) : isTy n (.loc 11) (o :: Y) = isTy n (.loc 10) Y := (rfl)
@[simp] theorem isTy_c12 (n : String) (o : O) (Y : Sto) : isTy n (.loc 12) (o :: Y) = isTy n (.loc 11) Y := (rfl)
@[simp] theorem tyT_c1 (o : O) (Y : Sto) : tyT (.loc 1) (o :: Y) = tyT (.loc 0) Y := (rfl)
@[simp] theorem tyT_c2 (o : O) (Y : Sto) : tyT (.loc 2) (o :: Y) = tyT (.loc 1) Y := (rfl)
@[simp] theorem tyT_c3 (o : O) (Y : Sto) : tyT (.loc 3) (o :: Y) = tyT (.loc 2) Y := (rfl)
@[simp] theorem tyT_c4 (o : O) (Y : Sto) : tyT (.loc 4) (o :: Y) = tyT (.loc 3) Y := (rfl)
@[simp] theorem tyT_c5 (o : O) (Y : Sto) : tyT (.loc 5) (o :: Y) = tyT (.loc 4) Y := (rfl)
@[simp] theorem tyT_c6 (o : O) (Y : Sto) : tyT (.loc 6) (o :: Y) = tyT (.loc 5) Y := (rfl)
@[simp] theorem tyT_c7 (o : O) (Y : Sto) : tyT (.loc 7) (o :: Y) = tyT (.loc 6) Y := (rfl)
@[simp] theorem tyT_c8 (o : O) (Y : Sto) : tyT (.loc 8) (o :: Y) = tyT (.loc 7) Y := (rfl)
@[simp] theorem tyT_c9 (o : O) (Y : Sto) : tyT (.loc 9) (o :: Y) = tyT (.loc 8) Y := (rfl)
@[simp] theorem tyT_c10 (o : O) (Y : Sto) : tyT (.loc 10) (o :: Y) = tyT (.loc 9) Y := (rfl)
@[simp] theorem tyT_c11 (o : O) (Y : Sto) : tyT (.loc 11) (o :: Y) = tyT (.loc 10) Y := (rfl)
@[simp] theorem tyT_c12 (o : O) (Y : Sto) : tyT (.loc 12) (o :: Y) = tyT (.loc 11) Y := (rfl)
@[simp] theorem isTy_c0 (ts : List T) (Y : Sto) : isTy "list" (.loc 0) (.lst ts :: Y) = true := (rfl)
@[simp] theorem tyT_c0 (ts : List T) (Y : Sto) : tyT (.loc 0) (.lst ts :: Y) = some "list" := (rfl)
@[simp] theorem tyT_c0k (ts : List (Key × T)) (Y : Sto) : tyT (.loc 0) (.dk ts :: Y) = some "dict" := (rfl)
abbrev StepI (body : T → FS) (ts : List T) (I : List T → Env → Sto → Prop) (Rt : T → Sto → Prop) : Prop :=
  ∀ pre x post ρ Z, ts = pre ++ x :: post → I pre ρ Z → (∃ ρ' Z', (body x ρ Z = .nx ρ' Z' ∨ body x ρ Z = .ct ρ' Z') ∧ I (pre ++ [x]) ρ' Z') ∨ (∃ t Z', body x ρ Z = .rt t Z' ∧ Rt t Z')
theorem Zhe {i : Nat} {ts : List T} {body : T → FS} {I : List T → Env → Sto → Prop} {Rt : T → Sto → Prop} (hI : ∀ pre ρ Z,I pre ρ Z → getL Z i = some ts) (h : StepI body ts I Rt) : ∀ (post : List T) {pre : List T} {ρ : Env} {Z : Sto},ts = pre ++ post → I pre ρ Z → StayL i ts body post ρ Z
  | [],pre,ρ,Z,e,k => hI _ _ _ k
  | x :: post,pre,ρ,Z,e,k => by
    refine ⟨hI _ _ _ k,?_⟩
    rcases h pre x post ρ Z e k with ⟨ρ', Z', hb, k'⟩ | ⟨t, Z', hb, _⟩
    · have := Zhe hI h post (by rw [e, List.append_assoc]; rfl) k'
      rcases hb with hb | hb <;> rw [hb] <;> exact this
    · rw [hb]; trivial
theorem Zk5 {i : Nat} {ts : List T} {body : T → FS} {ρ : Env} {Z : Sto} (I : List T → Env → Sto → Prop) (Rt : T → Sto → Prop) (hl : ts.length ≤ Lim) (hI : ∀ pre ρ Z,I pre ρ Z → getL Z i = some ts) (h0 : I [] ρ Z) (h : StepI body ts I Rt) :
    (∃ ρ' Z', loopN (itLoc i) body Fuel 0 ρ Z = .nx ρ' Z' ∧ I ts ρ' Z') ∨ (∃ t Z', loopN (itLoc i) body Fuel 0 ρ Z = .rt t Z' ∧ Rt t Z') := by
  rw [Zik hl (Zhe hI h ts rfl h0)]
  exact Zez I Rt (pre := []) rfl h0 h
theorem Zk6 {i : Nat} {ts : List T} {body : T → FS} {ρ : Env} {Z : Sto} (I : Env → Sto → Prop) (hl : ts.length ≤ Lim) (hI : ∀ ρ Z, I ρ Z → getL Z i = some ts) (h0 : I ρ Z) (h : ∀ x ∈ ts, ∀ ρ Z, I ρ Z → ∃ ρ' Z', body x ρ Z = .nx ρ' Z' ∧ I ρ' Z') :
    ∃ ρ' Z', loopN (itLoc i) body Fuel 0 ρ Z = .nx ρ' Z' ∧ I ρ' Z' := by
  rcases Zk5 (ts := ts) (fun _ => I) (fun _ _ => False) hl (fun _ => hI) h0 (fun pre x post ρ Z e k => by
    obtain ⟨ρ', Z', hb, k'⟩ := h x (by rw [e]; simp) ρ Z k
    exact .inl ⟨ρ', Z', .inl hb, k'⟩) with r | ⟨_, _, _, r⟩
  · exact r
  · exact r.elim
theorem Zk7 {m : Nat} {body : T → FS} {ρ : Env} {Z : Sto} (I : Env → Sto → Prop) (hl : m ≤ Lim) (h0 : I ρ Z) (h : ∀ k < m, ∀ ρ Z, I ρ Z → ∃ ρ' Z', body (.int (k : Int)) ρ Z = .nx ρ' Z' ∧ I ρ' Z') :
    ∃ ρ' Z', loopN (itRng 0 m) body Fuel 0 ρ Z = .nx ρ' Z' ∧ I ρ' Z' := by
  rw [Zil hl]
  refine Zk4 (fun _ => I) h0 fun pre x post ρ Z e k => ?_
  have hx : x ∈ (List.range m).map fun (i : Nat) => T.int ((0 : Int) + (i : Int)) := by rw [e]; simp
  obtain ⟨j,hj,rfl⟩ := List.mem_map.mp hx
  obtain ⟨ρ', Z', hb, k'⟩ := h j (List.mem_range.mp hj) ρ Z k
  refine ⟨ρ', Z', .inl ?_, k'⟩
  rw [Int.zero_add]; exact hb
end Fx
set_option maxHeartbeats 4000000
namespace Fx
open PySem PySem.Spec PyProof.Rows L2 SX Ap
theorem Z86 {it : ItF} {D : Nat} {put : T → Option Env} {c : FT} {e : FE} {ts : List T} (I : List T → List T → Sto → Prop) (hit : ∀ pre acc Z,pre.length ≤ ts.length → I pre acc Z → it pre.length Z = some ts[pre.length]?) (hI : ∀ pre acc Z,I pre acc Z → getL Z D = some acc)
    (h : ∀ pre x post acc Z,ts = pre ++ x :: post → I pre acc Z → ∃ ρ,put x = some ρ ∧ ((∃ Z1,c ρ Z = .ok false Z1 ∧ I (pre ++ [x]) acc Z1) ∨ ∃ Z1 y Z2,c ρ Z = .ok true Z1 ∧ e ρ Z1 = .ok y Z2 ∧ getL Z2 D = some acc ∧ I (pre ++ [x]) (acc ++ [y]) (Z2.set D (.lst (acc ++ [y]))))) :
    ∀ (post pre acc : List T) (Z : Sto) (n : Nat), ts = pre ++ post → ts.length < n + pre.length → acc.length + post.length ≤ Lim → I pre acc Z → ∃ acc' Z', loopC it D put c e n pre.length Z = .ok (.loc D) Z' ∧ I ts acc' Z'
  | [],pre,acc,Z,n,et,hn,hl,hi => by
    rw [List.append_nil] at et
    subst et
    cases n with
    | zero => omega
    | succ n =>
      refine ⟨acc,Z,?_,hi⟩
      unfold loopC
      rw [hit _ _ _ (Nat.le_refl _) hi,List.getElem?_eq_none (Nat.le_refl _)]
  | x :: post,pre,acc,Z,n,et,hn,hl,hi => by
    cases n with
    | zero =>
      have : ts.length = pre.length + (post.length + 1) := by rw [et,List.length_append,List.length_cons]
      omega
    | succ n =>
      have hlen : ts.length = pre.length + (post.length + 1) := by rw [et,List.length_append,List.length_cons]
      have hx : ts[pre.length]? = some x := by rw [et,List.getElem?_append_right (Nat.le_refl _),Nat.sub_self]; rfl
      obtain ⟨ρ,hp,hh⟩ := h pre x post acc Z et hi
      have et2 : ts = (pre ++ [x]) ++ post := by rw [et,List.append_assoc]; rfl
      have hl2 : (pre ++ [x]).length = pre.length + 1 := by rw [List.length_append]; rfl
      unfold loopC
      rw [hit _ _ _ (by omega) hi,hx]
      simp only [hp]
      rcases hh with ⟨Z1,hc,i1⟩ | ⟨Z1,y,Z2,hc,he,hg,i1⟩
      · rw [hc]
        simp only [Zex,Xr,Bool.false_eq_true,if_false]
        rw [List.length_cons] at hl
        have := Z86 I hit hI h post (pre ++ [x]) acc Z1 n et2 (by omega) (by omega) i1
        rw [hl2] at this
        exact this
      · rw [hc]
        rw [List.length_cons] at hl
        simp only [Zex,Xr,if_true,he,hg]
        rw [if_pos (by omega)]
        have := Z86 I hit hI h post (pre ++ [x]) (acc ++ [y]) _ n et2 (by omega) (by rw [List.length_append,List.length_singleton]; omega) i1
        rw [hl2] at this
        exact this
theorem Zk8 {it : ItF} {D : Nat} {put : T → Option Env} {c : FT} {e : FE} {ts : List T} (hit : ∀ k Z,k ≤ ts.length → it k Z = some ts[k]?) (I : List T → List T → Sto → Prop) (hI : ∀ pre acc Z,I pre acc Z → getL Z D = some acc)
    (h : ∀ pre x post acc Z, ts = pre ++ x :: post → I pre acc Z → ∃ ρ, put x = some ρ ∧ ((∃ Z1, c ρ Z = .ok false Z1 ∧ I (pre ++ [x]) acc Z1) ∨ ∃ Z1 y Z2, c ρ Z = .ok true Z1 ∧ e ρ Z1 = .ok y Z2 ∧ getL Z2 D = some acc ∧ I (pre ++ [x]) (acc ++ [y]) (Z2.set D (.lst (acc ++ [y]))))) (post pre acc : List T) (Z : Sto) (n : Nat) (e1 : ts = pre ++ post) (e2 : ts.length < n + pre.length) (e3 : acc.length + post.length ≤ Lim) (e4 : I pre acc Z) : ∃ acc' Z', loopC it D put c e n pre.length Z = .ok (.loc D) Z' ∧ I ts acc' Z' :=
  Z86 I (fun pre acc Z hl _ => hit _ _ hl) hI h post pre acc Z n e1 e2 e3 e4
theorem Zim {it : ItF} {put : T → Option Env} {c : FT} {e : FE} {ts : List T} {Z1 : Sto} (hit : ∀ k Z,k ≤ ts.length → it k Z = some ts[k]?) (hl : ts.length ≤ Lim) (p : T → Bool) (f : T → T)
    (h : ∀ x ∈ ts,∃ ρ,put x = some ρ ∧ ∀ acc,c ρ (Z1 ++ [.lst acc]) = .ok (p x) (Z1 ++ [.lst acc]) ∧ (p x = true → e ρ (Z1 ++ [.lst acc]) = .ok (f x) (Z1 ++ [.lst acc]))) :
    loopC it Z1.length put c e Fuel 0 (Z1 ++ [.lst []]) = .ok (.loc Z1.length) (Z1 ++ [.lst ((ts.filter p).map f)]) := by
  obtain ⟨acc, Z', e1, rfl, rfl⟩ := Zk8 hit (D := Z1.length) (put := put) (c := c) (e := e) (fun pre acc Z => acc = (pre.filter p).map f ∧ Z = Z1 ++ [.lst acc]) (fun pre acc Z h => by obtain ⟨_, rfl⟩ := h; exact Ym _ _) (fun pre x post acc Z et hi => by
    obtain ⟨rfl,rfl⟩ := hi
    obtain ⟨ρ,hp,hc⟩ := h x (by rw [et]; simp)
    refine ⟨ρ,hp,?_⟩
    cases hx : p x with
    | false => exact .inl ⟨_,by rw [(hc _).1,hx],by simp [List.filter_append,hx]⟩
    | true => exact .inr ⟨_,f x,_,by rw [(hc _).1,hx],(hc _).2 hx,Ym _ _,by simp [List.filter_append,hx]⟩) ts [] [] (Z1 ++ [.lst []]) Fuel rfl (by rw [Jv]; simp; omega) (by simpa using hl) ⟨rfl,rfl⟩
  exact e1
theorem Z87 (i : Nat) (Z : Sto) : asList (.loc i) Z = getL Z i := by
  simp only [asList,getL]
  all_goals (cases Z[i]? with
    | none => rfl
    | some o => cases o <;> rfl)
@[simp] theorem all_l (n : Nat) (Z : Sto) : gAll [.loc n] Z = (getL Z n).bind fun ts => (bools ts).map fun bs => (.bl (bs.all id),Z) := by
  simp only [gAll,Z87]
@[simp] theorem any_l (n : Nat) (Z : Sto) : gAny [.loc n] Z = (getL Z n).bind fun ts => (bools ts).map fun bs => (.bl (bs.any id),Z) := by
  simp only [gAny,Z87]
theorem Z9z {α : Type} (f : α → Bool) : ∀ l : List α,bools (l.map fun x => .bl (f x)) = some (l.map f)
  | [] => rfl
  | x :: l => by simp [bools,Z9z f l]
theorem Zf0 : ∀ ys : List (List Nat),(ys.map T.str).mapM asStr = some ys
  | [] => rfl
  | y :: ys => by rw [List.map_cons,List.mapM_cons,Zf0 ys]; rfl
theorem Zn5 {a : List Nat} {n : Nat} {ys : List (List Nat)} {Z : Sto} (h : getL Z n = some (ys.map .str)) (hl : sumL ys + ys.length * a.length ≤ Lim) : gJoin (.str a) [.loc n] Z = some (.str (TL.joinL a ys),Z) := by
  have e : (asSeq (.loc n) Z).bind (fun ts => ts.mapM asStr) = some ys := by
    have : asSeq (.loc n) Z = asList (.loc n) Z := rfl
    rw [this,Z87,h,Option.bind_some,Zf0]
  simp only [gJoin,e,if_pos hl]
@[simp] theorem Zo5 (i : Int) (Z : Sto) : gStr [.int i] Z = if i.natAbs < 10 ^ 4300 then some (.str (dec i),Z) else none := (rfl)
@[simp] theorem abs_i (i : Int) (Z : Sto) : gAbs [.int i] Z = some (.int (if i < 0 then -i else i),Z) := (rfl)
@[simp] theorem intT_i (i : Int) (Z : Sto) : gIntT [.int i] Z = some (.int i,Z) := (rfl)
@[simp] theorem intT_b (b : Bool) (Z : Sto) : gIntT [.bl b] Z = some (.int (if b then 1 else 0),Z) := (rfl)
@[simp] theorem intT_s (l : List Nat) (Z : Sto) : gIntT [.str l] Z = if l.all (· < 128) = true ∧ l.length ≤ 100000 then (PySem.intText? (S l)).map fun n => (.int n,Z) else none := (rfl)
@[simp] theorem sw_s (a b : List Nat) (Z : Sto) : gStarts (.str a) [.str b] Z = some (.bl (b.isPrefixOf a),Z) := (rfl)
@[simp] theorem in_cs (c : Nat) (l : List Nat) (Z : Sto) : gIn (.str [c]) (.str l) Z = some (.bl (decide (c ∈ l)),Z) := (rfl)
@[simp] theorem nin_cs (c : Nat) (l : List Nat) (Z : Sto) : gNotIn (.str [c]) (.str l) Z = some (.bl (!decide (c ∈ l)),Z) := (rfl)
@[simp] theorem q_callK (F : FF) (g : List T → List T) (fa : FA) (ρ : Env) (Z : Sto) : eCallK F g fa ρ Z = (fa ρ Z).bind fun ts Z1 => F (g ts) Z1 := (rfl)
theorem Zk9 (x : T) (ts : List T) (Z : Sto) : gInB x (.tup ts) Z = if flatT x = true ∧ ts.all flatT = true then some (inT x ts) else none := by
  cases x with
  | str l => match l with
    | [] => rfl
    | [_] => rfl
    | _ :: _ :: _ => rfl
  | _ => rfl
@[simp] theorem in_tup (x : T) (ts : List T) (Z : Sto) : gIn x (.tup ts) Z = if flatT x = true ∧ ts.all flatT = true then some (.bl (inT x ts),Z) else none := by
  simp only [gIn,Zk9]
  split <;> rfl
@[simp] theorem nin_tup (x : T) (ts : List T) (Z : Sto) : gNotIn x (.tup ts) Z = if flatT x = true ∧ ts.all flatT = true then some (.bl (!inT x ts),Z) else none := by
  simp only [gNotIn,Zk9]
  split <;> rfl
def strsD (ys : List (List Nat)) : List PyData := ys.map fun l => PyData.str (S l)
theorem Zdb (n : Nat) (Z : Sto) : ∀ ys : List (List Nat),(ys.map T.str).mapM (toD (n + 1) Z) = some (strsD ys)
  | [] => rfl
  | y :: ys => by
    rw [List.map_cons,List.mapM_cons,Zdb n Z ys]
    rfl
theorem Zhf : ∀ xs ys : List (List Nat),PyData.eqvAll (strsD xs) (strsD ys) = decide (xs = ys)
  | [],[] => rfl
  | [],_ :: _ => rfl
  | _ :: _,[] => rfl
  | x :: xs,y :: ys => by
    show (PyData.eqv (.str (S x)) (.str (S y)) && PyData.eqvAll (strsD xs) (strsD ys)) = _
    rw [Zhf xs ys]
    have : PyData.eqv (.str (S x)) (.str (S y)) = decide (x = y) := by
      simp only [PyData.eqv]
      rw [S_beq_eq]
    rw [this]
    by_cases h : x = y <;> by_cases h2 : xs = ys <;> simp [h,h2]
def okS (l : List Nat) : Bool := l.all (· < 0x110000)
theorem okS_S {l : List Nat} (h : okS l = true) : PyData.strOk (S l) = true := by
  unfold PyData.strOk
  rw [← Array.all_toList]
  exact h
theorem Zhg : ∀ {ys : List (List Nat)},ys.all okS = true → PyData.canLayAll0 (strsD ys) = true ∧ PyData.depthAll (strsD ys) ≤ 1
  | [],_ => ⟨rfl,by decide⟩
  | y :: ys,h => by
    rw [List.all_cons,Bool.and_eq_true] at h
    obtain ⟨h1,h2⟩ := Zhg h.2
    refine ⟨?_,?_⟩
    · show (PyData.strOk (S y) && PyData.canLayAll0 (strsD ys)) = true
      rw [okS_S h.1,h1]; rfl
    · show max (PyData.depth (.str (S y))) (PyData.depthAll (strsD ys)) ≤ 1
      have : PyData.depth (.str (S y)) ≤ 1 := by simp [PyData.depth]
      omega
theorem Z5q {ys : List (List Nat)} (h : ys.all okS = true) : SeqAt.shaped (.list (strsD ys)) = true := by
  obtain ⟨h1,h2⟩ := Zhg h
  unfold SeqAt.shaped
  rw [show (PyData.list (strsD ys)).canLay0 = PyData.canLayAll0 (strsD ys) from rfl,h1,Bool.true_and]
  have : (PyData.list (strsD ys)).depth ≤ 64 := by simp only [PyData.depth]; omega
  exact decide_eq_true this
theorem Zhh {i j : Nat} {xs ys : List (List Nat)} {Z : Sto} (h1 : getL Z i = some (xs.map .str)) (h2 : getL Z j = some (ys.map .str)) (k1 : xs.all okS = true) (k2 : ys.all okS = true) : gEqB (.loc i) (.loc j) Z = some (decide (xs = ys)) := by
  have e1 : toD 16 Z (.loc i) = some (.list (strsD xs)) := by
    show ((getL Z i).bind fun ts => (ts.mapM (toD 15 Z)).map PyData.list) = _
    rw [h1,Option.bind_some,Zdb 14 Z xs]; rfl
  have e2 : toD 16 Z (.loc j) = some (.list (strsD ys)) := by
    show ((getL Z j).bind fun ts => (ts.mapM (toD 15 Z)).map PyData.list) = _
    rw [h2,Option.bind_some,Zdb 14 Z ys]; rfl
  show gEqD _ _ _ = _
  simp only [gEqD,e1,e2,Z5q k1,Z5q k2,and_self,if_true]
  rw [show PyData.eqv (.list (strsD xs)) (.list (strsD ys)) = PyData.eqvAll (strsD xs) (strsD ys) from by simp only [PyData.eqv],Zhf]
theorem Zo6 {i j : Nat} {xs ys : List (List Nat)} {Z : Sto} (h1 : getL Z i = some (xs.map .str)) (h2 : getL Z j = some (ys.map .str)) (k1 : xs.all okS = true) (k2 : ys.all okS = true) : gEq (.loc i) (.loc j) Z = some (.bl (decide (xs = ys)),Z) := by
  simp only [gEq,Zhh h1 h2 k1 k2,Option.map_some]
theorem Zo7 {i j : Nat} {xs ys : List (List Nat)} {Z : Sto} (h1 : getL Z i = some (xs.map .str)) (h2 : getL Z j = some (ys.map .str)) (k1 : xs.all okS = true) (k2 : ys.all okS = true) : gNe (.loc i) (.loc j) Z = some (.bl (!decide (xs = ys)),Z) := by
  simp only [gNe,Zhh h1 h2 k1 k2,Option.map_some]
theorem Kp.put {w D : Nat} {Z Z' : Sto} {o : O} (k : Kp w Z Z') (hD : Z.length ≤ D) (hw : w < Z.length) : Kp w Z (Z'.set D o) :=
  ⟨Kp.set k.wel (by omega),by rw [List.length_set]; exact k.len,fun i hi hn => by rw [List.getElem?_set_ne (by omega)]; exact k.keep i hi hn⟩
theorem Xx (a b : List Nat) (Z : Sto) (h : a.length + b.length ≤ Lim) : gAdd (.str a) (.str b) Z = some (.str (a ++ b),Z) := if_pos h
theorem Zka (i j : Nat) (Z : Sto) {a b : List T} (h1 : getL Z i = some a) (h2 : getL Z j = some b) (h : a.length + b.length ≤ Lim) : gAdd (.loc i) (.loc j) Z = some (.loc Z.length,Z ++ [.lst (a ++ b)]) := by rw [Zk3,h1,h2]; exact if_pos h
theorem Zhi (a b : List Nat) (Z : Sto) (h : a.length + b.length ≤ Lim) : gIAdd (.str a) (.str b) Z = some (.str (a ++ b),Z) := if_pos h
theorem Z88 (l : List Nat) (lo hi : Option Int) (Z : Sto) (h : l.length ≤ Lim) : gSl (.str l) lo hi Z = some (.str (cutL l lo hi),Z) := if_pos h
theorem Zkb (c : Nat) (k : Int) (Z : Sto) (h : -100000 ≤ k ∧ k ≤ 100000) : gMul (.str [c]) (.int k) Z = some (.str (List.replicate k.toNat c),Z) := by
  rw [Qa,if_pos ⟨h.1,h.2,by simp only [List.length_singleton]; omega⟩,Zld]
theorem Zf1 (n : Nat) (t : T) (Z : Sto) {ts : List T} (h1 : getL Z n = some ts) (h : ts.length < Lim) : gAppend (.loc n) [t] Z = some (.non,Z.set n (.lst (ts ++ [t]))) := by rw [Zij,h1]; exact if_pos h
end Fx
set_option maxHeartbeats 4000000
namespace Fx
open PySem PySem.Spec PyProof.Rows L2 SX
section
variable (ρ : Env) (Z : Sto)
@[simp] theorem q_callN (F : FF) (g : List T → List T → List T) (fa fk : FA) : eCallN F g fa fk ρ Z = (fa ρ Z).bind fun ts Z1 => (fk ρ Z1).bind fun us Z2 => F (g ts us) Z2 := (rfl)
@[simp] theorem q_lam (F : (Sto → R T) → T → FF) (fb : FE) (fa : FA) : eLam F fb fa ρ Z = (fa ρ Z).bind fun ts Z1 => F (fun Z' => fb ρ Z') .non (.non :: ts) Z1 := (rfl)
@[simp] theorem q_ask0 (fl : Sto → R T) (lv : T) : eAsk fl lv 0 (some lv :: ρ) Z = fl Z := by
  unfold eAsk
  exact if_pos rfl
@[simp] theorem q_kdIx (l : List (List Nat × List Nat)) (fe : FE) : eKdIx l fe ρ Z = (fe ρ Z).bind fun x Z1 => match kdGet l x with | some v => .ok (.str v) Z1 | none => .stuck := (rfl)
@[simp] theorem Zpt (l : List (List Nat × List Nat)) : iKdItems l ρ Z = .ok (itSeq (l.map fun x => .tup [.str x.1,.str x.2])) Z := (rfl)
end
@[simp] theorem pick_nil {α : Type} (l : List α) : pick [] l = [] := (rfl)
@[simp] theorem pick_c0 {α : Type} (ix : List Nat) (a : α) (l : List α) : pick (0 :: ix) (a :: l) = a :: pick ix (a :: l) := (rfl)
theorem Zm0 (l : List Nat) (c : Nat) (Z : Sto) (h : l.length ≤ Lim) : gRstrip (.str l) [.str [c]] Z = some (.str (Ap.rst c l),Z) := by
  show (if l.length ≤ Lim then some (txt (Txt.rstripChars (S l) (S [c])),Z) else none) = _
  rw [if_pos h,Ap.Zlg,txt_S]
@[simp] theorem ne_nn (Z : Sto) : gNe .non .non Z = some (.bl false,Z) := (rfl)
@[simp] theorem eq_nn (Z : Sto) : gEq .non .non Z = some (.bl true,Z) := (rfl)
@[simp] theorem eq_ns (l : List Nat) (Z : Sto) : gEq .non (.str l) Z = some (.bl false,Z) := (rfl)
@[simp] theorem eq_sn (l : List Nat) (Z : Sto) : gEq (.str l) .non Z = some (.bl false,Z) := (rfl)
@[simp] theorem ne_ns (l : List Nat) (Z : Sto) : gNe .non (.str l) Z = some (.bl true,Z) := (rfl)
@[simp] theorem ne_sn (l : List Nat) (Z : Sto) : gNe (.str l) .non Z = some (.bl true,Z) := (rfl)
end Fx
set_option maxHeartbeats 4000000
namespace Fx
open PySem PySem.Spec PyProof.Rows L2 SX Ap
theorem Zkc {Z : Sto} {i : Nat} {ts : List T} (h : getL Z i = some ts) : getDK Z i = none := by
  unfold getDK
  rw [Ys.mp h]
@[simp] theorem Zf2 (l : List Nat) (y : T) (Z : Sto) : gIxW (.str l) y Z = gIx (.str l) y Z := (rfl)
@[simp] theorem ixW_t (l : List T) (y : T) (Z : Sto) : gIxW (.tup l) y Z = gIx (.tup l) y Z := (rfl)
@[simp] theorem ixW_f (l : List T) (y : T) (Z : Sto) : gIxW (.frl l) y Z = gIx (.frl l) y Z := (rfl)
theorem ixW_l {Z : Sto} {i : Nat} {ts : List T} (y : T) (h : getL Z i = some ts) : gIxW (.loc i) y Z = gIx (.loc i) y Z := by
  simp only [gIxW,Zkc h]
theorem U6 {Z : Sto} {i : Nat} {ts : List T} (k : Int) (h : getL Z i = some ts) : gIxW (.loc i) (.int k) Z = (atI ts k).map fun t => (t,Z) := by
  rw [ixW_l _ h,Zpq,h]
theorem Zpu {Z : Sto} {i : Nat} {ts : List T} (y t : T) (h : getL Z i = some ts) : gSetW (.loc i) y t Z = gSetL (.loc i) y t Z := by
  simp only [gSetW,Zkc h]
@[simp] theorem Zb3 (x : T) (ts : List T) (Z : Sto) : gInW x (.tup ts) Z = gIn x (.tup ts) Z := (rfl)
@[simp] theorem Zb4 (x : T) (l : List Nat) (Z : Sto) : gInW x (.str l) Z = gIn x (.str l) Z := (rfl)
@[simp] theorem Zdc (x : T) (ts : List T) (Z : Sto) : gNotInW x (.tup ts) Z = gNotIn x (.tup ts) Z := (rfl)
@[simp] theorem Zhj (x : T) (l : List Nat) (Z : Sto) : gNotInW x (.str l) Z = gNotIn x (.str l) Z := (rfl)
@[simp] theorem leW_ii (i j : Int) (Z : Sto) : gLeW (.int i) (.int j) Z = some (.bl (decide (i ≤ j)),Z) := (rfl)
@[simp] theorem gtW_ii (i j : Int) (Z : Sto) : gGtW (.int i) (.int j) Z = some (.bl (decide (j < i)),Z) := (rfl)
@[simp] theorem geW_ii (i j : Int) (Z : Sto) : gGeW (.int i) (.int j) Z = some (.bl (decide (j ≤ i)),Z) := (rfl)
section
variable (ρ : Env) (Z : Sto)
@[simp] theorem q_gSubsW (fo fi : FE) (t : T) : gSubsW fo fi t ρ Z = (fo ρ Z).bind fun x Z1 => (fi ρ Z1).bind fun y Z2 => match gSetW x y t Z2 with | some Z3 => .ok ρ Z3 | none => .stuck := (rfl)
end
theorem Zpv {Z : Sto} {i : Nat} {ts : List T} (k : Int) (t : T) (h : getL Z i = some ts) : gSetL (.loc i) (.int k) t Z = (ixN ts.length k).map fun n => Z.set i (.lst (ts.set n t)) := by
  show (match getL Z i with | some ts => _ | none => none) = _
  rw [h]
theorem Zhk {Z : Sto} {i : Nat} {ts : List T} (k : Int) (t : T) (h : getL Z i = some ts) : gSetW (.loc i) (.int k) t Z = (ixN ts.length k).map fun n => Z.set i (.lst (ts.set n t)) := by
  rw [Zpu _ _ h,Zpv k t h]
end Fx
set_option maxHeartbeats 4000000
namespace Fx
open PySem PySem.Spec PyProof.Rows L2 SX Ap
variable [Tb]
end Fx
set_option maxHeartbeats 4000000
namespace Fx
open PySem PySem.Spec PyProof.Rows L2 SX Ap
variable [Tb]
end Fx
set_option maxHeartbeats 4000000
namespace Fx
open PySem PySem.Spec PyProof.Rows L2 SX Ap
variable [Tb]
def ltIx (n i : Nat) : Option Nat := if i < n then some i else none
mutual
def lcT (n : Nat) : T → Bool
  | .tup ts => lcTs n ts
  | .loc i => Nat.ble (i + 1) n
  | .frl ts => lcTs n ts
  | .lam _ _ _ _ => false
  | .ktp ts => lcTs n ts
  | .non => true
  | .bl _ => true
  | .int _ => true
  | .str _ => true
  | .ref _ => true
  | .ty _ => true
def lcTs (n : Nat) : List T → Bool
  | [] => true
  | t :: ts => lcT n t && lcTs n ts
end
mutual
theorem Zkd {n : Nat} : ∀ {t : T},lcT n t = true → T.mv (ltIx n) t = some t
  | .non,_ => rfl
  | .bl _,_ => rfl
  | .int _,_ => rfl
  | .str _,_ => rfl
  | .tup ts,h => by
    have h : lcTs n ts = true := h
    show (T.mvs (ltIx n) ts).map T.tup = _
    rw [Za0 h]; rfl
  | .loc i,h => by
    have h : i + 1 ≤ n := Nat.le_of_ble_eq_true h
    show (ltIx n i).map T.loc = _
    unfold ltIx
    rw [if_pos (show i < n from h)]; rfl
  | .frl ts,h => by
    have h : lcTs n ts = true := h
    show (T.mvs (ltIx n) ts).map T.frl = _
    rw [Za0 h]; rfl
  | .ref _,_ => rfl
  | .ty _,_ => rfl
  | .lam _ _ _ _,h => by cases h
  | .ktp ts,h => by
    have h : lcTs n ts = true := h
    show (T.mvs (ltIx n) ts).map T.ktp = _
    rw [Za0 h]; rfl
theorem Za0 {n : Nat} : ∀ {ts : List T},lcTs n ts = true → T.mvs (ltIx n) ts = some ts
  | [],_ => rfl
  | t :: ts,h => by
    have h : (lcT n t && lcTs n ts) = true := h
    rw [Bool.and_eq_true] at h
    simp only [T.mvs,Zkd h.1,Za0 h.2]
end
def lcP {κ : Type} (n : Nat) : List (κ × T) → Bool
  | [] => true
  | p :: r => lcT n p.2 && lcP n r
theorem Zhl {κ : Type} {n : Nat} : ∀ {l : List (κ × T)},lcP n l = true → mvP (ltIx n) l = some l
  | [],_ => rfl
  | (k,t) :: r,h => by
    have h : (lcT n t && lcP n r) = true := h
    rw [Bool.and_eq_true] at h
    simp only [mvP,Zkd h.1,Zhl h.2]
def lcO (n : Nat) : O → Bool
  | .lst ts => lcTs n ts
  | .dk l => lcP n l
  | .dt l => lcP n l
  | .ins _ l => lcP n l
theorem Zke {n : Nat} {o : O} (h : lcO n o = true) : O.mv (ltIx n) o = some o := by
  cases o with
  | lst ts => show (T.mvs (ltIx n) ts).map O.lst = _; rw [Za0 h]; rfl
  | dk l => show (mvP (ltIx n) l).map O.dk = _; rw [Zhl h]; rfl
  | dt l => show (mvP (ltIx n) l).map O.dt = _; rw [Zhl h]; rfl
  | ins C l => show (mvP (ltIx n) l).map (O.ins C) = _; rw [Zhl h]; rfl
def selE : List Nat → Env → Nat → Env
  | _,[],_ => []
  | ks,o :: ρ,i => (if i ∈ ks then o else none) :: selE ks ρ (i + 1)
theorem Zhm (ks : List Nat) : ∀ (ρ : Env) (i : Nat),(selE ks ρ i).length = ρ.length
  | [],_ => rfl
  | _ :: ρ,i => congrArg (· + 1) (Zhm ks ρ (i + 1))
theorem Zhn {ks : List Nat} : ∀ {ρ : Env} {i k : Nat} {t : T},(selE ks ρ i)[k]? = some (some t) → ρ[k]? = some (some t)
  | [],_,_,_,h => by simp [selE] at h
  | o :: ρ,i,0,t,h => by
    simp only [selE,List.getElem?_cons_zero,Option.some.injEq] at h
    split at h
    · subst h; rfl
    · cases h
  | o :: ρ,i,k + 1,t,h => by
    simp only [selE,List.getElem?_cons_succ] at h
    simpa using Zhn h
def scE (n : Nat) : Env → Bool
  | [] => true
  | none :: ρ => scE n ρ
  | some t :: ρ => lcT n t && scE n ρ
theorem Zgf {n : Nat} : ∀ {ρ : Env} {k : Nat} {t : T},scE n ρ = true → ρ[k]? = some (some t) → lcT n t = true
  | [],_,_,_,h => by simp at h
  | none :: ρ,0,t,_,h => by simp at h
  | some u :: ρ,0,t,h0,h => by
    simp only [scE,Bool.and_eq_true] at h0
    simp at h; subst h; exact h0.1
  | none :: ρ,k + 1,t,h0,h => Zgf (ρ := ρ) (k := k) h0 (by simpa using h)
  | some u :: ρ,k + 1,t,h0,h => by
    simp only [scE,Bool.and_eq_true] at h0
    exact Zgf (ρ := ρ) (k := k) h0.2 (by simpa using h)
section
variable {X : Cx} {K : PySem.W.Frag} {W : WX} {ι ι1 : List Addr} {H H1 : Hp} {σ σ1 : L2.St} {ρ ρ1 : Env} {Z Y : Sto}
theorem Gr.drop (g : Gr ι ι1 H H1) : Gr ι ι H H1 := ⟨fun _ _ h => h,g.tup,g.frz,g.xd,g.ext,g.tab,fun _ _ h _ _ => h,g.out⟩
theorem drop_at (s : Sim K ι Z H) (g : Gr ι ι1 H H1) : ∀ i j a,ltIx Z.length i = some j → ι1[i]? = some a → ι[j]? = some a := fun i j a e h => by
  unfold ltIx at e
  split at e
  · rename_i hi
    cases e
    have hi : i < ι.length := by rw [s.len]; exact hi
    have h2 := g.pre i _ (List.getElem?_eq_getElem hi)
    rw [h] at h2; cases h2
    exact List.getElem?_eq_getElem hi
  · cases e
theorem Sim.drop (s : Sim K ι Z H) (g : Gr ι ι1 H H1) (s1 : Sim K ι1 Y H1) (h : (Y.take Z.length).all (lcO Z.length) = true) : Sim K ι (Y.take Z.length) H1 := by
  have hl := Zjp g s s1
  refine ⟨by rw [List.length_take,s.len]; omega,s.nd,fun i a o ha ho => ?_,s1.tab⟩
  have h1 := g.pre i a ha
  have h2 : Y[i]? = some o := by
    rw [List.getElem?_take] at ho
    split at ho
    · exact ho
    · cases ho
  have h3 : lcO Z.length o = true := by
    rw [List.all_eq_true] at h
    exact h o (List.mem_of_getElem? ho)
  exact (s1.ob i a o h1 h2).mv (drop_at s g) (Zke h3)
theorem Is.drop {ks : List Nat} (s : Sim K ι Z H) (g : Gr ι ι1 H H1) (is : Is K ι1 H1 σ1 ρ1 Y) (h : (Y.take Z.length).all (lcO Z.length) = true) (he : scE Z.length (selE ks ρ1 0) = true) : Is K ι H1 σ1 (selE ks ρ1 0) (Y.take Z.length) :=
  ⟨by rw [Zhm]; exact is.len,fun i t ht => by
    obtain ⟨v,h1,h2⟩ := is.env i t (Zhn ht)
    exact ⟨v,h1,h2.mv (drop_at s g) (Zkd (Zgf he ht))⟩,s.drop g is.sim h⟩
end
section
variable {K : PySem.W.Frag} {n : Nat} {F : FF}
theorem Gr.keep {ι ι1 : List Addr} {H H1 : Hp} {j : Nat} {a : Addr} (g : Gr ι ι1 H H1) (h : ι1[j]? = some a) : Gr ι (ι ++ [a]) H H1 :=
  ⟨fun i b hb => by rw [List.getElem?_append_left (List.getElem?_eq_some_iff.mp hb).1]; exact hb,g.tup,g.frz,g.xd,g.ext,g.tab,fun b u hb e m => (List.mem_append.mp hb).elim id fun k => g.fre b u (by rw [List.mem_singleton.mp k]; exact List.mem_of_getElem? h) e m,g.out⟩
theorem Sim.keep {ι ι1 : List Addr} {H H1 : Hp} {Z Y : Sto} {j : Nat} {a : Addr} {us : List T} (s : Sim K ι Z H) (g : Gr ι ι1 H H1) (s1 : Sim K ι1 Y H1) (h : (Y.take Z.length).all (lcO Z.length) = true) (ha : ι1[j]? = some a) (hj : Z.length ≤ j) (hy : Y[j]? = some (.lst us)) (hu : lcTs Z.length us = true) : Sim K (ι ++ [a]) (Y.take Z.length ++ [.lst us]) H1 := by
  have hl := Zjp g s s1
  have hat := drop_at s g
  have hf : ∀ i k x,ltIx Z.length i = some k → ι1[i]? = some x → (ι ++ [a])[k]? = some x := fun i k x e hx => by
    have h2 := hat i k x e hx
    rw [List.getElem?_append_left (List.getElem?_eq_some_iff.mp h2).1]; exact h2
  have hlt : (Y.take Z.length).length = Z.length := by rw [List.length_take]; omega
  refine ⟨by rw [List.length_append,List.length_append,hlt,s.len]; rfl,?_,fun i b o hb ho => ?_,s1.tab⟩
  · rw [List.nodup_append]
    refine ⟨s.nd,by simp,fun b hb c hc e => ?_⟩
    rw [List.mem_singleton] at hc
    subst e; subst hc
    obtain ⟨i,hi⟩ := List.mem_iff_getElem?.mp hb
    have h1 := g.pre i _ hi
    obtain ⟨k1,x1⟩ := List.getElem?_eq_some_iff.mp h1
    obtain ⟨k2,x2⟩ := List.getElem?_eq_some_iff.mp ha
    have h3 := (List.getElem_inj s1.nd).mp (x1.trans x2.symm)
    have h4 := (List.getElem?_eq_some_iff.mp hi).1
    rw [s.len] at h4
    omega
  · by_cases hi : i < Z.length
    · rw [List.getElem?_append_left (by rw [s.len]; exact hi)] at hb
      rw [List.getElem?_append_left (by rw [hlt]; exact hi)] at ho
      have h2 : Y[i]? = some o := by
        have ho2 := ho
        rw [List.getElem?_take,if_pos hi] at ho2
        exact ho2
      have h3 : lcO Z.length o = true := by
        rw [List.all_eq_true] at h
        exact h o (List.mem_of_getElem? ho)
      exact (s1.ob i b o (g.pre i b hb) h2).mv hf (Zke h3)
    · have hi' : Z.length ≤ i := Nat.le_of_not_lt hi
      rw [List.getElem?_append_right (by rw [s.len]; exact hi'), s.len] at hb
      rw [List.getElem?_append_right (by rw [hlt]; exact hi'), hlt] at ho
      have h0 : i - Z.length = 0 := by simpa using (List.getElem?_eq_some_iff.mp hb).1
      rw [h0] at hb ho
      simp at hb ho
      subst hb ho
      exact (s1.ob j a _ ha hy).mv hf (Zke hu)
end
end Fx
set_option maxHeartbeats 4000000
namespace Fx
open PySem PySem.Spec PyProof.Rows L2 SX Ap
variable [Tb]
def lenDiff : T → T → Sto → Bool
  | .loc i,.loc j,Z => (match getL Z i,getL Z j with
    | some a,some b => !(a.length == b.length)
    | _,_ => false)
  | _,_,_ => false
def gEqL (x y : T) (Z : Sto) : Option (T × Sto) := if lenDiff x y Z = true then some (.bl false,Z) else gEq x y Z
def gNeL (x y : T) (Z : Sto) : Option (T × Sto) := if lenDiff x y Z = true then some (.bl true,Z) else gNe x y Z
section
variable {X : Cx} {K : PySem.W.Frag}
def rLen (K : PySem.W.Frag) (r : Bool) : R2 := fun x y H Q => ∃ a b xs ys,x = .ref a ∧ y = .ref b ∧ SqL K H a xs ∧ SqL K H b ys ∧ xs.length ≠ ys.length ∧ Q (.bl r) H
theorem Zm1 (hu : X.A.units + 64 < cLine) : OpR X (compareOp .Eq) (rLen X.K false) := by
  intro pins s σ H x y v u Q I rx ry h
  obtain ⟨a,b,xs,ys,rfl,rfl,ha,hb,hn,q⟩ := h
  cases (show v = Value.ref a from rx)
  cases (show u = Value.ref b from ry)
  obtain ⟨us,r1,p1,_⟩ := I.list ha
  obtain ⟨ws,r2,p2,_⟩ := I.list hb
  exact PySem.SeqAt.RcAt.lists_lengths p1.isList p2.isList (by rw [List.size_toArray,List.size_toArray,← r1.length,← r2.length]; simpa using hn) (by omega) X.prog X.w _ _ ⟨.bl false,H,I,rfl,q⟩
theorem Zm2 (hu : X.A.units + 64 < cLine) : OpR X (compareOp .NotEq) (rLen X.K true) := by
  intro pins s σ H x y v u Q I rx ry h
  obtain ⟨a,b,xs,ys,rfl,rfl,ha,hb,hn,q⟩ := h
  cases (show v = Value.ref a from rx)
  cases (show u = Value.ref b from ry)
  obtain ⟨us,r1,p1,_⟩ := I.list ha
  obtain ⟨ws,r2,p2,_⟩ := I.list hb
  exact PySem.SeqAt.RcNeAt.lists_lengths p1.isList p2.isList (by rw [List.size_toArray,List.size_toArray,← r1.length,← r2.length]; simpa using hn) (by omega) X.prog X.w _ _ ⟨.bl true,H,I,rfl,q⟩
theorem Zn6 {ι : List Addr} {H : Hp} {Z : Sto} {x y : V} {tx ty : T} (s : Sim K ι Z H) (rx : Rep K ι H x tx) (ry : Rep K ι H y ty) (e : lenDiff tx ty Z = true) : ∃ a b xs ys,x = .ref a ∧ y = .ref b ∧ SqL K H a xs ∧ SqL K H b ys ∧ xs.length ≠ ys.length := by
  unfold lenDiff at e
  split at e
  · split at e
    case h_2 => cases e
    rename_i ts us h1 h2
    obtain ⟨a,xs,rfl,h3,r1⟩ := Nz s rx (show asList (.loc _) Z = some ts by simp only [asList,Vg h1])
    obtain ⟨b,ys,rfl,h4,r2⟩ := Nz s ry (show asList (.loc _) Z = some us by simp only [asList,Vg h2])
    refine ⟨a,b,xs,ys,rfl,rfl,h3,h4,?_⟩
    rw [r1.length,r2.length]
    simpa using e
  · cases e
theorem Zm3 (hu : X.A.units + 64 < cLine) (hK : X.K = K) : OpF X K (compareOp .Eq) gEqL := by
  subst hK
  refine Wo (Jm (Zm1 hu) (o_eq hu rfl)) fun x y H Q h => ?_
  obtain ⟨ι,Z,tx,ty,s,rx,ry,p⟩ := h
  unfold gEqL at p
  split at p
  · rename_i e
    obtain ⟨a,b,xs,ys,h1,h2,h3,h4,h5⟩ := Zn6 s rx ry e
    exact .inl ⟨a,b,xs,ys,h1,h2,h3,h4,h5,Yl p s (.bl _)⟩
  · exact .inr ⟨ι,Z,tx,ty,s,rx,ry,p⟩
theorem Zo8 (hu : X.A.units + 64 < cLine) (hK : X.K = K) : OpF X K (compareOp .NotEq) gNeL := by
  subst hK
  refine Wo (Jm (Zm2 hu) (o_ne hu rfl)) fun x y H Q h => ?_
  obtain ⟨ι,Z,tx,ty,s,rx,ry,p⟩ := h
  unfold gNeL at p
  split at p
  · rename_i e
    obtain ⟨a,b,xs,ys,h1,h2,h3,h4,h5⟩ := Zn6 s rx ry e
    exact .inl ⟨a,b,xs,ys,h1,h2,h3,h4,h5,Yl p s (.bl _)⟩
  · exact .inr ⟨ι,Z,tx,ty,s,rx,ry,p⟩
end
end Fx
set_option maxHeartbeats 4000000
namespace Fx
open PySem PySem.Spec PyProof.Rows L2 SX Ap
variable [Tb]
def sRaise0 (nm : PySem.Str) : FS := fun ρ Z => .exc ⟨nm,[]⟩ ρ Z
section
variable {X : Cx} {K : PySem.W.Frag} {W : WX} {x m : PySem.Str} {p p2 pos rpos : Pos} {j : Nat}
theorem Zkf (hK : X.K = K) (hc : X.calm = true) (tk : Takes X W) (h : (He.Fa.exc x).ok K = true) (hg : Gl X x) (hm : X.mg x = some (.ref (He.ga K x))) (hns : PySem.W.nsIn K mainGlobals x = some (some (.ref (He.ga K x)))) (hdb : (x == ("__debug__" : PySem.Str)) = false := by decide) :
    FSJ X K W (.Raise (some (.Call (.Name x p) [.Constant (.str m) j p2] [] pos)) none rpos) (sRaise0 x) := by
  subst hK
  obtain ⟨h1,h2,h3,h4⟩ := He.exc_ok h
  refine Jx (ps_raise hc tk (pmk_own PySem.F.excBase_ValueError h1 hm h2 (raises_own h3 h4) hg hdb)) fun D σ H h => ?_
  obtain ⟨ι,ρ,Z,is,q⟩ := h
  exact q ι H σ (.ref (He.ga X.K x)) none Gr.refl is ⟨⟨_,rfl,hns⟩,rfl⟩
end
end Fx
set_option maxHeartbeats 4000000
namespace Fx
open PySem PySem.Spec PyProof.Rows L2 SX Ap
variable [Tb]
end Fx
set_option maxHeartbeats 4000000
namespace Fx
open PySem PySem.Spec PyProof.Rows L2 SX Ap
variable [Tb]
end Fx
set_option maxHeartbeats 4000000
namespace SrtO
open PySem PyProof.Rows Srt
def IsFst (h : Heap) (v : Value) (x : Int) : Prop := ∃ (a : Addr) (o : Obj) (t : Tok) (r : List Value) (n : Nat), v = .ref a ∧ h.get? a = some o ∧ o.cls = .type "tuple" ∧ o.data = .seq (Value.int x t :: r).toArray n
theorem IsFst.keeps {h h' : Heap} {v : Value} {x : Int} (p : IsFst h v x) (k : ∀ b o, h.get? b = some o → o.cls = .type "tuple" → h'.get? b = some o) : IsFst h' v x := by
  obtain ⟨a,o,t,r,n,e,ho,hc,hd⟩ := p
  exact ⟨a,o,t,r,n,e,k _ _ ho hc,hc,hd⟩
end SrtO
namespace Fx
open PySem PySem.Spec PyProof.Rows L2 SX Ap
end Fx
set_option maxHeartbeats 4000000
namespace Fx
open PySem PySem.Spec PyProof.Rows L2 SX Ap L2.DX
end Fx
set_option maxHeartbeats 4000000
namespace Fx
open PySem PySem.Spec PyProof.Rows L2 SX Ap
end Fx
set_option maxHeartbeats 4000000
namespace Fx
open PySem PySem.Spec PyProof.Rows L2 SX Ap L2.DX
variable [Tb]
end Fx
set_option maxHeartbeats 4000000
namespace Fx
open PySem PySem.Spec PyProof.Rows L2 SX Ap
variable [Tb]
end Fx
set_option maxHeartbeats 4000000
namespace Fx
open PySem PySem.Spec PyProof.Rows L2 SX Ap
variable [Tb]
end Fx
set_option maxHeartbeats 4000000
namespace Ap
open PySem PySem.Spec PyProof.Rows L2 SX Fx
noncomputable section
def Zdd : List Fx.T := [(.str [112,108,97,105,110]),(.str [115,105,110,103,108,101]),(.str [100,111,117,98,108,101]),(.str [108,105,116,101,114,97,108]),(.str [102,111,108,100,101,100])]
def Z26 : List (List Nat × Fx.T) := [([98,108,111,99,107],(.str [79])),([107,101,121],(.str [75])),([102,108,111,119],(.str [73])),([112,97,105,114],(.str [80]))]
def Z9b : List (List Nat × Fx.T) := [([112,108,97,105,110],(.str [])),([115,105,110,103,108,101],(.str [39])),([100,111,117,98,108,101],(.str [34]))]
def Z65 : List Fx.T := [(.str [32]),(.str [9])]
def Uq : List (List Nat × Fx.T) := [([108,105,116,101,114,97,108],(.str [124])),([102,111,108,100,101,100],(.str [62]))]
def Z4m : List Fx.T := [(.str [107,101,121]),(.str [112,97,105,114])]
def Z89 : List Nat := [44,91,93,123,125]
def Z76 : List Fx.T := [(.str [73]),(.str [80])]
def Zde : List (List Nat × Fx.T) := [([98,108,111,99,107],(.str [10])),([107,101,121],(.str [58,32])),([102,108,111,119],(.str [93])),([112,97,105,114],(.str [58,32]))]
def Qc : List Nat := [45,63,58]
def Z0k : List Nat := [44,91,93,123,125,35,38,42,33,124,62,39,34,64,96]
def Z30 : List Fx.T := [(.str [75]),(.str [80])]
def Za1 : List (List Nat × Fx.T) := [([34],(.str [34])),([92],(.str [92])),([47],(.str [47])),([110],(.str [10])),([116],(.str [9])),([32],(.str [32])),([9],(.str [9]))]
def Z0l : FE :=
  (eOr (eChain gLeW gLeW (eC (.str [32])) (eVar 1) (eC (.str [126]))) (eBin gInW (eVar 1) (eC (.str [9,10]))))
def Zf3 : FS :=
  (sRet (eAnd (eCallB gIsi (aCons (eVar 0) (aCons (eC (.ty "str")) aNil))) (eCallB gAll (aCons (eLc [1] [1] (iAny (eVar 0)) eYes Z0l) aNil))))
def Z41 : FF := runF 2 Zf3
def Z77 : FS :=
  (sIf (Fx.tOr (Fx.tNot (eTru (eCall Z41 [] (aCons (eVar 0) aNil)))) (eBl (eBin gGtW (eCallB gLen (aCons (eVar 0) aNil)) (eC (.int (3000))))))
      (sRaise "NoStyle" "part" [] (aCons (eC (.str [118,97,108,117,101])) aNil))
      sPass)
def Nu : FF := runF 1 Z77
def Z78 : FS :=
  (bCons (sIf (Fx.tOr (Fx.tNot (eTru (eCallB gIsi (aCons (eVar 0) (aCons (eC (.ty "str")) aNil))))) (eBl (eBin gNotInW (eVar 0) (eC (.tup Zdd)))))
      (sRaise "NoStyle" "part" [] (aCons (eC (.str [115,116,121,108,101])) aNil))
      sPass)
    (sIf (Fx.tOr (Fx.tNot (eTru (eCallB gIsi (aCons (eVar 1) (aCons (eC (.ty "str")) aNil))))) (tKdIn Z26 true (eVar 1)))
      (sRaise "NoStyle" "part" [] (aCons (eC (.str [99,111,110,116,101,120,116])) aNil))
      sPass))
def Qe : FF := runF 2 Z78
def Z8u : FS :=
  (sRet (eAnd (eCallB gIsi (aCons (eVar 0) (aCons (eC (.ty "int")) aNil))) (eAnd (eNot (eCallB gIsi (aCons (eVar 0) (aCons (eC (.ty "bool")) aNil)))) (eChain gLeW gLeW (eVar 1) (eVar 0) (eVar 2)))))
def Uw : FF := runF 3 Z8u
def Z42 : FS :=
  (bCons (sIf (Fx.tNot (eTru (eCall Uw [] (aCons (eVar 0) (aCons (eC (.int 0)) (aCons (eC (.int (100))) aNil))))))
      (sRaise "NoStyle" "part" [] (aCons (eC (.str [105,110,100,101,110,116])) aNil))
      sPass)
    (bCons (sIf (Fx.tNot (eTru (eCall Uw [] (aCons (eVar 1) (aCons (eC (.int 0)) (aCons (eC (.int (200))) aNil))))))
      (sRaise "NoStyle" "part" [] (aCons (eC (.str [119,105,100,116,104])) aNil))
      sPass)
    (sIf (Fx.tNot (eTru (eCall Uw [] (aCons (eVar 2) (aCons (eC (.int 1)) (aCons (eCallB gMin (aCons (eC (.int 9)) (aCons (eBin gAdd (eVar 0) (eC (.int 1))) aNil))) aNil))))))
      (sRaise "NoStyle" "part" [] (aCons (eC (.str [100,101,101,112])) aNil))
      sPass)))
def Vq : FF := runF 3 Z42
abbrev Zc6 : FF := sgnF
def Zkg : FS :=
  (sRet (eChain gLeW gLeW (eC (.str [33])) (eVar 0) (eC (.str [126]))))
def Z79 : FF := runF 1 Zkg
def Zf4 : FS :=
  (sIf (Fx.tAnd (eBl (eBin gEq (eBin gIxW (eVar 0) (eVar 3)) (eC (.str [32])))) (Fx.tAnd (eTru (eCall Z79 [] (aCons (eBin gIxW (eVar 0) (eBin gSub (eVar 3) (eC (.int 1)))) aNil))) (eTru (eCall Z79 [] (aCons (eBin gIxW (eVar 0) (eBin gAdd (eVar 3) (eC (.int 1)))) aNil)))))
        (bCons (sDrop (eBM "list" gAppend (eVar 1) (aCons (eSl (eVar 0) (oSome (eVar 2)) (oSome (eVar 3))) aNil)))
        (sSet 2 (eBin gAdd (eVar 3) (eC (.int 1)))))
        sPass)
def Zin : FS :=
  (bCons (sPar [1,2] (aCons (eLst aNil) (aCons (eC (.int 0)) aNil)))
    (bCons (sFor (iRng (aCons (eC (.int 1)) (aCons (eBin gSub (eCallB gLen (aCons (eVar 0) aNil)) (eC (.int 1))) aNil))) (gNm 3) Zf4)
    (sRet (eBin gAdd (eVar 1) (eLst (aCons (eSl (eVar 0) (oSome (eVar 2)) oNone) aNil))))))
def Z8a : FF := runF 4 Zin
def Z66 : FS :=
  (sRet (eAnd (eBin gInW (eSl (eVar 0) oNone (oSome (eC (.int 3)))) (eTup (aCons (eC (.str [45,45,45])) (aCons (eC (.str [46,46,46])) aNil)))) (eBin gInW (eSl (eVar 0) (oSome (eC (.int 3))) (oSome (eC (.int 4)))) (eTup (aCons (eC (.str [])) (aCons (eC (.str [32])) aNil))))))
def Jc : FF := runF 1 Z66
def Z1v : FS :=
  (sRet (eBin gAdd (eVar 1) (eCallB gIntT (aCons (eAnd (eBin gEq (eVar 1) (eC (.int 0))) (eCall Jc [] (aCons (eVar 0) aNil))) aNil))))
def Va : FF := runF 2 Z1v
def Zc7 : FS :=
  (sIf (eBl (eChain gLt gLt (eC (.int 0)) (eVar 1) (eBin gAdd (eBin gAdd (eCallB gLen (aCons (eVar 5) aNil)) (eC (.int 1))) (eCallB gLen (aCons (eVar 6) aNil)))))
        (bCons (sDrop (eBM "list" gAppend (eVar 4) (aCons (eVar 5) aNil)))
        (sSet 5 (eBin gAdd (eBin gMul (eC (.str [32])) (eCall Va [] (aCons (eVar 6) (aCons (eVar 2) aNil)))) (eVar 6))))
        (sSet 5 (eBin gAdd (eBin gAdd (eVar 5) (eC (.str [32]))) (eVar 6))))
def Zm4 : FS :=
  (bCons (sSet 4 (eLst aNil))
    (bCons (sSet 5 (eIf (eTru (eVar 3)) (eBin gIxW (eVar 0) (eC (.int 0))) (eBin gAdd (eBin gMul (eC (.str [32])) (eCall Va [] (aCons (eBin gIxW (eVar 0) (eC (.int 0))) (aCons (eVar 2) aNil)))) (eBin gIxW (eVar 0) (eC (.int 0))))))
    (bCons (sFor (iAny (eSl (eVar 0) (oSome (eC (.int 1))) oNone)) (gNm 6) Zc7)
    (sRet (eBin gAdd (eVar 4) (eLst (aCons (eVar 5) aNil)))))))
def Z4n : FF := runF 7 Zm4
def Zdf : FE :=
  (eCall Zc6 [] (aCons (eVar 9) (aCons (eVar 1) aNil)))
def Zdg : FS :=
  (bCons (sSet 8 (eLc [9] [9] (iAny (eCall Z8a [] (aCons (eVar 7) aNil))) eYes Zdf))
      (bCons (sAsg (eBin gAdd (eBin gMul (eKdI Z9b (eVar 1)) (eCallB gIntT (aCons (eBin gEq (eVar 6) (eC (.int 0))) aNil))) (eBin gIxW (eVar 8) (eC (.int 0)))) (gSubsW (eVar 8) (eC (.int 0))))
      (bCons (sAsg (eBin gAdd (eBin gIxW (eVar 8) (eUn gNeg (eC (.int 1)))) (eBin gMul (eKdI Z9b (eVar 1)) (eCallB gIntT (aCons (eBin gEq (eVar 6) (eBin gSub (eCallB gLen (aCons (eVar 4) aNil)) (eC (.int 1)))) aNil)))) (gSubsW (eVar 8) (eUn gNeg (eC (.int 1)))))
      (sIf (eBl (eBin gEqL (eVar 8) (eLst (aCons (eC (.str [])) aNil))))
        (sDrop (eBM "list" gAppend (eVar 5) (aCons (eC (.str [])) aNil)))
        (sDrop (eBM "list" gExtend (eVar 5) (aCons (eBin gAdd (eBin gMul (eLst (aCons (eC (.str [])) aNil)) (eCallB gIntT (aCons (eBin gGtW (eVar 6) (eC (.int 0))) aNil))) (eCall Z4n [] (aCons (eVar 8) (aCons (eVar 3) (aCons (eVar 2) (aCons (eBin gEq (eVar 6) (eC (.int 0))) aNil)))))) aNil)))))))
def Zgg : FS :=
  (bCons (sSet 4 (eIf (eBl (eBin gEq (eVar 1) (eC (.str [100,111,117,98,108,101])))) (eLst (aCons (eVar 0) aNil)) (eBM "str" gSplit (eVar 0) (aCons (eC (.str [10])) aNil))))
    (bCons (sSet 5 (eLst aNil))
    (bCons (sFor (iEnmA (aCons (eVar 4) aNil)) (gTp 2 (gsCons (gNm 6) (gsCons (gNm 7) gsNil))) Zdg)
    (sRet (eBM "str" gJoin (eC (.str [10])) (aCons (eVar 5) aNil))))))
def Za2 : FF := runF 10 Zgg
def Z8v : FS :=
  (bCons (sSet 5 (eAnd (eBin gNe (eVar 4) (eC (.str []))) (eBin gNotInW (eBin gIxW (eVar 4) (eC (.int 0))) (eC (.tup Z65)))))
      (bCons (sIf (Fx.tAnd (eTru (eVar 1)) (Fx.tAnd (eTru (eVar 5)) (eTru (eVar 3))))
        (sDrop (eBM "list" gAppend (eVar 2) (aCons (eC (.str [])) aNil)))
        sPass)
      (bCons (sIf (eBl (eBin gNe (eVar 4) (eC (.str []))))
        (sSet 3 (eVar 5))
        sPass)
      (sDrop (eBM "list" gAppend (eVar 2) (aCons (eVar 4) aNil))))))
def Zio : FS :=
  (bCons (sPar [2,3] (aCons (eLst aNil) (aCons (eC (.bl false)) aNil)))
    (bCons (sFor (iAny (eBM "str" gSplit (eVar 0) (aCons (eC (.str [10])) aNil))) (gNm 4) Z8v)
    (sRet (eVar 2))))
def Z4o : FF := runF 6 Zio
def Zgh : FS :=
  (sRet (eAnd (eVar 1) (eBin gNotInW (eSl (eVar 0) oNone (oSome (eC (.int 1)))) (eC (.tup Z65)))))
def Za3 : FF := runF 2 Zgh
def Vb : FE :=
  (eIf (Fx.tAnd (eBl (eBin gGtW (eVar 3) (eC (.int 0)))) (eTru (eCall Za3 [] (aCons (eVar 15) (aCons (eBin gEq (eVar 1) (eC (.str [102,111,108,100,101,100]))) aNil))))) (eCall Z8a [] (aCons (eVar 15) aNil)) (eLst (aCons (eVar 15) aNil)))
def Ji : FE :=
  (eCall Jc [] (aCons (eVar 16) aNil))
def U7 : FE :=
  (eCallB gAny (aCons (eLc [16] [16] (iAny (eVar 9)) eYes Ji) aNil))
def U8 : FS :=
  (sDrop (eBM "list" gExtend (eVar 11) (aCons (eIf (eBl (eBin gEqL (eVar 9) (eLst (aCons (eC (.str [])) aNil)))) (eLst (aCons (eC (.str [])) aNil)) (eCall Z4n [] (aCons (eVar 9) (aCons (eVar 3) (aCons (eBin gAdd (eVar 2) (eCallB gIntT (aCons (eVar 10) aNil))) (aCons (eC (.bl false)) aNil)))))) aNil)))
def U9 : FE :=
  (eVar 15)
def Ua : FT :=
  (eBl (eBin gNe (eVar 15) (eC (.str []))))
def Z43 : FS :=
  (bCons (sSet 5 (eBM "str" gRstrip (eVar 0) (aCons (eC (.str [10])) aNil)))
    (bCons (sSet 6 (eBin gSub (eCallB gLen (aCons (eVar 0) aNil)) (eCallB gLen (aCons (eVar 5) aNil))))
    (bCons (sIf (eBl (eBin gEq (eVar 5) (eC (.str []))))
      (sRet (eBin gAdd (eBin gAdd (eKdI Uq (eVar 1)) (eBin gIxW (eLst (aCons (eC (.str [45])) (aCons (eC (.str [43])) aNil))) (eCallB gIntT (aCons (eBin gGtW (eVar 6) (eC (.int 0))) aNil)))) (eBin gMul (eC (.str [10])) (eVar 6))))
      sPass)
    (bCons (sSet 7 (eCall Z4o [] (aCons (eVar 5) (aCons (eBin gEq (eVar 1) (eC (.str [102,111,108,100,101,100]))) aNil))))
    (bCons (sSet 8 (eLc [15] [15] (iAny (eVar 7)) eYes Vb))
    (bCons (sSet 10 (eAnd (eBin gEq (eVar 2) (eC (.int 0))) (eCallB gAny (aCons (eLc [9] [9] (iAny (eVar 8)) eYes U7) aNil))))
    (bCons (sSet 11 (eLst aNil))
    (bCons (sFor (iAny (eVar 8)) (gNm 9) U8)
    (bCons (sSet 12 (eBin gIxW (eLc [15] [15] (iAny (eVar 7)) Ua U9) (eC (.int 0))))
    (bCons (sSet 13 (eIf (eBl (eBin gEq (eBin gIxW (eVar 12) (eC (.int 0))) (eC (.str [32])))) (eCallB gStr (aCons (eBin gAdd (eVar 4) (eCallB gIntT (aCons (eVar 10) aNil))) aNil)) (eC (.str []))))
    (bCons (sSet 14 (eBin gIxW (eLst (aCons (eC (.str [45])) (aCons (eC (.str [])) (aCons (eC (.str [43])) aNil)))) (eCallB gMin (aCons (eC (.int 2)) (aCons (eVar 6) aNil)))))
    (sRet (eBin gAdd (eBin gAdd (eBin gAdd (eBin gAdd (eBin gAdd (eKdI Uq (eVar 1)) (eVar 13)) (eVar 14)) (eC (.str [10]))) (eBM "str" gJoin (eC (.str [10])) (aCons (eVar 11) aNil))) (eBin gMul (eC (.str [10])) (eCallB gMax (aCons (eC (.int 0)) (aCons (eBin gSub (eVar 6) (eC (.int 1))) aNil)))))))))))))))))
def Z1a : FF := runF 17 Z43
def Zf5 : FS :=
  (bCons (sIf (tKdIn Uq false (eVar 1))
      (sRet (eCall Z1a [] (aCons (eVar 0) (aCons (eVar 1) (aCons (eVar 3) (aCons (eVar 4) (aCons (eVar 5) aNil)))))))
      sPass)
    (sRet (eCall Za2 [] (aCons (eVar 0) (aCons (eVar 1) (aCons (eVar 3) (aCons (eIf (eBl (eBin gInW (eVar 2) (eC (.tup Z4m)))) (eC (.int 0)) (eVar 4)) aNil)))))))
def Za4 : FF := runF 6 Zf5
def Za5 : FE :=
  (eBin gInW (eSl (eVar 3) oNone (oSome (eC (.int 1)))) (eC (.tup Z65)))
def Za6 : FE :=
  (eBin gInW (eSl (eVar 3) (oSome (eUn gNeg (eC (.int 1)))) oNone) (eC (.tup Z65)))
def Zdh : FS :=
  (bCons (sSet 2 (eBM "str" gSplit (eVar 0) (aCons (eC (.str [10])) aNil)))
    (bCons (sIf (Fx.tAnd (eBl (eBin gGtW (eCallB gLen (aCons (eVar 2) aNil)) (eC (.int 1)))) (eBl (eBin gInW (eVar 1) (eC (.tup Z4m)))))
      (sRet (eC (.bl false)))
      sPass)
    (bCons (sIf (eTru (eCallB gAny (aCons (eLc [3] [3] (iAny (eSl (eVar 2) (oSome (eC (.int 1))) oNone)) eYes Za5) aNil)))
      (sRet (eC (.bl false)))
      sPass)
    (sRet (eNot (eCallB gAny (aCons (eLc [3] [3] (iAny (eSl (eVar 2) oNone (oSome (eUn gNeg (eC (.int 1)))))) eYes Za6) aNil)))))))
def Z7a : FF := runF 4 Zdh
def Zkh : FS :=
  (sRet (eAnd (eChain gLeW gLeW (eC (.str [33])) (eVar 0) (eC (.str [126]))) (eNot (eAnd (eBin gInW (eVar 1) (eC (.tup Z76))) (eBin gInW (eVar 0) (eC (.str Z89)))))))
def Z0m : FF := runF 2 Zkh
def Zb5 : FS :=
  (bCons (sPar [3,4,5] (aCons (eBin gIxW (eVar 0) (eVar 1)) (aCons (eSl (eSl (eVar 0) oNone (oSome (eVar 1))) (oSome (eUn gNeg (eC (.int 1)))) oNone) (aCons (eBin gIxW (eBin gAdd (eVar 0) (eKdI Zde (eVar 2))) (eBin gAdd (eVar 1) (eC (.int 1)))) aNil))))
    (bCons (sSet 6 (eBin gEq (eVar 1) (eBin gSub (eCallB gLen (aCons (eVar 0) aNil)) (eC (.int 1)))))
    (bCons (sIf (eBl (eBin gEq (eVar 3) (eC (.str [32]))))
      (sRet (eAnd (eBin gNotInW (eVar 4) (eTup (aCons (eC (.str [])) (aCons (eC (.str [10])) aNil)))) (eAnd (eBin gNe (eVar 5) (eC (.str [10]))) (eNot (eVar 6)))))
      sPass)
    (bCons (sIf (eBl (eBin gEq (eVar 3) (eC (.str [10]))))
      (sRet (eAnd (eBin gNotInW (eVar 2) (eC (.tup Z4m))) (eAnd (eBin gNe (eVar 4) (eC (.str []))) (eNot (eVar 6)))))
      sPass)
    (bCons (sIf (Fx.tOr (Fx.tAnd (eBl (eBin gEq (eVar 1) (eC (.int 0)))) (eBl (eBin gInW (eVar 3) (eC (.str Qc))))) (eBl (eBin gEq (eVar 3) (eC (.str [58])))))
      (sRet (eCall Z0m [] (aCons (eVar 5) (aCons (eKdI Z26 (eVar 2)) aNil))))
      sPass)
    (bCons (sIf (Fx.tOr (Fx.tAnd (eBl (eBin gEq (eVar 3) (eC (.str [35])))) (Fx.tNot (eTru (eCall Z79 [] (aCons (eVar 4) aNil))))) (Fx.tAnd (eBl (eBin gEq (eVar 1) (eC (.int 0)))) (eBl (eBin gInW (eVar 3) (eC (.str Z0k))))))
      (sRet (eC (.bl false)))
      sPass)
    (sRet (eCall Z0m [] (aCons (eVar 3) (aCons (eKdI Z26 (eVar 2)) aNil))))))))))
def Z5c : FF := runF 7 Zb5
def Zb6 : FE :=
  (eCall Z5c [] (aCons (eVar 0) (aCons (eVar 3) (aCons (eVar 2) aNil))))
def Z8w : FS :=
  (bCons (sIf (eBl (eBin gEq (eVar 1) (eC (.str [112,108,97,105,110]))))
      (sRet (eAnd (eBin gNe (eVar 0) (eC (.str []))) (eCallB gAll (aCons (eLc [3] [3] (iRng (aCons (eCallB gLen (aCons (eVar 0) aNil)) aNil)) eYes Zb6) aNil))))
      sPass)
    (bCons (sIf (eBl (eBin gEq (eVar 1) (eC (.str [115,105,110,103,108,101]))))
      (sRet (eCall Z7a [] (aCons (eVar 0) (aCons (eVar 2) aNil))))
      sPass)
    (sRet (eOr (eBin gEq (eVar 1) (eC (.str [100,111,117,98,108,101]))) (eBin gEq (eVar 2) (eC (.str [98,108,111,99,107])))))))
def Z1b : FF := runF 4 Z8w
def Zf6 : FS :=
  (bCons (sDrop (eCall Nu [] (aCons (eVar 0) aNil)))
    (bCons (sDrop (eCall Qe [] (aCons (eVar 1) (aCons (eVar 2) aNil))))
    (bCons (sDrop (eCall Vq [] (aCons (eVar 3) (aCons (eVar 4) (aCons (eVar 5) aNil)))))
    (bCons (sIf (Fx.tNot (eTru (eCall Z1b [] (aCons (eVar 0) (aCons (eVar 1) (aCons (eVar 2) aNil))))))
      (sRaise0 "NoFit")
      sPass)
    (sRet (eCall Za4 [] (aCons (eVar 0) (aCons (eVar 1) (aCons (eVar 2) (aCons (eVar 3) (aCons (eVar 4) (aCons (eVar 5) aNil))))))))))))
def Qg : FF := runF 6 Zf6
def Z5d : FS :=
  (sRet (eBin gMod (eCallB gIntT (aCons (eBin gMod (eCallB gIntT (aCons (eBin gMul (eVar 3) (eBin gAdd (eBin gDiv (eVar 3) (eC (.int 2003))) (eC (.int 40692)))) aNil)) (eC (.int 2147483399))) aNil)) (eVar 1)))
def Z5e : FS :=
  (bCons (sSet 3 (eBin gMod (eCallB gIntT (aCons (eBin gMul (eVar 3) (eBin gAdd (eBin gDiv (eVar 3) (eC (.int 1009))) (eC (.int 69621)))) aNil)) (eC (.int 2147483647))))
    Z5d)
def Z5f : FS :=
  (bCons (sSet 3 (eBin gMod (eCallB gIntT (aCons (eBin gMul (eBin gAdd (eBin gAdd (eBin gIxW (eVar 0) (eC (.int 1))) (eBin gMul (eC (.int 7919)) (eBin gIxW (eVar 0) (eC (.int 2))))) (eC (.int 1))) (eC (.int 48271))) aNil)) (eC (.int 2147483647))))
    Z5e)
def Z5g : FS :=
  (bCons (sAsg (eBin gAdd (eBin gIxW (eVar 0) (eC (.int 2))) (eC (.int 1))) (gSubsW (eVar 0) (eC (.int 2))))
    Z5f)
def Jj : FS :=
  (bCons (sIf (eBl (eBin gGtW (eBin gIxW (eVar 0) (eC (.int 0))) (eC (.int 0))))
      (bCons (sSet 2 (eBin gMod (eCallB gIntT (aCons (eBin gIxW (eVar 0) (eC (.int 0))) aNil)) (eVar 1)))
      (bCons (sAsg (eBin gDiv (eBin gIxW (eVar 0) (eC (.int 0))) (eVar 1)) (gSubsW (eVar 0) (eC (.int 0))))
      (sRet (eVar 2))))
      sPass)
    Z5g)
def Z1c : FS :=
  (bCons (sIf (eBl (eBin gEq (eCallB gLen (aCons (eVar 0) aNil)) (eC (.int 1))))
      (bCons (sDrop (eBM "list" gExtend (eVar 0) (aCons (eLst (aCons (eBin gMod (eCallB gIntT (aCons (eBin gIxW (eVar 0) (eC (.int 0))) aNil)) (eC (.int 2147483647))) (aCons (eC (.int 0)) aNil))) aNil)))
      (sAsg (eBin gIxW (eLst (aCons (eC (.int 0)) (aCons (eBin gIxW (eVar 0) (eC (.int 0))) aNil))) (eCallB gIntT (aCons (eBin gGeW (eBin gIxW (eVar 0) (eC (.int 0))) (eBin gPow (eC (.int 10)) (eC (.int 18)))) aNil))) (gSubsW (eVar 0) (eC (.int 0)))))
      sPass)
    Jj)
def Yg : FF := runF 4 Z1c
def Zc8 : FS :=
  (sRet (eBin gIxW (eVar 1) (eCall Yg [] (aCons (eVar 0) (aCons (eCallB gLen (aCons (eVar 1) aNil)) aNil)))))
def Xl : FF := runF 2 Zc8
def Z7b : FS :=
  (bCons (sSet 4 (eIf (eBl (eBin gNeL (eVar 2) (eLst aNil))) (eCall Xl [] (aCons (eVar 0) (aCons (eLst (aCons (eC (.int 1)) (aCons (eC (.int 1)) (aCons (eC (.int 2)) (aCons (eC (.int 3)) aNil))))) aNil))) (eCall Xl [] (aCons (eVar 0) (aCons (eLst (aCons (eC (.int 0)) (aCons (eC (.int 0)) (aCons (eC (.int 1)) (aCons (eC (.int 2)) aNil))))) aNil)))))
      (sDrop (eBM "list" gAppend (eVar 2) (aCons (eTup (aCons (eVar 4) (aCons (eCall Xl [] (aCons (eVar 0) (aCons (eVar 1) aNil))) aNil))) aNil))))
def Zgi : FS :=
  (bCons (sSet 1 (eLst (aCons (eC (.str [97])) (aCons (eC (.str [98,32,99])) (aCons (eC (.str [100,32,32,101])) (aCons (eC (.str [32,102])) (aCons (eC (.str [32,32])) (aCons (eC (.str [9,103])) (aCons (eC (.str [45,45,45,32,104])) (aCons (eC (.str [46,46,46])) (aCons (eC (.str [105,32])) (aCons (eC (.str [35,106])) (aCons (eC (.str [45,32,107])) aNil)))))))))))))
    (bCons (sSet 2 (eLst aNil))
    (bCons (sFor (iRng (aCons (eCall Yg [] (aCons (eVar 0) (aCons (eC (.int 6)) aNil))) aNil)) (gNm 3) Z7b)
    (sRet (eVar 2)))))
def Z31 : FF := runF 5 Zgi
def Qh : FE :=
  (eVar 5)
def Qi : FT :=
  (eBl (eBin gInW (eSl (eBin gAdd (eVar 5) (eC (.str [32]))) oNone (oSome (eC (.int 4)))) (eTup (aCons (eC (.str [45,45,45,32])) (aCons (eC (.str [46,46,46,32])) aNil)))))
def Z32 : FS :=
  (bCons (sSet 10 (eAnd (eBin gNotInW (eBin gIxW (eVar 5) (eC (.int 0))) (eC (.str [32,9]))) (eBin gNotInW (eBin gIxW (eVar 8) (eC (.int 0))) (eC (.str [32,9])))))
      (bCons (sSet 11 (eIf (Fx.tOr (eBl (eBin gEq (eVar 9) (eC (.int 0)))) (eTru (eVar 10))) (eVar 4) (eBin gSub (eVar 4) (eC (.int 1)))))
      (bCons (sSet 7 (eBin gAdd (eBin gAdd (eBin gAdd (eVar 7) (eBin gMul (eC (.str [10])) (eBin gAdd (eVar 11) (eC (.int 1))))) (eBin gMul (eC (.str [32])) (eBin gAdd (eVar 2) (eVar 6)))) (eVar 5)))
      (sSet 8 (eVar 5)))))
def Z67 : FS :=
  (bCons (sIf (eBl (eBin gEqL (eVar 0) (eLst aNil)))
      (sRet (eBin gAdd (eBin gAdd (eC (.str [62])) (eBin gIxW (eLst (aCons (eC (.str [45])) (aCons (eC (.str [43])) aNil))) (eCallB gIntT (aCons (eBin gGtW (eVar 1) (eC (.int 0))) aNil)))) (eBin gMul (eC (.str [10])) (eVar 1))))
      sPass)
    (bCons (sSet 6 (eCallB gIntT (aCons (eAnd (eBin gEq (eVar 2) (eC (.int 0))) (eBin gNeL (eLc [4,5] [4,5] (iAny (eVar 0)) Qi Qh) (eLst aNil))) aNil)))
    (bCons (sSet 7 (eBin gAdd (eBin gAdd (eC (.str [62])) (eBin gMul (eCallB gStr (aCons (eBin gAdd (eVar 3) (eVar 6)) aNil)) (eCallB gIntT (aCons (eBin gEq (eBin gIxW (eBin gIxW (eBin gIxW (eVar 0) (eC (.int 0))) (eC (.int 1))) (eC (.int 0))) (eC (.str [32]))) aNil)))) (eBin gIxW (eLst (aCons (eC (.str [45])) (aCons (eC (.str [])) (aCons (eC (.str [43])) aNil)))) (eCallB gMin (aCons (eVar 1) (aCons (eC (.int 2)) aNil))))))
    (bCons (sSet 8 (eC (.str [32])))
    (bCons (sFor (iEnmA (aCons (eVar 0) aNil)) (gTp 2 (gsCons (gNm 9) (gsCons (gTp 2 (gsCons (gNm 4) (gsCons (gNm 5) gsNil))) gsNil))) Z32)
    (sRet (eBin gAdd (eVar 7) (eBin gMul (eC (.str [10])) (eCallB gMax (aCons (eC (.int 0)) (aCons (eBin gSub (eVar 1) (eC (.int 1))) aNil)))))))))))
def Z0n : FF := runF 12 Z67
def Z7c : FS :=
  (bCons (sFldS ["Source"] "text" (eVar 0) (eVar 1))
    (bCons (sFldS ["Source"] "length" (eVar 0) (eCallB gLen (aCons (eVar 1) aNil)))
    (sFldS ["Source"] "far" (eVar 0) (eC (.int 0)))))
def Wg : FF := runF 2 Z7c
def Za7 : FS :=
  (sRet (eSl (eFld ["Source"] "text" (eVar 0)) (oSome (eVar 1)) (oSome (eBin gAdd (eVar 1) (eC (.int 1))))))
def Zw : FF := runF 2 Za7
def Ve : FS :=
  (sAug 1 (eC (.int 1)) gIAdd)
def N7 : FS :=
  (bCons (sWhile Lim (eBl (eBin gEq (eMeth "Source" "at" Zw [] (eVar 0) (aCons (eVar 1) aNil)) (eC (.str [32])))) Ve)
    (sRet (eVar 1)))
def Zz : FF := runF 2 N7
def Jd : FS :=
  (sRet (eOr (eBin gEq (eVar 1) (eC (.int 0))) (eBin gEq (eBin gIxW (eFld ["Source"] "text" (eVar 0)) (eBin gSub (eVar 1) (eC (.int 1)))) (eC (.str [10])))))
def Xz : FF := runF 2 Jd
def Jw : FS :=
  (sRet (eAnd (eMeth "Source" "is_begin" Xz [] (eVar 0) (aCons (eVar 1) aNil)) (eAnd (eBin gInW (eSl (eFld ["Source"] "text" (eVar 0)) (oSome (eVar 1)) (oSome (eBin gAdd (eVar 1) (eC (.int 3))))) (eVar 2)) (eBin gInW (eMeth "Source" "at" Zw [] (eVar 0) (aCons (eBin gAdd (eVar 1) (eC (.int 3))) aNil)) (eTup (aCons (eC (.str [])) (aCons (eC (.str [32])) (aCons (eC (.str [10])) aNil))))))))
def W9 : FF := runF 3 Jw
def Z7d : FS :=
  (sFldS ["Source"] "far" (eVar 0) (eCallB gMax (aCons (eFld ["Source"] "far" (eVar 0)) (aCons (eVar 1) aNil))))
def Y0 : FF := runF 2 Z7d
def Ql : FS :=
  (bCons (sIf (eTru (eMeth "Source" "is_mark" W9 [(.tup [(.str [45,45,45]), (.str [46,46,46])])] (eVar 0) (aCons (eVar 1) aNil)))
      (bCons (sDrop (eMeth "Source" "miss" Y0 [] (eVar 0) (aCons (eBin gAdd (eVar 1) (eC (.int 3))) aNil)))
      (sRet (eC (.bl true))))
      sPass)
    (sRet (eC (.bl false))))
def Zy : FF := runF 2 Ql
def Zki : FS :=
  (bCons (sIf (eTru (eMeth "Source" "is_barred" Zy [] (eVar 0) (aCons (eVar 1) aNil)))
      (sRet (eC (.bl false)))
      sPass)
    (bCons (sSet 4 (eMeth "Source" "at" Zw [] (eVar 0) (aCons (eVar 1) aNil)))
    (bCons (sIf (eBl (eBin gEq (eVar 4) (eC (.str [58]))))
      (bCons (sIf (Fx.tNot (eTru (eCall Z0m [] (aCons (eMeth "Source" "at" Zw [] (eVar 0) (aCons (eBin gAdd (eVar 1) (eC (.int 1))) aNil)) (aCons (eVar 2) aNil)))))
        (bCons (sDrop (eMeth "Source" "miss" Y0 [] (eVar 0) (aCons (eBin gAdd (eVar 1) (eC (.int 1))) aNil)))
        (sRet (eC (.bl false))))
        sPass)
      (sRet (eC (.bl true))))
      sPass)
    (bCons (sIf (Fx.tOr (Fx.tNot (eTru (eCall Z0m [] (aCons (eVar 4) (aCons (eVar 2) aNil))))) (Fx.tAnd (eBl (eBin gEq (eVar 4) (eC (.str [35])))) (Fx.tNot (eTru (eVar 3)))))
      (bCons (sDrop (eMeth "Source" "miss" Y0 [] (eVar 0) (aCons (eVar 1) aNil)))
      (sRet (eC (.bl false))))
      sPass)
    (sRet (eC (.bl true)))))))
def Za8 : FF := runF 5 Zki
def Zgj : FS :=
  (bCons (sSet 3 (eMeth "Source" "past_blanks" Zz [] (eVar 0) (aCons (eVar 1) aNil)))
      (bCons (sIf (Fx.tNot (eTru (eCall Za8 [] (aCons (eVar 0) (aCons (eVar 3) (aCons (eVar 2) (aCons (eBin gEq (eVar 1) (eVar 3)) aNil)))))))
        (sRet (eVar 1))
        sPass)
      (sSet 1 (eBin gAdd (eVar 3) (eC (.int 1))))))
def Zkj : FS :=
  (sWhile Lim (eTru (eC (.bl true))) Zgj)
def Za9 : FF := runF 4 Zkj
def Ziq : FS :=
  (bCons (sIf (eTru (eMeth "Source" "is_barred" Zy [] (eVar 0) (aCons (eVar 1) aNil)))
      (sRet (eC (.bl false)))
      sPass)
    (bCons (sSet 3 (eMeth "Source" "at" Zw [] (eVar 0) (aCons (eVar 1) aNil)))
    (bCons (sIf (Fx.tAnd (eBl (eBin gNe (eVar 3) (eC (.str [])))) (eBl (eBin gInW (eVar 3) (eC (.str Qc)))))
      (bCons (sIf (Fx.tNot (eTru (eCall Z0m [] (aCons (eMeth "Source" "at" Zw [] (eVar 0) (aCons (eBin gAdd (eVar 1) (eC (.int 1))) aNil)) (aCons (eVar 2) aNil)))))
        (bCons (sDrop (eMeth "Source" "miss" Y0 [] (eVar 0) (aCons (eBin gAdd (eVar 1) (eC (.int 1))) aNil)))
        (sRet (eC (.bl false))))
        sPass)
      (sRet (eC (.bl true))))
      sPass)
    (bCons (sIf (Fx.tOr (Fx.tNot (eTru (eCall Z0m [] (aCons (eVar 3) (aCons (eVar 2) aNil))))) (eBl (eBin gInW (eVar 3) (eC (.str Z0k)))))
      (bCons (sDrop (eMeth "Source" "miss" Y0 [] (eVar 0) (aCons (eVar 1) aNil)))
      (sRet (eC (.bl false))))
      sPass)
    (sRet (eC (.bl true)))))))
def Zc9 : FF := runF 4 Ziq
def Z68 : FS :=
  (sIf (eBl (eBin gNe (eMeth "Source" "at" Zw [] (eVar 0) (aCons (eBin gAdd (eVar 1) (eVar 3)) aNil)) (eC (.str [32]))))
        (sRet (eMeth "Source" "miss" Y0 [] (eVar 0) (aCons (eBin gAdd (eVar 1) (eVar 3)) aNil)))
        sPass)
def Z8b : FS :=
  (bCons (sFor (iRng (aCons (eVar 2) aNil)) (gNm 3) Z68)
    (sRet (eBin gAdd (eVar 1) (eCallB gMax (aCons (eC (.int 0)) (aCons (eVar 2) aNil))))))
def Z27 : FF := runF 4 Z8b
def Zb7 : FS :=
  (bCons (sSet 3 (eBin gAdd (eMeth "Source" "past_blanks" Zz [] (eVar 0) (aCons (eVar 3) aNil)) (eC (.int 1))))
      (sAug 4 (eC (.int 1)) gIAdd))
def Zf7 : FS :=
  (bCons (sSet 3 (eMeth "Source" "past_blanks" Zz [] (eVar 0) (aCons (eVar 1) aNil)))
    (bCons (sIf (eBl (eBin gNe (eMeth "Source" "at" Zw [] (eVar 0) (aCons (eVar 3) aNil)) (eC (.str [10]))))
      (sRet (eMeth "Source" "miss" Y0 [] (eVar 0) (aCons (eVar 3) aNil)))
      sPass)
    (bCons (sAug 3 (eC (.int 1)) gIAdd)
    (bCons (sSet 4 (eC (.int 0)))
    (bCons (sWhile Lim (eBl (eBin gEq (eMeth "Source" "at" Zw [] (eVar 0) (aCons (eMeth "Source" "past_blanks" Zz [] (eVar 0) (aCons (eVar 3) aNil)) aNil)) (eC (.str [10])))) Zb7)
    (bCons (sSet 5 (eMeth "Source" "indented" Z27 [] (eVar 0) (aCons (eVar 3) (aCons (eVar 2) aNil))))
    (bCons (sIf (eBl (eBin gIs (eVar 5) (eC .non)))
      (sRet (eC .non))
      sPass)
    (sRet (eTup (aCons (eMeth "Source" "past_blanks" Zz [] (eVar 0) (aCons (eVar 5) aNil)) (aCons (eIf (eTru (eVar 4)) (eBin gMul (eC (.str [10])) (eVar 4)) (eC (.str [32]))) aNil)))))))))))
def Z8x : FF := runF 6 Zf7
def Zkk : FS :=
  (bCons (sSet 6 (eCall Z8x [] (aCons (eVar 0) (aCons (eVar 4) (aCons (eVar 2) aNil)))))
      (bCons (sIf (Fx.tOr (eBl (eBin gIs (eVar 6) (eC .non))) (Fx.tNot (eTru (eCall Za8 [] (aCons (eVar 0) (aCons (eBin gIxW (eVar 6) (eC (.int 0))) (aCons (eVar 3) (aCons (eC (.bl false)) aNil))))))))
        sBrk
        sPass)
      (bCons (sSet 4 (eCall Za9 [] (aCons (eVar 0) (aCons (eBin gAdd (eBin gIxW (eVar 6) (eC (.int 0))) (eC (.int 1))) (aCons (eVar 3) aNil)))))
      (sAug 5 (eBin gAdd (eBin gIxW (eVar 6) (eC (.int 1))) (eSl (eFld ["Source"] "text" (eVar 0)) (oSome (eBin gIxW (eVar 6) (eC (.int 0)))) (oSome (eVar 4)))) gIAdd))))
def Zo9 : FS :=
  (bCons (sIf (Fx.tNot (eTru (eCall Zc9 [] (aCons (eVar 0) (aCons (eVar 1) (aCons (eVar 3) aNil))))))
      (sRet (eC .non))
      sPass)
    (bCons (sSet 4 (eCall Za9 [] (aCons (eVar 0) (aCons (eBin gAdd (eVar 1) (eC (.int 1))) (aCons (eVar 3) aNil)))))
    (bCons (sSet 5 (eSl (eFld ["Source"] "text" (eVar 0)) (oSome (eVar 1)) (oSome (eVar 4))))
    (bCons (sWhile Lim (eBl (eBin gNotInW (eVar 3) (eC (.tup Z30)))) Zkk)
    (sRet (eTup (aCons (eVar 4) (aCons (eVar 5) aNil))))))))
def Zkl : FF := runF 7 Zo9
def Z44 : FS :=
  (sAug 1 (eC (.int 1)) gIAdd)
def Z69 : FS :=
  (bCons (sWhile Lim (eBl (eBin gInW (eMeth "Source" "at" Zw [] (eVar 0) (aCons (eVar 1) aNil)) (eTup (aCons (eC (.str [32])) (aCons (eC (.str [9])) aNil))))) Z44)
    (sRet (eVar 1)))
def Ur : FF := runF 2 Z69
def Zb8 : FS :=
  (bCons (sSet 4 (eMeth "Source" "past_blanks" Zz [] (eVar 0) (aCons (eVar 1) aNil)))
      (bCons (sIf (Fx.tAnd (eBl (eBin gLt (eBin gSub (eVar 4) (eVar 1)) (eVar 2))) (eBl (eBin gNe (eMeth "Source" "at" Zw [] (eVar 0) (aCons (eVar 4) aNil)) (eC (.str [10])))))
        (sRet (eMeth "Source" "miss" Y0 [] (eVar 0) (aCons (eVar 4) aNil)))
        sPass)
      (bCons (sIf (eBl (eBin gGeW (eBin gSub (eVar 4) (eVar 1)) (eVar 2)))
        (sSet 4 (eMeth "Source" "past_white" Ur [] (eVar 0) (aCons (eBin gAdd (eVar 1) (eVar 2)) aNil)))
        sPass)
      (bCons (sIf (eBl (eBin gNe (eMeth "Source" "at" Zw [] (eVar 0) (aCons (eVar 4) aNil)) (eC (.str [10]))))
        (sRet (eIf (eTru (eMeth "Source" "is_barred" Zy [] (eVar 0) (aCons (eVar 1) aNil))) (eC .non) (eTup (aCons (eVar 4) (aCons (eVar 3) aNil)))))
        sPass)
      (bCons (sAug 3 (eC (.int 1)) gIAdd)
      (sSet 1 (eBin gAdd (eVar 4) (eC (.int 1)))))))))
def Zf8 : FS :=
  (bCons (sSet 3 (eC (.int 0)))
    (sWhile Lim (eTru (eC (.bl true))) Zb8))
def Z45 : FF := runF 5 Zf8
def Zdi : FS :=
  (bCons (sSet 4 (eIf (eBl (eBin gInW (eVar 3) (eC (.tup Z30)))) (eC .non) (eCall Z45 [] (aCons (eVar 0) (aCons (eBin gAdd (eVar 1) (eC (.int 1))) (aCons (eVar 2) aNil))))))
    (bCons (sIf (eBl (eBin gIs (eVar 4) (eC .non)))
      (sRet (eMeth "Source" "miss" Y0 [] (eVar 0) (aCons (eVar 1) aNil)))
      sPass)
    (sRet (eTup (aCons (eBin gIxW (eVar 4) (eC (.int 0))) (aCons (eIf (eTru (eBin gIxW (eVar 4) (eC (.int 1)))) (eBin gMul (eC (.str [10])) (eBin gIxW (eVar 4) (eC (.int 1)))) (eC (.str [32]))) aNil))))))
def Z7e : FF := runF 5 Zdi
def Zkm : FS :=
  (bCons (sSet 4 (eMeth "Source" "at" Zw [] (eVar 0) (aCons (eBin gAdd (eVar 1) (eC (.int 1))) aNil)))
    (bCons (sIf (Fx.tAnd (eBl (eBin gEq (eVar 4) (eC (.str [10])))) (eBl (eBin gNotInW (eVar 3) (eC (.tup Z30)))))
      (bCons (sSet 5 (eCall Z45 [] (aCons (eVar 0) (aCons (eBin gAdd (eVar 1) (eC (.int 2))) (aCons (eVar 2) aNil)))))
      (sRet (eIf (eBl (eBin gIs (eVar 5) (eC .non))) (eC .non) (eTup (aCons (eBin gIxW (eVar 5) (eC (.int 0))) (aCons (eBin gMul (eC (.str [10])) (eBin gIxW (eVar 5) (eC (.int 1)))) aNil))))))
      sPass)
    (bCons (sIf (tKdIn Za1 true (eVar 4))
      (sRet (eMeth "Source" "miss" Y0 [] (eVar 0) (aCons (eBin gAdd (eVar 1) (eC (.int 1))) aNil)))
      sPass)
    (sRet (eTup (aCons (eBin gAdd (eVar 1) (eC (.int 2))) (aCons (eKdI Za1 (eVar 4)) aNil)))))))
def Zf9 : FF := runF 6 Zkm
def Zir : FS :=
  (bCons (sSet 6 (eMeth "Source" "at" Zw [] (eVar 0) (aCons (eVar 1) aNil)))
      (bCons (sIf (Fx.tAnd (eBl (eBin gEq (eVar 6) (eVar 4))) (Fx.tOr (eBl (eBin gEq (eVar 4) (eC (.str [34])))) (eBl (eBin gNe (eMeth "Source" "at" Zw [] (eVar 0) (aCons (eBin gAdd (eVar 1) (eC (.int 1))) aNil)) (eVar 4)))))
        (sRet (eTup (aCons (eBin gAdd (eVar 1) (eC (.int 1))) (aCons (eVar 5) aNil))))
        sPass)
      (bCons (sIf (eBl (eBin gEq (eVar 6) (eC (.str []))))
        (sRet (eMeth "Source" "miss" Y0 [] (eVar 0) (aCons (eVar 1) aNil)))
        sPass)
      (bCons (sSet 7 (eMeth "Source" "past_white" Ur [] (eVar 0) (aCons (eVar 1) aNil)))
      (bCons (sSet 8 (eTup (aCons (eCallB gMax (aCons (eVar 7) (aCons (eBin gAdd (eVar 1) (eC (.int 1))) aNil))) (aCons (eSl (eFld ["Source"] "text" (eVar 0)) (oSome (eVar 1)) (oSome (eCallB gMax (aCons (eVar 7) (aCons (eBin gAdd (eVar 1) (eC (.int 1))) aNil))))) aNil))))
      (bCons (sIf (eBl (eBin gEq (eMeth "Source" "at" Zw [] (eVar 0) (aCons (eVar 7) aNil)) (eC (.str [10]))))
        (sSet 8 (eCall Z7e [] (aCons (eVar 0) (aCons (eVar 7) (aCons (eVar 2) (aCons (eVar 3) aNil))))))
        (sIf (eBl (eBin gEq (eVar 6) (eVar 4)))
          (sSet 8 (eTup (aCons (eBin gAdd (eVar 1) (eC (.int 2))) (aCons (eVar 6) aNil))))
          (sIf (Fx.tAnd (eBl (eBin gEq (eVar 6) (eC (.str [92])))) (eBl (eBin gEq (eVar 4) (eC (.str [34])))))
            (sSet 8 (eCall Zf9 [] (aCons (eVar 0) (aCons (eVar 1) (aCons (eVar 2) (aCons (eVar 3) aNil))))))
            sPass)))
      (bCons (sIf (eBl (eBin gIs (eVar 8) (eC .non)))
        (sRet (eC .non))
        sPass)
      (bCons (sAug 5 (eBin gIxW (eVar 8) (eC (.int 1))) gIAdd)
      (sSet 1 (eBin gIxW (eVar 8) (eC (.int 0))))))))))))
def Zm5 : FS :=
  (bCons (sSet 4 (eMeth "Source" "at" Zw [] (eVar 0) (aCons (eVar 1) aNil)))
    (bCons (sSet 5 (eC (.str [])))
    (bCons (sAug 1 (eC (.int 1)) gIAdd)
    (sWhile Lim (eTru (eC (.bl true))) Zir))))
def Zho : FF := runF 9 Zm5
def Z8y : FS :=
  (bCons (sFldS ["Piece"] "source" (eVar 0) (eVar 1))
    (bCons (sAsg (eTup (aCons (eVar 2) (aCons (eVar 3) aNil))) (gTp 2 (gsCons (gFld ["Piece"] "start" (eVar 0)) (gsCons (gFld ["Piece"] "n" (eVar 0)) gsNil))))
    (bCons (sFldS ["Piece"] "rows" (eVar 0) (eLst aNil))
    (bCons (sFldS ["Piece"] "empties" (eVar 0) (eC (.int 0)))
    (bCons (sAsg (eTup (aCons (eC (.int 0)) (aCons (eC (.str [])) aNil))) (gTp 2 (gsCons (gFld ["Piece"] "digit" (eVar 0)) (gsCons (gFld ["Piece"] "chomp" (eVar 0)) gsNil))))
    (sFldS ["Piece"] "end" (eVar 0) (eBin gAdd (eVar 2) (eC (.int 1)))))))))
def Vr : FF := runF 4 Z8y
def Z28 : FS :=
  (bCons (sSet 2 (eBM "str" gFind2 (eFld ["Source"] "text" (eVar 0)) (aCons (eC (.str [10])) (aCons (eVar 1) aNil))))
    (sRet (eIf (eBl (eBin gLt (eVar 2) (eC (.int 0)))) (eFld ["Source"] "length" (eVar 0)) (eVar 2))))
def Wq : FF := runF 3 Z28
def Ub : FS :=
  (bCons (sSet 2 (eMeth "Source" "past_blanks" Zz [] (eVar 0) (aCons (eVar 1) aNil)))
    (bCons (sIf (Fx.tAnd (eBl (eBin gEq (eMeth "Source" "at" Zw [] (eVar 0) (aCons (eVar 2) aNil)) (eC (.str [35])))) (Fx.tOr (eBl (eBin gGtW (eVar 2) (eVar 1))) (eTru (eMeth "Source" "is_begin" Xz [] (eVar 0) (aCons (eVar 1) aNil)))))
      (sSet 2 (eMeth "Source" "line_end" Wq [] (eVar 0) (aCons (eVar 2) aNil)))
      sPass)
    (bCons (sIf (eBl (eBin gEq (eVar 2) (eFld ["Source"] "length" (eVar 0))))
      (sRet (eVar 2))
      sPass)
    (sRet (eIf (eBl (eBin gEq (eMeth "Source" "at" Zw [] (eVar 0) (aCons (eVar 2) aNil)) (eC (.str [10])))) (eBin gAdd (eVar 2) (eC (.int 1))) (eMeth "Source" "miss" Y0 [] (eVar 0) (aCons (eVar 2) aNil)))))))
def Wn : FF := runF 3 Ub
def Yh : FS :=
  (bCons (sSet 3 (eMeth "Source" "at" Zw [] (eFld ["Piece"] "source" (eVar 0)) (aCons (eFld ["Piece"] "end" (eVar 0)) aNil)))
      (sIf (Fx.tAnd (eBl (eChain gLeW gLeW (eC (.str [49])) (eVar 3) (eC (.str [57])))) (Fx.tNot (eTru (eVar 1))))
        (bCons (sAsg (eTup (aCons (eCallB gIntT (aCons (eVar 3) aNil)) (aCons (eC (.bl true)) aNil))) (gTp 2 (gsCons (gFld ["Piece"] "digit" (eVar 0)) (gsCons (gNm 1) gsNil))))
        (sFldA ["Piece"] "end" (eVar 0) (eC (.int 1)) gIAdd))
        (sIf (Fx.tAnd (eBl (eBin gNe (eVar 3) (eC (.str [])))) (Fx.tAnd (eBl (eBin gInW (eVar 3) (eC (.str [43,45])))) (eBl (eBin gEq (eFld ["Piece"] "chomp" (eVar 0)) (eC (.str []))))))
          (bCons (sFldS ["Piece"] "chomp" (eVar 0) (eVar 3))
          (sFldA ["Piece"] "end" (eVar 0) (eC (.int 1)) gIAdd))
          sPass)))
def Z0o : FS :=
  (bCons (sSet 1 (eC (.bl false)))
    (bCons (sFor (iRng (aCons (eC (.int 2)) aNil)) (gNm 2) Yh)
    (sRet (eMeth "Source" "close" Wn [] (eFld ["Piece"] "source" (eVar 0)) (aCons (eFld ["Piece"] "end" (eVar 0)) aNil)))))
def Us : FF := runF 4 Z0o
def Xf : FS :=
  (bCons (sIf (Fx.tOr (eBl (eBin gEq (eFld ["Piece"] "chomp" (eVar 0)) (eC (.str [45])))) (Fx.tAnd (eBl (eBin gEqL (eFld ["Piece"] "rows" (eVar 0)) (eLst aNil))) (eBl (eBin gEq (eFld ["Piece"] "chomp" (eVar 0)) (eC (.str []))))))
      (sRet (eC (.str [])))
      sPass)
    (bCons (sSet 1 (eCallB gIntT (aCons (eAnd (eBin gNeL (eFld ["Piece"] "rows" (eVar 0)) (eLst aNil)) (eBin gIxW (eBin gIxW (eFld ["Piece"] "rows" (eVar 0)) (eUn gNeg (eC (.int 1)))) (eC (.int 2)))) aNil)))
    (sRet (eBin gMul (eC (.str [10])) (eBin gAdd (eVar 1) (eBin gMul (eFld ["Piece"] "empties" (eVar 0)) (eCallB gIntT (aCons (eBin gEq (eFld ["Piece"] "chomp" (eVar 0)) (eC (.str [43]))) aNil))))))))
def Yt : FF := runF 2 Xf
def Wr : FS :=
  (bCons (sAsg (eVar 5) (gTp 3 (gsCons (gNm 6) (gsCons (gNm 7) (gsCons (gNm 8) gsNil)))))
      (bCons (sSet 9 (eBin gInW (eSl (eVar 7) oNone (oSome (eC (.int 1)))) (eTup (aCons (eC (.str [32])) (aCons (eC (.str [9])) aNil)))))
      (bCons (sIf (eBl (eBin gEq (eVar 4) (eC (.int 0))))
        (sSet 2 (eBin gMul (eC (.str [10])) (eVar 6)))
        (sIf (Fx.tAnd (eTru (eVar 1)) (Fx.tAnd (Fx.tNot (eTru (eVar 3))) (Fx.tNot (eTru (eVar 9)))))
          (sAug 2 (eIf (eTru (eVar 6)) (eBin gMul (eC (.str [10])) (eVar 6)) (eC (.str [32]))) gIAdd)
          (sAug 2 (eBin gMul (eC (.str [10])) (eBin gAdd (eVar 6) (eC (.int 1)))) gIAdd)))
      (bCons (sAug 2 (eVar 7) gIAdd)
      (sSet 3 (eVar 9))))))
def Zdj : FS :=
  (bCons (sSet 2 (eC (.str [])))
    (bCons (sSet 3 (eC (.bl true)))
    (bCons (sFor (iEnmA (aCons (eFld ["Piece"] "rows" (eVar 0)) aNil)) (gTp 2 (gsCons (gNm 4) (gsCons (gNm 5) gsNil))) Wr)
    (sRet (eBin gAdd (eVar 2) (eMeth "Piece" "last_feeds" Yt [] (eVar 0) aNil))))))
def Qm : FF := runF 10 Zdj
def Y4 : FS :=
  (sIf (eBl (eBin gNe (eMeth "Source" "at" Zw [] (eVar 0) (aCons (eBin gAdd (eVar 1) (eVar 3)) aNil)) (eVar 4)))
        (sRet (eMeth "Source" "miss" Y0 [] (eVar 0) (aCons (eBin gAdd (eVar 1) (eVar 3)) aNil)))
        sPass)
def Vf : FS :=
  (bCons (sFor (iEnmA (aCons (eVar 2) aNil)) (gTp 2 (gsCons (gNm 3) (gsCons (gNm 4) gsNil))) Y4)
    (sRet (eIf (eTru (eMeth "Source" "is_mark" W9 [(.tup [(.str [45,45,45]), (.str [46,46,46])])] (eVar 0) (aCons (eVar 1) aNil))) (eBin gAdd (eVar 1) (eC (.int 3))) (eMeth "Source" "miss" Y0 [] (eVar 0) (aCons (eBin gAdd (eVar 1) (eC (.int 3))) aNil)))))
def X3 : FF := runF 5 Vf
def X8 : FS :=
  (bCons (sSet 3 (eMeth "Source" "past_blanks" Zz [] (eFld ["Piece"] "source" (eVar 0)) (aCons (eVar 1) aNil)))
      (bCons (sIf (eBl (eBin gNe (eMeth "Source" "at" Zw [] (eFld ["Piece"] "source" (eVar 0)) (aCons (eVar 3) aNil)) (eC (.str [10]))))
        sBrk
        sPass)
      (bCons (sSet 2 (eCallB gMax (aCons (eVar 2) (aCons (eBin gSub (eVar 3) (eVar 1)) aNil))))
      (sSet 1 (eBin gAdd (eVar 3) (eC (.int 1)))))))
def Z0p : FS :=
  (bCons (sIf (eBl (eBin gGtW (eFld ["Piece"] "digit" (eVar 0)) (eC (.int 0))))
      (sRet (eBin gAdd (eFld ["Piece"] "n" (eVar 0)) (eFld ["Piece"] "digit" (eVar 0))))
      sPass)
    (bCons (sSet 2 (eC (.int 0)))
    (bCons (sWhile Lim (eTru (eC (.bl true))) X8)
    (bCons (sDrop (eMeth "Source" "miss" Y0 [] (eFld ["Piece"] "source" (eVar 0)) (aCons (eVar 3) aNil)))
    (bCons (sIf (eBl (eBin gEq (eVar 3) (eFld ["Source"] "length" (eFld ["Piece"] "source" (eVar 0)))))
      (sRet (eCallB gMax3 (aCons (eBin gAdd (eFld ["Piece"] "n" (eVar 0)) (eC (.int 1))) (aCons (eVar 2) (aCons (eBin gSub (eVar 3) (eVar 1)) aNil)))))
      sPass)
    (bCons (sIf (Fx.tOr (eBl (eBin gLeW (eBin gSub (eVar 3) (eVar 1)) (eFld ["Piece"] "n" (eVar 0)))) (eTru (eMeth "Source" "is_barred" Zy [] (eFld ["Piece"] "source" (eVar 0)) (aCons (eVar 1) aNil))))
      (sRet (eCallB gMax (aCons (eBin gAdd (eFld ["Piece"] "n" (eVar 0)) (eC (.int 1))) (aCons (eVar 2) aNil))))
      sPass)
    (bCons (sIf (eBl (eBin gLeW (eVar 2) (eBin gSub (eVar 3) (eVar 1))))
      (sRet (eBin gSub (eVar 3) (eVar 1)))
      sPass)
    (bCons (sIf (eBl (eBin gEq (eVar 3) (eVar 1)))
      (bCons (sDrop (eMeth "Source" "expected_mark" X3 [] (eFld ["Piece"] "source" (eVar 0)) (aCons (eVar 1) (aCons (eC (.str [45,45,45])) aNil))))
      (sDrop (eMeth "Source" "expected_mark" X3 [] (eFld ["Piece"] "source" (eVar 0)) (aCons (eVar 1) (aCons (eC (.str [46,46,46])) aNil)))))
      sPass)
    (sRet (eC .non))))))))))
def X7 : FF := runF 4 Z0p
def Yv : FS :=
  (bCons (sPar [4,5] (aCons (eMeth "Source" "past_blanks" Zz [] (eVar 3) (aCons (eVar 1) aNil)) (aCons (eMeth "Source" "line_end" Wq [] (eVar 3) (aCons (eVar 1) aNil)) aNil)))
      (bCons (sSet 6 (eBin gLt (eVar 5) (eFld ["Source"] "length" (eVar 3))))
      (bCons (sIf (Fx.tAnd (eBl (eBin gEq (eVar 4) (eVar 5))) (eBl (eBin gLeW (eBin gSub (eVar 4) (eVar 1)) (eVar 2))))
        (sFldA ["Piece"] "empties" (eVar 0) (eCallB gIntT (aCons (eVar 6) aNil)) gIAdd)
        (sIf (Fx.tOr (eBl (eBin gLt (eBin gSub (eVar 4) (eVar 1)) (eVar 2))) (Fx.tAnd (eBl (eBin gEq (eVar 2) (eC (.int 0)))) (eTru (eMeth "Source" "is_barred" Zy [] (eVar 3) (aCons (eVar 1) aNil)))))
          (bCons (sDrop (eMeth "Source" "miss" Y0 [] (eVar 3) (aCons (eVar 4) aNil)))
          (sRet (eVar 1)))
          (bCons (sDrop (eBM "list" gAppend (eFld ["Piece"] "rows" (eVar 0)) (aCons (eTup (aCons (eFld ["Piece"] "empties" (eVar 0)) (aCons (eSl (eFld ["Source"] "text" (eVar 3)) (oSome (eBin gAdd (eVar 1) (eVar 2))) (oSome (eVar 5))) (aCons (eVar 6) aNil)))) aNil)))
          (bCons (sFldS ["Piece"] "empties" (eVar 0) (eC (.int 0)))
          (sFldS ["Piece"] "end" (eVar 0) (eVar 5))))))
      (sSet 1 (eBin gAdd (eVar 5) (eCallB gIntT (aCons (eVar 6) aNil)))))))
def Zfa : FS :=
  (bCons (sSet 3 (eFld ["Piece"] "source" (eVar 0)))
    (bCons (sWhile Lim (eBl (eBin gLt (eVar 1) (eFld ["Source"] "length" (eVar 3)))) Yv)
    (bCons (sDrop (eMeth "Source" "miss" Y0 [] (eVar 3) (aCons (eVar 1) aNil)))
    (sRet (eVar 1)))))
def Ux : FF := runF 7 Zfa
def Z7f : FS :=
  (bCons (sIf (eBl (eBin gNe (eSl (eVar 0) oNone (oSome (eC (.int 1)))) (eKdI Uq (eVar 1))))
      (sRet (eC .non))
      sPass)
    (bCons (sSet 3 (eMake "Source" Wg [] (aCons (eBin gAdd (eBin gAdd (eC (.str [32])) (eVar 0)) (eC (.str [10]))) aNil)))
    (bCons (sSet 4 (eMake "Piece" Vr [] (aCons (eVar 3) (aCons (eC (.int 1)) (aCons (eVar 2) aNil)))))
    (bCons (sSet 5 (eMeth "Piece" "read_header" Us [] (eVar 4) aNil))
    (bCons (sSet 6 (eIf (eBl (eBin gIs (eVar 5) (eC .non))) (eC .non) (eMeth "Piece" "indentation" X7 [] (eVar 4) (aCons (eVar 5) aNil))))
    (bCons (sIf (Fx.tOr (eBl (eBin gIs (eVar 6) (eC .non))) (eBl (eBin gNe (eMeth "Piece" "take" Ux [] (eVar 4) (aCons (eVar 5) (aCons (eVar 6) aNil))) (eFld ["Source"] "length" (eVar 3)))))
      (sRet (eC .non))
      sPass)
    (sRet (eMeth "Piece" "value" Qm [] (eVar 4) (aCons (eBin gEq (eVar 1) (eC (.str [102,111,108,100,101,100]))) aNil)))))))))
def Qn : FF := runF 7 Z7f
def Nv : FS :=
  (bCons (sDrop (eCall Qe [] (aCons (eVar 1) (aCons (eVar 2) aNil))))
    (bCons (sDrop (eCall Vq [] (aCons (eVar 3) (aCons (eC (.int 0)) (aCons (eVar 4) aNil)))))
    (bCons (sIf (Fx.tOr (Fx.tNot (eTru (eCall Z41 [] (aCons (eVar 0) aNil)))) (eBl (eBin gEq (eVar 0) (eC (.str [])))))
      (sRet (eC .non))
      sPass)
    (bCons (sIf (tKdIn Uq false (eVar 1))
      (sRet (eIf (eBl (eBin gEq (eVar 2) (eC (.str [98,108,111,99,107])))) (eCall Qn [] (aCons (eVar 0) (aCons (eVar 1) (aCons (eBin gSub (eVar 3) (eVar 4)) aNil)))) (eC .non)))
      sPass)
    (bCons (sIf (Fx.tNot (eTru (eBM "str" gStarts (eVar 0) (aCons (eKdI Z9b (eVar 1)) aNil))))
      (sRet (eC .non))
      sPass)
    (bCons (sPar [5,6] (aCons (eMake "Source" Wg [] (aCons (eBin gAdd (eBin gAdd (eC (.str [32])) (eVar 0)) (eKdI Zde (eVar 2))) aNil)) (aCons (eKdI Z26 (eVar 2)) aNil)))
    (bCons (sSet 7 (eIf (eBl (eBin gEq (eVar 1) (eC (.str [112,108,97,105,110])))) (eCall Zkl [] (aCons (eVar 5) (aCons (eC (.int 1)) (aCons (eVar 3) (aCons (eVar 6) aNil))))) (eCall Zho [] (aCons (eVar 5) (aCons (eC (.int 1)) (aCons (eVar 3) (aCons (eVar 6) aNil)))))))
    (sRet (eIf (Fx.tAnd (eBl (eBin gIsNot (eVar 7) (eC .non))) (eBl (eBin gEq (eBin gIxW (eVar 7) (eC (.int 0))) (eBin gAdd (eCallB gLen (aCons (eVar 0) aNil)) (eC (.int 1)))))) (eBin gIxW (eVar 7) (eC (.int 1))) (eC .non))))))))))
def Yi : FF := runF 8 Nv
def Zaa : FE :=
  (eBin gAdd (eBin gMul (eC (.str [10])) (eVar 12)) (eVar 13))
def Zdk : FS :=
  (bCons (sPar [4,5,6] (aCons (eCall Z31 [] (aCons (eVar 2) aNil)) (aCons (eCall Yg [] (aCons (eVar 2) (aCons (eC (.int 4)) aNil))) (aCons (eCall Yg [] (aCons (eVar 2) (aCons (eC (.int 10)) aNil))) aNil))))
        (bCons (sIf (eBl (eBin gEq (eVar 3) (eC (.int 9))))
          (sSet 6 (eCall Xl [] (aCons (eVar 2) (aCons (eLst (aCons (eC (.int 100)) (aCons (eC (.int 99)) (aCons (eBin gAdd (eC (.int 50)) (eCall Yg [] (aCons (eVar 2) (aCons (eC (.int 50)) aNil)))) aNil)))) aNil))))
          sPass)
        (bCons (sSet 7 (eBin gAdd (eC (.int 1)) (eCall Yg [] (aCons (eVar 2) (aCons (eCallB gMin (aCons (eC (.int 9)) (aCons (eBin gAdd (eVar 6) (eC (.int 1))) aNil))) aNil)))))
        (bCons (sSet 8 (eBin gAdd (eBM "str" gJoin (eC (.str [])) (aCons (eLc [12,13] [12,13] (iAny (eVar 4)) eYes Zaa) aNil)) (eBin gMul (eC (.str [10])) (eVar 5))))
        (bCons (sSet 9 (eCall Qg [] (aCons (eVar 8) (aCons (eC (.str [102,111,108,100,101,100])) (aCons (eC (.str [98,108,111,99,107])) (aCons (eVar 6) (aCons (eC (.int 0)) (aCons (eVar 7) aNil))))))))
        (bCons (sIf (eBl (eBin gNe (eVar 9) (eCall Z0n [] (aCons (eVar 4) (aCons (eVar 5) (aCons (eVar 6) (aCons (eVar 7) aNil)))))))
          (sRet (eC (.bl false)))
          sPass)
        (bCons (sSet 10 (eCall Qg [] (aCons (eVar 8) (aCons (eC (.str [108,105,116,101,114,97,108])) (aCons (eC (.str [98,108,111,99,107])) (aCons (eVar 6) (aCons (eC (.int 0)) (aCons (eVar 7) aNil))))))))
        (bCons (sSet 11 (eLst (aCons (eCall Yi [] (aCons (eVar 9) (aCons (eC (.str [102,111,108,100,101,100])) (aCons (eC (.str [98,108,111,99,107])) (aCons (eVar 6) (aCons (eVar 7) aNil)))))) aNil)))
        (bCons (sDrop (eBM "list" gAppend (eVar 11) (aCons (eCall Yi [] (aCons (eVar 10) (aCons (eC (.str [108,105,116,101,114,97,108])) (aCons (eC (.str [98,108,111,99,107])) (aCons (eVar 6) (aCons (eVar 7) aNil)))))) aNil)))
        (sIf (Fx.tOr (eBl (eBin gNe (eVar 11) (eBin gMul (eLst (aCons (eVar 8) aNil)) (eC (.int 2))))) (eBl (eBin gIsNot (eCall Yi [] (aCons (eVar 9) (aCons (eC (.str [108,105,116,101,114,97,108])) (aCons (eC (.str [98,108,111,99,107])) (aCons (eVar 6) (aCons (eVar 7) aNil)))))) (eC .non))))
          (sRet (eC (.bl false)))
          sPass))))))))))
def Zab : FS :=
  (bCons (sSet 2 (eLst (aCons (eVar 1) aNil)))
      (sFor (iRng (aCons (eC (.int 10)) aNil)) (gNm 3) Zdk))
def Zpw : FS :=
  (bCons (sFor (iAny (eBin gAdd (eSl (eVar 0) oNone (oSome (eC (.int 6)))) (eLst (aCons (eC (.int 0)) aNil)))) (gNm 1) Zab)
    (sRet (eC (.bl true))))
def Zoa : FF := runF 14 Zpw
end
end Ap
set_option maxHeartbeats 4000000
namespace Ap
open PySem PySem.Spec PyProof.Rows L2 SX Fx
theorem Zkn {K : PySem.W.Frag} {ι : List Addr} {H : Hp} : Reps K ι H [(.str (S [112,108,97,105,110])),(.str (S [115,105,110,103,108,101])),(.str (S [100,111,117,98,108,101])),(.str (S [108,105,116,101,114,97,108])),(.str (S [102,111,108,100,101,100]))] Zdd := (.cons (.str _) (.cons (.str _) (.cons (.str _) (.cons (.str _) (.cons (.str _) .nil)))))
theorem Z9c {K : PySem.W.Frag} {ι : List Addr} {H : Hp} : Reps K ι H [(.str (S [32])),(.str (S [9]))] Z65 := (.cons (.str _) (.cons (.str _) .nil))
theorem Z6a {K : PySem.W.Frag} {ι : List Addr} {H : Hp} : Reps K ι H [(.str (S [107,101,121])),(.str (S [112,97,105,114]))] Z4m := (.cons (.str _) (.cons (.str _) .nil))
theorem Zb9 {K : PySem.W.Frag} {ι : List Addr} {H : Hp} : Reps K ι H [(.str (S [73])),(.str (S [80]))] Z76 := (.cons (.str _) (.cons (.str _) .nil))
theorem Z46 {K : PySem.W.Frag} {ι : List Addr} {H : Hp} : Reps K ι H [(.str (S [75])),(.str (S [80]))] Z30 := (.cons (.str _) (.cons (.str _) .nil))
section
variable {w : World} {K : PySem.W.Frag} {mg : PySem.Str → Option Value} (C : Cx5 fns tabs exs w K mg)
include C
theorem Z47  : FunD K "__init__" "NoStyle.__init__" (defArgs Wj) (defBody Wj) (defScope Wj) [.non] [] ((mY "NoStyle" "__init__") K) (fdOf K ((mY "NoStyle" "__init__") K)) := C.c.def_ 0 (d := Z3p)
theorem Je  : ∃ ds, Vals (List.drop 1 [.non]) ds ∧ Binds K (fdOf K ((mY "NoStyle" "__init__") K)) Jh ds := FunD.binds1 (Z47 C) (ps := Jh) 2 1 (by simp) rfl fun _ _ _ _ _ _ _ us its hu hi => match us, its, hu, hi with | [_, _], [_], _, _ => ⟨_, rfl, rfl⟩
theorem Z4p  : FunD K "is_text" "is_text" (defArgs Jp) (defBody Jp) (defScope Jp) [] [] ((gY "is_text") K) (fdOf K ((gY "is_text") K)) := C.c.def_ 1 (d := Zbv)
theorem Zca  : Binds K (fdOf K ((gY "is_text") K)) Z9i [] := FunD.bindsN (Z4p C) fun _ _ _ _ _ _ us hl => match us, hl with | [_], _ => rfl
theorem Z1w  : FunD K "check_value" "check_value" (defArgs Wv) (defBody Wv) (defScope Wv) [] [] ((gY "check_value") K) (fdOf K ((gY "check_value") K)) := C.c.def_ 2 (d := Z52)
theorem Zba  : Binds K (fdOf K ((gY "check_value") K)) Z2n [] := FunD.bindsN (Z1w C) fun _ _ _ _ _ _ us hl => match us, hl with | [_], _ => rfl
theorem Jk  : FunD K "check_place" "check_place" (defArgs Ww) (defBody Ww) (defScope Ww) [] [] ((gY "check_place") K) (fdOf K ((gY "check_place") K)) := C.c.def_ 3 (d := Z53)
theorem Z5h  : Binds K (fdOf K ((gY "check_place") K)) Z2o [] := FunD.bindsN (Jk C) fun _ _ _ _ _ _ us hl => match us, hl with | [_, _], _ => rfl
theorem Qo  : FunD K "is_from_to" "is_from_to" (defArgs Vh) (defBody Vh) (defScope Vh) [] [] ((gY "is_from_to") K) (fdOf K ((gY "is_from_to") K)) := C.c.def_ 4 (d := Z6t)
theorem Z33  : Binds K (fdOf K ((gY "is_from_to") K)) Z3q [] := FunD.bindsN (Qo C) fun _ _ _ _ _ _ us hl => match us, hl with | [_, _, _], _ => rfl
theorem Ug  : FunD K "check_numbers" "check_numbers" (defArgs W3) (defBody W3) (defScope W3) [] [] ((gY "check_numbers") K) (fdOf K ((gY "check_numbers") K)) := C.c.def_ 5 (d := Z3f)
theorem Z3h  : Binds K (fdOf K ((gY "check_numbers") K)) Z06 [] := FunD.bindsN (Ug C) fun _ _ _ _ _ _ us hl => match us, hl with | [_, _, _], _ => rfl
theorem Z6b  : FunD K "signs_of" "signs_of" (defArgs Qx) (defBody Qx) (defScope Qx) [] [] ((gY "signs_of") K) (fdOf K ((gY "signs_of") K)) := C.c.def_ 6 (d := Z9k)
theorem Zgk  : Binds K (fdOf K ((gY "signs_of") K)) Z7u [] := FunD.bindsN (Z6b C) fun _ _ _ _ _ _ us hl => match us, hl with | [_, _], _ => rfl
theorem Z29  : FunD K "is_sign" "is_sign" (defArgs Z07) (defBody Z07) (defScope Z07) [] [] ((gY "is_sign") K) (fdOf K ((gY "is_sign") K)) := C.c.def_ 7 (d := Zbw)
theorem Z8c  : Binds K (fdOf K ((gY "is_sign") K)) Z9l [] := FunD.bindsN (Z29 C) fun _ _ _ _ _ _ us hl => match us, hl with | [_], _ => rfl
theorem Z34  : FunD K "words_of" "words_of" (defArgs Qy) (defBody Qy) (defScope Qy) [] [] ((gY "words_of") K) (fdOf K ((gY "words_of") K)) := C.c.def_ 8 (d := Z9m)
theorem Zac  : Binds K (fdOf K ((gY "words_of") K)) Z7v [] := FunD.bindsN (Z34 C) fun _ _ _ _ _ _ us hl => match us, hl with | [_], _ => rfl
theorem Z1d  : FunD K "is_marked" "is_marked" (defArgs Uh) (defBody Uh) (defScope Uh) [] [] ((gY "is_marked") K) (fdOf K ((gY "is_marked") K)) := C.c.def_ 9 (d := Z8n)
theorem Z8z  : Binds K (fdOf K ((gY "is_marked") K)) Z5u [] := FunD.bindsN (Z1d C) fun _ _ _ _ _ _ us hl => match us, hl with | [_], _ => rfl
theorem Qp  : FunD K "blanks_ahead" "blanks_ahead" (defArgs Wk) (defBody Wk) (defScope Wk) [] [] ((gY "blanks_ahead") K) (fdOf K ((gY "blanks_ahead") K)) := C.c.def_ 10 (d := Z3r)
theorem Z48  : Binds K (fdOf K ((gY "blanks_ahead") K)) Z1q [] := FunD.bindsN (Qp C) fun _ _ _ _ _ _ us hl => match us, hl with | [_, _], _ => rfl
theorem Z7g  : FunD K "filled" "filled" (defArgs Z2q) (defBody Z2q) (defScope Z2q) [] [] ((gY "filled") K) (fdOf K ((gY "filled") K)) := C.c.def_ 11 (d := Zen)
theorem Zfb  : Binds K (fdOf K ((gY "filled") K)) Zcz [] := FunD.bindsN (Z7g C) fun _ _ _ _ _ _ us hl => match us, hl with | [_, _, _, _], _ => rfl
theorem Z49  : FunD K "flow_text" "flow_text" (defArgs Vi) (defBody Vi) (defScope Vi) [] [] ((gY "flow_text") K) (fdOf K ((gY "flow_text") K)) := C.c.def_ 12 (d := Z8o)
theorem Zfc  : Binds K (fdOf K ((gY "flow_text") K)) Z5v [] := FunD.bindsN (Z49 C) fun _ _ _ _ _ _ us hl => match us, hl with | [_, _, _, _], _ => rfl
theorem Z6c  : FunD K "parts_of" "parts_of" (defArgs Qz) (defBody Qz) (defScope Qz) [] [] ((gY "parts_of") K) (fdOf K ((gY "parts_of") K)) := C.c.def_ 13 (d := Z9p)
theorem Zgl  : Binds K (fdOf K ((gY "parts_of") K)) Z7w [] := FunD.bindsN (Z6c C) fun _ _ _ _ _ _ us hl => match us, hl with | [_, _], _ => rfl
theorem Z4a  : FunD K "is_parted" "is_parted" (defArgs Ui) (defBody Ui) (defScope Ui) [] [] ((gY "is_parted") K) (fdOf K ((gY "is_parted") K)) := C.c.def_ 14 (d := Z8p)
theorem Zfd  : Binds K (fdOf K ((gY "is_parted") K)) Z5w [] := FunD.bindsN (Z4a C) fun _ _ _ _ _ _ us hl => match us, hl with | [_, _], _ => rfl
theorem Z35  : FunD K "block_text" "block_text" (defArgs Xy) (defBody Xy) (defScope Xy) [] [] ((gY "block_text") K) (fdOf K ((gY "block_text") K)) := C.c.def_ 15 (d := Z6u)
theorem Zdl  : Binds K (fdOf K ((gY "block_text") K)) Z3s [] := FunD.bindsN (Z35 C) fun _ _ _ _ _ _ us hl => match us, hl with | [_, _, _, _, _], _ => rfl
theorem Z8d  : FunD K "text_in" "text_in" (defArgs Z09) (defBody Z09) (defScope Z09) [] [] ((gY "text_in") K) (fdOf K ((gY "text_in") K)) := C.c.def_ 16 (d := Zbx)
theorem Zis  : Binds K (fdOf K ((gY "text_in") K)) Z9q [] := FunD.bindsN (Z8d C) fun _ _ _ _ _ _ us hl => match us, hl with | [_, _, _, _, _, _], _ => rfl
theorem Z1x  : FunD K "fits_single" "fits_single" (defArgs Xw) (defBody Xw) (defScope Xw) [] [] ((gY "fits_single") K) (fdOf K ((gY "fits_single") K)) := C.c.def_ 17 (d := Z54)
theorem Zbb  : Binds K (fdOf K ((gY "fits_single") K)) Z2s [] := FunD.bindsN (Z1x C) fun _ _ _ _ _ _ us hl => match us, hl with | [_, _], _ => rfl
theorem Uy  : FunD K "is_safe" "is_safe" (defArgs Z0a) (defBody Z0a) (defScope Z0a) [] [] ((gY "is_safe") K) (fdOf K ((gY "is_safe") K)) := C.c.def_ 18 (d := Zby)
theorem Z00  : Binds K (fdOf K ((gY "is_safe") K)) Z9r [] := FunD.bindsN (Uy C) fun _ _ _ _ _ _ us hl => match us, hl with | [_, _], _ => rfl
theorem Z0q  : FunD K "stands_plain" "stands_plain" (defArgs Wl) (defBody Wl) (defScope Wl) [] [] ((gY "stands_plain") K) (fdOf K ((gY "stands_plain") K)) := C.c.def_ 19 (d := Z3t)
theorem Zad  : Binds K (fdOf K ((gY "stands_plain") K)) Z1r [] := FunD.bindsN (Z0q C) fun _ _ _ _ _ _ us hl => match us, hl with | [_, _, _], _ => rfl
theorem Z36  : FunD K "is_fitting" "is_fitting" (defArgs Wu) (defBody Wu) (defScope Wu) [] [] ((gY "is_fitting") K) (fdOf K ((gY "is_fitting") K)) := C.c.def_ 20 (d := Z6v)
theorem Zdm  : Binds K (fdOf K ((gY "is_fitting") K)) Z3u [] := FunD.bindsN (Z36 C) fun _ _ _ _ _ _ us hl => match us, hl with | [_, _, _], _ => rfl
theorem Z4q  : FunD K "written" "written" (defArgs Z0c) (defBody Z0c) (defScope Z0c) [(.int 0), (.int 1)] [] ((gY "written") K) (fdOf K ((gY "written") K)) := C.c.def_ 21 (d := Zbz)
theorem Zfe  : ∃ ds, Vals (List.drop 2 [(.int 0), (.int 1)]) ds ∧ Binds K (fdOf K ((gY "written") K)) Z6w ds := FunD.binds1 (Z4q C) (ps := Z6w) 6 2 (by simp) rfl fun _ _ _ _ _ _ _ us its hu hi => match us, its, hu, hi with | [_, _, _, _, _, _], [_, _], _, _ => ⟨_, rfl, rfl⟩
theorem Wh  : FunD K "_law_digit" "_law_digit" (defArgs Vk) (defBody Vk) (defScope Vk) [] [] ((gY "_law_digit") K) (fdOf K ((gY "_law_digit") K)) := C.c.def_ 22 (d := Z6x)
theorem Vx  : Binds K (fdOf K ((gY "_law_digit") K)) Z3v [] := FunD.bindsN (Wh C) fun _ _ _ _ _ _ us hl => match us, hl with | [_, _], _ => rfl
theorem Jf  : FunD K "_law_one" "_law_one" (defArgs J5) (defBody J5) (defScope J5) [] [] ((gY "_law_one") K) (fdOf K ((gY "_law_one") K)) := C.c.def_ 23 (d := Z9s)
theorem Z37  : Binds K (fdOf K ((gY "_law_one") K)) Z7x [] := FunD.bindsN (Jf C) fun _ _ _ _ _ _ us hl => match us, hl with | [_, _], _ => rfl
theorem Z4b  : FunD K "_law_rows" "_law_rows" (defArgs Uj) (defBody Uj) (defScope Uj) [] [] ((gY "_law_rows") K) (fdOf K ((gY "_law_rows") K)) := C.c.def_ 24 (d := Z8r)
theorem Zff  : Binds K (fdOf K ((gY "_law_rows") K)) Z5x [] := FunD.bindsN (Z4b C) fun _ _ _ _ _ _ us hl => match us, hl with | [_], _ => rfl
theorem Z4c  : FunD K "_law_text" "_law_text" (defArgs Vl) (defBody Vl) (defScope Vl) [] [] ((gY "_law_text") K) (fdOf K ((gY "_law_text") K)) := C.c.def_ 25 (d := Z8s)
theorem Zfg  : Binds K (fdOf K ((gY "_law_text") K)) Z5y [] := FunD.bindsN (Z4c C) fun _ _ _ _ _ _ us hl => match us, hl with | [_, _, _, _], _ => rfl
theorem Z5i  : FunD K "__init__" "Source.__init__" (defArgs Wx) (defBody Wx) (defScope Wx) [] [] ((mY "Source" "__init__") K) (fdOf K ((mY "Source" "__init__") K)) := C.c.def_ 26 (d := Z55)
theorem Z5j  : Binds K (fdOf K ((mY "Source" "__init__") K)) Z2u [] := FunD.bindsN (Z5i C) fun _ _ _ _ _ _ us hl => match us, hl with | [_, _], _ => rfl
theorem Z90  : FunD K "at" "Source.at" (defArgs Uk) (defBody Uk) (defScope Uk) [] [] ((mY "Source" "at") K) (fdOf K ((mY "Source" "at") K)) := C.c.def_ 27 (d := Z8t)
theorem Y6  : Binds K (fdOf K ((mY "Source" "at") K)) Z5z [] := FunD.bindsN (Z90 C) fun _ _ _ _ _ _ us hl => match us, hl with | [_, _], _ => rfl
theorem Ju  : FunD K "past_blanks" "Source.past_blanks" (defArgs Yx) (defBody Yx) (defScope Yx) [] [] ((mY "Source" "past_blanks") K) (fdOf K ((mY "Source" "past_blanks") K)) := C.c.def_ 28 (d := Jt)
theorem Yj  : Binds K (fdOf K ((mY "Source" "past_blanks") K)) U3 [] := FunD.bindsN (Ju C) fun _ _ _ _ _ _ us hl => match us, hl with | [_, _], _ => rfl
theorem Z1e  : FunD K "is_begin" "Source.is_begin" (defArgs Xg) (defBody Xg) (defScope Xg) [] [] ((mY "Source" "is_begin") K) (fdOf K ((mY "Source" "is_begin") K)) := C.c.def_ 29 (d := Z14)
theorem Z1f  : Binds K (fdOf K ((mY "Source" "is_begin") K)) J8 [] := FunD.bindsN (Z1e C) fun _ _ _ _ _ _ us hl => match us, hl with | [_, _], _ => rfl
theorem Z2a  : FunD K "is_mark" "Source.is_mark" (defArgs Xn) (defBody Xn) (defScope Xn) [(.ref (dflY (mY "Source" "is_mark") 0 K))] [] ((mY "Source" "is_mark") K) (fdOf K ((mY "Source" "is_mark") K)) := C.c.def_ 30 (d := Z25)
theorem Z0r  : ∃ ds, Vals (List.drop 0 [(.ref (dflY (mY "Source" "is_mark") 0 K))]) ds ∧ Binds K (fdOf K ((mY "Source" "is_mark") K)) Ud ds := FunD.binds1 (Z2a C) (ps := Ud) 2 0 (by simp) rfl fun _ _ _ _ _ _ _ us its hu hi => match us, its, hu, hi with | [_, _], [_], _, _ => ⟨_, rfl, rfl⟩
theorem Z5k  : FunD K "miss" "Source.miss" (defArgs Wy) (defBody Wy) (defScope Wy) [] [] ((mY "Source" "miss") K) (fdOf K ((mY "Source" "miss") K)) := C.c.def_ 31 (d := Z56)
theorem Yb  : Binds K (fdOf K ((mY "Source" "miss") K)) Z2v [] := FunD.bindsN (Z5k C) fun _ _ _ _ _ _ us hl => match us, hl with | [_, _], _ => rfl
theorem Z0s  : FunD K "is_barred" "Source.is_barred" (defArgs Xd) (defBody Xd) (defScope Xd) [] [] ((mY "Source" "is_barred") K) (fdOf K ((mY "Source" "is_barred") K)) := C.c.def_ 32 (d := Z0d)
theorem W4  : Binds K (fdOf K ((mY "Source" "is_barred") K)) Q6 [] := FunD.bindsN (Z0s C) fun _ _ _ _ _ _ us hl => match us, hl with | [_, _], _ => rfl
theorem Z4r  : FunD K "is_next" "is_next" (defArgs Z0e) (defBody Z0e) (defScope Z0e) [] [] ((gY "is_next") K) (fdOf K ((gY "is_next") K)) := C.c.def_ 33 (d := Zc1)
theorem Zcb  : Binds K (fdOf K ((gY "is_next") K)) Z9u [] := FunD.bindsN (Z4r C) fun _ _ _ _ _ _ us hl => match us, hl with | [_, _, _, _], _ => rfl
theorem Z4s  : FunD K "row_end" "row_end" (defArgs Z0f) (defBody Z0f) (defScope Z0f) [] [] ((gY "row_end") K) (fdOf K ((gY "row_end") K)) := C.c.def_ 34 (d := Zc2)
theorem Zcc  : Binds K (fdOf K ((gY "row_end") K)) Z9v [] := FunD.bindsN (Z4s C) fun _ _ _ _ _ _ us hl => match us, hl with | [_, _, _], _ => rfl
theorem Z6d  : FunD K "is_first" "is_first" (defArgs J9) (defBody J9) (defScope J9) [] [] ((gY "is_first") K) (fdOf K ((gY "is_first") K)) := C.c.def_ 35 (d := Z9x)
theorem Zgm  : Binds K (fdOf K ((gY "is_first") K)) Z81 [] := FunD.bindsN (Z6d C) fun _ _ _ _ _ _ us hl => match us, hl with | [_, _, _], _ => rfl
theorem Z1g  : FunD K "indented" "Source.indented" (defArgs Xh) (defBody Xh) (defScope Xh) [] [] ((mY "Source" "indented") K) (fdOf K ((mY "Source" "indented") K)) := C.c.def_ 36 (d := Z16)
theorem Z7h  : Binds K (fdOf K ((mY "Source" "indented") K)) Ja [] := FunD.bindsN (Z1g C) fun _ _ _ _ _ _ us hl => match us, hl with | [_, _, _], _ => rfl
theorem Z38  : FunD K "plain_fold" "plain_fold" (defArgs Vm) (defBody Vm) (defScope Vm) [] [] ((gY "plain_fold") K) (fdOf K ((gY "plain_fold") K)) := C.c.def_ 37 (d := Z70)
theorem Zdn  : Binds K (fdOf K ((gY "plain_fold") K)) Z3w [] := FunD.bindsN (Z38 C) fun _ _ _ _ _ _ us hl => match us, hl with | [_, _, _], _ => rfl
theorem fd_plain  : FunD K "plain" "plain" (defArgs Z61) (defBody Z61) (defScope Z61) [] [] ((gY "plain") K) (fdOf K ((gY "plain") K)) := C.c.def_ 38 (d := Zhd)
theorem Zm6  : Binds K (fdOf K ((gY "plain") K)) Zgd [] := FunD.bindsN (fd_plain C) fun _ _ _ _ _ _ us hl => match us, hl with | [_, _, _, _], _ => rfl
theorem N8  : FunD K "past_white" "Source.past_white" (defArgs X4) (defBody X4) (defScope X4) [] [] ((mY "Source" "past_white") K) (fdOf K ((mY "Source" "past_white") K)) := C.c.def_ 39 (d := Jz)
theorem Nb  : Binds K (fdOf K ((mY "Source" "past_white") K)) Ul [] := FunD.bindsN (N8 C) fun _ _ _ _ _ _ us hl => match us, hl with | [_, _], _ => rfl
theorem Ny  : FunD K "quote_fold" "quote_fold" (defArgs Vn) (defBody Vn) (defScope Vn) [] [] ((gY "quote_fold") K) (fdOf K ((gY "quote_fold") K)) := C.c.def_ 40 (d := Z71)
theorem Z7i  : Binds K (fdOf K ((gY "quote_fold") K)) Z3x [] := FunD.bindsN (Ny C) fun _ _ _ _ _ _ us hl => match us, hl with | [_, _, _], _ => rfl
theorem Z1y  : FunD K "folded_part" "folded_part" (defArgs V1) (defBody V1) (defScope V1) [] [] ((gY "folded_part") K) (fdOf K ((gY "folded_part") K)) := C.c.def_ 41 (d := Z58)
theorem Zbc  : Binds K (fdOf K ((gY "folded_part") K)) Z2w [] := FunD.bindsN (Z1y C) fun _ _ _ _ _ _ us hl => match us, hl with | [_, _, _, _], _ => rfl
theorem Z8e  : FunD K "escaped" "escaped" (defArgs Z0g) (defBody Z0g) (defScope Z0g) [] [] ((gY "escaped") K) (fdOf K ((gY "escaped") K)) := C.c.def_ 42 (d := Zc3)
theorem Zit  : Binds K (fdOf K ((gY "escaped") K)) Z9y [] := FunD.bindsN (Z8e C) fun _ _ _ _ _ _ us hl => match us, hl with | [_, _, _, _], _ => rfl
theorem Zae  : FunD K "quoted" "quoted" (defArgs Z2x) (defBody Z2x) (defScope Z2x) [] [] ((gY "quoted") K) (fdOf K ((gY "quoted") K)) := C.c.def_ 43 (d := Zet)
theorem Zko  : Binds K (fdOf K ((gY "quoted") K)) Zd3 [] := FunD.bindsN (Zae C) fun _ _ _ _ _ _ us hl => match us, hl with | [_, _, _, _], _ => rfl
theorem Z7j  : FunD K "__init__" "Piece.__init__" (defArgs Vo) (defBody Vo) (defScope Vo) [] [] ((mY "Piece" "__init__") K) (fdOf K ((mY "Piece" "__init__") K)) := C.c.def_ 44 (d := Z72)
theorem Zdo  : Binds K (fdOf K ((mY "Piece" "__init__") K)) Z3y [] := FunD.bindsN (Z7j C) fun _ _ _ _ _ _ us hl => match us, hl with | [_, _, _, _], _ => rfl
theorem Z1h  : FunD K "line_end" "Source.line_end" (defArgs Xi) (defBody Xi) (defScope Xi) [] [] ((mY "Source" "line_end") K) (fdOf K ((mY "Source" "line_end") K)) := C.c.def_ 45 (d := Z18)
theorem Z1i  : Binds K (fdOf K ((mY "Source" "line_end") K)) Jb [] := FunD.bindsN (Z1h C) fun _ _ _ _ _ _ us hl => match us, hl with | [_, _], _ => rfl
theorem Z4d  : FunD K "close" "Source.close" (defArgs Wm) (defBody Wm) (defScope Wm) [] [] ((mY "Source" "close") K) (fdOf K ((mY "Source" "close") K)) := C.c.def_ 46 (d := Z3z)
theorem Zaf  : Binds K (fdOf K ((mY "Source" "close") K)) Z1s [] := FunD.bindsN (Z4d C) fun _ _ _ _ _ _ us hl => match us, hl with | [_, _], _ => rfl
theorem Nf  : FunD K "read_header" "Piece.read_header" (defArgs X5) (defBody X5) (defScope X5) [] [] ((mY "Piece" "read_header") K) (fdOf K ((mY "Piece" "read_header") K)) := C.c.def_ 47 (d := N5)
theorem Z4w  : Binds K (fdOf K ((mY "Piece" "read_header") K)) Um [] := FunD.bindsN (Nf C) fun _ _ _ _ _ _ us hl => match us, hl with | [_], _ => rfl
theorem Z0t  : FunD K "last_feeds" "Piece.last_feeds" (defArgs Xe) (defBody Xe) (defScope Xe) [] [] ((mY "Piece" "last_feeds") K) (fdOf K ((mY "Piece" "last_feeds") K)) := C.c.def_ 48 (d := Z0j)
theorem Z6e  : Binds K (fdOf K ((mY "Piece" "last_feeds") K)) Q7 [] := FunD.bindsN (Z0t C) fun _ _ _ _ _ _ us hl => match us, hl with | [_], _ => rfl
theorem Z5l  : FunD K "value" "Piece.value" (defArgs V2) (defBody V2) (defScope V2) [] [] ((mY "Piece" "value") K) (fdOf K ((mY "Piece" "value") K)) := C.c.def_ 49 (d := Z59)
theorem Zbd  : Binds K (fdOf K ((mY "Piece" "value") K)) Z2y [] := FunD.bindsN (Z5l C) fun _ _ _ _ _ _ us hl => match us, hl with | [_, _], _ => rfl
theorem Qq  : FunD K "expected_mark" "Source.expected_mark" (defArgs Yr) (defBody Yr) (defScope Yr) [] [] ((mY "Source" "expected_mark") K) (fdOf K ((mY "Source" "expected_mark") K)) := C.c.def_ 50 (d := Q8)
theorem Qs  : Binds K (fdOf K ((mY "Source" "expected_mark") K)) Vd [] := FunD.bindsN (Qq C) fun _ _ _ _ _ _ us hl => match us, hl with | [_, _, _], _ => rfl
theorem Nh  : FunD K "indentation" "Piece.indentation" (defArgs X6) (defBody X6) (defScope X6) [] [] ((mY "Piece" "indentation") K) (fdOf K ((mY "Piece" "indentation") K)) := C.c.def_ 51 (d := N6)
theorem Z4x  : Binds K (fdOf K ((mY "Piece" "indentation") K)) Uo [] := FunD.bindsN (Nh C) fun _ _ _ _ _ _ us hl => match us, hl with | [_, _], _ => rfl
theorem Z7k  : FunD K "take" "Piece.take" (defArgs Vp) (defBody Vp) (defScope Vp) [] [] ((mY "Piece" "take") K) (fdOf K ((mY "Piece" "take") K)) := C.c.def_ 52 (d := Z74)
theorem Zdp  : Binds K (fdOf K ((mY "Piece" "take") K)) Z40 [] := FunD.bindsN (Z7k C) fun _ _ _ _ _ _ us hl => match us, hl with | [_, _, _], _ => rfl
theorem Z1z  : FunD K "block_value" "block_value" (defArgs V4) (defBody V4) (defScope V4) [] [] ((gY "block_value") K) (fdOf K ((gY "block_value") K)) := C.c.def_ 53 (d := Z5a)
theorem Zbe  : Binds K (fdOf K ((gY "block_value") K)) Z2z [] := FunD.bindsN (Z1z C) fun _ _ _ _ _ _ us hl => match us, hl with | [_, _, _], _ => rfl
theorem Uc  : FunD K "read_scalar" "read_scalar" (defArgs V5) (defBody V5) (defScope V5) [(.int 1)] [] ((gY "read_scalar") K) (fdOf K ((gY "read_scalar") K)) := C.c.def_ 54 (d := Z5b)
theorem Z97  : ∃ ds, Vals (List.drop 1 [(.int 1)]) ds ∧ Binds K (fdOf K ((gY "read_scalar") K)) Nt ds := FunD.binds1 (Uc C) (ps := Nt) 5 1 (by simp) rfl fun _ _ _ _ _ _ _ us its hu hi => match us, its, hu, hi with | [_, _, _, _, _], [_], _, _ => ⟨_, rfl, rfl⟩
theorem Zn7  : FunD K "law" "law" (defArgs Zew) (defBody Zew) (defScope Zew) [] [] ((gY "law") K) (fdOf K ((gY "law") K)) := C.c.def_ 55 (d := Zn3)
theorem Zdq  : ∃ t, mg "MOST_SIGNS" = some (.int (3000) t) := C.int 1
theorem Zkp  (H : Hp) : SqT K H (He.ga K "STYLES") [(.str (S [112,108,97,105,110])), (.str (S [115,105,110,103,108,101])), (.str (S [100,111,117,98,108,101])), (.str (S [108,105,116,101,114,97,108])), (.str (S [102,111,108,100,101,100]))] := Z2l (C.c.fact 2) H
theorem Z8f  : GDk K w mg "LETTERS" Z26 := Zjt C 3 0
theorem Zbf  : ∃ t, mg "MOST_INDENT" = some (.int (100) t) := C.int 4
theorem Zdr  : ∃ t, mg "MOST_WIDTH" = some (.int (200) t) := C.int 5
theorem Zfh  : GDk K w mg "QUOTES" Z9b := Zjt C 6 1
theorem Zds  (H : Hp) : SqT K H (He.ga K "WHITE") [(.str (S [32])), (.str (S [9]))] := Z2l (C.c.fact 7) H
theorem Z9d  : GDk K w mg "HEADS" Uq := Zjt C 8 2
theorem Z6f  (H : Hp) : SqT K H (He.ga K "ONE_LINE") [(.str (S [107,101,121])), (.str (S [112,97,105,114]))] := Z2l (C.c.fact 9) H
theorem Zgn  : ∃ t, mg "BRACKETS" = some (.str (S Z89) t) := C.str 10
theorem Zbg  (H : Hp) : SqT K H (He.ga K "IN_BRACKETS") [(.str (S [73])), (.str (S [80]))] := Z2l (C.c.fact 11) H
theorem Zfi  : GDk K w mg "BEHIND" Zde := Zjt C 12 3
theorem Z5m  : ∃ t, mg "MAYBE_FIRST" = some (.str (S Qc) t) := C.str 13
theorem Z91  : ∃ t, mg "NOT_FIRST" = some (.str (S Z0k) t) := C.str 14
theorem Z4e  (H : Hp) : SqT K H (He.ga K "ON_A_LINE") [(.str (S [75])), (.str (S [80]))] := Z2l (C.c.fact 15) H
theorem Ziu  : GDk K w mg "ESCAPES" Za1 := Zjt C 16 4
theorem Zv  : CF K "Piece" (He.ga K "Piece") := ⟨C.ns 17, He.cls_ok (C.c.fact 18)⟩
theorem Zm7  : Mk K (He.ga K "Piece") (mY "Piece" "__init__" K) := He.mkr_ok (C.c.fact 19)
theorem Z4y  : Meth K (He.ga K "Piece") "read_header" (mY "Piece" "read_header" K) := He.meth_ok (C.c.fact 20)
theorem Z6g  : Meth K (He.ga K "Piece") "last_feeds" (mY "Piece" "last_feeds" K) := He.meth_ok (C.c.fact 21)
theorem Zbh  : Meth K (He.ga K "Piece") "value" (mY "Piece" "value" K) := He.meth_ok (C.c.fact 22)
theorem Z4z  : Meth K (He.ga K "Piece") "indentation" (mY "Piece" "indentation" K) := He.meth_ok (C.c.fact 23)
theorem Zdt  : Meth K (He.ga K "Piece") "take" (mY "Piece" "take" K) := He.meth_ok (C.c.fact 24)
theorem Yu  : NoAttr K (He.ga K "Piece") "source" := He.noat_ok (C.c.fact 25)
theorem Vy  : NoAttr K (He.ga K "Piece") "rows" := He.noat_ok (C.c.fact 26)
theorem V8  : NoAttr K (He.ga K "Piece") "empties" := He.noat_ok (C.c.fact 27)
theorem Uz  : NoAttr K (He.ga K "Piece") "end" := He.noat_ok (C.c.fact 28)
theorem Zbi  : NoAttr K (He.ga K "Piece") "start" := He.noat_ok (C.c.fact 29)
theorem Z2b  : NoAttr K (He.ga K "Piece") "n" := He.noat_ok (C.c.fact 30)
theorem Jl  : NoAttr K (He.ga K "Piece") "digit" := He.noat_ok (C.c.fact 31)
theorem Vc  : NoAttr K (He.ga K "Piece") "chomp" := He.noat_ok (C.c.fact 32)
theorem Zk  : CF K "Source" (He.ga K "Source") := ⟨C.ns 33, He.cls_ok (C.c.fact 34)⟩
theorem Zfj  : Mk K (He.ga K "Source") (mY "Source" "__init__" K) := He.mkr_ok (C.c.fact 35)
theorem Y7  : Meth K (He.ga K "Source") "at" (mY "Source" "at" K) := He.meth_ok (C.c.fact 36)
theorem Yk  : Meth K (He.ga K "Source") "past_blanks" (mY "Source" "past_blanks" K) := He.meth_ok (C.c.fact 37)
theorem Z1j  : Meth K (He.ga K "Source") "is_begin" (mY "Source" "is_begin" K) := He.meth_ok (C.c.fact 38)
theorem Z2c  : Meth K (He.ga K "Source") "is_mark" (mY "Source" "is_mark" K) := He.meth_ok (C.c.fact 39)
theorem Yc  : Meth K (He.ga K "Source") "miss" (mY "Source" "miss" K) := He.meth_ok (C.c.fact 40)
theorem W6  : Meth K (He.ga K "Source") "is_barred" (mY "Source" "is_barred" K) := He.meth_ok (C.c.fact 41)
theorem Z7l  : Meth K (He.ga K "Source") "indented" (mY "Source" "indented" K) := He.meth_ok (C.c.fact 42)
theorem Nk  : Meth K (He.ga K "Source") "past_white" (mY "Source" "past_white" K) := He.meth_ok (C.c.fact 43)
theorem Z1k  : Meth K (He.ga K "Source") "line_end" (mY "Source" "line_end" K) := He.meth_ok (C.c.fact 44)
theorem Zag  : Meth K (He.ga K "Source") "close" (mY "Source" "close" K) := He.meth_ok (C.c.fact 45)
theorem Qt  : Meth K (He.ga K "Source") "expected_mark" (mY "Source" "expected_mark" K) := He.meth_ok (C.c.fact 46)
theorem Xj  : NoAttr K (He.ga K "Source") "text" := He.noat_ok (C.c.fact 47)
theorem Xo  : NoAttr K (He.ga K "Source") "length" := He.noat_ok (C.c.fact 48)
theorem Z39  : NoAttr K (He.ga K "Source") "far" := He.noat_ok (C.c.fact 49)
theorem Z01  : PySem.W.nsIn K mainGlobals "NoStyle" = some (some (.ref (He.ga K "NoStyle"))) := C.ns 50
theorem Vs  : OexC K (He.ga K "NoStyle") := Znu (C.c.fact 51)
theorem Ziv  : PySem.W.findIn K (.ref (He.ga K "NoStyle")) "part" = some none := He.noat_ok (C.c.fact 53)
theorem Wb  : PySem.W.findIn K (.ref (He.ga K "NoStyle")) "__init__" = some (some (.ref (mY "NoStyle" "__init__" K))) ∧ PySem.W.typeIn K (.ref (mY "NoStyle" "__init__" K)) = some (.type "function") := Zlt (C.c.fact 54)
theorem Zm8  : PySem.W.nsIn K mainGlobals "NoFit" = some (some (.ref (He.ga K "NoFit"))) := C.ns 58
theorem Zm9  : (He.Fa.exc "NoFit").ok K = true := C.c.fact 59
theorem bs_  : BaseC K (He.ga K "PageError") := Zls (C.c.fact 60)
theorem nd_  : NoDig K := Zjo (C.c.fact 61)
theorem Zcd  : mg "is_text" = some (.ref (He.ga K "is_text")) := C.glo 62
theorem Z02  : mg "NoStyle" = some (.ref (He.ga K "NoStyle")) := C.glo 50
theorem Z3a  : mg "is_from_to" = some (.ref (He.ga K "is_from_to")) := C.glo 63
theorem Z8g  : mg "is_sign" = some (.ref (He.ga K "is_sign")) := C.glo 64
theorem Z92  : mg "is_marked" = some (.ref (He.ga K "is_marked")) := C.glo 65
theorem Z4f  : mg "blanks_ahead" = some (.ref (He.ga K "blanks_ahead")) := C.glo 66
theorem Zah  : mg "words_of" = some (.ref (He.ga K "words_of")) := C.glo 67
theorem Zgo  : mg "signs_of" = some (.ref (He.ga K "signs_of")) := C.glo 68
theorem Zfk  : mg "filled" = some (.ref (He.ga K "filled")) := C.glo 69
theorem Zgp  : mg "parts_of" = some (.ref (He.ga K "parts_of")) := C.glo 70
theorem Zfl  : mg "is_parted" = some (.ref (He.ga K "is_parted")) := C.glo 71
theorem Zdu  : mg "block_text" = some (.ref (He.ga K "block_text")) := C.glo 72
theorem Zfm  : mg "flow_text" = some (.ref (He.ga K "flow_text")) := C.glo 73
theorem Z03  : mg "is_safe" = some (.ref (He.ga K "is_safe")) := C.glo 74
theorem Zai  : mg "stands_plain" = some (.ref (He.ga K "stands_plain")) := C.glo 75
theorem Zbj  : mg "fits_single" = some (.ref (He.ga K "fits_single")) := C.glo 76
theorem Zbk  : mg "check_value" = some (.ref (He.ga K "check_value")) := C.glo 77
theorem Z5n  : mg "check_place" = some (.ref (He.ga K "check_place")) := C.glo 78
theorem Z3i  : mg "check_numbers" = some (.ref (He.ga K "check_numbers")) := C.glo 79
theorem Zdv  : mg "is_fitting" = some (.ref (He.ga K "is_fitting")) := C.glo 80
theorem Zma  : mg "NoFit" = some (.ref (He.ga K "NoFit")) := C.glo 58
theorem Ziw  : mg "text_in" = some (.ref (He.ga K "text_in")) := C.glo 81
theorem Vz  : mg "_law_digit" = some (.ref (He.ga K "_law_digit")) := C.glo 82
theorem Z3b  : mg "_law_one" = some (.ref (He.ga K "_law_one")) := C.glo 83
theorem Zce  : mg "is_next" = some (.ref (He.ga K "is_next")) := C.glo 84
theorem Zgq  : mg "is_first" = some (.ref (He.ga K "is_first")) := C.glo 85
theorem Zcf  : mg "row_end" = some (.ref (He.ga K "row_end")) := C.glo 86
theorem Zdw  : mg "plain_fold" = some (.ref (He.ga K "plain_fold")) := C.glo 87
theorem Z7m  : mg "quote_fold" = some (.ref (He.ga K "quote_fold")) := C.glo 88
theorem Zbl  : mg "folded_part" = some (.ref (He.ga K "folded_part")) := C.glo 89
theorem Zix  : mg "escaped" = some (.ref (He.ga K "escaped")) := C.glo 90
theorem Zfn  : mg "Source" = some (.ref (He.ga K "Source")) := C.glo 33
theorem Zmb  : mg "Piece" = some (.ref (He.ga K "Piece")) := C.glo 17
theorem Zbm  : mg "block_value" = some (.ref (He.ga K "block_value")) := C.glo 91
theorem Zmc  : mg "plain" = some (.ref (He.ga K "plain")) := C.glo 92
theorem Zkq  : mg "quoted" = some (.ref (He.ga K "quoted")) := C.glo 93
theorem Zfo  : mg "_law_rows" = some (.ref (He.ga K "_law_rows")) := C.glo 94
theorem Zcg  : mg "written" = some (.ref (He.ga K "written")) := C.glo 95
theorem Zfp  : mg "_law_text" = some (.ref (He.ga K "_law_text")) := C.glo 96
theorem Z20  : mg "read_scalar" = some (.ref (He.ga K "read_scalar")) := C.glo 97
theorem Zfq  : mg "PageError" = some (.ref (He.ga K "PageError")) := C.glo 98
theorem Zkr  : mg "STYLES" = some (.ref (He.ga K "STYLES")) := C.glo 99
theorem Zdx  : mg "WHITE" = some (.ref (He.ga K "WHITE")) := C.glo 100
theorem Z6h  : mg "ONE_LINE" = some (.ref (He.ga K "ONE_LINE")) := C.glo 101
theorem Zbn  : mg "IN_BRACKETS" = some (.ref (He.ga K "IN_BRACKETS")) := C.glo 102
theorem Z4g  : mg "ON_A_LINE" = some (.ref (He.ga K "ON_A_LINE")) := C.glo 103
theorem Zpx  : mg "law" = some (.ref (He.ga K "law")) := C.glo 104
theorem fr_all  : mg "all" = none := C.free 105
theorem Zfr  : mg "str" = none := C.free 106
theorem Qu  : mg "isinstance" = none := C.free 107
theorem Z1l  : mg "len" = none := C.free 108
theorem Zob  : mg "bool" = none := C.free 109
theorem Vt  : mg "int" = none := C.free 110
theorem Zhp  : mg "min" = none := C.free 111
theorem Z4t  : mg "range" = none := C.free 112
theorem Z1m  : mg "enumerate" = none := C.free 113
theorem Zhq  : mg "any" = none := C.free 114
theorem Z7n  : mg "max" = none := C.free 115
end
section
variable {P : Program} {base : Heap}
variable {w : World} {K : PySem.W.Frag} {mg : PySem.Str → Option Value} (C : Cx5 fns tabs exs w K mg)
include C
theorem Z0u : FnOk P w K mg base CX0 1 ((mY "NoStyle" "__init__") K) (fdOf K ((mY "NoStyle" "__init__") K)) Jh (spI (He.ga K "NoStyle") "part") := by
  refine Zoz (Z47 C) Z9h (fun vs H Q E h => ?_) (fun cdv A outer s H vs Q E hr h => ?_)
  · obtain ⟨a,v,rfl,_⟩ := h; rfl
  · obtain ⟨a,v,rfl,ha,hq⟩ := h
    exact ⟨_, (pss_cons (ps_expr (Zjh (by rfl) (Zfq C) (bs_ C) (by decide) (pa_cons (pv 0) (pa_cons pe_str pa_nil)))) (pss_one (ps_ost (pv 0) (pv 1)))), ⟨_, rfl, ⟨a, He.ga K "NoStyle", _, rfl, by decide, Vs C, ha, ⟨v, rfl, _, rfl, a, He.ga K "NoStyle", rfl, Vs C, Ziv C, .inl ⟨ha, fun dx nd ne => hq dx nd ne⟩⟩⟩⟩⟩
theorem Zch : GT P w K mg base 1 (gY "is_text") Z9i 1 Z41 := by
  refine fnFD (Z4p C) Z7t fun cdv A outer s H E hr hG => ?_
  exact (Zm (Zr (Z21 rfl (Yo (Zjg rfl) (by rfl) (Qu C) (by decide +kernel) (Zg (Zf (pv 0)) (Zg (f_c (pe_bltn (v := .ty "str") (by rfl) (Zfr C) (by decide +kernel) rfl) (fun _ _ => .ty _)) Zj))) (Z0w (Yo (Zpa rfl rfl) (by rfl) (fr_all C) (by decide +kernel) (Zg (f_lc (own := [("sign", 1)]) (Z2j 1) (by decide) rfl Z7t.nd (Z0z rfl (Zf (pv 0))) (blkOk_by (N := Zek) (sc := defScope Jp) (by decide +kernel)) (fun _ _ _ _ _ => (pg_name (i := 1) Z7t.nd rfl (Or.inl rfl))) (fun _ _ _ _ _ => Z2k) (fun _ _ _ _ _ => (f_or rfl (Zcp Z7s Z7s (Zo [32]) (Zf (pv 1)) (Zo [126])) (Z0w (We (Z23 hr.units rfl) (Zf (pv 1)) (Zo [9,10]) rfl))))) Zj))))))
theorem Zbo : GT P w K mg base 3 (gY "check_value") Z2n 1 Nu := by
  have I_NoStyle_init := @Z0u P base w K mg C
  obtain ⟨ds_NoStyle_init_1,dv_NoStyle_init_1,db_NoStyle_init_1⟩ := Je C
  have G_is_text := @Zch P base w K mg C
  obtain ⟨t_MOST_SIGNS,g_MOST_SIGNS⟩ := Zdq C
  refine fnFD (Z1w C) Zaw fun cdv A outer s H E hr hG => ?_
  exact (Zm (Yp (PW.pt (Z3l (U4 (Yw rfl (Y9 rfl G_is_text (hr.mono (by omega)) hG (by rfl) (Zcd C) (Z4p C).kp (Zca C) .nil Dfl.nil tk (Zg (Zf (pv 0)) Zj) (Ze Zh)))) (Jo (Zq Zcv (Yo (Z6p rfl) (by rfl) (Z1l C) (by decide +kernel) (Zg (Zf (pv 0)) Zj)) (f_c (pe_glob (v := .int (3000)) rfl g_MOST_SIGNS ⟨_,rfl⟩) (fun _ _ => .int _)) (nomark _)))))
      (Zm (Z4k rfl rfl tk (Vs C) (Wb C).1 (Wb C).2 I_NoStyle_init (hr.mono (by omega)) db_NoStyle_init_1 dv_NoStyle_init_1 (fun _ _ => .nil) (by rfl) (Z02 C) (Zg (Zo [118,97,108,117,101]) Zj) (Ze Zh) (Z01 C)))
      Y8))
theorem Z5o : GT P w K mg base 3 (gY "check_place") Z2o 2 Qe := by
  have I_NoStyle_init := @Z0u P base w K mg C
  obtain ⟨ds_NoStyle_init_1,dv_NoStyle_init_1,db_NoStyle_init_1⟩ := Je C
  have g_STYLES := Zkr C
  have q_STYLES := Zkp C
  have g_LETTERS := Z8f C
  refine fnFD (Jk C) Zax fun cdv A outer s H E hr hG => ?_
  exact (Zi (Yp (PW.pt (Z3l (U4 (Yw rfl (Yo (Zjg rfl) (by rfl) (Qu C) (by decide +kernel) (Zg (Zf (pv 0)) (Zg (f_c (pe_bltn (v := .ty "str") (by rfl) (Zfr C) (by decide +kernel) rfl) (fun _ _ => .ty _)) Zj))))) (Jo (Zq (Nq hr.units rfl) (Zf (pv 0)) (f_c (pe_glob (v := .ref (He.ga _ "STYLES")) rfl g_STYLES rfl) (fun _ H => .tup (q_STYLES H) Zkn)) rfl))))
      (Zm (Z4k rfl rfl tk (Vs C) (Wb C).1 (Wb C).2 I_NoStyle_init (hr.mono (by omega)) db_NoStyle_init_1 dv_NoStyle_init_1 (fun _ _ => .nil) (by rfl) (Z02 C) (Zg (Zo [115,116,121,108,101]) Zj) (Ze Zh) (Z01 C)))
      Y8)
    (Zm (Yp (PW.pt (Z3l (U4 (Yw rfl (Yo (Zjg rfl) (by rfl) (Qu C) (by decide +kernel) (Zg (Zf (pv 1)) (Zg (f_c (pe_bltn (v := .ty "str") (by rfl) (Zfr C) (by decide +kernel) rfl) (fun _ _ => .ty _)) Zj))))) (Jo (Zc4 rfl (by rfl) g_LETTERS (Zf (pv 1))))))
      (Zm (Z4k rfl rfl tk (Vs C) (Wb C).1 (Wb C).2 I_NoStyle_init (hr.mono (by omega)) db_NoStyle_init_1 dv_NoStyle_init_1 (fun _ _ => .nil) (by rfl) (Z02 C) (Zg (Zo [99,111,110,116,101,120,116]) Zj) (Ze Zh) (Z01 C)))
      Y8)))
theorem Zdy : GT P w K mg base 1 (gY "is_from_to") Z3q 3 Uw := by
  refine fnFD (Qo C) Zcy fun cdv A outer s H E hr hG => ?_
  exact (Zm (Zr (Z21 rfl (Yo (Zjg rfl) (by rfl) (Qu C) (by decide +kernel) (Zg (Zf (pv 0)) (Zg (f_c (pe_bltn (v := .ty "int") (by rfl) (Vt C) (by decide +kernel) rfl) (fun _ _ => .ty _)) Zj))) (Z21 rfl (Zj4 rfl (Yo (Zjg rfl) (by rfl) (Qu C) (by decide +kernel) (Zg (Zf (pv 0)) (Zg (f_c (pe_bltn (v := .ty "bool") (by rfl) (Zob C) (by decide +kernel) rfl) (fun _ _ => .ty _)) Zj)))) (Z0w (Zcp Z7s Z7s (Zf (pv 1)) (Zf (pv 0)) (Zf (pv 2))))))))
theorem Z3j : GT P w K mg base 3 (gY "check_numbers") Z06 3 Vq := by
  have G_is_from_to := @Zdy P base w K mg C
  have I_NoStyle_init := @Z0u P base w K mg C
  obtain ⟨ds_NoStyle_init_1,dv_NoStyle_init_1,db_NoStyle_init_1⟩ := Je C
  obtain ⟨t_MOST_INDENT,g_MOST_INDENT⟩ := Zbf C
  obtain ⟨t_MOST_WIDTH,g_MOST_WIDTH⟩ := Zdr C
  refine fnFD (Ug C) Z95 fun cdv A outer s H E hr hG => ?_
  exact (Zi (Yp (U4 (Yw rfl (Y9 rfl G_is_from_to (hr.mono (by omega)) hG (by rfl) (Z3a C) (Qo C).kp (Z33 C) .nil Dfl.nil tk (Zg (Zf (pv 0)) (Zg f_int (Zg (f_c (pe_glob (v := .int (100)) rfl g_MOST_INDENT ⟨_,rfl⟩) (fun _ _ => .int _)) Zj))) (Ze (Ze (Ze Zh))))))
      (Zm (Z4k rfl rfl tk (Vs C) (Wb C).1 (Wb C).2 I_NoStyle_init (hr.mono (by omega)) db_NoStyle_init_1 dv_NoStyle_init_1 (fun _ _ => .nil) (by rfl) (Z02 C) (Zg (Zo [105,110,100,101,110,116]) Zj) (Ze Zh) (Z01 C)))
      Y8)
    (Zi (Yp (U4 (Yw rfl (Y9 rfl G_is_from_to (hr.mono (by omega)) hG (by rfl) (Z3a C) (Qo C).kp (Z33 C) .nil Dfl.nil tk (Zg (Zf (pv 1)) (Zg f_int (Zg (f_c (pe_glob (v := .int (200)) rfl g_MOST_WIDTH ⟨_,rfl⟩) (fun _ _ => .int _)) Zj))) (Ze (Ze (Ze Zh))))))
      (Zm (Z4k rfl rfl tk (Vs C) (Wb C).1 (Wb C).2 I_NoStyle_init (hr.mono (by omega)) db_NoStyle_init_1 dv_NoStyle_init_1 (fun _ _ => .nil) (by rfl) (Z02 C) (Zg (Zo [119,105,100,116,104]) Zj) (Ze Zh) (Z01 C)))
      Y8)
    (Zm (Yp (U4 (Yw rfl (Y9 rfl G_is_from_to (hr.mono (by omega)) hG (by rfl) (Z3a C) (Qo C).kp (Z33 C) .nil Dfl.nil tk (Zg (Zf (pv 2)) (Zg f_int (Zg (Yo (Zlk rfl) (by rfl) (Zhp C) (by decide +kernel) (Zg f_int (Zg (f_op (Yd rfl) (Zf (pv 0)) f_int) Zj))) Zj))) (Ze (Ze (Ze Zh))))))
      (Zm (Z4k rfl rfl tk (Vs C) (Wb C).1 (Wb C).2 I_NoStyle_init (hr.mono (by omega)) db_NoStyle_init_1 dv_NoStyle_init_1 (fun _ _ => .nil) (by rfl) (Z02 C) (Zg (Zo [100,101,101,112]) Zj) (Ze Zh) (Z01 C)))
      Y8))))
theorem Zgr  : FnG P w K mg base 1 (gY "signs_of" K) (fdOf K (gY "signs_of" K)) Z7u (spF K 2 Zc6) := by
  refine Zpo (fn_T (Zlx (Z6b C)) Zg7 (by decide +kernel) (by decide) (fun vs H Q E h => ?_) (fun cdv A outer s H vs Q E hr h => ?_))
  · obtain ⟨w,y,rfl,_⟩ := h; rfl
  · obtain ⟨w,y,rfl,hl,q⟩ := h
    refine ⟨_,(psst_cons (CwR.pst_if (pt_cmpR op_eq (pv 1) pe_str (nomark _))
        (CwR.psst_one (CwR.pst_ret (CwR.pet_replC (pv 0))))
        CwR.psst_nil)
      (psst_cons (CwR.pst_if (pt_cmpR op_eq (pv 1) pe_str (nomark _))
        (CwR.psst_one (CwR.pst_ret (CwR.pet_replT (CwR.pet_replT (CwR.pet_replC (pv 0))))))
        CwR.psst_nil)
      (CwR.psst_one (PST.of (ps_ret (pv 0)))))),?_⟩
    have e1 : decide (V.str (S y) = V.str (Str.ofString "single")) = decide (y = [115,105,110,103,108,101]) := by
      rw [show Str.ofString "single" = S [115,105,110,103,108,101] from rfl, decS]
    have e2 : decide (V.str (S y) = V.str (Str.ofString "double")) = decide (y = [100,111,117,98,108,101]) := by
      rw [show Str.ofString "double" = S [100,111,117,98,108,101] from rfl, decS]
    have h1 := Zd8 (z := [92,92]) (c := 92) (by decide) w
    have h2 := Zd8 (z := [92,34]) (c := 34) (by decide) (repC 92 [92,92] w)
    refine Evl.s_if (Evl.et_is (Evl.et_test (Evl.ev_op (Evl.ev_var rfl) Evl.ev_c (Evl.rv_eq rfl))) e1) (fun k H1 s1 => ?_) (fun k H1 s1 => ?_)
    · refine Evl.s_ret (Zcn (c := 39) (z := [39,39]) (Evl.ev_var rfl) rfl rfl (by omega) (by decide)) (fun H2 s2 => ?_)
      have := q H2 (Same.trans s1 s2)
      unfold sgnL at this
      rw [if_pos (of_decide_eq_true k)] at this
      exact this
    · refine Evl.s_if (Evl.et_is (Evl.et_test (Evl.ev_op (Evl.ev_var rfl) Evl.ev_c (Evl.rv_eq rfl))) e2) (fun k2 H2 s2 => ?_) (fun k2 H2 s2 => ?_)
      · refine Evl.s_ret (Zcn (c := 10) (z := [92,110]) (Zcn (c := 34) (z := [92,34]) (Zcn (c := 92) (z := [92,92]) (Evl.ev_var rfl) rfl rfl (by omega) (by decide)) rfl rfl (by unfold repC at *; omega) (by decide)) rfl rfl (by unfold repC at *; omega) (by decide)) (fun H3 s3 => ?_)
        have := q H3 (Same.trans s1 (Same.trans s2 s3))
        unfold sgnL at this
        rw [if_neg (of_decide_eq_false k),if_pos (of_decide_eq_true k2)] at this
        exact this
      · refine Evl.s_ret (Evl.ev_var rfl) (fun H3 s3 => ?_)
        have := q H3 (Same.trans s1 (Same.trans s2 s3))
        unfold sgnL at this
        rw [if_neg (of_decide_eq_false k),if_neg (of_decide_eq_false k2)] at this
        exact this
theorem Zci : GT P w K mg base 1 (gY "is_sign") Z9l 1 Z79 := by
  refine fnFD (Z29 C) Zib fun cdv A outer s H E hr hG => ?_
  exact (Zm (Zr (Zcp Z7s Z7s (Zo [33]) (Zf (pv 0)) (Zo [126]))))
theorem Zaj : GT P w K mg base 2 (gY "words_of") Z7v 1 Z8a := by
  have G_is_sign := @Zci P base w K mg C
  refine fnFD (Z34 C) Z2p fun cdv A outer s H E hr hG => ?_
  exact (Zi (Zh6 (i := 1) (j := 2) rfl Z2p.nd rfl rfl (by decide) rfl rfl (Zg (Vu Zj Zh) (Zg f_int Zj)) (Ze (Ze Zh)) (by rfl))
    (Zi (Z22 (passes_of rfl) rfl (Zje (by rfl) (Z4t C) (Zg f_int (Zg (f_op Z2g (Yo (Z6p rfl) (by rfl) (Z1l C) (by decide +kernel) (Zg (Zf (pv 0)) Zj)) f_int) Zj)) (Ze (Ze Zh))) (W8 (i := 3) Z2p.nd rfl (Or.inl rfl))
      (Zm (Yp (PW.pt (V6 (Zq (o_eq hr.units rfl) (f_ix (Xv hr.units rfl) (Zf (pv 0)) (Zf (pv 3)) (fun _ _ => rfl)) (Zo [32]) (nomark _)) (V6 (Yw rfl (Y9 rfl G_is_sign (hr.mono (by omega)) hG (by rfl) (Z8g C) (Z29 C).kp (Z8c C) .nil Dfl.nil tk (Zg (f_ix (Xv hr.units rfl) (Zf (pv 0)) (f_op Z2g (Zf (pv 3)) f_int) (fun _ _ => rfl)) Zj) (Ze Zh))) (Wi (Yw rfl (Y9 rfl G_is_sign (hr.mono (by omega)) hG (by rfl) (Z8g C) (Z29 C).kp (Z8c C) .nil Dfl.nil tk (Zg (f_ix (Xv hr.units rfl) (Zf (pv 0)) (f_op (Yd rfl) (Zf (pv 3)) f_int) (fun _ _ => rfl)) Zj) (Ze Zh)))))))
        (Zi (Xk (f_bm rfl PySem.F.plainAttrs_list PySem.F.slot_list_append PySem.F.type_list_append m_append (Zf (pv 1)) (Zg (f_sl rfl (Zf (pv 0)) (Xc (Zf (pv 2))) (Xc (Zf (pv 3)))) Zj)))
        (Zm (Zt (i := 2) Z2p.nd rfl (Or.inl rfl) (f_op (Yd rfl) (Zf (pv 3)) f_int))))
        Y8)))
    (Zm (Zr (f_op (Yd rfl) (Zf (pv 1)) (Vu (Zg (f_sl rfl (Zf (pv 0)) (Xc (Zf (pv 2))) Q5) Zj) (Ze Zh)))))))
theorem Z93 : GT P w K mg base 1 (gY "is_marked") Z5u 1 Jc := by
  refine fnFD (Z1d C) Zem fun cdv A outer s H E hr hG => ?_
  exact (Zm (Zr (Z21 rfl (We (Z23 hr.units rfl) (f_sl rfl (Zf (pv 0)) Q5 (Xc f_int)) (f_tup (Zg (Zo [45,45,45]) (Zg (Zo [46,46,46]) Zj)) (Ze (Ze Zh))) rfl) (Z0w (We (Z23 hr.units rfl) (f_sl rfl (Zf (pv 0)) (Xc f_int) (Xc f_int)) (f_tup (Zg (Zo []) (Zg (Zo [32]) Zj)) (Ze (Ze Zh))) rfl)))))
theorem Zak : GT P w K mg base 2 (gY "blanks_ahead") Z1q 2 Va := by
  have G_is_marked := @Z93 P base w K mg C
  refine fnFD (Qp C) Z9n fun cdv A outer s H E hr hG => ?_
  exact (Zm (Zr (f_op (Yd rfl) (Zf (pv 1)) (Xb (U0 (nd_ C)) (by rfl) (Vt C) (by decide +kernel) (Zg (Z21 rfl (We (o_eq hr.units rfl) (Zf (pv 1)) f_int (nomark _)) (Z0w (Y9 rfl G_is_marked (hr.mono (by omega)) hG (by rfl) (Z92 C) (Z1d C).kp (Z8z C) .nil Dfl.nil tk (Zg (Zf (pv 0)) Zj) (Ze Zh)))) Zj)))))
theorem Zfs : GT P w K mg base 3 (gY "filled") Zcz 4 Z4n := by
  have G_blanks_ahead := @Zak P base w K mg C
  refine fnFD (Z7g C) Z24 fun cdv A outer s H E hr hG => ?_
  exact (Zi (Zt (i := 4) Z24.nd rfl (Or.inl rfl) (Vu Zj Zh))
    (Zi (Zt (i := 5) Z24.nd rfl (Or.inl rfl) (f_if (Yw rfl (Zf (pv 3))) (f_ix (Xv hr.units rfl) (Zf (pv 0)) f_int (fun _ _ => rfl)) (f_op (Yd rfl) (f_op Qw (Zo [32]) (Y9 rfl G_blanks_ahead (hr.mono (by omega)) hG (by rfl) (Z4f C) (Qp C).kp (Z48 C) .nil Dfl.nil tk (Zg (f_ix (Xv hr.units rfl) (Zf (pv 0)) f_int (fun _ _ => rfl)) (Zg (Zf (pv 2)) Zj)) (Ze (Ze Zh)))) (f_ix (Xv hr.units rfl) (Zf (pv 0)) f_int (fun _ _ => rfl)))))
    (Zi (Z22 (passes_of rfl) rfl (Z0z rfl (f_sl rfl (Zf (pv 0)) (Xc f_int) Q5)) (W8 (i := 6) Z24.nd rfl (Or.inl rfl))
      (Zm (Yp (Zh5 o_lt o_lt f_int (Zf (pv 1)) (f_op (Yd rfl) (f_op (Yd rfl) (Yo (Z6p rfl) (by rfl) (Z1l C) (by decide +kernel) (Zg (Zf (pv 5)) Zj)) f_int) (Yo (Z6p rfl) (by rfl) (Z1l C) (by decide +kernel) (Zg (Zf (pv 6)) Zj))))
        (Zi (Xk (f_bm rfl PySem.F.plainAttrs_list PySem.F.slot_list_append PySem.F.type_list_append m_append (Zf (pv 4)) (Zg (Zf (pv 5)) Zj)))
        (Zm (Zt (i := 5) Z24.nd rfl (Or.inl rfl) (f_op (Yd rfl) (f_op Qw (Zo [32]) (Y9 rfl G_blanks_ahead (hr.mono (by omega)) hG (by rfl) (Z4f C) (Qp C).kp (Z48 C) .nil Dfl.nil tk (Zg (Zf (pv 6)) (Zg (Zf (pv 2)) Zj)) (Ze (Ze Zh)))) (Zf (pv 6))))))
        (Zm (Zt (i := 5) Z24.nd rfl (Or.inl rfl) (f_op (Yd rfl) (f_op (Yd rfl) (Zf (pv 5)) (Zo [32])) (Zf (pv 6))))))))
    (Zm (Zr (f_op (Yd rfl) (Zf (pv 4)) (Vu (Zg (Zf (pv 5)) Zj) (Ze Zh))))))))
theorem Zft : GT P w K mg base 4 (gY "flow_text") Z5v 4 Za2 := by
  have G_signs_of := @Zgr P base w K mg C
  have G_words_of := @Zaj P base w K mg C
  have G_filled := @Zfs P base w K mg C
  have g_QUOTES := Zfh C
  refine fnFD (Z49 C) Vj fun cdv A outer s H E hr hG => ?_
  exact (Zi (Zt (i := 4) Vj.nd rfl (Or.inl rfl) (f_if (Zq (o_eq hr.units rfl) (Zf (pv 1)) (Zo [100,111,117,98,108,101]) (nomark _)) (Vu (Zg (Zf (pv 0)) Zj) (Ze Zh)) (f_bm rfl PySem.F.plainAttrs_str PySem.F.slot_str_split PySem.F.type_str_split m_split (Zf (pv 0)) (Zg (Zo [10]) Zj))))
    (Zi (Zt (i := 5) Vj.nd rfl (Or.inl rfl) (Vu Zj Zh))
    (Zi (Z22 (passes_of rfl) rfl (Z99 rfl (by rfl) (Z1m C) (Zg (Zf (pv 4)) Zj) (Ze Zh)) (Z6n rfl rfl (Xu (W8 (i := 6) Vj.nd rfl (Or.inl rfl)) (Xu (W8 (i := 7) Vj.nd rfl (Or.inl rfl)) Z2i)))
      (Zi (Zha (i := 8) (own := [("word", 9)]) (Z2j 9) (by decide) rfl Vj.nd rfl rfl (sw_true rfl rfl rfl (by decide +kernel)) (Z0z rfl (Y9 rfl G_words_of (hr.mono (by omega)) hG (by rfl) (Zah C) (Z34 C).kp (Zac C) .nil Dfl.nil tk (Zg (Zf (pv 7)) Zj) (Ze Zh))) (blkOk_by (N := Z9o) (sc := defScope Vi) (by decide +kernel)) (fun _ _ _ _ _ => (pg_name (i := 9) Vj.nd rfl (Or.inl rfl))) (fun _ _ _ _ _ => Z2k) (fun _ _ _ _ _ => (Y9 rfl G_signs_of (hr.mono (by omega)) hG (by rfl) (Zgo C) (Z6b C).kp (Zgk C) .nil Dfl.nil Z6r (Zg (Zf (pv 9)) (Zg (Zf (pv 1)) Zj)) (Ze (Ze Zh)))))
      (Zi (Z6o (f_op (Yd rfl) (f_op Qw (Z94 rfl (by rfl) g_QUOTES (Zf (pv 1)) (fun _ _ => rfl)) (Xb (U0 (nd_ C)) (by rfl) (Vt C) (by decide +kernel) (Zg (We (o_eq hr.units rfl) (Zf (pv 6)) f_int (nomark _)) Zj))) (f_ix (Xv hr.units rfl) (Zf (pv 8)) f_int (fun _ _ => rfl))) (Z9g hr.units (Zf (pv 8)) f_int))
      (Zi (Z6o (f_op (Yd rfl) (f_ix (Xv hr.units rfl) (Zf (pv 8)) (Zi8 f_int) (fun _ _ => rfl)) (f_op Qw (Z94 rfl (by rfl) g_QUOTES (Zf (pv 1)) (fun _ _ => rfl)) (Xb (U0 (nd_ C)) (by rfl) (Vt C) (by decide +kernel) (Zg (We (o_eq hr.units rfl) (Zf (pv 6)) (f_op Z2g (Yo (Z6p rfl) (by rfl) (Z1l C) (by decide +kernel) (Zg (Zf (pv 4)) Zj)) f_int) (nomark _)) Zj)))) (Z9g hr.units (Zf (pv 8)) (Zi8 f_int)))
      (Zm (Yp (Zq (Zm3 hr.units rfl) (Zf (pv 8)) (Vu (Zg (Zo []) Zj) (Ze Zh)) (nomark _))
        (Zm (Xk (f_bm rfl PySem.F.plainAttrs_list PySem.F.slot_list_append PySem.F.type_list_append m_append (Zf (pv 5)) (Zg (Zo []) Zj))))
        (Zm (Xk (f_bm rfl PySem.F.plainAttrs_list PySem.F.slot_list_extend PySem.F.type_list_extend m_extend (Zf (pv 5)) (Zg (f_op (Yd rfl) (f_op Qw (Vu (Zg (Zo []) Zj) (Ze Zh)) (Xb (U0 (nd_ C)) (by rfl) (Vt C) (by decide +kernel) (Zg (We Zcv (Zf (pv 6)) f_int (nomark _)) Zj))) (Y9 rfl G_filled (hr.mono (by omega)) hG (by rfl) (Zfk C) (Z7g C).kp (Zfb C) .nil Dfl.nil tk (Zg (Zf (pv 8)) (Zg (Zf (pv 3)) (Zg (Zf (pv 2)) (Zg (We (o_eq hr.units rfl) (Zf (pv 6)) f_int (nomark _)) Zj)))) (Ze (Ze (Ze (Ze Zh)))))) Zj))))))))))
    (Zm (Zr (f_bm rfl PySem.F.plainAttrs_str PySem.F.slot_str_join PySem.F.type_str_join (m_join rfl) (Zo [10]) (Zg (Zf (pv 5)) Zj)))))))
theorem Zgs : GT P w K mg base 1 (gY "parts_of") Z7w 2 Z4o := by
  have g_WHITE := Zdx C
  have q_WHITE := Zds C
  refine fnFD (Z6c C) Z08 fun cdv A outer s H E hr hG => ?_
  exact (Zi (Zh6 (i := 2) (j := 3) rfl Z08.nd rfl rfl (by decide) rfl rfl (Zg (Vu Zj Zh) (Zg f_bl Zj)) (Ze (Ze Zh)) (by rfl))
    (Zi (Z22 (passes_of rfl) rfl (Z0z rfl (f_bm rfl PySem.F.plainAttrs_str PySem.F.slot_str_split PySem.F.type_str_split m_split (Zf (pv 0)) (Zg (Zo [10]) Zj))) (W8 (i := 4) Z08.nd rfl (Or.inl rfl))
      (Zi (Zt (i := 5) Z08.nd rfl (Or.inl rfl) (Z21 rfl (We (o_ne hr.units rfl) (Zf (pv 4)) (Zo []) (nomark _)) (Z0w (We (Nq hr.units rfl) (f_ix (Xv hr.units rfl) (Zf (pv 4)) f_int (fun _ _ => rfl)) (f_c (pe_glob (v := .ref (He.ga _ "WHITE")) rfl g_WHITE rfl) (fun _ H => .tup (q_WHITE H) Z9c)) rfl))))
      (Zi (Yp (PW.pt (V6 (Yw rfl (Zf (pv 1))) (V6 (Yw rfl (Zf (pv 5))) (Wi (Yw rfl (Zf (pv 3)))))))
        (Zm (Xk (f_bm rfl PySem.F.plainAttrs_list PySem.F.slot_list_append PySem.F.type_list_append m_append (Zf (pv 2)) (Zg (Zo []) Zj))))
        Y8)
      (Zi (Yp (Zq (o_ne hr.units rfl) (Zf (pv 4)) (Zo []) (nomark _))
        (Zm (Zt (i := 3) Z08.nd rfl (Or.inl rfl) (Zf (pv 5))))
        Y8)
      (Zm (Xk (f_bm rfl PySem.F.plainAttrs_list PySem.F.slot_list_append PySem.F.type_list_append m_append (Zf (pv 2)) (Zg (Zf (pv 4)) Zj))))))))
    (Zm (Zr (Zf (pv 2))))))
theorem Zfu : GT P w K mg base 1 (gY "is_parted") Z5w 2 Za3 := by
  have g_WHITE := Zdx C
  have q_WHITE := Zds C
  refine fnFD (Z4a C) Zeo fun cdv A outer s H E hr hG => ?_
  exact (Zm (Zr (Z21 rfl (Zf (pv 1)) (Z0w (We (Nq hr.units rfl) (f_sl rfl (Zf (pv 0)) Q5 (Xc f_int)) (f_c (pe_glob (v := .ref (He.ga _ "WHITE")) rfl g_WHITE rfl) (fun _ H => .tup (q_WHITE H) Z9c)) rfl)))))
theorem Zdz : GT P w K mg base 4 (gY "block_text") Z3s 5 Z1a := by
  have G_parts_of := @Zgs P base w K mg C
  have G_words_of := @Zaj P base w K mg C
  have G_is_parted := @Zfu P base w K mg C
  have G_filled := @Zfs P base w K mg C
  have G_is_marked := @Z93 P base w K mg C
  have g_HEADS := Z9d C
  refine fnFD (Z35 C) Ye fun cdv A outer s H E hr hG => ?_
  exact (Zi (Zt (i := 5) Ye.nd rfl (Or.inl rfl) (f_bm rfl PySem.F.plainAttrs_str PySem.F.slot_str_rstrip PySem.F.type_str_rstrip m_rstrip (Zf (pv 0)) (Zg (Zo [10]) Zj)))
    (Zi (Zt (i := 6) Ye.nd rfl (Or.inl rfl) (f_op Z2g (Yo (Z6p rfl) (by rfl) (Z1l C) (by decide +kernel) (Zg (Zf (pv 0)) Zj)) (Yo (Z6p rfl) (by rfl) (Z1l C) (by decide +kernel) (Zg (Zf (pv 5)) Zj))))
    (Zi (Yp (Zq (o_eq hr.units rfl) (Zf (pv 5)) (Zo []) (nomark _))
      (Zm (Zr (f_op (Yd rfl) (f_op (Yd rfl) (Z94 rfl (by rfl) g_HEADS (Zf (pv 1)) (fun _ _ => rfl)) (f_ix (Xv hr.units rfl) (Vu (Zg (Zo [45]) (Zg (Zo [43]) Zj)) (Ze (Ze Zh))) (Xb (U0 (nd_ C)) (by rfl) (Vt C) (by decide +kernel) (Zg (We Zcv (Zf (pv 6)) f_int (nomark _)) Zj)) (fun _ _ => rfl))) (f_op Qw (Zo [10]) (Zf (pv 6))))))
      Y8)
    (Zi (Zt (i := 7) Ye.nd rfl (Or.inl rfl) (Y9 rfl G_parts_of (hr.mono (by omega)) hG (by rfl) (Zgp C) (Z6c C).kp (Zgl C) .nil Dfl.nil tk (Zg (Zf (pv 5)) (Zg (We (o_eq hr.units rfl) (Zf (pv 1)) (Zo [102,111,108,100,101,100]) (nomark _)) Zj)) (Ze (Ze Zh))))
    (Zi (Zha (i := 8) (own := [("part", 15)]) (Z2j 15) (by decide) rfl Ye.nd rfl rfl (sw_true rfl rfl rfl (by decide +kernel)) (Z0z rfl (Zf (pv 7))) (blkOk_by (N := Uv) (sc := defScope Xy) (by decide +kernel)) (fun _ _ _ _ _ => (pg_name (i := 15) Ye.nd rfl (Or.inl rfl))) (fun _ _ _ _ _ => Z2k) (fun _ _ _ _ _ => (f_if (PW.pt (V6 (Zq Zcv (Zf (pv 3)) f_int (nomark _)) (Wi (Yw rfl (Y9 rfl G_is_parted (hr.mono (by omega)) hG (by rfl) (Zfl C) (Z4a C).kp (Zfd C) .nil Dfl.nil Z6r (Zg (Zf (pv 15)) (Zg (We (o_eq hr.units rfl) (Zf (pv 1)) (Zo [102,111,108,100,101,100]) (nomark _)) Zj)) (Ze (Ze Zh))))))) (Y9 rfl G_words_of (hr.mono (by omega)) hG (by rfl) (Zah C) (Z34 C).kp (Zac C) .nil Dfl.nil Z6r (Zg (Zf (pv 15)) Zj) (Ze Zh)) (Vu (Zg (Zf (pv 15)) Zj) (Ze Zh)))))
    (Zi (Zt (i := 10) Ye.nd rfl (Or.inl rfl) (Z21 rfl (We (o_eq hr.units rfl) (Zf (pv 2)) f_int (nomark _)) (Z0w (Yo (Zlq rfl rfl) (by rfl) (Zhq C) (by decide +kernel) (Zg (f_lc (own := [("words", 9)]) (Z2j 9) (by decide) rfl Ye.nd (Z0z rfl (Zf (pv 8))) (blkOk_by (N := Uv) (sc := defScope Xy) (by decide +kernel)) (fun _ _ _ _ _ => (pg_name (i := 9) Ye.nd rfl (Or.inl rfl))) (fun _ _ _ _ _ => Z2k) (fun _ _ _ _ _ => (Yo (Zlq rfl rfl) (by rfl) (Zhq C) (by decide +kernel) (Zg (f_lc (own := [("word", 16)]) (Z2j 16) (by decide) rfl Ye.nd (Z0z rfl (Zf (pv 9))) (by first | exact (blkOk_by (N := Uv) (sc := { kind := .function, names := [(".0", .local), ("words", .local), ("any", .globalImplicit)], isGenerator := false, isCoroutine := false }) (by decide +kernel)) | exact (blkOk_by (N := Uv) (sc := { kind := .function, names := [(".0", .local), ("words", .local), ("any", .globalImplicit)], isGenerator := false, isCoroutine := false }) (by decide +kernel))) (fun _ _ _ _ _ => (pg_name (i := 16) Ye.nd rfl (Or.inl rfl))) (fun _ _ _ _ _ => Z2k) (fun _ _ _ _ _ => (Y9 rfl G_is_marked (hr.mono (by omega)) hG (by rfl) (Z92 C) (Z1d C).kp (Z8z C) .nil Dfl.nil Z6r (Zg (Zf (pv 16)) Zj) (Ze Zh)))) Zj)))) Zj)))))
    (Zi (Zt (i := 11) Ye.nd rfl (Or.inl rfl) (Vu Zj Zh))
    (Zi (Z22 (passes_of rfl) rfl (Z0z rfl (Zf (pv 8))) (W8 (i := 9) Ye.nd rfl (Or.inl rfl))
      (Zm (Xk (f_bm rfl PySem.F.plainAttrs_list PySem.F.slot_list_extend PySem.F.type_list_extend m_extend (Zf (pv 11)) (Zg (f_if (Zq (Zm3 hr.units rfl) (Zf (pv 9)) (Vu (Zg (Zo []) Zj) (Ze Zh)) (nomark _)) (Vu (Zg (Zo []) Zj) (Ze Zh)) (Y9 rfl G_filled (hr.mono (by omega)) hG (by rfl) (Zfk C) (Z7g C).kp (Zfb C) .nil Dfl.nil tk (Zg (Zf (pv 9)) (Zg (Zf (pv 3)) (Zg (f_op (Yd rfl) (Zf (pv 2)) (Xb (U0 (nd_ C)) (by rfl) (Vt C) (by decide +kernel) (Zg (Zf (pv 10)) Zj))) (Zg f_bl Zj)))) (Ze (Ze (Ze (Ze Zh)))))) Zj)))))
    (Zi (Zt (i := 12) Ye.nd rfl (Or.inl rfl) (f_ix (Xv hr.units rfl) (f_lc (own := [("part", 15)]) (Z2j 15) (by decide) rfl Ye.nd (Z0z rfl (Zf (pv 7))) (blkOk_by (N := Uv) (sc := defScope Xy) (by decide +kernel)) (fun _ _ _ _ _ => (pg_name (i := 15) Ye.nd rfl (Or.inl rfl))) (fun _ _ _ _ _ => (Zjj (Zq (o_ne hr.units rfl) (Zf (pv 15)) (Zo []) (nomark _)))) (fun _ _ _ _ _ => (Zf (pv 15)))) f_int (fun _ _ => rfl)))
    (Zi (Zt (i := 13) Ye.nd rfl (Or.inl rfl) (f_if (Zq (o_eq hr.units rfl) (f_ix (Xv hr.units rfl) (Zf (pv 12)) f_int (fun _ _ => rfl)) (Zo [32]) (nomark _)) (Xb (Zpb (nd_ C) rfl) (by rfl) (Zfr C) (by decide +kernel) (Zg (f_op (Yd rfl) (Zf (pv 4)) (Xb (U0 (nd_ C)) (by rfl) (Vt C) (by decide +kernel) (Zg (Zf (pv 10)) Zj))) Zj)) (Zo [])))
    (Zi (Zt (i := 14) Ye.nd rfl (Or.inl rfl) (f_ix (Xv hr.units rfl) (Vu (Zg (Zo [45]) (Zg (Zo []) (Zg (Zo [43]) Zj))) (Ze (Ze (Ze Zh)))) (Yo (Zlk rfl) (by rfl) (Zhp C) (by decide +kernel) (Zg f_int (Zg (Zf (pv 6)) Zj))) (fun _ _ => rfl)))
    (Zm (Zr (f_op (Yd rfl) (f_op (Yd rfl) (f_op (Yd rfl) (f_op (Yd rfl) (f_op (Yd rfl) (Z94 rfl (by rfl) g_HEADS (Zf (pv 1)) (fun _ _ => rfl)) (Zf (pv 13))) (Zf (pv 14))) (Zo [10])) (f_bm rfl PySem.F.plainAttrs_str PySem.F.slot_str_join PySem.F.type_str_join (m_join rfl) (Zo [10]) (Zg (Zf (pv 11)) Zj))) (f_op Qw (Zo [10]) (Yo (Zeg rfl) (by rfl) (Z7n C) (by decide +kernel) (Zg f_int (Zg (f_op Z2g (Zf (pv 6)) f_int) Zj))))))))))))))))))
theorem Ziy : GT P w K mg base 5 (gY "text_in") Z9q 6 Za4 := by
  have G_flow_text := @Zft P base w K mg C
  have G_block_text := @Zdz P base w K mg C
  have g_HEADS := Z9d C
  have g_ONE_LINE := Z6h C
  have q_ONE_LINE := Z6f C
  refine fnFD (Z8d C) Zie fun cdv A outer s H E hr hG => ?_
  exact (Zi (Yp (Zk1 rfl (by rfl) g_HEADS (Zf (pv 1)))
      (Zm (Zr (Y9 rfl G_block_text (hr.mono (by omega)) hG (by rfl) (Zdu C) (Z35 C).kp (Zdl C) .nil Dfl.nil tk (Zg (Zf (pv 0)) (Zg (Zf (pv 1)) (Zg (Zf (pv 3)) (Zg (Zf (pv 4)) (Zg (Zf (pv 5)) Zj))))) (Ze (Ze (Ze (Ze (Ze Zh))))))))
      Y8)
    (Zm (Zr (Y9 rfl G_flow_text (hr.mono (by omega)) hG (by rfl) (Zfm C) (Z49 C).kp (Zfc C) .nil Dfl.nil tk (Zg (Zf (pv 0)) (Zg (Zf (pv 1)) (Zg (Zf (pv 3)) (Zg (f_if (Zq (Z23 hr.units rfl) (Zf (pv 2)) (f_c (pe_glob (v := .ref (He.ga _ "ONE_LINE")) rfl g_ONE_LINE rfl) (fun _ H => .tup (q_ONE_LINE H) Z6a)) rfl) f_int (Zf (pv 4))) Zj)))) (Ze (Ze (Ze (Ze Zh))))))))
theorem Zbp : GT P w K mg base 1 (gY "fits_single") Z2s 2 Z7a := by
  have g_ONE_LINE := Z6h C
  have q_ONE_LINE := Z6f C
  have g_WHITE := Zdx C
  have q_WHITE := Zds C
  refine fnFD (Z1x C) V9 fun cdv A outer s H E hr hG => ?_
  exact (Zi (Zt (i := 2) V9.nd rfl (Or.inl rfl) (f_bm rfl PySem.F.plainAttrs_str PySem.F.slot_str_split PySem.F.type_str_split m_split (Zf (pv 0)) (Zg (Zo [10]) Zj)))
    (Zi (Yp (PW.pt (V6 (Zq Zcv (Yo (Z6p rfl) (by rfl) (Z1l C) (by decide +kernel) (Zg (Zf (pv 2)) Zj)) f_int (nomark _)) (Wi (Zq (Z23 hr.units rfl) (Zf (pv 1)) (f_c (pe_glob (v := .ref (He.ga _ "ONE_LINE")) rfl g_ONE_LINE rfl) (fun _ H => .tup (q_ONE_LINE H) Z6a)) rfl))))
      (Zm (Zr f_bl))
      Y8)
    (Zi (Yp (Yw rfl (Yo (Zlq rfl rfl) (by rfl) (Zhq C) (by decide +kernel) (Zg (f_lc (own := [("row", 3)]) (Z2j 3) (by decide) rfl V9.nd (Z0z rfl (f_sl rfl (Zf (pv 2)) (Xc f_int) Q5)) (blkOk_by (N := Z2r) (sc := defScope Xw) (by decide +kernel)) (fun _ _ _ _ _ => (pg_name (i := 3) V9.nd rfl (Or.inl rfl))) (fun _ _ _ _ _ => Z2k) (fun _ _ _ _ _ => (We (Z23 hr.units rfl) (f_sl rfl (Zf (pv 3)) Q5 (Xc f_int)) (f_c (pe_glob (v := .ref (He.ga _ "WHITE")) rfl g_WHITE rfl) (fun _ H => .tup (q_WHITE H) Z9c)) rfl))) Zj)))
      (Zm (Zr f_bl))
      Y8)
    (Zm (Zr (Zj4 rfl (Yo (Zlq rfl rfl) (by rfl) (Zhq C) (by decide +kernel) (Zg (f_lc (own := [("row", 3)]) (Z2j 3) (by decide) rfl V9.nd (Z0z rfl (f_sl rfl (Zf (pv 2)) Q5 (Xc (Zi8 f_int)))) (blkOk_by (N := Z2r) (sc := defScope Xw) (by decide +kernel)) (fun _ _ _ _ _ => (pg_name (i := 3) V9.nd rfl (Or.inl rfl))) (fun _ _ _ _ _ => Z2k) (fun _ _ _ _ _ => (We (Z23 hr.units rfl) (f_sl rfl (Zf (pv 3)) (Xc (Zi8 f_int)) Q5) (f_c (pe_glob (v := .ref (He.ga _ "WHITE")) rfl g_WHITE rfl) (fun _ H => .tup (q_WHITE H) Z9c)) rfl))) Zj))))))))
theorem Z8h : GT P w K mg base 1 (gY "is_safe") Z9r 2 Z0m := by
  have g_IN_BRACKETS := Zbn C
  have q_IN_BRACKETS := Zbg C
  obtain ⟨t_BRACKETS,g_BRACKETS⟩ := Zgn C
  refine fnFD (Uy C) Zif fun cdv A outer s H E hr hG => ?_
  exact (Zm (Zr (Z21 rfl (Zcp Z7s Z7s (Zo [33]) (Zf (pv 0)) (Zo [126])) (Z0w (Zj4 rfl (Z21 rfl (We (Z23 hr.units rfl) (Zf (pv 1)) (f_c (pe_glob (v := .ref (He.ga _ "IN_BRACKETS")) rfl g_IN_BRACKETS rfl) (fun _ H => .tup (q_IN_BRACKETS H) Zb9)) rfl) (Z0w (We (Z23 hr.units rfl) (Zf (pv 0)) (f_c (pe_glob (v := .str (S Z89)) rfl g_BRACKETS ⟨_, rfl⟩) (fun _ _ => .str _)) rfl))))))))
theorem Zal : GT P w K mg base 2 (gY "stands_plain") Z1r 3 Z5c := by
  have G_is_safe := @Z8h P base w K mg C
  have G_is_sign := @Zci P base w K mg C
  have g_LETTERS := Z8f C
  have g_ONE_LINE := Z6h C
  have q_ONE_LINE := Z6f C
  obtain ⟨t_MAYBE_FIRST,g_MAYBE_FIRST⟩ := Z5m C
  obtain ⟨t_NOT_FIRST,g_NOT_FIRST⟩ := Z91 C
  have g_BEHIND := Zfi C
  refine fnFD (Z0q C) Z0b fun cdv A outer s H E hr hG => ?_
  exact (Zi (Zjb (i := 3) (j := 4) (l := 5) rfl Z0b.nd rfl rfl rfl (by decide) (by decide) (by decide) rfl rfl rfl (Zg (f_ix (Xv hr.units rfl) (Zf (pv 0)) (Zf (pv 1)) (fun _ _ => rfl)) (Zg (f_sl rfl (f_sl rfl (Zf (pv 0)) Q5 (Xc (Zf (pv 1)))) (Xc (Zi8 f_int)) Q5) (Zg (f_ix (Xv hr.units rfl) (f_op (Yd rfl) (Zf (pv 0)) (Z94 rfl (by rfl) g_BEHIND (Zf (pv 2)) (fun _ _ => rfl))) (f_op (Yd rfl) (Zf (pv 1)) f_int) (fun _ _ => rfl)) Zj))) (Ze (Ze (Ze Zh))) (by rfl))
    (Zi (Zt (i := 6) Z0b.nd rfl (Or.inl rfl) (We (o_eq hr.units rfl) (Zf (pv 1)) (f_op Z2g (Yo (Z6p rfl) (by rfl) (Z1l C) (by decide +kernel) (Zg (Zf (pv 0)) Zj)) f_int) (nomark _)))
    (Zi (Yp (Zq (o_eq hr.units rfl) (Zf (pv 3)) (Zo [32]) (nomark _))
      (Zm (Zr (Z21 rfl (We (Nq hr.units rfl) (Zf (pv 4)) (f_tup (Zg (Zo []) (Zg (Zo [10]) Zj)) (Ze (Ze Zh))) rfl) (Z21 rfl (We (o_ne hr.units rfl) (Zf (pv 5)) (Zo [10]) (nomark _)) (Z0w (Zj4 rfl (Zf (pv 6))))))))
      Y8)
    (Zi (Yp (Zq (o_eq hr.units rfl) (Zf (pv 3)) (Zo [10]) (nomark _))
      (Zm (Zr (Z21 rfl (We (Nq hr.units rfl) (Zf (pv 2)) (f_c (pe_glob (v := .ref (He.ga _ "ONE_LINE")) rfl g_ONE_LINE rfl) (fun _ H => .tup (q_ONE_LINE H) Z6a)) rfl) (Z21 rfl (We (o_ne hr.units rfl) (Zf (pv 4)) (Zo []) (nomark _)) (Z0w (Zj4 rfl (Zf (pv 6))))))))
      Y8)
    (Zi (Yp (PW.pt (Z3l (PW.pt (V6 (Zq (o_eq hr.units rfl) (Zf (pv 1)) f_int (nomark _)) (Wi (Zq (Z23 hr.units rfl) (Zf (pv 3)) (f_c (pe_glob (v := .str (S Qc)) rfl g_MAYBE_FIRST ⟨_,rfl⟩) (fun _ _ => .str _)) rfl)))) (Jo (Zq (o_eq hr.units rfl) (Zf (pv 3)) (Zo [58]) (nomark _)))))
      (Zm (Zr (Y9 rfl G_is_safe (hr.mono (by omega)) hG (by rfl) (Z03 C) (Uy C).kp (Z00 C) .nil Dfl.nil tk (Zg (Zf (pv 5)) (Zg (Z94 rfl (by rfl) g_LETTERS (Zf (pv 2)) (fun _ _ => rfl)) Zj)) (Ze (Ze Zh)))))
      Y8)
    (Zi (Yp (PW.pt (Z3l (PW.pt (V6 (Zq (o_eq hr.units rfl) (Zf (pv 3)) (Zo [35]) (nomark _)) (Wi (U4 (Yw rfl (Y9 rfl G_is_sign (hr.mono (by omega)) hG (by rfl) (Z8g C) (Z29 C).kp (Z8c C) .nil Dfl.nil tk (Zg (Zf (pv 4)) Zj) (Ze Zh))))))) (Jo (PW.pt (V6 (Zq (o_eq hr.units rfl) (Zf (pv 1)) f_int (nomark _)) (Wi (Zq (Z23 hr.units rfl) (Zf (pv 3)) (f_c (pe_glob (v := .str (S Z0k)) rfl g_NOT_FIRST ⟨_,rfl⟩) (fun _ _ => .str _)) rfl)))))))
      (Zm (Zr f_bl))
      Y8)
    (Zm (Zr (Y9 rfl G_is_safe (hr.mono (by omega)) hG (by rfl) (Z03 C) (Uy C).kp (Z00 C) .nil Dfl.nil tk (Zg (Zf (pv 3)) (Zg (Z94 rfl (by rfl) g_LETTERS (Zf (pv 2)) (fun _ _ => rfl)) Zj)) (Ze (Ze Zh)))))))))))
theorem Ze0 : GT P w K mg base 3 (gY "is_fitting") Z3u 3 Z1b := by
  have G_fits_single := @Zbp P base w K mg C
  have G_stands_plain := @Zal P base w K mg C
  refine fnFD (Z36 C) Z2t fun cdv A outer s H E hr hG => ?_
  exact (Zi (Yp (Zq (o_eq hr.units rfl) (Zf (pv 1)) (Zo [112,108,97,105,110]) (nomark _))
      (Zm (Zr (Z21 rfl (We (o_ne hr.units rfl) (Zf (pv 0)) (Zo []) (nomark _)) (Z0w (Yo (Zpa rfl rfl) (by rfl) (fr_all C) (by decide +kernel) (Zg (f_lc (own := [("at", 3)]) (Z2j 3) (by decide) rfl Z2t.nd (Z3n (by rfl) (Z4t C) (Zg (Yo (Z6p rfl) (by rfl) (Z1l C) (by decide +kernel) (Zg (Zf (pv 0)) Zj)) Zj) (Ze Zh)) (blkOk_by (N := Z8q) (sc := defScope Wu) (by decide +kernel)) (fun _ _ _ _ _ => (pg_name (i := 3) Z2t.nd rfl (Or.inl rfl))) (fun _ _ _ _ _ => Z2k) (fun _ _ _ _ _ => (Y9 rfl G_stands_plain (hr.mono (by omega)) hG (by rfl) (Zai C) (Z0q C).kp (Zad C) .nil Dfl.nil Z6r (Zg (Zf (pv 0)) (Zg (Zf (pv 3)) (Zg (Zf (pv 2)) Zj))) (Ze (Ze (Ze Zh)))))) Zj))))))
      Y8)
    (Zi (Yp (Zq (o_eq hr.units rfl) (Zf (pv 1)) (Zo [115,105,110,103,108,101]) (nomark _))
      (Zm (Zr (Y9 rfl G_fits_single (hr.mono (by omega)) hG (by rfl) (Zbj C) (Z1x C).kp (Zbb C) .nil Dfl.nil tk (Zg (Zf (pv 0)) (Zg (Zf (pv 2)) Zj)) (Ze (Ze Zh)))))
      Y8)
    (Zm (Zr (f_or rfl (We (o_eq hr.units rfl) (Zf (pv 1)) (Zo [100,111,117,98,108,101]) (nomark _)) (Z0w (We (o_eq hr.units rfl) (Zf (pv 2)) (Zo [98,108,111,99,107]) (nomark _))))))))
theorem Ziz : GT P w K mg base 6 (gY "written") Z6w 6 Qg := by
  have G_check_value := @Zbo P base w K mg C
  have G_check_place := @Z5o P base w K mg C
  have G_check_numbers := @Z3j P base w K mg C
  have G_text_in := @Ziy P base w K mg C
  have G_is_fitting := @Ze0 P base w K mg C
  refine fnFD (Z4q C) Zig fun cdv A outer s H E hr hG => ?_
  exact (Zi (Xk (Y9 rfl G_check_value (hr.mono (by omega)) hG (by rfl) (Zbk C) (Z1w C).kp (Zba C) .nil Dfl.nil tk (Zg (Zf (pv 0)) Zj) (Ze Zh)))
    (Zi (Xk (Y9 rfl G_check_place (hr.mono (by omega)) hG (by rfl) (Z5n C) (Jk C).kp (Z5h C) .nil Dfl.nil tk (Zg (Zf (pv 1)) (Zg (Zf (pv 2)) Zj)) (Ze (Ze Zh))))
    (Zi (Xk (Y9 rfl G_check_numbers (hr.mono (by omega)) hG (by rfl) (Z3i C) (Ug C).kp (Z3h C) .nil Dfl.nil tk (Zg (Zf (pv 3)) (Zg (Zf (pv 4)) (Zg (Zf (pv 5)) Zj))) (Ze (Ze (Ze Zh)))))
    (Zi (Yp (U4 (Yw rfl (Y9 rfl G_is_fitting (hr.mono (by omega)) hG (by rfl) (Zdv C) (Z36 C).kp (Zdm C) .nil Dfl.nil tk (Zg (Zf (pv 0)) (Zg (Zf (pv 1)) (Zg (Zf (pv 2)) Zj))) (Ze (Ze (Ze Zh))))))
      (Zm (Zkf rfl rfl tk (Zm9 C) (by rfl) (Zma C) (Zm8 C)))
      Y8)
    (Zm (Zr (Y9 rfl G_text_in (hr.mono (by omega)) hG (by rfl) (Ziw C) (Z8d C).kp (Zis C) .nil Dfl.nil tk (Zg (Zf (pv 0)) (Zg (Zf (pv 1)) (Zg (Zf (pv 2)) (Zg (Zf (pv 3)) (Zg (Zf (pv 4)) (Zg (Zf (pv 5)) Zj)))))) (Ze (Ze (Ze (Ze (Ze (Ze Zh)))))))))))))
theorem Z3c : GT P w K mg base 1 (gY "_law_digit") Z3v 2 Yg := by
  refine fnFD (Wh C) Nr fun cdv A outer s H E hr hG => ?_
  exact (Zi (Yp (Zq (o_eq hr.units rfl) (Yo (Z6p rfl) (by rfl) (Z1l C) (by decide +kernel) (Zg (Zf (pv 0)) Zj)) f_int (nomark _))
      (Zi (Xk (f_bm rfl PySem.F.plainAttrs_list PySem.F.slot_list_extend PySem.F.type_list_extend m_extend (Zf (pv 0)) (Zg (Vu (Zg (f_op Zi5 (Xb (U0 (nd_ C)) (by rfl) (Vt C) (by decide +kernel) (Zg (f_ix (Xv hr.units rfl) (Zf (pv 0)) f_int (fun _ _ => rfl)) Zj)) f_int) (Zg f_int Zj)) (Ze (Ze Zh))) Zj)))
      (Zm (Z6o (f_ix (Xv hr.units rfl) (Vu (Zg f_int (Zg (f_ix (Xv hr.units rfl) (Zf (pv 0)) f_int (fun _ _ => rfl)) Zj)) (Ze (Ze Zh))) (Xb (U0 (nd_ C)) (by rfl) (Vt C) (by decide +kernel) (Zg (We Zpe (f_ix (Xv hr.units rfl) (Zf (pv 0)) f_int (fun _ _ => rfl)) (f_op o_pow f_int f_int) (nomark _)) Zj)) (fun _ _ => rfl)) (Z9g hr.units (Zf (pv 0)) f_int))))
      Y8)
    (Zi (Yp (Zq Zcv (f_ix (Xv hr.units rfl) (Zf (pv 0)) f_int (fun _ _ => rfl)) f_int (nomark _))
      (Zi (Zt (i := 2) Nr.nd rfl (Or.inl rfl) (f_op Zi5 (Xb (U0 (nd_ C)) (by rfl) (Vt C) (by decide +kernel) (Zg (f_ix (Xv hr.units rfl) (Zf (pv 0)) f_int (fun _ _ => rfl)) Zj)) (Zf (pv 1))))
      (Zi (Z6o (f_op Znh (f_ix (Xv hr.units rfl) (Zf (pv 0)) f_int (fun _ _ => rfl)) (Zf (pv 1))) (Z9g hr.units (Zf (pv 0)) f_int))
      (Zm (Zr (Zf (pv 2))))))
      Y8)
    (Zi (Z6o (f_op (Yd rfl) (f_ix (Xv hr.units rfl) (Zf (pv 0)) f_int (fun _ _ => rfl)) f_int) (Z9g hr.units (Zf (pv 0)) f_int))
    (Zi (Zt (i := 3) Nr.nd rfl (Or.inl rfl) (f_op Zi5 (Xb (U0 (nd_ C)) (by rfl) (Vt C) (by decide +kernel) (Zg (f_op Qw (f_op (Yd rfl) (f_op (Yd rfl) (f_ix (Xv hr.units rfl) (Zf (pv 0)) f_int (fun _ _ => rfl)) (f_op Qw f_int (f_ix (Xv hr.units rfl) (Zf (pv 0)) f_int (fun _ _ => rfl)))) f_int) f_int) Zj)) f_int))
    (Zi (Zt (i := 3) Nr.nd rfl (Or.inl rfl) (f_op Zi5 (Xb (U0 (nd_ C)) (by rfl) (Vt C) (by decide +kernel) (Zg (f_op Qw (Zf (pv 3)) (f_op (Yd rfl) (f_op Znh (Zf (pv 3)) f_int) f_int)) Zj)) f_int))
    (Zm (Zr (f_op Zi5 (Xb (U0 (nd_ C)) (by rfl) (Vt C) (by decide +kernel) (Zg (f_op Zi5 (Xb (U0 (nd_ C)) (by rfl) (Vt C) (by decide +kernel) (Zg (f_op Qw (Zf (pv 3)) (f_op (Yd rfl) (f_op Znh (Zf (pv 3)) f_int) f_int)) Zj)) f_int) Zj)) (Zf (pv 1))))))))))
theorem Zam : GT P w K mg base 2 (gY "_law_one") Z7x 2 Xl := by
  have G__law_digit := @Z3c P base w K mg C
  refine fnFD (Jf C) Zga fun cdv A outer s H E hr hG => ?_
  exact (Zm (Zr (f_ix (Xv hr.units rfl) (Zf (pv 1)) (Y9 rfl G__law_digit (hr.mono (by omega)) hG (by rfl) (Vz C) (Wh C).kp (Vx C) .nil Dfl.nil tk (Zg (Zf (pv 0)) (Zg (Yo (Z6p rfl) (by rfl) (Z1l C) (by decide +kernel) (Zg (Zf (pv 1)) Zj)) Zj)) (Ze (Ze Zh))) (fun _ _ => rfl))))
theorem Zfv : GT P w K mg base 3 (gY "_law_rows") Z5x 1 Z31 := by
  have G__law_digit := @Z3c P base w K mg C
  have G__law_one := @Zam P base w K mg C
  refine fnFD (Z4b C) Jq fun cdv A outer s H E hr hG => ?_
  exact (Zi (Zt (i := 1) Jq.nd rfl (Or.inl rfl) (Vu (Zg (Zo [97]) (Zg (Zo [98,32,99]) (Zg (Zo [100,32,32,101]) (Zg (Zo [32,102]) (Zg (Zo [32,32]) (Zg (Zo [9,103]) (Zg (Zo [45,45,45,32,104]) (Zg (Zo [46,46,46]) (Zg (Zo [105,32]) (Zg (Zo [35,106]) (Zg (Zo [45,32,107]) Zj))))))))))) (Ze (Ze (Ze (Ze (Ze (Ze (Ze (Ze (Ze (Ze (Ze Zh)))))))))))))
    (Zi (Zt (i := 2) Jq.nd rfl (Or.inl rfl) (Vu Zj Zh))
    (Zi (Z22 (passes_of rfl) rfl (Z3n (by rfl) (Z4t C) (Zg (Y9 rfl G__law_digit (hr.mono (by omega)) hG (by rfl) (Vz C) (Wh C).kp (Vx C) .nil Dfl.nil tk (Zg (Zf (pv 0)) (Zg f_int Zj)) (Ze (Ze Zh))) Zj) (Ze Zh)) (W8 (i := 3) Jq.nd rfl (Or.inl rfl))
      (Zi (Zt (i := 4) Jq.nd rfl (Or.inl rfl) (f_if (Zq (Zo8 hr.units rfl) (Zf (pv 2)) (Vu Zj Zh) (nomark _)) (Y9 rfl G__law_one (hr.mono (by omega)) hG (by rfl) (Z3b C) (Jf C).kp (Z37 C) .nil Dfl.nil tk (Zg (Zf (pv 0)) (Zg (Vu (Zg f_int (Zg f_int (Zg f_int (Zg f_int Zj)))) (Ze (Ze (Ze (Ze Zh))))) Zj)) (Ze (Ze Zh))) (Y9 rfl G__law_one (hr.mono (by omega)) hG (by rfl) (Z3b C) (Jf C).kp (Z37 C) .nil Dfl.nil tk (Zg (Zf (pv 0)) (Zg (Vu (Zg f_int (Zg f_int (Zg f_int (Zg f_int Zj)))) (Ze (Ze (Ze (Ze Zh))))) Zj)) (Ze (Ze Zh)))))
      (Zm (Xk (f_bm rfl PySem.F.plainAttrs_list PySem.F.slot_list_append PySem.F.type_list_append m_append (Zf (pv 2)) (Zg (f_tup (Zg (Zf (pv 4)) (Zg (Y9 rfl G__law_one (hr.mono (by omega)) hG (by rfl) (Z3b C) (Jf C).kp (Z37 C) .nil Dfl.nil tk (Zg (Zf (pv 0)) (Zg (Zf (pv 1)) Zj)) (Ze (Ze Zh))) Zj)) (Ze (Ze Zh))) Zj))))))
    (Zm (Zr (Zf (pv 2)))))))
theorem Zfw : GT P w K mg base 1 (gY "_law_text") Z5y 4 Z0n := by
  refine fnFD (Z4c C) Yy fun cdv A outer s H E hr hG => ?_
  exact (Zi (Yp (Zq (Zm3 hr.units rfl) (Zf (pv 0)) (Vu Zj Zh) (nomark _))
      (Zm (Zr (f_op (Yd rfl) (f_op (Yd rfl) (Zo [62]) (f_ix (Xv hr.units rfl) (Vu (Zg (Zo [45]) (Zg (Zo [43]) Zj)) (Ze (Ze Zh))) (Xb (U0 (nd_ C)) (by rfl) (Vt C) (by decide +kernel) (Zg (We Zcv (Zf (pv 1)) f_int (nomark _)) Zj)) (fun _ _ => rfl))) (f_op Qw (Zo [10]) (Zf (pv 1))))))
      Y8)
    (Zi (Zt (i := 6) Yy.nd rfl (Or.inl rfl) (Xb (U0 (nd_ C)) (by rfl) (Vt C) (by decide +kernel) (Zg (Z21 rfl (We (o_eq hr.units rfl) (Zf (pv 2)) f_int (nomark _)) (Z0w (We (Zo8 hr.units rfl) (f_lc (own := [("_law_many", 4), ("_law_row", 5)]) (Zmz 4 5) (by decide) rfl Yy.nd (Z0z rfl (Zf (pv 0))) (blkOk_by (N := Z9t) (sc := defScope Vl) (by decide +kernel)) (fun _ _ _ _ _ => (pg_tup rfl (pgs_cons (pg_name (i := 4) Yy.nd rfl (Or.inl rfl)) (pgs_cons (pg_name (i := 5) Yy.nd rfl (Or.inl rfl)) pgs_nil)))) (fun _ _ _ _ _ => (Zjj (Zq (Z23 hr.units rfl) (f_sl rfl (f_op (Yd rfl) (Zf (pv 5)) (Zo [32])) Q5 (Xc f_int)) (f_tup (Zg (Zo [45,45,45,32]) (Zg (Zo [46,46,46,32]) Zj)) (Ze (Ze Zh))) rfl))) (fun _ _ _ _ _ => (Zf (pv 5)))) (Vu Zj Zh) (nomark _)))) Zj)))
    (Zi (Zt (i := 7) Yy.nd rfl (Or.inl rfl) (f_op (Yd rfl) (f_op (Yd rfl) (Zo [62]) (f_op Qw (Xb (Zpb (nd_ C) rfl) (by rfl) (Zfr C) (by decide +kernel) (Zg (f_op (Yd rfl) (Zf (pv 3)) (Zf (pv 6))) Zj)) (Xb (U0 (nd_ C)) (by rfl) (Vt C) (by decide +kernel) (Zg (We (o_eq hr.units rfl) (f_ix (Xv hr.units rfl) (f_ix (Xv hr.units rfl) (f_ix (Xv hr.units rfl) (Zf (pv 0)) f_int (fun _ _ => rfl)) f_int (fun _ _ => rfl)) f_int (fun _ _ => rfl)) (Zo [32]) (nomark _)) Zj)))) (f_ix (Xv hr.units rfl) (Vu (Zg (Zo [45]) (Zg (Zo []) (Zg (Zo [43]) Zj))) (Ze (Ze (Ze Zh)))) (Yo (Zlk rfl) (by rfl) (Zhp C) (by decide +kernel) (Zg (Zf (pv 1)) (Zg f_int Zj))) (fun _ _ => rfl))))
    (Zi (Zt (i := 8) Yy.nd rfl (Or.inl rfl) (Zo [32]))
    (Zi (Z22 (passes_of rfl) rfl (Z99 rfl (by rfl) (Z1m C) (Zg (Zf (pv 0)) Zj) (Ze Zh)) (Z6n rfl rfl (Xu (W8 (i := 9) Yy.nd rfl (Or.inl rfl)) (Xu (Z6n rfl rfl (Xu (W8 (i := 4) Yy.nd rfl (Or.inl rfl)) (Xu (W8 (i := 5) Yy.nd rfl (Or.inl rfl)) Z2i))) Z2i)))
      (Zi (Zt (i := 10) Yy.nd rfl (Or.inl rfl) (Z21 rfl (We (Nq hr.units rfl) (f_ix (Xv hr.units rfl) (Zf (pv 5)) f_int (fun _ _ => rfl)) (Zo [32,9]) rfl) (Z0w (We (Nq hr.units rfl) (f_ix (Xv hr.units rfl) (Zf (pv 8)) f_int (fun _ _ => rfl)) (Zo [32,9]) rfl))))
      (Zi (Zt (i := 11) Yy.nd rfl (Or.inl rfl) (f_if (PW.pt (Z3l (Zq (o_eq hr.units rfl) (Zf (pv 9)) f_int (nomark _)) (Jo (Yw rfl (Zf (pv 10)))))) (Zf (pv 4)) (f_op Z2g (Zf (pv 4)) f_int)))
      (Zi (Zt (i := 7) Yy.nd rfl (Or.inl rfl) (f_op (Yd rfl) (f_op (Yd rfl) (f_op (Yd rfl) (Zf (pv 7)) (f_op Qw (Zo [10]) (f_op (Yd rfl) (Zf (pv 11)) f_int))) (f_op Qw (Zo [32]) (f_op (Yd rfl) (Zf (pv 2)) (Zf (pv 6))))) (Zf (pv 5))))
      (Zm (Zt (i := 8) Yy.nd rfl (Or.inl rfl) (Zf (pv 5))))))))
    (Zm (Zr (f_op (Yd rfl) (Zf (pv 7)) (f_op Qw (Zo [10]) (Yo (Zeg rfl) (by rfl) (Z7n C) (by decide +kernel) (Zg f_int (Zg (f_op Z2g (Zf (pv 1)) f_int) Zj))))))))))))
theorem Z5p : GT P w K mg base 1 (mY "Source" "__init__") Z2u 2 Wg := by
  refine fnFD (Z5i C) Zb0 fun cdv A outer s H E hr hG => ?_
  exact (Zi (Z3o rfl (Fx.FldOk.cons (Zk C) (Xj C) .nil) (Zf (pv 0)) (Zf (pv 1)))
    (Zi (Z3o rfl (Fx.FldOk.cons (Zk C) (Xo C) .nil) (Zf (pv 0)) (Yo (Z6p rfl) (by rfl) (Z1l C) (by decide +kernel) (Zg (Zf (pv 1)) Zj)))
    (Zm (Z3o rfl (Fx.FldOk.cons (Zk C) (Z39 C) .nil) (Zf (pv 0)) f_int))))
theorem Yz : GT P w K mg base 1 (mY "Source" "at") Z5z 2 Zw := by
  refine fnFD (Z90 C) Zeq fun cdv A outer s H E hr hG => ?_
  exact (Zm (Zr (f_sl rfl (Wf rfl (Fx.FldOk.cons (Zk C) (Xj C) .nil) (Zf (pv 0))) (Xc (Zf (pv 1))) (Xc (f_op (Yd rfl) (Zf (pv 1)) f_int)))))
theorem Xa : GT P w K mg base 2 (mY "Source" "past_blanks") U3 2 Zz := by
  have G_Source_at := @Yz P base w K mg C
  refine fnFD (Ju C) Jr fun cdv A outer s H E hr hG => ?_
  exact (Zi (Np (passes_of rfl) (Zq (o_eq hr.units rfl) (Y5 rfl (Zk C) (Y7 C) G_Source_at (hr.mono (by omega)) hG (Y6 C) .nil Dfl.nil tk (Zf (pv 0)) (Zg (Zf (pv 1)) Zj) (Ze Zh)) (Zo [32]) (nomark _))
      (Zm (Z3m (i := 1) Jr.nd rfl (Or.inl rfl) f_int Z0y)))
    (Zm (Zr (Zf (pv 1)))))
theorem Z1n : GT P w K mg base 1 (mY "Source" "is_begin") J8 2 Xz := by
  refine fnFD (Z1e C) Z6y fun cdv A outer s H E hr hG => ?_
  exact (Zm (Zr (f_or rfl (We (o_eq hr.units rfl) (Zf (pv 1)) f_int (nomark _)) (Z0w (We (o_eq hr.units rfl) (f_ix (Xv hr.units rfl) (Wf rfl (Fx.FldOk.cons (Zk C) (Xj C) .nil) (Zf (pv 0))) (f_op Z2g (Zf (pv 1)) f_int) (fun _ _ => rfl)) (Zo [10]) (nomark _))))))
theorem Z2d : GT P w K mg base 2 (mY "Source" "is_mark") Ud 3 W9 := by
  have G_Source_is_begin := @Z1n P base w K mg C
  have G_Source_at := @Yz P base w K mg C
  refine fnFD (Z2a C) Z7z fun cdv A outer s H E hr hG => ?_
  exact (Zm (Zr (Z21 rfl (Y5 rfl (Zk C) (Z1j C) G_Source_is_begin (hr.mono (by omega)) hG (Z1f C) .nil Dfl.nil tk (Zf (pv 0)) (Zg (Zf (pv 1)) Zj) (Ze Zh)) (Z21 rfl (We (Z23 hr.units rfl) (f_sl rfl (Wf rfl (Fx.FldOk.cons (Zk C) (Xj C) .nil) (Zf (pv 0))) (Xc (Zf (pv 1))) (Xc (f_op (Yd rfl) (Zf (pv 1)) f_int))) (Zf (pv 2)) rfl) (Z0w (We (Z23 hr.units rfl) (Y5 rfl (Zk C) (Y7 C) G_Source_at (hr.mono (by omega)) hG (Y6 C) .nil Dfl.nil tk (Zf (pv 0)) (Zg (f_op (Yd rfl) (Zf (pv 1)) f_int) Zj) (Ze Zh)) (f_tup (Zg (Zo []) (Zg (Zo [32]) (Zg (Zo [10]) Zj))) (Ze (Ze (Ze Zh)))) rfl))))))
theorem Yq : GT P w K mg base 1 (mY "Source" "miss") Z2v 2 Y0 := by
  refine fnFD (Z5k C) Zb1 fun cdv A outer s H E hr hG => ?_
  exact (Zm (Z3o rfl (Fx.FldOk.cons (Zk C) (Z39 C) .nil) (Zf (pv 0)) (Yo (Zeg rfl) (by rfl) (Z7n C) (by decide +kernel) (Zg (Wf rfl (Fx.FldOk.cons (Zk C) (Z39 C) .nil) (Zf (pv 0))) (Zg (Zf (pv 1)) Zj)))))
theorem W7 : GT P w K mg base 3 (mY "Source" "is_barred") Q6 2 Zy := by
  have G_Source_is_mark := @Z2d P base w K mg C
  obtain ⟨ds_Source_is_mark_0,dv_Source_is_mark_0,db_Source_is_mark_0⟩ := Z0r C
  have G_Source_miss := @Yq P base w K mg C
  refine fnFD (Z0s C) Z60 fun cdv A outer s H E hr hG => ?_
  exact (Zi (Yp (Yw rfl (Y5 rfl (Zk C) (Z2c C) G_Source_is_mark (hr.mono (by omega)) hG db_Source_is_mark_0 dv_Source_is_mark_0 (fun _ _ => (.cons (.tup (Z2l (C.c.fact 0) _) (.cons (.str _) (.cons (.str _) .nil))) .nil)) tk (Zf (pv 0)) (Zg (Zf (pv 1)) Zj) (Ze Zh)))
      (Zi (Xk (Y5 rfl (Zk C) (Yc C) G_Source_miss (hr.mono (by omega)) hG (Yb C) .nil Dfl.nil tk (Zf (pv 0)) (Zg (f_op (Yd rfl) (Zf (pv 1)) f_int) Zj) (Ze Zh)))
      (Zm (Zr f_bl)))
      Y8)
    (Zm (Zr f_bl)))
theorem Zcj : GT P w K mg base 4 (gY "is_next") Z9u 4 Za8 := by
  have G_Source_is_barred := @W7 P base w K mg C
  have G_Source_at := @Yz P base w K mg C
  have G_Source_miss := @Yq P base w K mg C
  have G_is_safe := @Z8h P base w K mg C
  refine fnFD (Z4r C) Zc0 fun cdv A outer s H E hr hG => ?_
  exact (Zi (Yp (Yw rfl (Y5 rfl (Zk C) (W6 C) G_Source_is_barred (hr.mono (by omega)) hG (W4 C) .nil Dfl.nil tk (Zf (pv 0)) (Zg (Zf (pv 1)) Zj) (Ze Zh)))
      (Zm (Zr f_bl))
      Y8)
    (Zi (Zt (i := 4) Zc0.nd rfl (Or.inl rfl) (Y5 rfl (Zk C) (Y7 C) G_Source_at (hr.mono (by omega)) hG (Y6 C) .nil Dfl.nil tk (Zf (pv 0)) (Zg (Zf (pv 1)) Zj) (Ze Zh)))
    (Zi (Yp (Zq (o_eq hr.units rfl) (Zf (pv 4)) (Zo [58]) (nomark _))
      (Zi (Yp (U4 (Yw rfl (Y9 rfl G_is_safe (hr.mono (by omega)) hG (by rfl) (Z03 C) (Uy C).kp (Z00 C) .nil Dfl.nil tk (Zg (Y5 rfl (Zk C) (Y7 C) G_Source_at (hr.mono (by omega)) hG (Y6 C) .nil Dfl.nil tk (Zf (pv 0)) (Zg (f_op (Yd rfl) (Zf (pv 1)) f_int) Zj) (Ze Zh)) (Zg (Zf (pv 2)) Zj)) (Ze (Ze Zh)))))
        (Zi (Xk (Y5 rfl (Zk C) (Yc C) G_Source_miss (hr.mono (by omega)) hG (Yb C) .nil Dfl.nil tk (Zf (pv 0)) (Zg (f_op (Yd rfl) (Zf (pv 1)) f_int) Zj) (Ze Zh)))
        (Zm (Zr f_bl)))
        Y8)
      (Zm (Zr f_bl)))
      Y8)
    (Zi (Yp (PW.pt (Z3l (U4 (Yw rfl (Y9 rfl G_is_safe (hr.mono (by omega)) hG (by rfl) (Z03 C) (Uy C).kp (Z00 C) .nil Dfl.nil tk (Zg (Zf (pv 4)) (Zg (Zf (pv 2)) Zj)) (Ze (Ze Zh))))) (Jo (PW.pt (V6 (Zq (o_eq hr.units rfl) (Zf (pv 4)) (Zo [35]) (nomark _)) (Wi (U4 (Yw rfl (Zf (pv 3))))))))))
      (Zi (Xk (Y5 rfl (Zk C) (Yc C) G_Source_miss (hr.mono (by omega)) hG (Yb C) .nil Dfl.nil tk (Zf (pv 0)) (Zg (Zf (pv 1)) Zj) (Ze Zh)))
      (Zm (Zr f_bl)))
      Y8)
    (Zm (Zr f_bl))))))
theorem Zj0 : GT P w K mg base 5 (gY "row_end") Z9v 3 Za9 := by
  have G_Source_past_blanks := @Xa P base w K mg C
  have G_is_next := @Zcj P base w K mg C
  refine fnFD (Z4s C) Z80 fun cdv A outer s H E hr hG => ?_
  exact (Zm (Np (passes_of rfl) (Yw rfl f_bl)
      (Zi (Zt (i := 3) Z80.nd rfl (Or.inl rfl) (Y5 rfl (Zk C) (Yk C) G_Source_past_blanks (hr.mono (by omega)) hG (Yj C) .nil Dfl.nil tk (Zf (pv 0)) (Zg (Zf (pv 1)) Zj) (Ze Zh)))
      (Zi (Yp (U4 (Yw rfl (Y9 rfl G_is_next (hr.mono (by omega)) hG (by rfl) (Zce C) (Z4r C).kp (Zcb C) .nil Dfl.nil tk (Zg (Zf (pv 0)) (Zg (Zf (pv 3)) (Zg (Zf (pv 2)) (Zg (We (o_eq hr.units rfl) (Zf (pv 1)) (Zf (pv 3)) (nomark _)) Zj)))) (Ze (Ze (Ze (Ze Zh)))))))
        (Zm (Zr (Zf (pv 1))))
        Y8)
      (Zm (Zt (i := 1) Z80.nd rfl (Or.inl rfl) (f_op (Yd rfl) (Zf (pv 3)) f_int)))))))
theorem Zgt : GT P w K mg base 4 (gY "is_first") Z81 3 Zc9 := by
  have G_Source_is_barred := @W7 P base w K mg C
  have G_Source_at := @Yz P base w K mg C
  have G_Source_miss := @Yq P base w K mg C
  have G_is_safe := @Z8h P base w K mg C
  obtain ⟨t_MAYBE_FIRST,g_MAYBE_FIRST⟩ := Z5m C
  obtain ⟨t_NOT_FIRST,g_NOT_FIRST⟩ := Z91 C
  refine fnFD (Z6d C) Z9w fun cdv A outer s H E hr hG => ?_
  exact (Zi (Yp (Yw rfl (Y5 rfl (Zk C) (W6 C) G_Source_is_barred (hr.mono (by omega)) hG (W4 C) .nil Dfl.nil tk (Zf (pv 0)) (Zg (Zf (pv 1)) Zj) (Ze Zh)))
      (Zm (Zr f_bl))
      Y8)
    (Zi (Zt (i := 3) Z9w.nd rfl (Or.inl rfl) (Y5 rfl (Zk C) (Y7 C) G_Source_at (hr.mono (by omega)) hG (Y6 C) .nil Dfl.nil tk (Zf (pv 0)) (Zg (Zf (pv 1)) Zj) (Ze Zh)))
    (Zi (Yp (PW.pt (V6 (Zq (o_ne hr.units rfl) (Zf (pv 3)) (Zo []) (nomark _)) (Wi (Zq (Z23 hr.units rfl) (Zf (pv 3)) (f_c (pe_glob (v := .str (S Qc)) rfl g_MAYBE_FIRST ⟨_,rfl⟩) (fun _ _ => .str _)) rfl))))
      (Zi (Yp (U4 (Yw rfl (Y9 rfl G_is_safe (hr.mono (by omega)) hG (by rfl) (Z03 C) (Uy C).kp (Z00 C) .nil Dfl.nil tk (Zg (Y5 rfl (Zk C) (Y7 C) G_Source_at (hr.mono (by omega)) hG (Y6 C) .nil Dfl.nil tk (Zf (pv 0)) (Zg (f_op (Yd rfl) (Zf (pv 1)) f_int) Zj) (Ze Zh)) (Zg (Zf (pv 2)) Zj)) (Ze (Ze Zh)))))
        (Zi (Xk (Y5 rfl (Zk C) (Yc C) G_Source_miss (hr.mono (by omega)) hG (Yb C) .nil Dfl.nil tk (Zf (pv 0)) (Zg (f_op (Yd rfl) (Zf (pv 1)) f_int) Zj) (Ze Zh)))
        (Zm (Zr f_bl)))
        Y8)
      (Zm (Zr f_bl)))
      Y8)
    (Zi (Yp (PW.pt (Z3l (U4 (Yw rfl (Y9 rfl G_is_safe (hr.mono (by omega)) hG (by rfl) (Z03 C) (Uy C).kp (Z00 C) .nil Dfl.nil tk (Zg (Zf (pv 3)) (Zg (Zf (pv 2)) Zj)) (Ze (Ze Zh))))) (Jo (Zq (Z23 hr.units rfl) (Zf (pv 3)) (f_c (pe_glob (v := .str (S Z0k)) rfl g_NOT_FIRST ⟨_,rfl⟩) (fun _ _ => .str _)) rfl))))
      (Zi (Xk (Y5 rfl (Zk C) (Yc C) G_Source_miss (hr.mono (by omega)) hG (Yb C) .nil Dfl.nil tk (Zf (pv 0)) (Zg (Zf (pv 1)) Zj) (Ze Zh)))
      (Zm (Zr f_bl)))
      Y8)
    (Zm (Zr f_bl))))))
theorem Z7o : GT P w K mg base 2 (mY "Source" "indented") Ja 3 Z27 := by
  have G_Source_at := @Yz P base w K mg C
  have G_Source_miss := @Yq P base w K mg C
  refine fnFD (Z1g C) Z15 fun cdv A outer s H E hr hG => ?_
  exact (Zi (Z22 (passes_of rfl) rfl (Z3n (by rfl) (Z4t C) (Zg (Zf (pv 2)) Zj) (Ze Zh)) (W8 (i := 3) Z15.nd rfl (Or.inl rfl))
      (Zm (Yp (Zq (o_ne hr.units rfl) (Y5 rfl (Zk C) (Y7 C) G_Source_at (hr.mono (by omega)) hG (Y6 C) .nil Dfl.nil tk (Zf (pv 0)) (Zg (f_op (Yd rfl) (Zf (pv 1)) (Zf (pv 3))) Zj) (Ze Zh)) (Zo [32]) (nomark _))
        (Zm (Zr (Y5 rfl (Zk C) (Yc C) G_Source_miss (hr.mono (by omega)) hG (Yb C) .nil Dfl.nil tk (Zf (pv 0)) (Zg (f_op (Yd rfl) (Zf (pv 1)) (Zf (pv 3))) Zj) (Ze Zh))))
        Y8)))
    (Zm (Zr (f_op (Yd rfl) (Zf (pv 1)) (Yo (Zeg rfl) (by rfl) (Z7n C) (by decide +kernel) (Zg f_int (Zg (Zf (pv 2)) Zj)))))))
theorem Ze1 : GT P w K mg base 3 (gY "plain_fold") Z3w 3 Z8x := by
  have G_Source_past_blanks := @Xa P base w K mg C
  have G_Source_indented := @Z7o P base w K mg C
  have G_Source_at := @Yz P base w K mg C
  have G_Source_miss := @Yq P base w K mg C
  refine fnFD (Z38 C) Wz fun cdv A outer s H E hr hG => ?_
  exact (Zi (Zt (i := 3) Wz.nd rfl (Or.inl rfl) (Y5 rfl (Zk C) (Yk C) G_Source_past_blanks (hr.mono (by omega)) hG (Yj C) .nil Dfl.nil tk (Zf (pv 0)) (Zg (Zf (pv 1)) Zj) (Ze Zh)))
    (Zi (Yp (Zq (o_ne hr.units rfl) (Y5 rfl (Zk C) (Y7 C) G_Source_at (hr.mono (by omega)) hG (Y6 C) .nil Dfl.nil tk (Zf (pv 0)) (Zg (Zf (pv 3)) Zj) (Ze Zh)) (Zo [10]) (nomark _))
      (Zm (Zr (Y5 rfl (Zk C) (Yc C) G_Source_miss (hr.mono (by omega)) hG (Yb C) .nil Dfl.nil tk (Zf (pv 0)) (Zg (Zf (pv 3)) Zj) (Ze Zh))))
      Y8)
    (Zi (Z3m (i := 3) Wz.nd rfl (Or.inl rfl) f_int Z0y)
    (Zi (Zt (i := 4) Wz.nd rfl (Or.inl rfl) f_int)
    (Zi (Np (passes_of rfl) (Zq (o_eq hr.units rfl) (Y5 rfl (Zk C) (Y7 C) G_Source_at (hr.mono (by omega)) hG (Y6 C) .nil Dfl.nil tk (Zf (pv 0)) (Zg (Y5 rfl (Zk C) (Yk C) G_Source_past_blanks (hr.mono (by omega)) hG (Yj C) .nil Dfl.nil tk (Zf (pv 0)) (Zg (Zf (pv 3)) Zj) (Ze Zh)) Zj) (Ze Zh)) (Zo [10]) (nomark _))
      (Zi (Zt (i := 3) Wz.nd rfl (Or.inl rfl) (f_op (Yd rfl) (Y5 rfl (Zk C) (Yk C) G_Source_past_blanks (hr.mono (by omega)) hG (Yj C) .nil Dfl.nil tk (Zf (pv 0)) (Zg (Zf (pv 3)) Zj) (Ze Zh)) f_int))
      (Zm (Z3m (i := 4) Wz.nd rfl (Or.inl rfl) f_int Z0y))))
    (Zi (Zt (i := 5) Wz.nd rfl (Or.inl rfl) (Y5 rfl (Zk C) (Z7l C) G_Source_indented (hr.mono (by omega)) hG (Z7h C) .nil Dfl.nil tk (Zf (pv 0)) (Zg (Zf (pv 3)) (Zg (Zf (pv 2)) Zj)) (Ze (Ze Zh))))
    (Zi (Yp (Zq o_is (Zf (pv 5)) Z04 (nomark _))
      (Zm (Zr Z04))
      Y8)
    (Zm (Zr (f_tup (Zg (Y5 rfl (Zk C) (Yk C) G_Source_past_blanks (hr.mono (by omega)) hG (Yj C) .nil Dfl.nil tk (Zf (pv 0)) (Zg (Zf (pv 5)) Zj) (Ze Zh)) (Zg (f_if (Yw rfl (Zf (pv 4))) (f_op Qw (Zo [10]) (Zf (pv 4))) (Zo [32])) Zj)) (Ze (Ze Zh))))))))))))
theorem Zmd : GT P w K mg base 6 (gY "plain") Zgd 4 Zkl := by
  have G_row_end := @Zj0 P base w K mg C
  have G_is_first := @Zgt P base w K mg C
  have G_plain_fold := @Ze1 P base w K mg C
  have G_is_next := @Zcj P base w K mg C
  have g_ON_A_LINE := Z4g C
  have q_ON_A_LINE := Z4e C
  refine fnFD (fd_plain C) Z4l fun cdv A outer s H E hr hG => ?_
  exact (Zi (Yp (U4 (Yw rfl (Y9 rfl G_is_first (hr.mono (by omega)) hG (by rfl) (Zgq C) (Z6d C).kp (Zgm C) .nil Dfl.nil tk (Zg (Zf (pv 0)) (Zg (Zf (pv 1)) (Zg (Zf (pv 3)) Zj))) (Ze (Ze (Ze Zh))))))
      (Zm (Zr Z04))
      Y8)
    (Zi (Zt (i := 4) Z4l.nd rfl (Or.inl rfl) (Y9 rfl G_row_end (hr.mono (by omega)) hG (by rfl) (Zcf C) (Z4s C).kp (Zcc C) .nil Dfl.nil tk (Zg (Zf (pv 0)) (Zg (f_op (Yd rfl) (Zf (pv 1)) f_int) (Zg (Zf (pv 3)) Zj))) (Ze (Ze (Ze Zh)))))
    (Zi (Zt (i := 5) Z4l.nd rfl (Or.inl rfl) (f_sl rfl (Wf rfl (Fx.FldOk.cons (Zk C) (Xj C) .nil) (Zf (pv 0))) (Xc (Zf (pv 1))) (Xc (Zf (pv 4)))))
    (Zi (Np (passes_of rfl) (Zq (Nq hr.units rfl) (Zf (pv 3)) (f_c (pe_glob (v := .ref (He.ga _ "ON_A_LINE")) rfl g_ON_A_LINE rfl) (fun _ H => .tup (q_ON_A_LINE H) Z46)) rfl)
      (Zi (Zt (i := 6) Z4l.nd rfl (Or.inl rfl) (Y9 rfl G_plain_fold (hr.mono (by omega)) hG (by rfl) (Zdw C) (Z38 C).kp (Zdn C) .nil Dfl.nil tk (Zg (Zf (pv 0)) (Zg (Zf (pv 4)) (Zg (Zf (pv 2)) Zj))) (Ze (Ze (Ze Zh)))))
      (Zi (Yp (PW.pt (Z3l (Zq o_is (Zf (pv 6)) Z04 (nomark _)) (Jo (U4 (Yw rfl (Y9 rfl G_is_next (hr.mono (by omega)) hG (by rfl) (Zce C) (Z4r C).kp (Zcb C) .nil Dfl.nil tk (Zg (Zf (pv 0)) (Zg (f_ix (Xv hr.units rfl) (Zf (pv 6)) f_int (fun _ _ => rfl)) (Zg (Zf (pv 3)) (Zg f_bl Zj)))) (Ze (Ze (Ze (Ze Zh))))))))))
        (Zm Zmv)
        Y8)
      (Zi (Zt (i := 4) Z4l.nd rfl (Or.inl rfl) (Y9 rfl G_row_end (hr.mono (by omega)) hG (by rfl) (Zcf C) (Z4s C).kp (Zcc C) .nil Dfl.nil tk (Zg (Zf (pv 0)) (Zg (f_op (Yd rfl) (f_ix (Xv hr.units rfl) (Zf (pv 6)) f_int (fun _ _ => rfl)) f_int) (Zg (Zf (pv 3)) Zj))) (Ze (Ze (Ze Zh)))))
      (Zm (Z3m (i := 5) Z4l.nd rfl (Or.inl rfl) (f_op (Yd rfl) (f_ix (Xv hr.units rfl) (Zf (pv 6)) f_int (fun _ _ => rfl)) (f_sl rfl (Wf rfl (Fx.FldOk.cons (Zk C) (Xj C) .nil) (Zf (pv 0))) (Xc (f_ix (Xv hr.units rfl) (Zf (pv 6)) f_int (fun _ _ => rfl))) (Xc (Zf (pv 4))))) Z0y))))))
    (Zm (Zr (f_tup (Zg (Zf (pv 4)) (Zg (Zf (pv 5)) Zj)) (Ze (Ze Zh)))))))))
theorem Nm : GT P w K mg base 2 (mY "Source" "past_white") Ul 2 Ur := by
  have G_Source_at := @Yz P base w K mg C
  refine fnFD (N8 C) Jy fun cdv A outer s H E hr hG => ?_
  exact (Zi (Np (passes_of rfl) (Zq (Z23 hr.units rfl) (Y5 rfl (Zk C) (Y7 C) G_Source_at (hr.mono (by omega)) hG (Y6 C) .nil Dfl.nil tk (Zf (pv 0)) (Zg (Zf (pv 1)) Zj) (Ze Zh)) (f_tup (Zg (Zo [32]) (Zg (Zo [9]) Zj)) (Ze (Ze Zh))) rfl)
      (Zm (Z3m (i := 1) Jy.nd rfl (Or.inl rfl) f_int Z0y)))
    (Zm (Zr (Zf (pv 1)))))
theorem Z7p : GT P w K mg base 4 (gY "quote_fold") Z3x 3 Z45 := by
  have G_Source_past_blanks := @Xa P base w K mg C
  have G_Source_miss := @Yq P base w K mg C
  have G_Source_past_white := @Nm P base w K mg C
  have G_Source_at := @Yz P base w K mg C
  have G_Source_is_barred := @W7 P base w K mg C
  refine fnFD (Ny C) Vv fun cdv A outer s H E hr hG => ?_
  exact (Zi (Zt (i := 3) Vv.nd rfl (Or.inl rfl) f_int)
    (Zm (Np (passes_of rfl) (Yw rfl f_bl)
      (Zi (Zt (i := 4) Vv.nd rfl (Or.inl rfl) (Y5 rfl (Zk C) (Yk C) G_Source_past_blanks (hr.mono (by omega)) hG (Yj C) .nil Dfl.nil tk (Zf (pv 0)) (Zg (Zf (pv 1)) Zj) (Ze Zh)))
      (Zi (Yp (PW.pt (V6 (Zq o_lt (f_op Z2g (Zf (pv 4)) (Zf (pv 1))) (Zf (pv 2)) (nomark _)) (Wi (Zq (o_ne hr.units rfl) (Y5 rfl (Zk C) (Y7 C) G_Source_at (hr.mono (by omega)) hG (Y6 C) .nil Dfl.nil tk (Zf (pv 0)) (Zg (Zf (pv 4)) Zj) (Ze Zh)) (Zo [10]) (nomark _)))))
        (Zm (Zr (Y5 rfl (Zk C) (Yc C) G_Source_miss (hr.mono (by omega)) hG (Yb C) .nil Dfl.nil tk (Zf (pv 0)) (Zg (Zf (pv 4)) Zj) (Ze Zh))))
        Y8)
      (Zi (Yp (Zq Zpe (f_op Z2g (Zf (pv 4)) (Zf (pv 1))) (Zf (pv 2)) (nomark _))
        (Zm (Zt (i := 4) Vv.nd rfl (Or.inl rfl) (Y5 rfl (Zk C) (Nk C) G_Source_past_white (hr.mono (by omega)) hG (Nb C) .nil Dfl.nil tk (Zf (pv 0)) (Zg (f_op (Yd rfl) (Zf (pv 1)) (Zf (pv 2))) Zj) (Ze Zh))))
        Y8)
      (Zi (Yp (Zq (o_ne hr.units rfl) (Y5 rfl (Zk C) (Y7 C) G_Source_at (hr.mono (by omega)) hG (Y6 C) .nil Dfl.nil tk (Zf (pv 0)) (Zg (Zf (pv 4)) Zj) (Ze Zh)) (Zo [10]) (nomark _))
        (Zm (Zr (f_if (Yw rfl (Y5 rfl (Zk C) (W6 C) G_Source_is_barred (hr.mono (by omega)) hG (W4 C) .nil Dfl.nil tk (Zf (pv 0)) (Zg (Zf (pv 1)) Zj) (Ze Zh))) Z04 (f_tup (Zg (Zf (pv 4)) (Zg (Zf (pv 3)) Zj)) (Ze (Ze Zh))))))
        Y8)
      (Zi (Z3m (i := 3) Vv.nd rfl (Or.inl rfl) f_int Z0y)
      (Zm (Zt (i := 1) Vv.nd rfl (Or.inl rfl) (f_op (Yd rfl) (Zf (pv 4)) f_int)))))))))))
theorem Zbq : GT P w K mg base 5 (gY "folded_part") Z2w 4 Z7e := by
  have G_quote_fold := @Z7p P base w K mg C
  have G_Source_miss := @Yq P base w K mg C
  have g_ON_A_LINE := Z4g C
  have q_ON_A_LINE := Z4e C
  refine fnFD (Z1y C) Z57 fun cdv A outer s H E hr hG => ?_
  exact (Zi (Zt (i := 4) Z57.nd rfl (Or.inl rfl) (f_if (Zq (Z23 hr.units rfl) (Zf (pv 3)) (f_c (pe_glob (v := .ref (He.ga _ "ON_A_LINE")) rfl g_ON_A_LINE rfl) (fun _ H => .tup (q_ON_A_LINE H) Z46)) rfl) Z04 (Y9 rfl G_quote_fold (hr.mono (by omega)) hG (by rfl) (Z7m C) (Ny C).kp (Z7i C) .nil Dfl.nil tk (Zg (Zf (pv 0)) (Zg (f_op (Yd rfl) (Zf (pv 1)) f_int) (Zg (Zf (pv 2)) Zj))) (Ze (Ze (Ze Zh))))))
    (Zi (Yp (Zq o_is (Zf (pv 4)) Z04 (nomark _))
      (Zm (Zr (Y5 rfl (Zk C) (Yc C) G_Source_miss (hr.mono (by omega)) hG (Yb C) .nil Dfl.nil tk (Zf (pv 0)) (Zg (Zf (pv 1)) Zj) (Ze Zh))))
      Y8)
    (Zm (Zr (f_tup (Zg (f_ix (Xv hr.units rfl) (Zf (pv 4)) f_int (fun _ _ => rfl)) (Zg (f_if (Yw rfl (f_ix (Xv hr.units rfl) (Zf (pv 4)) f_int (fun _ _ => rfl))) (f_op Qw (Zo [10]) (f_ix (Xv hr.units rfl) (Zf (pv 4)) f_int (fun _ _ => rfl))) (Zo [32])) Zj)) (Ze (Ze Zh)))))))
theorem Zj1 : GT P w K mg base 5 (gY "escaped") Z9y 4 Zf9 := by
  have G_Source_at := @Yz P base w K mg C
  have G_quote_fold := @Z7p P base w K mg C
  have G_Source_miss := @Yq P base w K mg C
  have g_ESCAPES := Ziu C
  have g_ON_A_LINE := Z4g C
  have q_ON_A_LINE := Z4e C
  refine fnFD (Z8e C) Z83 fun cdv A outer s H E hr hG => ?_
  exact (Zi (Zt (i := 4) Z83.nd rfl (Or.inl rfl) (Y5 rfl (Zk C) (Y7 C) G_Source_at (hr.mono (by omega)) hG (Y6 C) .nil Dfl.nil tk (Zf (pv 0)) (Zg (f_op (Yd rfl) (Zf (pv 1)) f_int) Zj) (Ze Zh)))
    (Zi (Yp (PW.pt (V6 (Zq (o_eq hr.units rfl) (Zf (pv 4)) (Zo [10]) (nomark _)) (Wi (Zq (Nq hr.units rfl) (Zf (pv 3)) (f_c (pe_glob (v := .ref (He.ga _ "ON_A_LINE")) rfl g_ON_A_LINE rfl) (fun _ H => .tup (q_ON_A_LINE H) Z46)) rfl))))
      (Zi (Zt (i := 5) Z83.nd rfl (Or.inl rfl) (Y9 rfl G_quote_fold (hr.mono (by omega)) hG (by rfl) (Z7m C) (Ny C).kp (Z7i C) .nil Dfl.nil tk (Zg (Zf (pv 0)) (Zg (f_op (Yd rfl) (Zf (pv 1)) f_int) (Zg (Zf (pv 2)) Zj))) (Ze (Ze (Ze Zh)))))
      (Zm (Zr (f_if (Zq o_is (Zf (pv 5)) Z04 (nomark _)) Z04 (f_tup (Zg (f_ix (Xv hr.units rfl) (Zf (pv 5)) f_int (fun _ _ => rfl)) (Zg (f_op Qw (Zo [10]) (f_ix (Xv hr.units rfl) (Zf (pv 5)) f_int (fun _ _ => rfl))) Zj)) (Ze (Ze Zh)))))))
      Y8)
    (Zi (Yp (Zc4 rfl (by rfl) g_ESCAPES (Zf (pv 4)))
      (Zm (Zr (Y5 rfl (Zk C) (Yc C) G_Source_miss (hr.mono (by omega)) hG (Yb C) .nil Dfl.nil tk (Zf (pv 0)) (Zg (f_op (Yd rfl) (Zf (pv 1)) f_int) Zj) (Ze Zh))))
      Y8)
    (Zm (Zr (f_tup (Zg (f_op (Yd rfl) (Zf (pv 1)) f_int) (Zg (Z94 rfl (by rfl) g_ESCAPES (Zf (pv 4)) (fun _ _ => rfl)) Zj)) (Ze (Ze Zh))))))))
theorem Zks : GT P w K mg base 6 (gY "quoted") Zd3 4 Zho := by
  have G_Source_at := @Yz P base w K mg C
  have G_Source_past_white := @Nm P base w K mg C
  have G_Source_miss := @Yq P base w K mg C
  have G_folded_part := @Zbq P base w K mg C
  have G_escaped := @Zj1 P base w K mg C
  refine fnFD (Zae C) V7 fun cdv A outer s H E hr hG => ?_
  exact (Zi (Zt (i := 4) V7.nd rfl (Or.inl rfl) (Y5 rfl (Zk C) (Y7 C) G_Source_at (hr.mono (by omega)) hG (Y6 C) .nil Dfl.nil tk (Zf (pv 0)) (Zg (Zf (pv 1)) Zj) (Ze Zh)))
    (Zi (Zt (i := 5) V7.nd rfl (Or.inl rfl) (Zo []))
    (Zi (Z3m (i := 1) V7.nd rfl (Or.inl rfl) f_int Z0y)
    (Zm (Np (passes_of rfl) (Yw rfl f_bl)
      (Zi (Zt (i := 6) V7.nd rfl (Or.inl rfl) (Y5 rfl (Zk C) (Y7 C) G_Source_at (hr.mono (by omega)) hG (Y6 C) .nil Dfl.nil tk (Zf (pv 0)) (Zg (Zf (pv 1)) Zj) (Ze Zh)))
      (Zi (Yp (PW.pt (V6 (Zq (o_eq hr.units rfl) (Zf (pv 6)) (Zf (pv 4)) (nomark _)) (Wi (PW.pt (Z3l (Zq (o_eq hr.units rfl) (Zf (pv 4)) (Zo [34]) (nomark _)) (Jo (Zq (o_ne hr.units rfl) (Y5 rfl (Zk C) (Y7 C) G_Source_at (hr.mono (by omega)) hG (Y6 C) .nil Dfl.nil tk (Zf (pv 0)) (Zg (f_op (Yd rfl) (Zf (pv 1)) f_int) Zj) (Ze Zh)) (Zf (pv 4)) (nomark _))))))))
        (Zm (Zr (f_tup (Zg (f_op (Yd rfl) (Zf (pv 1)) f_int) (Zg (Zf (pv 5)) Zj)) (Ze (Ze Zh)))))
        Y8)
      (Zi (Yp (Zq (o_eq hr.units rfl) (Zf (pv 6)) (Zo []) (nomark _))
        (Zm (Zr (Y5 rfl (Zk C) (Yc C) G_Source_miss (hr.mono (by omega)) hG (Yb C) .nil Dfl.nil tk (Zf (pv 0)) (Zg (Zf (pv 1)) Zj) (Ze Zh))))
        Y8)
      (Zi (Zt (i := 7) V7.nd rfl (Or.inl rfl) (Y5 rfl (Zk C) (Nk C) G_Source_past_white (hr.mono (by omega)) hG (Nb C) .nil Dfl.nil tk (Zf (pv 0)) (Zg (Zf (pv 1)) Zj) (Ze Zh)))
      (Zi (Zt (i := 8) V7.nd rfl (Or.inl rfl) (f_tup (Zg (Yo (Zeg rfl) (by rfl) (Z7n C) (by decide +kernel) (Zg (Zf (pv 7)) (Zg (f_op (Yd rfl) (Zf (pv 1)) f_int) Zj))) (Zg (f_sl rfl (Wf rfl (Fx.FldOk.cons (Zk C) (Xj C) .nil) (Zf (pv 0))) (Xc (Zf (pv 1))) (Xc (Yo (Zeg rfl) (by rfl) (Z7n C) (by decide +kernel) (Zg (Zf (pv 7)) (Zg (f_op (Yd rfl) (Zf (pv 1)) f_int) Zj))))) Zj)) (Ze (Ze Zh))))
      (Zi (Yp (Zq (o_eq hr.units rfl) (Y5 rfl (Zk C) (Y7 C) G_Source_at (hr.mono (by omega)) hG (Y6 C) .nil Dfl.nil tk (Zf (pv 0)) (Zg (Zf (pv 7)) Zj) (Ze Zh)) (Zo [10]) (nomark _))
        (Zm (Zt (i := 8) V7.nd rfl (Or.inl rfl) (Y9 rfl G_folded_part (hr.mono (by omega)) hG (by rfl) (Zbl C) (Z1y C).kp (Zbc C) .nil Dfl.nil tk (Zg (Zf (pv 0)) (Zg (Zf (pv 7)) (Zg (Zf (pv 2)) (Zg (Zf (pv 3)) Zj)))) (Ze (Ze (Ze (Ze Zh)))))))
        (Zm (Yp (Zq (o_eq hr.units rfl) (Zf (pv 6)) (Zf (pv 4)) (nomark _))
          (Zm (Zt (i := 8) V7.nd rfl (Or.inl rfl) (f_tup (Zg (f_op (Yd rfl) (Zf (pv 1)) f_int) (Zg (Zf (pv 6)) Zj)) (Ze (Ze Zh)))))
          (Zm (Yp (PW.pt (V6 (Zq (o_eq hr.units rfl) (Zf (pv 6)) (Zo [92]) (nomark _)) (Wi (Zq (o_eq hr.units rfl) (Zf (pv 4)) (Zo [34]) (nomark _)))))
            (Zm (Zt (i := 8) V7.nd rfl (Or.inl rfl) (Y9 rfl G_escaped (hr.mono (by omega)) hG (by rfl) (Zix C) (Z8e C).kp (Zit C) .nil Dfl.nil tk (Zg (Zf (pv 0)) (Zg (Zf (pv 1)) (Zg (Zf (pv 2)) (Zg (Zf (pv 3)) Zj)))) (Ze (Ze (Ze (Ze Zh)))))))
            Y8)))))
      (Zi (Yp (Zq o_is (Zf (pv 8)) Z04 (nomark _))
        (Zm (Zr Z04))
        Y8)
      (Zi (Z3m (i := 5) V7.nd rfl (Or.inl rfl) (f_ix (Xv hr.units rfl) (Zf (pv 8)) f_int (fun _ _ => rfl)) Z0y)
      (Zm (Zt (i := 1) V7.nd rfl (Or.inl rfl) (f_ix (Xv hr.units rfl) (Zf (pv 8)) f_int (fun _ _ => rfl)))))))))))))))))
theorem Ze2 : GT P w K mg base 1 (mY "Piece" "__init__") Z3y 4 Vr := by
  refine fnFD (Z7j C) Zd4 fun cdv A outer s H E hr hG => ?_
  exact (Zi (Z3o rfl (Fx.FldOk.cons (Zv C) (Yu C) .nil) (Zf (pv 0)) (Zf (pv 1)))
    (Zi (Z6o (f_tup (Zg (Zf (pv 2)) (Zg (Zf (pv 3)) Zj)) (Ze (Ze Zh))) (Z6n rfl rfl (Xu (Zej rfl (Fx.FldOk.cons (Zv C) (Zbi C) .nil) (Zf (pv 0))) (Xu (Zej rfl (Fx.FldOk.cons (Zv C) (Z2b C) .nil) (Zf (pv 0))) Z2i))))
    (Zi (Z3o rfl (Fx.FldOk.cons (Zv C) (Vy C) .nil) (Zf (pv 0)) (Vu Zj Zh))
    (Zi (Z3o rfl (Fx.FldOk.cons (Zv C) (V8 C) .nil) (Zf (pv 0)) f_int)
    (Zi (Z6o (f_tup (Zg f_int (Zg (Zo []) Zj)) (Ze (Ze Zh))) (Z6n rfl rfl (Xu (Zej rfl (Fx.FldOk.cons (Zv C) (Jl C) .nil) (Zf (pv 0))) (Xu (Zej rfl (Fx.FldOk.cons (Zv C) (Vc C) .nil) (Zf (pv 0))) Z2i))))
    (Zm (Z3o rfl (Fx.FldOk.cons (Zv C) (Uz C) .nil) (Zf (pv 0)) (f_op (Yd rfl) (Zf (pv 2)) f_int))))))))
theorem Z1o : GT P w K mg base 1 (mY "Source" "line_end") Jb 2 Wq := by
  refine fnFD (Z1h C) Z17 fun cdv A outer s H E hr hG => ?_
  exact (Zi (Zt (i := 2) Z17.nd rfl (Or.inl rfl) (f_bm rfl PySem.F.plainAttrs_str PySem.F.slot_str_find PySem.F.type_str_find Znw (Wf rfl (Fx.FldOk.cons (Zk C) (Xj C) .nil) (Zf (pv 0))) (Zg (Zo [10]) (Zg (Zf (pv 1)) Zj))))
    (Zm (Zr (f_if (Zq o_lt (Zf (pv 2)) f_int (nomark _)) (Wf rfl (Fx.FldOk.cons (Zk C) (Xo C) .nil) (Zf (pv 0))) (Zf (pv 2))))))
theorem Zan : GT P w K mg base 3 (mY "Source" "close") Z1s 2 Wn := by
  have G_Source_past_blanks := @Xa P base w K mg C
  have G_Source_line_end := @Z1o P base w K mg C
  have G_Source_miss := @Yq P base w K mg C
  have G_Source_at := @Yz P base w K mg C
  have G_Source_is_begin := @Z1n P base w K mg C
  refine fnFD (Z4d C) Z0h fun cdv A outer s H E hr hG => ?_
  exact (Zi (Zt (i := 2) Z0h.nd rfl (Or.inl rfl) (Y5 rfl (Zk C) (Yk C) G_Source_past_blanks (hr.mono (by omega)) hG (Yj C) .nil Dfl.nil tk (Zf (pv 0)) (Zg (Zf (pv 1)) Zj) (Ze Zh)))
    (Zi (Yp (PW.pt (V6 (Zq (o_eq hr.units rfl) (Y5 rfl (Zk C) (Y7 C) G_Source_at (hr.mono (by omega)) hG (Y6 C) .nil Dfl.nil tk (Zf (pv 0)) (Zg (Zf (pv 2)) Zj) (Ze Zh)) (Zo [35]) (nomark _)) (Wi (PW.pt (Z3l (Zq Zcv (Zf (pv 2)) (Zf (pv 1)) (nomark _)) (Jo (Yw rfl (Y5 rfl (Zk C) (Z1j C) G_Source_is_begin (hr.mono (by omega)) hG (Z1f C) .nil Dfl.nil tk (Zf (pv 0)) (Zg (Zf (pv 1)) Zj) (Ze Zh)))))))))
      (Zm (Zt (i := 2) Z0h.nd rfl (Or.inl rfl) (Y5 rfl (Zk C) (Z1k C) G_Source_line_end (hr.mono (by omega)) hG (Z1i C) .nil Dfl.nil tk (Zf (pv 0)) (Zg (Zf (pv 2)) Zj) (Ze Zh))))
      Y8)
    (Zi (Yp (Zq (o_eq hr.units rfl) (Zf (pv 2)) (Wf rfl (Fx.FldOk.cons (Zk C) (Xo C) .nil) (Zf (pv 0))) (nomark _))
      (Zm (Zr (Zf (pv 2))))
      Y8)
    (Zm (Zr (f_if (Zq (o_eq hr.units rfl) (Y5 rfl (Zk C) (Y7 C) G_Source_at (hr.mono (by omega)) hG (Y6 C) .nil Dfl.nil tk (Zf (pv 0)) (Zg (Zf (pv 2)) Zj) (Ze Zh)) (Zo [10]) (nomark _)) (f_op (Yd rfl) (Zf (pv 2)) f_int) (Y5 rfl (Zk C) (Yc C) G_Source_miss (hr.mono (by omega)) hG (Yb C) .nil Dfl.nil tk (Zf (pv 0)) (Zg (Zf (pv 2)) Zj) (Ze Zh))))))))
theorem Z50 : GT P w K mg base 4 (mY "Piece" "read_header") Um 1 Us := by
  have G_Source_close := @Zan P base w K mg C
  have G_Source_at := @Yz P base w K mg C
  refine fnFD (Nf C) Xp fun cdv A outer s H E hr hG => ?_
  exact (Zi (Zt (i := 1) Xp.nd rfl (Or.inl rfl) f_bl)
    (Zi (Z22 (passes_of rfl) rfl (Z3n (by rfl) (Z4t C) (Zg f_int Zj) (Ze Zh)) (W8 (i := 2) Xp.nd rfl (Or.inl rfl))
      (Zi (Zt (i := 3) Xp.nd rfl (Or.inl rfl) (Y5 rfl (Zk C) (Y7 C) G_Source_at (hr.mono (by omega)) hG (Y6 C) .nil Dfl.nil tk (Wf rfl (Fx.FldOk.cons (Zv C) (Yu C) .nil) (Zf (pv 0))) (Zg (Wf rfl (Fx.FldOk.cons (Zv C) (Uz C) .nil) (Zf (pv 0))) Zj) (Ze Zh)))
      (Zm (Yp (PW.pt (V6 (Zh5 Z7s Z7s (Zo [49]) (Zf (pv 3)) (Zo [57])) (Wi (U4 (Yw rfl (Zf (pv 1)))))))
        (Zi (Z6o (f_tup (Zg (Xb (U0 (nd_ C)) (by rfl) (Vt C) (by decide +kernel) (Zg (Zf (pv 3)) Zj)) (Zg f_bl Zj)) (Ze (Ze Zh))) (Z6n rfl rfl (Xu (Zej rfl (Fx.FldOk.cons (Zv C) (Jl C) .nil) (Zf (pv 0))) (Xu (W8 (i := 1) Xp.nd rfl (Or.inl rfl)) Z2i))))
        (Zm (Zg6 rfl (Fx.FldOk.cons (Zv C) (Uz C) .nil) (Zf (pv 0)) f_int Z0y)))
        (Zm (Yp (PW.pt (V6 (Zq (o_ne hr.units rfl) (Zf (pv 3)) (Zo []) (nomark _)) (V6 (Zq (Z23 hr.units rfl) (Zf (pv 3)) (Zo [43,45]) rfl) (Wi (Zq (o_eq hr.units rfl) (Wf rfl (Fx.FldOk.cons (Zv C) (Vc C) .nil) (Zf (pv 0))) (Zo []) (nomark _))))))
          (Zi (Z3o rfl (Fx.FldOk.cons (Zv C) (Vc C) .nil) (Zf (pv 0)) (Zf (pv 3)))
          (Zm (Zg6 rfl (Fx.FldOk.cons (Zv C) (Uz C) .nil) (Zf (pv 0)) f_int Z0y)))
          Y8))))))
    (Zm (Zr (Y5 rfl (Zk C) (Zag C) G_Source_close (hr.mono (by omega)) hG (Zaf C) .nil Dfl.nil tk (Wf rfl (Fx.FldOk.cons (Zv C) (Yu C) .nil) (Zf (pv 0))) (Zg (Wf rfl (Fx.FldOk.cons (Zv C) (Uz C) .nil) (Zf (pv 0))) Zj) (Ze Zh))))))
theorem Z6i : GT P w K mg base 1 (mY "Piece" "last_feeds") Q7 1 Yt := by
  refine fnFD (Z0t C) Z0i fun cdv A outer s H E hr hG => ?_
  exact (Zi (Yp (PW.pt (Z3l (Zq (o_eq hr.units rfl) (Wf rfl (Fx.FldOk.cons (Zv C) (Vc C) .nil) (Zf (pv 0))) (Zo [45]) (nomark _)) (Jo (PW.pt (V6 (Zq (Zm3 hr.units rfl) (Wf rfl (Fx.FldOk.cons (Zv C) (Vy C) .nil) (Zf (pv 0))) (Vu Zj Zh) (nomark _)) (Wi (Zq (o_eq hr.units rfl) (Wf rfl (Fx.FldOk.cons (Zv C) (Vc C) .nil) (Zf (pv 0))) (Zo []) (nomark _))))))))
      (Zm (Zr (Zo [])))
      Y8)
    (Zi (Zt (i := 1) Z0i.nd rfl (Or.inl rfl) (Xb (U0 (nd_ C)) (by rfl) (Vt C) (by decide +kernel) (Zg (Z21 rfl (We (Zo8 hr.units rfl) (Wf rfl (Fx.FldOk.cons (Zv C) (Vy C) .nil) (Zf (pv 0))) (Vu Zj Zh) (nomark _)) (Z0w (f_ix (Xv hr.units rfl) (f_ix (Xv hr.units rfl) (Wf rfl (Fx.FldOk.cons (Zv C) (Vy C) .nil) (Zf (pv 0))) (Zi8 f_int) (fun _ _ => rfl)) f_int (fun _ _ => rfl)))) Zj)))
    (Zm (Zr (f_op Qw (Zo [10]) (f_op (Yd rfl) (Zf (pv 1)) (f_op Qw (Wf rfl (Fx.FldOk.cons (Zv C) (V8 C) .nil) (Zf (pv 0))) (Xb (U0 (nd_ C)) (by rfl) (Vt C) (by decide +kernel) (Zg (We (o_eq hr.units rfl) (Wf rfl (Fx.FldOk.cons (Zv C) (Vc C) .nil) (Zf (pv 0))) (Zo [43]) (nomark _)) Zj)))))))))
theorem Zbr : GT P w K mg base 2 (mY "Piece" "value") Z2y 2 Qm := by
  have G_Piece_last_feeds := @Z6i P base w K mg C
  refine fnFD (Z5l C) Yn fun cdv A outer s H E hr hG => ?_
  exact (Zi (Zt (i := 2) Yn.nd rfl (Or.inl rfl) (Zo []))
    (Zi (Zt (i := 3) Yn.nd rfl (Or.inl rfl) f_bl)
    (Zi (Z22 (passes_of rfl) rfl (Z99 rfl (by rfl) (Z1m C) (Zg (Wf rfl (Fx.FldOk.cons (Zv C) (Vy C) .nil) (Zf (pv 0))) Zj) (Ze Zh)) (Z6n rfl rfl (Xu (W8 (i := 4) Yn.nd rfl (Or.inl rfl)) (Xu (W8 (i := 5) Yn.nd rfl (Or.inl rfl)) Z2i)))
      (Zi (Z6o (Zf (pv 5)) (Z6n rfl rfl (Xu (W8 (i := 6) Yn.nd rfl (Or.inl rfl)) (Xu (W8 (i := 7) Yn.nd rfl (Or.inl rfl)) (Xu (W8 (i := 8) Yn.nd rfl (Or.inl rfl)) Z2i)))))
      (Zi (Zt (i := 9) Yn.nd rfl (Or.inl rfl) (We (Z23 hr.units rfl) (f_sl rfl (Zf (pv 7)) Q5 (Xc f_int)) (f_tup (Zg (Zo [32]) (Zg (Zo [9]) Zj)) (Ze (Ze Zh))) rfl))
      (Zi (Yp (Zq (o_eq hr.units rfl) (Zf (pv 4)) f_int (nomark _))
        (Zm (Zt (i := 2) Yn.nd rfl (Or.inl rfl) (f_op Qw (Zo [10]) (Zf (pv 6)))))
        (Zm (Yp (PW.pt (V6 (Yw rfl (Zf (pv 1))) (V6 (U4 (Yw rfl (Zf (pv 3)))) (Wi (U4 (Yw rfl (Zf (pv 9))))))))
          (Zm (Z3m (i := 2) Yn.nd rfl (Or.inl rfl) (f_if (Yw rfl (Zf (pv 6))) (f_op Qw (Zo [10]) (Zf (pv 6))) (Zo [32])) Z0y))
          (Zm (Z3m (i := 2) Yn.nd rfl (Or.inl rfl) (f_op Qw (Zo [10]) (f_op (Yd rfl) (Zf (pv 6)) f_int)) Z0y)))))
      (Zi (Z3m (i := 2) Yn.nd rfl (Or.inl rfl) (Zf (pv 7)) Z0y)
      (Zm (Zt (i := 3) Yn.nd rfl (Or.inl rfl) (Zf (pv 9)))))))))
    (Zm (Zr (f_op (Yd rfl) (Zf (pv 2)) (Zjm rfl (Zv C) (Z6g C) G_Piece_last_feeds (hr.mono (by omega)) hG (Z6e C) .nil Dfl.nil tk (Zf (pv 0)))))))))
theorem Z3d : GT P w K mg base 3 (mY "Source" "expected_mark") Vd 3 X3 := by
  have G_Source_is_mark := @Z2d P base w K mg C
  obtain ⟨ds_Source_is_mark_0,dv_Source_is_mark_0,db_Source_is_mark_0⟩ := Z0r C
  have G_Source_miss := @Yq P base w K mg C
  have G_Source_at := @Yz P base w K mg C
  refine fnFD (Qq C) V3 fun cdv A outer s H E hr hG => ?_
  exact (Zi (Z22 (passes_of rfl) rfl (Z99 rfl (by rfl) (Z1m C) (Zg (Zf (pv 2)) Zj) (Ze Zh)) (Z6n rfl rfl (Xu (W8 (i := 3) V3.nd rfl (Or.inl rfl)) (Xu (W8 (i := 4) V3.nd rfl (Or.inl rfl)) Z2i)))
      (Zm (Yp (Zq (o_ne hr.units rfl) (Y5 rfl (Zk C) (Y7 C) G_Source_at (hr.mono (by omega)) hG (Y6 C) .nil Dfl.nil tk (Zf (pv 0)) (Zg (f_op (Yd rfl) (Zf (pv 1)) (Zf (pv 3))) Zj) (Ze Zh)) (Zf (pv 4)) (nomark _))
        (Zm (Zr (Y5 rfl (Zk C) (Yc C) G_Source_miss (hr.mono (by omega)) hG (Yb C) .nil Dfl.nil tk (Zf (pv 0)) (Zg (f_op (Yd rfl) (Zf (pv 1)) (Zf (pv 3))) Zj) (Ze Zh))))
        Y8)))
    (Zm (Zr (f_if (Yw rfl (Y5 rfl (Zk C) (Z2c C) G_Source_is_mark (hr.mono (by omega)) hG db_Source_is_mark_0 dv_Source_is_mark_0 (fun _ _ => (.cons (.tup (Z2l (C.c.fact 0) _) (.cons (.str _) (.cons (.str _) .nil))) .nil)) tk (Zf (pv 0)) (Zg (Zf (pv 1)) Zj) (Ze Zh))) (f_op (Yd rfl) (Zf (pv 1)) f_int) (Y5 rfl (Zk C) (Yc C) G_Source_miss (hr.mono (by omega)) hG (Yb C) .nil Dfl.nil tk (Zf (pv 0)) (Zg (f_op (Yd rfl) (Zf (pv 1)) f_int) Zj) (Ze Zh))))))
theorem Z51 : GT P w K mg base 4 (mY "Piece" "indentation") Uo 2 X7 := by
  have G_Source_miss := @Yq P base w K mg C
  have G_Source_past_blanks := @Xa P base w K mg C
  have G_Source_is_barred := @W7 P base w K mg C
  have G_Source_expected_mark := @Z3d P base w K mg C
  have G_Source_at := @Yz P base w K mg C
  refine fnFD (Nh C) Xq fun cdv A outer s H E hr hG => ?_
  exact (Zi (Yp (Zq Zcv (Wf rfl (Fx.FldOk.cons (Zv C) (Jl C) .nil) (Zf (pv 0))) f_int (nomark _))
      (Zm (Zr (f_op (Yd rfl) (Wf rfl (Fx.FldOk.cons (Zv C) (Z2b C) .nil) (Zf (pv 0))) (Wf rfl (Fx.FldOk.cons (Zv C) (Jl C) .nil) (Zf (pv 0))))))
      Y8)
    (Zi (Zt (i := 2) Xq.nd rfl (Or.inl rfl) f_int)
    (Zi (Np (passes_of rfl) (Yw rfl f_bl)
      (Zi (Zt (i := 3) Xq.nd rfl (Or.inl rfl) (Y5 rfl (Zk C) (Yk C) G_Source_past_blanks (hr.mono (by omega)) hG (Yj C) .nil Dfl.nil tk (Wf rfl (Fx.FldOk.cons (Zv C) (Yu C) .nil) (Zf (pv 0))) (Zg (Zf (pv 1)) Zj) (Ze Zh)))
      (Zi (Yp (Zq (o_ne hr.units rfl) (Y5 rfl (Zk C) (Y7 C) G_Source_at (hr.mono (by omega)) hG (Y6 C) .nil Dfl.nil tk (Wf rfl (Fx.FldOk.cons (Zv C) (Yu C) .nil) (Zf (pv 0))) (Zg (Zf (pv 3)) Zj) (Ze Zh)) (Zo [10]) (nomark _))
        (Zm Zmv)
        Y8)
      (Zi (Zt (i := 2) Xq.nd rfl (Or.inl rfl) (Yo (Zeg rfl) (by rfl) (Z7n C) (by decide +kernel) (Zg (Zf (pv 2)) (Zg (f_op Z2g (Zf (pv 3)) (Zf (pv 1))) Zj))))
      (Zm (Zt (i := 1) Xq.nd rfl (Or.inl rfl) (f_op (Yd rfl) (Zf (pv 3)) f_int)))))))
    (Zi (Xk (Y5 rfl (Zk C) (Yc C) G_Source_miss (hr.mono (by omega)) hG (Yb C) .nil Dfl.nil tk (Wf rfl (Fx.FldOk.cons (Zv C) (Yu C) .nil) (Zf (pv 0))) (Zg (Zf (pv 3)) Zj) (Ze Zh)))
    (Zi (Yp (Zq (o_eq hr.units rfl) (Zf (pv 3)) (Wf rfl (Fx.FldOk.cons (Zk C) (Xo C) .nil) (Wf rfl (Fx.FldOk.cons (Zv C) (Yu C) .nil) (Zf (pv 0)))) (nomark _))
      (Zm (Zr (Yo (Zpn rfl rfl) (by rfl) (Z7n C) (by decide +kernel) (Zg (f_op (Yd rfl) (Wf rfl (Fx.FldOk.cons (Zv C) (Z2b C) .nil) (Zf (pv 0))) f_int) (Zg (Zf (pv 2)) (Zg (f_op Z2g (Zf (pv 3)) (Zf (pv 1))) Zj))))))
      Y8)
    (Zi (Yp (PW.pt (Z3l (Zq Z7s (f_op Z2g (Zf (pv 3)) (Zf (pv 1))) (Wf rfl (Fx.FldOk.cons (Zv C) (Z2b C) .nil) (Zf (pv 0))) (nomark _)) (Jo (Yw rfl (Y5 rfl (Zk C) (W6 C) G_Source_is_barred (hr.mono (by omega)) hG (W4 C) .nil Dfl.nil tk (Wf rfl (Fx.FldOk.cons (Zv C) (Yu C) .nil) (Zf (pv 0))) (Zg (Zf (pv 1)) Zj) (Ze Zh))))))
      (Zm (Zr (Yo (Zeg rfl) (by rfl) (Z7n C) (by decide +kernel) (Zg (f_op (Yd rfl) (Wf rfl (Fx.FldOk.cons (Zv C) (Z2b C) .nil) (Zf (pv 0))) f_int) (Zg (Zf (pv 2)) Zj)))))
      Y8)
    (Zi (Yp (Zq Z7s (Zf (pv 2)) (f_op Z2g (Zf (pv 3)) (Zf (pv 1))) (nomark _))
      (Zm (Zr (f_op Z2g (Zf (pv 3)) (Zf (pv 1)))))
      Y8)
    (Zi (Yp (Zq (o_eq hr.units rfl) (Zf (pv 3)) (Zf (pv 1)) (nomark _))
      (Zi (Xk (Y5 rfl (Zk C) (Qt C) G_Source_expected_mark (hr.mono (by omega)) hG (Qs C) .nil Dfl.nil tk (Wf rfl (Fx.FldOk.cons (Zv C) (Yu C) .nil) (Zf (pv 0))) (Zg (Zf (pv 1)) (Zg (Zo [45,45,45]) Zj)) (Ze (Ze Zh))))
      (Zm (Xk (Y5 rfl (Zk C) (Qt C) G_Source_expected_mark (hr.mono (by omega)) hG (Qs C) .nil Dfl.nil tk (Wf rfl (Fx.FldOk.cons (Zv C) (Yu C) .nil) (Zf (pv 0))) (Zg (Zf (pv 1)) (Zg (Zo [46,46,46]) Zj)) (Ze (Ze Zh))))))
      Y8)
    (Zm (Zr Z04))))))))))
theorem Ze3 : GT P w K mg base 4 (mY "Piece" "take") Z40 3 Ux := by
  have G_Source_miss := @Yq P base w K mg C
  have G_Source_past_blanks := @Xa P base w K mg C
  have G_Source_line_end := @Z1o P base w K mg C
  have G_Source_is_barred := @W7 P base w K mg C
  refine fnFD (Z7k C) Q9 fun cdv A outer s H E hr hG => ?_
  exact (Zi (Zt (i := 3) Q9.nd rfl (Or.inl rfl) (Wf rfl (Fx.FldOk.cons (Zv C) (Yu C) .nil) (Zf (pv 0))))
    (Zi (Np (passes_of rfl) (Zq o_lt (Zf (pv 1)) (Wf rfl (Fx.FldOk.cons (Zk C) (Xo C) .nil) (Zf (pv 3))) (nomark _))
      (Zi (Zh6 (i := 4) (j := 5) rfl Q9.nd rfl rfl (by decide) rfl rfl (Zg (Y5 rfl (Zk C) (Yk C) G_Source_past_blanks (hr.mono (by omega)) hG (Yj C) .nil Dfl.nil tk (Zf (pv 3)) (Zg (Zf (pv 1)) Zj) (Ze Zh)) (Zg (Y5 rfl (Zk C) (Z1k C) G_Source_line_end (hr.mono (by omega)) hG (Z1i C) .nil Dfl.nil tk (Zf (pv 3)) (Zg (Zf (pv 1)) Zj) (Ze Zh)) Zj)) (Ze (Ze Zh)) (by rfl))
      (Zi (Zt (i := 6) Q9.nd rfl (Or.inl rfl) (We o_lt (Zf (pv 5)) (Wf rfl (Fx.FldOk.cons (Zk C) (Xo C) .nil) (Zf (pv 3))) (nomark _)))
      (Zi (Yp (PW.pt (V6 (Zq (o_eq hr.units rfl) (Zf (pv 4)) (Zf (pv 5)) (nomark _)) (Wi (Zq Z7s (f_op Z2g (Zf (pv 4)) (Zf (pv 1))) (Zf (pv 2)) (nomark _)))))
        (Zm (Zg6 rfl (Fx.FldOk.cons (Zv C) (V8 C) .nil) (Zf (pv 0)) (Xb (U0 (nd_ C)) (by rfl) (Vt C) (by decide +kernel) (Zg (Zf (pv 6)) Zj)) Z0y))
        (Zm (Yp (PW.pt (Z3l (Zq o_lt (f_op Z2g (Zf (pv 4)) (Zf (pv 1))) (Zf (pv 2)) (nomark _)) (Jo (PW.pt (V6 (Zq (o_eq hr.units rfl) (Zf (pv 2)) f_int (nomark _)) (Wi (Yw rfl (Y5 rfl (Zk C) (W6 C) G_Source_is_barred (hr.mono (by omega)) hG (W4 C) .nil Dfl.nil tk (Zf (pv 3)) (Zg (Zf (pv 1)) Zj) (Ze Zh)))))))))
          (Zi (Xk (Y5 rfl (Zk C) (Yc C) G_Source_miss (hr.mono (by omega)) hG (Yb C) .nil Dfl.nil tk (Zf (pv 3)) (Zg (Zf (pv 4)) Zj) (Ze Zh)))
          (Zm (Zr (Zf (pv 1)))))
          (Zi (Xk (f_bm rfl PySem.F.plainAttrs_list PySem.F.slot_list_append PySem.F.type_list_append m_append (Wf rfl (Fx.FldOk.cons (Zv C) (Vy C) .nil) (Zf (pv 0))) (Zg (f_tup (Zg (Wf rfl (Fx.FldOk.cons (Zv C) (V8 C) .nil) (Zf (pv 0))) (Zg (f_sl rfl (Wf rfl (Fx.FldOk.cons (Zk C) (Xj C) .nil) (Zf (pv 3))) (Xc (f_op (Yd rfl) (Zf (pv 1)) (Zf (pv 2)))) (Xc (Zf (pv 5)))) (Zg (Zf (pv 6)) Zj))) (Ze (Ze (Ze Zh)))) Zj)))
          (Zi (Z3o rfl (Fx.FldOk.cons (Zv C) (V8 C) .nil) (Zf (pv 0)) f_int)
          (Zm (Z3o rfl (Fx.FldOk.cons (Zv C) (Uz C) .nil) (Zf (pv 0)) (Zf (pv 5)))))))))
      (Zm (Zt (i := 1) Q9.nd rfl (Or.inl rfl) (f_op (Yd rfl) (Zf (pv 5)) (Xb (U0 (nd_ C)) (by rfl) (Vt C) (by decide +kernel) (Zg (Zf (pv 6)) Zj)))))))))
    (Zi (Xk (Y5 rfl (Zk C) (Yc C) G_Source_miss (hr.mono (by omega)) hG (Yb C) .nil Dfl.nil tk (Zf (pv 3)) (Zg (Zf (pv 1)) Zj) (Ze Zh)))
    (Zm (Zr (Zf (pv 1)))))))
theorem Zbs : GT P w K mg base 5 (gY "block_value") Z2z 3 Qn := by
  have G_Source_init := @Z5p P base w K mg C
  have G_Piece_init := @Ze2 P base w K mg C
  have G_Piece_read_header := @Z50 P base w K mg C
  have G_Piece_value := @Zbr P base w K mg C
  have G_Piece_indentation := @Z51 P base w K mg C
  have G_Piece_take := @Ze3 P base w K mg C
  have g_HEADS := Z9d C
  refine fnFD (Z1z C) U5 fun cdv A outer s H E hr hG => ?_
  exact (Zi (Yp (Zq (o_ne hr.units rfl) (f_sl rfl (Zf (pv 0)) Q5 (Xc f_int)) (Z94 rfl (by rfl) g_HEADS (Zf (pv 1)) (fun _ _ => rfl)) (nomark _))
      (Zm (Zr Z04))
      Y8)
    (Zi (Zt (i := 3) U5.nd rfl (Or.inl rfl) (Zjn rfl (Zk C) (Zfj C) G_Source_init (hr.mono (by omega)) hG (by rfl) (Zfn C) (Z5j C) .nil Dfl.nil tk (Zg (f_op (Yd rfl) (f_op (Yd rfl) (Zo [32]) (Zf (pv 0))) (Zo [10])) Zj) (Ze Zh)))
    (Zi (Zt (i := 4) U5.nd rfl (Or.inl rfl) (Zjn rfl (Zv C) (Zm7 C) G_Piece_init (hr.mono (by omega)) hG (by rfl) (Zmb C) (Zdo C) .nil Dfl.nil tk (Zg (Zf (pv 3)) (Zg f_int (Zg (Zf (pv 2)) Zj))) (Ze (Ze (Ze Zh)))))
    (Zi (Zt (i := 5) U5.nd rfl (Or.inl rfl) (Zjm rfl (Zv C) (Z4y C) G_Piece_read_header (hr.mono (by omega)) hG (Z4w C) .nil Dfl.nil tk (Zf (pv 4))))
    (Zi (Zt (i := 6) U5.nd rfl (Or.inl rfl) (f_if (Zq o_is (Zf (pv 5)) Z04 (nomark _)) Z04 (Y5 rfl (Zv C) (Z4z C) G_Piece_indentation (hr.mono (by omega)) hG (Z4x C) .nil Dfl.nil tk (Zf (pv 4)) (Zg (Zf (pv 5)) Zj) (Ze Zh))))
    (Zi (Yp (PW.pt (Z3l (Zq o_is (Zf (pv 6)) Z04 (nomark _)) (Jo (Zq (o_ne hr.units rfl) (Y5 rfl (Zv C) (Zdt C) G_Piece_take (hr.mono (by omega)) hG (Zdp C) .nil Dfl.nil tk (Zf (pv 4)) (Zg (Zf (pv 5)) (Zg (Zf (pv 6)) Zj)) (Ze (Ze Zh))) (Wf rfl (Fx.FldOk.cons (Zk C) (Xo C) .nil) (Zf (pv 3))) (nomark _)))))
      (Zm (Zr Z04))
      Y8)
    (Zm (Zr (Y5 rfl (Zv C) (Zbh C) G_Piece_value (hr.mono (by omega)) hG (Zbd C) .nil Dfl.nil tk (Zf (pv 4)) (Zg (We (o_eq hr.units rfl) (Zf (pv 1)) (Zo [102,111,108,100,101,100]) (nomark _)) Zj) (Ze Zh))))))))))
theorem Zbt : GT P w K mg base 7 (gY "read_scalar") Nt 5 Yi := by
  have G_check_place := @Z5o P base w K mg C
  have G_check_numbers := @Z3j P base w K mg C
  have G_Source_init := @Z5p P base w K mg C
  have G_plain := @Zmd P base w K mg C
  have G_quoted := @Zks P base w K mg C
  have G_is_text := @Zch P base w K mg C
  have G_block_value := @Zbs P base w K mg C
  have g_HEADS := Z9d C
  have g_LETTERS := Z8f C
  have g_QUOTES := Zfh C
  have g_BEHIND := Zfi C
  refine fnFD (Uc C) Z1t fun cdv A outer s H E hr hG => ?_
  exact (Zi (Xk (Y9 rfl G_check_place (hr.mono (by omega)) hG (by rfl) (Z5n C) (Jk C).kp (Z5h C) .nil Dfl.nil tk (Zg (Zf (pv 1)) (Zg (Zf (pv 2)) Zj)) (Ze (Ze Zh))))
    (Zi (Xk (Y9 rfl G_check_numbers (hr.mono (by omega)) hG (by rfl) (Z3i C) (Ug C).kp (Z3h C) .nil Dfl.nil tk (Zg (Zf (pv 3)) (Zg f_int (Zg (Zf (pv 4)) Zj))) (Ze (Ze (Ze Zh)))))
    (Zi (Yp (PW.pt (Z3l (U4 (Yw rfl (Y9 rfl G_is_text (hr.mono (by omega)) hG (by rfl) (Zcd C) (Z4p C).kp (Zca C) .nil Dfl.nil tk (Zg (Zf (pv 0)) Zj) (Ze Zh)))) (Jo (Zq (o_eq hr.units rfl) (Zf (pv 0)) (Zo []) (nomark _)))))
      (Zm (Zr Z04))
      Y8)
    (Zi (Yp (Zk1 rfl (by rfl) g_HEADS (Zf (pv 1)))
      (Zm (Zr (f_if (Zq (o_eq hr.units rfl) (Zf (pv 2)) (Zo [98,108,111,99,107]) (nomark _)) (Y9 rfl G_block_value (hr.mono (by omega)) hG (by rfl) (Zbm C) (Z1z C).kp (Zbe C) .nil Dfl.nil tk (Zg (Zf (pv 0)) (Zg (Zf (pv 1)) (Zg (f_op Z2g (Zf (pv 3)) (Zf (pv 4))) Zj))) (Ze (Ze (Ze Zh)))) Z04)))
      Y8)
    (Zi (Yp (U4 (Yw rfl (f_bm rfl PySem.F.plainAttrs_str PySem.F.slot_str_startswith PySem.F.type_str_startswith (Zll rfl) (Zf (pv 0)) (Zg (Z94 rfl (by rfl) g_QUOTES (Zf (pv 1)) (fun _ _ => rfl)) Zj))))
      (Zm (Zr Z04))
      Y8)
    (Zi (Zh6 (i := 5) (j := 6) rfl Z1t.nd rfl rfl (by decide) rfl rfl (Zg (Zjn rfl (Zk C) (Zfj C) G_Source_init (hr.mono (by omega)) hG (by rfl) (Zfn C) (Z5j C) .nil Dfl.nil tk (Zg (f_op (Yd rfl) (f_op (Yd rfl) (Zo [32]) (Zf (pv 0))) (Z94 rfl (by rfl) g_BEHIND (Zf (pv 2)) (fun _ _ => rfl))) Zj) (Ze Zh)) (Zg (Z94 rfl (by rfl) g_LETTERS (Zf (pv 2)) (fun _ _ => rfl)) Zj)) (Ze (Ze Zh)) (by rfl))
    (Zi (Zt (i := 7) Z1t.nd rfl (Or.inl rfl) (f_if (Zq (o_eq hr.units rfl) (Zf (pv 1)) (Zo [112,108,97,105,110]) (nomark _)) (Y9 rfl G_plain (hr.mono (by omega)) hG (by rfl) (Zmc C) (fd_plain C).kp (Zm6 C) .nil Dfl.nil tk (Zg (Zf (pv 5)) (Zg f_int (Zg (Zf (pv 3)) (Zg (Zf (pv 6)) Zj)))) (Ze (Ze (Ze (Ze Zh))))) (Y9 rfl G_quoted (hr.mono (by omega)) hG (by rfl) (Zkq C) (Zae C).kp (Zko C) .nil Dfl.nil tk (Zg (Zf (pv 5)) (Zg f_int (Zg (Zf (pv 3)) (Zg (Zf (pv 6)) Zj)))) (Ze (Ze (Ze (Ze Zh)))))))
    (Zm (Zr (f_if (PW.pt (V6 (Zq Zj7 (Zf (pv 7)) Z04 (nomark _)) (Wi (Zq (o_eq hr.units rfl) (f_ix (Xv hr.units rfl) (Zf (pv 7)) f_int (fun _ _ => rfl)) (f_op (Yd rfl) (Yo (Z6p rfl) (by rfl) (Z1l C) (by decide +kernel) (Zg (Zf (pv 0)) Zj)) f_int) (nomark _))))) (f_ix (Xv hr.units rfl) (Zf (pv 7)) f_int (fun _ _ => rfl)) Z04))))))))))
theorem Zpy : GT P w K mg base 8 (gY "law") Zo0 1 Zoa := by
  have G_written := @Ziz P base w K mg C
  obtain ⟨ds_written_2,dv_written_2,db_written_2⟩ := Zfe C
  have G__law_rows := @Zfv P base w K mg C
  have G__law_digit := @Z3c P base w K mg C
  have G__law_one := @Zam P base w K mg C
  have G__law_text := @Zfw P base w K mg C
  have G_read_scalar := @Zbt P base w K mg C
  obtain ⟨ds_read_scalar_1,dv_read_scalar_1,db_read_scalar_1⟩ := Z97 C
  refine fnFD (Zn7 C) Z19 fun cdv A outer s H E hr hG => ?_
  exact (Zi (Z22 (passes_of rfl) rfl (Z0z rfl (f_op (Yd rfl) (f_sl rfl (Zf (pv 0)) Q5 (Xc f_int)) (Vu (Zg f_int Zj) (Ze Zh)))) (W8 (i := 1) Z19.nd rfl (Or.inl rfl))
      (Zi (Zt (i := 2) Z19.nd rfl (Or.inl rfl) (Vu (Zg (Zf (pv 1)) Zj) (Ze Zh)))
      (Zm (Z22 (passes_of rfl) rfl (Z3n (by rfl) (Z4t C) (Zg f_int Zj) (Ze Zh)) (W8 (i := 3) Z19.nd rfl (Or.inl rfl))
        (Zi (Zjb (i := 4) (j := 5) (l := 6) rfl Z19.nd rfl rfl rfl (by decide) (by decide) (by decide) rfl rfl rfl (Zg (Y9 rfl G__law_rows (hr.mono (by omega)) hG (by rfl) (Zfo C) (Z4b C).kp (Zff C) .nil Dfl.nil tk (Zg (Zf (pv 2)) Zj) (Ze Zh)) (Zg (Y9 rfl G__law_digit (hr.mono (by omega)) hG (by rfl) (Vz C) (Wh C).kp (Vx C) .nil Dfl.nil tk (Zg (Zf (pv 2)) (Zg f_int Zj)) (Ze (Ze Zh))) (Zg (Y9 rfl G__law_digit (hr.mono (by omega)) hG (by rfl) (Vz C) (Wh C).kp (Vx C) .nil Dfl.nil tk (Zg (Zf (pv 2)) (Zg f_int Zj)) (Ze (Ze Zh))) Zj))) (Ze (Ze (Ze Zh))) (by rfl))
        (Zi (Yp (Zq (o_eq hr.units rfl) (Zf (pv 3)) f_int (nomark _))
          (Zm (Zt (i := 6) Z19.nd rfl (Or.inl rfl) (Y9 rfl G__law_one (hr.mono (by omega)) hG (by rfl) (Z3b C) (Jf C).kp (Z37 C) .nil Dfl.nil tk (Zg (Zf (pv 2)) (Zg (Vu (Zg f_int (Zg f_int (Zg (f_op (Yd rfl) f_int (Y9 rfl G__law_digit (hr.mono (by omega)) hG (by rfl) (Vz C) (Wh C).kp (Vx C) .nil Dfl.nil tk (Zg (Zf (pv 2)) (Zg f_int Zj)) (Ze (Ze Zh)))) Zj))) (Ze (Ze (Ze Zh)))) Zj)) (Ze (Ze Zh)))))
          Y8)
        (Zi (Zt (i := 7) Z19.nd rfl (Or.inl rfl) (f_op (Yd rfl) f_int (Y9 rfl G__law_digit (hr.mono (by omega)) hG (by rfl) (Vz C) (Wh C).kp (Vx C) .nil Dfl.nil tk (Zg (Zf (pv 2)) (Zg (Yo (Zlk rfl) (by rfl) (Zhp C) (by decide +kernel) (Zg f_int (Zg (f_op (Yd rfl) (Zf (pv 6)) f_int) Zj))) Zj)) (Ze (Ze Zh)))))
        (Zi (Zt (i := 8) Z19.nd rfl (Or.inl rfl) (f_op (Yd rfl) (f_bm rfl PySem.F.plainAttrs_str PySem.F.slot_str_join PySem.F.type_str_join (m_join rfl) (Zo []) (Zg (f_lc (own := [("_law_many", 12), ("_law_row", 13)]) (Zmz 12 13) (by decide) rfl Z19.nd (Z0z rfl (Zf (pv 4))) (blkOk_by (N := Zpk) (sc := defScope Zew) (by decide +kernel)) (fun _ _ _ _ _ => (pg_tup rfl (pgs_cons (pg_name (i := 12) Z19.nd rfl (Or.inl rfl)) (pgs_cons (pg_name (i := 13) Z19.nd rfl (Or.inl rfl)) pgs_nil)))) (fun _ _ _ _ _ => Z2k) (fun _ _ _ _ _ => (f_op (Yd rfl) (f_op Qw (Zo [10]) (Zf (pv 12))) (Zf (pv 13))))) Zj)) (f_op Qw (Zo [10]) (Zf (pv 5)))))
        (Zi (Zt (i := 9) Z19.nd rfl (Or.inl rfl) (Y9 rfl G_written (hr.mono (by omega)) hG (by rfl) (Zcg C) (Z4q C).kp db_written_2 dv_written_2 (fun _ _ => .nil) tk (Zg (Zf (pv 8)) (Zg (Zo [102,111,108,100,101,100]) (Zg (Zo [98,108,111,99,107]) (Zg (Zf (pv 6)) (Zg f_int (Zg (Zf (pv 7)) Zj)))))) (Ze (Ze (Ze (Ze (Ze (Ze Zh))))))))
        (Zi (Yp (Zq (o_ne hr.units rfl) (Zf (pv 9)) (Y9 rfl G__law_text (hr.mono (by omega)) hG (by rfl) (Zfp C) (Z4c C).kp (Zfg C) .nil Dfl.nil tk (Zg (Zf (pv 4)) (Zg (Zf (pv 5)) (Zg (Zf (pv 6)) (Zg (Zf (pv 7)) Zj)))) (Ze (Ze (Ze (Ze Zh))))) (nomark _))
          (Zm (Zr f_bl))
          Y8)
        (Zi (Zt (i := 10) Z19.nd rfl (Or.inl rfl) (Y9 rfl G_written (hr.mono (by omega)) hG (by rfl) (Zcg C) (Z4q C).kp db_written_2 dv_written_2 (fun _ _ => .nil) tk (Zg (Zf (pv 8)) (Zg (Zo [108,105,116,101,114,97,108]) (Zg (Zo [98,108,111,99,107]) (Zg (Zf (pv 6)) (Zg f_int (Zg (Zf (pv 7)) Zj)))))) (Ze (Ze (Ze (Ze (Ze (Ze Zh))))))))
        (Zi (Zt (i := 11) Z19.nd rfl (Or.inl rfl) (Vu (Zg (Y9 rfl G_read_scalar (hr.mono (by omega)) hG (by rfl) (Z20 C) (Uc C).kp db_read_scalar_1 dv_read_scalar_1 (fun _ _ => .nil) tk (Zg (Zf (pv 9)) (Zg (Zo [102,111,108,100,101,100]) (Zg (Zo [98,108,111,99,107]) (Zg (Zf (pv 6)) (Zg (Zf (pv 7)) Zj))))) (Ze (Ze (Ze (Ze (Ze Zh)))))) Zj) (Ze Zh)))
        (Zi (Xk (f_bm rfl PySem.F.plainAttrs_list PySem.F.slot_list_append PySem.F.type_list_append m_append (Zf (pv 11)) (Zg (Y9 rfl G_read_scalar (hr.mono (by omega)) hG (by rfl) (Z20 C) (Uc C).kp db_read_scalar_1 dv_read_scalar_1 (fun _ _ => .nil) tk (Zg (Zf (pv 10)) (Zg (Zo [108,105,116,101,114,97,108]) (Zg (Zo [98,108,111,99,107]) (Zg (Zf (pv 6)) (Zg (Zf (pv 7)) Zj))))) (Ze (Ze (Ze (Ze (Ze Zh)))))) Zj)))
        (Zm (Yp (PW.pt (Z3l (Zq (o_ne hr.units rfl) (Zf (pv 11)) (f_op Qw (Vu (Zg (Zf (pv 8)) Zj) (Ze Zh)) f_int) (nomark _)) (Jo (Zq Zj7 (Y9 rfl G_read_scalar (hr.mono (by omega)) hG (by rfl) (Z20 C) (Uc C).kp db_read_scalar_1 dv_read_scalar_1 (fun _ _ => .nil) tk (Zg (Zf (pv 9)) (Zg (Zo [108,105,116,101,114,97,108]) (Zg (Zo [98,108,111,99,107]) (Zg (Zf (pv 6)) (Zg (Zf (pv 7)) Zj))))) (Ze (Ze (Ze (Ze (Ze Zh)))))) Z04 (nomark _)))))
          (Zm (Zr f_bl))
          Y8)))))))))))))))
    (Zm (Zr f_bl)))
end
end Ap
set_option maxHeartbeats 4000000
namespace Ap
open PySem PySem.Spec PyProof.Rows L2 SX
end Ap
set_option maxHeartbeats 4000000
namespace Ap
open PySem PySem.Spec PyProof.Rows L2 SX
def zs (k : Nat) : List Nat := List.replicate k 48
theorem Zhr (c : Nat) : ∀ l : List Nat,lst c l = l.dropWhile (· == c)
  | [] => rfl
  | d :: l => by
    have ih := Zhr c l
    unfold lst at ih ⊢
    rw [List.takeWhile_cons,List.dropWhile_cons]
    cases h : (d == c)
    · rfl
    · simpa using ih
theorem Zhs (c : Nat) (l : List Nat) : rst c l = (l.reverse.dropWhile (· == c)).reverse := by
  rw [← Zhr]
  unfold rst lst
  rw [List.drop_reverse,List.reverse_reverse]
end Ap
set_option maxHeartbeats 4000000
namespace Ap
open PySem PySem.Spec PyProof.Rows L2 SX
end Ap
set_option maxHeartbeats 4000000
namespace Ap
open PySem PySem.Spec PyProof.Rows L2 SX Fx
end Ap
set_option maxHeartbeats 8000000
namespace Ap
open PySem PySem.Spec PyProof.Rows L2 SX Fx
theorem Zx {a b : FS} {ρ ρ' : Fx.Env} {Z Z' : Sto} {r : RS} (h : a ρ Z = .nx ρ' Z') (h2 : b ρ' Z' = r) : bCons a b ρ Z = r := by
  show seqS (a ρ Z) b = r
  rw [h]; exact h2
theorem b_rt {a b : FS} {ρ : Fx.Env} {Z Z' : Sto} {t : Fx.T} (h : a ρ Z = .rt t Z') : bCons a b ρ Z = .rt t Z' := by
  show seqS (a ρ Z) b = _
  rw [h]; rfl
theorem Ut {n : Nat} {B : FS} {as : List Fx.T} {Z Z' : Sto} {t : Fx.T} (h : B (as.map some ++ List.replicate (n - as.length) none) Z = .rt t Z') : runF n B as Z = .ok t Z' := by
  unfold runF
  rw [h]
def bl : List Nat → Nat
  | [] => 0
  | c :: l => if c = 32 then bl l + 1 else 0
theorem Zkt : ∀ l : List Nat,bl l ≤ l.length
  | [] => Nat.le_refl _
  | c :: l => by
    have := Zkt l
    unfold bl
    split <;> simp <;> omega
theorem Zku : ∀ (l r : List Nat),bl (l ++ 10 :: r) = bl l
  | [],r => by simp [bl]
  | c :: l,r => by
    show (if c = 32 then bl (l ++ 10 :: r) + 1 else 0) = _
    rw [Zku l r]; rfl
def isM (l : List Nat) : Bool := decide ((l ++ [32]).take 4 = [45,45,45,32]) || decide ((l ++ [32]).take 4 = [46,46,46,32])
theorem Zoc : ∀ {l r : List Nat},10 ∉ l → ((decide ((l ++ 10 :: r).take 3 = [45,45,45]) || decide ((l ++ 10 :: r).take 3 = [46,46,46])) && (decide ((((l ++ 10 :: r).drop 3).take 1) = []) || (decide ((((l ++ 10 :: r).drop 3).take 1) = [32]) || decide ((((l ++ 10 :: r).drop 3).take 1) = [10])))) = isM l
  | [],r,_ => by simp [isM]
  | [a],r,_ => by
    unfold isM
    cases r <;> simp
  | [a,b],r,_ => by simp [isM]
  | [a,b,c],r,_ => by simp [isM]
  | a :: b :: c :: d :: l,r,h => by
    have hd : d ≠ 10 := fun e => h (by simp [e])
    unfold isM
    simp [hd]
    by_cases h32 : d = 32 <;> simp [h32]
def srF (s : List Nat) (f : Int) : List (String × Fx.T) := [("text", .str s), ("length", .int (s.length : Int)), ("far", .int f)]
def Src (Z : Sto) (si : Nat) (s : List Nat) : Prop := ∃ f : Int, getI Z si = some ("Source", srF s f)
def SK (si : Nat) (s : List Nat) (Z Z' : Sto) : Prop := ∃ f : Int, Z' = Z.set si (.ins "Source" (srF s f))
section
variable {Z Z' Z1 : Sto} {si : Nat} {s : List Nat}
theorem Src.lt (h : Src Z si s) : si < Z.length := by
  obtain ⟨f,h⟩ := h
  have := Zcu h
  exact (List.getElem?_eq_some_iff.mp this).1
theorem SK.refl (h : Src Z si s) : SK si s Z Z := by
  obtain ⟨f,h⟩ := h
  refine ⟨f,?_⟩
  have h1 := Zcu h
  obtain ⟨h2,h3⟩ := List.getElem?_eq_some_iff.mp h1
  apply List.ext_getElem?
  intro j
  by_cases hj : j = si
  · subst hj; rw [List.getElem?_set_self h2,h1]
  · rw [List.getElem?_set_ne (Ne.symm hj)]
theorem SK.trans (h : SK si s Z Z1) (h2 : SK si s Z1 Z') : SK si s Z Z' := by
  obtain ⟨f,rfl⟩ := h
  obtain ⟨g,rfl⟩ := h2
  exact ⟨g,by rw [List.set_set]⟩
theorem SK.src (h : Src Z si s) (k : SK si s Z Z') : Src Z' si s := by
  obtain ⟨f,rfl⟩ := k
  refine ⟨f,?_⟩
  unfold getI
  rw [List.getElem?_set_self h.lt]
theorem SK.len (k : SK si s Z Z') : Z'.length = Z.length := by
  obtain ⟨f,rfl⟩ := k
  exact List.length_set
theorem SK.at (k : SK si s Z Z') {j : Nat} (hj : j ≠ si) : Z'[j]? = Z[j]? := by
  obtain ⟨f,rfl⟩ := k
  exact List.getElem?_set_ne (Ne.symm hj)
theorem Z8i (h : Src Z si s) : fldT ["Source"] "text" (.loc si) Z = some (.str s) := by
  obtain ⟨f,h⟩ := h
  simp [fldT,h,srF]
theorem Zao (h : Src Z si s) : fldT ["Source"] "length" (.loc si) Z = some (.int (s.length : Int)) := by
  obtain ⟨f,h⟩ := h
  simp [fldT,h,srF,List.lookup_cons]
theorem Ws (h : Src Z si s) {m : String} (hm : m ≠ "text" ∧ m ≠ "length" ∧ m ≠ "far") (r : Nat → Fx.R Fx.T) : methK "Source" m (.loc si) Z r = r si := by
  obtain ⟨f,h⟩ := h
  obtain ⟨h1,h2,h3⟩ := hm
  have k1 : (m == "text") = false := beq_eq_false_iff_ne.mpr h1
  have k2 : (m == "length") = false := beq_eq_false_iff_ne.mpr h2
  have k3 : (m == "far") = false := beq_eq_false_iff_ne.mpr h3
  have : (srF s f).lookup m = none := by simp [srF,List.lookup_cons,k1,k2,k3]
  simp [methK,h,this]
theorem f_at (h : Src Z si s) (hl : s.length ≤ Lim) (i : Nat) : Zw [.loc si,.int (i : Int)] Z = .ok (.str ((s.drop i).take 1)) Z := by
  have e := Z8i h
  have c := Zg1 s i (i + 1)
  rw [List.drop_take,show i + 1 - i = 1 by omega] at c
  have hc : ((i + 1 : Nat) : Int) = (i : Int) + 1 := by omega
  rw [hc] at c
  simp [Zw,runF,Za7,eFld,e,Z88 _ _ _ _ hl,c,oSome]
theorem Zap (h : Src Z si s) (i : Int) : ∃ Z', Y0 [.loc si, .int i] Z = .ok .non Z' ∧ SK si s Z Z' := by
  obtain ⟨f,h⟩ := h
  refine ⟨Z.set si (.ins "Source" (srF s (if f < i then i else f))), ?_, _, rfl⟩
  have e : fldT ["Source"] "far" (.loc si) Z = some (.int f) := by simp [fldT, h, srF, List.lookup_cons]
  have p : putS "far" (.int (if f < i then i else f)) (srF s f) = srF s (if f < i then i else f) := by simp [putS, srF]
  have l : (srF s f).length < 1000 := by simp [srF]
  simp [Y0,runF,Z7d,eFld,e,sFldS,setF,h,p,l]
theorem Zkv (h : Src Z si s) (hl : s.length ≤ Lim) : ∀ (u : List Nat) (i n : Nat), s.drop i = u → u.length < n → loopW (eBl (eBin gEq (eMeth "Source" "at" Zw [] (eVar 0) (aCons (eVar 1) aNil)) (eC (.str [32])))) Ve n [some (.loc si), some (.int (i : Int))] Z = .nx [some (.loc si), some (.int ((i + bl u : Nat) : Int))] Z
  | u,i,n + 1,hu,hn => by
    have e := f_at h hl i
    rw [hu] at e
    have m := Ws h (m := "at") (by decide)
    unfold loopW
    cases u with
    | nil => simp [eMeth,m,e,bl]
    | cons c u =>
      by_cases hc : c = 32
      · subst hc
        have hu2 : s.drop (i + 1) = u := by rw [← List.drop_drop,hu]; rfl
        have ih := Zkv h hl u (i + 1) n hu2 (by simp at hn; omega)
        have hci : ((i + 1 : Nat) : Int) = (i : Int) + 1 := by omega
        have hb : bl (32 :: u) = bl u + 1 := by simp [bl]
        rw [hb,show i + (bl u + 1) = i + 1 + bl u by omega,← ih,hci]
        simp [eMeth,m,e,Ve,sAug]
      · simp [eMeth,m,e,bl,hc]
theorem f_pb (h : Src Z si s) (hl : s.length < Lim) (i : Nat) : Zz [.loc si,.int (i : Int)] Z = .ok (.int ((i + bl (s.drop i) : Nat) : Int)) Z := by
  have e := Zkv h (by omega) (s.drop i) i Lim rfl (by rw [List.length_drop]; omega)
  simp [Zz,runF,N7,sWhile,e]
theorem Zod {l r : List Nat} {i : Nat} (hd : s.drop i = l ++ 10 :: r) (h10 : 10 ∉ l) : Txt.find3 (S s) (S [10]) (i : Int) = ((i + l.length : Nat) : Int) := by
  have hlen : (S s).length = s.length := S_len s
  have hfrom : fromIndex (S s).length (i : Int) = i := by unfold fromIndex; rw [if_neg (by omega)]; omega
  have hg : ∀ v,(S s).cps.getD v 0 = s[v]?.getD 0 := fun v => by
    show (s.toArray).getD v 0 = _
    simp [Array.getD_eq_getD_getElem?]
  have hat : s[i + l.length]? = some 10 := by
    have : (s.drop i)[l.length]? = some 10 := by rw [hd]; simp
    rwa [List.getElem?_drop] at this
  have hlt := (List.getElem?_eq_some_iff.mp hat).1
  have hno : ∀ v,i ≤ v → v < i + l.length → s[v]? ≠ some 10 := fun v h1 h2 e => by
    have : (s.drop i)[v - i]? = some 10 := by rw [List.getElem?_drop,show i + (v - i) = v by omega]; exact e
    rw [hd,List.getElem?_append_left (by omega)] at this
    exact h10 (List.mem_of_getElem? this)
  have h1 := StrLaws.find3_spec (S s) 10 (i : Int)
  rw [hfrom,hlen] at h1
  have e : (⟨#[10]⟩ : PySem.Str) = S [10] := rfl
  rw [e] at h1
  rcases h1 with ⟨h,hn⟩ | ⟨k,h,hlo,hk,hk2,hn⟩
  · exfalso
    refine hn (i + l.length) (by omega) hlt ?_
    rw [hg,hat]; rfl
  · rw [h]
    have hk' : s[k]? = some 10 := by
      rw [hg] at hk2
      rw [List.getElem?_eq_getElem hk] at hk2 ⊢
      exact congrArg some hk2
    rcases Nat.lt_trichotomy k (i + l.length) with hc | hc | hc
    · exact absurd hk' (hno k hlo hc)
    · rw [hc]
    · exfalso
      refine hn (i + l.length) (by omega) hc ?_
      rw [hg,hat]; rfl
theorem f_le (h : Src Z si s) {l r : List Nat} {i : Nat} (hd : s.drop i = l ++ 10 :: r) (h10 : 10 ∉ l) : Wq [.loc si,.int (i : Int)] Z = .ok (.int ((i + l.length : Nat) : Int)) Z := by
  have e := Z8i h
  have g : gFind2 (.str s) [.str [10],.int (i : Int)] Z = some (.int ((i + l.length : Nat) : Int),Z) := by
    show some (Fx.T.int (Txt.find3 (S s) (S [10]) (i : Int)),Z) = _
    rw [Zod hd h10]
  have hn : ¬ (((i + l.length : Nat) : Int)) < 0 := by omega
  generalize ((i + l.length : Nat) : Int) = w at *
  simp [Wq,runF,Z28,eFld,e,g,hn]
theorem Zck (A a b : List Nat) (Z : Sto) : gInW (.str A) (.tup [.str a,.str b]) Z = some (.bl (decide (A = a) || decide (A = b)),Z) := by
  by_cases h1 : A = a <;> by_cases h2 : A = b <;> simp [gInW,gIn,gInB,asSeq,flatT,inT,Fx.eqT,h1,h2,eq_comm]
theorem Zme (A a b c : List Nat) (Z : Sto) : gInW (.str A) (.tup [.str a,.str b,.str c]) Z = some (.bl (decide (A = a) || (decide (A = b) || decide (A = c))),Z) := by
  by_cases h1 : A = a <;> by_cases h2 : A = b <;> by_cases h3 : A = c <;> simp [gInW,gIn,gInB,asSeq,flatT,inT,Fx.eqT,h1,h2,h3,eq_comm]
def Beg (s : List Nat) (i : Nat) : Bool := decide (i = 0) || decide (s[i - 1]? = some 10)
theorem Zkw (h : Src Z si s) (hl : s.length ≤ Lim) {i : Nat} (hi : i ≤ s.length) : Xz [.loc si,.int (i : Int)] Z = .ok (.bl (Beg s i)) Z := by
  have e := Z8i h
  unfold Beg
  by_cases h0 : i = 0
  · subst h0
    simp [Xz,runF,Jd]
  · have h1 : i - 1 < s.length := by omega
    have hx : s[i - 1]? = some s[i - 1] := List.getElem?_eq_getElem h1
    have hc : (i : Int) - 1 = ((i - 1 : Nat) : Int) := by omega
    have a : atI s ((i : Int) - 1) = some s[i - 1] := by rw [hc]; exact Fx.atI_nat hx
    have h0' : ¬ (i : Int) = 0 := by omega
    rw [hx]
    simp [Xz, runF, Jd, h0, h0', eFld, e, hl, a]
theorem Zn8 (h : Src Z si s) (hl : s.length ≤ Lim) {l r : List Nat} {i : Nat} (hi : i ≤ s.length) (hd : s.drop i = l ++ 10 :: r) (h10 : 10 ∉ l) (hb : Beg s i = true) : W9 [.loc si,.int (i : Int),.tup [.str [45,45,45],.str [46,46,46]]] Z = .ok (.bl (isM l)) Z := by
  have e := Z8i h
  have e1 := Zkw h hl hi
  rw [hb] at e1
  have e2 := f_at h hl (i + 3)
  have hd3 : s.drop (i + 3) = (l ++ 10 :: r).drop 3 := by rw [← List.drop_drop,hd]
  rw [hd3] at e2
  have m1 := Ws h (m := "is_begin") (by decide)
  have m2 := Ws h (m := "at") (by decide)
  have c := Zg1 s i (i + 3)
  rw [List.drop_take,show i + 3 - i = 3 by omega,hd] at c
  have hc : ((i + 3 : Nat) : Int) = (i : Int) + 3 := by omega
  rw [hc] at c e2
  have me := Zoc (r := r) h10
  rw [← me]
  have gA := Zck ((l ++ 10 :: r).take 3) [45,45,45] [46,46,46] Z
  have gB := Zme (((l ++ 10 :: r).drop 3).take 1) [] [32] [10] Z
  generalize (l ++ 10 :: r).take 3 = A at *
  generalize ((l ++ 10 :: r).drop 3).take 1 = B at *
  cases hA : (decide (A = [45,45,45]) || decide (A = [46,46,46])) with
  | false =>
    rw [hA] at gA
    simp [-Zb3,W9,runF,Jw,eMeth,m1,e1,eFld,e,Z88 _ _ _ _ hl,c,oSome,gA]
  | true =>
    rw [hA] at gA
    simp only [Bool.true_and]
    generalize (decide (B = []) || (decide (B = [32]) || decide (B = [10]))) = bb at *
    simp [-Zb3,W9,runF,Jw,eMeth,m1,m2,e1,e2,eFld,e,Z88 _ _ _ _ hl,c,oSome,gA,gB]
end
end Ap
set_option maxHeartbeats 8000000
namespace Ap
open PySem PySem.Spec PyProof.Rows L2 SX Fx
structure At (s : List Nat) (i : Nat) (ls : List (List Nat)) : Prop where
  le : i ≤ s.length
  rest : s.drop i = ls.flatMap (fun l => l ++ [10])
  beg : Beg s i = true
  no : ∀ l ∈ ls,10 ∉ l
section
variable {Z : Sto} {si : Nat} {s : List Nat} {i : Nat} {l : List Nat} {ls : List (List Nat)}
theorem At.line (h : At s i (l :: ls)) : s.drop i = l ++ 10 :: ls.flatMap (fun l => l ++ [10]) := by
  rw [h.rest,List.flatMap_cons,List.append_assoc]; rfl
theorem At.l10 (h : At s i (l :: ls)) : 10 ∉ l := h.no l List.mem_cons_self
theorem At.end_ (h : At s i []) : i = s.length := by
  have h1 := congrArg List.length h.rest
  have := h.le
  rw [List.length_drop] at h1
  simp at h1
  omega
theorem At.lt (h : At s i (l :: ls)) : i + l.length + 1 ≤ s.length := by
  have h1 := congrArg List.length h.line
  have := h.le
  rw [List.length_drop] at h1
  simp at h1
  omega
theorem At.next (h : At s i (l :: ls)) : At s (i + l.length + 1) ls := by
  refine ⟨h.lt,?_,?_,fun m hm => h.no m (List.mem_cons_of_mem _ hm)⟩
  · rw [show i + l.length + 1 = i + (l.length + 1) by omega,← List.drop_drop,h.line,List.drop_append,List.drop_eq_nil_of_le (by omega),show l.length + 1 - l.length = 1 by omega]
    rfl
  · unfold Beg
    have : s[i + l.length + 1 - 1]? = some 10 := by
      have h1 : (s.drop i)[l.length]? = some 10 := by rw [h.line]; simp
      rw [List.getElem?_drop] at h1
      rw [show i + l.length + 1 - 1 = i + l.length by omega]; exact h1
    rw [this]; simp
theorem At.bl (h : At s i (l :: ls)) : bl (s.drop i) = bl l := by rw [h.line,Zku]
theorem Zpz (hs : Src Z si s) (hl : s.length ≤ Lim) (h : At s i (l :: ls)) : ∃ Z', Zy [.loc si, .int (i : Int)] Z = .ok (.bl (isM l)) Z' ∧ SK si s Z Z' := by
  have e := Zn8 hs hl h.le h.line h.l10 h.beg
  have m1 := Ws hs (m := "is_mark") (by decide)
  have m2 := Ws hs (m := "miss") (by decide)
  obtain ⟨Z', e2, k⟩ := Zap hs ((i : Int) + 3)
  cases hm : isM l with
  | false =>
    rw [hm] at e
    exact ⟨Z,by simp [Zy,runF,Ql,eMeth,m1,e],SK.refl hs⟩
  | true =>
    rw [hm] at e
    exact ⟨Z', by simp [Zy, runF, Ql, eMeth, m1, m2, e, e2], k⟩
theorem Zmf {it : ItF} {body : Fx.T → FS} {n k : Nat} {ρ : Fx.Env} {Z Z' : Sto} {t u : Fx.T} (h : it k Z = some (some t)) (hb : body t ρ Z = .rt u Z') : loopN it body (n + 1) k ρ Z = .rt u Z' := by
  unfold loopN
  rw [h]
  simp only [hb]
  rfl
theorem Z7q {it : ItF} {body : Fx.T → FS} {n k : Nat} {ρ ρ' : Fx.Env} {Z Z' : Sto} {t : Fx.T} (h : it k Z = some (some t)) (hb : body t ρ Z = .nx ρ' Z') : loopN it body (n + 1) k ρ Z = loopN it body n (k + 1) ρ' Z' := by
  conv => lhs; unfold loopN
  rw [h]
  simp only [hb,Zcq]
theorem Z4h {it : ItF} {body : Fx.T → FS} {n k : Nat} {ρ : Fx.Env} {Z : Sto} (h : it k Z = some none) : loopN it body (n + 1) k ρ Z = .nx ρ Z := by
  unfold loopN
  rw [h]
theorem Zkx (hs : Src Z si s) (hl : s.length ≤ Lim) (w : List Nat) : ∀ (v : List Nat) (k n : Nat) (o3 o4 : Option Fx.T),w.drop k = v → k ≤ w.length → v.length < n →
    (∃ t Z', loopN (itEnum (itStrX w)) (fun t ρ' Z' => bS ρ' ((gTp 2 (gsCons (gNm 3) (gsCons (gNm 4) gsNil))) t ρ' Z') Y4) n k [some (.loc si), some (.int (i : Int)), some (.str w), o3, o4] Z = .rt t Z' ∧ SK si s Z Z') ∨
    (∃ o3' o4', loopN (itEnum (itStrX w)) (fun t ρ' Z' => bS ρ' ((gTp 2 (gsCons (gNm 3) (gsCons (gNm 4) gsNil))) t ρ' Z') Y4) n k [some (.loc si), some (.int (i : Int)), some (.str w), o3, o4] Z = .nx [some (.loc si), some (.int (i : Int)), some (.str w), o3', o4'] Z)
  | v,k,n + 1,o3,o4,hv,hk0,hn => by
    cases v with
    | nil =>
      have : w[k]? = none := by
        have := List.drop_eq_nil_iff.mp hv
        exact List.getElem?_eq_none this
      exact .inr ⟨o3,o4,Z4h (by simp [itEnum,itStrX,this,hk0])⟩
    | cons c v =>
      have hk : w[k]? = some c := by
        have h1 : (w.drop k)[0]? = some c := by rw [hv]; rfl
        rwa [List.getElem?_drop] at h1
      have hv2 : w.drop (k + 1) = v := by rw [← List.drop_drop,hv]; rfl
      have hit : itEnum (itStrX w) k Z = some (some (.tup [.int (k : Int),.str [c]])) := by simp [itEnum,itStrX,hk,hk0]
      have e := f_at hs hl (i + k)
      have hc : ((i + k : Nat) : Int) = (i : Int) + (k : Int) := by omega
      rw [hc] at e
      have m1 := Ws hs (m := "at") (by decide)
      have m2 := Ws hs (m := "miss") (by decide)
      by_cases he : (s.drop (i + k)).take 1 = [c]
      · rw [he] at e
        have hb : bS [some (.loc si),some (.int (i : Int)),some (.str w),o3,o4] ((gTp 2 (gsCons (gNm 3) (gsCons (gNm 4) gsNil))) (.tup [.int (k : Int),.str [c]]) [some (.loc si),some (.int (i : Int)),some (.str w),o3,o4] Z) Y4 = .nx [some (.loc si),some (.int (i : Int)),some (.str w),some (.int (k : Int)),some (.str [c])] Z := by
          simp [Y4,eMeth,m1,e]
        rw [Z7q (body := fun t ρ' Z' => bS ρ' ((gTp 2 (gsCons (gNm 3) (gsCons (gNm 4) gsNil))) t ρ' Z') Y4) hit hb]
        exact Zkx hs hl w v (k + 1) n _ _ hv2 (by have := (List.getElem?_eq_some_iff.mp hk).1; omega) (by simp at hn; omega)
      · obtain ⟨Z', e2, k2⟩ := Zap hs ((i : Int) + (k : Int))
        refine .inl ⟨.non, Z', Zmf hit ?_, k2⟩
        simp [Y4,eMeth,m1,m2,e,he,e2]
theorem Zht (hs : Src Z si s) (hl : s.length ≤ Lim) (h : At s i (l :: ls)) (w : List Nat) (hw : w.length ≤ 10) : ∃ t Z', X3 [.loc si, .int (i : Int), .str w] Z = .ok t Z' ∧ SK si s Z Z' := by
  have lp := Zkx (i := i) hs hl w w 0 Fuel none none rfl (Nat.zero_le _) (by rw [Jv]; unfold Lim; omega)
  have hi : ∀ ρ,iEnmA (aCons (eVar 2) aNil) [some (.loc si),some (.int (i : Int)),some (.str w),ρ,none] Z = .ok (itEnum (itStrX w)) Z := fun ρ => by simp [iEnmA]
  rcases lp with ⟨t, Z', e, k⟩ | ⟨o3, o4, e⟩
  · refine ⟨t, Z', ?_, k⟩
    have hB : Vf [some (.loc si), some (.int (i : Int)), some (.str w), none, none] Z = .rt t Z' := by
      unfold Vf
      have hf : sFor (iEnmA (aCons (eVar 2) aNil)) (gTp 2 (gsCons (gNm 3) (gsCons (gNm 4) gsNil))) Y4 [some (.loc si), some (.int (i : Int)), some (.str w), none, none] Z = .rt t Z' := by
        rw [Zd9,hi,Z6m]; exact e
      exact b_rt hf
    exact Ut (n := 5) (as := [.loc si,.int (i : Int),.str w]) hB
  · have e1 := Zn8 hs hl h.le h.line h.l10 h.beg
    have m1 := Ws hs (m := "is_mark") (by decide)
    have m2 := Ws hs (m := "miss") (by decide)
    obtain ⟨Z', e2, k⟩ := Zap hs ((i : Int) + 3)
    have hf : sFor (iEnmA (aCons (eVar 2) aNil)) (gTp 2 (gsCons (gNm 3) (gsCons (gNm 4) gsNil))) Y4 [some (.loc si),some (.int (i : Int)),some (.str w),none,none] Z = .nx [some (.loc si),some (.int (i : Int)),some (.str w),o3,o4] Z := by
      rw [Zd9,hi,Z6m]; exact e
    cases hm : isM l with
    | false =>
      rw [hm] at e1
      refine ⟨.non, Z', Ut (n := 5) (as := [.loc si, .int (i : Int), .str w]) (Zx hf ?_), k⟩
      simp [eMeth,m1,m2,e1,e2]
    | true =>
      rw [hm] at e1
      refine ⟨.int ((i : Int) + 3),Z,Ut (n := 5) (as := [.loc si,.int (i : Int),.str w]) (Zx hf ?_),SK.refl hs⟩
      simp [eMeth,m1,m2,e1]
def clo (u : List Nat) : Bool := decide (u.drop (Ap.bl u) = []) || (decide ((u.drop (Ap.bl u)).head? = some 35) && decide (0 < Ap.bl u))
theorem Zoe (hs : Src Z si s) (hl : s.length < Lim) {e : Nat} {u r : List Nat} (he : e ≤ s.length) (hd : s.drop e = u ++ 10 :: r) (h10 : 10 ∉ u) (hb : Beg s e = false) :
    ∃ Z', Wn [.loc si, .int (e : Int)] Z = .ok (if clo u = true then .int ((e + u.length + 1 : Nat) : Int) else .non) Z' ∧ SK si s Z Z' := by
  have e1 := f_pb hs hl e
  rw [hd,Zku] at e1
  have hble := Zkt u
  obtain ⟨j,hj⟩ : ∃ j,j = e + Ap.bl u := ⟨_,rfl⟩
  rw [← hj] at e1
  have hdj : s.drop j = u.drop (Ap.bl u) ++ 10 :: r := by
    rw [hj,← List.drop_drop,hd,List.drop_append_of_le_length hble]
  have e2 := f_at hs (by omega) j
  rw [hdj] at e2
  have hlen : s.length = e + u.length + 1 + r.length := by
    have h1 := congrArg List.length hd
    rw [List.length_drop] at h1
    simp at h1
    omega
  have fl := Zao hs
  have m1 := Ws hs (m := "past_blanks") (by decide)
  have m2 := Ws hs (m := "at") (by decide)
  have m3 := Ws hs (m := "is_begin") (by decide)
  have m4 := Ws hs (m := "line_end") (by decide)
  have m5 := Ws hs (m := "miss") (by decide)
  have hnj : ¬ ((j : Nat) : Int) = (s.length : Int) := by omega
  have hvl : (u.drop (Ap.bl u)).length = u.length - Ap.bl u := List.length_drop
  cases hv : u.drop (Ap.bl u) with
  | nil =>
    have hc : clo u = true := by unfold clo; rw [hv]; rfl
    rw [hv] at e2 hvl
    simp at hvl
    have hjj : ((e + u.length + 1 : Nat) : Int) = (j : Int) + 1 := by omega
    refine ⟨Z,?_,SK.refl hs⟩
    rw [if_pos hc,hjj]
    simp [Wn,runF,Ub,eMeth,m1,m2,e1,e2,eFld,fl,hnj]
  | cons c v =>
    have h10v : 10 ∉ c :: v := fun h => h10 (List.mem_of_mem_drop (by rw [hv]; exact h))
    have hc10 : c ≠ 10 := fun e => h10v (by simp [e])
    have e2' : Zw [.loc si, .int (j : Int)] Z = .ok (.str [c]) Z := by rw [e2, hv]; rfl
    obtain ⟨Z', em, km⟩ := Zap hs ((j : Nat) : Int)
    by_cases h35 : c = 35
    · subst h35
      by_cases hb0 : 0 < Ap.bl u
      · have hc : clo u = true := by unfold clo; rw [hv]; simp [hb0]
        have hgt : ((e : Nat) : Int) < (j : Int) := by omega
        have e3 := f_le hs (i := j) (l := 35 :: v) (r := r) (by rw [hdj,hv]) h10v
        have hje : j + (35 :: v).length = e + u.length := by rw [← hv,hvl]; omega
        rw [hje] at e3
        have e4 := f_at hs (by omega) (e + u.length)
        have hde : s.drop (e + u.length) = 10 :: r := by rw [← List.drop_drop,hd]; simp
        rw [hde] at e4
        have hne : ¬ ((e + u.length : Nat) : Int) = (s.length : Int) := by omega
        refine ⟨Z,?_,SK.refl hs⟩
        rw [if_pos hc]
        have hcast : ((e + u.length + 1 : Nat) : Int) = ((e + u.length : Nat) : Int) + 1 := by omega
        rw [hcast]
        generalize ((e + u.length : Nat) : Int) = w at *
        simp [Wn, runF, Ub, eMeth, m1, m2, m3, m4, e1, e2', hgt, e3, e4, eFld, fl, hne]
      · have hc : clo u = false := by unfold clo; rw [hv]; simp; omega
        have hje : j = e := by omega
        have hgt : ¬ ((e : Nat) : Int) < (j : Int) := by omega
        have e3 := Zkw hs (by omega) he
        rw [hb] at e3
        refine ⟨Z', ?_, km⟩
        rw [if_neg (by rw [hc]; exact Bool.false_ne_true)]
        simp [Wn, runF, Ub, eMeth, m1, m2, m3, m5, e1, e2', hgt, e3, eFld, fl, hnj, em]
    · have hc : clo u = false := by unfold clo; rw [hv]; simp [h35]
      refine ⟨Z', ?_, km⟩
      rw [if_neg (by rw [hc]; exact Bool.false_ne_true)]
      simp [Wn, runF, Ub, eMeth, m1, m2, m5, e1, e2', h35, hc10, eFld, fl, hnj, em]
end
end Ap
set_option maxHeartbeats 8000000
namespace Ap
open PySem PySem.Spec PyProof.Rows L2 SX Fx
def Ext (Z Z' : Sto) : Prop := ∃ Y, Z' = Z ++ Y
theorem Ext.refl (Z : Sto) : Ext Z Z := ⟨[],(List.append_nil _).symm⟩
theorem Ext.app {Z Z' : Sto} (h : Ext Z Z') (Y : Sto) : Ext Z (Z' ++ Y) := by
  obtain ⟨X,rfl⟩ := h
  exact ⟨X ++ Y,List.append_assoc _ _ _⟩
theorem Ext.trans {Z Z1 Z2 : Sto} (h : Ext Z Z1) (h2 : Ext Z1 Z2) : Ext Z Z2 := by
  obtain ⟨X,rfl⟩ := h2
  exact h.app X
theorem Ext.set {Z Z' : Sto} (h : Ext Z Z') {i : Nat} {o : O} (hi : Z.length ≤ i) : Ext Z (Z'.set i o) := by
  obtain ⟨X,rfl⟩ := h
  exact ⟨X.set (i - Z.length) o,List.set_append_right _ _ hi⟩
theorem Ext.len {Z Z' : Sto} (h : Ext Z Z') : Z.length ≤ Z'.length := by
  obtain ⟨X,rfl⟩ := h
  rw [List.length_append]; omega
theorem Ext.getL {Z Z' : Sto} (h : Ext Z Z') {i : Nat} {ts : List Fx.T} (e : Fx.getL Z i = some ts) : Fx.getL Z' i = some ts := by
  obtain ⟨X,rfl⟩ := h
  exact Ue e
def pcF (si : Nat) (n : Int) (r : Nat) (e d : Int) (c : List Nat) (en : Int) : List (String × Fx.T) := [("source", .loc si), ("start", .int 1), ("n", .int n), ("rows", .loc r), ("empties", .int e), ("digit", .int d), ("chomp", .str c), ("end", .int en)]
structure PS (Z0 Z : Sto) (p si r : Nat) (s : List Nat) (n : Int) (rows : List Fx.T) (e d : Int) (c : List Nat) (en : Int) : Prop where
  src : Src Z si s
  pc : getI Z p = some ("Piece", pcF si n r e d c en)
  rw : getL Z r = some rows
  ext : Ext Z0 Z
  hs : Z0.length ≤ si
  hp : Z0.length ≤ p
  hr : Z0.length ≤ r
section
variable {Z0 Z Z' : Sto} {p si r : Nat} {s : List Nat} {n : Int} {rows : List Fx.T} {e d : Int} {c : List Nat} {en : Int}
theorem Xm {Z : Sto} {i : Nat} {C : String} {fs : List (String × Fx.T)} : getI Z i = some (C,fs) ↔ Z[i]? = some (.ins C fs) := by
  constructor
  · exact Zcu
  · intro h; unfold getI; rw [h]
theorem PS.p_si (h : PS Z0 Z p si r s n rows e d c en) : p ≠ si := fun q => by
  obtain ⟨f,h1⟩ := h.src
  have h2 := h.pc
  rw [q,h1] at h2
  simp at h2
theorem PS.r_p (h : PS Z0 Z p si r s n rows e d c en) : r ≠ p := fun q => by
  have h1 := Ys.mp h.rw
  have h2 := Xm.mp h.pc
  rw [q,h2] at h1
  cases h1
theorem PS.r_si (h : PS Z0 Z p si r s n rows e d c en) : r ≠ si := fun q => by
  obtain ⟨f,h3⟩ := h.src
  have h1 := Ys.mp h.rw
  have h2 := Xm.mp h3
  rw [q,h2] at h1
  cases h1
theorem PS.sk (h : PS Z0 Z p si r s n rows e d c en) (k : SK si s Z Z') : PS Z0 Z' p si r s n rows e d c en := by
  refine ⟨SK.src h.src k,?_,?_,?_,h.hs,h.hp,h.hr⟩
  · rw [Xm,k.at h.p_si]; exact Xm.mp h.pc
  · rw [Ys,k.at h.r_si]; exact Ys.mp h.rw
  · obtain ⟨f,rfl⟩ := k
    exact h.ext.set h.hs
theorem PS.put (h : PS Z0 Z p si r s n rows e d c en) (e' d' : Int) (c' : List Nat) (en' : Int) : PS Z0 (Z.set p (.ins "Piece" (pcF si n r e' d' c' en'))) p si r s n rows e' d' c' en' := by
  have hlt : p < Z.length := (List.getElem?_eq_some_iff.mp (Xm.mp h.pc)).1
  refine ⟨?_,?_,?_,h.ext.set h.hp,h.hs,h.hp,h.hr⟩
  · obtain ⟨f,h1⟩ := h.src
    exact ⟨f,by rw [Xm,List.getElem?_set_ne h.p_si]; exact Xm.mp h1⟩
  · rw [Xm,List.getElem?_set_self hlt]
  · rw [Ys,List.getElem?_set_ne h.r_p.symm]; exact Ys.mp h.rw
theorem PS.row (h : PS Z0 Z p si r s n rows e d c en) (rows' : List Fx.T) : PS Z0 (Z.set r (.lst rows')) p si r s n rows' e d c en := by
  have hlt : r < Z.length := (List.getElem?_eq_some_iff.mp (Ys.mp h.rw)).1
  refine ⟨?_,?_,?_,h.ext.set h.hr,h.hs,h.hp,h.hr⟩
  · obtain ⟨f,h1⟩ := h.src
    exact ⟨f,by rw [Xm,List.getElem?_set_ne h.r_si]; exact Xm.mp h1⟩
  · rw [Xm,List.getElem?_set_ne h.r_p]; exact Xm.mp h.pc
  · rw [Ys,List.getElem?_set_self hlt]
theorem PS.app (h : PS Z0 Z p si r s n rows e d c en) (Y : Sto) : PS Z0 (Z ++ Y) p si r s n rows e d c en := by
  have l1 : p < Z.length := (List.getElem?_eq_some_iff.mp (Xm.mp h.pc)).1
  refine ⟨?_,?_,Ue h.rw,h.ext.app Y,h.hs,h.hp,h.hr⟩
  · obtain ⟨f,h1⟩ := h.src
    exact ⟨f,by rw [Xm,List.getElem?_append_left h.src.lt]; exact Xm.mp h1⟩
  · rw [Xm,List.getElem?_append_left l1]; exact Xm.mp h.pc
theorem PS.f_source (h : PS Z0 Z p si r s n rows e d c en) : fldT ["Piece"] "source" (.loc p) Z = some (.loc si) := by simp [fldT, h.pc, pcF, List.lookup_cons]
theorem PS.f_n (h : PS Z0 Z p si r s n rows e d c en) : fldT ["Piece"] "n" (.loc p) Z = some (.int n) := by simp [fldT, h.pc, pcF, List.lookup_cons]
theorem PS.f_rows (h : PS Z0 Z p si r s n rows e d c en) : fldT ["Piece"] "rows" (.loc p) Z = some (.loc r) := by simp [fldT, h.pc, pcF, List.lookup_cons]
theorem PS.f_emp (h : PS Z0 Z p si r s n rows e d c en) : fldT ["Piece"] "empties" (.loc p) Z = some (.int e) := by simp [fldT, h.pc, pcF, List.lookup_cons]
theorem PS.f_digit (h : PS Z0 Z p si r s n rows e d c en) : fldT ["Piece"] "digit" (.loc p) Z = some (.int d) := by simp [fldT, h.pc, pcF, List.lookup_cons]
theorem PS.f_chomp (h : PS Z0 Z p si r s n rows e d c en) : fldT ["Piece"] "chomp" (.loc p) Z = some (.str c) := by simp [fldT, h.pc, pcF, List.lookup_cons]
theorem PS.f_end (h : PS Z0 Z p si r s n rows e d c en) : fldT ["Piece"] "end" (.loc p) Z = some (.int en) := by simp [fldT, h.pc, pcF, List.lookup_cons]
theorem PS.s_emp (h : PS Z0 Z p si r s n rows e d c en) (x : Int) : setF ["Piece"] "empties" (.loc p) (.int x) Z = some (Z.set p (.ins "Piece" (pcF si n r x d c en))) := by simp [setF, h.pc, pcF, putS]
theorem PS.s_digit (h : PS Z0 Z p si r s n rows e d c en) (x : Int) : setF ["Piece"] "digit" (.loc p) (.int x) Z = some (Z.set p (.ins "Piece" (pcF si n r e x c en))) := by simp [setF, h.pc, pcF, putS]
theorem PS.s_chomp (h : PS Z0 Z p si r s n rows e d c en) (x : List Nat) : setF ["Piece"] "chomp" (.loc p) (.str x) Z = some (Z.set p (.ins "Piece" (pcF si n r e d x en))) := by simp [setF, h.pc, pcF, putS]
theorem PS.s_end (h : PS Z0 Z p si r s n rows e d c en) (x : Int) : setF ["Piece"] "end" (.loc p) (.int x) Z = some (Z.set p (.ins "Piece" (pcF si n r e d c x))) := by simp [setF, h.pc, pcF, putS]
theorem PS.ins (h : PS Z0 Z p si r s n rows e d c en) : insC (.loc p) Z = some "Piece" := by simp [insC, h.pc]
theorem PS.me (h : PS Z0 Z p si r s n rows e d c en) {m : String} (hm : (pcF si n r e d c en).lookup m = none) (k : Nat → Fx.R Fx.T) : methK "Piece" m (.loc p) Z k = k p := by
  simp [methK,h.pc,hm]
def hst (told : Bool) (d : Int) (c u : List Nat) : Bool × Int × List Nat × List Nat := match u with
  | [] => (told,d,c,[])
  | x :: v => if 49 ≤ x ∧ x ≤ 57 ∧ told = false then (true,(x : Int) - 48,c,v) else if (x = 43 ∨ x = 45) ∧ c = [] then (told,d,[x],v) else (told,d,c,x :: v)
theorem Z7r (told : Bool) (d : Int) (c v : List Nat) (x : Nat) : hst told d c (x :: v) = if 49 ≤ x ∧ x ≤ 57 ∧ told = false then (true,(x : Int) - 48,c,v) else if (x = 43 ∨ x = 45) ∧ c = [] then (told,d,[x],v) else (told,d,c,x :: v) := rfl
theorem Zhu {x : Nat} (hx : ¬ (49 ≤ x ∧ x ≤ 57)) {a b o : Option Fx.T} {Z : Sto} : eBl (eChain gLeW gLeW (eC (.str [49])) (eVar 3) (eC (.str [57]))) [a,b,o,some (.str [x])] Z = .ok false Z := by
  have k1 : gLeW (.str [49]) (.str [x]) Z = some (.bl (!decide (([x] : List Nat) < [49])),Z) := rfl
  have k2 : gLeW (.str [x]) (.str [57]) Z = some (.bl (!decide (([57] : List Nat) < [x])),Z) := rfl
  by_cases h1 : x < 49
  · rw [decide_eq_true (show ([x] : List Nat) < [49] by simpa [List.cons_lt_cons_iff] using h1)] at k1
    simp [k1]
  · have h2 : 57 < x := by omega
    rw [decide_eq_false (show ¬ ([x] : List Nat) < [49] by simpa [List.cons_lt_cons_iff] using h1)] at k1
    rw [decide_eq_true (show ([57] : List Nat) < [x] by simpa [List.cons_lt_cons_iff] using h2)] at k2
    simp [k1,k2]
theorem lt1 (x y : Nat) : (([x] : List Nat) < [y]) ↔ x < y := by simp [List.cons_lt_cons_iff]
theorem itx {x : Nat} (h1 : 49 ≤ x) (h2 : x ≤ 57) : PySem.intText? (S [x]) = some ((x : Int) - 48) := by
  have key : ∀ y : Nat,y < 58 → 49 ≤ y → PySem.intText? (S [y]) = some ((y : Int) - 48) := by decide +kernel
  exact key x (by omega) h1
theorem int1 {x : Nat} (h1 : 49 ≤ x) (h2 : x ≤ 57) (Z : Sto) : gIntT [.str [x]] Z = some (.int ((x : Int) - 48),Z) := by
  have : x = 49 ∨ x = 50 ∨ x = 51 ∨ x = 52 ∨ x = 53 ∨ x = 54 ∨ x = 55 ∨ x = 56 ∨ x = 57 := by omega
  have key : ∀ y : Nat,y < 58 → 49 ≤ y → PySem.intText? (S [y]) = some ((y : Int) - 48) := by decide +kernel
  show (if ([x] : List Nat).all (· < 128) = true ∧ ([x] : List Nat).length ≤ 100000 then (PySem.intText? (S [x])).map fun n => (Fx.T.int n,Z) else none) = _
  rw [if_pos ⟨by simp; omega,by simp⟩,key x (by omega) h1]; rfl
theorem Zq0 (x : Nat) (Z : Sto) : gInW (.str [x]) (.str [43,45]) Z = some (.bl (decide (x = 43) || decide (x = 45)),Z) := by
  have : gInB (.str [x]) (.str [43,45]) Z = some (decide (x = 43) || decide (x = 45)) := by
    simp [gInB]
  rw [Zb4]
  unfold gIn
  rw [this]; rfl
theorem Zfx (hl : s.length ≤ Lim) (h : PS Z0 Z p si r s n rows e d c en) {q : Nat} (hq : en = (q : Int)) {u r0 : List Nat} (hd : s.drop q = u ++ 10 :: r0) (told : Bool) (o2 o3 : Option Fx.T) :
    ∃ o3' Z' q', Yh [some (.loc p), some (.bl told), o2, o3] Z = .nx [some (.loc p), some (.bl (hst told d c u).1), o2, o3'] Z' ∧ PS Z0 Z' p si r s n rows e (hst told d c u).2.1 (hst told d c u).2.2.1 ((q' : Nat) : Int) ∧ s.drop q' = (hst told d c u).2.2.2 ++ 10 :: r0 ∧ q' + (hst told d c u).2.2.2.length = q + u.length := by
  subst hq
  have e1 := f_at h.src hl q
  have m1 := Ws h.src (m := "at") (by decide)
  have fs := h.f_source
  have fe := h.f_end
  have fc := h.f_chomp
  rw [hd] at e1
  cases u with
  | nil =>
    refine ⟨some (.str [10]),Z,q,?_,h,hd,rfl⟩
    have pm := Zq0 10 Z
    have hpm : (decide (10 = 43) || decide (10 = 45)) = false := by decide
    rw [hpm] at pm
    have ct := Zhu (x := 10) (by omega) (a := some (.loc p)) (b := some (.bl told)) (o := o2) (Z := Z)
    unfold Yh
    generalize eBl (eChain gLeW gLeW (eC (.str [49])) (eVar 3) (eC (.str [57]))) = CT at *
    simp [-Zb4,eFld,fs,fe,eMeth,m1,e1,ct,pm,hst]
  | cons x v =>
    have e1' : Zw [.loc si, .int (q : Int)] Z = .ok (.str [x]) Z := e1
    have hd2 : s.drop (q + 1) = v ++ 10 :: r0 := by rw [← List.drop_drop,hd]; rfl
    have hc1 : ((q + 1 : Nat) : Int) = (q : Int) + 1 := by omega
    have pm := Zq0 x Z
    by_cases hx : 49 ≤ x ∧ x ≤ 57
    · have l1 : ¬ (([x] : List Nat) < [49]) := by rw [lt1]; omega
      have l2 : ¬ (([57] : List Nat) < [x]) := by rw [lt1]; omega
      have hi := int1 hx.1 hx.2 Z
      cases told with
      | false =>
        have hh : hst false d c (x :: v) = (true,(x : Int) - 48,c,v) := by rw [Z7r,if_pos ⟨hx.1,hx.2,rfl⟩]
        rw [hh]
        have h2 := h.put e ((x : Int) - 48) c (q : Int)
        have h3 := h2.put e ((x : Int) - 48) c ((q : Int) + 1)
        have s1 := h.s_digit ((x : Int) - 48)
        have s2 := h2.s_end ((q : Int) + 1)
        have f2 := h2.f_end
        have i2 := h2.ins
        refine ⟨some (.str [x]),_,q + 1,?_,by rw [hc1]; exact h3,hd2,by simp; omega⟩
        generalize Z.set p (.ins "Piece" (pcF si n r e ((x : Int) - 48) c (q : Int))) = Z2 at *
        have h128 : x < 128 := by omega
        have hix := itx hx.1 hx.2
        simp [h128, hix, Yh, eFld, fs, fe, eMeth, m1, e1', gLeW, l1, l2, hi, gFld, s1, sFldA, f2, i2, s2]
      | true =>
        have hne : ¬ ((x = 43 ∨ x = 45) ∧ c = []) := by omega
        have hh : hst true d c (x :: v) = (true,d,c,x :: v) := by rw [Z7r,if_neg (by simp),if_neg hne]
        rw [hh]
        have hpm : (decide (x = 43) || decide (x = 45)) = false := by simp; omega
        rw [hpm] at pm
        refine ⟨some (.str [x]),Z,q,?_,h,hd,rfl⟩
        simp [-Zb4, Yh, eFld, fs, fe, eMeth, m1, e1', gLeW, l1, l2, pm]
    · have hno : ¬ (49 ≤ x ∧ x ≤ 57 ∧ told = false) := fun hh => hx ⟨hh.1,hh.2.1⟩
      have ct := Zhu hx (a := some (.loc p)) (b := some (.bl told)) (o := o2) (Z := Z)
      by_cases hp : (x = 43 ∨ x = 45) ∧ c = []
      · obtain ⟨hpx,rfl⟩ := hp
        have hh : hst told d [] (x :: v) = (told,d,[x],v) := by rw [Z7r,if_neg hno,if_pos ⟨hpx,rfl⟩]
        rw [hh]
        have hpm : (decide (x = 43) || decide (x = 45)) = true := by simpa using hpx
        rw [hpm] at pm
        have h2 := h.put e d [x] (q : Int)
        have h3 := h2.put e d [x] ((q : Int) + 1)
        have s1 := h.s_chomp [x]
        have s2 := h2.s_end ((q : Int) + 1)
        have f2 := h2.f_end
        have i2 := h2.ins
        refine ⟨some (.str [x]),_,q + 1,?_,by rw [hc1]; exact h3,hd2,by simp; omega⟩
        generalize Z.set p (.ins "Piece" (pcF si n r e d [x] (q : Int))) = Z2 at *
        unfold Yh
        generalize eBl (eChain gLeW gLeW (eC (.str [49])) (eVar 3) (eC (.str [57]))) = CT at *
        simp [-Zb4, eFld, fs, fe, fc, eMeth, m1, e1', ct, pm, sFldS, s1, sFldA, f2, i2, s2]
      · have hh : hst told d c (x :: v) = (told,d,c,x :: v) := by rw [Z7r,if_neg hno,if_neg hp]
        rw [hh]
        refine ⟨some (.str [x]),Z,q,?_,h,hd,rfl⟩
        by_cases hpx : x = 43 ∨ x = 45
        · have hcn : c ≠ [] := fun hh => hp ⟨hpx,hh⟩
          have hpm : (decide (x = 43) || decide (x = 45)) = true := by simpa using hpx
          rw [hpm] at pm
          unfold Yh
          generalize eBl (eChain gLeW gLeW (eC (.str [49])) (eVar 3) (eC (.str [57]))) = CT at *
          simp [-Zb4, eFld, fs, fe, fc, eMeth, m1, e1', ct, pm, hcn]
        · have hpm : (decide (x = 43) || decide (x = 45)) = false := by simpa using hpx
          rw [hpm] at pm
          unfold Yh
          generalize eBl (eChain gLeW gLeW (eC (.str [49])) (eVar 3) (eC (.str [57]))) = CT at *
          simp [-Zb4, eFld, fs, fe, fc, eMeth, m1, e1', ct, pm]
end
end Ap
set_option maxHeartbeats 8000000
namespace Ap
open PySem PySem.Spec PyProof.Rows L2 SX Fx
def hdr (u : List Nat) : Bool × Int × List Nat × List Nat := hst (hst false 0 [] u).1 (hst false 0 [] u).2.1 (hst false 0 [] u).2.2.1 (hst false 0 [] u).2.2.2
theorem Zky (told : Bool) (d : Int) (c u : List Nat) : ∃ k,(hst told d c u).2.2.2 = u.drop k := by
  cases u with
  | nil => exact ⟨0,rfl⟩
  | cons x v =>
    rw [Z7r]
    split
    · exact ⟨1,rfl⟩
    · split
      · exact ⟨1,rfl⟩
      · exact ⟨0,rfl⟩
section
variable {Z0 Z Z' : Sto} {p si r : Nat} {s : List Nat} {n : Int} {rows : List Fx.T} {e d : Int} {c : List Nat} {en : Int}
theorem Zmg (hl : s.length < Lim) (h : PS Z0 Z p si r s n rows e 0 [] 2) {u0 r0 : List Nat} (hd : s.drop 2 = u0 ++ 10 :: r0) (h10 : 10 ∉ u0) (hno : ∀ j < 2 + u0.length,s[j]? ≠ some 10) :
    ∃ Z' en', Us [.loc p] Z = .ok (if clo (hdr u0).2.2.2 = true then .int ((2 + u0.length + 1 : Nat) : Int) else .non) Z' ∧ PS Z0 Z' p si r s n rows e (hdr u0).2.1 (hdr u0).2.2.1 en' := by
  obtain ⟨o3,Z1,q1,e1,h1,d1,l1⟩ := Zfx (by omega) h (q := 2) rfl hd false (some (.int 0)) none
  obtain ⟨k1,hk1⟩ := Zky false 0 [] u0
  obtain ⟨o3', Z2, q2, e2, h2, d2, l2⟩ := Zfx (by omega) h1 (q := q1) rfl d1 (hst false 0 [] u0).1 (some (.int 1)) o3
  obtain ⟨k2,hk2⟩ := Zky (hst false 0 [] u0).1 (hst false 0 [] u0).2.1 (hst false 0 [] u0).2.2.1 (hst false 0 [] u0).2.2.2
  have h10' : 10 ∉ (hdr u0).2.2.2 := by
    unfold hdr
    rw [hk2,hk1]
    exact fun hm => h10 (List.mem_of_mem_drop (List.mem_of_mem_drop hm))
  change PS Z0 Z2 p si r s n rows e (hdr u0).2.1 (hdr u0).2.2.1 ((q2 : Nat) : Int) at h2
  change s.drop q2 = (hdr u0).2.2.2 ++ 10 :: r0 at d2
  change q2 + (hdr u0).2.2.2.length = q1 + (hst false 0 [] u0).2.2.2.length at l2
  have hlen : s.length = 2 + u0.length + 1 + r0.length := by
    have h1 := congrArg List.length hd
    rw [List.length_drop] at h1
    simp at h1
    omega
  have hq1 : (hst false 0 [] u0).2.2.2.length ≤ u0.length := by rw [hk1,List.length_drop]; omega
  have hq2 : (hdr u0).2.2.2.length ≤ (hst false 0 [] u0).2.2.2.length := by unfold hdr; rw [hk2,List.length_drop]; omega
  have hbeg : Beg s q2 = false := by
    unfold Beg
    rw [decide_eq_false (by omega),decide_eq_false (hno (q2 - 1) (by omega))]; rfl
  obtain ⟨Z3, e3, k3⟩ := Zoe h2.src hl (by omega) d2 h10' hbeg
  have hfin : q2 + (hdr u0).2.2.2.length + 1 = 2 + u0.length + 1 := by omega
  rw [hfin] at e3
  refine ⟨Z3,((q2 : Nat) : Int),?_,h2.sk k3⟩
  have fs := h2.f_source
  have fe := h2.f_end
  have m1 := Ws h2.src (m := "close") (by decide)
  have i0 : itRng 0 2 0 Z = some (some (.int 0)) := rfl
  have i1 : itRng 0 2 1 Z1 = some (some (.int 1)) := rfl
  have i2 : itRng 0 2 2 Z2 = some none := rfl
  have lp : loopN (itRng 0 2) (fun t ρ' Z' => bS ρ' (gNm 2 t ρ' Z') Yh) Fuel 0 [some (.loc p), some (.bl false), none, none] Z = .nx [some (.loc p), some (.bl (hdr u0).1), some (.int 1), o3'] Z2 := by
    obtain ⟨m,hm⟩ : ∃ m,Fuel = m + 1 + 1 + 1 := ⟨Lim - 1,by rw [Jv]; unfold Lim; rfl⟩
    rw [hm, Z7q (ρ' := [some (.loc p), some (.bl (hst false 0 [] u0).1), some (.int 0), o3]) (Z' := Z1) i0 (by simpa using e1), Z7q (ρ' := [some (.loc p), some (.bl (hdr u0).1), some (.int 1), o3']) (Z' := Z2) i1 (by unfold hdr; simpa using e2), Z4h i2]
  simp only [Zk2,Z6m] at lp
  have r3 : ∀ Z,rngOf [.int 2] Z = .ok (itRng 0 2) Z := fun Z => rngN (n := 2) (by decide)
  have hB : Z0o [some (.loc p),none,none,none] Z = .rt (if clo (hdr u0).2.2.2 = true then .int ((2 + u0.length + 1 : Nat) : Int) else .non) Z3 := by
    refine Zx (ρ' := [some (.loc p), some (.bl false), none, none]) (Z' := Z) (by simp) (Zx (ρ' := [some (.loc p), some (.bl (hdr u0).1), some (.int 1), o3']) (Z' := Z2) ?_ ?_)
    · simp only [Zd9] at *
      simp [r3,lp]
    · generalize (if clo (hdr u0).2.2.2 = true then Fx.T.int ((2 + u0.length + 1 : Nat) : Int) else .non) = RES at *
      simp [eFld,fs,fe,eMeth,m1,e3]
  exact Ut (n := 4) (as := [.loc p]) hB
def indL (n : Int) : Int → List (List Nat) → Option Int
  | L,[] => some (max (n + 1) L)
  | L,l :: ls => if bl l = l.length then indL n (max L (l.length : Int)) ls else if (bl l : Int) ≤ n ∨ isM l = true then some (max (n + 1) L) else if L ≤ (bl l : Int) then some (bl l : Int) else none
def optI : Option Int → Fx.T
  | some i => .int i
  | none => .non
theorem Zof (hs : Src Z si s) (hl : s.length ≤ Lim) {i : Nat} {l : List Nat} {ls : List (List Nat)} (h : At s i (l :: ls)) : Zw [.loc si,.int ((i + bl l : Nat) : Int)] Z = .ok (.str (if bl l = l.length then [10] else (l.drop (bl l)).take 1)) Z := by
  have e := f_at hs hl (i + bl l)
  have hb := Zkt l
  have hd : s.drop (i + bl l) = l.drop (bl l) ++ 10 :: ls.flatMap (fun l => l ++ [10]) := by
    rw [← List.drop_drop,h.line,List.drop_append_of_le_length hb]
  rw [hd] at e
  rw [e]
  split
  · rename_i he
    rw [he,List.drop_length]; rfl
  · rename_i he
    have : (l.drop (bl l)).length ≠ 0 := by rw [List.length_drop]; omega
    cases hv : l.drop (bl l) with
    | nil => rw [hv] at this; exact absurd rfl this
    | cons a b => rfl
theorem Zhv (hl : s.length < Lim) (h : PS Z0 Z p si r s n rows e d c en) : ∀ (ls : List (List Nat)) (i k : Nat) (L : Int) (o3 : Option Fx.T),At s i ls → ls.length < k → 0 ≤ L →
    ∃ ls' i' L', loopW (eTru (eC (.bl true))) X8 k [some (.loc p), some (.int (i : Int)), some (.int L), o3] Z = .nx [some (.loc p), some (.int ((i' : Nat) : Int)), some (.int L'), some (.int ((i' + bl (s.drop i') : Nat) : Int))] Z ∧ At s i' ls' ∧ indL n L ls = indL n L' ls' ∧ 0 ≤ L' ∧ ∀ l t, ls' = l :: t → bl l < l.length
  | ls,i,k + 1,L,o3,ha,hk,hL => by
    have e1 := f_pb h.src hl i
    have fs := h.f_source
    have m1 := Ws h.src (m := "past_blanks") (by decide)
    have m2 := Ws h.src (m := "at") (by decide)
    cases ls with
    | nil =>
      have hi := ha.end_
      have hz : s.drop i = [] := by rw [hi]; exact List.drop_length
      have e2 := f_at h.src (by omega) i
      refine ⟨[],i,L,?_,ha,rfl,hL,fun l t hh => by cases hh⟩
      rw [hz] at e1 e2 ⊢
      have hb0 : bl [] = 0 := rfl
      rw [hb0,Nat.add_zero] at e1 ⊢
      unfold loopW
      simp [X8,eFld,fs,eMeth,m1,m2,e1,e2]
    | cons l t =>
      have hb := ha.bl
      have e2 := Zof h.src (by omega) ha
      rw [hb] at e1
      by_cases he : bl l = l.length
      · rw [if_pos he] at e2
        have hnx := ha.next
        obtain ⟨ls', i', L', e3, ha', hi', hL', hq⟩ := Zhv hl h t (i + l.length + 1) k (max L (l.length : Int)) (some (.int ((i + bl l : Nat) : Int))) hnx (by simp at hk; omega) (by omega)
        refine ⟨ls', i', L', ?_, ha', ?_, hL', hq⟩
        · rw [← e3]
          conv => lhs; unfold loopW
          have hx : ((i + bl l : Nat) : Int) - (i : Int) = (l.length : Int) := by omega
          have hy : ((i + l.length + 1 : Nat) : Int) = ((i + bl l : Nat) : Int) + 1 := by omega
          have hmx : (if L < (l.length : Int) then (l.length : Int) else L) = max L (l.length : Int) := by
            split <;> omega
          rw [hy]
          generalize ((i + bl l : Nat) : Int) = w at *
          simp [X8,eFld,fs,eMeth,m1,m2,e1,e2,hx,hmx]
        · rw [← hi']
          show (if bl l = l.length then _ else _) = _
          rw [if_pos he]
      · rw [if_neg he] at e2
        have hble := Zkt l
        refine ⟨l :: t, i, L, ?_, ha, rfl, hL, fun l' t' hh => by cases hh; omega⟩
        have hne : (l.drop (bl l)).take 1 ≠ [10] := by
          intro hh
          have : 10 ∈ l.drop (bl l) := List.mem_of_mem_take (by rw [hh]; simp)
          exact ha.l10 (List.mem_of_mem_drop this)
        rw [hb]
        unfold loopW
        generalize ((i + bl l : Nat) : Int) = w at *
        generalize (l.drop (bl l)).take 1 = x at *
        simp [X8,eFld,fs,eMeth,m1,m2,e1,e2,hne]
end
end Ap
set_option maxHeartbeats 8000000
namespace Ap
open PySem PySem.Spec PyProof.Rows L2 SX Fx
def ind (n d : Int) (ls : List (List Nat)) : Option Int := if 0 < d then some (n + d) else indL n 0 ls
section
variable {Z0 Z Z' : Sto} {p si r : Nat} {s : List Nat} {n : Int} {rows : List Fx.T} {e d : Int} {c : List Nat} {en : Int}
theorem Zgu {ft : FT} {b : FS} {ρ : Fx.Env} {Z Z1 : Sto} (h : ft ρ Z = .ok false Z1) : sIf ft b sPass ρ Z = .nx ρ Z1 := by simp [h]
theorem Zq1 {ft : FT} {b g : FS} {ρ : Fx.Env} {Z Z1 : Sto} {r : RS} (h : ft ρ Z = .ok true Z1) (h2 : b ρ Z1 = r) : sIf ft b g ρ Z = r := by simp [h,h2]
theorem Zmh (hl : s.length < Lim) (h : PS Z0 Z p si r s n rows e d c en) {i : Nat} {ls : List (List Nat)} (ha : At s i ls) : ∃ Z', X7 [.loc p, .int (i : Int)] Z = .ok (optI (ind n d ls)) Z' ∧ SK si s Z Z' := by
  have fd := h.f_digit
  have fn := h.f_n
  have fs := h.f_source
  unfold ind
  by_cases hd : 0 < d
  · rw [if_pos hd]
    refine ⟨Z,?_,SK.refl h.src⟩
    simp [X7,runF,Z0p,eFld,fd,fn,hd,optI]
  rw [if_neg hd]
  have lls : ls.length < Lim := by
    have h1 := congrArg List.length ha.rest
    rw [List.length_drop] at h1
    have h2 : ∀ l : List (List Nat),l.length ≤ (l.flatMap fun l => l ++ [10]).length := fun l => by
      induction l with
      | nil => exact Nat.zero_le _
      | cons a l ih => rw [List.flatMap_cons,List.length_append,List.length_append,List.length_cons,List.length_singleton]; omega
    have := h2 ls
    omega
  obtain ⟨ls', i', L', e1, ha', hi, hL, hq⟩ := Zhv hl h ls i Lim 0 none ha lls (Int.le_refl _)
  rw [hi]
  obtain ⟨j, hj⟩ : ∃ j, j = i' + bl (s.drop i') := ⟨_, rfl⟩
  rw [← hj] at e1
  obtain ⟨Z1,e2,k1⟩ := Zap h.src ((j : Nat) : Int)
  have h1 := h.sk k1
  have m5 := Ws h.src (m := "miss") (by decide)
  have fs1 := h1.f_source
  have fn1 := h1.f_n
  have fl1 := Zao h1.src
  have w : sWhile Lim (eTru (eC (.bl true))) X8 [some (.loc p), some (.int (i : Int)), some (.int 0), none] Z = .nx [some (.loc p), some (.int (i' : Int)), some (.int L'), some (.int (j : Int))] Z := e1
  suffices H : ∀ (t : Fx.T) (Z2 : Sto), bCons (sIf (eBl (eBin gEq (eVar 3) (eFld ["Source"] "length" (eFld ["Piece"] "source" (eVar 0)))))
      (sRet (eCallB gMax3 (aCons (eBin gAdd (eFld ["Piece"] "n" (eVar 0)) (eC (.int 1))) (aCons (eVar 2) (aCons (eBin gSub (eVar 3) (eVar 1)) aNil)))))
      sPass)
    (bCons (sIf (Fx.tOr (eBl (eBin gLeW (eBin gSub (eVar 3) (eVar 1)) (eFld ["Piece"] "n" (eVar 0)))) (eTru (eMeth "Source" "is_barred" Zy [] (eFld ["Piece"] "source" (eVar 0)) (aCons (eVar 1) aNil))))
      (sRet (eCallB gMax (aCons (eBin gAdd (eFld ["Piece"] "n" (eVar 0)) (eC (.int 1))) (aCons (eVar 2) aNil))))
      sPass)
    (bCons (sIf (eBl (eBin gLeW (eVar 2) (eBin gSub (eVar 3) (eVar 1))))
      (sRet (eBin gSub (eVar 3) (eVar 1)))
      sPass)
    (bCons (sIf (eBl (eBin gEq (eVar 3) (eVar 1)))
      (bCons (sDrop (eMeth "Source" "expected_mark" X3 [] (eFld ["Piece"] "source" (eVar 0)) (aCons (eVar 1) (aCons (eC (.str [45,45,45])) aNil))))
      (sDrop (eMeth "Source" "expected_mark" X3 [] (eFld ["Piece"] "source" (eVar 0)) (aCons (eVar 1) (aCons (eC (.str [46,46,46])) aNil)))))
      sPass)
    (sRet (eC .non))))) [some (.loc p), some (.int (i' : Int)), some (.int L'), some (.int (j : Int))] Z1 = .rt t Z2 → SK si s Z1 Z2 → X7 [.loc p, .int (i : Int)] Z = .ok t Z2 ∧ SK si s Z Z2 by
    cases ls' with
    | nil =>
      have hie := ha'.end_
      have hz : s.drop i' = [] := by rw [hie]; exact List.drop_length
      have hji : (j : Int) = (i' : Int) := by rw [hj, hz]; simp [bl]
      have hjl : (j : Int) = (s.length : Int) := by omega
      have hm : max (max (n + 1) L') ((j : Int) - (i' : Int)) = max (n + 1) L' := by omega
      obtain ⟨a, b⟩ := H (optI (indL n L' [])) Z1 (b_rt (by
        show _ = RS.rt (.int (max (n + 1) L')) Z1
        simp [eFld,fs1,fl1,fn1,hjl]
        omega)) (SK.refl h1.src)
      exact ⟨Z1,a,b⟩
    | cons l t =>
      have hbl := hq l t rfl
      have hjb : (j : Int) = (i' : Int) + (bl l : Int) := by rw [hj, ha'.bl]; omega
      have hlt := ha'.lt
      have hjl : ¬ (j : Int) = (s.length : Int) := by omega
      have hsub : (j : Int) - (i' : Int) = (bl l : Int) := by omega
      have hne : ¬ bl l = l.length := by omega
      have hind : indL n L' (l :: t) = if (bl l : Int) ≤ n ∨ isM l = true then some (max (n + 1) L') else if L' ≤ (bl l : Int) then some (bl l : Int) else none := by
        show (if bl l = l.length then _ else _) = _
        rw [if_neg hne]
      rw [hind]
      have mb := Ws h1.src (m := "is_barred") (by decide)
      obtain ⟨Z2, e3, k2⟩ := Zpz h1.src (by omega) ha'
      have h2 := h1.sk k2
      have fn2 := h2.f_n
      have fs2 := h2.f_source
      have t1 : ∀ b, sIf (eBl (eBin gEq (eVar 3) (eFld ["Source"] "length" (eFld ["Piece"] "source" (eVar 0))))) b sPass [some (.loc p), some (.int (i' : Int)), some (.int L'), some (.int (j : Int))] Z1 = .nx [some (.loc p), some (.int (i' : Int)), some (.int L'), some (.int (j : Int))] Z1 := fun b => Zgu (by simp [eFld, fs1, fl1, hjl])
      have hmx : (if n + 1 < L' then L' else n + 1) = max (n + 1) L' := by split <;> omega
      by_cases hn : (bl l : Int) ≤ n
      · rw [if_pos (.inl hn)]
        obtain ⟨a, b⟩ := H (.int (max (n + 1) L')) Z1 (Zx (t1 _) (b_rt (by
          simp [eFld,fn1,hsub,hn,hmx]))) (SK.refl h1.src)
        exact ⟨Z1,a,b⟩
      by_cases hm : isM l = true
      · rw [if_pos (.inr hm)]
        rw [hm] at e3
        obtain ⟨a, b⟩ := H (.int (max (n + 1) L')) Z2 (Zx (t1 _) (b_rt (by
          simp [eFld,fn1,fs1,hsub,hn,eMeth,mb,e3,fn2,hmx]))) k2
        exact ⟨Z2,a,b⟩
      rw [if_neg (fun hh => hh.elim hn hm)]
      have hm' : isM l = false := by simpa using hm
      rw [hm'] at e3
      have t2 : ∀ b, sIf (Fx.tOr (eBl (eBin gLeW (eBin gSub (eVar 3) (eVar 1)) (eFld ["Piece"] "n" (eVar 0)))) (eTru (eMeth "Source" "is_barred" Zy [] (eFld ["Piece"] "source" (eVar 0)) (aCons (eVar 1) aNil)))) b sPass [some (.loc p), some (.int (i' : Int)), some (.int L'), some (.int (j : Int))] Z1 = .nx [some (.loc p), some (.int (i' : Int)), some (.int L'), some (.int (j : Int))] Z2 := fun b => Zgu (by simp [eFld, fn1, fs1, hsub, hn, eMeth, mb, e3])
      by_cases hLb : L' ≤ (bl l : Int)
      · rw [if_pos hLb]
        obtain ⟨a,b⟩ := H (.int (bl l : Int)) Z2 (Zx (t1 _) (Zx (t2 _) (b_rt (by
          simp [hsub,hLb])))) k2
        exact ⟨Z2,a,b⟩
      · rw [if_neg hLb]
        have t3 : ∀ b, sIf (eBl (eBin gLeW (eVar 2) (eBin gSub (eVar 3) (eVar 1)))) b sPass [some (.loc p), some (.int (i' : Int)), some (.int L'), some (.int (j : Int))] Z2 = .nx [some (.loc p), some (.int (i' : Int)), some (.int L'), some (.int (j : Int))] Z2 := fun b => Zgu (by simp [hsub, hLb])
        by_cases hji : (j : Int) = (i' : Int)
        · obtain ⟨u1, Z3, e5, k3⟩ := Zht h2.src (by omega) ha' [45,45,45] (by decide)
          have h3 := h2.sk k3
          obtain ⟨u2, Z4, e6, k4⟩ := Zht h3.src (by omega) ha' [46,46,46] (by decide)
          have me2 := Ws h2.src (m := "expected_mark") (by decide)
          have me3 := Ws h3.src (m := "expected_mark") (by decide)
          have fs3 := h3.f_source
          obtain ⟨a, b⟩ := H .non Z4 (Zx (t1 _) (Zx (t2 _) (Zx (t3 _) (Zx (ρ' := [some (.loc p), some (.int (i' : Int)), some (.int L'), some (.int (j : Int))]) (Z' := Z4) (by
            simp [hji,eFld,fs2,fs3,eMeth,me2,me3,e5,e6]) rfl)))) (k2.trans (k3.trans k4))
          exact ⟨Z4,a,b⟩
        · obtain ⟨a, b⟩ := H .non Z2 (Zx (t1 _) (Zx (t2 _) (Zx (t3 _) (Zx (ρ' := [some (.loc p), some (.int (i' : Int)), some (.int L'), some (.int (j : Int))]) (Z' := Z2) (Zgu (by
            simp [hji])) rfl)))) k2
          exact ⟨Z2,a,b⟩
  intro t Z2 hb hk
  refine ⟨Ut (n := 4) (as := [.loc p,.int (i : Int)]) ?_,k1.trans hk⟩
  refine Zx (ρ' := [some (.loc p), some (.int (i : Int)), none, none]) (Z' := Z) (Zgu (by simp [eFld, fd, hd])) ?_
  refine Zx (ρ' := [some (.loc p), some (.int (i : Int)), some (.int 0), none]) (Z' := Z) (by simp) ?_
  refine Zx w (Zx (ρ' := [some (.loc p), some (.int (i' : Int)), some (.int L'), some (.int (j : Int))]) (Z' := Z1) (by simp [eFld, fs, eMeth, m5, e2]) hb)
end
end Ap
set_option maxHeartbeats 8000000
namespace Ap
open PySem PySem.Spec PyProof.Rows L2 SX Fx
def tkP (w : Nat) : List (List Nat) → List (Nat × List Nat) → Nat → Option (List (Nat × List Nat) × Nat)
  | [],rows,e => some (rows,e)
  | l :: ls,rows,e => if bl l = l.length ∧ bl l ≤ w then tkP w ls rows (e + 1) else if bl l < w ∨ (w = 0 ∧ isM l = true) then none else tkP w ls (rows ++ [(e,l.drop w)]) 0
def rowT (x : Nat × List Nat) : Fx.T := .tup [.int (x.1 : Int),.str x.2,.bl true]
section
variable {Z0 Z Z' : Sto} {p si r : Nat} {s : List Nat} {n : Int} {d : Int} {c : List Nat}
theorem Zgv {ft : FT} {b g : FS} {ρ : Fx.Env} {Z Z1 : Sto} (h : ft ρ Z = .ok false Z1) : sIf ft b g ρ Z = g ρ Z1 := by simp [h]
theorem Zaq (hl : s.length < Lim) (w : Nat) : ∀ (ls : List (List Nat)) (i k : Nat) (rows : List (Nat × List Nat)) (e : Nat) (en : Int) (o4 o5 o6 : Option Fx.T) (Z : Sto),PS Z0 Z p si r s n (rows.map rowT) (e : Int) d c en → At s i ls → ls.length < k → rows.length + ls.length < Lim →
    match tkP w ls rows e with
    | some (rows', e') => ∃ q4 q5 q6 en' Z', loopW (eBl (eBin gLt (eVar 1) (eFld ["Source"] "length" (eVar 3)))) Yv k [some (.loc p), some (.int (i : Int)), some (.int (w : Int)), some (.loc si), o4, o5, o6] Z = .nx [some (.loc p), some (.int (s.length : Int)), some (.int (w : Int)), some (.loc si), q4, q5, q6] Z' ∧ PS Z0 Z' p si r s n (rows'.map rowT) (e' : Int) d c en'
    | none => ∃ i' Z', loopW (eBl (eBin gLt (eVar 1) (eFld ["Source"] "length" (eVar 3)))) Yv k [some (.loc p), some (.int (i : Int)), some (.int (w : Int)), some (.loc si), o4, o5, o6] Z = .rt (.int i') Z' ∧ i' ≠ (s.length : Int) ∧ ∃ rs e' en', PS Z0 Z' p si r s n rs e' d c en'
  | [],i,k + 1,rows,e,en,o4,o5,o6,Z,h,ha,hk,hr => by
    have hi := ha.end_
    have fl := Zao h.src
    refine ⟨o4,o5,o6,en,Z,?_,h⟩
    subst hi
    unfold loopW
    simp [eFld,fl]
  | l :: ls,i,k + 1,rows,e,en,o4,o5,o6,Z,h,ha,hk,hr => by
    have fl := Zao h.src
    have ft := Z8i h.src
    have fe := h.f_emp
    have fr := h.f_rows
    have hlt := ha.lt
    have hil : (i : Int) < (s.length : Int) := by omega
    have e1 := f_pb h.src hl i
    rw [ha.bl] at e1
    have e2 := f_le h.src ha.line ha.l10
    have m1 := Ws h.src (m := "past_blanks") (by decide)
    have m2 := Ws h.src (m := "line_end") (by decide)
    have m3 := Ws h.src (m := "is_barred") (by decide)
    have hbl := Zkt l
    have hel : ((i + l.length : Nat) : Int) < (s.length : Int) := by omega
    have hjs : ((i + bl l : Nat) : Int) - (i : Int) = (bl l : Int) := by omega
    have hje : (((i + bl l : Nat) : Int) = ((i + l.length : Nat) : Int)) ↔ bl l = l.length := by omega
    have hnx := ha.next
    have hni : ((i + l.length + 1 : Nat) : Int) = ((i + l.length : Nat) : Int) + 1 := by omega
    unfold tkP
    by_cases c1 : bl l = l.length ∧ bl l ≤ w
    · rw [if_pos c1]
      have ih := Zaq hl w ls (i + l.length + 1) k rows (e + 1) en (some (.int ((i + bl l : Nat) : Int))) (some (.int ((i + l.length : Nat) : Int))) (some (.bl true)) (Z.set p (.ins "Piece" (pcF si n r ((e : Int) + 1) d c en))) (by have := h.put ((e : Int) + 1) d c en; rw [show ((e + 1 : Nat) : Int) = (e : Int) + 1 by omega]; exact this) hnx (by simp at hk; omega) (by simp at hr; omega)
      have st : loopW (eBl (eBin gLt (eVar 1) (eFld ["Source"] "length" (eVar 3)))) Yv (k + 1) [some (.loc p), some (.int (i : Int)), some (.int (w : Int)), some (.loc si), o4, o5, o6] Z = loopW (eBl (eBin gLt (eVar 1) (eFld ["Source"] "length" (eVar 3)))) Yv k [some (.loc p), some (.int ((i + l.length + 1 : Nat) : Int)), some (.int (w : Int)), some (.loc si), some (.int ((i + bl l : Nat) : Int)), some (.int ((i + l.length : Nat) : Int)), some (.bl true)] (Z.set p (.ins "Piece" (pcF si n r ((e : Int) + 1) d c en))) := by
        conv => lhs; unfold loopW
        have hj2 : ((i + bl l : Nat) : Int) = ((i + l.length : Nat) : Int) := hje.mpr c1.1
        have hw2 : (bl l : Int) ≤ (w : Int) := by omega
        have hi2 := h.ins
        have sp := h.s_emp ((e : Int) + 1)
        rw [hni]
        rw [hj2] at e1 hjs ⊢
        generalize ((i + l.length : Nat) : Int) = q at *
        generalize Z.set p (.ins "Piece" (pcF si n r ((e : Int) + 1) d c en)) = Z2 at *
        simp [eFld,fl,hil,Yv,eMeth,m1,m2,e1,e2,hel,hjs,hw2,sFldA,fe,hi2,sp]
      rw [st]
      exact ih
    · rw [if_neg c1]
      obtain ⟨Z2,e3,k2⟩ := Zpz h.src (by omega) ha
      by_cases c2 : bl l < w ∨ (w = 0 ∧ isM l = true)
      · rw [if_pos c2]
        have cond : ∃ Z3, Fx.tOr (eBl (eBin gLt (eBin gSub (eVar 4) (eVar 1)) (eVar 2))) (Fx.tAnd (eBl (eBin gEq (eVar 2) (eC (.int 0)))) (eTru (eMeth "Source" "is_barred" Zy [] (eVar 3) (aCons (eVar 1) aNil)))) [some (.loc p), some (.int (i : Int)), some (.int (w : Int)), some (.loc si), some (.int ((i + bl l : Nat) : Int)), some (.int ((i + l.length : Nat) : Int)), some (.bl true)] Z = .ok true Z3 ∧ SK si s Z Z3 := by
          by_cases c3 : bl l < w
          · have : (bl l : Int) < (w : Int) := by omega
            refine ⟨Z,?_,SK.refl h.src⟩
            generalize ((i + bl l : Nat) : Int) = a at *
            generalize ((i + l.length : Nat) : Int) = b at *
            simp [hjs,this]
          · have hh := c2.resolve_left c3
            have c3' : ¬ (bl l : Int) < (w : Int) := by omega
            have hw0 : (w : Int) = 0 := by omega
            rw [hh.2] at e3
            have hw1 : w = 0 := by omega
            refine ⟨Z2,?_,k2⟩
            generalize ((i + bl l : Nat) : Int) = a at *
            generalize ((i + l.length : Nat) : Int) = b at *
            simp [hjs, c3', hw1, eMeth, m3, e3]
            omega
        obtain ⟨Z3,hc,k3⟩ := cond
        obtain ⟨Z4,e4,k4⟩ := Zap (h.sk k3).src ((i + bl l : Nat) : Int)
        have m4 := Ws (h.sk k3).src (m := "miss") (by decide)
        refine ⟨(i : Int),Z4,?_,by omega,rows.map rowT,(e : Int),en,(h.sk k3).sk k4⟩
        unfold loopW
        have hc1 : Fx.tAnd (eBl (eBin gEq (eVar 4) (eVar 5))) (eBl (eBin gLeW (eBin gSub (eVar 4) (eVar 1)) (eVar 2))) [some (.loc p),some (.int (i : Int)),some (.int (w : Int)),some (.loc si),some (.int ((i + bl l : Nat) : Int)),some (.int ((i + l.length : Nat) : Int)),some (.bl true)] Z = .ok false Z := by
          by_cases c4 : bl l = l.length
          · have c5 : ¬ (bl l : Int) ≤ (w : Int) := fun hh => c1 ⟨c4,by omega⟩
            have c4' := hje.mpr c4
            have hjs' := hjs
            rw [c4'] at hjs' ⊢
            generalize ((i + l.length : Nat) : Int) = b at *
            simp [hjs', c5]
          · have c4' : ¬ ((i + bl l : Nat) : Int) = ((i + l.length : Nat) : Int) := fun hh => c4 (hje.mp hh)
            generalize ((i + bl l : Nat) : Int) = a at *
            generalize ((i + l.length : Nat) : Int) = b at *
            simp [c4']
        have hin : sIf (Fx.tAnd (eBl (eBin gEq (eVar 4) (eVar 5))) (eBl (eBin gLeW (eBin gSub (eVar 4) (eVar 1)) (eVar 2))))
            (sFldA ["Piece"] "empties" (eVar 0) (eCallB gIntT (aCons (eVar 6) aNil)) gIAdd)
            (sIf (Fx.tOr (eBl (eBin gLt (eBin gSub (eVar 4) (eVar 1)) (eVar 2))) (Fx.tAnd (eBl (eBin gEq (eVar 2) (eC (.int 0)))) (eTru (eMeth "Source" "is_barred" Zy [] (eVar 3) (aCons (eVar 1) aNil)))))
              (bCons (sDrop (eMeth "Source" "miss" Y0 [] (eVar 3) (aCons (eVar 4) aNil)))
              (sRet (eVar 1)))
              (bCons (sDrop (eBM "list" gAppend (eFld ["Piece"] "rows" (eVar 0)) (aCons (eTup (aCons (eFld ["Piece"] "empties" (eVar 0)) (aCons (eSl (eFld ["Source"] "text" (eVar 3)) (oSome (eBin gAdd (eVar 1) (eVar 2))) (oSome (eVar 5))) (aCons (eVar 6) aNil)))) aNil)))
              (bCons (sFldS ["Piece"] "empties" (eVar 0) (eC (.int 0)))
              (sFldS ["Piece"] "end" (eVar 0) (eVar 5))))) [some (.loc p), some (.int (i : Int)), some (.int (w : Int)), some (.loc si), some (.int ((i + bl l : Nat) : Int)), some (.int ((i + l.length : Nat) : Int)), some (.bl true)] Z = .rt (.int (i : Int)) Z4 := by
          rw [Zgv hc1]
          refine Zq1 hc ?_
          generalize ((i + bl l : Nat) : Int) = a at *
          generalize ((i + l.length : Nat) : Int) = b at *
          simp [eMeth,m4,e4]
        have hB : Yv [some (.loc p),some (.int (i : Int)),some (.int (w : Int)),some (.loc si),o4,o5,o6] Z = .rt (.int (i : Int)) Z4 := by
          unfold Yv
          refine Zx (ρ' := [some (.loc p), some (.int (i : Int)), some (.int (w : Int)), some (.loc si), some (.int ((i + bl l : Nat) : Int)), some (.int ((i + l.length : Nat) : Int)), o6]) (Z' := Z) ?_ (Zx (ρ' := [some (.loc p), some (.int (i : Int)), some (.int (w : Int)), some (.loc si), some (.int ((i + bl l : Nat) : Int)), some (.int ((i + l.length : Nat) : Int)), some (.bl true)]) (Z' := Z) ?_ (b_rt hin))
          · generalize ((i + bl l : Nat) : Int) = a at *
            generalize ((i + l.length : Nat) : Int) = b at *
            simp [eMeth,m1,m2,e1,e2]
          · generalize ((i + bl l : Nat) : Int) = a at *
            generalize ((i + l.length : Nat) : Int) = b at *
            simp [eFld,fl,hel]
        simp [eFld,fl,hil,hB]
      · rw [if_neg c2]
        have hwl : w ≤ bl l := by
          have : ¬ bl l < w := fun hh => c2 (.inl hh)
          omega
        have k0 : ∃ Z3, Fx.tOr (eBl (eBin gLt (eBin gSub (eVar 4) (eVar 1)) (eVar 2))) (Fx.tAnd (eBl (eBin gEq (eVar 2) (eC (.int 0)))) (eTru (eMeth "Source" "is_barred" Zy [] (eVar 3) (aCons (eVar 1) aNil)))) [some (.loc p), some (.int (i : Int)), some (.int (w : Int)), some (.loc si), some (.int ((i + bl l : Nat) : Int)), some (.int ((i + l.length : Nat) : Int)), some (.bl true)] Z = .ok false Z3 ∧ SK si s Z Z3 := by
          have c3' : ¬ (bl l : Int) < (w : Int) := by omega
          by_cases hw0 : w = 0
          · have hm : isM l = false := by
              cases hmm : isM l with
              | false => rfl
              | true => exact absurd (.inr ⟨hw0,hmm⟩) c2
            rw [hm] at e3
            have hw0' : (w : Int) = 0 := by omega
            refine ⟨Z2,?_,k2⟩
            generalize ((i + bl l : Nat) : Int) = a at *
            generalize ((i + l.length : Nat) : Int) = b at *
            simp [hjs, c3', hw0, eMeth, m3, e3]
          · have hw0' : ¬ (w : Int) = 0 := by omega
            refine ⟨Z,?_,SK.refl h.src⟩
            generalize ((i + bl l : Nat) : Int) = a at *
            generalize ((i + l.length : Nat) : Int) = b at *
            simp [hjs, c3', hw0]
        obtain ⟨Z3,hc,k3⟩ := k0
        have h3 := h.sk k3
        have fe3 := h3.f_emp
        have fr3 := h3.f_rows
        have ft3 := Z8i h3.src
        have cm := Zg1 s (i + w) (i + l.length)
        rw [List.drop_take,show i + l.length - (i + w) = l.length - w by omega,show i + w = i + w from rfl,← List.drop_drop,ha.line,List.drop_append_of_le_length (by omega),List.take_append_of_le_length (by rw [List.length_drop]; omega),List.take_of_length_le (by rw [List.length_drop]; omega)] at cm
        have hiw : ((i + w : Nat) : Int) = (i : Int) + (w : Int) := by omega
        rw [hiw] at cm
        have h4 := h3.row (rows.map rowT ++ [rowT (e,l.drop w)])
        have ap := Zf1 r (rowT (e,l.drop w)) Z3 h3.rw (by rw [List.length_map]; simp at hr; omega)
        have tl := Z75 h3.rw
        have s1 := h4.s_emp 0
        have h5 := h4.put 0 d c en
        have s2 := h5.s_end ((i + l.length : Nat) : Int)
        have h6 := h5.put 0 d c ((i + l.length : Nat) : Int)
        have ih := Zaq hl w ls (i + l.length + 1) k (rows ++ [(e,l.drop w)]) 0 ((i + l.length : Nat) : Int) (some (.int ((i + bl l : Nat) : Int))) (some (.int ((i + l.length : Nat) : Int))) (some (.bl true)) _ (by rw [List.map_append]; exact h6) hnx (by simp at hk; omega) (by simp at hr ⊢; omega)
        have hc1 : Fx.tAnd (eBl (eBin gEq (eVar 4) (eVar 5))) (eBl (eBin gLeW (eBin gSub (eVar 4) (eVar 1)) (eVar 2))) [some (.loc p),some (.int (i : Int)),some (.int (w : Int)),some (.loc si),some (.int ((i + bl l : Nat) : Int)),some (.int ((i + l.length : Nat) : Int)),some (.bl true)] Z = .ok false Z := by
          by_cases c4 : bl l = l.length
          · have c5 : ¬ (bl l : Int) ≤ (w : Int) := fun hh => c1 ⟨c4,by omega⟩
            have c4' := hje.mpr c4
            have hjs' := hjs
            rw [c4'] at hjs' ⊢
            generalize ((i + l.length : Nat) : Int) = b at *
            simp [hjs', c5]
          · have c4' : ¬ ((i + bl l : Nat) : Int) = ((i + l.length : Nat) : Int) := fun hh => c4 (hje.mp hh)
            generalize ((i + bl l : Nat) : Int) = a at *
            generalize ((i + l.length : Nat) : Int) = b at *
            simp [c4']
        have hB : Yv [some (.loc p), some (.int (i : Int)), some (.int (w : Int)), some (.loc si), o4, o5, o6] Z = .nx [some (.loc p), some (.int ((i + l.length + 1 : Nat) : Int)), some (.int (w : Int)), some (.loc si), some (.int ((i + bl l : Nat) : Int)), some (.int ((i + l.length : Nat) : Int)), some (.bl true)] (((Z3.set r (.lst (rows.map rowT ++ [rowT (e, l.drop w)]))).set p (.ins "Piece" (pcF si n r 0 d c en))).set p (.ins "Piece" (pcF si n r 0 d c ((i + l.length : Nat) : Int)))) := by
          unfold Yv
          refine Zx (ρ' := [some (.loc p), some (.int (i : Int)), some (.int (w : Int)), some (.loc si), some (.int ((i + bl l : Nat) : Int)), some (.int ((i + l.length : Nat) : Int)), o6]) (Z' := Z) ?_ (Zx (ρ' := [some (.loc p), some (.int (i : Int)), some (.int (w : Int)), some (.loc si), some (.int ((i + bl l : Nat) : Int)), some (.int ((i + l.length : Nat) : Int)), some (.bl true)]) (Z' := Z) ?_ (Zx (ρ' := [some (.loc p), some (.int (i : Int)), some (.int (w : Int)), some (.loc si), some (.int ((i + bl l : Nat) : Int)), some (.int ((i + l.length : Nat) : Int)), some (.bl true)]) (Z' := ((Z3.set r (.lst (rows.map rowT ++ [rowT (e, l.drop w)]))).set p (.ins "Piece" (pcF si n r 0 d c en))).set p (.ins "Piece" (pcF si n r 0 d c ((i + l.length : Nat) : Int)))) ?_ ?_))
          · generalize ((i + bl l : Nat) : Int) = a at *
            generalize ((i + l.length : Nat) : Int) = b at *
            simp [eMeth,m1,m2,e1,e2]
          · generalize ((i + bl l : Nat) : Int) = a at *
            generalize ((i + l.length : Nat) : Int) = b at *
            simp [eFld,fl,hel]
          · rw [Zgv hc1,Zgv hc]
            generalize Z3.set r (.lst (rows.map rowT ++ [rowT (e,l.drop w)])) = Z5 at *
            generalize Z5.set p (.ins "Piece" (pcF si n r 0 d c en)) = Z6 at *
            generalize ((i + bl l : Nat) : Int) = a at *
            generalize ((i + l.length : Nat) : Int) = b at *
            generalize hD : l.drop w = D at *
            simp only [rowT] at ap
            simp [-Zij,eFld,fr3,fe3,ft3,Z88 _ _ _ _ (Nat.le_of_lt hl),cm,ap,tl,sFldS,s1,s2,oSome]
          · rw [hni]
            generalize ((i + l.length : Nat) : Int) = b at *
            simp
        have st : loopW (eBl (eBin gLt (eVar 1) (eFld ["Source"] "length" (eVar 3)))) Yv (k + 1) [some (.loc p), some (.int (i : Int)), some (.int (w : Int)), some (.loc si), o4, o5, o6] Z = loopW (eBl (eBin gLt (eVar 1) (eFld ["Source"] "length" (eVar 3)))) Yv k [some (.loc p), some (.int ((i + l.length + 1 : Nat) : Int)), some (.int (w : Int)), some (.loc si), some (.int ((i + bl l : Nat) : Int)), some (.int ((i + l.length : Nat) : Int)), some (.bl true)] (((Z3.set r (.lst (rows.map rowT ++ [rowT (e, l.drop w)]))).set p (.ins "Piece" (pcF si n r 0 d c en))).set p (.ins "Piece" (pcF si n r 0 d c ((i + l.length : Nat) : Int)))) := by
          conv => lhs; unfold loopW
          simp [eFld,fl,hil,hB]
        rw [st]
        exact ih
end
end Ap
set_option maxHeartbeats 8000000
namespace Ap
open PySem PySem.Spec PyProof.Rows L2 SX Fx
def nls (k : Nat) : List Nat := List.replicate k 10
def isW (x : List Nat) : Bool := decide (x.take 1 = [32]) || decide (x.take 1 = [9])
def gap (fd : Bool) (k : Nat) (w nw : Bool) (e : Nat) : List Nat := if k = 0 then nls e else if fd = true ∧ w = false ∧ nw = false then (if e = 0 then [32] else nls e) else nls (e + 1)
def vlR (fd : Bool) : Nat → Bool → List (Nat × List Nat) → List Nat
  | _,_,[] => []
  | k,w,(e,x) :: rs => gap fd k w (isW x) e ++ x ++ vlR fd (k + 1) (isW x) rs
def lstF (c : List Nat) (rows : List (Nat × List Nat)) (e : Nat) : List Nat := if c = [45] ∨ (rows = [] ∧ c = []) then [] else nls ((if rows = [] then 0 else 1) + (if c = [43] then e else 0))
theorem Jg (k : Nat) (Z : Sto) (h : k ≤ 100000) : gMul (.str [10]) (.int (k : Int)) Z = some (.str (nls k),Z) := by
  have e : repL k [10] = nls k := by
    unfold nls repL
    exact List.flatten_replicate_singleton
  show (if -100000 ≤ (k : Int) ∧ (k : Int) ≤ 100000 ∧ ([10] : List Nat).length * (k : Int).toNat ≤ 100000 then some (Fx.T.str (repL (k : Int).toNat [10]),Z) else none) = _
  rw [if_pos ⟨by omega,by omega,by simp; omega⟩,show ((k : Int)).toNat = k by omega,e]
theorem Zog (fd : Bool) (k : Nat) (w nw : Bool) (e : Nat) : (gap fd k w nw e).length ≤ e + 1 := by
  unfold gap nls
  split
  · simp
  · split
    · split <;> simp
    · simp
section
variable {Z0 Z Z' : Sto} {p si r : Nat} {s : List Nat} {n : Int} {d : Int} {c : List Nat} {en : Int}
theorem Zhw (fd : Bool) (all : List (Nat × List Nat)) (hb : ∀ x ∈ all,x.1 ≤ 50 ∧ x.2.length ≤ 400) (hall : all.length ≤ 30) {e : Int} (h : PS Z0 Z p si r s n (all.map rowT) e d c en) : ∀ (rs : List (Nat × List Nat)) (k m : Nat) (found : List Nat) (w : Bool) (o4 o5 o6 o7 o8 o9 : Option Fx.T),all.drop k = rs → k ≤ all.length → rs.length < m → found.length ≤ 500 * k → (k = 0 → found = []) →
    ∃ q4 q5 q6 q7 q8 q9 w', loopN (itEnum (itLoc r)) (fun t ρ' Z' => bS ρ' ((gTp 2 (gsCons (gNm 4) (gsCons (gNm 5) gsNil))) t ρ' Z') Wr) m k [some (.loc p), some (.bl fd), some (.str found), some (.bl w), o4, o5, o6, o7, o8, o9] Z = .nx [some (.loc p), some (.bl fd), some (.str (found ++ vlR fd k w rs)), some (.bl w'), q4, q5, q6, q7, q8, q9] Z ∧ (found ++ vlR fd k w rs).length ≤ 15000
  | [],k,m + 1,found,w,o4,o5,o6,o7,o8,o9,hd,hk,hm,hf,h0 => by
    have hnone : all[k]? = none := List.getElem?_eq_none (List.drop_eq_nil_iff.mp hd)
    have hit : itEnum (itLoc r) k Z = some none := by simp [itEnum,itLoc,h.rw,hnone]
    refine ⟨o4,o5,o6,o7,o8,o9,w,?_,?_⟩
    · rw [Z4h hit]
      show _ = RS.nx [_,_,some (.str (found ++ [])),_,_,_,_,_,_,_] _
      rw [List.append_nil]
    · show (found ++ []).length ≤ _
      rw [List.append_nil]; omega
  | (e1,x) :: rs,k,m + 1,found,w,o4,o5,o6,o7,o8,o9,hd,hk,hm,hf,h0 => by
    have hx : all[k]? = some (e1,x) := by
      have h1 : (all.drop k)[0]? = some (e1,x) := by rw [hd]; rfl
      rwa [List.getElem?_drop] at h1
    have hkl := (List.getElem?_eq_some_iff.mp hx).1
    obtain ⟨hb1,hb2⟩ := hb _ (List.mem_of_getElem? hx)
    simp only at hb1 hb2
    have hd2 : all.drop (k + 1) = rs := by rw [← List.drop_drop,hd]; rfl
    have hit : itEnum (itLoc r) k Z = some (some (.tup [.int (k : Int),rowT (e1,x)])) := by simp [itEnum,itLoc,h.rw,hx]
    have hgl := Zog fd k w (isW x) e1
    have hfl : (found ++ (gap fd k w (isW x) e1 ++ x)).length ≤ 500 * (k + 1) := by
      rw [List.length_append,List.length_append]; omega
    obtain ⟨q4, q5, q6, q7, q8, q9, w', ih, hlen⟩ := Zhw fd all hb hall h rs (k + 1) m (found ++ (gap fd k w (isW x) e1 ++ x)) (isW x) (some (.int (k : Int))) (some (rowT (e1, x))) (some (.int (e1 : Int))) (some (.str x)) (some (.bl true)) (some (.bl (isW x))) hd2 (by omega) (by simp at hm; omega) hfl (fun hh => by omega)
    have hv : found ++ vlR fd k w ((e1,x) :: rs) = found ++ (gap fd k w (isW x) e1 ++ x) ++ vlR fd (k + 1) (isW x) rs := by
      show found ++ (gap fd k w (isW x) e1 ++ x ++ vlR fd (k + 1) (isW x) rs) = _
      simp only [List.append_assoc]
    rw [hv]
    refine ⟨q4, q5, q6, q7, q8, q9, w', ?_, hlen⟩
    rw [← ih]
    have in2 := Zck (x.take 1) [32] [9] Z
    have hiw : (decide (x.take 1 = [32]) || decide (x.take 1 = [9])) = isW x := rfl
    rw [hiw] at in2
    have c1 := Zeb x 1
    have c1' : cutL x none (some 1) = x.take 1 := c1
    have hxl : x.length ≤ Lim := by unfold Lim; omega
    have n1 := Jg e1 Z (by omega)
    have n2 := Jg (e1 + 1) Z (by omega)
    have he1 : ((e1 + 1 : Nat) : Int) = (e1 : Int) + 1 := by omega
    rw [he1] at n2
    refine Z7q hit ?_
    have hgf : found.length + (gap fd k w (isW x) e1).length ≤ Lim := by unfold Lim; omega
    have hgx : (found ++ gap fd k w (isW x) e1).length + x.length ≤ Lim := by rw [List.length_append]; unfold Lim; omega
    have ia := Zhi (found ++ gap fd k w (isW x) e1) x Z hgx
    have ia0 := Zhi found (gap fd k w (isW x) e1) Z hgf
    rw [List.append_assoc] at ia
    generalize hNW : isW x = nw at *
    have step : ∀ (G : List Nat),gap fd k w nw e1 = G → (if k = 0 then some (some (Fx.T.str G)) else some (some (Fx.T.str (found ++ G)))) = some (some (Fx.T.str (found ++ G))) := fun G _ => by
      split
      · rename_i hk0; rw [h0 hk0]; rfl
      · rfl
    by_cases hk0 : k = 0
    · have hf0 := h0 hk0
      subst hf0
      subst hk0
      have hg : gap fd 0 w nw e1 = nls e1 := rfl
      rw [hg] at ia ia0 ⊢
      simp only [List.nil_append] at ia ia0 ⊢
      simp [-Zb3, -Zda, -Qa, rowT, Wr, Z88 _ _ _ _ hxl, c1', in2, n1, ia, sAug]
    · have hk0' : ¬ (k : Int) = 0 := by omega
      by_cases hc : fd = true ∧ w = false ∧ nw = false
      · obtain ⟨rfl,rfl,rfl⟩ := hc
        by_cases he0 : e1 = 0
        · subst he0
          have hg : gap true k false false 0 = [32] := by unfold gap; rw [if_neg hk0,if_pos ⟨rfl,rfl,rfl⟩]; rfl
          rw [hg] at ia ia0 ⊢
          simp [-Zb3, -Zda, -Qa, rowT, Wr, Z88 _ _ _ _ hxl, c1', in2, hk0, hk0', ia0, ia, sAug]
        · have hg : gap true k false false e1 = nls e1 := by unfold gap; rw [if_neg hk0,if_pos ⟨rfl,rfl,rfl⟩,if_neg he0]
          rw [hg] at ia ia0 ⊢
          have he0' : ¬ (e1 : Int) = 0 := by omega
          simp [-Zb3, -Zda, -Qa, rowT, Wr, Z88 _ _ _ _ hxl, c1', in2, hk0, hk0', he0, he0', n1, ia0, ia, sAug]
      · have hg : gap fd k w nw e1 = nls (e1 + 1) := by unfold gap; rw [if_neg hk0,if_neg hc]
        rw [hg] at ia ia0 ⊢
        cases fd <;> cases w <;> cases nw <;> first | (exact absurd ⟨rfl, rfl, rfl⟩ hc) | simp [-Zb3, -Zda, -Qa, rowT, Wr, Z88 _ _ _ _ hxl, c1', in2, hk0, hk0', n2, ia0, ia, sAug]
end
end Ap
set_option maxHeartbeats 8000000
namespace Ap
open PySem PySem.Spec PyProof.Rows L2 SX Fx
theorem Z6j {Z : Sto} {i : Nat} {ts : List Fx.T} (h : getL Z i = some ts) : gEqL (.loc i) (.loc Z.length) (Z ++ [.lst []]) = some (.bl (decide (ts.length = 0)),Z ++ [.lst []]) ∧ gNeL (.loc i) (.loc Z.length) (Z ++ [.lst []]) = some (.bl (!decide (ts.length = 0)),Z ++ [.lst []]) := by
  have h1 := Ue (Y := [O.lst []]) h
  have h2 := Ym Z []
  cases ts with
  | nil =>
    have hl : lenDiff (.loc i) (.loc Z.length) (Z ++ [.lst []]) = false := by simp [lenDiff,h1,h2]
    have e1 : toD 16 (Z ++ [O.lst []]) (.loc i) = some (.list []) := by
      show (getL _ i).bind _ = _
      rw [h1]; rfl
    have e2 : toD 16 (Z ++ [O.lst []]) (.loc Z.length) = some (.list []) := by
      show (getL _ _).bind _ = _
      rw [h2]; rfl
    have e3 : gEqD (.loc i) (.loc Z.length) (Z ++ [O.lst []]) = some true := by
      unfold gEqD
      rw [e1,e2]
      exact if_pos (by decide +kernel)
    have e4 : gEqB (.loc i) (.loc Z.length) (Z ++ [O.lst []]) = some true := by
      show (match eqS (.loc i) (.loc Z.length) with | some b => some b | none => gEqD (.loc i) (.loc Z.length) (Z ++ [O.lst []])) = _
      rw [show eqS (.loc i) (.loc Z.length) = none from rfl,e3]
    constructor
    · unfold gEqL gEq
      rw [hl,e4]; rfl
    · unfold gNeL gNe
      rw [hl,e4]; rfl
  | cons t ts =>
    have hl : lenDiff (.loc i) (.loc Z.length) (Z ++ [.lst []]) = true := by simp [lenDiff,h1,h2]
    constructor
    · unfold gEqL
      rw [hl]; simp
    · unfold gNeL
      rw [hl]; simp
section
variable {Z0 Z Z' : Sto} {p si r : Nat} {s : List Nat} {n : Int} {d : Int} {c : List Nat} {en : Int}
theorem Zq2 {rows : List (Nat × List Nat)} {e : Nat} (he : e ≤ 50) (h : PS Z0 Z p si r s n (rows.map rowT) (e : Int) d c en) : ∃ Z', Yt [.loc p] Z = .ok (.str (lstF c rows e)) Z' ∧ Ext Z0 Z' := by
  have fc := h.f_chomp
  have fr := h.f_rows
  obtain ⟨q1,_⟩ := Z6j h.rw
  rw [List.length_map] at q1
  by_cases h45 : c = [45]
  · subst h45
    refine ⟨Z,?_,h.ext⟩
    have hl : lstF [45] rows e = [] := by unfold lstF; rw [if_pos (.inl rfl)]
    rw [hl]
    simp [Yt,runF,Xf,eFld,fc]
  · have h1 := h.app [O.lst []]
    have fc1 := h1.f_chomp
    obtain ⟨Z1,hZ1⟩ : ∃ Z1,Z1 = Z ++ [O.lst []] := ⟨_,rfl⟩
    rw [← hZ1] at q1 h1 fc1
    have fr1 := h1.f_rows
    cases rows with
    | nil =>
      by_cases h0 : c = []
      · subst h0
        have hl : lstF [] [] e = [] := by unfold lstF; rw [if_pos (.inr ⟨rfl,rfl⟩)]
        rw [hl]
        refine ⟨Z1,?_,h1.ext⟩
        simp at q1
        simp [Yt,runF,Xf,eFld,fc,fr,q1,fc1,← hZ1]
      · have hl : lstF c [] e = nls (0 + (if c = [43] then e else 0)) := by unfold lstF; rw [if_neg (by simp [h45,h0])]; rfl
        rw [hl]
        obtain ⟨_,q2⟩ := Z6j h1.rw
        have h2 := h1.app [O.lst []]
        obtain ⟨Z2,hZ2⟩ : ∃ Z2,Z2 = Z1 ++ [O.lst []] := ⟨_,rfl⟩
        rw [← hZ2] at q2 h2
        have fe2 := h2.f_emp
        have fc2 := h2.f_chomp
        refine ⟨Z2,?_,h2.ext⟩
        simp at q1 q2
        by_cases h43 : c = [43]
        · have nm := Jg e Z2 (by omega)
          rw [if_pos h43,Nat.zero_add]
          subst h43
          simp [-Qa,Yt,runF,Xf,eFld,fc,fr,q1,fc1,← hZ1,fr1,q2,← hZ2,fe2,fc2,nm]
        · have nm := Jg 0 Z2 (by omega)
          rw [if_neg h43]
          simp [-Qa,Yt,runF,Xf,eFld,h45,h0,fc,fr,q1,fc1,← hZ1,fr1,q2,← hZ2,fe2,fc2,h43]
          simpa using nm
    | cons x t =>
      have hl : lstF c (x :: t) e = nls (1 + (if c = [43] then e else 0)) := by unfold lstF; rw [if_neg (by simp [h45])]; rfl
      rw [hl]
      obtain ⟨_,q2⟩ := Z6j h1.rw
      have h2 := h1.app [O.lst []]
      obtain ⟨Z2,hZ2⟩ : ∃ Z2,Z2 = Z1 ++ [O.lst []] := ⟨_,rfl⟩
      rw [← hZ2] at q2 h2
      have fe2 := h2.f_emp
      have fc2 := h2.f_chomp
      have fr2 := h2.f_rows
      refine ⟨Z2,?_,h2.ext⟩
      obtain ⟨y,hy⟩ : ∃ y,((x :: t).map rowT)[t.length]? = some (rowT y) := by
        refine ⟨(x :: t)[t.length]'(by simp), ?_⟩
        rw [List.getElem?_map,List.getElem?_eq_getElem (by simp)]; rfl
      have la : gIxW (.loc r) (.int (-1)) Z2 = some (rowT y,Z2) := by
        rw [U6 _ h2.rw]
        have : atI ((x :: t).map rowT) (-1) = some (rowT y) := by
          have hix : ixN (t.length + 1) (-1) = some t.length := by
            unfold ixN
            rw [if_neg (by omega),if_pos (by omega)]
            congr 1
            omega
          unfold atI
          rw [show ((x :: t).map rowT).length = t.length + 1 by simp,hix]
          exact hy
        rw [this]; rfl
      have l2 : gIxW (rowT y) (.int 2) Z2 = some (.bl true,Z2) := rfl
      rw [List.length_map] at q2
      simp at q1 q2
      by_cases h43 : c = [43]
      · have nm := Jg (1 + e) Z2 (by omega)
        rw [if_pos h43]
        have hc : ((1 + e : Nat) : Int) = 1 + (e : Int) := by omega
        rw [hc] at nm
        subst h43
        generalize rowT y = RY at *
        simp [-Qa,Yt,runF,Xf,eFld,fc,fr,q1,fc1,← hZ1,fr1,q2,← hZ2,fe2,fc2,fr2,la,l2,nm]
      · have nm := Jg 1 Z2 (by omega)
        rw [if_neg h43]
        generalize rowT y = RY at *
        simp [-Qa,Yt,runF,Xf,eFld,h45,fc,fr,q1,fc1,← hZ1,fr1,q2,← hZ2,fe2,fc2,fr2,la,l2,h43]
        simpa using nm
def valP (fd : Bool) (c : List Nat) (rows : List (Nat × List Nat)) (e : Nat) : List Nat := vlR fd 0 true rows ++ lstF c rows e
theorem Zoh (fd : Bool) {rows : List (Nat × List Nat)} {e : Nat} (he : e ≤ 50) (hb : ∀ x ∈ rows, x.1 ≤ 50 ∧ x.2.length ≤ 400) (hr : rows.length ≤ 30) (h : PS Z0 Z p si r s n (rows.map rowT) (e : Int) d c en) : ∃ Z', Qm [.loc p, .bl fd] Z = .ok (.str (valP fd c rows e)) Z' ∧ Ext Z0 Z' := by
  obtain ⟨q4, q5, q6, q7, q8, q9, w', lp, hlen⟩ := Zhw fd rows hb hr h rows 0 Fuel [] true none none none none none none rfl (Nat.zero_le _) (by rw [Jv]; unfold Lim; omega) (by simp) (fun _ => rfl)
  rw [List.nil_append] at lp hlen
  obtain ⟨Z', e2, x2⟩ := Zq2 he h
  refine ⟨Z', ?_, x2⟩
  have fr := h.f_rows
  have g := h.rw
  have hi : iEnmA (aCons (eFld ["Piece"] "rows" (eVar 0)) aNil) [some (.loc p), some (.bl fd), some (.str []), some (.bl true), none, none, none, none, none, none] Z = .ok (itEnum (itLoc r)) Z := by
    simp [iEnmA,eFld,fr,g]
  have hme := h.me (m := "last_feeds") (by simp [pcF, List.lookup_cons])
  have hll : (lstF c rows e).length ≤ 52 := by
    unfold lstF nls
    split
    · simp
    · rw [List.length_replicate]
      split <;> split <;> omega
  have ad := Xx (vlR fd 0 true rows) (lstF c rows e) Z' (by unfold Lim; omega)
  refine Ut (n := 10) (as := [.loc p,.bl fd]) ?_
  refine Zx (ρ' := [some (.loc p), some (.bl fd), some (.str []), none, none, none, none, none, none, none]) (Z' := Z) (by simp) ?_
  refine Zx (ρ' := [some (.loc p), some (.bl fd), some (.str []), some (.bl true), none, none, none, none, none, none]) (Z' := Z) (by simp) ?_
  refine Zx (ρ' := [some (.loc p), some (.bl fd), some (.str (vlR fd 0 true rows)), some (.bl w'), q4, q5, q6, q7, q8, q9]) (Z' := Z) ?_ ?_
  · rw [Zd9,hi,Z6m]; exact lp
  · show _ = RS.rt (.str (vlR fd 0 true rows ++ lstF c rows e)) Z'
    generalize vlR fd 0 true rows = V at *
    simp [eMeth,hme,e2,ad]
end
end Ap
set_option maxHeartbeats 8000000
namespace Ap
open PySem PySem.Spec PyProof.Rows L2 SX Fx
theorem Qv {Z Y : Sto} {C f : String} {y : Fx.T} {fs : List (String × Fx.T)} (hf : fs.length < 1000) : setF [C] f (.loc Z.length) y (Z ++ .ins C fs :: Y) = some (Z ++ .ins C (putS f y fs) :: Y) := by
  have g : getI (Z ++ .ins C fs :: Y) Z.length = some (C,fs) := by
    rw [Xm]; simp
  simp [setF,g,hf]
theorem Zq3 {fa : FA} {ρ : Fx.Env} {Z : Sto} {s : List Nat} (ha : fa ρ Z = .ok [.str s] Z) (hl : s.length ≤ Lim) : eMake "Source" Wg [] fa ρ Z = .ok (.loc Z.length) (Z ++ [.ins "Source" (srF s 0)]) := by
  have s1 := Qv (Z := Z) (Y := []) (C := "Source") (f := "text") (y := .str s) (fs := []) (by simp)
  have s2 := Qv (Z := Z) (Y := []) (C := "Source") (f := "length") (y := .int (s.length : Int)) (fs := [("text", .str s)]) (by simp)
  have s3 := Qv (Z := Z) (Y := []) (C := "Source") (f := "far") (y := .int 0) (fs := [("text", .str s), ("length", .int (s.length : Int))]) (by simp)
  have p1 : putS "text" (.str s) [] = [("text", Fx.T.str s)] := rfl
  have p2 : putS "length" (.int (s.length : Int)) [("text", .str s)] = [("text", Fx.T.str s), ("length", .int (s.length : Int))] := by simp [putS]
  have p3 : putS "far" (.int 0) [("text", .str s), ("length", .int (s.length : Int))] = srF s 0 := by simp [putS, srF]
  rw [p1] at s1
  rw [p2] at s2
  rw [p3] at s3
  have e : Wg [.loc Z.length, .str s] (Z ++ [.ins "Source" []]) = .ok .non (Z ++ [.ins "Source" (srF s 0)]) := by
    simp [Wg,runF,Z7c,sFldS,s1,s2,s3,hl]
  unfold eMake
  rw [ha]
  show (Wg [.loc Z.length, .str s] (Z ++ [.ins "Source" []])).bind _ = _
  rw [e]; rfl
theorem mk_pc {fa : FA} {ρ : Fx.Env} {Z : Sto} {si : Nat} {n : Int} (ha : fa ρ Z = .ok [.loc si, .int 1, .int n] Z) : eMake "Piece" Vr [] fa ρ Z = .ok (.loc Z.length) (Z ++ [.ins "Piece" (pcF si n (Z.length + 1) 0 0 [] 2), .lst []]) := by
  have q1 := Qv (Z := Z) (Y := []) (C := "Piece") (f := "source") (y := .loc si) (fs := []) (by simp)
  have q2 := Qv (Z := Z) (Y := []) (C := "Piece") (f := "start") (y := .int 1) (fs := [("source", .loc si)]) (by simp)
  have q3 := Qv (Z := Z) (Y := []) (C := "Piece") (f := "n") (y := .int n) (fs := [("source", .loc si), ("start", .int 1)]) (by simp)
  have q4 := Qv (Z := Z) (Y := [.lst []]) (C := "Piece") (f := "rows") (y := .loc (Z.length + 1)) (fs := [("source", .loc si), ("start", .int 1), ("n", .int n)]) (by simp)
  have q5 := Qv (Z := Z) (Y := [.lst []]) (C := "Piece") (f := "empties") (y := .int 0) (fs := [("source", .loc si), ("start", .int 1), ("n", .int n), ("rows", .loc (Z.length + 1))]) (by simp)
  have q6 := Qv (Z := Z) (Y := [.lst []]) (C := "Piece") (f := "digit") (y := .int 0) (fs := [("source", .loc si), ("start", .int 1), ("n", .int n), ("rows", .loc (Z.length + 1)), ("empties", .int 0)]) (by simp)
  have q7 := Qv (Z := Z) (Y := [.lst []]) (C := "Piece") (f := "chomp") (y := .str []) (fs := [("source", .loc si), ("start", .int 1), ("n", .int n), ("rows", .loc (Z.length + 1)), ("empties", .int 0), ("digit", .int 0)]) (by simp)
  have q8 := Qv (Z := Z) (Y := [.lst []]) (C := "Piece") (f := "end") (y := .int 2) (fs := [("source", .loc si), ("start", .int 1), ("n", .int n), ("rows", .loc (Z.length + 1)), ("empties", .int 0), ("digit", .int 0), ("chomp", .str [])]) (by simp)
  simp [putS] at q1 q2 q3 q4 q5 q6 q7 q8
  have e : Vr [.loc Z.length, .loc si, .int 1, .int n] (Z ++ [.ins "Piece" []]) = .ok .non (Z ++ [.ins "Piece" (pcF si n (Z.length + 1) 0 0 [] 2), .lst []]) := by
    simp [Vr,runF,Z8y,sFldS,gFld,q1,q2,q3,q4,q5,q6,q7,q8,pcF]
  unfold eMake
  rw [ha]
  show (Vr [.loc Z.length, .loc si, .int 1, .int n] (Z ++ [.ins "Piece" []])).bind _ = _
  rw [e]; rfl
theorem Ze4 {w A M : Nat} : ∀ {ls : List (List Nat)} {rows rows' : List (Nat × List Nat)} {e e' : Nat}, tkP w ls rows e = some (rows', e') → (∀ l ∈ ls, l.length ≤ M) → (∀ x ∈ rows, x.1 ≤ A ∧ x.2.length ≤ M) → e + ls.length ≤ A → (∀ x ∈ rows', x.1 ≤ A ∧ x.2.length ≤ M) ∧ rows'.length ≤ rows.length + ls.length ∧ e' ≤ A
  | [], rows, rows', e, e', h, hl, hr, he => by
    unfold tkP at h
    cases h
    exact ⟨hr,by simp,by simpa using he⟩
  | l :: ls, rows, rows', e, e', h, hl, hr, he => by
    rw [List.length_cons] at he ⊢
    unfold tkP at h
    split at h
    · obtain ⟨a,b,c⟩ := Ze4 h (fun m hm => hl m (List.mem_cons_of_mem _ hm)) hr (by omega)
      exact ⟨a,by omega,c⟩
    · split at h
      · cases h
      · obtain ⟨a,b,c⟩ := Ze4 h (fun m hm => hl m (List.mem_cons_of_mem _ hm)) (fun x hx => by
          rcases List.mem_append.mp hx with hx | hx
          · exact hr x hx
          · rw [List.mem_singleton.mp hx]
            have := hl l List.mem_cons_self
            exact ⟨by simp; omega,by simp; omega⟩) (by omega)
        exact ⟨a,by rw [List.length_append] at b; simp at b; omega,c⟩
theorem Zkz {n : Int} (hn : -1 ≤ n) : ∀ {ls : List (List Nat)} {L w : Int},indL n L ls = some w → 0 ≤ w
  | [],L,w,h => by
    unfold indL at h
    cases h
    omega
  | l :: ls,L,w,h => by
    unfold indL at h
    split at h
    · exact Zkz hn h
    · split at h
      · cases h; omega
      · split at h
        · cases h; omega
        · cases h
theorem Zq4 {n d w : Int} {ls : List (List Nat)} (hn : -1 ≤ n) (h : ind n d ls = some w) : 0 ≤ w := by
  unfold ind at h
  split at h
  · cases h; omega
  · exact Zkz hn h
def optS : Option (List Nat) → Fx.T
  | some x => .str x
  | none => .non
def blkP (fd : Bool) (u0 : List Nat) (n : Int) (lines : List (List Nat)) : Option (List Nat) :=
  if clo (hdr u0).2.2.2 = true then (match ind n (hdr u0).2.1 lines with
    | none => none
    | some w => match tkP w.toNat lines [] 0 with
      | none => none
      | some (rows,e) => some (valP fd (hdr u0).2.2.1 rows e)) else none
def sty (fd : Bool) : Nat := if fd = true then 62 else 124
def styS (fd : Bool) : List Nat := if fd = true then [102,111,108,100,101,100] else [108,105,116,101,114,97,108]
theorem Zq5 {a : Nat} {u0 : List Nat} {lines : List (List Nat)} (h1 : a ≠ 10) (h2 : 10 ∉ u0) (h3 : ∀ l ∈ lines,10 ∉ l) (s : List Nat) (hs : s = 32 :: a :: (u0 ++ 10 :: lines.flatMap (fun l => l ++ [10]))) :
    s.drop 2 = u0 ++ 10 :: lines.flatMap (fun l => l ++ [10]) ∧ (∀ j < 2 + u0.length,s[j]? ≠ some 10) ∧ At s (2 + u0.length + 1) lines := by
  have hd : s.drop 2 = u0 ++ 10 :: lines.flatMap (fun l => l ++ [10]) := by rw [hs]; rfl
  have e : s = (32 :: a :: u0) ++ 10 :: lines.flatMap (fun l => l ++ [10]) := hs
  refine ⟨hd,fun j hj hh => ?_,?_⟩
  · rw [e,List.getElem?_append_left (by simp; omega)] at hh
    have := List.mem_of_getElem? hh
    simp at this
    rcases this with h | h
    · exact h1 h.symm
    · exact h2 h
  · refine ⟨by rw [e]; simp; omega,?_,?_,h3⟩
    · have : (32 :: a :: u0).length + 1 = 2 + u0.length + 1 := by simp; omega
      rw [e,← this,List.drop_append,List.drop_eq_nil_of_le (by omega),show (32 :: a :: u0).length + 1 - (32 :: a :: u0).length = 1 by omega]
      rfl
    · unfold Beg
      have : s[2 + u0.length + 1 - 1]? = some 10 := by
        rw [e,List.getElem?_append_right (by simp; omega)]
        simp
        have : 2 + u0.length - (u0.length + 1 + 1) = 0 := by omega
        rw [this]; rfl
      rw [this]; simp
theorem Zgw : ∀ lines : List (List Nat),lines.flatMap (fun l => 10 :: l) ++ [10] = 10 :: lines.flatMap (fun l => l ++ [10])
  | [] => rfl
  | l :: ls => by
    rw [List.flatMap_cons,List.flatMap_cons,List.append_assoc,Zgw ls]
    simp
def bE (t st : List Nat) (n : Int) (o3 o4 o5 o6 : Option Fx.T) : Fx.Env := [some (.str t),some (.str st),some (.int n),o3,o4,o5,o6]
theorem Zoi (fd : Bool) {u0 : List Nat} {lines : List (List Nat)} {n : Int} {Z : Sto} (h2 : 10 ∉ u0) (h3 : ∀ l ∈ lines,10 ∉ l) (hn : -1 ≤ n) (hM : ∀ l ∈ lines,l.length ≤ 400) (hk : lines.length ≤ 30)
    (hl : (32 :: sty fd :: (u0 ++ 10 :: lines.flatMap (fun l => l ++ [10]))).length < Lim) : ∃ Z', Qn [.str (sty fd :: (u0 ++ lines.flatMap (fun l => 10 :: l))), .str (styS fd), .int n] Z = .ok (optS (blkP fd u0 n lines)) Z' ∧ Ext Z Z' := by
  obtain ⟨s,hs⟩ : ∃ s,s = 32 :: sty fd :: (u0 ++ 10 :: lines.flatMap (fun l => l ++ [10])) := ⟨_,rfl⟩
  obtain ⟨t,ht⟩ : ∃ t,t = sty fd :: (u0 ++ lines.flatMap (fun l => 10 :: l)) := ⟨_,rfl⟩
  have hsty : sty fd ≠ 10 := by cases fd <;> decide
  obtain ⟨hd,hno,ha⟩ := Zq5 hsty h2 h3 s hs
  have hst : [32] ++ t ++ [10] = s := by
    rw [hs,ht]
    show 32 :: sty fd :: (u0 ++ lines.flatMap (fun l => 10 :: l) ++ [10]) = _
    rw [List.append_assoc,Zgw]
  rw [← hs] at hl
  rw [← ht]
  have htl : t.length + 2 = s.length := by rw [← hst]; simp
  obtain ⟨si,hsi⟩ : ∃ si,si = Z.length := ⟨_,rfl⟩
  obtain ⟨Z1, hZ1⟩ : ∃ Z1, Z1 = Z ++ [O.ins "Source" (srF s 0)] := ⟨_, rfl⟩
  obtain ⟨Z2, hZ2⟩ : ∃ Z2, Z2 = Z1 ++ [O.ins "Piece" (pcF si n (Z1.length + 1) 0 0 [] 2), O.lst []] := ⟨_, rfl⟩
  have e1 : eMake "Source" Wg [] (aCons (eBin gAdd (eBin gAdd (eC (.str [32])) (eVar 0)) (eC (.str [10]))) aNil) (bE t (styS fd) n none none none none) Z = .ok (.loc si) Z1 := by
    have a1 := Xx [32] t Z (by simp; omega)
    have a2 := Xx ([32] ++ t) [10] Z (by simp; omega)
    rw [hst] at a2
    have := Zq3 (fa := aCons (eBin gAdd (eBin gAdd (eC (.str [32])) (eVar 0)) (eC (.str [10]))) aNil) (ρ := bE t (styS fd) n none none none none) (Z := Z) (s := s) (by
      simp only [List.cons_append,List.nil_append] at a1 a2
      simp [-Z3g,bE,a1,a2]) (by omega)
    rw [hsi,hZ1]; exact this
  have e2 : eMake "Piece" Vr [] (aCons (eVar 3) (aCons (eC (.int 1)) (aCons (eVar 2) aNil))) (bE t (styS fd) n (some (.loc si)) none none none) Z1 = .ok (.loc Z1.length) Z2 := by
    rw [hZ2]
    exact mk_pc (by simp [bE])
  have hps : PS Z Z2 Z1.length si (Z1.length + 1) s n [] 0 0 [] 2 := by
    refine ⟨⟨0,?_⟩,?_,?_,?_,by omega,by rw [hZ1]; simp,by rw [hZ1]; simp; omega⟩
    · rw [Xm,hZ2,hZ1,hsi,List.append_assoc,List.getElem?_append_right (Nat.le_refl _)]; simp
    · rw [Xm,hZ2]; simp
    · rw [Ys,hZ2]; simp
    · rw [hZ2,hZ1]; exact ((Ext.refl Z).app _).app _
  obtain ⟨Z3,en3,e3,p3⟩ := Zmg (by omega) hps hd h2 hno
  have hme := hps.me (m := "read_header") (by simp [pcF, List.lookup_cons])
  have b0 : sIf (eBl (eBin gNe (eSl (eVar 0) oNone (oSome (eC (.int 1)))) (eKdI Uq (eVar 1)))) (sRet (eC .non)) sPass (bE t (styS fd) n none none none none) Z = .nx (bE t (styS fd) n none none none none) Z := by
    have c1 : cutL t none (some 1) = [sty fd] := by
      have := Zeb t 1
      rw [ht] at this ⊢
      exact this
    refine Zgu ?_
    have hkd : kdT Uq (.str (styS fd)) = some (.str [sty fd]) := by cases fd <;> rfl
    have hne : gNe (.str [sty fd]) (.str [sty fd]) Z = some (.bl false,Z) := by simp [gNe,gEqB,eqS]
    generalize sty fd = x at *
    simp [bE,Z88 _ _ _ _ (show t.length ≤ Lim by omega),c1,eKdI,hkd,hne]
  have b1 : ∀ (r : Fx.T) Z', bCons (sIf (Fx.tOr (eBl (eBin gIs (eVar 6) (eC .non))) (eBl (eBin gNe (eMeth "Piece" "take" Ux [] (eVar 4) (aCons (eVar 5) (aCons (eVar 6) aNil))) (eFld ["Source"] "length" (eVar 3)))))
      (sRet (eC .non))
      sPass)
    (sRet (eMeth "Piece" "value" Qm [] (eVar 4) (aCons (eBin gEq (eVar 1) (eC (.str [102,111,108,100,101,100]))) aNil))) (bE t (styS fd) n (some (.loc si)) (some (.loc Z1.length)) (some (if clo (hdr u0).2.2.2 = true then .int ((2 + u0.length + 1 : Nat) : Int) else .non)) (some (if clo (hdr u0).2.2.2 = true then optI (ind n (hdr u0).2.1 lines) else .non))) Z' = .rt r Z' → True := fun _ _ _ => trivial
  clear b1
  suffices H : ∃ w6 Z4 r Z5, sSet 6 (eIf (eBl (eBin gIs (eVar 5) (eC .non))) (eC .non) (eMeth "Piece" "indentation" X7 [] (eVar 4) (aCons (eVar 5) aNil))) (bE t (styS fd) n (some (.loc si)) (some (.loc Z1.length)) (some (if clo (hdr u0).2.2.2 = true then .int ((2 + u0.length + 1 : Nat) : Int) else .non)) none) Z3 = .nx (bE t (styS fd) n (some (.loc si)) (some (.loc Z1.length)) (some (if clo (hdr u0).2.2.2 = true then .int ((2 + u0.length + 1 : Nat) : Int) else .non)) (some w6)) Z4 ∧
      bCons (sIf (Fx.tOr (eBl (eBin gIs (eVar 6) (eC .non))) (eBl (eBin gNe (eMeth "Piece" "take" Ux [] (eVar 4) (aCons (eVar 5) (aCons (eVar 6) aNil))) (eFld ["Source"] "length" (eVar 3)))))
      (sRet (eC .non))
      sPass)
    (sRet (eMeth "Piece" "value" Qm [] (eVar 4) (aCons (eBin gEq (eVar 1) (eC (.str [102,111,108,100,101,100]))) aNil))) (bE t (styS fd) n (some (.loc si)) (some (.loc Z1.length)) (some (if clo (hdr u0).2.2.2 = true then .int ((2 + u0.length + 1 : Nat) : Int) else .non)) (some w6)) Z4 = .rt r Z5 ∧ r = optS (blkP fd u0 n lines) ∧ Ext Z Z5 by
    obtain ⟨w6,Z4,r,Z5,c4,c5,rfl,x5⟩ := H
    refine ⟨Z5,Ut (n := 7) (as := [.str t,.str (styS fd),.int n]) ?_,x5⟩
    refine Zx b0 (Zx (ρ' := bE t (styS fd) n (some (.loc si)) none none none) (Z' := Z1) ?_ (Zx (ρ' := bE t (styS fd) n (some (.loc si)) (some (.loc Z1.length)) none none) (Z' := Z2) ?_ (Zx (ρ' := bE t (styS fd) n (some (.loc si)) (some (.loc Z1.length)) (some (if clo (hdr u0).2.2.2 = true then .int ((2 + u0.length + 1 : Nat) : Int) else .non)) none) (Z' := Z3) ?_ (Zx c4 c5))))
    · rw [Zpp,e1]; rfl
    · rw [Zpp,e2]; rfl
    · generalize (if clo (hdr u0).2.2.2 = true then Fx.T.int ((2 + u0.length + 1 : Nat) : Int) else .non) = RES at *
      simp [bE,eMeth,hme,e3]
  cases hc : clo (hdr u0).2.2.2 with
  | false =>
    rw [if_neg Bool.false_ne_true]
    refine ⟨.non,Z3,.non,Z3,by simp [bE,Fx.isNon],b_rt (by simp [bE,Fx.isNon]),?_,p3.ext⟩
    unfold blkP
    rw [hc]; rfl
  | true =>
    rw [if_pos rfl]
    obtain ⟨Z4,e4,k4⟩ := Zmh (by omega) p3 ha
    have p4 := p3.sk k4
    have hmi := p3.me (m := "indentation") (by simp [pcF, List.lookup_cons])
    have c4 : sSet 6 (eIf (eBl (eBin gIs (eVar 5) (eC .non))) (eC .non) (eMeth "Piece" "indentation" X7 [] (eVar 4) (aCons (eVar 5) aNil))) (bE t (styS fd) n (some (.loc si)) (some (.loc Z1.length)) (some (.int ((2 + u0.length + 1 : Nat) : Int))) none) Z3 = .nx (bE t (styS fd) n (some (.loc si)) (some (.loc Z1.length)) (some (.int ((2 + u0.length + 1 : Nat) : Int))) (some (optI (ind n (hdr u0).2.1 lines)))) Z4 := by
      generalize ((2 + u0.length + 1 : Nat) : Int) = q at *
      simp [bE,Fx.isNon,eMeth,hmi,e4]
    cases hi : ind n (hdr u0).2.1 lines with
    | none =>
      rw [hi] at c4
      refine ⟨.non,Z4,.non,Z4,c4,b_rt (by simp [bE,Fx.isNon]),?_,p4.ext⟩
      unfold blkP
      rw [hc,if_pos rfl,hi]; rfl
    | some w =>
      rw [hi] at c4
      have hw := Zq4 hn hi
      obtain ⟨wn,rfl⟩ : ∃ wn : Nat,w = (wn : Int) := ⟨w.toNat,by omega⟩
      have hmt := p4.me (m := "take") (by simp [pcF, List.lookup_cons])
      have ls := Zao p4.src
      have lp := Zaq (by omega) wn lines (2 + u0.length + 1) Lim [] 0 en3 none none none Z4 (by simpa using p4) ha (by unfold Lim; omega) (by simp; unfold Lim; omega)
      have fs4 := p4.f_source
      have hbk : blkP fd u0 n lines = match tkP wn lines [] 0 with | none => none | some (rows,e) => some (valP fd (hdr u0).2.2.1 rows e) := by
        unfold blkP
        rw [hc,if_pos rfl,hi]; rfl
      rw [hbk]
      cases htk : tkP wn lines [] 0 with
      | none =>
        rw [htk] at lp
        obtain ⟨i', Z5, e5, hne, rs, e', en', p5⟩ := lp
        have ft : Ux [.loc Z1.length, .int ((2 + u0.length + 1 : Nat) : Int), .int (wn : Int)] Z4 = .ok (.int i') Z5 := by
          refine Ut (n := 7) (as := [.loc Z1.length,.int ((2 + u0.length + 1 : Nat) : Int),.int (wn : Int)]) ?_
          refine Zx (ρ' := [some (.loc Z1.length), some (.int ((2 + u0.length + 1 : Nat) : Int)), some (.int (wn : Int)), some (.loc si), none, none, none]) (Z' := Z4) ?_ (b_rt e5)
          generalize ((2 + u0.length + 1 : Nat) : Int) = q at *
          simp [eFld,fs4]
        have ls5 := Zao p5.src
        refine ⟨.int (wn : Int),Z4,.non,Z5,c4,b_rt ?_,rfl,p5.ext⟩
        generalize ((2 + u0.length + 1 : Nat) : Int) = q at *
        simp [bE,Fx.isNon,eMeth,hmt,ft,eFld,ls5,hne]
      | some re =>
        obtain ⟨rows,e⟩ := re
        rw [htk] at lp
        obtain ⟨q4, q5, q6, en', Z5, e5, p5⟩ := lp
        obtain ⟨hb1,hb2,hb3⟩ := Ze4 (A := 50) (M := 400) htk hM (fun x hx => by cases hx) (by omega)
        obtain ⟨Z6,e6,k6⟩ := Zap p5.src (s.length : Int)
        have p6 := p5.sk k6
        have mm := Ws p5.src (m := "miss") (by decide)
        have ft : Ux [.loc Z1.length,.int ((2 + u0.length + 1 : Nat) : Int),.int (wn : Int)] Z4 = .ok (.int (s.length : Int)) Z6 := by
          refine Ut (n := 7) (as := [.loc Z1.length,.int ((2 + u0.length + 1 : Nat) : Int),.int (wn : Int)]) ?_
          refine Zx (ρ' := [some (.loc Z1.length), some (.int ((2 + u0.length + 1 : Nat) : Int)), some (.int (wn : Int)), some (.loc si), none, none, none]) (Z' := Z4) ?_ (Zx e5 ?_)
          · generalize ((2 + u0.length + 1 : Nat) : Int) = q at *
            simp [eFld,fs4]
          · simp [eMeth,mm,e6]
        have ls6 := Zao p6.src
        obtain ⟨Z7,e7,x7⟩ := Zoh fd (by omega) hb1 (by simp at hb2; omega) p6
        have hmv := p6.me (m := "value") (by simp [pcF, List.lookup_cons])
        refine ⟨.int (wn : Int), Z4, .str (valP fd (hdr u0).2.2.1 rows e), Z7, c4, Zx (ρ' := bE t (styS fd) n (some (.loc si)) (some (.loc Z1.length)) (some (.int ((2 + u0.length + 1 : Nat) : Int))) (some (.int (wn : Int)))) (Z' := Z6) (Zgu ?_) ?_, rfl, x7⟩
        · generalize ((2 + u0.length + 1 : Nat) : Int) = q at *
          simp [bE,Fx.isNon,eMeth,hmt,ft,eFld,ls6]
        · have hst2 : decide (styS fd = [102,111,108,100,101,100]) = fd := by cases fd <;> rfl
          show _ = RS.rt (.str (valP fd (hdr u0).2.2.1 rows e)) Z7
          generalize valP fd (hdr u0).2.2.1 rows e = V at *
          generalize hss : styS fd = ss at *
          simp [bE,eMeth,hmv,hst2,e7]
end Ap
set_option maxHeartbeats 8000000
namespace Ap
open PySem PySem.Spec PyProof.Rows L2 SX Fx
def okC (c : Nat) : Bool := (decide (32 ≤ c) && decide (c ≤ 126)) || decide (c = 9) || decide (c = 10)
theorem hit_s (l : List Nat) : ∀ k Z,k ≤ (l.map fun c => Fx.T.str [c]).length → itStr l k Z = some (l.map fun c => Fx.T.str [c])[k]? := fun k Z _ => by
  simp [itStr]
theorem Zar {t : List Nat} (hl : t.length ≤ Lim) (h : t.all okC = true) (Z : Sto) : ∃ Y,Z41 [.str t] Z = .ok (.bl true) (Z ++ Y) := by
  have e := Zim (Z1 := Z) (it := itStr t) (ts := t.map fun c => Fx.T.str [c]) (put := fun x => putN [1] x (wipeR [some (.str t),none] [1])) (c := eYes) (e := Z0l) (hit_s t) (by rw [List.length_map]; exact hl) (fun _ => true) (fun _ => .bl true) (fun x hx => by
    obtain ⟨c,hc,rfl⟩ := List.mem_map.mp hx
    refine ⟨[some (.str t),some (.str [c])],by rw [Z4j]; rfl,fun acc => ⟨rfl,fun _ => ?_⟩⟩
    have hok := List.all_eq_true.mp h c hc
    have k1 : ∀ Z,gLeW (.str [32]) (.str [c]) Z = some (.bl (decide (32 ≤ c)),Z) := fun Z => by
      show some (Fx.T.bl (!decide (([c] : List Nat) < [32])),Z) = _
      by_cases h1 : c < 32
      · rw [decide_eq_true ((lt1 _ _).mpr h1),decide_eq_false (by omega)]; rfl
      · rw [decide_eq_false (fun hh => h1 ((lt1 _ _).mp hh)),decide_eq_true (by omega)]; rfl
    have k2 : ∀ Z,gLeW (.str [c]) (.str [126]) Z = some (.bl (decide (c ≤ 126)),Z) := fun Z => by
      show some (Fx.T.bl (!decide (([126] : List Nat) < [c])),Z) = _
      by_cases h1 : 126 < c
      · rw [decide_eq_true ((lt1 _ _).mpr h1),decide_eq_false (by omega)]; rfl
      · rw [decide_eq_false (fun hh => h1 ((lt1 _ _).mp hh)),decide_eq_true (by omega)]; rfl
    have k3 : ∀ Z,gInW (.str [c]) (.str [9,10]) Z = some (.bl (decide (c = 9) || decide (c = 10)),Z) := fun Z => by
      have : gInB (.str [c]) (.str [9,10]) Z = some (decide (c = 9) || decide (c = 10)) := by simp [gInB]
      rw [Zb4]
      unfold gIn
      rw [this]; rfl
    unfold okC at hok
    cases h1 : decide (32 ≤ c) with
    | false =>
      have h3 : (decide (c = 9) || decide (c = 10)) = true := by simpa [h1] using hok
      rw [h3] at k3
      generalize Z ++ [O.lst acc] = ZZ
      simp [-Zb4,Z0l,k1,h1,k3]
    | true =>
      cases h2 : decide (c ≤ 126) with
      | true =>
        generalize Z ++ [O.lst acc] = ZZ
        simp [-Zb4,Z0l,k1,h1,k2,h2]
      | false =>
        have h3 : (decide (c = 9) || decide (c = 10)) = true := by simpa [h1,h2] using hok
        rw [h3] at k3
        generalize Z ++ [O.lst acc] = ZZ
        simp [-Zb4,Z0l,k1,h1,k2,h2,k3])
  have em : ((t.map fun c => Fx.T.str [c]).filter (fun _ => true)).map (fun _ => Fx.T.bl true) = t.map fun c => Fx.T.bl ((fun _ => true) c) := by
    rw [List.filter_eq_self.mpr (fun _ _ => rfl),List.map_map]; rfl
  rw [em] at e
  have hb := Z9z (fun _ : Nat => true) t
  refine ⟨[.lst (t.map fun c => Fx.T.bl ((fun _ => true) c))],?_⟩
  have hall : (t.map fun _ : Nat => true).all id = true := by
    rw [List.all_eq_true]
    intro b hb
    obtain ⟨_,_,rfl⟩ := List.mem_map.mp hb
    rfl
  generalize (t.map fun c => Fx.T.bl ((fun _ => true) c)) = BL at *
  generalize (t.map fun _ : Nat => true) = BB at *
  have gi : ∀ Z, gIsi [.str t, .ty "str"] Z = some (.bl true, Z) := fun Z => rfl
  simp [Z41,runF,Zf3,gi,e,hb,hall]
def ctB : List Nat := [98,108,111,99,107]
def ctF : List Nat := [102,108,111,119]
theorem Ze5 (fd : Bool) {ct : List Nat} (hct : ct = ctB ∨ ct = ctF) (Z : Sto) : Qe [.str (styS fd),.str ct] Z = .ok .non Z := by
  have g1 : ∀ Z, gIsi [.str (styS fd), .ty "str"] Z = some (.bl true, Z) := fun Z => rfl
  have g2 : ∀ Z, gIsi [.str ct, .ty "str"] Z = some (.bl true, Z) := fun Z => rfl
  have n1 : ∀ Z,gNotInW (.str (styS fd)) (.tup Zdd) Z = some (.bl false,Z) := fun Z => by cases fd <;> rfl
  have n2 : kdHas Z26 (.str ct) = some true := by rcases hct with rfl | rfl <;> rfl
  generalize styS fd = ss at *
  simp [-Zdc,Qe,runF,Z78,g1,g2,n1,tKdIn,n2]
theorem Ze6 {a b c : Int} (h1 : b ≤ a) (h2 : a ≤ c) (Z : Sto) : Uw [.int a,.int b,.int c] Z = .ok (.bl true) Z := by
  have g1 : ∀ Z, gIsi [.int a, .ty "int"] Z = some (.bl true, Z) := fun Z => rfl
  have g2 : ∀ Z, gIsi [.int a, .ty "bool"] Z = some (.bl false, Z) := fun Z => rfl
  simp [Uw,runF,Z8u,g1,g2,h1,h2]
theorem Zas {i d : Int} (h0 : 0 ≤ i) (h1 : i ≤ 100) (h2 : 1 ≤ d) (h3 : d ≤ 9) (h4 : d ≤ i + 1) (Z : Sto) : Vq [.int i,.int 0,.int d] Z = .ok .non Z := by
  have a := Ze6 h0 h1 Z
  have b := Ze6 (a := 0) (b := 0) (c := 200) (by omega) (by omega) Z
  have c := Ze6 (a := d) (b := 1) (c := (if i + 1 < 9 then i + 1 else 9)) h2 (by split <;> omega) Z
  simp [Vq,runF,Z42,a,b,c]
section
variable {fd : Bool} {u0 : List Nat} {lines : List (List Nat)} {i d : Int} {Z : Sto}
theorem Zn9 (h2 : 10 ∉ u0) (h3 : ∀ l ∈ lines,10 ∉ l) (hM : ∀ l ∈ lines,l.length ≤ 400) (hk : lines.length ≤ 30) (hu : u0.length ≤ 100) (hok : (sty fd :: (u0 ++ lines.flatMap (fun l => 10 :: l))).all okC = true) (hlen : (u0 ++ 10 :: lines.flatMap (fun l => l ++ [10])).length ≤ 20000)
    (h0 : 0 ≤ i) (h1 : i ≤ 100) (hd1 : 1 ≤ d) (hd2 : d ≤ 9) (hd3 : d ≤ i + 1) :
    (∃ Z', Yi [.str (sty fd :: (u0 ++ lines.flatMap (fun l => 10 :: l))), .str (styS fd), .str ctB, .int i, .int d] Z = .ok (optS (blkP fd u0 (i - d) lines)) Z' ∧ Ext Z Z') ∧
    (∃ Z', Yi [.str (sty fd :: (u0 ++ lines.flatMap (fun l => 10 :: l))), .str (styS fd), .str ctF, .int i, .int d] Z = .ok .non Z' ∧ Ext Z Z') := by
  have hj := congrArg List.length (Zgw lines)
  have hl : (sty fd :: (u0 ++ lines.flatMap (fun l => 10 :: l))).length ≤ Lim := by
    simp only [List.length_append,List.length_cons,List.length_nil] at hj hlen ⊢
    unfold Lim; omega
  obtain ⟨Y,et⟩ := Zar hl hok Z
  obtain ⟨Z1,hZ1⟩ : ∃ Z1,Z1 = Z ++ Y := ⟨_,rfl⟩
  rw [← hZ1] at et
  have x1 : Ext Z Z1 := by rw [hZ1]; exact (Ext.refl Z).app _
  obtain ⟨Z2,eb,x2⟩ := Zoi fd (n := i - d) (Z := Z1) h2 h3 (by omega) hM hk (by
    simp only [List.length_append,List.length_cons] at hlen ⊢
    unfold Lim; omega)
  have en := Zas h0 h1 hd1 hd2 hd3 Z
  have hh : kdHas Uq (.str (styS fd)) = some true := by cases fd <;> rfl
  have hne : sty fd :: (u0 ++ lines.flatMap (fun l => 10 :: l)) ≠ [] := by simp
  generalize hT : sty fd :: (u0 ++ lines.flatMap (fun l => 10 :: l)) = T at *
  have pB := Ze5 fd (ct := ctB) (.inl rfl) Z
  have pF := Ze5 fd (ct := ctF) (.inr rfl) Z
  have cB : (ctB = [98,108,111,99,107]) = True := by simp [ctB]
  have cF : (ctF = [98,108,111,99,107]) = False := by simp [ctF]
  generalize ctB = B at *
  generalize ctF = F at *
  generalize styS fd = SS at *
  constructor
  · refine ⟨Z2,?_,x1.trans x2⟩
    simp [Yi,runF,Nv,pB,en,et,hne,tKdIn,hh,cB,eb]
  · refine ⟨Z1,?_,x1⟩
    simp [Yi,runF,Nv,pF,en,et,hne,tKdIn,hh,cF]
end
end Ap
set_option maxHeartbeats 8000000
namespace Ap
open PySem PySem.Spec PyProof.Rows L2 SX Fx
def ems (fd : Bool) (k : Nat) (lw nw : Bool) (m : Nat) : Nat := if k = 0 ∨ (fd = true ∧ lw = false ∧ nw = false) then m else m - 1
def ptR (fd : Bool) : Nat → Bool → List (Nat × List Nat) → List (List Nat)
  | _,_,[] => []
  | k,lw,(m,x) :: rs => List.replicate (ems fd k lw (isW x) m) [] ++ x :: ptR fd (k + 1) (isW x) rs
def rwsL (fd : Bool) : Nat → Bool → List (Nat × List Nat) → List (Nat × List Nat)
  | _,_,[] => []
  | k,lw,(m,x) :: rs => (ems fd k lw (isW x) m,x) :: rwsL fd (k + 1) (isW x) rs
def lnOf (w : Nat) (p : List Nat) : List Nat := if p = [] then [] else List.replicate w 32 ++ p
def V0 (rows : List (Nat × List Nat)) : List Nat := rows.flatMap fun r => nls r.1 ++ r.2
theorem Zl0 : ∀ (k : Nat) (r : List Nat),bl (List.replicate k 32 ++ r) = k + bl r
  | 0,r => by simp
  | k + 1,r => by
    rw [List.replicate_succ,List.cons_append]
    show (if 32 = 32 then bl (List.replicate k 32 ++ r) + 1 else 0) = _
    rw [if_pos rfl,Zl0 k r]; omega
theorem Zmi (k : Nat) (r : List Nat) : (List.replicate k 32 ++ r).drop k = r := by
  have := List.drop_left (l₁ := List.replicate k 32) (l₂ := r)
  rwa [List.length_replicate] at this
theorem Zoj {w : Nat} (h : w ≠ 0) (x : List Nat) : isM (List.replicate w 32 ++ x) = false := by
  cases w with
  | zero => exact absurd rfl h
  | succ w => rw [List.replicate_succ]; simp [isM]
theorem Zhx (w : Nat) : ∀ (j : Nat) (l : List (List Nat)) (rows : List (Nat × List Nat)) (e : Nat),tkP w (List.replicate j [] ++ l) rows e = tkP w l rows (e + j)
  | 0,l,rows,e => rfl
  | j + 1,l,rows,e => by
    rw [List.replicate_succ,List.cons_append]
    show (if bl [] = ([] : List Nat).length ∧ bl [] ≤ w then tkP w (List.replicate j [] ++ l) rows (e + 1) else _) = _
    rw [if_pos ⟨rfl,Nat.zero_le _⟩,Zhx w j l rows (e + 1)]
    congr 1; omega
theorem Zgx (w j : Nat) : (List.replicate j ([] : List Nat)).map (lnOf w) = List.replicate j [] := by
  rw [List.map_replicate]; rfl
theorem Zq6 (fd : Bool) (w : Nat) : ∀ (rs : List (Nat × List Nat)) (k : Nat) (lw : Bool) (rows : List (Nat × List Nat)) (tail : List (List Nat)),(w = 0 → ∀ r ∈ rs,isM r.2 = false) → (∀ r ∈ rs,r.2 ≠ []) →
    tkP w ((ptR fd k lw rs).map (lnOf w) ++ tail) rows 0 = tkP w tail (rows ++ rwsL fd k lw rs) 0
  | [],k,lw,rows,tail,_,_ => by simp [ptR,rwsL]
  | (m,x) :: rs,k,lw,rows,tail,hm,hne => by
    have hx := hne (m,x) (by simp)
    simp only at hx
    show tkP w ((List.replicate (ems fd k lw (isW x) m) [] ++ x :: ptR fd (k + 1) (isW x) rs).map (lnOf w) ++ tail) rows 0 = _
    rw [List.map_append,Zgx,List.append_assoc,Zhx,List.map_cons,List.cons_append]
    have hl : lnOf w x = List.replicate w 32 ++ x := if_neg hx
    rw [hl]
    have hb := Zl0 w x
    have hlen : (List.replicate w 32 ++ x).length = w + x.length := by rw [List.length_append,List.length_replicate]
    have hxl : x.length ≠ 0 := fun h => hx (List.length_eq_zero_iff.mp h)
    have c1 : ¬ (bl (List.replicate w 32 ++ x) = (List.replicate w 32 ++ x).length ∧ bl (List.replicate w 32 ++ x) ≤ w) := by
      rw [hb,hlen]; omega
    have c2 : ¬ (bl (List.replicate w 32 ++ x) < w ∨ (w = 0 ∧ isM (List.replicate w 32 ++ x) = true)) := by
      rintro (h | ⟨h1,h2⟩)
      · rw [hb] at h; omega
      · have := hm h1 (m,x) (by simp)
        subst h1
        rw [List.replicate_zero,List.nil_append,this] at h2
        cases h2
    show (if bl (List.replicate w 32 ++ x) = (List.replicate w 32 ++ x).length ∧ bl (List.replicate w 32 ++ x) ≤ w then _ else if bl (List.replicate w 32 ++ x) < w ∨ (w = 0 ∧ isM (List.replicate w 32 ++ x) = true) then none else tkP w _ (rows ++ [(0 + ems fd k lw (isW x) m,(List.replicate w 32 ++ x).drop w)]) 0) = _
    rw [if_neg c1,if_neg c2,Zmi,Nat.zero_add,Zq6 fd w rs (k + 1) (isW x) _ tail (fun h r hr => hm h r (by simp [hr])) (fun r hr => hne r (by simp [hr])),List.append_assoc]
    rfl
theorem Zq7 (fd : Bool) : ∀ (rs : List (Nat × List Nat)) (k : Nat) (lw : Bool),(k ≠ 0 → ∀ r ∈ rs,1 ≤ r.1) → (∀ r ∈ rs.drop 1,1 ≤ r.1) → vlR fd k lw (rwsL fd k lw rs) = V0 rs
  | [],_,_,_,_ => rfl
  | (m,x) :: rs,k,lw,h1,h2 => by
    have ih := Zq7 fd rs (k + 1) (isW x) (fun _ => h2) (fun r hr => h2 r (List.mem_of_mem_drop hr))
    show gap fd k lw (isW x) (ems fd k lw (isW x) m) ++ x ++ vlR fd (k + 1) (isW x) (rwsL fd (k + 1) (isW x) rs) = nls m ++ x ++ V0 rs
    rw [ih]
    congr 2
    by_cases hk : k = 0
    · have he : ems fd k lw (isW x) m = m := if_pos (.inl hk)
      rw [he]
      unfold gap
      rw [if_pos hk]
    · have hm := h1 hk (m,x) (by simp)
      simp only at hm
      unfold gap
      rw [if_neg hk]
      by_cases hc : fd = true ∧ lw = false ∧ isW x = false
      · have he : ems fd k lw (isW x) m = m := if_pos (.inr hc)
        rw [if_pos hc,he,if_neg (by omega)]
      · have he : ems fd k lw (isW x) m = m - 1 := if_neg (by rintro (h | h); exact hk h; exact hc h)
        rw [if_neg hc,he,show m - 1 + 1 = m by omega]
def sgnL (feeds : Nat) : List Nat := if feeds = 0 then [45] else if feeds = 1 then [] else [43]
def dgtL (b : Bool) (d : Nat) : List Nat := if b = true then [48 + d] else []
theorem Zl1 : ∀ b ∈ [true,false],∀ d < 10,d ≠ 0 → ∀ f < 4,clo (hdr (dgtL b d ++ sgnL f)).2.2.2 = true ∧ (hdr (dgtL b d ++ sgnL f)).2.2.1 = sgnL f ∧ ((hdr (dgtL b d ++ sgnL f)).2.1 = if b = true then (d : Int) else 0) ∧ 10 ∉ dgtL b d ++ sgnL f ∧ (dgtL b d ++ sgnL f).all okC = true ∧ (dgtL b d ++ sgnL f).length ≤ 2 := by decide +kernel
theorem Zmj : ∀ c ∈ ([[45],[43]] : List (List Nat)),clo (hdr c).2.2.2 = true ∧ (hdr c).2.2.1 = c ∧ (hdr c).2.1 = 0 := by decide
theorem Zgy (n : Int) : ∀ (j : Nat) (L : Int) (l : List (List Nat)),0 ≤ L → indL n L (List.replicate j [] ++ l) = indL n L l
  | 0,_,_,_ => rfl
  | j + 1,L,l,hL => by
    rw [List.replicate_succ,List.cons_append]
    show (if bl [] = ([] : List Nat).length then indL n (max L ((([] : List Nat).length : Nat) : Int)) (List.replicate j [] ++ l) else _) = _
    rw [if_pos (show bl [] = ([] : List Nat).length from rfl),show max L ((([] : List Nat).length : Nat) : Int) = L by simp; omega]
    exact Zgy n j L l hL
def fst32 (rows : List (Nat × List Nat)) : Bool := match rows with
  | (_,32 :: _) :: _ => true
  | _ => false
theorem Zl2 (fd : Bool) {rows : List (Nat × List Nat)} {indent deep more feeds : Nat} (h0 : rows ≠ []) (hne : ∀ r ∈ rows,r.2 ≠ []) (h1 : ∀ r ∈ rows.drop 1,1 ≤ r.1) (hd1 : 1 ≤ deep) (hd2 : deep ≤ indent + 1) (hdm : deep + more < 10) (hf : feeds < 4)
    (hm : indent + more = 0 → ∀ r ∈ rows,isM r.2 = false) :
    blkP fd (dgtL (fst32 rows) (deep + more) ++ sgnL feeds) ((indent : Int) - (deep : Int)) ((ptR fd 0 true rows).map (lnOf (indent + more)) ++ List.replicate (feeds - 1) []) = some (V0 rows ++ nls feeds) := by
  obtain ⟨q1,q2,q3,_⟩ := Zl1 (fst32 rows) (by cases fst32 rows <;> simp) (deep + more) hdm (by omega) feeds hf
  unfold blkP
  rw [if_pos q1,q2,q3]
  have hind : ind ((indent : Int) - (deep : Int)) (if fst32 rows = true then ((deep + more : Nat) : Int) else 0) ((ptR fd 0 true rows).map (lnOf (indent + more)) ++ List.replicate (feeds - 1) []) = some ((indent + more : Nat) : Int) := by
    unfold ind
    cases hb : fst32 rows with
    | true =>
      rw [if_pos rfl,if_pos (by omega)]
      congr 1; omega
    | false =>
      rw [if_neg (by simp)]
      cases rows with
      | nil => exact absurd rfl h0
      | cons r rs =>
        obtain ⟨m,x⟩ := r
        have hx := hne (m,x) (by simp)
        simp only at hx
        show indL _ 0 ((List.replicate _ [] ++ x :: ptR fd 1 (isW x) rs).map (lnOf (indent + more)) ++ _) = _
        rw [List.map_append,Zgx,List.append_assoc,Zgy _ _ _ _ (Int.le_refl _),List.map_cons,List.cons_append]
        have hl : lnOf (indent + more) x = List.replicate (indent + more) 32 ++ x := if_neg hx
        rw [hl]
        have hbx : bl x = 0 := by
          cases x with
          | nil => exact absurd rfl hx
          | cons c x =>
            have : c ≠ 32 := fun e => by subst e; simp [fst32] at hb
            simp [bl,this]
        have hb2 := Zl0 (indent + more) x
        rw [hbx,Nat.add_zero] at hb2
        have hxl : x.length ≠ 0 := fun h => hx (List.length_eq_zero_iff.mp h)
        have hM : isM (List.replicate (indent + more) 32 ++ x) = false := by
          by_cases hw : indent + more = 0
          · have := hm hw (m,x) (by simp)
            rw [hw,List.replicate_zero,List.nil_append]
            exact this
          · exact Zoj hw x
        show (if bl (List.replicate (indent + more) 32 ++ x) = (List.replicate (indent + more) 32 ++ x).length then _ else if (bl (List.replicate (indent + more) 32 ++ x) : Int) ≤ (indent : Int) - (deep : Int) ∨ isM (List.replicate (indent + more) 32 ++ x) = true then _ else if (0 : Int) ≤ (bl (List.replicate (indent + more) 32 ++ x) : Int) then some (bl (List.replicate (indent + more) 32 ++ x) : Int) else none) = _
        rw [hb2,hM,if_neg (by rw [List.length_append,List.length_replicate]; omega),if_neg (by rintro (h | h); omega; cases h),if_pos (by omega)]
  rw [hind]
  show (match tkP ((indent + more : Nat) : Int).toNat _ [] 0 with | none => none | some (rows,e) => some (valP fd (sgnL feeds) rows e)) = _
  rw [show ((indent + more : Nat) : Int).toNat = indent + more by omega,Zq6 fd _ rows 0 true [] _ hm hne,List.nil_append]
  have he := Zhx (indent + more) (feeds - 1) [] (rwsL fd 0 true rows) 0
  rw [List.append_nil,Nat.zero_add] at he
  rw [he]
  show some (vlR fd 0 true (rwsL fd 0 true rows) ++ lstF (sgnL feeds) (rwsL fd 0 true rows) (feeds - 1)) = _
  rw [Zq7 fd rows 0 true (fun h => absurd rfl h) h1]
  congr 2
  have hr : rwsL fd 0 true rows ≠ [] := by
    cases rows with
    | nil => exact absurd rfl h0
    | cons r rs => exact List.cons_ne_nil _ _
  unfold lstF sgnL
  match feeds,hf with
  | 0,_ => simp [nls]
  | 1,_ => simp [hr]
  | 2,_ => simp [hr]
  | 3,_ => simp [hr]
def sgn0 (feeds : Nat) : List Nat := if 0 < feeds then [43] else [45]
theorem Zl3 (fd : Bool) {n : Int} (hn : -1 ≤ n) {feeds : Nat} : blkP fd (sgn0 feeds) n (List.replicate feeds []) = some (nls feeds) := by
  obtain ⟨q1,q2,q3⟩ := Zmj (sgn0 feeds) (by unfold sgn0; split <;> simp)
  unfold blkP
  rw [if_pos q1,q2,q3]
  have hind : ind n 0 (List.replicate feeds []) = some (max (n + 1) 0) := by
    have := Zgy n feeds 0 [] (Int.le_refl _)
    rw [List.append_nil] at this
    unfold ind
    rw [if_neg (by decide),this]
    rfl
  rw [hind]
  have he := Zhx (max (n + 1) 0).toNat feeds [] [] 0
  rw [List.append_nil,Nat.zero_add] at he
  show (match tkP (max (n + 1) 0).toNat (List.replicate feeds []) [] 0 with | none => none | some (rows,e) => some (valP fd (sgn0 feeds) rows e)) = _
  rw [he]
  show some ([] ++ lstF (sgn0 feeds) [] feeds) = _
  unfold lstF sgn0
  by_cases h : 0 < feeds
  · simp [h]
  · have : feeds = 0 := by omega
    subst this
    simp [nls]
end Ap
set_option maxHeartbeats 8000000
namespace Ap
open PySem PySem.Spec PyProof.Rows L2 SX Fx
theorem Zhy {it : ItF} {m : Nat} {u : Nat → Fx.T} {body : Fx.T → FS} {ρ : Fx.Env} {Z : Sto} (I : Nat → Fx.Env → Sto → Prop) (hl : m ≤ Lim) (hit : ∀ k ρ Z, I k ρ Z → k ≤ m → it k Z = some (if k < m then some (u k) else none)) (h0 : I 0 ρ Z) (h : ∀ k < m, ∀ ρ Z, I k ρ Z → ∃ ρ' Z', body (u k) ρ Z = .nx ρ' Z' ∧ I (k + 1) ρ' Z') :
    ∃ ρ' Z', loopN it body Fuel 0 ρ Z = .nx ρ' Z' ∧ I m ρ' Z' := by
  have key : ∀ n k ρ Z, I k ρ Z → k ≤ m → m < n + k → ∃ ρ' Z', loopN it body n k ρ Z = .nx ρ' Z' ∧ I m ρ' Z' := by
    intro n
    induction n with
    | zero => intro k ρ Z _ h1 h2; omega
    | succ n ih =>
      intro k ρ Z hi h1 h2
      by_cases hk : k < m
      · obtain ⟨ρ', Z', e, hi'⟩ := h k hk ρ Z hi
        obtain ⟨ρ2, Z2, e2, hi2⟩ := ih (k + 1) ρ' Z' hi' (by omega) (by omega)
        refine ⟨ρ2,Z2,?_,hi2⟩
        rw [← e2]
        conv => lhs; unfold loopN
        rw [hit k ρ Z hi h1,if_pos hk]
        simp only [e,Zcq]
      · have : k = m := by omega
        subst this
        refine ⟨ρ,Z,?_,hi⟩
        unfold loopN
        rw [hit k ρ Z hi h1,if_neg hk]
  exact key Fuel 0 ρ Z h0 (Nat.zero_le _) (by rw [Jv]; omega)
theorem Zl4 {m : Nat} {body : Fx.T → FS} {ρ : Fx.Env} {Z : Sto} (I : Nat → Fx.Env → Sto → Prop) (hl : m ≤ Lim) (h0 : I 0 ρ Z) (h : ∀ k < m, ∀ ρ Z, I k ρ Z → ∃ ρ' Z', body (.int (k : Int)) ρ Z = .nx ρ' Z' ∧ I (k + 1) ρ' Z') :
    ∃ ρ' Z', loopN (itRng 0 m) body Fuel 0 ρ Z = .nx ρ' Z' ∧ I m ρ' Z' :=
  Zhy (u := fun k => .int (k : Int)) I hl (fun k ρ Z _ hk => by
    simp only [itRng]
    by_cases h : k < m
    · rw [if_pos h,if_pos h,Int.zero_add]
    · rw [if_neg h,if_neg h]) h0 h
theorem Z2e {α : Type} {it : ItF} {put : Fx.T → Option Fx.Env} {c : FT} {e : FE} {l : List α} {u : α → Fx.T} {p : α → Bool} {fv : α → Fx.T} {Z1 : Sto} (hl : l.length ≤ Lim) (hit : ∀ k Z,Ext Z1 Z → k ≤ l.length → it k Z = some ((l[k]?).map u))
    (h : ∀ x ∈ l,∀ Z,Ext Z1 Z → ∃ ρ Z2,put (u x) = some ρ ∧ c ρ Z = .ok (p x) Z2 ∧ Ext Z Z2 ∧ (p x = true → ∃ Z3,e ρ Z2 = .ok (fv x) Z3 ∧ Ext Z2 Z3)) :
    ∃ Z', loopC it Z1.length put c e Fuel 0 (Z1 ++ [.lst []]) = .ok (.loc Z1.length) Z' ∧ Ext Z1 Z' ∧ getL Z' Z1.length = some ((l.filter p).map fv) := by
  have key : ∀ (post pre : List α) (n : Nat) (acc : List Fx.T) (Z : Sto), l = pre ++ post → post.length < n → Ext Z1 Z → getL Z Z1.length = some acc → acc.length ≤ pre.length → ∃ Z', loopC it Z1.length put c e n pre.length Z = .ok (.loc Z1.length) Z' ∧ Ext Z1 Z' ∧ getL Z' Z1.length = some (acc ++ (post.filter p).map fv) := by
    intro post
    induction post with
    | nil =>
      intro pre n acc Z hp hn hx hg ha
      obtain ⟨n, rfl⟩ : ∃ n', n = n' + 1 := ⟨n - 1, by omega⟩
      refine ⟨Z,?_,hx,by rw [hg]; simp⟩
      unfold loopC
      rw [hit _ Z hx (by rw [hp]; simp),hp]
      simp
    | cons x post ih =>
      intro pre n acc Z hp hn hx hg ha
      obtain ⟨n, rfl⟩ : ∃ n', n = n' + 1 := ⟨n - 1, by omega⟩
      rw [List.length_cons] at hn
      obtain ⟨ρ,Z2,h1,h2,h3,h4⟩ := h x (by rw [hp]; simp) Z hx
      have hx2 := hx.trans h3
      have hg2 := h3.getL hg
      have hpl : pre.length < l.length := by rw [hp]; simp
      have e0 : it pre.length Z = some (some (u x)) := by
        rw [hit _ Z hx (by omega),hp]; simp
      have hp2 : l = (pre ++ [x]) ++ post := by rw [hp]; simp
      unfold loopC
      simp only [e0,h1,h2,Zex,Xr]
      cases hpx : p x with
      | false =>
        rw [if_neg Bool.false_ne_true]
        obtain ⟨Z', e1, x1, g1⟩ := ih (pre ++ [x]) n acc Z2 hp2 (by omega) hx2 hg2 (by rw [List.length_append]; omega)
        rw [List.length_append] at e1
        exact ⟨Z', e1, x1, by rw [g1, List.filter_cons_of_neg (by rw [hpx]; exact Bool.false_ne_true)]⟩
      | true =>
        rw [if_pos rfl]
        obtain ⟨Z3,h5,h6⟩ := h4 hpx
        have hx3 := hx2.trans h6
        have hg3 := h6.getL hg2
        obtain ⟨Z', e1, x1, g1⟩ := ih (pre ++ [x]) n (acc ++ [fv x]) (Z3.set Z1.length (.lst (acc ++ [fv x]))) hp2 (by omega) (hx3.set (Nat.le_refl _)) (Vw hg3) (by rw [List.length_append, List.length_append, List.length_singleton, List.length_singleton]; omega)
        rw [List.length_append] at e1
        refine ⟨Z', ?_, x1, by rw [g1, List.filter_cons_of_pos hpx]; simp⟩
        simp only [h5,Zex,Xr,hg3]
        rw [if_pos (by omega)]
        exact e1
  obtain ⟨Z', e1, x1, g1⟩ := key l [] Fuel [] (Z1 ++ [.lst []]) rfl (by rw [Jv]; omega) ((Ext.refl Z1).app _) (Ym _ _) (Nat.le_refl _)
  exact ⟨Z', e1, x1, by rw [g1, List.nil_append]⟩
theorem Zl5 (c k : Nat) (Z : Sto) (h : k ≤ 100000) : gMul (.str [c]) (.int (k : Int)) Z = some (.str (List.replicate k c),Z) := by
  have := Zkb c (k : Int) Z ⟨by omega,by omega⟩
  rw [this,show ((k : Int)).toNat = k by omega]
theorem loopL {α : Type} (l : List α) (f : α → Fx.T) {L : Nat} {body : Fx.T → FS} {ρ : Fx.Env} {Z : Sto} (I : List α → Fx.Env → Sto → Prop) (hl : l.length ≤ Lim) (hI : ∀ pre ρ Z,I pre ρ Z → getL Z L = some (l.map f)) (h0 : I [] ρ Z)
    (h : ∀ pre x post, l = pre ++ x :: post → ∀ ρ Z, I pre ρ Z → ∃ ρ' Z', body (f x) ρ Z = .nx ρ' Z' ∧ I (pre ++ [x]) ρ' Z') : ∃ ρ' Z', loopN (itLoc L) body Fuel 0 ρ Z = .nx ρ' Z' ∧ I l ρ' Z' := by
  by_cases hn : l = []
  · subst hn
    refine ⟨ρ,Z,?_,h0⟩
    have g := hI _ _ _ h0
    rw [Jv]
    conv => lhs; unfold loopN
    simp [itLoc,g]
  · obtain ⟨a,_⟩ := List.exists_mem_of_ne_nil l hn
    obtain ⟨ρ', Z', e, hi⟩ := Zhy (it := itLoc L) (m := l.length) (u := fun k => f (l.getD k a)) (body := body) (ρ := ρ) (Z := Z) (fun k => I (l.take k)) hl (fun k ρ Z hI' hk => by
      have g := hI _ _ _ hI'
      show Option.map (fun ts => ts[k]?) (getL Z L) = _
      rw [g]
      by_cases h : k < l.length
      · rw [if_pos h]
        simp [List.getD_eq_getElem?_getD,List.getElem?_eq_getElem h]
      · rw [if_neg h]
        have : l[k]? = none := List.getElem?_eq_none (by omega)
        simp [this]) h0 (fun k hk ρ Z hI' => by
      have hx : l.getD k a = l[k] := by simp [List.getD_eq_getElem?_getD,List.getElem?_eq_getElem hk]
      have hsp : l = l.take k ++ l[k] :: l.drop (k + 1) := by
        rw [← List.drop_eq_getElem_cons hk,List.take_append_drop]
      have ht : l.take (k + 1) = l.take k ++ [l[k]] := by
        rw [List.take_succ,List.getElem?_eq_getElem hk]; rfl
      rw [hx]
      show ∃ ρ' Z', _ ∧ I (l.take (k + 1)) ρ' Z'
      rw [ht]
      exact h _ _ _ hsp ρ Z hI')
    rw [List.take_length] at hi
    exact ⟨ρ', Z', e, hi⟩
theorem loopCP {α : Type} {it : ItF} {put : Fx.T → Option Fx.Env} {c : FT} {e : FE} {l : List α} {u : α → Fx.T} {Z1 : Sto} (P : α → Fx.T → Sto → Prop) (hl : l.length ≤ Lim) (hit : ∀ k Z,Ext Z1 Z → k ≤ l.length → it k Z = some ((l[k]?).map u))
    (hP : ∀ x y Z Z', P x y Z → Z.length ≤ Z'.length → (∀ j < Z.length, j ≠ Z1.length → Z'[j]? = Z[j]?) → P x y Z')
    (h : ∀ x ∈ l,∀ Z,Ext Z1 Z → Z1.length < Z.length → ∃ ρ y Z2,put (u x) = some ρ ∧ c ρ Z = .ok true Z ∧ e ρ Z = .ok y Z2 ∧ Ext Z Z2 ∧ P x y Z2) :
    ∃ (Z' : Sto) (prs : List (α × Fx.T)), loopC it Z1.length put c e Fuel 0 (Z1 ++ [.lst []]) = .ok (.loc Z1.length) Z' ∧ Ext Z1 Z' ∧ prs.map Prod.fst = l ∧ getL Z' Z1.length = some (prs.map Prod.snd) ∧ ∀ q ∈ prs, P q.1 q.2 Z' := by
  have key : ∀ (post pre : List α) (n : Nat) (prs : List (α × Fx.T)) (Z : Sto),l = pre ++ post → post.length < n → Ext Z1 Z → prs.map Prod.fst = pre → getL Z Z1.length = some (prs.map Prod.snd) → (∀ q ∈ prs,P q.1 q.2 Z) →
      ∃ (Z' : Sto) (prs' : List (α × Fx.T)), loopC it Z1.length put c e n pre.length Z = .ok (.loc Z1.length) Z' ∧ Ext Z1 Z' ∧ prs'.map Prod.fst = l ∧ getL Z' Z1.length = some (prs'.map Prod.snd) ∧ ∀ q ∈ prs', P q.1 q.2 Z' := by
    intro post
    induction post with
    | nil =>
      intro pre n prs Z hp hn hx hf hg hq
      obtain ⟨n, rfl⟩ : ∃ n', n = n' + 1 := ⟨n - 1, by omega⟩
      refine ⟨Z,prs,?_,hx,by rw [hf,hp,List.append_nil],hg,hq⟩
      unfold loopC
      rw [hit _ Z hx (by rw [hp]; simp),hp]
      simp
    | cons x post ih =>
      intro pre n prs Z hp hn hx hf hg hq
      obtain ⟨n, rfl⟩ : ∃ n', n = n' + 1 := ⟨n - 1, by omega⟩
      rw [List.length_cons] at hn
      have hpl : pre.length < l.length := by rw [hp]; simp
      have hpr : prs.length = pre.length := by rw [← hf,List.length_map]
      obtain ⟨ρ,y,Z2,h1,h2,h3,h4,h5⟩ := h x (by rw [hp]; simp) Z hx (Z1u hg)
      have e0 : it pre.length Z = some (some (u x)) := by
        rw [hit _ Z hx (by omega),hp]; simp
      have hp2 : l = (pre ++ [x]) ++ post := by rw [hp]; simp
      have hg2 := h4.getL hg
      have hle := h4.len
      obtain ⟨Z', prs', e1, x1, r1, r2, r3⟩ := ih (pre ++ [x]) n (prs ++ [(x, y)]) (Z2.set Z1.length (.lst (prs.map Prod.snd ++ [y]))) hp2 (by omega) ((hx.trans h4).set (Nat.le_refl _)) (by rw [List.map_append, hf]; rfl) (by rw [Vw hg2, List.map_append]; rfl) (fun q hq' => by
        rcases List.mem_append.mp hq' with h | h
        · refine hP _ _ _ _ (hP _ _ _ _ (hq q h) hle (fun j hj _ => ?_)) (by rw [List.length_set]; omega) (fun j _ hj => List.getElem?_set_ne (Ne.symm hj))
          obtain ⟨Y,rfl⟩ := h4
          exact List.getElem?_append_left hj
        · rw [List.mem_singleton.mp h]
          exact hP _ _ _ _ h5 (by rw [List.length_set]; omega) (fun j _ hj => List.getElem?_set_ne (Ne.symm hj)))
      rw [List.length_append] at e1
      refine ⟨Z', prs', ?_, x1, r1, r2, r3⟩
      unfold loopC
      simp only [e0,h1,h2,Zex,Xr,if_true,h3,hg2]
      rw [if_pos (by rw [List.length_map]; omega)]
      exact e1
  obtain ⟨Z', prs, e1, x1, r⟩ := key l [] Fuel [] (Z1 ++ [.lst []]) rfl (by rw [Jv]; omega) ((Ext.refl Z1).app _) rfl (Ym _ _) (fun q hq => by cases hq)
  exact ⟨Z', prs, e1, x1, r⟩
theorem Z1p (j : Nat) : (List.replicate j ([] : List Nat)).flatMap (fun l => 10 :: l) = nls j := by
  induction j with
  | zero => rfl
  | succ j ih => rw [List.replicate_succ,List.flatMap_cons,ih]; rfl
theorem Ze7 (j : Nat) (x : List Nat) : nls j ++ 10 :: x = nls (j + 1) ++ x := by
  have : nls (j + 1) = nls j ++ [10] := by
    unfold nls
    rw [List.replicate_succ']
  rw [this,List.append_assoc]; rfl
theorem Zl6 : ∀ (rs : List (Nat × List Nat)) (k : Nat) (lw : Bool),k ≠ 0 → (∀ r ∈ rs,1 ≤ r.1) → (ptR false k lw rs).flatMap (fun l => 10 :: l) = V0 rs
  | [],_,_,_,_ => rfl
  | (m,x) :: rs,k,lw,hk,h => by
    have hm := h (m,x) (by simp)
    simp only at hm
    have he : ems false k lw (isW x) m = m - 1 := if_neg (by rintro (h | h); exact hk h; cases h.1)
    show (List.replicate (ems false k lw (isW x) m) [] ++ x :: ptR false (k + 1) (isW x) rs).flatMap (fun l => 10 :: l) = nls m ++ x ++ V0 rs
    rw [he,List.flatMap_append,Z1p,List.flatMap_cons,Zl6 rs (k + 1) (isW x) (by omega) (fun r hr => h r (by simp [hr])),List.cons_append,Ze7,show m - 1 + 1 = m by omega,List.append_assoc]
theorem Ze8 : ∀ (x : List Nat) (ls : List (List Nat)),TL.joinL [10] (x :: ls) = x ++ ls.flatMap (fun l => 10 :: l)
  | x,[] => by simp [TL.joinL]
  | x,l :: ls => by
    show x ++ ([10] ++ TL.joinL [10] (l :: ls)) = _
    rw [Ze8 l ls,List.flatMap_cons]
    rfl
theorem Zmk : ∀ (j : Nat) (x : List Nat) (ls : List (List Nat)),TL.joinL [10] (List.replicate j [] ++ x :: ls) = nls j ++ x ++ ls.flatMap (fun l => 10 :: l)
  | 0,x,ls => Ze8 x ls
  | j + 1,x,ls => by
    rw [List.replicate_succ,List.cons_append,Ze8,List.flatMap_append,Z1p,List.flatMap_cons,List.cons_append,List.nil_append,Ze7,List.append_assoc]
theorem Zok {rows : List (Nat × List Nat)} (h0 : rows ≠ []) (h1 : ∀ r ∈ rows.drop 1,1 ≤ r.1) : TL.joinL [10] (ptR false 0 true rows) = V0 rows := by
  cases rows with
  | nil => exact absurd rfl h0
  | cons r rs =>
    obtain ⟨m,x⟩ := r
    show TL.joinL [10] (List.replicate (ems false 0 true (isW x) m) [] ++ x :: ptR false 1 (isW x) rs) = nls m ++ x ++ V0 rs
    have he : ems false 0 true (isW x) m = m := if_pos (.inl rfl)
    rw [he,Zmk,Zl6 rs 1 (isW x) (by omega) h1]
theorem Zcl {fd : Bool} : ∀ (rs : List (Nat × List Nat)) (k : Nat) (lw : Bool) (p : List Nat),p ∈ ptR fd k lw rs → p = [] ∨ ∃ r ∈ rs,p = r.2
  | [],_,_,p,h => by cases h
  | (m,x) :: rs,k,lw,p,h => by
    rcases List.mem_append.mp h with h | h
    · exact .inl (List.mem_replicate.mp h).2
    · rcases List.mem_cons.mp h with h | h
      · exact .inr ⟨(m,x),by simp,h⟩
      · rcases Zcl rs (k + 1) (isW x) p h with h | ⟨r,hr,h⟩
        · exact .inl h
        · exact .inr ⟨r,by simp [hr],h⟩
theorem Zfy {fd : Bool} : ∀ (rs : List (Nat × List Nat)) (k : Nat) (lw : Bool),(∀ r ∈ rs,r.1 ≤ 3) → (ptR fd k lw rs).length ≤ 4 * rs.length
  | [],_,_,_ => Nat.zero_le _
  | (m,x) :: rs,k,lw,h => by
    have ih := Zfy (fd := fd) rs (k + 1) (isW x) fun r hr => h r (by simp [hr])
    have hm := h (m,x) (by simp)
    simp only at hm
    show (List.replicate (ems fd k lw (isW x) m) [] ++ x :: ptR fd (k + 1) (isW x) rs).length ≤ _
    have : ems fd k lw (isW x) m ≤ m := by unfold ems; split <;> omega
    rw [List.length_append,List.length_replicate,List.length_cons,List.length_cons]; omega
def stp (fd : Bool) (a : List (List Nat) × Bool) (p : List Nat) : List (List Nat) × Bool := (a.1 ++ (if fd = true ∧ p ≠ [] ∧ isW p = false ∧ a.2 = true then [[]] else []) ++ [p],if p = [] then a.2 else !isW p)
theorem Zl7 (fd : Bool) : ∀ (j : Nat) (a : List (List Nat) × Bool),(List.replicate j []).foldl (stp fd) a = (a.1 ++ List.replicate j [],a.2)
  | 0,a => by simp
  | j + 1,a => by
    rw [List.replicate_succ,List.foldl_cons,Zl7 fd j]
    simp [stp]
theorem Zna (fd : Bool) : ∀ (rs : List (Nat × List Nat)) (k : Nat) (lw : Bool) (acc : List (List Nat)),(∀ r ∈ rs,r.2 ≠ []) → (k = 0 → lw = true) → (k ≠ 0 → ∀ r ∈ rs,1 ≤ r.1) → (∀ r ∈ rs.drop 1,1 ≤ r.1) →
    ∃ b,(ptR false k lw rs).foldl (stp fd) (acc,!lw) = (acc ++ ptR fd k lw rs,b)
  | [],k,lw,acc,_,_,_,_ => ⟨!lw,by simp [ptR]⟩
  | (m,x) :: rs,k,lw,acc,hne,h0,h1,h2 => by
    have hx := hne (m,x) (by simp)
    simp only at hx
    obtain ⟨b,ih⟩ := Zna fd rs (k + 1) (isW x) (acc ++ (List.replicate (ems fd k lw (isW x) m) [] ++ [x])) (fun r hr => hne r (by simp [hr])) (fun h => by omega) (fun _ => h2) (fun r hr => h2 r (List.mem_of_mem_drop hr))
    refine ⟨b,?_⟩
    show (List.replicate (ems false k lw (isW x) m) [] ++ x :: ptR false (k + 1) (isW x) rs).foldl (stp fd) (acc,!lw) = (acc ++ (List.replicate (ems fd k lw (isW x) m) [] ++ x :: ptR fd (k + 1) (isW x) rs),b)
    rw [List.foldl_append,Zl7,List.foldl_cons]
    have hst : stp fd (acc ++ List.replicate (ems false k lw (isW x) m) [],!lw) x = (acc ++ (List.replicate (ems fd k lw (isW x) m) [] ++ [x]),!isW x) := by
      unfold stp
      simp only [if_neg hx]
      congr 1
      by_cases hk : k = 0
      · have hlw := h0 hk
        have e1 : ems false k lw (isW x) m = m := if_pos (.inl hk)
        have e2 : ems fd k lw (isW x) m = m := if_pos (.inl hk)
        rw [e1,e2,hlw,if_neg (by rintro ⟨_,_,_,h⟩; cases h)]
        simp
      · have hm := h1 hk (m,x) (by simp)
        simp only at hm
        have e1 : ems false k lw (isW x) m = m - 1 := if_neg (by rintro (h | h); exact hk h; cases h.1)
        by_cases hc : fd = true ∧ lw = false ∧ isW x = false
        · have e2 : ems fd k lw (isW x) m = m := if_pos (.inr hc)
          rw [e1,e2,if_pos ⟨hc.1,hx,hc.2.2,by rw [hc.2.1]; rfl⟩]
          obtain ⟨m', rfl⟩ : ∃ m', m = m' + 1 := ⟨m - 1, by omega⟩
          rw [show m' + 1 - 1 = m' by omega, List.replicate_succ']
          simp
        · have e2 : ems fd k lw (isW x) m = m - 1 := if_neg (by rintro (h | h); exact hk h; exact hc h)
          rw [e1,e2,if_neg (by
            rintro ⟨h3,_,h4,h5⟩
            exact hc ⟨h3,by simpa using h5,h4⟩)]
          simp
    rw [hst,ih]
    simp
def rwL : List (List Nat) := [[97],[98,32,99],[100,32,32,101],[32,102],[32,32],[9,103],[45,45,45,32,104],[46,46,46],[105,32],[35,106],[45,32,107]]
structure RowsOk (rows : List (Nat × List Nat)) : Prop where
  mem : ∀ r ∈ rows,r.1 ≤ 3 ∧ r.2 ∈ rwL
  ge : ∀ r ∈ rows.drop 1,1 ≤ r.1
  len : rows.length ≤ 5
theorem Z0v : ∀ x ∈ rwL,x ≠ [] ∧ 10 ∉ x ∧ x.all okC = true ∧ x.length ≤ 5 := by decide
theorem Zcm : ∀ rows : List (Nat × List Nat),(∀ r ∈ rows,r.1 ≤ 3 ∧ r.2 ∈ rwL) → (V0 rows).length ≤ 8 * rows.length ∧ (V0 rows).all okC = true
  | [],_ => ⟨Nat.le_refl _,rfl⟩
  | (m,x) :: rs,h => by
    obtain ⟨a,b⟩ := Zcm rs fun r hr => h r (by simp [hr])
    obtain ⟨h1,h2⟩ := h (m,x) (by simp)
    obtain ⟨_,_,h3,h4⟩ := Z0v x h2
    simp only at h1
    have hn : (nls m).all okC = true := by
      rw [List.all_eq_true]
      intro c hc
      rw [(List.mem_replicate.mp hc).2]; rfl
    have hv : V0 ((m,x) :: rs) = nls m ++ x ++ V0 rs := rfl
    rw [hv]
    refine ⟨?_,by rw [List.all_append,List.all_append,hn,h3,b]; rfl⟩
    rw [List.length_append,List.length_append,List.length_cons]
    have : (nls m).length = m := List.length_replicate ..
    omega
section
variable {Z : Sto} {rows : List (Nat × List Nat)}
theorem Zol (h' : RowsOk rows) (h0 : rows ≠ []) (fd : Bool) : ∃ l Z', Z4o [.str (V0 rows), .bl fd] Z = .ok (.loc l) Z' ∧ getL Z' l = some ((ptR fd 0 true rows).map .str) ∧ Ext Z Z' ∧ Z.length ≤ l := by
  obtain ⟨vl, _⟩ := Zcm rows h'.mem
  have hlen := h'.len
  have hsp : TL.spl [10] 0 [] (V0 rows) = ptR false 0 true rows := by
    rw [← Zok h0 h'.ge]
    refine TL.spl_join ?_ fun p hp => ?_
    · cases rows with
      | nil => exact absurd rfl h0
      | cons r rs => obtain ⟨m,x⟩ := r; show List.replicate _ [] ++ x :: _ ≠ []; simp
    · rcases Zcl _ _ _ _ hp with rfl | ⟨r,hr,rfl⟩
      · simp
      · exact (Z0v _ (h'.mem r hr).2).2.1
  have hpl := Zfy (fd := false) rows 0 true fun r hr => (h'.mem r hr).1
  obtain ⟨SP,hSP⟩ : ∃ SP,SP = ptR false 0 true rows := ⟨_,rfl⟩
  obtain ⟨Z1,hZ1⟩ : ∃ Z1,Z1 = Z ++ [O.lst []] := ⟨_,rfl⟩
  obtain ⟨Z2,hZ2⟩ : ∃ Z2,Z2 = Z1 ++ [O.lst (SP.map .str)] := ⟨_,rfl⟩
  have x2 : Ext Z Z2 := by rw [hZ2,hZ1]; exact ((Ext.refl Z).app _).app _
  have hl1 : Z1.length = Z.length + 1 := by rw [hZ1]; simp
  have sp : gSplit (.str (V0 rows)) [.str [10]] Z1 = some (.loc Z1.length,Z2) := by
    show (if (V0 rows).length ≤ 100000 ∧ (10 : Nat) < 256 then some (Fx.T.loc Z1.length,Z1 ++ [O.lst ((TL.spl [10] 0 [] (V0 rows)).map .str)]) else none) = _
    rw [if_pos ⟨by omega,by decide⟩,hsp,hZ2,hSP]
  rw [← hSP] at hpl
  obtain ⟨ρ3, Z3, e3, o4, o5, rfl, x3, g3, g3'⟩ := loopL SP .str (L := Z1.length) (body := fun t ρ' Z' => bS ρ' (gNm 4 t ρ' Z') Z8v) (ρ := [some (.str (V0 rows)), some (.bl fd), some (.loc Z.length), some (.bl false), none, none]) (Z := Z2)
    (fun pre ρ Z' => ∃ o4 o5, ρ = [some (.str (V0 rows)), some (.bl fd), some (.loc Z.length), some (.bl (pre.foldl (stp fd) ([], false)).2), o4, o5] ∧ Ext Z Z' ∧ getL Z' Z1.length = some (SP.map .str) ∧ getL Z' Z.length = some ((pre.foldl (stp fd) ([], false)).1.map .str)) (by unfold Lim; omega) (fun pre ρ Z' hI => by obtain ⟨_, _, _, _, g, _⟩ := hI; exact g)
    ⟨none,none,rfl,x2,by rw [hZ2]; exact Ym _ _,by rw [hZ2]; exact Ue (by rw [hZ1]; exact Ym _ _)⟩
    (fun pre p post hp ρ Z' hI => by
      obtain ⟨o4,o5,rfl,xe,g1,g2⟩ := hI
      have hlp : pre.length ≤ 4 * rows.length := by
        have := congrArg List.length hp
        rw [List.length_append,List.length_cons] at this
        omega
      have hacc : ∀ l : List (List Nat),(l.foldl (stp fd) ([],false)).1.length ≤ 2 * l.length := by
        intro l
        have : ∀ (l : List (List Nat)) (a : List (List Nat) × Bool),(l.foldl (stp fd) a).1.length ≤ a.1.length + 2 * l.length := by
          intro l
          induction l with
          | nil => intro a; simp
          | cons p l ih =>
            intro a
            rw [List.foldl_cons]
            have := ih (stp fd a p)
            have h2 : (stp fd a p).1.length ≤ a.1.length + 2 := by
              unfold stp
              simp only [List.length_append]
              split <;> simp
            rw [List.length_cons]; omega
        have := this l ([],false)
        simpa using this
      have hal := hacc pre
      rw [List.foldl_append,List.foldl_cons,List.foldl_nil]
      generalize pre.foldl (stp fd) ([],false) = A at *
      obtain ⟨acc,j⟩ := A
      simp only at hal g2
      obtain ⟨bare,hbare⟩ : ∃ bare,bare = (decide (p ≠ []) && !isW p) := ⟨_,rfl⟩
      obtain ⟨ZA, hZA⟩ : ∃ ZA, ZA = if fd = true ∧ bare = true ∧ j = true then Z'.set Z.length (.lst (acc.map .str ++ [.str []])) else Z' := ⟨_, rfl⟩
      obtain ⟨accA,haccA⟩ : ∃ accA,accA = acc ++ (if fd = true ∧ bare = true ∧ j = true then [[]] else []) := ⟨_,rfl⟩
      have gA : getL ZA Z.length = some (accA.map .str) := by
        rw [hZA,haccA]
        split
        · rw [Vw g2,List.map_append]; rfl
        · rw [List.append_nil]; exact g2
      have xA : Ext Z ZA := by
        rw [hZA]
        split
        · exact xe.set (Nat.le_refl _)
        · exact xe
      have gA1 : getL ZA Z1.length = some (SP.map .str) := by
        rw [hZA]
        split
        · rw [Ys,List.getElem?_set_ne (by omega)]; exact Ys.mp g1
        · exact g1
      have hst : stp fd (acc,j) p = (accA ++ [p],if p = [] then j else bare) := by
        unfold stp
        rw [haccA,hbare]
        by_cases hp0 : p = []
        · simp [hp0]
        · have hi : (fd = true ∧ p ≠ [] ∧ isW p = false ∧ j = true) ↔ (fd = true ∧ (decide (p ≠ []) && !isW p) = true ∧ j = true) := by simp [hp0]
          simp [hp0]
      have haccl : accA.length ≤ acc.length + 1 := by
        rw [haccA,List.length_append]
        split <;> simp
      have apA := Zf1 Z.length (.str p) ZA gA (by rw [List.length_map]; unfold Lim; omega)
      have tA := Z75 gA
      have t0 := Z75 g2
      refine ⟨[some (.str (V0 rows)),some (.bl fd),some (.loc Z.length),some (.bl (if p = [] then j else bare)),some (.str p),some (.bl bare)],ZA.set Z.length (.lst (accA.map .str ++ [.str p])),?_,some (.str p),some (.bl bare),by rw [hst],xA.set (Nat.le_refl _),?_,?_⟩
      · have b0 : sSet 5 (eAnd (eBin gNe (eVar 4) (eC (.str []))) (eBin gNotInW (eBin gIxW (eVar 4) (eC (.int 0))) (eC (.tup Z65)))) [some (.str (V0 rows)), some (.bl fd), some (.loc Z.length), some (.bl j), some (.str p), o5] Z' = .nx [some (.str (V0 rows)), some (.bl fd), some (.loc Z.length), some (.bl j), some (.str p), some (.bl bare)] Z' := by
          cases p with
          | nil => rw [hbare]; simp
          | cons c r =>
            have i2 := Zck [c] [32] [9] Z'
            have hni : gNotInW (.str [c]) (.tup Z65) Z' = some (.bl (!isW (c :: r)), Z') := by
              have h1 := i2
              rw [Zb3] at h1
              rw [Zdc]
              unfold gIn at h1
              unfold gNotIn
              show Option.map _ (gInB (.str [c]) (.tup [.str [32], .str [9]]) Z') = _
              cases hb : gInB (.str [c]) (.tup [.str [32], .str [9]]) Z' with
              | none => rw [hb] at h1; cases h1
              | some b =>
                rw [hb] at h1
                cases h1
                rfl
            have ix : ∀ Z,gIxW (.str (c :: r)) (.int 0) Z = some (.str [c],Z) := fun Z => by
              have hl5 : (c :: r).length ≤ Lim := by
                have hm : (c :: r) ∈ SP := by rw [hp]; simp
                rw [hSP] at hm
                rcases Zcl _ _ _ _ hm with h | ⟨q,hq,h⟩
                · cases h
                · rw [h]
                  have := (Z0v _ (h'.mem q hq).2).2.2.2
                  unfold Lim; omega
              rw [Zf2,Fx.ix_str,if_pos hl5,show atI (c :: r) 0 = some c from Fx.atI_nat (k := 0) rfl]; rfl
            rw [hbare]
            simp [-Zdc,-Zf2,ix,hni]
        refine Zx b0 (Zx (ρ' := [some (.str (V0 rows)), some (.bl fd), some (.loc Z.length), some (.bl j), some (.str p), some (.bl bare)]) (Z' := ZA) ?_ (Zx (ρ' := [some (.str (V0 rows)), some (.bl fd), some (.loc Z.length), some (.bl (if p = [] then j else bare)), some (.str p), some (.bl bare)]) (Z' := ZA) ?_ ?_))
        · have ap0 := Zf1 Z.length (.str []) Z' g2 (by rw [List.length_map]; unfold Lim; omega)
          rw [hZA]
          clear hZA haccA hst hbare b0 gA apA tA xA gA1
          generalize Z'.set Z.length (.lst (acc.map .str ++ [.str []])) = ZB at *
          cases fd <;> cases bare <;> cases j <;> simp [-Zij,ap0,t0]
        · by_cases hp0 : p = []
          · simp [hp0]
          · simp [hp0]
        · generalize ZA.set Z.length (.lst (accA.map .str ++ [.str p])) = ZB at *
          simp [-Zij,apA,tA]
      · rw [Ys,List.getElem?_set_ne (by omega)]; exact Ys.mp gA1
      · rw [hst,Vw gA,List.map_append]; rfl)
  simp only [Zk2,Z6m] at e3
  obtain ⟨b, hb⟩ := Zna fd rows 0 true [] (fun r hr => (Z0v _ (h'.mem r hr).2).1) (fun _ => rfl) (fun h => absurd rfl h) h'.ge
  rw [hSP] at g3'
  rw [show (!true) = false from rfl] at hb
  rw [hb, List.nil_append] at g3'
  refine ⟨Z.length, Z3, Ut (n := 6) (as := [.str (V0 rows), .bl fd]) ?_, g3', x3, Nat.le_refl _⟩
  refine Zx (ρ' := [some (.str (V0 rows)), some (.bl fd), some (.loc Z.length), some (.bl false), none, none]) (Z' := Z1) (by rw [hZ1]; simp) (Zx (ρ' := [some (.str (V0 rows)), some (.bl fd), some (.loc Z.length), some (.bl (SP.foldl (stp fd) ([], false)).2), o4, o5]) (Z' := Z3) ?_ (by simp))
  have gz : getL Z2 Z1.length = some (SP.map .str) := by rw [hZ2]; exact Ym _ _
  have hi : iAny (eBM "str" gSplit (eVar 0) (aCons (eC (.str [10])) aNil)) [some (.str (V0 rows)), some (.bl fd), some (.loc Z.length), some (.bl false), none, none] Z1 = .ok (itLoc Z1.length) Z2 := by
    generalize V0 rows = V at *
    simp [sp,gz]
  rw [Zd9,hi,Z6m]
  exact e3
end
end Ap
set_option maxHeartbeats 8000000
namespace Ap
open PySem PySem.Spec PyProof.Rows L2 SX Fx
def BT_1 : FS := (sSet 5 (eBM "str" gRstrip (eVar 0) (aCons (eC (.str [10])) aNil)))
def BT_2 : FS := (sSet 6 (eBin gSub (eCallB gLen (aCons (eVar 0) aNil)) (eCallB gLen (aCons (eVar 5) aNil))))
def BT_3 : FS := (sIf (eBl (eBin gEq (eVar 5) (eC (.str [])))) (sRet (eBin gAdd (eBin gAdd (eKdI Uq (eVar 1)) (eBin gIxW (eLst (aCons (eC (.str [45])) (aCons (eC (.str [43])) aNil))) (eCallB gIntT (aCons (eBin gGtW (eVar 6) (eC (.int 0))) aNil)))) (eBin gMul (eC (.str [10])) (eVar 6)))) sPass)
def BT_4 : FS := (sSet 7 (eCall Z4o [] (aCons (eVar 5) (aCons (eBin gEq (eVar 1) (eC (.str [102,111,108,100,101,100]))) aNil))))
def BT_5 : FS := (sSet 8 (eLc [15] [15] (iAny (eVar 7)) eYes Vb))
def BT_6 : FS := (sSet 10 (eAnd (eBin gEq (eVar 2) (eC (.int 0))) (eCallB gAny (aCons (eLc [9] [9] (iAny (eVar 8)) eYes U7) aNil))))
def BT_7 : FS := (sSet 11 (eLst aNil))
def BT_8 : FS := (sFor (iAny (eVar 8)) (gNm 9) U8)
def BT_9 : FS := (sSet 12 (eBin gIxW (eLc [15] [15] (iAny (eVar 7)) Ua U9) (eC (.int 0))))
def Zml : FS := (sSet 13 (eIf (eBl (eBin gEq (eBin gIxW (eVar 12) (eC (.int 0))) (eC (.str [32])))) (eCallB gStr (aCons (eBin gAdd (eVar 4) (eCallB gIntT (aCons (eVar 10) aNil))) aNil)) (eC (.str []))))
def Zom : FS := (sSet 14 (eBin gIxW (eLst (aCons (eC (.str [45])) (aCons (eC (.str [])) (aCons (eC (.str [43])) aNil)))) (eCallB gMin (aCons (eC (.int 2)) (aCons (eVar 6) aNil)))))
def Zon : FS := (sRet (eBin gAdd (eBin gAdd (eBin gAdd (eBin gAdd (eBin gAdd (eKdI Uq (eVar 1)) (eVar 13)) (eVar 14)) (eC (.str [10]))) (eBM "str" gJoin (eC (.str [10])) (aCons (eVar 11) aNil))) (eBin gMul (eC (.str [10])) (eCallB gMax (aCons (eC (.int 0)) (aCons (eBin gSub (eVar 6) (eC (.int 1))) aNil))))))
theorem Zq8 : Z43 = bCons BT_1 (bCons BT_2 (bCons BT_3 (bCons BT_4 (bCons BT_5 (bCons BT_6 (bCons BT_7 (bCons BT_8 (bCons BT_9 (bCons Zml (bCons Zom (Zon))))))))))) := rfl
theorem Zhz {x : List Nat} (h : x = [] ∨ x ∈ rwL) (Z : Sto) : Jc [.str x] Z = .ok (.bl (isM x)) Z := by
  have hl : x.length ≤ Lim := by
    rcases h with rfl | h
    · simp
    · have := (Z0v x h).2.2.2; unfold Lim; omega
  have c1 := Z88 x none (some 3) Z hl
  have c2 := Z88 x (some 3) (some 4) Z hl
  have i1 := Zck (cutL x none (some 3)) [45,45,45] [46,46,46] Z
  have i2 := Zck (cutL x (some 3) (some 4)) [] [32] Z
  have hM : ((decide (cutL x none (some 3) = [45,45,45]) || decide (cutL x none (some 3) = [46,46,46])) && (decide (cutL x (some 3) (some 4) = []) || decide (cutL x (some 3) (some 4) = [32]))) = isM x := by
    have : ∀ y ∈ ([] :: rwL),((decide (cutL y none (some 3) = [45,45,45]) || decide (cutL y none (some 3) = [46,46,46])) && (decide (cutL y (some 3) (some 4) = []) || decide (cutL y (some 3) (some 4) = [32]))) = isM y := by decide
    exact this x (by rcases h with rfl | h; simp; exact List.mem_cons_of_mem _ h)
  rw [← hM]
  generalize cutL x none (some 3) = A at *
  generalize cutL x (some 3) (some 4) = B at *
  cases hA : (decide (A = [45,45,45]) || decide (A = [46,46,46])) with
  | false => rw [hA] at i1; simp [-Zb3,Jc,runF,Z66,oSome,c1,i1]
  | true =>
    rw [hA] at i1
    simp only [Bool.true_and]
    generalize (decide (B = []) || decide (B = [32])) = bb at *
    simp [-Zb3,-sl_s,Jc,runF,Z66,oSome,c1,i1,c2,i2]
theorem Zoo {x : List Nat} (h : x ∈ rwL) {w : Nat} (hm : w = 0 → isM x = false) (Z : Sto) : Va [.str x,.int (w : Int)] Z = .ok (.int (w : Int)) Z := by
  have e := Zhz (.inr h) Z
  by_cases hw : w = 0
  · rw [hm hw] at e
    subst hw
    simp [Va,runF,Z1v,e]
  · have hw' : ¬ (w : Int) = 0 := by omega
    simp [Va, runF, Z1v, hw, hw']
theorem Zmm {x : List Nat} (h : x ∈ rwL) {w q : Nat} (hw : w ≤ 101) (hm : w = 0 → isM x = false) {Z : Sto} (g : getL Z q = some [.str x]) : ∃ l Z', Z4n [.loc q, .int 0, .int (w : Int), .bl false] Z = .ok (.loc l) Z' ∧ getL Z' l = some [.str (List.replicate w 32 ++ x)] ∧ Ext Z Z' := by
  obtain ⟨_,_,_,hx5⟩ := Z0v x h
  obtain ⟨Z1,hZ1⟩ : ∃ Z1,Z1 = Z ++ [O.lst []] := ⟨_,rfl⟩
  have x1 : Ext Z Z1 := by rw [hZ1]; exact (Ext.refl _).app _
  have g1 := x1.getL g
  obtain ⟨Z2,hZ2⟩ : ∃ Z2,Z2 = Z1 ++ [O.lst []] := ⟨_,rfl⟩
  have x2 : Ext Z1 Z2 := by rw [hZ2]; exact (Ext.refl _).app _
  have ea := Zoo h hm Z1
  have mu := Zl5 32 w Z1 (by omega)
  have ad := Xx (List.replicate w 32) x Z1 (by rw [List.length_replicate]; unfold Lim; omega)
  obtain ⟨Z3,hZ3⟩ : ∃ Z3,Z3 = Z2 ++ [O.lst [.str (List.replicate w 32 ++ x)]] := ⟨_,rfl⟩
  have x3 : Ext Z2 Z3 := by rw [hZ3]; exact (Ext.refl _).app _
  have gz : getL Z3 Z.length = some [] := (x2.trans x3).getL (by rw [hZ1]; exact Ym _ _)
  have ad2 := Zka Z.length Z2.length Z3 gz (by rw [hZ3]; exact Ym _ _) (by simp [Lim])
  rw [List.nil_append] at ad2
  have g2 : getL Z2 Z1.length = some [] := by rw [hZ2]; exact Ym _ _
  have lp : loopN (itLoc Z1.length) (fun t ρ' Z' => bS ρ' (gNm 6 t ρ' Z') Zc7) Fuel 0 [some (.loc q), some (.int 0), some (.int (w : Int)), some (.bl false), some (.loc Z.length), some (.str (List.replicate w 32 ++ x)), none] Z2 = .nx [some (.loc q), some (.int 0), some (.int (w : Int)), some (.bl false), some (.loc Z.length), some (.str (List.replicate w 32 ++ x)), none] Z2 := by
    rw [Jv]
    exact Z4h (by simp [itLoc,g2])
  refine ⟨Z3.length,Z3 ++ [O.lst [.str (List.replicate w 32 ++ x)]],Ut (n := 7) (as := [.loc q,.int 0,.int (w : Int),.bl false]) ?_,Ym _ _,(x1.trans (x2.trans x3)).app _⟩
  refine Zx (ρ' := [some (.loc q), some (.int 0), some (.int (w : Int)), some (.bl false), some (.loc Z.length), none, none]) (Z' := Z1) (by rw [hZ1]; simp) (Zx (ρ' := [some (.loc q), some (.int 0), some (.int (w : Int)), some (.bl false), some (.loc Z.length), some (.str (List.replicate w 32 ++ x)), none]) (Z' := Z1) ?_ (Zx (ρ' := [some (.loc q), some (.int 0), some (.int (w : Int)), some (.bl false), some (.loc Z.length), some (.str (List.replicate w 32 ++ x)), none]) (Z' := Z2) ?_ ?_))
  · have i0 : ∀ Z,getL Z q = some [.str x] → gIxW (.loc q) (.int 0) Z = some (.str x,Z) := fun Z g => by rw [U6 _ g]; rfl
    have i1 := i0 Z1 g1
    generalize List.replicate w 32 ++ x = RX at *
    generalize List.replicate w 32 = R at *
    simp [-Z3g,-Qa,i1,ea,mu,ad]
  · have cu : cutL [Fx.T.str x] (some 1) none = [] := by
      have := Zlb [Fx.T.str x] 1
      exact this
    generalize List.replicate w 32 ++ x = RX at *
    simp only [Zd9]
    have hi : iAny (eSl (eVar 0) (oSome (eC (.int 1))) oNone) [some (.loc q),some (.int 0),some (.int (w : Int)),some (.bl false),some (.loc Z.length),some (.str RX),none] Z1 = .ok (itLoc Z1.length) Z2 := by
      rw [hZ2] at g2 ⊢
      simp [oSome,g1,cu,g2]
    rw [hi,Z6m]
    exact lp
  · generalize List.replicate w 32 ++ x = RX at *
    simp [-Zk3,← hZ3,ad2]
theorem Zgz : ∀ rows : List (Nat × List Nat),rows ≠ [] → (∀ r ∈ rows,r.2 ∈ rwL) → ∃ Y c,V0 rows = Y ++ [c] ∧ c ≠ 10
  | [],h,_ => absurd rfl h
  | [(m,x)],_,h => by
    have hx := h (m,x) (by simp)
    have : ∀ y ∈ rwL,y = y.dropLast ++ [y.getLastD 0] ∧ y.getLastD 0 ≠ 10 := by decide
    obtain ⟨h1,h2⟩ := this x hx
    refine ⟨nls m ++ x.dropLast,x.getLastD 0,?_,h2⟩
    show nls m ++ x ++ [] = _
    rw [List.append_nil,List.append_assoc,← h1]
  | (m,x) :: r :: rs,_,h => by
    obtain ⟨Y,c,h1,h2⟩ := Zgz (r :: rs) (by simp) (fun q hq => h q (by simp [hq]))
    refine ⟨nls m ++ x ++ Y,c,?_,h2⟩
    show nls m ++ x ++ V0 (r :: rs) = _
    rw [h1]; simp only [List.append_assoc]
theorem Zop {Y : List Nat} {c : Nat} (hc : c ≠ 10) (f : Nat) : rst 10 (Y ++ [c] ++ nls f) = Y ++ [c] := by
  rw [Zhs]
  unfold nls
  rw [List.reverse_append,List.reverse_replicate,List.reverse_append]
  have : ∀ (f : Nat) (l : List Nat),(List.replicate f 10 ++ c :: l).dropWhile (· == 10) = c :: l := by
    intro f l
    induction f with
    | zero => simp [List.dropWhile,hc]
    | succ f ih => rw [List.replicate_succ,List.cons_append]; simp [ih]
  show ((List.replicate f 10 ++ c :: Y.reverse).dropWhile (· == 10)).reverse = _
  rw [this]
  simp
theorem Zoq (f : Nat) : rst 10 (nls f) = [] := by
  rw [Zhs]
  unfold nls
  rw [List.reverse_replicate]
  have : (List.replicate f 10).dropWhile (· == 10) = [] := by
    induction f with
    | zero => rfl
    | succ f ih => rw [List.replicate_succ]; simp [ih]
  rw [this]; rfl
def moreL (indent : Nat) (rows : List (Nat × List Nat)) : Nat := if indent = 0 ∧ (rows.any fun r => isM r.2) = true then 1 else 0
def btx (fd : Bool) (indent deep feeds : Nat) (rows : List (Nat × List Nat)) : List Nat := if rows = [] then sty fd :: (sgn0 feeds ++ (List.replicate feeds []).flatMap (fun l => 10 :: l)) else sty fd :: (dgtL (fst32 rows) (deep + moreL indent rows) ++ sgnL feeds ++ ((ptR fd 0 true rows).map (lnOf (indent + moreL indent rows)) ++ List.replicate (feeds - 1) []).flatMap (fun l => 10 :: l))
theorem Znb (fd : Bool) : ∀ (rs : List (Nat × List Nat)) (k : Nat) (lw : Bool),(ptR fd k lw rs).any isM = rs.any fun r => isM r.2
  | [],_,_ => rfl
  | (m,x) :: rs,k,lw => by
    show (List.replicate _ [] ++ x :: ptR fd (k + 1) (isW x) rs).any isM = _
    have : ∀ j : Nat,(List.replicate j ([] : List Nat)).any isM = false := by
      intro j
      induction j with
      | zero => rfl
      | succ j ih => rw [List.replicate_succ,List.any_cons,ih]; rfl
    rw [List.any_append,this,List.any_cons,Znb fd rs,Bool.false_or]; rfl
theorem Zor {fd : Bool} {m : Nat} {x : List Nat} {rs : List (Nat × List Nat)} (hx : x ≠ []) : ∃ t,(ptR fd 0 true ((m,x) :: rs)).filter (fun p => decide (p ≠ [])) = x :: t := by
  have hp : ptR fd 0 true ((m,x) :: rs) = List.replicate (ems fd 0 true (isW x) m) [] ++ x :: ptR fd 1 (isW x) rs := rfl
  rw [hp]
  have : ∀ j : Nat,(List.replicate j ([] : List Nat)).filter (fun p => decide (p ≠ [])) = [] := by
    intro j
    rw [List.filter_eq_nil_iff]
    intro p hp
    rw [(List.mem_replicate.mp hp).2]; simp
  rw [List.filter_append,this,List.nil_append,List.filter_cons_of_pos (by simpa using hx)]
  exact ⟨_,rfl⟩
end Ap
set_option maxHeartbeats 8000000
namespace Ap
open PySem PySem.Spec PyProof.Rows L2 SX Fx
theorem Zq9 (fd : Bool) : (styS fd = [102,111,108,100,101,100]) = (fd = true) := by cases fd <;> simp [styS]
theorem Znc (fd : Bool) : kdT Uq (.str (styS fd)) = some (.str [sty fd]) := by cases fd <;> rfl
def bt (v : List Nat) (fd : Bool) (i d : Nat) (o5 o6 o7 o8 o9 o10 o11 o12 o13 o14 : Option Fx.T) : Fx.Env := [some (.str v),some (.str (styS fd)),some (.int (i : Int)),some (.int 0),some (.int (d : Int)),o5,o6,o7,o8,o9,o10,o11,o12,o13,o14,none,none]
section
variable {v : List Nat} {fd : Bool} {i d : Nat} {o5 o6 o7 o8 o9 o10 o11 o12 o13 o14 : Option Fx.T} {Z : Sto}
theorem bt_1 (hv : v.length ≤ 1000) : BT_1 (bt v fd i d o5 o6 o7 o8 o9 o10 o11 o12 o13 o14) Z = .nx (bt v fd i d (some (.str (rst 10 v))) o6 o7 o8 o9 o10 o11 o12 o13 o14) Z := by
  have e := Zm0 v 10 Z (by unfold Lim; omega)
  simp [BT_1,bt,e]
theorem bt_2 {c : List Nat} {f : Nat} (hv : v.length ≤ 1000) (hf : v.length = c.length + f) : BT_2 (bt v fd i d (some (.str c)) o6 o7 o8 o9 o10 o11 o12 o13 o14) Z = .nx (bt v fd i d (some (.str c)) (some (.int (f : Int))) o7 o8 o9 o10 o11 o12 o13 o14) Z := by
  have h1 : v.length ≤ Lim := by unfold Lim; omega
  have h2 : c.length ≤ Lim := by unfold Lim; omega
  have h3 : (v.length : Int) - (c.length : Int) = (f : Int) := by omega
  simp [BT_2,bt,h1,h2,h3]
theorem bt_3n {f : Nat} (hf : f ≤ 10) : ∃ Z', BT_3 (bt v fd i d (some (.str [])) (some (.int (f : Int))) o7 o8 o9 o10 o11 o12 o13 o14) Z = .rt (.str (sty fd :: (sgn0 f ++ nls f))) Z' ∧ Ext Z Z' := by
  obtain ⟨Z1,hZ1⟩ : ∃ Z1,Z1 = Z ++ [O.lst [.str [45],.str [43]]] := ⟨_,rfl⟩
  have g1 : getL Z1 Z.length = some [.str [45],.str [43]] := by rw [hZ1]; exact Ym _ _
  refine ⟨Z1,?_,by rw [hZ1]; exact (Ext.refl _).app _⟩
  have hk := Znc fd
  have mu := Jg f Z1 (by omega)
  have hn : (nls f).length = f := List.length_replicate ..
  by_cases h : 0 < f
  · have ix : gIxW (.loc Z.length) (.int 1) Z1 = some (.str [43],Z1) := by rw [U6 _ g1]; rfl
    have hs : sgn0 f = [43] := if_pos h
    have a1 := Xx [sty fd] [43] Z1 (by simp [Lim])
    have a2 := Xx ([sty fd] ++ [43]) (nls f) Z1 (by rw [hn]; simp; unfold Lim; omega)
    rw [show sty fd :: (sgn0 f ++ nls f) = [sty fd] ++ [43] ++ nls f by rw [hs]; rfl]
    simp only [bt]
    generalize styS fd = SS at *
    generalize [sty fd] ++ [43] ++ nls f = R2 at *
    generalize [sty fd] ++ [43] = R1 at *
    generalize nls f = NL at *
    simp [-Z3g,-Qa,BT_3,bt,eKdI,hk,← hZ1,h,ix,a1,mu,a2]
  · have ix : gIxW (.loc Z.length) (.int 0) Z1 = some (.str [45],Z1) := by rw [U6 _ g1]; rfl
    have hs : sgn0 f = [45] := if_neg h
    have a1 := Xx [sty fd] [45] Z1 (by simp [Lim])
    have a2 := Xx ([sty fd] ++ [45]) (nls f) Z1 (by rw [hn]; simp; unfold Lim; omega)
    rw [show sty fd :: (sgn0 f ++ nls f) = [sty fd] ++ [45] ++ nls f by rw [hs]; rfl]
    simp only [bt]
    generalize styS fd = SS at *
    generalize [sty fd] ++ [45] ++ nls f = R2 at *
    generalize [sty fd] ++ [45] = R1 at *
    generalize nls f = NL at *
    simp [-Z3g,-Qa,BT_3,bt,eKdI,hk,← hZ1,h,ix,a1,mu,a2]
theorem bt_3 {c : List Nat} (hc : c ≠ []) : BT_3 (bt v fd i d (some (.str c)) o6 o7 o8 o9 o10 o11 o12 o13 o14) Z = .nx (bt v fd i d (some (.str c)) o6 o7 o8 o9 o10 o11 o12 o13 o14) Z := by simp [BT_3,bt,hc]
variable {rows : List (Nat × List Nat)}
theorem bt_4 (h : RowsOk rows) (h0 : rows ≠ []) : ∃ l Z', BT_4 (bt v fd i d (some (.str (V0 rows))) o6 o7 o8 o9 o10 o11 o12 o13 o14) Z = .nx (bt v fd i d (some (.str (V0 rows))) o6 (some (.loc l)) o8 o9 o10 o11 o12 o13 o14) Z' ∧ getL Z' l = some ((ptR fd 0 true rows).map .str) ∧ Ext Z Z' := by
  obtain ⟨l, Z', e, g, x, _⟩ := Zol (Z := Z) h h0 fd
  refine ⟨l, Z', ?_, g, x⟩
  have db : decide (styS fd = [102,111,108,100,101,100]) = fd := by rw [Bool.eq_iff_iff,decide_eq_true_iff,Zq9 fd]
  simp only [bt]
  generalize styS fd = SS at *
  generalize V0 rows = V at *
  simp [BT_4,bt,db,e]
def PrOk (b : Nat) (q : List Nat × Fx.T) (Z : Sto) : Prop := ∃ li,q.2 = .loc li ∧ li ≠ b ∧ getL Z li = some [.str q.1]
theorem PrOk.ext {b : Nat} {q : List Nat × Fx.T} {Z Z' : Sto} (h : PrOk b q Z) (x : Ext Z Z') : PrOk b q Z' := by
  obtain ⟨li,h1,h2,h3⟩ := h
  exact ⟨li,h1,h2,x.getL h3⟩
theorem bt_5 {l : Nat} {PT : List (List Nat)} (g : getL Z l = some (PT.map .str)) (hl : PT.length ≤ 50) : ∃ (prs : List (List Nat × Fx.T)) (Z' : Sto), BT_5 (bt v fd i d o5 o6 (some (.loc l)) o8 o9 o10 o11 o12 o13 o14) Z = .nx (bt v fd i d o5 o6 (some (.loc l)) (some (.loc Z.length)) o9 o10 o11 o12 o13 o14) Z' ∧ Ext Z Z' ∧ prs.map Prod.fst = PT ∧ getL Z' Z.length = some (prs.map Prod.snd) ∧ ∀ q ∈ prs, PrOk Z.length q Z' := by
  obtain ⟨Z', prs, e, x, h1, h2, h3⟩ := loopCP (it := itLoc l) (put := fun t => putN [15] t (wipeR (bt v fd i d o5 o6 (some (.loc l)) o8 o9 o10 o11 o12 o13 o14) [15])) (c := eYes) (e := Vb) (l := PT) (u := .str) (Z1 := Z) (fun x y Z' => PrOk Z.length (x, y) Z') (by unfold Lim; omega)
    (fun k Z' x hk => by
      show Option.map (fun ts => ts[k]?) (getL Z' l) = _
      rw [x.getL g]; simp)
    (fun x y Z1 Z2 hp hle hk => by
      obtain ⟨li,h1,h2,h3⟩ := hp
      refine ⟨li,h1,h2,?_⟩
      have := Z1u h3
      rw [Ys] at h3 ⊢
      rw [hk li this h2]; exact h3)
    (fun x hx Z' xe hlt => by
      refine ⟨[some (.str v), some (.str (styS fd)), some (.int (i : Int)), some (.int 0), some (.int (d : Int)), o5, o6, some (.loc l), o8, o9, o10, o11, o12, o13, o14, some (.str x), none], .loc Z'.length, Z' ++ [.lst [.str x]], by rw [Z4j]; rfl, rfl, by simp [Vb], (Ext.refl _).app _, Z'.length, rfl, by omega, Ym _ _⟩)
  refine ⟨prs, Z', ?_, x, h1, h2, h3⟩
  have hi : iAny (eVar 7) (bt v fd i d o5 o6 (some (.loc l)) o8 o9 o10 o11 o12 o13 o14) Z = .ok (itLoc l) Z := by simp [bt,g]
  have hlc : eLc [15] [15] (iAny (eVar 7)) eYes Vb (bt v fd i d o5 o6 (some (.loc l)) o8 o9 o10 o11 o12 o13 o14) Z = .ok (.loc Z.length) Z' := by
    unfold eLc
    rw [hi]
    exact e
  unfold BT_5
  show bS _ (eLc [15] [15] (iAny (eVar 7)) eYes Vb (bt v fd i d o5 o6 (some (.loc l)) o8 o9 o10 o11 o12 o13 o14) Z) _ = _
  rw [hlc]
  rfl
theorem Zmn {α : Type} (f : α → Bool) (l : List α) : bools (l.map fun q => Fx.T.bl (f q)) = some (l.map f) := Z9z f l
theorem bt_6 {lr b : Nat} {prs : List (List Nat × Fx.T)} (g : getL Z lr = some (prs.map Prod.snd)) (hp : ∀ q ∈ prs, PrOk b q Z) (hm : ∀ q ∈ prs, q.1 = [] ∨ q.1 ∈ rwL) (hl : prs.length ≤ 50) : ∃ Z', BT_6 (bt v fd i d o5 o6 o7 (some (.loc lr)) o9 o10 o11 o12 o13 o14) Z = .nx (bt v fd i d o5 o6 o7 (some (.loc lr)) o9 (some (.bl (decide (i = 0) && prs.any fun q => isM q.1))) o11 o12 o13 o14) Z' ∧ Ext Z Z' := by
  by_cases hi0 : i = 0
  · subst hi0
    obtain ⟨Z', e, x, g'⟩ := Z2e (it := itLoc lr) (put := fun t => putN [9] t (wipeR (bt v fd 0 d o5 o6 o7 (some (.loc lr)) o9 o10 o11 o12 o13 o14) [9])) (c := eYes) (e := U7) (l := prs) (u := Prod.snd) (p := fun _ => true) (fv := fun q => .bl (isM q.1)) (Z1 := Z) (by unfold Lim; omega)
      (fun k Z' x hk => by
        show Option.map (fun ts => ts[k]?) (getL Z' lr) = _
        rw [x.getL g]; simp)
      (fun q hq Z' xe => by
        obtain ⟨li,h1,h2,h3⟩ := hp q hq
        have g1 := xe.getL h3
        obtain ⟨ρ,hρ⟩ : ∃ ρ : Fx.Env,ρ = [some (.str v),some (.str (styS fd)),some (.int ((0 : Nat) : Int)),some (.int 0),some (.int (d : Int)),o5,o6,o7,some (.loc lr),some (.loc li),o10,o11,o12,o13,o14,none,none] := ⟨_,rfl⟩
        obtain ⟨Z2, e2, x2, g2⟩ := Z2e (it := itLoc li) (put := fun t => putN [16] t (wipeR ρ [16])) (c := eYes) (e := Ji) (l := [q.1]) (u := .str) (p := fun _ => true) (fv := fun x => .bl (isM x)) (Z1 := Z') (by simp [Lim])
          (fun k Z'' x hk => by
            show Option.map (fun ts => ts[k]?) (getL Z'' li) = _
            rw [x.getL g1]
            rcases k with _ | _ | k
            · rfl
            · rfl
            · simp at hk)
          (fun x hx Z'' xe2 => by
            have hx1 : x = q.1 := List.mem_singleton.mp hx
            subst hx1
            refine ⟨[some (.str v), some (.str (styS fd)), some (.int ((0 : Nat) : Int)), some (.int 0), some (.int (d : Int)), o5, o6, o7, some (.loc lr), some (.loc li), o10, o11, o12, o13, o14, none, some (.str q.1)], Z'', by rw [Z4j, hρ]; rfl, rfl, Ext.refl _, fun _ => ⟨Z'', ?_, Ext.refl _⟩⟩
            have := Zhz (hm q hq) Z''
            simp [Ji,this])
        refine ⟨ρ, Z', by rw [Z4j, h1, hρ]; rfl, rfl, Ext.refl _, fun _ => ⟨Z2, ?_, x2⟩⟩
        have hi : iAny (eVar 9) ρ Z' = .ok (itLoc li) Z' := by rw [hρ]; simp [g1]
        have hlc : eLc [16] [16] (iAny (eVar 9)) eYes Ji ρ Z' = .ok (.loc Z'.length) Z2 := by
          unfold eLc
          rw [hi]
          exact e2
        have g2' : getL Z2 Z'.length = some [.bl (isM q.1)] := g2
        unfold U7
        simp [-q_lc, hlc, g2', bools])
    refine ⟨Z', ?_, x⟩
    have hi : iAny (eVar 8) (bt v fd 0 d o5 o6 o7 (some (.loc lr)) o9 o10 o11 o12 o13 o14) Z = .ok (itLoc lr) Z := by simp [bt,g]
    have hlc : eLc [9] [9] (iAny (eVar 8)) eYes U7 (bt v fd 0 d o5 o6 o7 (some (.loc lr)) o9 o10 o11 o12 o13 o14) Z = .ok (.loc Z.length) Z' := by
      unfold eLc
      rw [hi]
      exact e
    have hf : prs.filter (fun _ => true) = prs := List.filter_eq_self.mpr fun _ _ => rfl
    rw [hf] at g'
    have hb := Zmn (fun q : List Nat × Fx.T => isM q.1) prs
    have ha : (prs.map fun q => isM q.1).any id = prs.any fun q => isM q.1 := by rw [List.any_map]; rfl
    generalize (prs.map fun q => Fx.T.bl (isM q.1)) = BL at *
    generalize (prs.map fun q => isM q.1) = BB at *
    simp only [bt,show ((0 : Nat) : Int) = 0 from rfl] at hlc ⊢
    simp [-q_lc, BT_6, hlc, g', hb, ha]
  · refine ⟨Z,?_,Ext.refl _⟩
    have h2 : ¬ (i : Int) = 0 := by omega
    simp [BT_6,bt,hi0,h2]
theorem bt_7 : BT_7 (bt v fd i d o5 o6 o7 o8 o9 o10 o11 o12 o13 o14) Z = .nx (bt v fd i d o5 o6 o7 o8 o9 o10 (some (.loc Z.length)) o12 o13 o14) (Z ++ [.lst []]) := by simp [BT_7,bt]
end
end Ap
set_option maxHeartbeats 8000000
namespace Ap
open PySem PySem.Spec PyProof.Rows L2 SX Fx
theorem ext_l {n m : Nat} {Z : Sto} {ts us : List Fx.T} (h1 : getL Z n = some ts) (h2 : getL Z m = some us) (h : ts.length + us.length ≤ Lim) : gExtend (.loc n) [.loc m] Z = some (.non,Z.set n (.lst (ts ++ us))) := by
  simp only [gExtend,h1,h2,if_pos h]
def wd (i : Nat) (am : Bool) : Nat := i + if am = true then 1 else 0
section
variable {v : List Nat} {fd : Bool} {i d : Nat} {o5 o6 o7 o8 o9 o10 o11 o12 o13 o14 : Option Fx.T} {Z : Sto} {rows : List (Nat × List Nat)}
def PrL (ll : Nat) (q : List Nat × Fx.T) (Z : Sto) : Prop := ∃ li,q.2 = .loc li ∧ li < ll ∧ getL Z li = some [.str q.1]
theorem bt_8 {lr ll : Nat} {am : Bool} {prs : List (List Nat × Fx.T)} (hi : i ≤ 100) (g : getL Z lr = some (prs.map Prod.snd)) (hlr : lr < ll) (gl : getL Z ll = some []) (hp : ∀ q ∈ prs,PrL ll q Z) (hm : ∀ q ∈ prs,q.1 = [] ∨ q.1 ∈ rwL) (hl : prs.length ≤ 50) (hM : wd i am = 0 → ∀ q ∈ prs,isM q.1 = false) :
    ∃ p9 Z', BT_8 (bt v fd i d o5 o6 o7 (some (.loc lr)) o9 (some (.bl am)) (some (.loc ll)) o12 o13 o14) Z = .nx (bt v fd i d o5 o6 o7 (some (.loc lr)) p9 (some (.bl am)) (some (.loc ll)) o12 o13 o14) Z' ∧ getL Z' ll = some ((prs.map fun q => lnOf (wd i am) q.1).map .str) ∧ (∀ j < ll, Z'[j]? = Z[j]?) ∧ Z.length ≤ Z'.length := by
  obtain ⟨ρ', Z', e, p9, rfl, g', hp', hk', hle⟩ := loopL prs Prod.snd (L := lr) (body := fun t ρ' Z' => bS ρ' (gNm 9 t ρ' Z') U8) (ρ := bt v fd i d o5 o6 o7 (some (.loc lr)) o9 (some (.bl am)) (some (.loc ll)) o12 o13 o14) (Z := Z)
    (fun pre ρ Z' => ∃ p9, ρ = bt v fd i d o5 o6 o7 (some (.loc lr)) p9 (some (.bl am)) (some (.loc ll)) o12 o13 o14 ∧ getL Z' ll = some ((pre.map fun q => lnOf (wd i am) q.1).map .str) ∧ (∀ q ∈ prs, PrL ll q Z') ∧ (∀ j < ll, Z'[j]? = Z[j]?) ∧ Z.length ≤ Z'.length) (by unfold Lim; omega)
    (fun pre ρ Z' hI => by
      obtain ⟨_,_,_,_,hk,_⟩ := hI
      rw [Ys] at g ⊢
      rw [hk lr hlr]; exact g)
    ⟨o9,rfl,gl,hp,fun _ _ => rfl,Nat.le_refl _⟩
    (fun pre q post hq ρ Z' hI => by
      obtain ⟨p9, rfl, gl', hp', hk, hle⟩ := hI
      have hqm : q ∈ prs := by rw [hq]; simp
      obtain ⟨li, h1, h2, h3⟩ := hp' q hqm
      have hlll := Z1u gl'
      have hpl : pre.length ≤ 50 := by
        have := congrArg List.length hq
        rw [List.length_append,List.length_cons] at this
        omega
      obtain ⟨Za, hZa⟩ : ∃ Za, Za = Z' ++ [O.lst [.str []]] := ⟨_, rfl⟩
      have xa : Ext Z' Za := by rw [hZa]; exact (Ext.refl _).app _
      have ga : getL Za li = some ([q.1].map .str) := xa.getL h3
      have gn : getL Za Z'.length = some ([[]].map .str) := by rw [hZa]; exact Ym _ _
      have okq : okS q.1 = true := by
        rcases hm q hqm with h | h
        · rw [h]; rfl
        · have : ∀ x ∈ rwL,okS x = true := by decide
          exact this _ h
      have eq1 : gEqL (.loc li) (.loc Z'.length) Za = some (.bl (decide (q.1 = [])), Za) := by
        have := Zo6 ga gn (by simp [okq]) (by decide)
        unfold gEqL
        rw [if_neg (by simp [lenDiff,ga,gn]),this]
        congr 2; simp
      obtain ⟨l2, Zb, e2, g2, x2⟩ : ∃ (l2 : Nat) (Zb : Sto), eIf (eBl (eBin gEqL (eVar 9) (eLst (aCons (eC (.str [])) aNil)))) (eLst (aCons (eC (.str [])) aNil)) (eCall Z4n [] (aCons (eVar 9) (aCons (eVar 3) (aCons (eBin gAdd (eVar 2) (eCallB gIntT (aCons (eVar 10) aNil))) (aCons (eC (.bl false)) aNil))))) (bt v fd i d o5 o6 o7 (some (.loc lr)) (some (.loc li)) (some (.bl am)) (some (.loc ll)) o12 o13 o14) Z' = .ok (.loc l2) Zb ∧ getL Zb l2 = some [.str (lnOf (wd i am) q.1)] ∧ Ext Z' Zb := by
        by_cases hq0 : q.1 = []
        · refine ⟨Za.length,Za ++ [O.lst [.str []]],?_,?_,xa.app _⟩
          · have : decide (q.1 = []) = true := by simpa using hq0
            rw [this] at eq1
            simp only [bt]
            generalize styS fd = SS at *
            simp [← hZa,eq1]
          · rw [Ym,hq0]; rfl
        · have hr := (hm q hqm).resolve_left hq0
          obtain ⟨l2,Zb,ef,gf,xf⟩ := Zmm (Z := Za) (q := li) hr (w := wd i am) (by unfold wd; split <;> omega) (fun h => hM h q hqm) ga
          refine ⟨l2,Zb,?_,?_,xa.trans xf⟩
          · have : decide (q.1 = []) = false := by simpa using hq0
            rw [this] at eq1
            have hwi : (i : Int) + (if am = true then 1 else 0) = (wd i am : Int) := by unfold wd; cases am <;> simp
            simp only [bt]
            generalize styS fd = SS at *
            simp [← hZa,eq1,hwi,ef]
          · rw [gf,lnOf,if_neg hq0]
      have glb := x2.getL gl'
      have ex := ext_l glb g2 (by rw [List.length_map,List.length_map]; simp; unfold Lim; omega)
      have hx2 := x2.len
      refine ⟨bt v fd i d o5 o6 o7 (some (.loc lr)) (some (.loc li)) (some (.bl am)) (some (.loc ll)) o12 o13 o14,Zb.set ll (.lst ((pre.map fun q => lnOf (wd i am) q.1).map .str ++ [.str (lnOf (wd i am) q.1)])),?_,some (.loc li),rfl,?_,?_,?_,?_⟩
      · rw [h1]
        show bS _ (gNm 9 (.loc li) (bt v fd i d o5 o6 o7 (some (.loc lr)) p9 (some (.bl am)) (some (.loc ll)) o12 o13 o14) Z') U8 = _
        have hg : gNm 9 (.loc li) (bt v fd i d o5 o6 o7 (some (.loc lr)) p9 (some (.bl am)) (some (.loc ll)) o12 o13 o14) Z' = .ok (bt v fd i d o5 o6 o7 (some (.loc lr)) (some (.loc li)) (some (.bl am)) (some (.loc ll)) o12 o13 o14) Z' := rfl
        rw [hg,Z6m]
        unfold U8
        have tl := Z75 gl'
        have tlb := Z75 glb
        generalize (pre.map fun q => lnOf (wd i am) q.1).map Fx.T.str ++ [Fx.T.str (lnOf (wd i am) q.1)] = LL at *
        generalize hEE : eIf (eBl (eBin gEqL (eVar 9) (eLst (aCons (eC (.str [])) aNil)))) (eLst (aCons (eC (.str [])) aNil)) (eCall Z4n [] (aCons (eVar 9) (aCons (eVar 3) (aCons (eBin gAdd (eVar 2) (eCallB gIntT (aCons (eVar 10) aNil))) (aCons (eC (.bl false)) aNil))))) = EE at *
        simp only [bt] at e2 ⊢
        simp [e2,tl,tlb,ex]
      · rw [Vw glb,List.map_append,List.map_append]; rfl
      · intro r hr
        obtain ⟨lj, a, b, c⟩ := hp' r hr
        refine ⟨lj,a,b,?_⟩
        have := x2.getL c
        rw [Ys] at this ⊢
        rw [List.getElem?_set_ne (by omega)]; exact this
      · intro j hj
        rw [List.getElem?_set_ne (by omega)]
        obtain ⟨Y,rfl⟩ := x2
        rw [List.getElem?_append_left (by omega)]
        exact hk j hj
      · rw [List.length_set]; omega)
  simp only [Zk2,Z6m] at e
  refine ⟨p9, Z', ?_, g', hk', hle⟩
  unfold BT_8
  have hi2 : iAny (eVar 8) (bt v fd i d o5 o6 o7 (some (.loc lr)) o9 (some (.bl am)) (some (.loc ll)) o12 o13 o14) Z = .ok (itLoc lr) Z := by simp [bt,g]
  rw [Zd9,hi2,Z6m]
  exact e
theorem bt_9 {l : Nat} {PT : List (List Nat)} {x0 : List Nat} {t : List (List Nat)} (g : getL Z l = some (PT.map .str)) (hl : PT.length ≤ 50) (hf : PT.filter (fun p => decide (p ≠ [])) = x0 :: t) : ∃ Z', BT_9 (bt v fd i d o5 o6 (some (.loc l)) o8 o9 o10 o11 o12 o13 o14) Z = .nx (bt v fd i d o5 o6 (some (.loc l)) o8 o9 o10 o11 (some (.str x0)) o13 o14) Z' ∧ Ext Z Z' := by
  obtain ⟨Z', e, x, g'⟩ := Z2e (it := itLoc l) (put := fun t => putN [15] t (wipeR (bt v fd i d o5 o6 (some (.loc l)) o8 o9 o10 o11 o12 o13 o14) [15])) (c := Ua) (e := U9) (l := PT) (u := .str) (p := fun p => decide (p ≠ [])) (fv := .str) (Z1 := Z) (by unfold Lim; omega)
    (fun k Z' x hk => by
      show Option.map (fun ts => ts[k]?) (getL Z' l) = _
      rw [x.getL g]; simp)
    (fun x hx Z' xe => by
      refine ⟨[some (.str v), some (.str (styS fd)), some (.int (i : Int)), some (.int 0), some (.int (d : Int)), o5, o6, some (.loc l), o8, o9, o10, o11, o12, o13, o14, some (.str x), none], Z', by rw [Z4j]; rfl, ?_, Ext.refl _, fun _ => ⟨Z', by simp [U9], Ext.refl _⟩⟩
      by_cases h : x = [] <;> simp [Ua,h])
  refine ⟨Z', ?_, x⟩
  have hi : iAny (eVar 7) (bt v fd i d o5 o6 (some (.loc l)) o8 o9 o10 o11 o12 o13 o14) Z = .ok (itLoc l) Z := by simp [bt,g]
  have hlc : eLc [15] [15] (iAny (eVar 7)) Ua U9 (bt v fd i d o5 o6 (some (.loc l)) o8 o9 o10 o11 o12 o13 o14) Z = .ok (.loc Z.length) Z' := by
    unfold eLc
    rw [hi]
    exact e
  rw [hf, List.map_cons] at g'
  have ix : gIxW (.loc Z.length) (.int 0) Z' = some (.str x0, Z') := by rw [U6 _ g', show atI (Fx.T.str x0 :: t.map .str) 0 = some (.str x0) from Fx.atI_nat (k := 0) rfl]; rfl
  simp only [bt] at hlc ⊢
  simp [-q_lc,BT_9,hlc,ix]
theorem Znd : ∀ d < 10,∀ Z,gStr [.int ((d : Nat) : Int)] Z = some (.str [48 + d],Z) := by
  intro d hd Z
  match d,hd with
  | 0,_ => rfl
  | 1,_ => rfl
  | 2,_ => rfl
  | 3,_ => rfl
  | 4,_ => rfl
  | 5,_ => rfl
  | 6,_ => rfl
  | 7,_ => rfl
  | 8,_ => rfl
  | 9,_ => rfl
theorem bt_10 {am : Bool} {x0 : List Nat} (hx : x0 ≠ []) (hl : x0.length ≤ 5) (hd : wd d am < 10) : Zml (bt v fd i d o5 o6 o7 o8 o9 (some (.bl am)) o11 (some (.str x0)) o13 o14) Z = .nx (bt v fd i d o5 o6 o7 o8 o9 (some (.bl am)) o11 (some (.str x0)) (some (.str (dgtL (decide (x0.head? = some 32)) (wd d am)))) o14) Z := by
  cases x0 with
  | nil => exact absurd rfl hx
  | cons c r =>
    have ix : ∀ Z,gIxW (.str (c :: r)) (.int 0) Z = some (.str [c],Z) := fun Z => by
      rw [Zf2,Fx.ix_str,if_pos (by unfold Lim; omega),show atI (c :: r) 0 = some c from Fx.atI_nat (k := 0) rfl]; rfl
    have hs := Znd (wd d am) hd Z
    have hwi : (d : Int) + (if am = true then 1 else 0) = (wd d am : Int) := by unfold wd; cases am <;> simp
    simp only [bt]
    by_cases h : c = 32
    · have hdg : dgtL (decide ((c :: r).head? = some 32)) (wd d am) = [48 + wd d am] := by subst h; simp [dgtL]
      rw [hdg]
      generalize [48 + wd d am] = DG at *
      subst h
      simp [-Zf2,-Zo5,Zml,ix,hwi,hs]
    · have hdg : dgtL (decide ((c :: r).head? = some 32)) (wd d am) = [] := by simp [dgtL,h]
      rw [hdg]
      simp [-Zf2,-Zo5,Zml,ix,h]
theorem bt_11 {f : Nat} (hf : f < 4) : ∃ Z', Zom (bt v fd i d o5 (some (.int (f : Int))) o7 o8 o9 o10 o11 o12 o13 o14) Z = .nx (bt v fd i d o5 (some (.int (f : Int))) o7 o8 o9 o10 o11 o12 o13 (some (.str (sgnL f)))) Z' ∧ Ext Z Z' := by
  obtain ⟨Z1,hZ1⟩ : ∃ Z1,Z1 = Z ++ [O.lst [.str [45],.str [],.str [43]]] := ⟨_,rfl⟩
  have g : getL Z1 Z.length = some [.str [45],.str [],.str [43]] := by rw [hZ1]; exact Ym _ _
  have ix : gIxW (.loc Z.length) (.int (if (f : Int) < 2 then (f : Int) else 2)) Z1 = some (.str (sgnL f),Z1) := by
    rw [U6 _ g]
    match f,hf with
    | 0,_ => rfl
    | 1,_ => rfl
    | 2,_ => rfl
    | 3,_ => rfl
  refine ⟨Z1,?_,by rw [hZ1]; exact (Ext.refl _).app _⟩
  simp only [bt]
  generalize sgnL f = SG at *
  generalize (f : Int) = F at *
  simp [Zom,← hZ1,ix]
theorem sum_le (M : Nat) : ∀ ls : List (List Nat),(∀ l ∈ ls,l.length ≤ M) → sumL ls ≤ M * ls.length
  | [],_ => Nat.le_refl _
  | l :: ls,h => by
    have a := h l (by simp)
    have b := sum_le M ls fun x hx => h x (by simp [hx])
    show l.length + sumL ls ≤ _
    rw [List.length_cons,Nat.mul_succ]; omega
theorem Ze9 (M : Nat) : ∀ ls : List (List Nat),(∀ l ∈ ls,l.length ≤ M) → (ls.flatMap (fun l => 10 :: l)).length ≤ (M + 1) * ls.length
  | [],_ => Nat.zero_le _
  | l :: ls,h => by
    have a := h l (by simp)
    have b := Ze9 M ls fun x hx => h x (by simp [hx])
    rw [List.flatMap_cons,List.length_append,List.length_cons,List.length_cons,Nat.mul_succ]; omega
theorem bt_12 {f ll : Nat} {dg sg : List Nat} {lines : List (List Nat)} (hf : f < 4) (g : getL Z ll = some (lines.map .str)) (hn : lines ≠ []) (hl : lines.length ≤ 50) (hM : ∀ l ∈ lines,l.length ≤ 120) (hdg : dg.length ≤ 2) (hsg : sg.length ≤ 2) :
    Zon (bt v fd i d o5 (some (.int (f : Int))) o7 o8 o9 o10 (some (.loc ll)) o12 (some (.str dg)) (some (.str sg))) Z = .rt (.str (sty fd :: (dg ++ sg ++ (lines ++ List.replicate (f - 1) []).flatMap (fun l => 10 :: l)))) Z := by
  have hk := Znc fd
  have sl := sum_le 120 lines hM
  have fl := Ze9 120 lines hM
  have jn := Zn5 (a := [10]) (n := ll) (ys := lines) (Z := Z) g (by simp; unfold Lim; omega)
  obtain ⟨x,ls,rfl⟩ : ∃ x ls,lines = x :: ls := by
    cases lines with
    | nil => exact absurd rfl hn
    | cons x ls => exact ⟨x,ls,rfl⟩
  rw [Ze8] at jn
  have mu := Jg (f - 1) Z (by omega)
  have hm : (if (1 : Int) < (f : Int) then (f : Int) - 1 else 0) = ((f - 1 : Nat) : Int) := by split <;> omega
  have nl : (nls (f - 1)).length = f - 1 := List.length_replicate ..
  obtain ⟨J,hJ⟩ : ∃ J,J = x ++ ls.flatMap (fun l => 10 :: l) := ⟨_,rfl⟩
  rw [← hJ] at jn
  have hJl : J.length + 1 ≤ 121 * 50 := by
    have : ((x :: ls).flatMap (fun l => 10 :: l)).length = J.length + 1 := by rw [hJ,List.flatMap_cons]; simp
    omega
  have hres : sty fd :: (dg ++ sg ++ ((x :: ls) ++ List.replicate (f - 1) []).flatMap (fun l => 10 :: l)) = [sty fd] ++ dg ++ sg ++ [10] ++ J ++ nls (f - 1) := by
    rw [List.flatMap_append,Z1p,List.flatMap_cons,hJ]; simp
  rw [hres]
  have a1 := Xx [sty fd] dg Z (by simp; unfold Lim; omega)
  have a2 := Xx ([sty fd] ++ dg) sg Z (by simp; unfold Lim; omega)
  have a3 := Xx ([sty fd] ++ dg ++ sg) [10] Z (by simp; unfold Lim; omega)
  have a4 := Xx ([sty fd] ++ dg ++ sg ++ [10]) J Z (by simp; unfold Lim; omega)
  have a5 := Xx ([sty fd] ++ dg ++ sg ++ [10] ++ J) (nls (f - 1)) Z (by simp only [List.length_append,List.length_cons,List.length_nil,nl]; unfold Lim; omega)
  simp only [bt]
  generalize styS fd = SS at *
  generalize [sty fd] ++ dg ++ sg ++ [10] ++ J ++ nls (f - 1) = R5 at *
  generalize [sty fd] ++ dg ++ sg ++ [10] ++ J = R4 at *
  generalize [sty fd] ++ dg ++ sg ++ [10] = R3 at *
  generalize [sty fd] ++ dg ++ sg = R2 at *
  generalize [sty fd] ++ dg = R1 at *
  generalize nls (f - 1) = NL at *
  generalize ((f - 1 : Nat) : Int) = F1 at *
  generalize (f : Int) = F at *
  simp [-Z3g,-Qa,Zon,eKdI,hk,a1,a2,a3,jn,a4,hm,mu,a5]
end
end Ap
set_option maxHeartbeats 8000000
namespace Ap
open PySem PySem.Spec PyProof.Rows L2 SX Fx
theorem V0_ne {rows : List (Nat × List Nat)} (h : RowsOk rows) (h0 : rows ≠ []) : V0 rows ≠ [] := by
  obtain ⟨Y,c,e,_⟩ := Zgz rows h0 fun r hr => (h.mem r hr).2
  rw [e]; simp
theorem Zl8 (i : Nat) (rows : List (Nat × List Nat)) (k : Nat) : k + moreL i rows = wd k (decide (i = 0) && rows.any fun r => isM r.2) := by
  unfold moreL wd
  by_cases h : i = 0 <;> cases hb : (rows.any fun r => isM r.2) <;> simp [h]
theorem Zi0 {m : Nat} {x : List Nat} {rs : List (Nat × List Nat)} : fst32 ((m,x) :: rs) = decide (x.head? = some 32) := by
  cases x with
  | nil => rfl
  | cons c x =>
    by_cases h : c = 32
    · subst h; rfl
    · have : fst32 ((m,c :: x) :: rs) = false := by
        unfold fst32
        split
        · rename_i heq; cases heq; exact absurd rfl h
        · rfl
      rw [this]; simp [h]
section
variable {fd : Bool} {i d f : Nat} {rows : List (Nat × List Nat)} {Z : Sto}
theorem Zos (h : RowsOk rows) (hi : i ≤ 100) (hd1 : 1 ≤ d) (hd : d ≤ 9) (hdi : d ≤ i + 1) (hf : f < 4) : ∃ Z', Z1a [.str (V0 rows ++ nls f), .str (styS fd), .int (i : Int), .int 0, .int (d : Int)] Z = .ok (.str (btx fd i d f rows)) Z' ∧ Ext Z Z' := by
  obtain ⟨vl,_⟩ := Zcm rows h.mem
  have hlen := h.len
  have nl : (nls f).length = f := List.length_replicate ..
  have hv : (V0 rows ++ nls f).length ≤ 1000 := by rw [List.length_append,nl]; omega
  obtain ⟨v,hvv⟩ : ∃ v,v = V0 rows ++ nls f := ⟨_,rfl⟩
  rw [← hvv] at hv ⊢
  have e0 : ∀ {Z' : Sto} {t : Fx.T}, Z43 (bt v fd i d none none none none none none none none none none) Z = .rt t Z' → Z1a [.str v, .str (styS fd), .int (i : Int), .int 0, .int (d : Int)] Z = .ok t Z' := fun h => Ut (n := 17) (as := [.str v, .str (styS fd), .int (i : Int), .int 0, .int (d : Int)]) h
  by_cases h0 : rows = []
  · have hr : rst 10 v = [] := by rw [hvv,h0]; exact Zoq f
    have b1 := bt_1 (fd := fd) (i := i) (d := d) (o5 := none) (o6 := none) (o7 := none) (o8 := none) (o9 := none) (o10 := none) (o11 := none) (o12 := none) (o13 := none) (o14 := none) (Z := Z) hv
    rw [hr] at b1
    have b2 := bt_2 (fd := fd) (i := i) (d := d) (c := []) (f := f) (o6 := none) (o7 := none) (o8 := none) (o9 := none) (o10 := none) (o11 := none) (o12 := none) (o13 := none) (o14 := none) (Z := Z) hv (by rw [hvv,h0,List.length_append,nl]; simp [V0])
    obtain ⟨Z', b3, x⟩ := bt_3n (v := v) (fd := fd) (i := i) (d := d) (f := f) (o7 := none) (o8 := none) (o9 := none) (o10 := none) (o11 := none) (o12 := none) (o13 := none) (o14 := none) (Z := Z) (by omega)
    refine ⟨Z', e0 ?_, x⟩
    rw [Zq8]
    have hb : btx fd i d f rows = sty fd :: (sgn0 f ++ nls f) := by
      unfold btx
      rw [if_pos h0,Z1p]
    rw [hb]
    exact Zx b1 (Zx b2 (b_rt b3))
  · obtain ⟨Y,c,hY,hc⟩ := Zgz rows h0 fun r hr => (h.mem r hr).2
    have hr : rst 10 v = V0 rows := by rw [hvv,hY]; exact Zop hc f
    obtain ⟨am,ham⟩ : ∃ am,am = (decide (i = 0) && rows.any fun r => isM r.2) := ⟨_,rfl⟩
    obtain ⟨m,x0,rs,hrows⟩ : ∃ m x0 rs,rows = (m,x0) :: rs := by
      cases rows with
      | nil => exact absurd rfl h0
      | cons r rs => exact ⟨r.1,r.2,rs,rfl⟩
    have hx0 := Z0v x0 (h.mem (m,x0) (by rw [hrows]; simp)).2
    have hpt := Zfy (fd := fd) rows 0 true fun r hr => (h.mem r hr).1
    obtain ⟨PT,hPT⟩ : ∃ PT,PT = ptR fd 0 true rows := ⟨_,rfl⟩
    have hmem : ∀ p ∈ PT,p = [] ∨ p ∈ rwL := fun p hp => by
      rw [hPT] at hp
      rcases Zcl _ _ _ _ hp with h1 | ⟨r,hr,h1⟩
      · exact .inl h1
      · exact .inr (by rw [h1]; exact (h.mem r hr).2)
    have hany : PT.any isM = rows.any fun r => isM r.2 := by rw [hPT]; exact Znb fd rows 0 true
    have b1 := bt_1 (fd := fd) (i := i) (d := d) (o5 := none) (o6 := none) (o7 := none) (o8 := none) (o9 := none) (o10 := none) (o11 := none) (o12 := none) (o13 := none) (o14 := none) (Z := Z) hv
    rw [hr] at b1
    have b2 := bt_2 (fd := fd) (i := i) (d := d) (c := V0 rows) (f := f) (o6 := none) (o7 := none) (o8 := none) (o9 := none) (o10 := none) (o11 := none) (o12 := none) (o13 := none) (o14 := none) (Z := Z) hv (by rw [hvv,List.length_append,nl])
    have b3 := bt_3 (v := v) (fd := fd) (i := i) (d := d) (o6 := some (.int (f : Int))) (o7 := none) (o8 := none) (o9 := none) (o10 := none) (o11 := none) (o12 := none) (o13 := none) (o14 := none) (Z := Z) (V0_ne h h0)
    obtain ⟨l,Z4,b4,g4,x4⟩ := bt_4 (v := v) (fd := fd) (i := i) (d := d) (o6 := some (.int (f : Int))) (o7 := none) (o8 := none) (o9 := none) (o10 := none) (o11 := none) (o12 := none) (o13 := none) (o14 := none) (Z := Z) h h0
    rw [← hPT] at g4 hpt
    obtain ⟨prs,Z5,b5,x5,hfst,g5,hp5⟩ := bt_5 (v := v) (fd := fd) (i := i) (d := d) (o5 := some (.str (V0 rows))) (o6 := some (.int (f : Int))) (o8 := none) (o9 := none) (o10 := none) (o11 := none) (o12 := none) (o13 := none) (o14 := none) g4 (by omega)
    have hpl : prs.length = PT.length := by rw [← hfst,List.length_map]
    have hm5 : ∀ q ∈ prs,q.1 = [] ∨ q.1 ∈ rwL := fun q hq => hmem q.1 (by rw [← hfst]; exact List.mem_map_of_mem hq)
    have hany5 : (prs.any fun q => isM q.1) = rows.any fun r => isM r.2 := by
      rw [← hany,← hfst,List.any_map]; rfl
    obtain ⟨Z6,b6,x6⟩ := bt_6 (v := v) (fd := fd) (i := i) (d := d) (o5 := some (.str (V0 rows))) (o6 := some (.int (f : Int))) (o7 := some (.loc l)) (o9 := none) (o10 := none) (o11 := none) (o12 := none) (o13 := none) (o14 := none) g5 hp5 hm5 (by omega)
    rw [hany5,← ham] at b6
    have b7 := bt_7 (v := v) (fd := fd) (i := i) (d := d) (o5 := some (.str (V0 rows))) (o6 := some (.int (f : Int))) (o7 := some (.loc l)) (o8 := some (.loc Z4.length)) (o9 := none) (o10 := some (.bl am)) (o11 := none) (o12 := none) (o13 := none) (o14 := none) (Z := Z6)
    have x7 : Ext Z6 (Z6 ++ [.lst []]) := (Ext.refl _).app _
    have g5' := x7.getL (x6.getL g5)
    have hl6 := Z1u (x6.getL g5)
    have hM8 : wd i am = 0 → ∀ q ∈ prs,isM q.1 = false := fun hw q hq => by
      have hi0 : i = 0 := by unfold wd at hw; omega
      have ha : am = false := by
        cases hh : am with
        | false => rfl
        | true => rw [hh] at hw; unfold wd at hw; simp at hw
      rw [ham,hi0] at ha
      simp only [decide_true,Bool.true_and] at ha
      rw [← hany5,List.any_eq_false] at ha
      simpa using ha q hq
    obtain ⟨p9, Z8, b8, g8, hk8, hle8⟩ := bt_8 (v := v) (fd := fd) (i := i) (d := d) (o5 := some (.str (V0 rows))) (o6 := some (.int (f : Int))) (o7 := some (.loc l)) (o9 := none) (o12 := none) (o13 := none) (o14 := none) (lr := Z4.length) (ll := Z6.length) (am := am) (prs := prs) hi g5' hl6 (Ym _ _) (fun q hq => by
      obtain ⟨li,h1,_,h3⟩ := hp5 q hq
      have h4 := x6.getL h3
      exact ⟨li,h1,Z1u h4,x7.getL h4⟩) hm5 (by omega) hM8
    have x8 : Ext Z Z8 := by
      have hz := x4.trans (x5.trans (x6.trans x7))
      have hzl := (x4.trans (x5.trans x6)).len
      refine ⟨Z8.drop Z.length,?_⟩
      have ht : Z8.take Z.length = Z := by
        apply List.ext_getElem?
        intro j
        rw [List.getElem?_take]
        by_cases hj : j < Z.length
        · rw [if_pos hj,hk8 j (by omega)]
          obtain ⟨W,hW⟩ := hz
          rw [hW,List.getElem?_append_left hj]
        · rw [if_neg hj,List.getElem?_eq_none (by omega)]
      have := List.take_append_drop Z.length Z8
      rw [ht] at this
      exact this.symm
    have g4' : getL Z8 l = some (PT.map .str) := by
      have h1 := (x5.trans x6).getL g4
      have h2 := Z1u h1
      have h3 := x7.getL h1
      rw [Ys] at h3 ⊢
      rw [hk8 l h2]; exact h3
    obtain ⟨t,hfil⟩ := Zor (fd := fd) (m := m) (x := x0) (rs := rs) hx0.1
    rw [← hrows,← hPT] at hfil
    obtain ⟨Z9, b9, x9⟩ := bt_9 (v := v) (fd := fd) (i := i) (d := d) (o5 := some (.str (V0 rows))) (o6 := some (.int (f : Int))) (o8 := some (.loc Z4.length)) (o9 := p9) (o10 := some (.bl am)) (o11 := some (.loc Z6.length)) (o12 := none) (o13 := none) (o14 := none) g4' (by omega) hfil
    have hwd : wd d am < 10 := by
      by_cases ha : am = true
      · have hi0 : i = 0 := by
          rw [ha] at ham
          have := ham.symm
          simp only [Bool.and_eq_true,decide_eq_true_eq] at this
          exact this.1
        unfold wd; split <;> omega
      · unfold wd; rw [if_neg ha]; omega
    have b10 := bt_10 (v := v) (fd := fd) (i := i) (d := d) (o5 := some (.str (V0 rows))) (o6 := some (.int (f : Int))) (o7 := some (.loc l)) (o8 := some (.loc Z4.length)) (o9 := p9) (am := am) (o11 := some (.loc Z6.length)) (o13 := none) (o14 := none) (Z := Z9) hx0.1 hx0.2.2.2 hwd
    have hfs : decide (x0.head? = some 32) = fst32 rows := by rw [hrows,Zi0]
    rw [hfs] at b10
    obtain ⟨Z11,b11,x11⟩ := bt_11 (v := v) (fd := fd) (i := i) (d := d) (o5 := some (.str (V0 rows))) (o7 := some (.loc l)) (o8 := some (.loc Z4.length)) (o9 := p9) (o10 := some (.bl am)) (o11 := some (.loc Z6.length)) (o12 := some (.str x0)) (o13 := some (.str (dgtL (fst32 rows) (wd d am)))) (o14 := none) (Z := Z9) hf
    have hlines : (prs.map fun q => lnOf (wd i am) q.1) = PT.map (lnOf (wd i am)) := by rw [← hfst,List.map_map]; rfl
    rw [hlines] at g8
    have hne : PT ≠ [] := fun e => by rw [e] at hfil; cases hfil
    have b12 := bt_12 (v := v) (fd := fd) (i := i) (d := d) (o5 := some (.str (V0 rows))) (o7 := some (.loc l)) (o8 := some (.loc Z4.length)) (o9 := p9) (o10 := some (.bl am)) (o12 := some (.str x0)) (dg := dgtL (fst32 rows) (wd d am)) (sg := sgnL f) hf ((x9.trans x11).getL g8) (by simpa using hne) (by rw [List.length_map]; omega) (fun y hy => by
      obtain ⟨p,hp,rfl⟩ := List.mem_map.mp hy
      have : p.length ≤ 5 := by
        rcases hmem p hp with h1 | h1
        · rw [h1]; simp
        · exact (Z0v p h1).2.2.2
      unfold lnOf
      split
      · simp
      · rw [List.length_append,List.length_replicate]
        have : wd i am ≤ i + 1 := by unfold wd; split <;> omega
        omega) (by unfold dgtL; split <;> simp) (by unfold sgnL; split; simp; split <;> simp)
    have hb : btx fd i d f rows = sty fd :: (dgtL (fst32 rows) (wd d am) ++ sgnL f ++ ((PT.map (lnOf (wd i am))) ++ List.replicate (f - 1) []).flatMap (fun l => 10 :: l)) := by
      unfold btx
      rw [if_neg h0,Zl8,Zl8,← ham,hPT]
    refine ⟨Z11,e0 ?_,x8.trans (x9.trans x11)⟩
    rw [Zq8,hb]
    exact Zx b1 (Zx b2 (Zx b3 (Zx b4 (Zx b5 (Zx b6 (Zx b7 (Zx b8 (Zx b9 (Zx b10 (Zx b11 b12))))))))))
theorem Zfz (h : RowsOk rows) (hi : i ≤ 100) (hd1 : 1 ≤ d) (hd : d ≤ 9) (hdi : d ≤ i + 1) (hf : f < 4) : ∃ Z', Qg [.str (V0 rows ++ nls f), .str (styS fd), .str ctB, .int (i : Int), .int 0, .int (d : Int)] Z = .ok (.str (btx fd i d f rows)) Z' ∧ Ext Z Z' := by
  obtain ⟨vl,vok⟩ := Zcm rows h.mem
  have hlen := h.len
  have nl : (nls f).length = f := List.length_replicate ..
  have nok : (nls f).all okC = true := by
    rw [List.all_eq_true]
    intro c hc
    rw [(List.mem_replicate.mp hc).2]; rfl
  have hv : (V0 rows ++ nls f).length ≤ 1000 := by rw [List.length_append,nl]; omega
  have hok : (V0 rows ++ nls f).all okC = true := by rw [List.all_append,vok,nok]; rfl
  obtain ⟨Y,et⟩ := Zar (by unfold Lim; omega) hok Z
  obtain ⟨Z1,hZ1⟩ : ∃ Z1,Z1 = Z ++ Y := ⟨_,rfl⟩
  rw [← hZ1] at et
  have x1 : Ext Z Z1 := by rw [hZ1]; exact (Ext.refl Z).app _
  obtain ⟨Z2,eb,x2⟩ := Zos (fd := fd) (Z := Z1) h hi hd1 hd hdi hf
  refine ⟨Z2,?_,x1.trans x2⟩
  have pB := Ze5 fd (ct := ctB) (.inl rfl) Z1
  have en := Zas (i := (i : Int)) (d := (d : Int)) (by omega) (by omega) (by omega) (by omega) (by omega) Z1
  have hh : kdHas Uq (.str (styS fd)) = some true := by cases fd <;> rfl
  have n1 : ¬ styS fd = [112,108,97,105,110] := by cases fd <;> decide
  have n2 : ¬ styS fd = [115,105,110,103,108,101] := by cases fd <;> decide
  have n3 : ¬ styS fd = [100,111,117,98,108,101] := by cases fd <;> decide
  have hl2 : (V0 rows ++ nls f).length ≤ Lim := by unfold Lim; omega
  have hl3 : ¬ (3000 : Int) < ((V0 rows ++ nls f).length : Int) := by omega
  have ev : Nu [.str (V0 rows ++ nls f)] Z = .ok .non Z1 := by
    generalize V0 rows ++ nls f = V at *
    have hl4 : ¬ (3000 : Int) < (V.length : Int) := by omega
    simp [Nu,runF,Z77,et,hl2,hl4]
  have ef : Z1b [.str (V0 rows ++ nls f),.str (styS fd),.str ctB] Z1 = .ok (.bl true) Z1 := by
    have hc : ctB = [98,108,111,99,107] := rfl
    rw [hc]
    generalize V0 rows ++ nls f = V at *
    generalize styS fd = SS at *
    simp [Z1b,runF,Z8w,n1,n2,n3]
  generalize V0 rows ++ nls f = V at *
  generalize styS fd = SS at *
  generalize ctB = CC at *
  simp [Qg,runF,Zf6,ev,pB,en,ef,Za4,Zf5,tKdIn,hh,eb]
end
end Ap
set_option maxHeartbeats 8000000
namespace Ap
open PySem PySem.Spec PyProof.Rows L2 SX Fx
def LT_1 : FS := (sIf (eBl (eBin gEqL (eVar 0) (eLst aNil))) (sRet (eBin gAdd (eBin gAdd (eC (.str [62])) (eBin gIxW (eLst (aCons (eC (.str [45])) (aCons (eC (.str [43])) aNil))) (eCallB gIntT (aCons (eBin gGtW (eVar 1) (eC (.int 0))) aNil)))) (eBin gMul (eC (.str [10])) (eVar 1)))) sPass)
def LT_2 : FS := (sSet 6 (eCallB gIntT (aCons (eAnd (eBin gEq (eVar 2) (eC (.int 0))) (eBin gNeL (eLc [4,5] [4,5] (iAny (eVar 0)) Qi Qh) (eLst aNil))) aNil)))
def LT_3 : FS := (sSet 7 (eBin gAdd (eBin gAdd (eC (.str [62])) (eBin gMul (eCallB gStr (aCons (eBin gAdd (eVar 3) (eVar 6)) aNil)) (eCallB gIntT (aCons (eBin gEq (eBin gIxW (eBin gIxW (eBin gIxW (eVar 0) (eC (.int 0))) (eC (.int 1))) (eC (.int 0))) (eC (.str [32]))) aNil)))) (eBin gIxW (eLst (aCons (eC (.str [45])) (aCons (eC (.str [])) (aCons (eC (.str [43])) aNil)))) (eCallB gMin (aCons (eVar 1) (aCons (eC (.int 2)) aNil))))))
def LT_4 : FS := (sSet 8 (eC (.str [32])))
def LT_5 : FS := (sFor (iEnmA (aCons (eVar 0) aNil)) (gTp 2 (gsCons (gNm 9) (gsCons (gTp 2 (gsCons (gNm 4) (gsCons (gNm 5) gsNil))) gsNil))) Z32)
def LT_6 : FS := (sRet (eBin gAdd (eVar 7) (eBin gMul (eC (.str [10])) (eCallB gMax (aCons (eC (.int 0)) (aCons (eBin gSub (eVar 1) (eC (.int 1))) aNil))))))
theorem Zqa : Z67 = bCons LT_1 (bCons LT_2 (bCons LT_3 (bCons LT_4 (bCons LT_5 (LT_6))))) := rfl
def rwT (r : Nat × List Nat) : Fx.T := .tup [.int (r.1 : Int),.str r.2]
theorem tw_1 (a b : Fx.T) (Z : Sto) : gIxW (.tup [a,b]) (.int 1) Z = some (b,Z) := rfl
theorem Zqb (c : Nat) (r : List Nat) (Z : Sto) : gNotInW (.str [c]) (.str [32,9]) Z = some (.bl (!isW (c :: r)),Z) := by
  rw [Zhj]
  have : gInB (.str [c]) (.str [32,9]) Z = some (isW (c :: r)) := by simp [gInB,isW]
  unfold gNotIn
  rw [this]; rfl
theorem ix_0 {c : Nat} {r : List Nat} (h : (c :: r).length ≤ 100) (Z : Sto) : gIxW (.str (c :: r)) (.int 0) Z = some (.str [c],Z) := by
  rw [Zf2,Fx.ix_str,if_pos (by unfold Lim; omega),show atI (c :: r) 0 = some c from Fx.atI_nat (k := 0) rfl]; rfl
def lt (lr f i d : Nat) (o4 o5 o6 o7 o8 o9 o10 o11 : Option Fx.T) : Fx.Env := [some (.loc lr),some (.int (f : Int)),some (.int (i : Int)),some (.int (d : Int)),o4,o5,o6,o7,o8,o9,o10,o11]
section
variable {lr f i d : Nat} {o4 o5 o6 o7 o8 o9 o10 o11 : Option Fx.T} {Z : Sto} {rows : List (Nat × List Nat)}
theorem lt_1n (hf : f < 4) (g : getL Z lr = some []) : ∃ Z', LT_1 (lt lr f i d o4 o5 o6 o7 o8 o9 o10 o11) Z = .rt (.str (62 :: (sgn0 f ++ nls f))) Z' ∧ Ext Z Z' := by
  obtain ⟨q,_⟩ := Z6j g
  obtain ⟨Z1,hZ1⟩ : ∃ Z1,Z1 = Z ++ [O.lst []] := ⟨_,rfl⟩
  rw [← hZ1] at q
  have x1 : Ext Z Z1 := by rw [hZ1]; exact (Ext.refl _).app _
  obtain ⟨Z2,hZ2⟩ : ∃ Z2,Z2 = Z1 ++ [O.lst [.str [45],.str [43]]] := ⟨_,rfl⟩
  have x2 : Ext Z1 Z2 := by rw [hZ2]; exact (Ext.refl _).app _
  have g2 : getL Z2 Z1.length = some [.str [45],.str [43]] := by rw [hZ2]; exact Ym _ _
  refine ⟨Z2,?_,x1.trans x2⟩
  have mu := Jg f Z2 (by omega)
  have hn : (nls f).length = f := List.length_replicate ..
  have sg : (sgn0 f).length = 1 := by unfold sgn0; split <;> rfl
  have ix : gIxW (.loc Z1.length) (.int (if (0 : Int) < (f : Int) then 1 else 0)) Z2 = some (.str (sgn0 f),Z2) := by
    rw [U6 _ g2]
    by_cases h0 : 0 < f
    · rw [if_pos (by omega),sgn0,if_pos h0]; rfl
    · rw [if_neg (by omega),sgn0,if_neg h0]; rfl
  have a1 := Xx [62] (sgn0 f) Z2 (by rw [sg]; simp [Lim])
  have a2 := Xx ([62] ++ sgn0 f) (nls f) Z2 (by rw [List.length_append,sg,hn]; simp; unfold Lim; omega)
  rw [show 62 :: (sgn0 f ++ nls f) = [62] ++ sgn0 f ++ nls f from rfl]
  simp only [lt]
  generalize [62] ++ sgn0 f ++ nls f = R2 at *
  generalize [62] ++ sgn0 f = R1 at *
  generalize nls f = NL at *
  generalize sgn0 f = SG at *
  generalize (f : Int) = F at *
  simp [-Z3g,-Qa,LT_1,← hZ1,q,← hZ2,ix,a1,mu,a2]
theorem lt_1 {ts : List Fx.T} (g : getL Z lr = some ts) (h : ts ≠ []) : LT_1 (lt lr f i d o4 o5 o6 o7 o8 o9 o10 o11) Z = .nx (lt lr f i d o4 o5 o6 o7 o8 o9 o10 o11) (Z ++ [.lst []]) := by
  obtain ⟨q,_⟩ := Z6j g
  have hl : decide (ts.length = 0) = false := by simpa using h
  rw [hl] at q
  simp [LT_1,lt,q]
theorem Zqc {l : List Nat} {ρ : Fx.Env} {Z : Sto} (hρ : ρ[5]? = some (some (.str l))) (hl : l.length + 1 ≤ Lim) : eBin gInW (eSl (eBin gAdd (eVar 5) (eC (.str [32]))) oNone (oSome (eC (.int 4)))) (eTup (aCons (eC (.str [45,45,45,32])) (aCons (eC (.str [46,46,46,32])) aNil))) ρ Z = .ok (.bl (isM l)) Z := by
  have a := Xx l [32] Z hl
  have c : cutL (l ++ [32]) none (some 4) = (l ++ [32]).take 4 := Zeb _ 4
  have i := Zck ((l ++ [32]).take 4) [45,45,45,32] [46,46,46,32] Z
  have hm : (decide ((l ++ [32]).take 4 = [45,45,45,32]) || decide ((l ++ [32]).take 4 = [46,46,46,32])) = isM l := rfl
  rw [hm] at i
  have hl2 : (l ++ [32]).length ≤ Lim := by rw [List.length_append]; exact hl
  have sl := Z88 (l ++ [32]) none (some 4) Z hl2
  rw [c] at sl
  have ev : eVar 5 ρ Z = .ok (.str l) Z := by
    unfold eVar
    rw [hρ]
  generalize (l ++ [32]).take 4 = A at *
  generalize l ++ [32] = B at *
  simp [-Zb3,-Z3g,-sl_s,ev,a,sl,i,oSome]
theorem lt_2 (h : RowsOk rows) (g : getL Z lr = some (rows.map rwT)) : ∃ Z', LT_2 (lt lr f i d o4 o5 o6 o7 o8 o9 o10 o11) Z = .nx (lt lr f i d o4 o5 (some (.int (moreL i rows : Int))) o7 o8 o9 o10 o11) Z' ∧ Ext Z Z' := by
  have hlen := h.len
  by_cases hi0 : i = 0
  · subst hi0
    obtain ⟨Z', e, x, g'⟩ := Z2e (it := itLoc lr) (put := fun t => putN [4,5] t (wipeR (lt lr f 0 d o4 o5 o6 o7 o8 o9 o10 o11) [4,5])) (c := Qi) (e := Qh) (l := rows) (u := rwT) (p := fun r => isM r.2) (fv := fun r => .str r.2) (Z1 := Z) (by unfold Lim; omega)
      (fun k Z' x hk => by
        show Option.map (fun ts => ts[k]?) (getL Z' lr) = _
        rw [x.getL g]; simp)
      (fun r hr Z' xe => by
        have hl := (Z0v _ (h.mem r hr).2).2.2.2
        refine ⟨lt lr f 0 d (some (.int (r.1 : Int))) (some (.str r.2)) o6 o7 o8 o9 o10 o11, Z', rfl, ?_, Ext.refl _, fun _ => ⟨Z', by simp [Qh, lt], Ext.refl _⟩⟩
        have := Zqc (l := r.2) (ρ := lt lr f 0 d (some (.int (r.1 : Int))) (some (.str r.2)) o6 o7 o8 o9 o10 o11) (Z := Z') rfl (by unfold Lim; omega)
        unfold Qi
        rw [q_bl,this]; rfl)
    have hlc : eLc [4,5] [4,5] (iAny (eVar 0)) Qi Qh (lt lr f 0 d o4 o5 o6 o7 o8 o9 o10 o11) Z = .ok (.loc Z.length) Z' := by
      have hi : iAny (eVar 0) (lt lr f 0 d o4 o5 o6 o7 o8 o9 o10 o11) Z = .ok (itLoc lr) Z := by simp [lt,g]
      unfold eLc
      rw [hi]
      exact e
    obtain ⟨_, q⟩ := Z6j g'
    refine ⟨Z' ++ [.lst []], ?_, x.app _⟩
    have hm : (moreL 0 rows : Int) = if (!decide (((rows.filter fun r => isM r.2).map fun r => Fx.T.str r.2).length = 0)) = true then 1 else 0 := by
      unfold moreL
      rw [List.length_map]
      by_cases hb : (rows.any fun r => isM r.2) = true
      · rw [if_pos ⟨rfl,hb⟩,if_pos]
        · rfl
        · rw [Bool.not_eq_true', decide_eq_false_iff_not, List.length_eq_zero_iff, List.filter_eq_nil_iff]
          intro hh
          obtain ⟨r,hr,hr2⟩ := List.any_eq_true.mp hb
          exact hh r hr hr2
      · rw [if_neg (fun e => hb e.2),if_neg]
        · rfl
        · rw [Bool.not_eq_true', decide_eq_false_iff_not, Classical.not_not, List.length_eq_zero_iff, List.filter_eq_nil_iff]
          intro r hr hr2
          exact hb (List.any_eq_true.mpr ⟨r,hr,hr2⟩)
    rw [hm]
    generalize ((rows.filter fun r => isM r.2).map fun r => Fx.T.str r.2) = TS at *
    simp only [lt,show ((0 : Nat) : Int) = 0 from rfl] at hlc ⊢
    simp [-q_lc,LT_2,hlc,q]
  · refine ⟨Z,?_,Ext.refl _⟩
    have h2 : ¬ (i : Int) = 0 := by omega
    have hm : moreL i rows = 0 := if_neg (fun e => hi0 e.1)
    rw [hm]
    simp [LT_2,lt,hi0,h2]
theorem lt_3 {m0 : Nat} {x0 : List Nat} {rs : List (Nat × List Nat)} {mo : Nat} (hr : rows = (m0, x0) :: rs) (hx : x0 ≠ []) (hxl : x0.length ≤ 5) (hd : d + mo < 10) (hf : f < 4) (g : getL Z lr = some (rows.map rwT)) : ∃ Z', LT_3 (lt lr f i d o4 o5 (some (.int (mo : Int))) o7 o8 o9 o10 o11) Z = .nx (lt lr f i d o4 o5 (some (.int (mo : Int))) (some (.str (62 :: (dgtL (fst32 rows) (d + mo) ++ sgnL f)))) o8 o9 o10 o11) Z' ∧ Ext Z Z' := by
  cases x0 with
  | nil => exact absurd rfl hx
  | cons c r =>
    obtain ⟨Z1,hZ1⟩ : ∃ Z1,Z1 = Z ++ [O.lst [.str [45],.str [],.str [43]]] := ⟨_,rfl⟩
    have g1 : getL Z1 Z.length = some [.str [45],.str [],.str [43]] := by rw [hZ1]; exact Ym _ _
    have ix : gIxW (.loc Z.length) (.int (if (2 : Int) < (f : Int) then 2 else (f : Int))) Z1 = some (.str (sgnL f),Z1) := by
      rw [U6 _ g1]
      match f,hf with
      | 0,_ => rfl
      | 1,_ => rfl
      | 2,_ => rfl
      | 3,_ => rfl
    refine ⟨Z1,?_,by rw [hZ1]; exact (Ext.refl _).app _⟩
    have hs := Znd (d + mo) hd Z
    have hc : ((d + mo : Nat) : Int) = (d : Int) + (mo : Int) := by omega
    rw [hc] at hs
    have i0 : gIxW (.loc lr) (.int 0) Z = some (.tup [.int (m0 : Int),.str (c :: r)],Z) := by
      rw [U6 _ g,hr,List.map_cons,show atI (rwT (m0,c :: r) :: rs.map rwT) 0 = some (rwT (m0,c :: r)) from Fx.atI_nat (k := 0) rfl]; rfl
    have ic := ix_0 (c := c) (r := r) (by omega) Z
    have hfst : fst32 rows = decide (c = 32) := by rw [hr,Zi0]; simp
    have mu : gMul (.str [48 + (d + mo)]) (.int (if c = 32 then 1 else 0)) Z = some (.str (dgtL (fst32 rows) (d + mo)),Z) := by
      rw [hfst,Zkb _ _ _ (by split <;> omega)]
      by_cases h : c = 32 <;> simp [h,dgtL]
    have dl : (dgtL (fst32 rows) (d + mo)).length ≤ 1 := by unfold dgtL; split <;> simp
    have sl : (sgnL f).length ≤ 1 := by unfold sgnL; split; simp; split <;> simp
    have a1 := Xx [62] (dgtL (fst32 rows) (d + mo)) Z (by simp; unfold Lim; omega)
    have a2 := Xx ([62] ++ dgtL (fst32 rows) (d + mo)) (sgnL f) Z1 (by simp; unfold Lim; omega)
    rw [show 62 :: (dgtL (fst32 rows) (d + mo) ++ sgnL f) = [62] ++ dgtL (fst32 rows) (d + mo) ++ sgnL f from rfl]
    simp only [lt]
    generalize [62] ++ dgtL (fst32 rows) (d + mo) ++ sgnL f = R2 at *
    generalize [62] ++ dgtL (fst32 rows) (d + mo) = R1 at *
    generalize dgtL (fst32 rows) (d + mo) = DG at *
    generalize sgnL f = SG at *
    generalize (f : Int) = F at *
    generalize [48 + (d + mo)] = D48 at *
    simp [-Z3g,-Qa,-Zo5,-Zf2,-ixW_t,LT_3,i0,tw_1,ic,hs,mu,a1,← hZ1,ix,a2]
theorem lt_4 : LT_4 (lt lr f i d o4 o5 o6 o7 o8 o9 o10 o11) Z = .nx (lt lr f i d o4 o5 o6 o7 (some (.str [32])) o9 o10 o11) Z := by simp [LT_4,lt]
def mapL (w : Nat) (l : List (List Nat)) : List Nat := (l.map (lnOf w)).flatMap (fun l => 10 :: l)
theorem Zl9 {mo : Nat} (h : RowsOk rows) (g : getL Z lr = some (rows.map rwT)) (hi : i ≤ 100) (hmo : mo ≤ 1) : ∀ (rs : List (Nat × List Nat)) (k m : Nat) (lw : Bool) (last found : List Nat) (o4 o5 o9 o10 o11 : Option Fx.T),rows.drop k = rs → k ≤ rows.length → rs.length < m → last ≠ [] → last.length ≤ 5 → isW last = lw → found.length ≤ 10 + 200 * k * 4 →
    ∃ q4 q5 q8 q9 q10 q11, loopN (itEnum (itLoc lr)) (fun t ρ' Z' => bS ρ' ((gTp 2 (gsCons (gNm 9) (gsCons (gTp 2 (gsCons (gNm 4) (gsCons (gNm 5) gsNil))) gsNil))) t ρ' Z') Z32) m k (lt lr f i d o4 o5 (some (.int (mo : Int))) (some (.str found)) (some (.str last)) o9 o10 o11) Z = .nx (lt lr f i d q4 q5 (some (.int (mo : Int))) (some (.str (found ++ mapL (i + mo) (ptR true k lw rs)))) q8 q9 q10 q11) Z ∧ (found ++ mapL (i + mo) (ptR true k lw rs)).length ≤ 10 + 200 * 5 * 4
  | [],k,m + 1,lw,last,found,o4,o5,o9,o10,o11,hd,hk,hm,_,_,_,hfl => by
    have hnone : rows[k]? = none := List.getElem?_eq_none (List.drop_eq_nil_iff.mp hd)
    have hit : itEnum (itLoc lr) k Z = some none := by simp [itEnum,itLoc,g,hnone]
    have hlen := h.len
    refine ⟨o4,o5,some (.str last),o9,o10,o11,?_,?_⟩
    · rw [Z4h hit]
      show _ = RS.nx (lt lr f i d o4 o5 _ (some (.str (found ++ []))) _ _ _ _) Z
      rw [List.append_nil]
    · show (found ++ []).length ≤ _
      rw [List.append_nil]
      have : 200 * k * 4 ≤ 200 * 5 * 4 := Nat.mul_le_mul (Nat.mul_le_mul (Nat.le_refl _) (by omega)) (Nat.le_refl _)
      omega
  | (e1,x) :: rs,k,m + 1,lw,last,found,o4,o5,o9,o10,o11,hd,hk,hm,hl0,hl5,hlw,hfl => by
    have hlen := h.len
    have hx : rows[k]? = some (e1,x) := by
      have h1 : (rows.drop k)[0]? = some (e1,x) := by rw [hd]; rfl
      rwa [List.getElem?_drop] at h1
    have hkl := (List.getElem?_eq_some_iff.mp hx).1
    have hmem := List.mem_of_getElem? hx
    obtain ⟨hb1,hb2⟩ := h.mem _ hmem
    simp only at hb1 hb2
    obtain ⟨hx0,_,_,hx5⟩ := Z0v x hb2
    have hge : k ≠ 0 → 1 ≤ e1 := fun hk0 => by
      have : (e1,x) ∈ rows.drop 1 := by
        obtain ⟨k', rfl⟩ : ∃ k', k = k' + 1 := ⟨k - 1, by omega⟩
        have h1 : (rows.drop 1)[k']? = some (e1, x) := by
          rw [List.getElem?_drop, show 1 + k' = k' + 1 by omega]; exact hx
        exact List.mem_of_getElem? h1
      exact h.ge _ this
    have hd2 : rows.drop (k + 1) = rs := by rw [← List.drop_drop,hd]; rfl
    have hit : itEnum (itLoc lr) k Z = some (some (.tup [.int (k : Int),rwT (e1,x)])) := by simp [itEnum,itLoc,g,hx]
    obtain ⟨em,hem⟩ : ∃ em,em = ems true k lw (isW x) e1 := ⟨_,rfl⟩
    have hem3 : em ≤ 3 := by rw [hem]; unfold ems; split <;> omega
    obtain ⟨found2,hf2⟩ : ∃ found2,found2 = found ++ nls (em + 1) ++ List.replicate (i + mo) 32 ++ x := ⟨_,rfl⟩
    have nl : (nls (em + 1)).length = em + 1 := List.length_replicate ..
    have rl : (List.replicate (i + mo) 32).length = i + mo := List.length_replicate ..
    have h4 : 200 * (k + 1) * 4 = 200 * k * 4 + 800 := by omega
    have h5 : 200 * k * 4 ≤ 200 * 5 * 4 := Nat.mul_le_mul (Nat.mul_le_mul (Nat.le_refl _) (by omega)) (Nat.le_refl _)
    have hf2l : found2.length ≤ 10 + 200 * (k + 1) * 4 := by
      rw [hf2,h4]
      simp only [List.length_append,nl,rl]; omega
    obtain ⟨q4,q5,q8,q9,q10,q11,ih,hll⟩ := Zl9 h g hi hmo rs (k + 1) m (isW x) x found2 (some (.int (e1 : Int))) (some (.str x)) (some (.int (k : Int))) (some (.bl (!isW x && !lw))) (some (.int (em : Int))) hd2 (by omega) (by simp at hm; omega) hx0 hx5 rfl hf2l
    have hv : found ++ mapL (i + mo) (ptR true k lw ((e1,x) :: rs)) = found2 ++ mapL (i + mo) (ptR true (k + 1) (isW x) rs) := by
      show found ++ mapL (i + mo) (List.replicate (ems true k lw (isW x) e1) [] ++ x :: ptR true (k + 1) (isW x) rs) = _
      rw [← hem,hf2]
      unfold mapL
      rw [List.map_append,Zgx,List.flatMap_append,Z1p,List.map_cons,List.flatMap_cons]
      have hl : lnOf (i + mo) x = List.replicate (i + mo) 32 ++ x := if_neg hx0
      rw [hl,List.cons_append,Ze7]
      simp only [List.append_assoc]
    rw [hv]
    refine ⟨q4,q5,q8,q9,q10,q11,?_,hll⟩
    rw [← ih]
    refine Z7q hit ?_
    cases x with
    | nil => exact absurd rfl hx0
    | cons c r =>
      cases last with
      | nil => exact absurd rfl hl0
      | cons c2 r2 =>
        have ic := ix_0 (c := c) (r := r) (by omega) Z
        have ic2 := ix_0 (c := c2) (r := r2) (by omega) Z
        have n1 := Zqb c r Z
        have n2 := Zqb c2 r2 Z
        rw [hlw] at n2
        obtain ⟨XX,hXX⟩ : ∃ XX,XX = c :: r := ⟨_,rfl⟩
        obtain ⟨WX,hWX⟩ : ∃ WX,WX = isW (c :: r) := ⟨_,rfl⟩
        rw [← hWX] at n1 hem
        rw [← hXX] at ic hf2 hx5 ⊢
        obtain ⟨LL,hLL⟩ : ∃ LL,LL = c2 :: r2 := ⟨_,rfl⟩
        rw [← hLL] at ic2 ⊢
        have hbare : eAnd (eBin gNotInW (eBin gIxW (eVar 5) (eC (.int 0))) (eC (.str [32,9]))) (eBin gNotInW (eBin gIxW (eVar 8) (eC (.int 0))) (eC (.str [32,9]))) (lt lr f i d (some (.int (e1 : Int))) (some (.str XX)) (some (.int (mo : Int))) (some (.str found)) (some (.str LL)) (some (.int (k : Int))) o10 o11) Z = .ok (.bl (!WX && !lw)) Z := by
          cases WX <;> simp [-Zhj,-Zf2,lt,ic,ic2,n1,n2]
        have hwm : (i : Int) + (mo : Int) = ((i + mo : Nat) : Int) := by omega
        have mu1 := Jg (em + 1) Z (by omega)
        have hem1 : ((em + 1 : Nat) : Int) = (em : Int) + 1 := by omega
        rw [hem1] at mu1
        have mu2 := Zl5 32 (i + mo) Z (by omega)
        have a1 := Xx found (nls (em + 1)) Z (by rw [nl]; unfold Lim; omega)
        have a2 := Xx (found ++ nls (em + 1)) (List.replicate (i + mo) 32) Z (by rw [List.length_append,nl,rl]; unfold Lim; omega)
        have a3 := Xx (found ++ nls (em + 1) ++ List.replicate (i + mo) 32) XX Z (by rw [List.length_append,List.length_append,nl,rl]; unfold Lim; omega)
        rw [← hf2] at a3
        have hemI : eIf (Fx.tOr (eBl (eBin gEq (eVar 9) (eC (.int 0)))) (eTru (eVar 10))) (eVar 4) (eBin gSub (eVar 4) (eC (.int 1))) (lt lr f i d (some (.int (e1 : Int))) (some (.str XX)) (some (.int (mo : Int))) (some (.str found)) (some (.str LL)) (some (.int (k : Int))) (some (.bl (!WX && !lw))) o11) Z = .ok (.int (em : Int)) Z := by
          rw [hem]
          by_cases hk0 : k = 0
          · have he : ems true k lw WX e1 = e1 := if_pos (.inl hk0)
            rw [he]
            subst hk0
            simp [lt]
          · have hk0' : ¬ (k : Int) = 0 := by omega
            by_cases hc : lw = false ∧ WX = false
            · have he : ems true k lw WX e1 = e1 := if_pos (.inr ⟨rfl,hc⟩)
              rw [he,hc.1,hc.2]
              simp [lt, hk0, hk0']
            · have he : ems true k lw WX e1 = e1 - 1 := if_neg (by rintro (h | h); exact hk0 h; exact hc h.2)
              have hz : (!WX && !lw) = false := by cases WX <;> cases lw <;> simp_all
              have he2 : (e1 : Int) - 1 = ((e1 - 1 : Nat) : Int) := by have := hge hk0; omega
              rw [he,hz]
              simp [lt, hk0, hk0', he2]
        refine (Zx (ρ' := lt lr f i d (some (.int (e1 : Int))) (some (.str XX)) (some (.int (mo : Int))) (some (.str found)) (some (.str LL)) (some (.int (k : Int))) (some (.bl (!WX && !lw))) o11) (Z' := Z) (a := sSet 10 _) ?_ (Zx (ρ' := lt lr f i d (some (.int (e1 : Int))) (some (.str XX)) (some (.int (mo : Int))) (some (.str found)) (some (.str LL)) (some (.int (k : Int))) (some (.bl (!WX && !lw))) (some (.int (em : Int)))) (Z' := Z) (a := sSet 11 _) ?_ ?_))
        · show bS _ (eAnd _ _ (lt lr f i d (some (.int (e1 : Int))) (some (.str XX)) (some (.int (mo : Int))) (some (.str found)) (some (.str LL)) (some (.int (k : Int))) o10 o11) Z) _ = _
          rw [hbare]; rfl
        · show bS _ (eIf _ _ _ (lt lr f i d (some (.int (e1 : Int))) (some (.str XX)) (some (.int (mo : Int))) (some (.str found)) (some (.str LL)) (some (.int (k : Int))) (some (.bl (!WX && !lw))) o11) Z) _ = _
          rw [hemI]; rfl
        · generalize found ++ nls (em + 1) ++ List.replicate (i + mo) 32 = F3 at *
          generalize found ++ nls (em + 1) = F2 at *
          generalize nls (em + 1) = NL at *
          generalize List.replicate (i + mo) 32 = RR at *
          generalize ((i + mo : Nat) : Int) = W at *
          simp only [lt]
          simp [-Z3g,-Qa,hwm,mu1,mu2,a1,a2,a3]
          rw [hWX,hXX]
end
end Ap
set_option maxHeartbeats 4000000
namespace Ap
open PySem PySem.Spec PyProof.Rows L2 SX Fx
def Wd (Z : Sto) (w : Nat) : Prop := (∃ a : Int,getL Z w = some [.int a]) ∨ ∃ a b c : Int,getL Z w = some [.int a,.int b,.int c]
structure Kd (w : Nat) (Z Z' : Sto) : Prop where
  wel : Wd Z' w
  len : Z.length ≤ Z'.length
  keep : ∀ i, i < Z.length → i ≠ w → Z'[i]? = Z[i]?
theorem Kd.trans {w : Nat} {Z Z1 Z2 : Sto} (a : Kd w Z Z1) (b : Kd w Z1 Z2) : Kd w Z Z2 :=
  ⟨b.wel,Nat.le_trans a.len b.len,fun i hi hn => (b.keep i (Nat.lt_of_lt_of_le hi a.len) hn).trans (a.keep i hi hn)⟩
theorem Kd.new {w : Nat} {Z Y : Sto} (h : Wd Z w) : Kd w Z (Z ++ Y) := by
  refine ⟨?_,by rw [List.length_append]; omega,fun i hi _ => List.getElem?_append_left hi⟩
  rcases h with ⟨a,e⟩ | ⟨a,b,c,e⟩
  · exact .inl ⟨a,Ue e⟩
  · exact .inr ⟨a,b,c,Ue e⟩
theorem Kd.getL {w i : Nat} {Z Z' : Sto} {ts : List Fx.T} (k : Kd w Z Z') (hn : i ≠ w) (h : getL Z i = some ts) : getL Z' i = some ts := by
  rw [Ys] at h ⊢
  rw [k.keep i (List.getElem?_eq_some_iff.mp h).1 hn]; exact h
theorem Kd.getDK {w i : Nat} {Z Z' : Sto} {ts : List (Key × Fx.T)} (k : Kd w Z Z') (hn : i ≠ w) (h : getDK Z i = some ts) : getDK Z' i = some ts := by
  unfold Fx.getDK at h ⊢
  cases e : Z[i]? with
  | none => rw [e] at h; cases h
  | some o => rw [k.keep i (List.getElem?_eq_some_iff.mp e).1 hn,e]; rw [e] at h; exact h
theorem Zi1 {Z : Sto} {w : Nat} {a b c : Int} (hw : getL Z w = some [.int a,.int b,.int c]) (n : Nat) (h0 : 0 < n) (h1 : n < 2 ^ 200) (o2 o3 : Option Fx.T) :
    ∃ (r : Nat) (a' b' c' : Int), r < n ∧ Jj [some (.loc w), some (.int n), o2, o3] Z = .rt (.int r) (Z.set w (.lst [.int a', .int b', .int c'])) := by
  have hn : (0 : Int) < (n : Int) := by omega
  have hn2 : ((n : Int) < 1606938044258990275541962092341162602522202993782792835301376) := by omega
  by_cases ha : (0 : Int) < a
  · obtain ⟨r,hr,e⟩ := modN a h0
    refine ⟨r,a / n,b,c,hr,?_⟩
    simp [Jj,U6 _ hw,Zhk _ _ hw,hw,ha,h0,h1,hn2,e,ixN]
  · have e1 := Vw (us := [.int a,.int b,.int (c + 1)]) hw
    generalize hx : ((b + 7919 * (c + 1) + 1) * 48271 : Int) % 2147483647 = x
    generalize hy : (x * (x / 1009 + 69621) : Int) % 2147483647 = y
    have mx : ∀ z,mulOk x z = true := fun z => hx ▸ Zc5 _ _ _ (by decide) (by decide)
    have my : ∀ z,mulOk y z = true := fun z => hy ▸ Zc5 _ _ _ (by decide) (by decide)
    obtain ⟨r,hr,e⟩ := modN (y * (y / 2003 + 40692) % 2147483399) h0
    refine ⟨r,a,b,c + 1,hr,?_⟩
    simp [Jj,Z5g,Z5f,Z5e,Z5d,U6 _ hw,Zhk _ _ hw,U6 _ e1,hw,ha,h0,h1,hn2,e,e1,hx,hy,mx,my,ixN]
theorem f_digit {Z : Sto} {w : Nat} (hw : Wd Z w) (n : Nat) (h0 : 0 < n) (h1 : n < 2 ^ 200) :
    ∃ (r : Nat) (Z' : Sto), r < n ∧ Yg [.loc w, .int n] Z = .ok (.int r) Z' ∧ Kd w Z Z' := by
  rcases hw with ⟨a,hw⟩ | ⟨a,b,c,hw⟩
  · have hlt := Z1u hw
    have hne : Z.length ≠ w := by omega
    have e0 : getL (Z ++ [.lst [.int (a % 2147483647),.int 0]]) w = some [.int a] := Ue hw
    have e00 : getL (Z ++ [.lst [.int (a % 2147483647),.int 0]]) Z.length = some [.int (a % 2147483647),.int 0] := by simp
    generalize hZ1 : Z ++ [O.lst [.int (a % 2147483647),.int 0]] = Z1 at e0 e00
    have e1 : getL (Z1.set w (.lst [.int a,.int (a % 2147483647),.int 0])) w = some [.int a,.int (a % 2147483647),.int 0] := Vw e0
    generalize hZ2 : Z1.set w (.lst [.int a,.int (a % 2147483647),.int 0]) = Z2 at e1
    have e2 : getL (Z2 ++ [.lst [.int 0,.int a]]) w = some [.int a,.int (a % 2147483647),.int 0] := Ue e1
    have e3 : ∃ q : Int,(if (1000000000000000000 : Int) ≤ a then a else 0) = q := ⟨_,rfl⟩
    obtain ⟨q,hq⟩ := e3
    have e4 := Vw (us := [.int q,.int (a % 2147483647),.int 0]) e2
    obtain ⟨r, a', b', c', hr, ed⟩ := Zi1 e4 n h0 h1 none none
    have e22 : getL (Z2 ++ [O.lst [.int 0,.int a]]) Z2.length = some [.int 0,.int a] := by simp
    refine ⟨r, ((Z2 ++ [O.lst [.int 0, .int a]]).set w (.lst [.int q, .int (a % 2147483647), .int 0])).set w (.lst [.int a', .int b', .int c']), hr, ?_, ?_⟩
    · have e5 : isTy "list" (.loc w) Z = true := by
        have := Vg hw
        simp [isTy,this]
      by_cases hb : (1000000000000000000 : Int) ≤ a
      · rw [if_pos hb] at hq; subst hq
        simp [Yg,runF,Z1c,hw,U6 _ hw,e5,hZ1,e0,e00,hZ2,U6 _ e1,e1,hb,Zhk _ _ e2,ixN,gExtend,ed,U6 _ e2,U6 _ e22]
      · rw [if_neg hb] at hq; subst hq
        simp [Yg,runF,Z1c,hw,U6 _ hw,e5,hZ1,e0,e00,hZ2,U6 _ e1,e1,hb,Zhk _ _ e2,ixN,gExtend,ed,U6 _ e2,U6 _ e22]
    · refine ⟨.inr ⟨a', b', c', Vw e4⟩, by subst hZ2 hZ1; simp; omega, fun i hi hn => ?_⟩
      subst hZ2 hZ1
      rw [List.getElem?_set_ne (Ne.symm hn),List.getElem?_set_ne (Ne.symm hn),List.getElem?_append_left (by simp; omega),List.getElem?_set_ne (Ne.symm hn),List.getElem?_append_left hi]
  · obtain ⟨r, a', b', c', hr, ed⟩ := Zi1 hw n h0 h1 none none
    refine ⟨r, _, hr, ?_, ⟨.inr ⟨a', b', c', Vw hw⟩, by rw [List.length_set]; omega, fun i _ hn => List.getElem?_set_ne (Ne.symm hn)⟩⟩
    simp [Yg,runF,Z1c,hw,ed]
theorem Z0w {Z : Sto} {w l : Nat} {ts : List Fx.T} (hw : Wd Z w) (hl : getL Z l = some ts) (hn : l ≠ w) (h0 : 0 < ts.length) (h1 : ts.length ≤ Lim) :
    ∃ (t : Fx.T) (Z' : Sto), t ∈ ts ∧ Xl [.loc w, .loc l] Z = .ok t Z' ∧ Kd w Z Z' := by
  obtain ⟨r, Z', hr, e, k⟩ := f_digit hw ts.length h0 (Nat.lt_of_le_of_lt h1 (by decide))
  have hl' := k.getL hn hl
  refine ⟨ts[r], Z', List.getElem_mem hr, ?_, k⟩
  have e2 := Fx.atI_nat (l := ts) (k := r) (a := ts[r]) (List.getElem?_eq_getElem hr)
  simp [Xl, runF, Zc8, hl, e, U6 _ hl', e2]
end Ap
set_option maxHeartbeats 8000000
namespace Ap
open PySem PySem.Spec PyProof.Rows L2 SX Fx
theorem Wd.lt {Z : Sto} {w : Nat} (h : Wd Z w) : w < Z.length := by
  rcases h with ⟨_,h⟩ | ⟨_,_,_,h⟩ <;> exact Z1u h
theorem Zi2 {w : Nat} {Z Z1 Z2 : Sto} (k : Kd w Z Z1) (x : Ext Z1 Z2) : Kd w Z Z2 := by
  obtain ⟨Y,rfl⟩ := x
  exact k.trans (Kd.new k.wel)
theorem Zea {w : Nat} {Z : Sto} (h : Wd Z w) : Kd w Z Z := ⟨h,Nat.le_refl _,fun _ _ _ => rfl⟩
theorem Zla {Z : Sto} {w : Nat} (hw : Wd Z w) (ts : List Fx.T) (h0 : 0 < ts.length) (h1 : ts.length ≤ Lim) : ∃ t Z', t ∈ ts ∧ Xl [.loc w, .loc Z.length] (Z ++ [.lst ts]) = .ok t Z' ∧ Kd w Z Z' := by
  have hlt := hw.lt
  have k0 := Zi2 (Zea hw) ((Ext.refl Z).app [.lst ts])
  obtain ⟨t, Z', ht, e, k⟩ := Z0w (l := Z.length) k0.wel (Ym _ _) (by omega) h0 h1
  exact ⟨t, Z', ht, e, k0.trans k⟩
section
variable {lr f i d : Nat} {Z : Sto} {rows : List (Nat × List Nat)}
theorem more_le (i : Nat) (rows : List (Nat × List Nat)) : moreL i rows ≤ 1 ∧ (moreL i rows = 1 → i = 0) := by
  unfold moreL
  split
  · rename_i h; exact ⟨Nat.le_refl _,fun _ => h.1⟩
  · exact ⟨by omega,fun h => by omega⟩
theorem Zot (h : RowsOk rows) (g : getL Z lr = some (rows.map rwT)) (hi : i ≤ 100) (hd1 : 1 ≤ d) (hd : d ≤ 9) (hdi : d ≤ i + 1) (hf : f < 4) : ∃ Z', Z0n [.loc lr, .int (f : Int), .int (i : Int), .int (d : Int)] Z = .ok (.str (btx true i d f rows)) Z' ∧ Ext Z Z' := by
  have e0 : ∀ {Z' : Sto} {t : Fx.T}, Z67 (lt lr f i d none none none none none none none none) Z = .rt t Z' → Z0n [.loc lr, .int (f : Int), .int (i : Int), .int (d : Int)] Z = .ok t Z' := fun h => Ut (n := 12) (as := [.loc lr, .int (f : Int), .int (i : Int), .int (d : Int)]) h
  by_cases h0 : rows = []
  · rw [h0] at g
    obtain ⟨Z', b1, x⟩ := lt_1n (lr := lr) (f := f) (i := i) (d := d) (o4 := none) (o5 := none) (o6 := none) (o7 := none) (o8 := none) (o9 := none) (o10 := none) (o11 := none) hf g
    refine ⟨Z', e0 ?_, x⟩
    have hb : btx true i d f rows = 62 :: (sgn0 f ++ nls f) := by
      unfold btx
      rw [if_pos h0,Z1p]; rfl
    rw [Zqa,hb]
    exact b_rt b1
  · obtain ⟨m,x0,rs,hrows⟩ : ∃ m x0 rs,rows = (m,x0) :: rs := by
      cases rows with
      | nil => exact absurd rfl h0
      | cons r rs => exact ⟨r.1,r.2,rs,rfl⟩
    have hx0 := Z0v x0 (h.mem (m,x0) (by rw [hrows]; simp)).2
    have b1 := lt_1 (f := f) (i := i) (d := d) (o4 := none) (o5 := none) (o6 := none) (o7 := none) (o8 := none) (o9 := none) (o10 := none) (o11 := none) g (by rw [hrows]; simp)
    have x1 : Ext Z (Z ++ [.lst []]) := (Ext.refl _).app _
    have g1 := x1.getL g
    obtain ⟨Z2,b2,x2⟩ := lt_2 (lr := lr) (f := f) (i := i) (d := d) (o4 := none) (o5 := none) (o6 := none) (o7 := none) (o8 := none) (o9 := none) (o10 := none) (o11 := none) h g1
    obtain ⟨hm1,hm2⟩ := more_le i rows
    have g2 := x2.getL g1
    obtain ⟨Z3,b3,x3⟩ := lt_3 (lr := lr) (f := f) (i := i) (d := d) (mo := moreL i rows) (o4 := none) (o5 := none) (o7 := none) (o8 := none) (o9 := none) (o10 := none) (o11 := none) hrows hx0.1 hx0.2.2.2 (by
      by_cases hmm : moreL i rows = 1
      · have := hm2 hmm; omega
      · omega) hf g2
    have g3 := x3.getL g2
    have b4 := lt_4 (lr := lr) (f := f) (i := i) (d := d) (o4 := none) (o5 := none) (o6 := some (.int (moreL i rows : Int))) (o7 := some (.str (62 :: (dgtL (fst32 rows) (d + moreL i rows) ++ sgnL f)))) (o8 := none) (o9 := none) (o10 := none) (o11 := none) (Z := Z3)
    have dl : (dgtL (fst32 rows) (d + moreL i rows)).length ≤ 1 := by unfold dgtL; split <;> simp
    have sl : (sgnL f).length ≤ 1 := by unfold sgnL; split; simp; split <;> simp
    obtain ⟨q4,q5,q8,q9,q10,q11,lp,hll⟩ := Zl9 (f := f) (d := d) (Z := Z3) h g3 hi hm1 rows 0 Fuel true [32] (62 :: (dgtL (fst32 rows) (d + moreL i rows) ++ sgnL f)) none none none none none rfl (Nat.zero_le _) (by rw [Jv]; have := h.len; unfold Lim; omega) (by simp) (by simp) rfl (by simp; omega)
    have b5 : LT_5 (lt lr f i d none none (some (.int (moreL i rows : Int))) (some (.str (62 :: (dgtL (fst32 rows) (d + moreL i rows) ++ sgnL f)))) (some (.str [32])) none none none) Z3 = .nx (lt lr f i d q4 q5 (some (.int (moreL i rows : Int))) (some (.str (62 :: (dgtL (fst32 rows) (d + moreL i rows) ++ sgnL f) ++ mapL (i + moreL i rows) (ptR true 0 true rows)))) q8 q9 q10 q11) Z3 := by
      have hi5 : iEnmA (aCons (eVar 0) aNil) (lt lr f i d none none (some (.int (moreL i rows : Int))) (some (.str (62 :: (dgtL (fst32 rows) (d + moreL i rows) ++ sgnL f)))) (some (.str [32])) none none none) Z3 = .ok (itEnum (itLoc lr)) Z3 := by
        simp [lt,g3]
      unfold LT_5
      rw [Zd9,hi5,Z6m]
      exact lp
    have hb : btx true i d f rows = 62 :: (dgtL (fst32 rows) (d + moreL i rows) ++ sgnL f) ++ mapL (i + moreL i rows) (ptR true 0 true rows) ++ nls (f - 1) := by
      unfold btx mapL
      rw [if_neg h0,List.flatMap_append,Z1p]
      simp [sty]
    have mu := Jg (f - 1) Z3 (by omega)
    have nl : (nls (f - 1)).length = f - 1 := List.length_replicate ..
    have a1 := Xx (62 :: (dgtL (fst32 rows) (d + moreL i rows) ++ sgnL f) ++ mapL (i + moreL i rows) (ptR true 0 true rows)) (nls (f - 1)) Z3 (by rw [nl]; unfold Lim; omega)
    have hm : (if (1 : Int) < (f : Int) then (f : Int) - 1 else 0) = ((f - 1 : Nat) : Int) := by split <;> omega
    refine ⟨Z3,e0 ?_,x1.trans (x2.trans x3)⟩
    rw [Zqa,hb]
    refine Zx b1 (Zx b2 (Zx b3 (Zx b4 (Zx b5 ?_))))
    generalize 62 :: (dgtL (fst32 rows) (d + moreL i rows) ++ sgnL f) ++ mapL (i + moreL i rows) (ptR true 0 true rows) ++ nls (f - 1) = R2 at *
    generalize 62 :: (dgtL (fst32 rows) (d + moreL i rows) ++ sgnL f) ++ mapL (i + moreL i rows) (ptR true 0 true rows) = R1 at *
    generalize nls (f - 1) = NL at *
    generalize ((f - 1 : Nat) : Int) = F1 at *
    simp only [lt]
    generalize (f : Int) = F at *
    simp [-Z3g,-Qa,LT_6,hm,mu,a1]
theorem Zg0 (k : Nat) : (List.replicate k 32).all okC = true := by
  rw [List.all_eq_true]
  intro c hc
  rw [(List.mem_replicate.mp hc).2]; rfl
theorem Z5r : ∀ all : List (List Nat),(∀ l ∈ all,l.length ≤ 110 ∧ l.all okC = true) → (all.flatMap (fun l => 10 :: l)).all okC = true ∧ (all.flatMap (fun l => l ++ [10])).length ≤ 111 * all.length
  | [],_ => ⟨rfl,Nat.le_refl _⟩
  | l :: ls,h => by
    obtain ⟨a,b⟩ := Z5r ls fun x hx => h x (by simp [hx])
    have c := h l (by simp)
    refine ⟨?_,?_⟩
    · rw [List.flatMap_cons,List.all_append,a,List.all_cons,c.2]; rfl
    · rw [List.flatMap_cons]
      have := c.1
      simp only [List.length_append,List.length_cons,List.length_nil] at b ⊢
      omega
theorem f_back (fd : Bool) (h : RowsOk rows) (hi : i ≤ 100) (hd1 : 1 ≤ d) (hd : d ≤ 9) (hdi : d ≤ i + 1) (hf : f < 4) : ∃ Z', Yi [.str (btx fd i d f rows), .str (styS fd), .str ctB, .int (i : Int), .int (d : Int)] Z = .ok (.str (V0 rows ++ nls f)) Z' ∧ Ext Z Z' := by
  by_cases h0 : rows = []
  · have hs : (sgn0 f).length = 1 ∧ 10 ∉ sgn0 f ∧ (sgn0 f).all okC = true := by
      unfold sgn0
      split <;> exact ⟨rfl,by decide,rfl⟩
    obtain ⟨f1,f2⟩ := Z5r (List.replicate f []) fun l hl => by rw [(List.mem_replicate.mp hl).2]; exact ⟨by simp,rfl⟩
    rw [List.length_replicate] at f2
    have hb : btx fd i d f rows = sty fd :: (sgn0 f ++ (List.replicate f []).flatMap (fun l => 10 :: l)) := if_pos h0
    have hv : V0 rows ++ nls f = nls f := by rw [h0]; rfl
    rw [hb,hv]
    obtain ⟨Z', e, x⟩ := (Zn9 (fd := fd) (u0 := sgn0 f) (lines := List.replicate f []) (i := (i : Int)) (d := (d : Int)) (Z := Z) hs.2.1 (fun l hl => by rw [(List.mem_replicate.mp hl).2]; simp) (fun l hl => by rw [(List.mem_replicate.mp hl).2]; simp) (by rw [List.length_replicate]; omega) (by omega) (by rw [List.all_cons, List.all_append, hs.2.2, f1]; cases fd <;> rfl) (by rw [List.length_append, List.length_cons]; omega) (by omega) (by omega) (by omega) (by omega) (by omega)).1
    rw [Zl3 fd (by omega)] at e
    exact ⟨Z', e, x⟩
  · obtain ⟨hm1,hm2⟩ := more_le i rows
    obtain ⟨mo,hmo⟩ : ∃ mo,mo = moreL i rows := ⟨_,rfl⟩
    have hb : btx fd i d f rows = sty fd :: (dgtL (fst32 rows) (d + moreL i rows) ++ sgnL f ++ ((ptR fd 0 true rows).map (lnOf (i + moreL i rows)) ++ List.replicate (f - 1) []).flatMap (fun l => 10 :: l)) := if_neg h0
    rw [← hmo] at hm1 hm2 hb
    have hdm : d + mo < 10 := by
      by_cases hmm : mo = 1
      · have := hm2 hmm; omega
      · omega
    obtain ⟨_,_,_,q4,q5,q6⟩ := Zl1 (fst32 rows) (by cases fst32 rows <;> simp) (d + mo) hdm (by omega) f hf
    have hlin : ∀ l ∈ (ptR fd 0 true rows).map (lnOf (i + mo)) ++ List.replicate (f - 1) [],10 ∉ l ∧ l.length ≤ 110 ∧ l.all okC = true := by
      intro l hl
      rcases List.mem_append.mp hl with hl | hl
      · obtain ⟨p,hp,rfl⟩ := List.mem_map.mp hl
        rcases Zcl _ _ _ _ hp with rfl | ⟨r,hr,rfl⟩
        · exact ⟨by simp [lnOf],by simp [lnOf],rfl⟩
        · obtain ⟨r1,r2,r3,r4⟩ := Z0v _ (h.mem r hr).2
          have : lnOf (i + mo) r.2 = List.replicate (i + mo) 32 ++ r.2 := if_neg r1
          rw [this]
          refine ⟨fun hh => ?_,by rw [List.length_append,List.length_replicate]; omega,by rw [List.all_append,Zg0,r3]; rfl⟩
          rcases List.mem_append.mp hh with hh | hh
          · exact absurd (List.mem_replicate.mp hh).2 (by decide)
          · exact r2 hh
      · rw [(List.mem_replicate.mp hl).2]; exact ⟨by simp,by simp,rfl⟩
    have hlen := h.len
    have hpt := Zfy (fd := fd) rows 0 true fun r hr => (h.mem r hr).1
    have hll : ((ptR fd 0 true rows).map (lnOf (i + mo)) ++ List.replicate (f - 1) []).length ≤ 30 := by
      rw [List.length_append,List.length_map,List.length_replicate]; omega
    have rb := Zl2 fd (rows := rows) (indent := i) (deep := d) (more := mo) (feeds := f) h0 (fun r hr => (Z0v _ (h.mem r hr).2).1) h.ge hd1 hdi hdm hf (fun hw r hr => by
      have hm0 : moreL i rows = 0 := by omega
      have hi0 : i = 0 := by omega
      unfold moreL at hm0
      split at hm0
      · omega
      · rename_i hn
        have : ¬ (rows.any fun r => isM r.2) = true := fun e => hn ⟨hi0,e⟩
        rw [Bool.not_eq_true,List.any_eq_false] at this
        simpa using this r hr)
    generalize (ptR fd 0 true rows).map (lnOf (i + mo)) ++ List.replicate (f - 1) [] = LS at *
    obtain ⟨f1,f2⟩ := Z5r LS fun l hl => (hlin l hl).2
    rw [hb]
    obtain ⟨Z', e, x⟩ := (Zn9 (fd := fd) (u0 := dgtL (fst32 rows) (d + mo) ++ sgnL f) (lines := LS) (i := (i : Int)) (d := (d : Int)) (Z := Z) q4 (fun l hl => (hlin l hl).1) (fun l hl => by have := (hlin l hl).2.1; omega) hll (by omega) (by rw [List.all_cons, List.all_append, q5, f1]; cases fd <;> rfl) (by rw [List.length_append, List.length_cons]; omega) (by omega) (by omega) (by omega) (by omega) (by omega)).1
    rw [rb] at e
    exact ⟨Z', e, x⟩
theorem Zqd (fd : Bool) (h : RowsOk rows) (hi : i ≤ 100) (hd1 : 1 ≤ d) (hd : d ≤ 9) (hdi : d ≤ i + 1) (hf : f < 4) : ∃ u,btx fd i d f rows = sty fd :: u ∧ u.all okC = true ∧ u.length ≤ 19000 := by
  by_cases h0 : rows = []
  · refine ⟨sgn0 f ++ nls f,?_,?_,?_⟩
    · unfold btx; rw [if_pos h0,Z1p]
    · have : (nls f).all okC = true := by
        rw [List.all_eq_true]
        intro c hc
        rw [(List.mem_replicate.mp hc).2]; rfl
      rw [List.all_append,this]
      unfold sgn0
      split <;> rfl
    · have : (nls f).length = f := List.length_replicate ..
      rw [List.length_append,this]
      unfold sgn0
      split <;> simp <;> omega
  · obtain ⟨hm1,hm2⟩ := more_le i rows
    obtain ⟨mo,hmo⟩ : ∃ mo,mo = moreL i rows := ⟨_,rfl⟩
    have hb : btx fd i d f rows = sty fd :: (dgtL (fst32 rows) (d + moreL i rows) ++ sgnL f ++ ((ptR fd 0 true rows).map (lnOf (i + moreL i rows)) ++ List.replicate (f - 1) []).flatMap (fun l => 10 :: l)) := if_neg h0
    rw [← hmo] at hm1 hm2 hb
    have hdm : d + mo < 10 := by
      by_cases hmm : mo = 1
      · have := hm2 hmm; omega
      · omega
    obtain ⟨_,_,_,q4,q5,q6⟩ := Zl1 (fst32 rows) (by cases fst32 rows <;> simp) (d + mo) hdm (by omega) f hf
    have hlin : ∀ l ∈ (ptR fd 0 true rows).map (lnOf (i + mo)) ++ List.replicate (f - 1) [],l.length ≤ 110 ∧ l.all okC = true := by
      intro l hl
      rcases List.mem_append.mp hl with hl | hl
      · obtain ⟨p,hp,rfl⟩ := List.mem_map.mp hl
        rcases Zcl _ _ _ _ hp with rfl | ⟨r,hr,rfl⟩
        · exact ⟨by simp [lnOf],rfl⟩
        · obtain ⟨r1,r2,r3,r4⟩ := Z0v _ (h.mem r hr).2
          have : lnOf (i + mo) r.2 = List.replicate (i + mo) 32 ++ r.2 := if_neg r1
          rw [this]
          exact ⟨by rw [List.length_append,List.length_replicate]; omega,by rw [List.all_append,Zg0,r3]; rfl⟩
      · rw [(List.mem_replicate.mp hl).2]; exact ⟨by simp,rfl⟩
    have hlen := h.len
    have hpt := Zfy (fd := fd) rows 0 true fun r hr => (h.mem r hr).1
    have hll : ((ptR fd 0 true rows).map (lnOf (i + mo)) ++ List.replicate (f - 1) []).length ≤ 30 := by
      rw [List.length_append,List.length_map,List.length_replicate]; omega
    refine ⟨_,hb,?_,?_⟩
    · rw [List.all_append,q5,(Z5r _ hlin).1]; rfl
    · have := Ze9 110 _ fun l hl => (hlin l hl).1
      rw [List.length_append]; omega
theorem Zou (h : RowsOk rows) (hi : i ≤ 100) (hd1 : 1 ≤ d) (hd : d ≤ 9) (hdi : d ≤ i + 1) (hf : f < 4) : ∃ Z', Yi [.str (btx true i d f rows), .str (styS false), .str ctB, .int (i : Int), .int (d : Int)] Z = .ok .non Z' ∧ Ext Z Z' := by
  obtain ⟨u,hu,hok,hul⟩ := Zqd true h hi hd1 hd hdi hf
  rw [hu]
  have hok2 : (sty true :: u).all okC = true := by rw [List.all_cons,hok]; rfl
  have hl : (sty true :: u).length ≤ Lim := by rw [List.length_cons]; unfold Lim; omega
  obtain ⟨Y,et⟩ := Zar hl hok2 Z
  obtain ⟨Z1,hZ1⟩ : ∃ Z1,Z1 = Z ++ Y := ⟨_,rfl⟩
  rw [← hZ1] at et
  refine ⟨Z1,?_,by rw [hZ1]; exact (Ext.refl Z).app _⟩
  have pB := Ze5 false (ct := ctB) (.inl rfl) Z
  have en := Zas (i := (i : Int)) (d := (d : Int)) (by omega) (by omega) (by omega) (by omega) (by omega) Z
  have hh : kdHas Uq (.str (styS false)) = some true := rfl
  have hne : sty true :: u ≠ [] := by simp
  have c1 : cutL (sty true :: u) none (some 1) = [62] := by
    have := Zeb (sty true :: u) 1
    exact this
  have slc := Z88 (sty true :: u) none (some 1) Z1 hl
  rw [c1] at slc
  have hk : kdT Uq (.str (styS false)) = some (.str [124]) := rfl
  have hc : ctB = [108,111] → False := by decide
  have cB : (ctB = [98,108,111,99,107]) = True := by simp [ctB]
  generalize sty true :: u = T at *
  generalize styS false = SS at *
  generalize ctB = CC at *
  have eb : Qn [.str T,.str SS,.int ((i : Int) - (d : Int))] Z1 = .ok .non Z1 := by
    simp [-sl_s,Qn,runF,Z7f,oSome,slc,eKdI,hk]
  simp [Yi,runF,Nv,pB,en,et,hne,tKdIn,hh,cB,eb]
end
end Ap
set_option maxHeartbeats 8000000
namespace Ap
open PySem PySem.Spec PyProof.Rows L2 SX Fx
def S_1 : FS := (sPar [4,5,6] (aCons (eCall Z31 [] (aCons (eVar 2) aNil)) (aCons (eCall Yg [] (aCons (eVar 2) (aCons (eC (.int 4)) aNil))) (aCons (eCall Yg [] (aCons (eVar 2) (aCons (eC (.int 10)) aNil))) aNil))))
def S_2 : FS := (sIf (eBl (eBin gEq (eVar 3) (eC (.int 9)))) (sSet 6 (eCall Xl [] (aCons (eVar 2) (aCons (eLst (aCons (eC (.int 100)) (aCons (eC (.int 99)) (aCons (eBin gAdd (eC (.int 50)) (eCall Yg [] (aCons (eVar 2) (aCons (eC (.int 50)) aNil)))) aNil)))) aNil)))) sPass)
def S_3 : FS := (sSet 7 (eBin gAdd (eC (.int 1)) (eCall Yg [] (aCons (eVar 2) (aCons (eCallB gMin (aCons (eC (.int 9)) (aCons (eBin gAdd (eVar 6) (eC (.int 1))) aNil))) aNil)))))
def S_4 : FS := (sSet 8 (eBin gAdd (eBM "str" gJoin (eC (.str [])) (aCons (eLc [12,13] [12,13] (iAny (eVar 4)) eYes Zaa) aNil)) (eBin gMul (eC (.str [10])) (eVar 5))))
def S_5 : FS := (sSet 9 (eCall Qg [] (aCons (eVar 8) (aCons (eC (.str [102,111,108,100,101,100])) (aCons (eC (.str [98,108,111,99,107])) (aCons (eVar 6) (aCons (eC (.int 0)) (aCons (eVar 7) aNil))))))))
def S_6 : FS := (sIf (eBl (eBin gNe (eVar 9) (eCall Z0n [] (aCons (eVar 4) (aCons (eVar 5) (aCons (eVar 6) (aCons (eVar 7) aNil))))))) (sRet (eC (.bl false))) sPass)
def S_7 : FS := (sSet 10 (eCall Qg [] (aCons (eVar 8) (aCons (eC (.str [108,105,116,101,114,97,108])) (aCons (eC (.str [98,108,111,99,107])) (aCons (eVar 6) (aCons (eC (.int 0)) (aCons (eVar 7) aNil))))))))
def S_8 : FS := (sSet 11 (eLst (aCons (eCall Yi [] (aCons (eVar 9) (aCons (eC (.str [102,111,108,100,101,100])) (aCons (eC (.str [98,108,111,99,107])) (aCons (eVar 6) (aCons (eVar 7) aNil)))))) aNil)))
def S_9 : FS := (sDrop (eBM "list" gAppend (eVar 11) (aCons (eCall Yi [] (aCons (eVar 10) (aCons (eC (.str [108,105,116,101,114,97,108])) (aCons (eC (.str [98,108,111,99,107])) (aCons (eVar 6) (aCons (eVar 7) aNil)))))) aNil)))
def S_10 : FS := (sIf (Fx.tOr (eBl (eBin gNe (eVar 11) (eBin gMul (eLst (aCons (eVar 8) aNil)) (eC (.int 2))))) (eBl (eBin gIsNot (eCall Yi [] (aCons (eVar 9) (aCons (eC (.str [108,105,116,101,114,97,108])) (aCons (eC (.str [98,108,111,99,107])) (aCons (eVar 6) (aCons (eVar 7) aNil)))))) (eC .non)))) (sRet (eC (.bl false))) sPass)
theorem S_eq : Zdk = bCons S_1 (bCons S_2 (bCons S_3 (bCons S_4 (bCons S_5 (bCons S_6 (bCons S_7 (bCons S_8 (bCons S_9 (S_10))))))))) := rfl
theorem one_of {Z : Sto} {w : Nat} (hw : Wd Z w) (ns : List Nat) (h0 : 0 < ns.length) (h1 : ns.length ≤ 100) : ∃ n Z', n ∈ ns ∧ Xl [.loc w, .loc Z.length] (Z ++ [.lst (ns.map fun (n : Nat) => .int (n : Int))]) = .ok (.int ((n : Nat) : Int)) Z' ∧ Kd w Z Z' := by
  obtain ⟨t, Z', ht, e, k⟩ := Zla hw (ns.map fun (n : Nat) => Fx.T.int (n : Int)) (by rw [List.length_map]; exact h0) (by rw [List.length_map]; unfold Lim; omega)
  obtain ⟨n,hn,rfl⟩ := List.mem_map.mp ht
  exact ⟨n, Z', hn, e, k⟩
theorem f_rows {Z : Sto} {w : Nat} (hw : Wd Z w) : ∃ (lr : Nat) (rows : List (Nat × List Nat)) (Z' : Sto), Z31 [.loc w] Z = .ok (.loc lr) Z' ∧ RowsOk rows ∧ getL Z' lr = some (rows.map rwT) ∧ lr ≠ w ∧ Kd w Z Z' := by
  have hwl := hw.lt
  obtain ⟨Z1,hZ1⟩ : ∃ Z1,Z1 = Z ++ [O.lst (rwL.map .str)] := ⟨_,rfl⟩
  obtain ⟨Z2,hZ2⟩ : ∃ Z2,Z2 = Z1 ++ [O.lst []] := ⟨_,rfl⟩
  have hl1 : Z1.length = Z.length + 1 := by rw [hZ1]; simp
  have k2 : Kd w Z Z2 := by rw [hZ2,hZ1]; exact Zi2 (Zea hw) (((Ext.refl _).app _).app _)
  have gs : getL Z2 Z.length = some (rwL.map .str) := by rw [hZ2,hZ1]; exact Ue (Ym _ _)
  have gr : getL Z2 Z1.length = some [] := by rw [hZ2]; exact Ym _ _
  obtain ⟨r,Z3,hr,e3,k3⟩ := f_digit k2.wel 6 (by decide) (by decide)
  replace e3 : Yg [.loc w,.int 6] Z2 = .ok (.int r) Z3 := e3
  obtain ⟨ρ4, Z4, e4, o3, o4, rows, rfl, k4, gs4, gr4, hlen, hmem, hge⟩ := Zl4 (m := r) (body := fun t ρ' Z' => bS ρ' (gNm 3 t ρ' Z') Z7b) (ρ := [some (.loc w), some (.loc Z.length), some (.loc Z1.length), none, none]) (Z := Z3)
    (fun k ρ Z' => ∃ (o3 o4 : Option Fx.T) (rows : List (Nat × List Nat)), ρ = [some (.loc w), some (.loc Z.length), some (.loc Z1.length), o3, o4] ∧ Kd w Z Z' ∧ getL Z' Z.length = some (rwL.map .str) ∧ getL Z' Z1.length = some (rows.map rwT) ∧ rows.length = k ∧ (∀ r ∈ rows, r.1 ≤ 3 ∧ r.2 ∈ rwL) ∧ ∀ r ∈ rows.drop 1,1 ≤ r.1) (by unfold Lim; omega)
    ⟨none,none,[],rfl,k2.trans k3,k3.getL (by omega) gs,k3.getL (by omega) gr,rfl,fun r hr => (by cases hr),fun r hr => (by cases hr)⟩
    (fun k hk ρ Z' hI => by
      obtain ⟨o3,o4,rows,rfl,kc,gsc,grc,hlen,hmem,hge⟩ := hI
      have hkl := kc.len
      obtain ⟨_,q⟩ := Z6j grc
      obtain ⟨Za, hZa⟩ : ∃ Za, Za = Z' ++ [O.lst []] := ⟨_, rfl⟩
      have ka : Kd w Z Za := by rw [hZa]; exact Zi2 kc ((Ext.refl _).app _)
      rw [← hZa] at q
      obtain ⟨m, Zb, hm, eb, kb⟩ : ∃ (m : Nat) (Zb : Sto), (m ≤ 3 ∧ (rows ≠ [] → 1 ≤ m)) ∧ eIf (eBl (eBin gNeL (eVar 2) (eLst aNil))) (eCall Xl [] (aCons (eVar 0) (aCons (eLst (aCons (eC (.int 1)) (aCons (eC (.int 1)) (aCons (eC (.int 2)) (aCons (eC (.int 3)) aNil))))) aNil))) (eCall Xl [] (aCons (eVar 0) (aCons (eLst (aCons (eC (.int 0)) (aCons (eC (.int 0)) (aCons (eC (.int 1)) (aCons (eC (.int 2)) aNil))))) aNil))) [some (.loc w), some (.loc Z.length), some (.loc Z1.length), some (.int (k : Int)), o4] Z' = .ok (.int (m : Int)) Zb ∧ Kd w Za Zb := by
        by_cases h0 : rows = []
        · obtain ⟨m,Zb,hm,e,kb⟩ := one_of ka.wel [0,0,1,2] (by decide) (by decide)
          have hm2 : ∀ m ∈ [0,0,1,2],m ≤ 3 := by decide
          refine ⟨m,Zb,⟨hm2 m hm,fun h => absurd h0 h⟩,?_,kb⟩
          replace e : Xl [.loc w,.loc Za.length] (Za ++ [.lst [.int 0,.int 0,.int 1,.int 2]]) = .ok (.int (m : Int)) Zb := e
          have hz : decide ((rows.map rwT).length = 0) = true := by rw [h0]; rfl
          rw [hz] at q
          simp [← hZa,q,e]
        · obtain ⟨m,Zb,hm,e,kb⟩ := one_of ka.wel [1,1,2,3] (by decide) (by decide)
          have hm2 : ∀ m ∈ [1,1,2,3],m ≤ 3 ∧ 1 ≤ m := by decide
          refine ⟨m,Zb,⟨(hm2 m hm).1,fun _ => (hm2 m hm).2⟩,?_,kb⟩
          replace e : Xl [.loc w,.loc Za.length] (Za ++ [.lst [.int 1,.int 1,.int 2,.int 3]]) = .ok (.int (m : Int)) Zb := e
          have hz : decide ((rows.map rwT).length = 0) = false := by simpa using h0
          rw [hz] at q
          simp [← hZa,q,e]
      have kab := ka.trans kb
      have gsa : getL Za Z.length = some (rwL.map .str) := by rw [hZa]; exact Ue gsc
      have gra : getL Za Z1.length = some (rows.map rwT) := by rw [hZa]; exact Ue grc
      have gsb := kb.getL (show Z.length ≠ w by omega) gsa
      have grb := kb.getL (show Z1.length ≠ w by omega) gra
      obtain ⟨t,Zc,ht,ec,kc2⟩ := Z0w (l := Z.length) kab.wel gsb (by omega) (by decide) (by decide)
      obtain ⟨x,hx,rfl⟩ := List.mem_map.mp ht
      have gsc2 := kc2.getL (show Z.length ≠ w by omega) gsb
      have grc2 := kc2.getL (show Z1.length ≠ w by omega) grb
      have ap := Zf1 Z1.length (.tup [.int (m : Int),.str x]) Zc grc2 (by rw [List.length_map]; unfold Lim; omega)
      have tl := Z75 grb
      refine ⟨[some (.loc w),some (.loc Z.length),some (.loc Z1.length),some (.int (k : Int)),some (.int (m : Int))],Zc.set Z1.length (.lst (rows.map rwT ++ [.tup [.int (m : Int),.str x]])),?_,some (.int (k : Int)),some (.int (m : Int)),rows ++ [(m,x)],rfl,?_,?_,?_,by simp [hlen],fun y hy => ?_,fun y hy => ?_⟩
      · refine Zx (a := sSet 4 _) (ρ' := [some (.loc w), some (.loc Z.length), some (.loc Z1.length), some (.int (k : Int)), some (.int (m : Int))]) (Z' := Zb) ?_ ?_
        · show bS _ (eIf _ _ _ [some (.loc w), some (.loc Z.length), some (.loc Z1.length), some (.int (k : Int)), o4] Z') _ = _
          rw [eb]; rfl
        · generalize Zc.set Z1.length (.lst (rows.map rwT ++ [.tup [.int (m : Int),.str x]])) = Zd at *
          simp [-Zij,ec,ap,Z75 grc2,tl]
      · have kk := kab.trans kc2
        refine ⟨?_,by rw [List.length_set]; exact kk.len,fun j hj hjw => ?_⟩
        · rcases kk.wel with ⟨a,hh⟩ | ⟨a,b,c,hh⟩
          · exact .inl ⟨a,by rw [Ys,List.getElem?_set_ne (by omega)]; exact Ys.mp hh⟩
          · exact .inr ⟨a,b,c,by rw [Ys,List.getElem?_set_ne (by omega)]; exact Ys.mp hh⟩
        · rw [List.getElem?_set_ne (by omega)]; exact kk.keep j hj hjw
      · rw [Ys,List.getElem?_set_ne (by omega)]; exact Ys.mp gsc2
      · rw [Vw grc2,List.map_append]; rfl
      · rcases List.mem_append.mp hy with h | h
        · exact hmem y h
        · rw [List.mem_singleton.mp h]; exact ⟨hm.1,hx⟩
      · cases rows with
        | nil => simp at hy
        | cons r0 rs =>
          rw [List.cons_append,List.drop_succ_cons,List.drop_zero] at hy
          rcases List.mem_append.mp hy with h | h
          · exact hge y h
          · rw [List.mem_singleton.mp h]; exact hm.2 (by simp))
  simp only [Zk2,Z6m] at e4
  refine ⟨Z1.length,rows,Z4,Ut (n := 5) (as := [.loc w]) ?_,⟨hmem,hge,by omega⟩,gr4,by omega,k4⟩
  have r3 : ∀ Z,rngOf [.int (r : Int)] Z = .ok (itRng 0 r) Z := fun Z => rngN (n := r) (by unfold Lim; omega)
  refine Zx (ρ' := [some (.loc w), some (.loc Z.length), none, none, none]) (Z' := Z1) ?_ (Zx (ρ' := [some (.loc w), some (.loc Z.length), some (.loc Z1.length), none, none]) (Z' := Z2) ?_ (Zx (ρ' := [some (.loc w), some (.loc Z.length), some (.loc Z1.length), o3, o4]) (Z' := Z4) ?_ (by simp)))
  · simp only [rwL,List.map_cons,List.map_nil] at hZ1
    simp [← hZ1]
  · simp [← hZ2]
  · simp [e3,r3,e4]
section
variable {o0 o1 o2 o3 o4 o5 o6 o7 o8 o9 o10 o11 o12 o13 : Option Fx.T} {w : Nat} {Z : Sto}
theorem s_1 (hw : Wd Z w) : ∃ (lr : Nat) (rows : List (Nat × List Nat)) (f i : Nat) (Z' : Sto), RowsOk rows ∧ getL Z' lr = some (rows.map rwT) ∧ lr ≠ w ∧ f < 4 ∧ i < 10 ∧ Kd w Z Z' ∧ S_1 [o0, o1, some (.loc w), o3, o4, o5, o6, o7, o8, o9, o10, o11, o12, o13] Z = .nx [o0, o1, some (.loc w), o3, some (.loc lr), some (.int (f : Int)), some (.int (i : Int)), o7, o8, o9, o10, o11, o12, o13] Z' := by
  obtain ⟨lr,rows,Z1,e1,h,g,hne,k1⟩ := f_rows hw
  obtain ⟨f,Z2,hf,e2,k2⟩ := f_digit k1.wel 4 (by decide) (by decide)
  replace e2 : Yg [.loc w,.int 4] Z1 = .ok (.int f) Z2 := e2
  obtain ⟨i,Z3,hi,e3,k3⟩ := f_digit k2.wel 10 (by decide) (by decide)
  replace e3 : Yg [.loc w,.int 10] Z2 = .ok (.int i) Z3 := e3
  exact ⟨lr,rows,f,i,Z3,h,k3.getL hne (k2.getL hne g),hne,hf,hi,k1.trans (k2.trans k3),by simp [S_1,e1,e2,e3]⟩
theorem s_2 (hw : Wd Z w) (k : Nat) {i : Nat} (hi : i < 10) : ∃ (i' : Nat) (Z' : Sto), i' ≤ 100 ∧ Kd w Z Z' ∧ S_2 [o0, o1, some (.loc w), some (.int (k : Int)), o4, o5, some (.int (i : Int)), o7, o8, o9, o10, o11, o12, o13] Z = .nx [o0, o1, some (.loc w), some (.int (k : Int)), o4, o5, some (.int (i' : Int)), o7, o8, o9, o10, o11, o12, o13] Z' := by
  by_cases hk : k = 9
  · obtain ⟨r,Z1,hr,e1,k1⟩ := f_digit hw 50 (by decide) (by decide)
    replace e1 : Yg [.loc w,.int 50] Z = .ok (.int r) Z1 := e1
    obtain ⟨t,Z2,ht,e2,k2⟩ := Zla k1.wel [.int 100,.int 99,.int (50 + (r : Int))] (by simp) (by simp [Lim])
    have ht2 : ∃ x : Nat,x ≤ 100 ∧ t = .int (x : Int) := by
      simp at ht
      rcases ht with rfl | rfl | rfl
      · exact ⟨100,by decide,rfl⟩
      · exact ⟨99,by decide,rfl⟩
      · exact ⟨50 + r,by omega,by simp⟩
    obtain ⟨x,hx,rfl⟩ := ht2
    refine ⟨x,Z2,hx,k1.trans k2,?_⟩
    subst hk
    simp [S_2,e1,e2]
  · refine ⟨i,Z,by omega,Zea hw,?_⟩
    have hk' : ¬ (k : Int) = 9 := by omega
    simp [S_2, hk, hk']
theorem s_3 (hw : Wd Z w) {i : Nat} : ∃ (d : Nat) (Z' : Sto), 1 ≤ d ∧ d ≤ 9 ∧ d ≤ i + 1 ∧ Kd w Z Z' ∧ S_3 [o0, o1, some (.loc w), o3, o4, o5, some (.int (i : Int)), o7, o8, o9, o10, o11, o12, o13] Z = .nx [o0, o1, some (.loc w), o3, o4, o5, some (.int (i : Int)), some (.int (d : Int)), o8, o9, o10, o11, o12, o13] Z' := by
  obtain ⟨b,hb,h1,h2,h3⟩ : ∃ b : Nat,(if (i : Int) + 1 < 9 then (i : Int) + 1 else 9) = (b : Int) ∧ 1 ≤ b ∧ b ≤ 9 ∧ b ≤ i + 1 := by
    by_cases h : (i : Int) + 1 < 9
    · exact ⟨i + 1,by rw [if_pos h]; simp,by omega,by omega,by omega⟩
    · exact ⟨9,by rw [if_neg h]; rfl,by omega,by omega,by omega⟩
  obtain ⟨r,Z1,hr,e1,k1⟩ := f_digit hw b (by omega) (Nat.lt_of_le_of_lt h2 (by decide))
  have hc : (1 + (r : Int)) = ((1 + r : Nat) : Int) := by omega
  refine ⟨1 + r,Z1,by omega,by omega,by omega,k1,?_⟩
  rw [← hc]
  simp [S_3,hb,e1]
variable {lr f i d : Nat} {rows : List (Nat × List Nat)}
def pieces (rows : List (Nat × List Nat)) : List (List Nat) := rows.map fun r => nls r.1 ++ r.2
theorem Zne : ∀ rows : List (Nat × List Nat),sumL (pieces rows) = (V0 rows).length
  | [] => rfl
  | r :: rs => by
    show (nls r.1 ++ r.2).length + sumL (pieces rs) = (nls r.1 ++ r.2 ++ V0 rs).length
    rw [Zne rs]; simp only [List.length_append]
theorem Zov (rows : List (Nat × List Nat)) : TL.joinL [] (pieces rows) = V0 rows := by
  rw [Zec]
  unfold pieces V0
  rw [List.flatMap_def]
theorem s_4 (h : RowsOk rows) (hf : f < 4) (g : getL Z lr = some (rows.map rwT)) : ∃ Z', Ext Z Z' ∧ S_4 [o0, o1, o2, o3, some (.loc lr), some (.int (f : Int)), o6, o7, o8, o9, o10, o11, o12, o13] Z = .nx [o0, o1, o2, o3, some (.loc lr), some (.int (f : Int)), o6, o7, some (.str (V0 rows ++ nls f)), o9, o10, o11, o12, o13] Z' := by
  have hlen := h.len
  obtain ⟨vl,_⟩ := Zcm rows h.mem
  obtain ⟨ρ,hρ⟩ : ∃ ρ : Fx.Env,ρ = [o0,o1,o2,o3,some (.loc lr),some (.int (f : Int)),o6,o7,o8,o9,o10,o11,o12,o13] := ⟨_,rfl⟩
  obtain ⟨Z', e, x, g'⟩ := Z2e (it := itLoc lr) (put := fun t => putN [12,13] t (wipeR ρ [12,13])) (c := eYes) (e := Zaa) (l := rows) (u := rwT) (p := fun _ => true) (fv := fun r => .str (nls r.1 ++ r.2)) (Z1 := Z) (by unfold Lim; omega)
    (fun k Z' x hk => by
      show Option.map (fun ts => ts[k]?) (getL Z' lr) = _
      rw [x.getL g]; simp)
    (fun r hr Z' xe => by
      have hl := (Z0v _ (h.mem r hr).2).2.2.2
      have hm := (h.mem r hr).1
      refine ⟨[o0, o1, o2, o3, some (.loc lr), some (.int (f : Int)), o6, o7, o8, o9, o10, o11, some (.int (r.1 : Int)), some (.str r.2)], Z', by rw [hρ]; rfl, rfl, Ext.refl _, fun _ => ⟨Z', ?_, Ext.refl _⟩⟩
      have mu := Jg r.1 Z' (by omega)
      have nl : (nls r.1).length = r.1 := List.length_replicate ..
      have ad := Xx (nls r.1) r.2 Z' (by rw [nl]; unfold Lim; omega)
      generalize nls r.1 ++ r.2 = R at *
      generalize nls r.1 = NL at *
      simp [-Z3g,-Qa,Zaa,mu,ad])
  have hf2 : rows.filter (fun _ => true) = rows := List.filter_eq_self.mpr fun _ _ => rfl
  rw [hf2] at g'
  have g2 : getL Z' Z.length = some ((pieces rows).map .str) := by rw [g']; unfold pieces; rw [List.map_map]; rfl
  have jn := Zn5 (a := []) (n := Z.length) (ys := pieces rows) (Z := Z') g2 (by rw [Zne]; simp; unfold Lim; omega)
  rw [Zov] at jn
  have mu := Jg f Z' (by omega)
  have nl : (nls f).length = f := List.length_replicate ..
  have ad := Xx (V0 rows) (nls f) Z' (by rw [nl]; unfold Lim; omega)
  refine ⟨Z', x, ?_⟩
  have hlc : eLc [12,13] [12,13] (iAny (eVar 4)) eYes Zaa ρ Z = .ok (.loc Z.length) Z' := by
    have hi : iAny (eVar 4) ρ Z = .ok (itLoc lr) Z := by rw [hρ]; simp [g]
    unfold eLc
    rw [hi]
    exact e
  rw [hρ] at hlc
  generalize V0 rows ++ nls f = R at *
  generalize V0 rows = V at *
  generalize nls f = NL at *
  simp [-q_lc,-Z3g,-Qa,S_4,hlc,jn,mu,ad]
theorem Zqe (hw : Wd Z w) (k : Nat) : ∃ p4 p5 p6 p7 p8 p9 p10 p11 p12 p13 Z', Kd w Z Z' ∧ Zdk [o0, o1, some (.loc w), some (.int (k : Int)), o4, o5, o6, o7, o8, o9, o10, o11, o12, o13] Z = .nx [o0, o1, some (.loc w), some (.int (k : Int)), p4, p5, p6, p7, p8, p9, p10, p11, p12, p13] Z' := by
  obtain ⟨lr,rows,f,i0,Z1,h,g1,hne,hf,hi0,k1,e1⟩ := s_1 (o0 := o0) (o1 := o1) (o3 := some (.int (k : Int))) (o4 := o4) (o5 := o5) (o6 := o6) (o7 := o7) (o8 := o8) (o9 := o9) (o10 := o10) (o11 := o11) (o12 := o12) (o13 := o13) hw
  obtain ⟨i,Z2,hi,k2,e2⟩ := s_2 (o0 := o0) (o1 := o1) (o4 := some (.loc lr)) (o5 := some (.int (f : Int))) (o7 := o7) (o8 := o8) (o9 := o9) (o10 := o10) (o11 := o11) (o12 := o12) (o13 := o13) k1.wel k hi0
  obtain ⟨d,Z3,hd1,hd,hdi,k3,e3⟩ := s_3 (o0 := o0) (o1 := o1) (o3 := some (.int (k : Int))) (o4 := some (.loc lr)) (o5 := some (.int (f : Int))) (o7 := o7) (o8 := o8) (o9 := o9) (o10 := o10) (o11 := o11) (o12 := o12) (o13 := o13) (i := i) k2.wel
  have g3 := k3.getL hne (k2.getL hne g1)
  obtain ⟨Z4,x4,e4⟩ := s_4 (o0 := o0) (o1 := o1) (o2 := some (.loc w)) (o3 := some (.int (k : Int))) (o6 := some (.int (i : Int))) (o7 := some (.int (d : Int))) (o8 := o8) (o9 := o9) (o10 := o10) (o11 := o11) (o12 := o12) (o13 := o13) h hf g3
  have g4 := x4.getL g3
  obtain ⟨Z5,w5,x5⟩ := Zfz (fd := true) (Z := Z4) h hi hd1 hd hdi hf
  replace w5 : Qg [.str (V0 rows ++ nls f),.str [102,111,108,100,101,100],.str [98,108,111,99,107],.int (i : Int),.int 0,.int (d : Int)] Z4 = .ok (.str (btx true i d f rows)) Z5 := w5
  have g5 := x5.getL g4
  obtain ⟨Z6,w6,x6⟩ := Zot (Z := Z5) h g5 hi hd1 hd hdi hf
  obtain ⟨Z7,w7,x7⟩ := Zfz (fd := false) (Z := Z6) h hi hd1 hd hdi hf
  replace w7 : Qg [.str (V0 rows ++ nls f),.str [108,105,116,101,114,97,108],.str [98,108,111,99,107],.int (i : Int),.int 0,.int (d : Int)] Z6 = .ok (.str (btx false i d f rows)) Z7 := w7
  obtain ⟨Z8,w8,x8⟩ := f_back (Z := Z7) true h hi hd1 hd hdi hf
  replace w8 : Yi [.str (btx true i d f rows),.str [102,111,108,100,101,100],.str [98,108,111,99,107],.int (i : Int),.int (d : Int)] Z7 = .ok (.str (V0 rows ++ nls f)) Z8 := w8
  obtain ⟨Z9,hZ9⟩ : ∃ Z9,Z9 = Z8 ++ [O.lst [.str (V0 rows ++ nls f)]] := ⟨_,rfl⟩
  have x9 : Ext Z8 Z9 := by rw [hZ9]; exact (Ext.refl _).app _
  have g9 : getL Z9 Z8.length = some [.str (V0 rows ++ nls f)] := by rw [hZ9]; exact Ym _ _
  obtain ⟨Z10,w10,x10⟩ := f_back (Z := Z9) false h hi hd1 hd hdi hf
  replace w10 : Yi [.str (btx false i d f rows),.str [108,105,116,101,114,97,108],.str [98,108,111,99,107],.int (i : Int),.int (d : Int)] Z9 = .ok (.str (V0 rows ++ nls f)) Z10 := w10
  have g10 := x10.getL g9
  have ap := Zf1 Z8.length (.str (V0 rows ++ nls f)) Z10 g10 (by simp [Lim])
  have t9 := Z75 g9
  have t10 := Z75 g10
  obtain ⟨Z11,hZ11⟩ : ∃ Z11,Z11 = Z10.set Z8.length (.lst ([.str (V0 rows ++ nls f)] ++ [.str (V0 rows ++ nls f)])) := ⟨_,rfl⟩
  rw [← hZ11] at ap
  have x11 : Ext Z8 Z11 := by rw [hZ11]; exact (x9.trans x10).set (Nat.le_refl _)
  have g11 : getL Z11 Z8.length = some ([V0 rows ++ nls f,V0 rows ++ nls f].map .str) := by rw [hZ11,Vw g10]; rfl
  obtain ⟨Z12,hZ12⟩ : ∃ Z12,Z12 = Z11 ++ [O.lst [.str (V0 rows ++ nls f)]] ++ [O.lst [.str (V0 rows ++ nls f),.str (V0 rows ++ nls f)]] := ⟨_,rfl⟩
  have x12 : Ext Z11 Z12 := by rw [hZ12]; exact ((Ext.refl _).app _).app _
  have mu : gMul (.loc Z11.length) (.int 2) (Z11 ++ [O.lst [.str (V0 rows ++ nls f)]]) = some (.loc (Z11.length + 1),Z12) := by
    have gz : getL (Z11 ++ [O.lst [Fx.T.str (V0 rows ++ nls f)]]) Z11.length = some [.str (V0 rows ++ nls f)] := Ym _ _
    rw [Zn4,gz]
    show (if -100000 ≤ (2 : Int) ∧ (2 : Int) ≤ 100000 ∧ ([Fx.T.str (V0 rows ++ nls f)] : List Fx.T).length * (2 : Int).toNat ≤ Lim then _ else _) = _
    rw [if_pos ⟨by decide,by decide,by simp [Lim]⟩,hZ12,List.length_append]; rfl
  have g12 : getL Z12 (Z11.length + 1) = some ([V0 rows ++ nls f,V0 rows ++ nls f].map .str) := by
    rw [hZ12]
    have := Ym (Z11 ++ [O.lst [Fx.T.str (V0 rows ++ nls f)]]) [.str (V0 rows ++ nls f),.str (V0 rows ++ nls f)]
    rwa [List.length_append] at this
  obtain ⟨vl,vok⟩ := Zcm rows h.mem
  have okv : okS (V0 rows ++ nls f) = true := by
    have nok : (nls f).all okC = true := by
      rw [List.all_eq_true]
      intro c hc
      rw [(List.mem_replicate.mp hc).2]; rfl
    have hh : (V0 rows ++ nls f).all okC = true := by rw [List.all_append,vok,nok]; rfl
    unfold okS
    rw [List.all_eq_true] at hh ⊢
    intro c hc
    have := hh c hc
    unfold okC at this
    simp only [Bool.or_eq_true,Bool.and_eq_true,decide_eq_true_eq] at this
    simp only [decide_eq_true_eq]
    omega
  have ne12 := Zo7 (x12.getL g11) g12 (by simp [okv]) (by simp [okv])
  have ne12' : gNe (.loc Z8.length) (.loc (Z11.length + 1)) Z12 = some (.bl false, Z12) := by rw [ne12]; simp
  obtain ⟨Z13,w13,x13⟩ := Zou (Z := Z12) h hi hd1 hd hdi hf
  replace w13 : Yi [.str (btx true i d f rows),.str [108,105,116,101,114,97,108],.str [98,108,111,99,107],.int (i : Int),.int (d : Int)] Z12 = .ok .non Z13 := w13
  have xx : Ext Z3 Z13 := x4.trans (x5.trans (x6.trans (x7.trans (x8.trans (x11.trans (x12.trans x13))))))
  refine ⟨some (.loc lr),some (.int (f : Int)),some (.int (i : Int)),some (.int (d : Int)),some (.str (V0 rows ++ nls f)),some (.str (btx true i d f rows)),some (.str (btx false i d f rows)),some (.loc Z8.length),o12,o13,Z13,Zi2 (k1.trans (k2.trans k3)) xx,?_⟩
  rw [S_eq]
  refine Zx e1 (Zx e2 (Zx e3 (Zx e4 ?_)))
  generalize V0 rows ++ nls f = V at *
  generalize btx true i d f rows = BT at *
  generalize btx false i d f rows = BF at *
  refine Zx (ρ' := [o0, o1, some (.loc w), some (.int (k : Int)), some (.loc lr), some (.int (f : Int)), some (.int (i : Int)), some (.int (d : Int)), some (.str V), some (.str BT), o10, o11, o12, o13]) (Z' := Z5) (by simp [S_5, w5]) (Zx (ρ' := [o0, o1, some (.loc w), some (.int (k : Int)), some (.loc lr), some (.int (f : Int)), some (.int (i : Int)), some (.int (d : Int)), some (.str V), some (.str BT), o10, o11, o12, o13]) (Z' := Z6) (by simp [S_6, w6]) (Zx (ρ' := [o0, o1, some (.loc w), some (.int (k : Int)), some (.loc lr), some (.int (f : Int)), some (.int (i : Int)), some (.int (d : Int)), some (.str V), some (.str BT), some (.str BF), o11, o12, o13]) (Z' := Z7) (by simp [S_7, w7]) (Zx (ρ' := [o0, o1, some (.loc w), some (.int (k : Int)), some (.loc lr), some (.int (f : Int)), some (.int (i : Int)), some (.int (d : Int)), some (.str V), some (.str BT), some (.str BF), some (.loc Z8.length), o12, o13]) (Z' := Z9) (by simp [S_8, w8, ← hZ9]) (Zx (ρ' := [o0, o1, some (.loc w), some (.int (k : Int)), some (.loc lr), some (.int (f : Int)), some (.int (i : Int)), some (.int (d : Int)), some (.str V), some (.str BT), some (.str BF), some (.loc Z8.length), o12, o13]) (Z' := Z11) ?_ ?_))))
  · simp [-Zij,S_9,t9,w10,t10,ap]
  · simp [-Zn4, S_10, mu, ne12', w13, Fx.isNon]
end
theorem Zqf {Z : Sto} (c : Int) (o0 : Option Fx.T) (o2 o3 o4 o5 o6 o7 o8 o9 o10 o11 o12 o13 : Option Fx.T) : ∃ q2 q3 q4 q5 q6 q7 q8 q9 q10 q11 q12 q13 Z', (∀ j < Z.length, Z'[j]? = Z[j]?) ∧ Zab [o0, some (.int c), o2, o3, o4, o5, o6, o7, o8, o9, o10, o11, o12, o13] Z = .nx [o0, some (.int c), q2, q3, q4, q5, q6, q7, q8, q9, q10, q11, q12, q13] Z' := by
  obtain ⟨Z1,hZ1⟩ : ∃ Z1,Z1 = Z ++ [O.lst [.int c]] := ⟨_,rfl⟩
  have hw : Wd Z1 Z.length := .inl ⟨c,by rw [hZ1]; exact Ym _ _⟩
  obtain ⟨ρ3, Z3, e3, k3, r3, r4, r5, r6, r7, r8, r9, r10, r11, r12, r13, rfl⟩ := Zk7 (m := 10) (body := fun t ρ' Z' => bS ρ' (gNm 3 t ρ' Z') Zdk) (Z := Z1) (ρ := [o0, some (.int c), some (.loc Z.length), o3, o4, o5, o6, o7, o8, o9, o10, o11, o12, o13])
    (fun ρ Z' => Kd Z.length Z1 Z' ∧ ∃ r3 r4 r5 r6 r7 r8 r9 r10 r11 r12 r13, ρ = [o0, some (.int c), some (.loc Z.length), r3, r4, r5, r6, r7, r8, r9, r10, r11, r12, r13]) (by unfold Lim; omega) ⟨Zea hw, o3, o4, o5, o6, o7, o8, o9, o10, o11, o12, o13, rfl⟩
    (fun j hj ρ Z' h => by
      obtain ⟨x,r3,r4,r5,r6,r7,r8,r9,r10,r11,r12,r13,rfl⟩ := h
      obtain ⟨s4, s5, s6, s7, s8, s9, s10, s11, s12, s13, Z'', k', er⟩ := Zqe (o0 := o0) (o1 := some (.int c)) (o4 := r4) (o5 := r5) (o6 := r6) (o7 := r7) (o8 := r8) (o9 := r9) (o10 := r10) (o11 := r11) (o12 := r12) (o13 := r13) x.wel j
      exact ⟨[o0, some (.int c), some (.loc Z.length), some (.int (j : Int)), s4, s5, s6, s7, s8, s9, s10, s11, s12, s13], Z'', by simp [er], x.trans k', some (.int (j : Int)), s4, s5, s6, s7, s8, s9, s10, s11, s12, s13, rfl⟩)
  simp only [Zk2,Z6m] at e3
  refine ⟨some (.loc Z.length),r3,r4,r5,r6,r7,r8,r9,r10,r11,r12,r13,Z3,fun j hj => ?_,?_⟩
  · rw [k3.keep j (by rw [hZ1]; simp; omega) (by omega),hZ1,List.getElem?_append_left hj]
  · have r3' : ∀ Z, rngOf [.int 10] Z = .ok (itRng 0 10) Z := fun Z => rngN (n := 10) (by unfold Lim; omega)
    simp [Zab, ← hZ1, r3', e3]
section
variable {o1 o2 o3 o4 o5 o6 o7 o8 o9 o10 o11 o12 o13 : Option Fx.T}
theorem law_0 {Z : Sto} (ns : List Int) : ∃ Z', Zpw [some (.frl (ns.map .int)), o1, o2, o3, o4, o5, o6, o7, o8, o9, o10, o11, o12, o13] Z = .rt (.bl true) Z' := by
  obtain ⟨s,hs⟩ : ∃ s,s = some (Fx.T.frl (ns.map .int)) := ⟨_,rfl⟩
  have cu : cutL (ns.map Fx.T.int) none (some 6) = (ns.take 6).map .int := by
    have := Zeb (ns.map Fx.T.int) 6
    rw [List.map_take]
    exact this
  have ad := Zka Z.length (Z.length + 1) (Z ++ [O.lst ((ns.take 6).map .int)] ++ [O.lst [.int 0]]) (a := (ns.take 6).map .int) (b := [.int 0]) (by simp [getL]) (by simp [getL]) (by simp [Lim]; omega)
  obtain ⟨Z1,hZ1⟩ : ∃ Z1,Z1 = Z ++ [O.lst ((ns.take 6).map .int)] ++ [O.lst [.int 0]] ++ [O.lst ((ns.take 6).map .int ++ [.int 0])] := ⟨_,rfl⟩
  have hl : (Z ++ [O.lst ((ns.take 6).map Fx.T.int)] ++ [O.lst [.int 0]]).length = Z.length + 2 := by simp
  have g1 : getL Z1 (Z.length + 2) = some ((ns.take 6).map .int ++ [.int 0]) := by
    rw [hZ1,← hl]; exact Ym _ _
  obtain ⟨ρ2, Z2, e2, p1, p2, p3, p4, p5, p6, p7, p8, p9, p10, p11, p12, p13, rfl, _⟩ := Zk6 (i := Z.length + 2) (ts := (ns.take 6).map .int ++ [.int 0]) (body := fun t ρ' Z' => bS ρ' (gNm 1 t ρ' Z') Zab) (ρ := [s, o1, o2, o3, o4, o5, o6, o7, o8, o9, o10, o11, o12, o13]) (Z := Z1)
    (fun ρ Z' => ∃ p1 p2 p3 p4 p5 p6 p7 p8 p9 p10 p11 p12 p13, ρ = [s, p1, p2, p3, p4, p5, p6, p7, p8, p9, p10, p11, p12, p13] ∧ getL Z' (Z.length + 2) = some ((ns.take 6).map .int ++ [.int 0])) (by simp [Lim]; omega) (fun ρ Z' h => by obtain ⟨_, _, _, _, _, _, _, _, _, _, _, _, _, _, h⟩ := h; exact h) ⟨_, _, _, _, _, _, _, _, _, _, _, _, _, rfl, g1⟩
    (fun x hx ρ Z' h => by
      obtain ⟨p1,p2,p3,p4,p5,p6,p7,p8,p9,p10,p11,p12,p13,rfl,g⟩ := h
      obtain ⟨c,rfl⟩ : ∃ c,x = .int c := by
        rcases List.mem_append.mp hx with h | h
        · obtain ⟨c,_,rfl⟩ := List.mem_map.mp h
          exact ⟨c,rfl⟩
        · exact ⟨0,List.mem_singleton.mp h⟩
      obtain ⟨q2, q3, q4, q5, q6, q7, q8, q9, q10, q11, q12, q13, Z'', hk, e⟩ := Zqf (Z := Z') c s p2 p3 p4 p5 p6 p7 p8 p9 p10 p11 p12 p13
      refine ⟨[s, some (.int c), q2, q3, q4, q5, q6, q7, q8, q9, q10, q11, q12, q13], Z'', by simp [e], some (.int c), q2, q3, q4, q5, q6, q7, q8, q9, q10, q11, q12, q13, rfl, ?_⟩
      have hlt := Z1u g
      rw [Ys] at g ⊢
      rw [hk _ hlt]; exact g)
  refine ⟨Z2,?_⟩
  have hf : sFor (iAny (eBin gAdd (eSl (eVar 0) oNone (oSome (eC (.int 6)))) (eLst (aCons (eC (.int 0)) aNil)))) (gNm 1) Zab [s,o1,o2,o3,o4,o5,o6,o7,o8,o9,o10,o11,o12,o13] Z = .nx [s,p1,p2,p3,p4,p5,p6,p7,p8,p9,p10,p11,p12,p13] Z2 := by
    have hi : iAny (eBin gAdd (eSl (eVar 0) oNone (oSome (eC (.int 6)))) (eLst (aCons (eC (.int 0)) aNil))) [s,o1,o2,o3,o4,o5,o6,o7,o8,o9,o10,o11,o12,o13] Z = .ok (itLoc (Z.length + 2)) Z1 := by
      rw [hl] at ad
      rw [hZ1] at g1 ⊢
      generalize (ns.take 6).map Fx.T.int = M at *
      generalize ns.map Fx.T.int = N at *
      simp only [List.append_assoc,List.cons_append,List.nil_append] at ad g1 ⊢
      simp [-Zk3,hs,cu,ad,g1]
    rw [Zd9,hi,Z6m]
    exact e2
  rw [← hs]
  exact Zx hf rfl
end
theorem law_true (ns : List Int) (hn : ns.length ≤ 63) : ∃ Z,Zoa [.frl (ns.map .int)] [] = .ok (.bl true) Z := by
  obtain ⟨Z1,e1⟩ := law_0 (o1 := none) (o2 := none) (o3 := none) (o4 := none) (o5 := none) (o6 := none) (o7 := none) (o8 := none) (o9 := none) (o10 := none) (o11 := none) (o12 := none) (o13 := none) (Z := []) ns
  exact ⟨Z1,Ut (n := 14) (as := [.frl (ns.map .int)]) e1⟩
end Ap
set_option maxHeartbeats 4000000
open PySem PySem.W PySem.Calls PyProof.Rows
set_option maxHeartbeats 0 in
theorem PySem.Challenge.cw_anchorpages_k26_whole_texts_of_folded_sc_holds : PySem.Challenge.rw_anchorpages_k26_whole_texts_of_folded_sc.Holds := by
  refine Ap.pre_law ?_
  refine HandSHeadRun.head_any (r := OpenLaw.row PySem.Challenge.rw_anchorpages_k26_whole_texts_of_folded_sc) (q := view (OpenLaw.row PySem.Challenge.rw_anchorpages_k26_whole_texts_of_folded_sc).prog [65]) (H := Ap.hk5) (ob := Ap.ob5) (M := 7960) (loose := Ap.nms) (d := HandSHeadRun.topDef (OpenLaw.row PySem.Challenge.rw_anchorpages_k26_whole_texts_of_folded_sc).prog 65) (kwd := []) Ap.Zpl
    (by kernel_rfl) (fun s => by kernel_rfl) Ap.run5 (by kernel_rfl) (by kernel_rfl) (by kernel_rfl) (by rfl) (by first | assumption | decide +kernel) (by decide +kernel) ⟨rfl,rfl,rfl,rfl,rfl,by decide +kernel⟩ ?hw ?hc
  case hw => w_witness2
  case hc =>
    refine Fx.Znv (m := 0) (l := PySem.Challenge.rw_anchorpages_k26_whole_texts_of_folded_sc) (n := 63) (k := 8) (x := "_law_script") (F := Ap.Zoa) (fun _ _ => trivial) rfl (by decide) (by kernel_rfl) ⟨rfl, by decide, by decide⟩ ?F Ap.law_true
    intro w mg K C
    have e : (HandSHeadRun.topDef (OpenLaw.row PySem.Challenge.rw_anchorpages_k26_whole_texts_of_folded_sc).prog 65).name = ("law" : PySem.Str) := by kernel_rfl
    rw [e]
    exact ⟨_,Ap.Zpx C,fun s v => L2.FunD.bindsA (ps := Ap.Zo0) (Ap.Zn7 C) (fun _ _ _ _ _ _ us hl => match us,hl with | [_],_ => rfl) s [v] rfl,fun base => Ap.Zpy C⟩
#print axioms PySem.Challenge.cw_anchorpages_k26_whole_texts_of_folded_sc_holds

