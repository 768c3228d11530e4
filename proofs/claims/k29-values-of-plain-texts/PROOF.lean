import PyProof.Rows.All
import Wide.All
import OpenK.AllK
import Wide.FinOn
import HandS.ForMost
import HandS.IsInst
import HandS.StrMore
import HandS.More
import HandS.Codes
import HandS.Flow
import HandS.Style
import HandS.Walk
import HandS.RaiseMore
import HandS.Defaults
import HandS.Evl
import HandS.ReplaceLit
import HandS.ReplaceList
import HandS.ReplaceDef
import HandS.ForExc
import HandS.CallSlots
import HandS.TupAny
import HandS.Lambda
import HandS.Wide
import HandS.ExcInit
import HandS.ExcField
import HandS.ExcIs
import KE.GoesMore
import KE.KIntText
import PyProof.Rows.StrOr
import PyProof.Rows.Digits
import HandS.Replace
import HandS.Property
import HandS.Zip
import HandS.TupLe
import PyProof.DefCall
import HandS.ClsMeth
import HandS.EndTab
import HandS.HeadWalk
import HandS.Head0
import HandS.Head1
import HandS.Head2
import HandS.HeadEnd
import HandS.HeadHook1
import HandS.HeadHook2
import HandS.HeadHook3
import HandS.HeadHook4
import Wide.Once
import HandS.NoneIn
import HandS.Small
import HandS.Flt
import HandS.Iter
import HandS.ExcOwn
import HandS.SortRule
import HandS.SortInts
import HandS.DictTup
import HandS.TryMany
import PySem.Challenge.RW_anchorpages_k29_whole_values_of_plain_te
set_option Elab.async false
set_option linter.all false
set_option maxRecDepth 100000
set_option maxHeartbeats 4000000
namespace Ap
open PySem PySem.Spec PyProof.Rows L2 SX
theorem Z00 {H : Hp} {p : Addr} {o : HO} (h : H p = none) : Same H (upd H p o) := fun b x e => by
  rw [upd_ne (ne_of_none e h)]
  exact e
theorem fin {Q : VK} {H H' : Hp} {b b' : Bool} (q : ∀ H', Same H H' → Q (.bl b) H') (sm : Same H H') (e : b' = b) : Q (.bl b') H' := by
  rw [e]; exact q H' sm
def cutL {α : Type} (l : List α) (lo hi : Option Int) : List α := (l.drop (HT.sIx l.length 0 lo)).take (HT.sIx l.length l.length hi - HT.sIx l.length 0 lo)
theorem Zl5 (l : List Nat) (lo hi : Option Int) : cutS (S l) lo hi = S (cutL l lo hi) := rfl
theorem Zff {α : Type} (l : List α) (n : Nat) : cutL l none (some (n : Int)) = l.take n := by
  unfold cutL
  rw [HT.sIx_nat,HT.sIx_none,Nat.sub_zero,List.drop_zero]
  by_cases h : n ≤ l.length
  · rw [Nat.min_eq_left h]
  · rw [Nat.min_eq_right (by omega),List.take_of_length_le (Nat.le_refl _),List.take_of_length_le (by omega)]
theorem Zhl {α : Type} (l : List α) (n : Nat) : cutL l (some (n : Int)) none = l.drop n := by
  unfold cutL
  rw [HT.sIx_nat,HT.sIx_none]
  by_cases h : n ≤ l.length
  · rw [Nat.min_eq_left h,List.take_of_length_le (by rw [List.length_drop]; exact Nat.le_refl _)]
  · rw [Nat.min_eq_right (by omega),List.drop_of_length_le (Nat.le_refl _),List.drop_of_length_le (by omega)]
    exact List.take_nil
theorem Zcs {α : Type} (l : List α) (m n : Nat) : cutL l (some (m : Int)) (some (n : Int)) = (l.take n).drop m := by
  unfold cutL
  rw [HT.sIx_nat,HT.sIx_nat,List.drop_take]
  by_cases h : m ≤ l.length
  · rw [Nat.min_eq_left h]
    by_cases h2 : n ≤ l.length
    · rw [Nat.min_eq_left h2]
    · rw [Nat.min_eq_right (by omega),List.take_of_length_le (by rw [List.length_drop]; exact Nat.le_refl _),List.take_of_length_le (by rw [List.length_drop]; omega)]
  · rw [Nat.min_eq_right (show l.length ≤ m by omega),List.drop_of_length_le (Nat.le_refl _),List.drop_of_length_le (show l.length ≤ m by omega),List.take_nil,List.take_nil]
theorem Zhm {α : Type} (l : List α) : cutL l (some (-1)) none = l.getLast?.toList := by
  unfold cutL
  have e : HT.sIx l.length 0 (some (-1)) = l.length - 1 := by
    show (if (-1 : Int) < 0 then ((-1 : Int) + (l.length : Int)).toNat else min (-1 : Int).toNat l.length) = l.length - 1
    rw [if_pos (by decide)]
    omega
  rw [e,HT.sIx_none]
  by_cases h : l = []
  · rw [h]; rfl
  · rw [← List.dropLast_concat_getLast h]
    simp
theorem szS {l : List Nat} (h : l.length ≤ 100000) : (S l).length ≤ sizeLine := by
  rw [S_len]; exact Nat.le_trans h (by decide)
theorem eqV_S (a b : List Nat) : eqV (.str (S a)) (.str (S b)) = decide (b = a) := by
  show (S a == S b) = _
  rw [S_beq_eq]
  by_cases h : a = b
  · rw [decide_eq_true h,decide_eq_true h.symm]
  · rw [decide_eq_false h,decide_eq_false (Ne.symm h)]
def SameX (a : Addr) (H H' : Hp) : Prop := ∀ b o, b ≠ a → H b = some o → H' b = some o
theorem SameX.refl (a : Addr) (H : Hp) : SameX a H H := fun _ _ _ h => h
theorem SameX.of {a : Addr} {H H' : Hp} (s : Same H H') : SameX a H H' := fun b o _ h => s b o h
theorem SameX.trans {a : Addr} {H H1 H2 : Hp} (s : SameX a H H1) (t : SameX a H1 H2) : SameX a H H2 := fun b o n h => t b o n (s b o n h)
theorem SameX.upd {a : Addr} {H H' : Hp} {o : HO} (s : SameX a H H') : SameX a H (L2.upd H' a o) := fun b u n h => by
  rw [upd_ne n]; exact s b u n h
theorem SameX.thn {a : Addr} {H H1 H2 : Hp} (s : SameX a H H1) (t : Same H1 H2) : SameX a H H2 := s.trans (.of t)
theorem SameX.seqL {K : PySem.W.Frag} {a b : Addr} {H H' : Hp} {xs : List V} (s : SameX a H H') (hn : b ≠ a) (h : SqL K H b xs) : SqL K H' b xs := by
  rcases h with (h | ⟨o,h⟩) | h
  · exact .inl (.inl (s _ _ hn h))
  · exact .inl (.inr ⟨o,s _ _ hn h⟩)
  · exact .inr h
def StOk (ns : List Int) : Prop := ns.length = 1 ∨ ns.length = 3
def DrAt (a : Addr) (H : Hp) : Prop := ∃ ns : List Int,H a = some (.lst (ns.map V.int)) ∧ StOk ns
theorem DrAt.same {a : Addr} {H H' : Hp} (d : DrAt a H) (s : Same H H') : DrAt a H' := let ⟨ns, h, k⟩ := d; ⟨ns, s _ _ h, k⟩
theorem DrAt.ne {a p : Addr} {H : Hp} (d : DrAt a H) (h : H p = none) : p ≠ a := fun e => by
  obtain ⟨ns,ha,_⟩ := d
  rw [e,ha] at h; cases h
theorem DrAt.upd {a p : Addr} {H : Hp} {o : HO} (d : DrAt a H) (h : p ≠ a) : DrAt a (upd H p o) := by
  obtain ⟨ns,ha,k⟩ := d
  exact ⟨ns,by rw [upd_ne (Ne.symm h)]; exact ha,k⟩
theorem SameX.new {a p : Addr} {H H' : Hp} {o : HO} (s : SameX a H H') (h : H' p = none) : SameX a H (L2.upd H' p o) := s.thn (Z00 h)
theorem SameX.mut {a p : Addr} {H H' : Hp} {o : HO} (s : SameX a H H') (h : H p = none) : SameX a H (L2.upd H' p o) := fun b u n e => by
  rw [upd_ne (ne_of_none e h)]; exact s b u n e
theorem Z2a : ∀ ys : List (List Nat),TL.joinL [] ys = ys.flatten
  | [] => rfl
  | [y] => by simp [TL.joinL]
  | y :: z :: r => by
    have := Z2a (z :: r)
    simp [TL.joinL] at this ⊢
    exact this
end Ap
set_option maxHeartbeats 4000000
namespace Ap
open PySem PySem.Spec PyProof.Rows L2 SX
structure GOk (P : Program) (w : World) (K : PySem.W.Frag) (mg : Str → Option Value) (base : Heap) (C : CXT) (k : Nat)
    (f : Addr) (fd : FuncData) (ps : List Str) (sp : Sp) : Prop where
  len : ∀ vs H Q E,sp vs H Q E → vs.length = ps.length
  run : ∀ (A : Around) (outer : List Env) (s : Shared) (H : Hp) (as : Args) (us : List Value) (vs : List V) (Q : VK) (E : XK),
    Room k A → A.guards = some [] → Env0 P w K mg base A outer s H → BindsTo s fd as (ps.zip us) → Vals vs us →
    sp vs H Q E → codeAny (model P w) A (.call (.ref f) as) (CR C outer P w H s Q E) s
theorem GOk.of {P : Program} {w : World} {K : PySem.W.Frag} {mg : Str → Option Value} {base : Heap} {C : CXT} {k : Nat}
    {f : Addr} {fd : FuncData} {ps : List Str} {sp : Sp} (F : FnOk P w K mg base C k f fd ps sp) : GOk P w K mg base C k f fd ps sp :=
  ⟨F.len,fun A outer s H as us vs Q E r _ => F.run A outer s H as us vs Q E r⟩
end Ap
set_option maxHeartbeats 4000000
namespace Ap
open PySem PySem.Spec PyProof.Rows L2 SX
def repL (n : Nat) (l : List Nat) : List Nat := (List.replicate n l).flatten
theorem Zdl (a : Array Nat) : ∀ (n : Nat) (b : Array Nat),((List.replicate n a).foldl (· ++ ·) b).toList = b.toList ++ repL n a.toList
  | 0,b => by simp [repL]
  | n + 1,b => by
    rw [List.replicate_succ,List.foldl_cons,Zdl a n]
    unfold repL
    rw [List.replicate_succ,List.flatten_cons,Array.toList_append,List.append_assoc]
theorem Zhn (n : Nat) : repL n [] = [] := by
  induction n with
  | zero => rfl
  | succ n ih => unfold repL at *; rw [List.replicate_succ,List.flatten_cons,ih]; rfl
theorem Zho (c n : Nat) : repL n [c] = List.replicate n c := by
  induction n with
  | zero => rfl
  | succ n ih => unfold repL at *; rw [List.replicate_succ,List.flatten_cons,ih]; rfl
theorem Zhp (n : Nat) (l : List Nat) : (repL n l).length = n * l.length := by
  induction n with
  | zero => simp [repL]
  | succ n ih => unfold repL at *; rw [List.replicate_succ,List.flatten_cons,List.length_append,ih,Nat.succ_mul,Nat.add_comm]
def rMulS : R2 := fun x y H Q => ∃ (l : List Nat) (k : Int),x = .str (S l) ∧ y = .int k ∧ -100000 ≤ k ∧ k ≤ 100000 ∧ l.length * k.toNat ≤ 100000 ∧ Q (.str (S (repL k.toNat l))) H
theorem Zel {X : Cx} : OpR X (binaryOp .Mult) rMulS := by
  intro pins s σ H x y v u Q I rx ry h
  obtain ⟨l,k,rfl,rfl,k0,k1,hz,q⟩ := h
  obtain ⟨t,rfl⟩ := rx
  obtain ⟨t2,rfl⟩ := ry
  have hl : (S l).length = l.length := S_len l
  refine PySem.P.mul_str ?_ (fun h1 h2 => ?_) (fun h1 h2 => ?_) ?_
  · rw [decide_eq_false (by omega),decide_eq_false (by omega)]; rfl
  · rw [hl]
    obtain ⟨m,rfl⟩ : ∃ m : Nat,k = (m : Int) := ⟨k.toNat,by omega⟩
    have hm : 0 < m := by omega
    have : l.length ≤ 100000 := by
      have : l.length * 1 ≤ l.length * m := Nat.mul_le_mul_left _ hm
      simp only [Int.toNat_natCast] at hz
      omega
    have h3 : (100000 : Int) ≤ (2 ^ 63 - 1) / (m : Int) := by
      rw [Int.le_ediv_iff_mul_le (by omega)]
      have : (m : Int) ≤ 100000 := k1
      omega
    omega
  · rw [hl]
    unfold Builtin.Str.tooLong
    exact decide_eq_false (by have := sizeLine_eq; omega)
  · by_cases h1 : k < 1
    · rw [if_pos h1]
      have e : k.toNat = 0 := by omega
      rw [e] at q
      exact ⟨by decide,⟨.str (S []),H,I.tok _,⟨_,rfl⟩,q⟩⟩
    · rw [if_neg h1]
      by_cases h2 : (k == 1 || (S l).length == 0) = true
      · rw [if_pos h2]
        have e : repL k.toNat l = l := by
          rw [hl,Bool.or_eq_true,beq_iff_eq,beq_iff_eq] at h2
          rcases h2 with rfl | h2
          · show repL 1 l = l
            simp [repL]
          · rw [List.length_eq_zero_iff.mp h2]; exact Zhn _
        rw [e] at q
        exact ⟨.str (S l),H,I,⟨t,rfl⟩,q⟩
      · rw [if_neg h2]
        have e : (⟨(List.replicate k.toNat (S l).cps).foldl (· ++ ·) #[]⟩ : Str) = S (repL k.toNat l) := by
          have := Zdl (S l).cps k.toNat #[]
          rw [show (S l).cps.toList = l from rfl] at this
          show Str.mk _ = Str.mk _
          congr 1
          apply Array.ext'
          rw [this]; rfl
        rw [e]
        refine ⟨?_,⟨.str _,H,I.tok _,⟨_,rfl⟩,q⟩⟩
        rw [S_len,Zhp,Nat.mul_comm]
        have := sizeLine_eq
        omega
def IteS (x : Str) : It :=
  ⟨fun i _ => i < x.cps.size, fun i H v H' => ∃ T c, v = .ref T ∧ H T = none ∧ H' = upd H T (.tup [.int (i : Nat), .str ⟨#[c]⟩]) ∧ x.cps[i]? = some c, fun i _ => i = x.cps.size⟩
theorem Zbu {P : Program} {w : World} {A : Around} (hh : A.handled = none) (it : Addr) (x : Str) (t : Tok) :
    Draws P w A it [it] x.cps.size (fun i v => ∃ c u,x.cps[i]? = some c ∧ v = .str ⟨#[c]⟩ u) (fun i h => h.IsStrIter it (strIterType x) x t i) := by
  unfold strIterType
  split
  · exact Draws.strAscii hh it x t
  · exact Draws.strWide hh it x t
theorem Zem {P : Program} {w : World} {K : PySem.W.Frag} {elts : List Expr} {kk : Nat} {tpos : Pos} (x : Str) (t : Tok) (e it : Addr) :
    Turn P w K (.Tuple elts kk tpos) (IteS x) [e,it] e (fun i h => (∃ old,IsEnum h e it ((i : Nat) : Int) old) ∧ h.IsStrIter it (strIterType x) x t i ∧ e ≠ it) where
  mem := List.mem_cons_self
  obj := by
    intro i h ⟨⟨old,he⟩,⟨o,ho,hc,hd⟩,_⟩ b hb
    rcases List.mem_cons.mp hb with rfl | hb
    · exact ⟨_,he,fun v q => nomatch q⟩
    · cases List.mem_singleton.mp hb
      exact ⟨o,ho,fun v q => by rw [hd] at q; cases q⟩
  keep := by
    intro i h h' ⟨⟨old, he⟩, ⟨o, ho, r⟩, hne⟩ k
    exact ⟨⟨old,k e List.mem_cons_self _ he⟩,⟨o,k it (List.mem_cons_of_mem _ List.mem_cons_self) o ho,r⟩,hne⟩
  item := by
    intro X hP hw hK hc i pins s σ H E I hf ⟨⟨old,he⟩,hit,hne⟩ hg
    cases hP; cases hw; cases hK
    have le : e < s.heap.objs.size := Heap.lt_size he
    have li : it < s.heap.objs.size := Heap.lt_size hit.choose_spec.1
    refine wpAny_pyNext_enum_itemD (Zbu (A := X.A.in1) (I.ok.hd hc) it x t) he hit hg hne (by simpa using hne) ?_
    rintro v h' tk ⟨c, u, hx, rfl⟩ ho st hT hsz hk
    refine ⟨_, rfl, wpAny_letOwnedTupleGo_enum (s := { s with heap := h', toks := tk + 1 }) ho ?_⟩
    intro h'' he' sb
    have hT2 := (sb.2 s.heap.objs.size (Nat.ne_of_gt le)).trans hT
    have new : ObjOk X.prog X.w (upd H s.heap.objs.size (.tup [.int (i : Nat), .str ⟨#[c]⟩])) h'' s.heap.objs.size (.tup [.int (i : Nat), .str ⟨#[c]⟩]) :=
      ⟨by show 2 ≤ sizeLine; decide,[.int i tk,.str ⟨#[c]⟩ u],.cons ⟨_,rfl⟩ (.cons ⟨_,rfl⟩ .nil),⟨_,hT2,rfl,_,rfl⟩⟩
    have I1 := I.turnedNew (t' := tk + 1) (ch := [e, it]) (fun b ob hb q => (sb.2 b (fun z => hb (by simp [z]))).trans (hk b ob (fun z => hb (by simp [z])) (fun z => hb (by simp [z])) q)) hf (Nat.le_refl _) new
    refine ⟨.ref s.heap.objs.size,_,I1,rfl,⟨_,c,rfl,I.hok.fresh (Nat.le_refl _),rfl,hx⟩,⟨⟨.str ⟨#[c]⟩ u,?_⟩,?_,hne⟩,?_⟩
    · rw [show ((i + 1 : Nat) : Int) = (i : Int) + 1 by omega]; exact he'
    · obtain ⟨o,o1,o2⟩ := st
      exact ⟨o,(sb.2 it (Ne.symm hne)).trans o1,o2⟩
    · intro b hb
      have : b < s.heap.objs.size := by
        rcases List.mem_cons.mp hb with rfl | hb
        · exact le
        · cases List.mem_singleton.mp hb; exact li
      rw [upd_ne (Nat.ne_of_lt this)]
      exact (hf b hb).1
  done := by
    intro X hP hw hK hc i pins s σ H E I hf ⟨⟨old,he⟩,hit,hne⟩ hg
    cases hP; cases hw; cases hK
    cases (show i = x.cps.size from hg)
    obtain ⟨f0,f1,f2,f3,f4,f5⟩ := hf it (List.mem_cons_of_mem _ List.mem_cons_self)
    refine wpAny_pyNext_enum_endD (Zbu (A := X.A.in1) (I.ok.hd hc) it x t) he hit ?_
    intro h' eb
    exact ⟨rfl, I.turned (t' := s.toks) (fun b o hb q => eb b o hb q) f0 f1 f3 f4 f5⟩
  self := by
    intro A i s Q E ⟨⟨_,he⟩,_⟩ h
    exact wpAny_pyIter_enum he h
def iEnumS (ta : TA) : TI := fun σ H R => ta σ H fun vs H1 => ∃ x : Str,vs = [.str x] ∧ R (IteS x) H1
theorem Zhq {X : Cx} {e : Expr} {ta : TA} {p pos tpos : Pos} {elts : List Expr} {kk : Nat} (hg : Gl X "enumerate") (hm : X.mg "enumerate" = none)
    (ha : PA X [e] ta) (hs : starEach [e] X.env = [(false,eval e X.env)] := by rfl) :
    PI X (.Tuple elts kk tpos) (.Call (.Name "enumerate" p) [e] [] pos) (iEnumS ta) := by
  constructor
  intro pins s σ H R I h
  refine Call_ (ld_blt I hg hm boot_enumerate (PyProof.Rows.callWith_type1 ?_ hs rfl))
  refine thn (ha.run pos pins s σ H _ I h) ?_
  rintro us s1 ⟨vs,H1,I1,r1,x,rfl,q⟩
  obtain ⟨u,rfl,t,rfl⟩ := vals1 r1
  refine call_enumerate_str ?_
  intro h' he hit hsz hk
  refine wpAny_pyIter_enum he ?_
  have I2 : Inv X pins σ H1 { s1 with heap := h' } := I1.kept (t' := s1.toks) hk
  refine ⟨s1.heap.objs.size + 1,[s1.heap.objs.size + 1,s1.heap.objs.size],_,_,H1,rfl,I2,Zem x t _ _,⟨⟨.none,he⟩,hit,Nat.succ_ne_self _⟩,?_,q⟩
  intro b hb
  have hle : s1.heap.objs.size ≤ b := by
    rcases List.mem_cons.mp hb with rfl | hb
    · exact Nat.le_add_right _ _
    · cases List.mem_singleton.mp hb; exact Nat.le_refl _
  exact I1.fpOk hle (I1.hok.fresh hle)
end Ap
set_option maxHeartbeats 4000000
namespace Ap
open PySem PySem.Spec PyProof.Rows L2 SX
section
variable {K : PySem.W.Frag} {σ : L2.St} {H : Hp} {ta tb te tl : TE} {tt : TT} {j : Nat} {vs : List Nat}
def sumL (ys : List (List Nat)) : Nat := (ys.map List.length).sum
theorem Zl6 (ys : List (List Nat)) : ((ys.map S).map (·.length)).sum = sumL ys := by
  induction ys with
  | nil => rfl
  | cons y ys ih =>
    unfold sumL at *
    rw [List.map_cons,List.map_cons,List.sum_cons,ih,List.map_cons,List.sum_cons]
    show (S y).length + _ = _
    rw [S_len]
end
end Ap
set_option maxHeartbeats 4000000
namespace Ap
open PySem PySem.Spec PyProof.Rows L2 SX
def lst (c : Nat) (l : List Nat) : List Nat := l.drop (l.takeWhile (· == c)).length
def dec (i : Int) : List Nat := (toString i : Str).cps.toList
theorem Zl7 (i : Int) : (toString i : Str) = S (dec i) := (S_tl _).symm
theorem Zl8 {P : Program} {w : World} {K : PySem.W.Frag} {mg : Str → Option Value} {base : Heap} {x qual : Str} {params : Arguments} {body : List Stmt} {scope : Scope} {dvs : List V} {kws : List (Str × V)} {f : Addr} {fd : FuncData}
    {N ps : List Str} {k : Nat} {sp : Sp} (F : FunD K x qual params body scope dvs kws f fd) (S : FnScope N ps scope) (len : ∀ vs H Q E,sp vs H Q E → vs.length = ps.length)
    (hbody : ∀ (cdv : Value) (A : Around) (outer : List Env) (s : Shared) (H : Hp) (vs : List V) (Q : VK) (E : XK),Room k (A.deeper (envOfC qual scope s.heap.objs.size f cdv)) → sp vs H Q E →
      ∃ t, PSs (cxOf CX0 P w K mg base N qual scope f cdv A outer s H E).nox body t ∧ t { nx := fun _ H' => Q .non H', rt := Q } (start N vs) H) : FnOk P w K mg base CX0 (k + 1) f fd ps sp :=
  F.ok S len fun cdv A outer s H vs Q E hr h => let ⟨t,p,q⟩ := hbody cdv A outer s H vs Q E hr h; ⟨t,p.nox,q⟩
def LsAll (H : Hp) : List Addr → List (List V) → Prop
  | [],[] => True
  | q :: qs,y :: ys => H q = some (.lst y) ∧ LsAll H qs ys
  | _,_ => False
theorem LsAll.to {H H' : Hp} : ∀ {qs : List Addr} {yss : List (List V)}, LsAll H qs yss → (∀ q y, q ∈ qs → H q = some (.lst y) → H' q = some (.lst y)) → LsAll H' qs yss
  | [],[],_,_ => trivial
  | q :: qs, y :: ys, h, k => ⟨k q y List.mem_cons_self h.1, h.2.to fun q' y' hq => k q' y' (List.mem_cons_of_mem _ hq)⟩
  | [],_ :: _,h,_ => h
  | _ :: _,[],h,_ => h
theorem LsAll.same {H H' : Hp} {qs : List Addr} {yss : List (List V)} (h : LsAll H qs yss) (s : Same H H') : LsAll H' qs yss := h.to fun q y _ e => s q _ e
theorem LsAll.ne {H : Hp} {p : Addr} (hp : H p = none) : ∀ {qs : List Addr} {yss : List (List V)},LsAll H qs yss → ∀ q ∈ qs,q ≠ p
  | q :: qs,y :: ys,h,x,hx => by
    rcases List.mem_cons.mp hx with rfl | hx
    · intro e
      have h1 := h.1
      rw [e,hp] at h1
      cases h1
    · exact h.2.ne hp x hx
  | [],_,_,_,hx => nomatch hx
  | _ :: _,[],h,_,_ => h.elim
theorem LsAll.len {H : Hp} : ∀ {qs : List Addr} {yss : List (List V)},LsAll H qs yss → qs.length = yss.length
  | [],[],_ => rfl
  | _ :: _,_ :: _,h => by rw [List.length_cons,List.length_cons,h.2.len]
  | [],_ :: _,h => h.elim
  | _ :: _,[],h => h.elim
theorem LsAll.get {H : Hp} : ∀ {qs : List Addr} {yss : List (List V)} {i : Nat} {x : V},LsAll H qs yss → (qs.map V.ref)[i]? = some x → ∃ q y,x = .ref q ∧ yss[i]? = some y ∧ H q = some (.lst y)
  | q :: qs,y :: ys,0,x,h,e => ⟨q,y,(Option.some.inj e).symm,rfl,h.1⟩
  | q :: qs,y :: ys,i + 1,x,h,e => by
    obtain ⟨q', y', e1, e2, e3⟩ := LsAll.get (i := i) h.2 (by simpa using e)
    exact ⟨q', y', e1, by simpa using e2, e3⟩
  | [],[],i,x,h,e => by simp at e
  | [],_ :: _,_,_,h,_ => h.elim
  | _ :: _,[],_,_,h,_ => h.elim
def cont (H : Hp) : V → List V
  | .ref q => match H q with
    | some (.lst y) => y
    | _ => []
  | _ => []
theorem LsAll.cont {H : Hp} {α : Type} (f : List V → α) : ∀ {qs : List Addr} {yss : List (List V)},LsAll H qs yss → (qs.map V.ref).map (fun x => f (cont H x)) = yss.map f
  | [],[],_ => rfl
  | q :: qs,y :: ys,h => by
    rw [List.map_cons,List.map_cons,List.map_cons,h.2.cont f]
    have e : Ap.cont H (.ref q) = y := by
      show (match H q with
        | some (.lst y) => y
        | _ => []) = y
      rw [h.1]
    rw [e]
  | [],_ :: _,h => h.elim
  | _ :: _,[],h => h.elim
def EvLL (te : TE) (σ : L2.St) (H : Hp) (yss : List (List V)) : Prop :=
  ∀ H1,Same H H1 → ∀ Q : VK,(∀ p qs H2,H1 p = none → Same H1 H2 → H2 p = some (.lst (qs.map V.ref)) → LsAll H2 qs yss → Q (.ref p) H2) → te σ H1 Q
theorem EvLL.is {te : TE} {σ : L2.St} {H : Hp} {a b : List (List V)} (h : EvLL te σ H a) (e : a = b) : EvLL te σ H b := e ▸ h
end Ap
set_option maxHeartbeats 4000000
namespace Ap
open PySem PySem.Spec PyProof.Rows L2 SX
def rOr (r1 r2 : R2) : R2 := fun x y H Q => r1 x y H Q ∨ r2 x y H Q
def rOrC (r1 r2 : List V → Hp → VK → Prop) : List V → Hp → VK → Prop := fun xs H Q => r1 xs H Q ∨ r2 xs H Q
theorem Zct {X : Cx} {f : Value} {r1 r2 : List V → Hp → VK → Prop} (h1 : CallR X f r1) (h2 : CallR X f r2) : CallR X f (rOrC r1 r2) := fun pins s σ H xs us Q I rs h =>
  h.elim (h1 pins s σ H xs us Q I rs) (h2 pins s σ H xs us Q I rs)
open PySem.Builtin PySem.Builtin.Str in
theorem Zjr (x : Str) (t : Tok) (a : Addr) : ∃ other : Sem Fin,«str.startswith» ⟨[.str x t,.ref a],[]⟩ = (do
    if let some p ← asStr? (.ref a) then return ← ret (.bool (0 + p.length ≤ min x.length x.length && subAt x p 0))
    if ← isInstance (.ref a) (.type "tuple") then
      rule s!"str.startswith.tuple"
      let some items ← seqItems? (.ref a) | unsupported s!"internal:str.startswith"
      for y in items do
        match ← asStr? y with
        | some p => if 0 + p.length ≤ min x.length x.length && subAt x p 0 then return ← ret (.bool true)
        | none =>
          rule s!"str.startswith.tuple-item-not-str"
          raiseError "TypeError" s!"tuple for startswith must only contain str, not {← typeNameOf y}"
      return ← ret (.bool false)
    other) := ⟨_,rfl⟩
open PySem.Builtin PySem.Builtin.Str in
theorem Zhr (x : Str) (t : Tok) (a : Addr) (l : List (Str × Tok)) :
    Meets («str.startswith» ⟨[.str x t, .ref a], []⟩) (fun _ R s => (∃ o n, s.heap.get? a = some o ∧ o.cls = .type "tuple" ∧ o.data = .seq (strValues l).toArray n) ∧ R (.ok (.ret (.bool (l.any fun p => Txt.startswith x p.1)))) s) := by
  obtain ⟨other,htree⟩ := Zjr x t a
  intro prog w A R s ⟨⟨o,n,ho,hc,hdata⟩,hpost⟩
  rw [htree]
  refine wpAny_bind ?_
  unfold asStr?
  refine wpAny_bind (wpAny_load ho ?_)
  rw [hdata]
  refine wpAny_pure ?_
  refine wpAny_bind (wpAny_isInstance (T := "tuple") ⟨o, ho, hc⟩ isSubtype_tuple_tuple ?_)
  refine wpAny_bind (wpAny_rule ?_)
  refine wpAny_bind (wpAny_seqItems ho hdata ?_)
  refine wpAny_bind ?_
  rw [← Array.forIn_toList,List.toList_toArray]
  refine wpAny_forIn_list _ (fun rest r s' => r.1 = none ∧ s' = s ∧ ∃ m : List (Str × Tok), rest = strValues m ∧ (l.any fun p => Txt.startswith x p.1) = (m.any fun p => Txt.startswith x p.1)) _ ?_ ?_ _ _ ⟨rfl, rfl, l, rfl, rfl⟩
  · rintro v rest r s' ⟨hr, rfl, m, hm, e⟩
    match m,hm with
    | (y,u) :: m,hm =>
      cases hm
      refine wpAny_bind (wpAny_pure ?_)
      cases hb : Txt.startswith x y
      · have hb' := hb
        unfold Txt.startswith at hb'
        simp only [Nat.min_self, hb']
        refine wpAny_pure ⟨rfl,rfl,m,rfl,?_⟩
        rw [e,List.any_cons,hb,Bool.false_or]
      · have hb' := hb
        unfold Txt.startswith at hb'
        simp only [Nat.min_self, hb']
        rw [if_pos trivial]
        refine wpAny_bind (wpAny_pure (wpAny_pure (wpAny_pure ?_)))
        rw [e,List.any_cons,hb,Bool.true_or] at hpost
        exact hpost
  · rintro ⟨r1, r2⟩ s' ⟨hr, rfl, m, hm, e⟩
    simp only at hr
    subst hr
    match m,hm with
    | [],_ =>
      rw [e] at hpost
      exact wpAny_pure hpost
abbrev rSwT (K : PySem.W.Frag) : V → List V → Hp → VK → Prop := fun x xs H Q => ∃ (a : Str) (p : Addr) (ys : List Str),x = .str a ∧ xs = [.ref p] ∧ SqT K H p (ys.map V.str) ∧ Q (.bl (ys.any fun y => Txt.startswith a y)) H
theorem Z8l {X : Cx} : MtR X "str.startswith" (rSwT X.K) := by
  intro pins s σ H x xs v us Q I rx rs h
  obtain ⟨a,p,ys,rfl,rfl,hp,q⟩ := h
  obtain ⟨t,rfl⟩ := rx
  cases rs with
  | cons r1 rs =>
    cases rs
    cases r1
    obtain ⟨its,r,ht,_⟩ := I.tuple hp
    obtain ⟨l,hv,hy⟩ := strsAre_values (strs_of_vals r)
    obtain ⟨o,ho,hc,n,hd⟩ := ht
    refine call_meets F.slot_str_startswith (typeIs_str _ _ _) F.entry_str_startswith (F.args_str_startswith_2 _ _) (Zhr a t p l) ⟨⟨o,n,ho,hc,by rw [hd,hv]⟩,.bl (ys.any fun y => Txt.startswith a y),H,I,?_,q⟩
    rw [← hy,List.any_map]
    rfl
end Ap
set_option maxHeartbeats 4000000
namespace Fx
class Tb where
  T : List (PySem.Addr × PySem.Str)
instance (priority := low) tb0 : Tb := ⟨[]⟩
open PySem PySem.Spec PyProof.Rows L2 SX Ap
variable [Tb]
inductive T where
  | non | bl (b : Bool) | int (i : Int) | str (l : List Nat) | tup (ts : List T) | loc (i : Nat) | frl (ts : List T) | ref (a : Addr) | ty (n : String) | lam (f c : Addr) (q : PySem.Str) (J : List Addr → Hp → Prop) | ktp (ts : List T)
inductive O where
  | lst (ts : List T) | dk (kvs : List (Key × T)) | dt (kvs : List (List Key × T)) | ins (C : String) (fs : List (String × T))
abbrev Sto := List O
structure Ex where
  cls : PySem.Str
  fs : List (PySem.Str × T)
inductive R (α : Type) where
  | ok (a : α) (S : Sto) | exc (x : Ex) (S : Sto) | stuck
def R.bind {α β : Type} : R α → (α → Sto → R β) → R β
  | .ok a S,k => k a S
  | .exc x S,_ => .exc x S
  | .stuck,_ => .stuck
def lift {α : Type} : Option (α × Sto) → R α
  | some (a,S) => .ok a S
  | none => .stuck
@[simp] theorem Yy {α β : Type} (a : α) (S : Sto) (k : α → Sto → R β) : (R.ok a S).bind k = k a S := (rfl)
@[simp] theorem bind_exc {α β : Type} (x : Ex) (S : Sto) (k : α → Sto → R β) : (R.exc x S).bind k = .exc x S := (rfl)
@[simp] theorem Zl4 {α β : Type} (k : α → Sto → R β) : (R.stuck (α := α)).bind k = .stuck := (rfl)
@[simp] theorem Zl9 {α : Type} (a : α) (S : Sto) : lift (some (a,S)) = .ok a S := (rfl)
@[simp] theorem Zla {α : Type} : lift (none : Option (α × Sto)) = .stuck := (rfl)
def FrL (K : PySem.W.Frag) (H : Hp) (a : Addr) (xs : List V) : Prop :=
  (∃ o,H a = some (.frz o (.lst xs))) ∨
    ∃ (o : Obj) (its : Array Value) (n : Nat), K.lookup a = some o ∧ o.cls = .type "list" ∧ o.dict = none ∧ o.data = .seq its n ∧ its.size ≤ sizeLine ∧ Vals xs its.toList
theorem FrL.sq {K : PySem.W.Frag} {H : Hp} {a : Addr} {xs : List V} (h : FrL K H a xs) : SqL K H a xs := h.elim (fun ⟨o,e⟩ => .inl (.inr ⟨o,e⟩)) .inr
def HMut : HO → Prop
  | .lst _ => True | .dK _ => True | .dT _ => True | .ins _ _ _ => True | _ => False
structure Gr (ι ι' : List Addr) (H H' : Hp) : Prop where
  pre : ∀ (i : Nat) a, ι[i]? = some a → ι'[i]? = some a
  tup : ∀ a xs, H a = some (.tup xs) → H' a = some (.tup xs)
  frz : ∀ a o u, H a = some (.frz o u) → H' a = some (.frz o u)
  xd : ∀ a fs, H a = some (.xd fs) → H' a = some (.xd fs)
  ext : ∀ a φ, H a = some (.ext φ) → H' a = some (.ext φ)
  tab : LamX.Tabs Tb.T H → LamX.Tabs Tb.T H'
  fre : ∀ a u, a ∈ ι' → H a = some u → HMut u → a ∈ ι
  out : ∀ a u, H a = some u → HMut u → a ∉ ι → H' a = some u
theorem Gr.refl {ι : List Addr} {H : Hp} : Gr ι ι H H := ⟨fun _ _ h => h,fun _ _ h => h,fun _ _ _ h => h,fun _ _ h => h,fun _ _ h => h,fun h => h,fun _ _ h _ _ => h,fun _ _ h _ _ => h⟩
theorem Gr.trans {ι ι1 ι2 : List Addr} {H H1 H2 : Hp} (a : Gr ι ι1 H H1) (b : Gr ι1 ι2 H1 H2) : Gr ι ι2 H H2 :=
  ⟨fun i x h => b.pre i x (a.pre i x h),fun x xs h => b.tup x xs (a.tup x xs h),fun x o u h => b.frz x o u (a.frz x o u h),fun x fs h => b.xd x fs (a.xd x fs h),fun x φ h => b.ext x φ (a.ext x φ h),fun h => b.tab (a.tab h),fun x u hx h m => Classical.byContradiction fun n => n (a.fre x u (b.fre x u hx (a.out x u h m n) m) h m),fun x u h m n => b.out x u (a.out x u h m n) m fun hx => n (a.fre x u hx h m)⟩
theorem Gr.same {ι : List Addr} {H H' : Hp} (s : Same H H') : Gr ι ι H H' := ⟨fun _ _ h => h, fun _ _ h => s _ _ h, fun _ _ _ h => s _ _ h, fun _ _ h => s _ _ h, fun _ _ h => s _ _ h, fun h => h.ext s, fun _ _ h _ _ => h, fun _ _ h _ _ => s _ _ h⟩
mutual
inductive Rep (K : PySem.W.Frag) (ι : List Addr) (H : Hp) : V → T → Prop
  | non : Rep K ι H .non .non
  | bl (b : Bool) : Rep K ι H (.bl b) (.bl b)
  | int (i : Int) : Rep K ι H (.int i) (.int i)
  | str (l : List Nat) : Rep K ι H (.str (S l)) (.str l)
  | tup {a : Addr} {vs : List V} {ts : List T} : SqT K H a vs → Reps K ι H vs ts → Rep K ι H (.ref a) (.tup ts)
  | loc {i : Nat} {a : Addr} : ι[i]? = some a → Rep K ι H (.ref a) (.loc i)
  | frl {a : Addr} {vs : List V} {ts : List T} : FrL K H a vs → Reps K ι H vs ts → Rep K ι H (.ref a) (.frl ts)
  | ref (a : Addr) : Rep K ι H (.ref a) (.ref a)
  | ty (n : String) : Rep K ι H (.ty n) (.ty n)
  | lam {f c : Addr} {q : PySem.Str} {J : List Addr → Hp → Prop} : H c = some (LamX.CodeO c q) → (∀ ι' H', Gr ι ι' H H' → J ι' H') → Rep K ι H (.ref f) (.lam f c q J)
  | ktp {a : Addr} {vs : List V} {ts : List T} : H a = some (.tup vs) → Reps K ι H vs ts → Rep K ι H (.ref a) (.ktp ts)
inductive Reps (K : PySem.W.Frag) (ι : List Addr) (H : Hp) : List V → List T → Prop
  | nil : Reps K ι H [] []
  | cons {v : V} {vs : List V} {t : T} {ts : List T} : Rep K ι H v t → Reps K ι H vs ts → Reps K ι H (v :: vs) (t :: ts)
end
theorem SqT.gr {K : PySem.W.Frag} {ι ι' : List Addr} {H H' : Hp} {a : Addr} {xs : List V} (g : Gr ι ι' H H') (h : SqT K H a xs) : SqT K H' a xs := by
  rcases h with (h | ⟨o,h⟩) | h
  · exact .inl (.inl (g.tup _ _ h))
  · exact .inl (.inr ⟨o,g.frz _ _ _ h⟩)
  · exact .inr h
theorem FrL.gr {K : PySem.W.Frag} {ι ι' : List Addr} {H H' : Hp} {a : Addr} {xs : List V} (g : Gr ι ι' H H') (h : FrL K H a xs) : FrL K H' a xs := by
  rcases h with ⟨o,h⟩ | h
  · exact .inl ⟨o,g.frz _ _ _ h⟩
  · exact .inr h
mutual
theorem Rep.gr {K : PySem.W.Frag} {ι ι' : List Addr} {H H' : Hp} (g : Gr ι ι' H H') : ∀ {v : V} {t : T}, Rep K ι H v t → Rep K ι' H' v t
  | _,_,.non => .non
  | _,_,.bl b => .bl b
  | _,_,.int i => .int i
  | _,_,.str l => .str l
  | _,_,.tup h r => .tup (SqT.gr g h) (Reps.gr g r)
  | _,_,.loc h => .loc (g.pre _ _ h)
  | _,_,.frl h r => .frl (h.gr g) (Reps.gr g r)
  | _,_,.ref a => .ref a
  | _,_,.ty n => .ty n
  | _, _, .lam h j => .lam (g.ext _ _ h) fun ι' H' g' => j ι' H' (g.trans g')
  | _,_,.ktp h r => .ktp (g.tup _ _ h) (Reps.gr g r)
theorem Reps.gr {K : PySem.W.Frag} {ι ι' : List Addr} {H H' : Hp} (g : Gr ι ι' H H') : ∀ {vs : List V} {ts : List T}, Reps K ι H vs ts → Reps K ι' H' vs ts
  | _,_,.nil => .nil
  | _,_,.cons h r => .cons (Rep.gr g h) (Reps.gr g r)
end
section
variable {K : PySem.W.Frag} {ι : List Addr} {H : Hp}
theorem Reps.length : ∀ {vs : List V} {ts : List T},Reps K ι H vs ts → vs.length = ts.length
  | _,_,.nil => rfl
  | _,_,.cons _ r => congrArg (· + 1) r.length
theorem Reps.get : ∀ {vs : List V} {ts : List T} {i : Nat} {t : T},Reps K ι H vs ts → ts[i]? = some t → ∃ v,vs[i]? = some v ∧ Rep K ι H v t
  | _,_,_,_,.nil,e => by simp at e
  | _,_,0,_,.cons r _,e => by simp at e; subst e; exact ⟨_,rfl,r⟩
  | _,_,i + 1,t,.cons _ q,e => by
    obtain ⟨v,h1,h2⟩ := Reps.get (i := i) (t := t) q (by simpa using e)
    exact ⟨v,by simpa using h1,h2⟩
theorem Reps.append : ∀ {vs ws : List V} {ts us : List T},Reps K ι H vs ts → Reps K ι H ws us → Reps K ι H (vs ++ ws) (ts ++ us)
  | _,_,_,_,.nil,s => s
  | _,_,_,_,.cons r t,s => .cons r (Reps.append t s)
theorem Reps.take : ∀ {vs : List V} {ts : List T} (n : Nat),Reps K ι H vs ts → Reps K ι H (vs.take n) (ts.take n)
  | _,_,0,_ => by simpa using Reps.nil
  | _,_,_ + 1,.nil => by simpa using Reps.nil
  | _,_,n + 1,.cons r t => .cons r (Reps.take n t)
theorem Reps.drop : ∀ {vs : List V} {ts : List T} (n : Nat),Reps K ι H vs ts → Reps K ι H (vs.drop n) (ts.drop n)
  | _,_,0,r => r
  | _,_,_ + 1,.nil => .nil
  | _,_,n + 1,.cons _ t => Reps.drop n t
theorem Reps.set {v : V} {t : T} (r : Rep K ι H v t) : ∀ {vs : List V} {ts : List T} (i : Nat),Reps K ι H vs ts → Reps K ι H (vs.set i v) (ts.set i t)
  | _,_,_,.nil => .nil
  | _,_,0,.cons _ q => .cons r q
  | _,_,i + 1,.cons p q => .cons p (Reps.set r i q)
end
inductive RepP {κ : Type} (K : PySem.W.Frag) (ι : List Addr) (H : Hp) : List (κ × V) → List (κ × T) → Prop
  | nil : RepP K ι H [] []
  | cons {k : κ} {v : V} {vs : List (κ × V)} {t : T} {ts : List (κ × T)} : Rep K ι H v t → RepP K ι H vs ts → RepP K ι H ((k,v) :: vs) ((k,t) :: ts)
theorem RepP.gr {κ : Type} {K : PySem.W.Frag} {ι ι' : List Addr} {H H' : Hp} (g : Gr ι ι' H H') : ∀ {vs : List (κ × V)} {ts : List (κ × T)}, RepP K ι H vs ts → RepP K ι' H' vs ts
  | _,_,.nil => .nil
  | _,_,.cons h r => .cons (Rep.gr g h) (RepP.gr g r)
theorem RepP.length {κ : Type} {K : PySem.W.Frag} {ι : List Addr} {H : Hp} : ∀ {vs : List (κ × V)} {ts : List (κ × T)},RepP K ι H vs ts → vs.length = ts.length
  | _,_,.nil => rfl
  | _,_,.cons _ r => congrArg (· + 1) r.length
inductive RepF (K : PySem.W.Frag) (ι : List Addr) (H : Hp) : List (PySem.Str × V) → List (String × T) → Prop
  | nil : RepF K ι H [] []
  | cons {k : String} {v : V} {vs : List (PySem.Str × V)} {t : T} {ts : List (String × T)} : Rep K ι H v t → RepF K ι H vs ts → RepF K ι H ((PySem.Str.ofString k,v) :: vs) ((k,t) :: ts)
theorem RepF.gr {K : PySem.W.Frag} {ι ι' : List Addr} {H H' : Hp} (g : Gr ι ι' H H') : ∀ {vs : List (PySem.Str × V)} {ts : List (String × T)}, RepF K ι H vs ts → RepF K ι' H' vs ts
  | _,_,.nil => .nil
  | _,_,.cons h r => .cons (Rep.gr g h) (RepF.gr g r)
def ObR (K : PySem.W.Frag) (ι : List Addr) (H : Hp) (a : Addr) : O → Prop
  | .lst ts => ∃ vs,H a = some (.lst vs) ∧ Reps K ι H vs ts
  | .dk kvs => ∃ vs,H a = some (.dK vs) ∧ RepP K ι H vs kvs
  | .dt kvs => ∃ vs,H a = some (.dT vs) ∧ RepP K ι H vs kvs
  | .ins C fs => ∃ Ca dx vs,PySem.W.nsIn K mainGlobals (PySem.Str.ofString C) = some (some (.ref Ca)) ∧ H a = some (.ins Ca dx vs) ∧ RepF K ι H vs fs
structure Sim (K : PySem.W.Frag) (ι : List Addr) (S : Sto) (H : Hp) : Prop where
  len : ι.length = S.length
  nd : ι.Nodup
  ob : ∀ (i : Nat) a o,ι[i]? = some a → S[i]? = some o → ObR K ι H a o
  tab : LamX.Tabs Tb.T H
theorem ObR.gr {K : PySem.W.Frag} {ι ι' : List Addr} {H H' : Hp} {a : Addr} {o : O} (g : Gr ι ι' H H') (e : H' a = H a) (h : ObR K ι H a o) : ObR K ι' H' a o := by
  cases o with
  | lst ts => obtain ⟨vs,h,r⟩ := h; exact ⟨vs,e.trans h,r.gr g⟩
  | dk ts => obtain ⟨vs,h,r⟩ := h; exact ⟨vs,e.trans h,r.gr g⟩
  | dt ts => obtain ⟨vs,h,r⟩ := h; exact ⟨vs,e.trans h,r.gr g⟩
  | ins C ts => obtain ⟨Ca,dx,vs,hn,h,r⟩ := h; exact ⟨Ca,dx,vs,hn,e.trans h,r.gr g⟩
theorem ObR.has {K : PySem.W.Frag} {ι : List Addr} {H : Hp} {a : Addr} {o : O} (h : ObR K ι H a o) : ∃ u,H a = some u := by
  cases o with
  | lst ts => obtain ⟨vs,h,r⟩ := h; exact ⟨_,h⟩
  | dk ts => obtain ⟨vs,h,r⟩ := h; exact ⟨_,h⟩
  | dt ts => obtain ⟨vs,h,r⟩ := h; exact ⟨_,h⟩
  | ins C ts => obtain ⟨Ca,dx,vs,hn,h,r⟩ := h; exact ⟨_,h⟩
theorem ObR.mut {K : PySem.W.Frag} {ι : List Addr} {H : Hp} {a : Addr} {o : O} (h : ObR K ι H a o) : ∃ u,H a = some u ∧ HMut u := by
  cases o with
  | lst ts => obtain ⟨vs,h,r⟩ := h; exact ⟨_,h,trivial⟩
  | dk ts => obtain ⟨vs,h,r⟩ := h; exact ⟨_,h,trivial⟩
  | dt ts => obtain ⟨vs,h,r⟩ := h; exact ⟨_,h,trivial⟩
  | ins C ts => obtain ⟨Ca,dx,vs,hn,h,r⟩ := h; exact ⟨_,h,trivial⟩
section
variable {K : PySem.W.Frag} {ι : List Addr} {H H' : Hp} {Z : Sto}
theorem Sim.same (s : Sim K ι Z H) (m : Same H H') : Sim K ι Z H' := ⟨s.len, s.nd, fun i a o e1 e2 => by
  have h := s.ob i a o e1 e2
  obtain ⟨u,hu⟩ := h.has
  exact h.gr (Gr.same m) ((m _ _ hu).trans hu.symm),s.tab.ext m⟩
theorem Sim.at (s : Sim K ι Z H) {i : Nat} {o : O} (e : Z[i]? = some o) : ∃ a,ι[i]? = some a ∧ ObR K ι H a o := by
  have h1 : i < Z.length := (List.getElem?_eq_some_iff.mp e).1
  have h2 : i < ι.length := by rw [s.len]; exact h1
  exact ⟨ι[i],List.getElem?_eq_getElem h2,s.ob i _ o (List.getElem?_eq_getElem h2) e⟩
theorem Gr.new {p : Addr} {o : HO} (n : H p = none) : Gr ι (ι ++ [p]) H (upd H p o) :=
  ⟨fun i a h => by rw [List.getElem?_append_left (List.getElem?_eq_some_iff.mp h).1]; exact h,fun a xs h => by rw [upd_ne (ne_of_none h n)]; exact h,fun a o u h => by rw [upd_ne (ne_of_none h n)]; exact h,fun a fs h => by rw [upd_ne (ne_of_none h n)]; exact h,fun a φ h => by rw [upd_ne (ne_of_none h n)]; exact h,fun h => h.ext fun b o e => by rw [upd_ne (ne_of_none e n)]; exact e,fun a u h e m => (List.mem_append.mp h).elim id fun k => absurd e (by rw [List.mem_singleton.mp k,n]; intro z; cases z),fun a u h _ _ => by rw [upd_ne (ne_of_none h n)]; exact h⟩
theorem Gr.new0 {p : Addr} {o : HO} (n : H p = none) : Gr ι ι H (upd H p o) := Gr.same (Z00 n)
theorem Sim.new (s : Sim K ι Z H) {p : Addr} {o : HO} {ob : O} (n : H p = none) (r : ObR K (ι ++ [p]) (upd H p o) p ob) : Sim K (ι ++ [p]) (Z ++ [ob]) (upd H p o) := by
  refine ⟨by rw [List.length_append,List.length_append,s.len]; rfl,?_,fun i a x e1 e2 => ?_,(Gr.new (ι := ι) n).tab s.tab⟩
  · rw [List.nodup_append]
    refine ⟨s.nd,by simp,fun a ha b hb => ?_⟩
    rw [List.mem_singleton.mp hb]
    intro e
    obtain ⟨i,h1,h2⟩ := List.mem_iff_getElem.mp ha
    have h3 : i < Z.length := by rw [← s.len]; exact h1
    obtain ⟨u,hu⟩ := (s.ob i a _ (by rw [← h2]; exact List.getElem?_eq_getElem h1) (List.getElem?_eq_getElem h3)).has
    rw [e,n] at hu
    cases hu
  · by_cases hi : i < Z.length
    · rw [List.getElem?_append_left hi] at e2
      rw [List.getElem?_append_left (by rw [s.len]; exact hi)] at e1
      have h := s.ob i a x e1 e2
      obtain ⟨u,hu⟩ := h.has
      exact h.gr (Gr.new n) (by rw [upd_ne (ne_of_none hu n)])
    · have hi' : Z.length ≤ i := Nat.le_of_not_lt hi
      rw [List.getElem?_append_right hi'] at e2
      rw [List.getElem?_append_right (by rw [s.len]; exact hi'), s.len] at e1
      obtain ⟨h1,h2⟩ := List.getElem?_eq_some_iff.mp e2
      have h0 : i - Z.length = 0 := by simpa using h1
      rw [h0] at e1 e2
      simp at e1 e2
      subst e1 e2
      exact r
theorem Gr.mut {a : Addr} {u o : HO} (h : H a = some u) (m : HMut u) (hi : a ∈ ι) : Gr ι ι H (upd H a o) := by
  have ne : ∀ b x,H b = some x → ¬ HMut x → b ≠ a := fun b x e nm z => by subst z; rw [h] at e; cases e; exact nm m
  exact ⟨fun _ _ h => h,fun b xs e => by rw [upd_ne (ne b _ e fun z => z)]; exact e,fun b o u e => by rw [upd_ne (ne b _ e fun z => z)]; exact e,fun b fs e => by rw [upd_ne (ne b _ e fun z => z)]; exact e,fun b φ e => by rw [upd_ne (ne b _ e fun z => z)]; exact e,fun t p hp => by
    obtain ⟨ps,h1,h2,h3⟩ := t p hp
    refine ⟨ps,by rw [upd_ne (ne _ _ h1 fun z => z)]; exact h1,h2,fun pos cv hc => ?_⟩
    obtain ⟨c,e1,e2⟩ := h3 pos cv hc
    exact ⟨c, e1, by rw [upd_ne (ne c _ e2 fun z => z)]; exact e2⟩, fun _ _ k _ _ => k, fun b u' e _ nb => by
    have hb : b ≠ a := fun z => nb (by rw [z]; exact hi)
    rw [upd_ne hb]; exact e⟩
theorem Sim.set (s : Sim K ι Z H) {i : Nat} {a : Addr} {o : HO} {ob : O} (hi : ι[i]? = some a) (r : ObR K ι (upd H a o) a ob) : Sim K ι (Z.set i ob) (upd H a o) := by
  have h1 : i < ι.length := (List.getElem?_eq_some_iff.mp hi).1
  have h2 : i < Z.length := by rw [← s.len]; exact h1
  obtain ⟨u,hu,mu⟩ := (s.ob i a _ hi (List.getElem?_eq_getElem h2)).mut
  refine ⟨by rw [List.length_set]; exact s.len,s.nd,fun j b x e1 e2 => ?_,(Gr.mut (ι := ι) hu mu (List.mem_of_getElem? hi)).tab s.tab⟩
  by_cases hj : j = i
  · subst hj
    rw [hi] at e1; cases e1
    rw [List.getElem?_set_self h2] at e2
    cases e2
    exact r
  · rw [List.getElem?_set_ne (Ne.symm hj)] at e2
    have hb : b ≠ a := fun z => by
      subst z
      obtain ⟨k1,k2⟩ := List.getElem?_eq_some_iff.mp e1
      obtain ⟨k3,k4⟩ := List.getElem?_eq_some_iff.mp hi
      exact hj ((List.getElem_inj s.nd).mp (k2.trans k4.symm))
    exact (s.ob j b x e1 e2).gr (Gr.mut hu mu (List.mem_of_getElem? hi)) (upd_ne hb)
end
abbrev Env := List (Option T)
def Envs (K : PySem.W.Frag) (ι : List Addr) (H : Hp) (σ : L2.St) (ρ : Env) : Prop := ∀ (i : Nat) t,ρ[i]? = some (some t) → ∃ v,σ[i]? = some (some v) ∧ Rep K ι H v t
theorem Envs.gr {K : PySem.W.Frag} {ι ι' : List Addr} {H H' : Hp} {σ : L2.St} {ρ : Env} (e : Envs K ι H σ ρ) (g : Gr ι ι' H H') : Envs K ι' H' σ ρ := fun i t h => by
  obtain ⟨v,h1,h2⟩ := e i t h
  exact ⟨v,h1,h2.gr g⟩
theorem Envs.set {K : PySem.W.Frag} {ι : List Addr} {H : Hp} {σ : L2.St} {ρ : Env} (e : Envs K ι H σ ρ) {v : V} {t : T} (r : Rep K ι H v t) (i : Nat) (hl : σ.length = ρ.length) : Envs K ι H (σ.set i (some v)) (ρ.set i (some t)) := fun j u h => by
  by_cases hj : j = i
  · subst hj
    by_cases hlt : j < ρ.length
    · rw [List.getElem?_set_self hlt] at h
      cases h
      exact ⟨v,List.getElem?_set_self (by rw [hl]; exact hlt),r⟩
    · rw [List.getElem?_eq_none (by rw [List.length_set]; omega)] at h
      cases h
  · rw [List.getElem?_set_ne (Ne.symm hj)] at h
    obtain ⟨w,h1,h2⟩ := e j u h
    exact ⟨w,by rw [List.getElem?_set_ne (Ne.symm hj)]; exact h1,h2⟩
def RepX (K : PySem.W.Frag) (ι : List Addr) (H : Hp) (cls : Value) (d : Option Addr) (x : Ex) : Prop :=
  (∃ c,cls = .ref c ∧ PySem.W.nsIn K mainGlobals x.cls = some (some (.ref c))) ∧ (match x.fs with
    | [] => d = none
    | fs => ∃ dd vs,d = some dd ∧ H dd = some (.xd vs) ∧ RepP K ι H vs fs)
section
variable {α β γ δ : Type}
def Post (rep : List Addr → Hp → β → α → Prop) (K : PySem.W.Frag) (W : WX) (σ : L2.St) (ι : List Addr) (H : Hp) (Q : β → Hp → Prop) : R α → Prop
  | .ok a S' => ∀ ι' H' b, Gr ι ι' H H' → Sim K ι' S' H' → rep ι' H' b a → Q b H'
  | .exc x S' => ∀ ι' H' cls d, Gr ι ι' H H' → Sim K ι' S' H' → RepX K ι' H' cls d x → W cls d σ H'
  | .stuck => False
def PostO (rep : List Addr → Hp → β → α → Prop) (K : PySem.W.Frag) (ι : List Addr) (H : Hp) (Q : β → Hp → Prop) : Option (α × Sto) → Prop
  | some (a, S') => ∀ ι' H' b, Gr ι ι' H H' → Sim K ι' S' H' → rep ι' H' b a → Q b H'
  | none => False
variable {rep : List Addr → Hp → β → α → Prop} {rep' : List Addr → Hp → δ → γ → Prop} {K : PySem.W.Frag} {W : WX} {σ : L2.St} {ι ι1 : List Addr} {H H1 : Hp} {Q : β → Hp → Prop} {Q' : δ → Hp → Prop}
theorem Post.shift {r : R α} (h : Post rep K W σ ι H Q r) (g : Gr ι ι1 H H1) : Post rep K W σ ι1 H1 Q r := by
  cases r with
  | ok a S => exact fun ι' H' b g' => h ι' H' b (g.trans g')
  | exc x S => exact fun ι' H' c d g' => h ι' H' c d (g.trans g')
  | stuck => exact h
theorem PostO.shift {r : Option (α × Sto)} (h : PostO rep K ι H Q r) (g : Gr ι ι1 H H1) : PostO rep K ι1 H1 Q r := by
  cases r with
  | some a => exact fun ι' H' b g' => h ι' H' b (g.trans g')
  | none => exact h
theorem U6 {r : Option (α × Sto)} (h : Post rep K W σ ι H Q (lift r)) : PostO rep K ι H Q r := by
  cases r with
  | some a => exact h
  | none => exact h
theorem Zo {r : R α} {k : α → Sto → R γ} (h : Post rep' K W σ ι H Q' (r.bind k)) :
    Post rep K W σ ι H (fun b H1 => ∃ ι1 S1 a, Gr ι ι1 H H1 ∧ Sim K ι1 S1 H1 ∧ rep ι1 H1 b a ∧ Post rep' K W σ ι1 H1 Q' (k a S1)) r := by
  cases r with
  | ok a S => exact fun ι1 H1 b g s r => ⟨ι1,S,a,g,s,r,h.shift g⟩
  | exc x S => exact h
  | stuck => exact h
theorem Post.imp {r : R α} {Q2 : β → Hp → Prop} (h : Post rep K W σ ι H Q r) (i : ∀ b H,Q b H → Q2 b H) : Post rep K W σ ι H Q2 r := by
  cases r with
  | ok a S => exact fun ι1 H1 b g s r => i _ _ (h ι1 H1 b g s r)
  | exc x S => exact h
  | stuck => exact h
end
abbrev FE := Env → Sto → R T
abbrev FT := Env → Sto → R Bool
abbrev FA := Env → Sto → R (List T)
def bEq (_ : List Addr) (_ : Hp) (b c : Bool) : Prop := b = c
structure Wc where
  w : WX
  j : L2.St → List Addr → Hp → Prop
  st : ∀ σ ι ι' H H', Gr ι ι' H H' → j σ ι H → j σ ι' H'
def Wt (W : WX) : Wc := ⟨W,fun _ _ _ => True,fun _ _ _ _ _ _ _ => trivial⟩
structure Ie (K : PySem.W.Frag) (W : Wc) (ι : List Addr) (H : Hp) (σ : L2.St) (ρ : Env) (Z : Sto) : Prop where
  len : σ.length = ρ.length
  env : Envs K ι H σ ρ
  sim : Sim K ι Z H
  jj : W.j σ ι H
theorem Ie.gr {K : PySem.W.Frag} {W : Wc} {ι ι' : List Addr} {H H' : Hp} {σ : L2.St} {ρ : Env} {Z Z' : Sto} (h : Ie K W ι H σ ρ Z) (g : Gr ι ι' H H') (s : Sim K ι' Z' H') : Ie K W ι' H' σ ρ Z' := ⟨h.len, h.env.gr g, s, W.st _ _ _ _ _ g h.jj⟩
def tF (K : PySem.W.Frag) (W : Wc) (f : FE) : TE := fun σ H Q => ∃ ι ρ Z,Ie K W ι H σ ρ Z ∧ Post (Rep K) K W.w σ ι H Q (f ρ Z)
def tFT (K : PySem.W.Frag) (W : Wc) (f : FT) : TT := fun σ H Q => ∃ ι ρ Z,Ie K W ι H σ ρ Z ∧ Post bEq K W.w σ ι H Q (f ρ Z)
def tFA (K : PySem.W.Frag) (W : Wc) (f : FA) : TA := fun σ H Q => ∃ ι ρ Z,Ie K W ι H σ ρ Z ∧ Post (Reps K) K W.w σ ι H Q (f ρ Z)
abbrev FJ (X : Cx) (K : PySem.W.Frag) (W : Wc) (e : Expr) (f : FE) : Prop := PE X e (tF K W f)
abbrev FTJ (X : Cx) (K : PySem.W.Frag) (W : Wc) (e : Expr) (f : FT) : Prop := PT X e (tFT K W f)
abbrev FWJ (X : Cx) (K : PySem.W.Frag) (W : Wc) (e : Expr) (f : FT) : Prop := PW X e (tFT K W f)
abbrev FAJ (X : Cx) (K : PySem.W.Frag) (W : Wc) (es : List Expr) (f : FA) : Prop := PA X es (tFA K W f)
theorem Vz {X : Cx} {e : Expr} {t t' : TE} (h : PE X e t) (i : ∀ σ H Q, t' σ H Q → t σ H Q) : PE X e t' := ⟨fun pins s σ H Q I q => h.run pins s σ H Q I (i _ _ _ q)⟩
theorem Z9q {X : Cx} {e : Expr} {t t' : TT} (h : PT X e t) (i : ∀ σ H Q, t' σ H Q → t σ H Q) : PT X e t' := ⟨fun pins s σ H Q I q => h.run pins s σ H Q I (i _ _ _ q)⟩
theorem Zj2 {X : Cx} {e : Expr} {t t' : TT} (h : PW X e t) (i : ∀ σ H Q, t' σ H Q → t σ H Q) : PW X e t' := ⟨fun w pins s σ H Q I q => h.run w pins s σ H Q I (i _ _ _ q)⟩
theorem Zj3 {X : Cx} {es : List Expr} {t t' : TA} (h : PA X es t) (i : ∀ σ H Q, t' σ H Q → t σ H Q) : PA X es t' := ⟨fun p pins s σ H Q I q => h.run p pins s σ H Q I (i _ _ _ q)⟩
theorem Jq {X : Cx} {st : Stmt} {t t' : TS} (h : PS X st t) (i : ∀ D σ H, t' D σ H → t D σ H) : PS X st t' := ⟨fun pins s σ H D I q => h.run pins s σ H D I (i _ _ _ q)⟩
theorem Zfg {X : Cx} {st : List Stmt} {t t' : TS} (h : PSs X st t) (i : ∀ D σ H, t' D σ H → t D σ H) : PSs X st t' := ⟨fun pins s σ H D I q => h.run pins s σ H D I (i _ _ _ q)⟩
def eVar (i : Nat) : FE := fun ρ Z => match ρ[i]? with
  | some (some t) => .ok t Z
  | _ => .stuck
def eC (t : T) : FE := fun _ Z => .ok t Z
def eBin (g : T → T → Sto → Option (T × Sto)) (a b : FE) : FE := fun ρ Z => (a ρ Z).bind fun x Z1 => (b ρ Z1).bind fun y Z2 => lift (g x y Z2)
def eUn (g : T → Sto → Option (T × Sto)) (a : FE) : FE := fun ρ Z => (a ρ Z).bind fun x Z1 => lift (g x Z1)
def eIf (c : FT) (a b : FE) : FE := fun ρ Z => (c ρ Z).bind fun x Z1 => if x = true then a ρ Z1 else b ρ Z1
def aNil : FA := fun _ Z => .ok [] Z
def aCons (a : FE) (r : FA) : FA := fun ρ Z => (a ρ Z).bind fun x Z1 => (r ρ Z1).bind fun xs Z2 => .ok (x :: xs) Z2
section
variable {X : Cx} {K : PySem.W.Frag} {W : Wc} {a b c : Expr} {fa fb fc : FE} {pos : Pos}
theorem Za {i : Nat} {x : PySem.Str} (h : PE X (.Name x pos) (tVar i)) : FJ X K W (.Name x pos) (eVar i) := Vz h fun σ H Q q => by
  obtain ⟨ι,ρ,Z,is,p⟩ := q
  unfold eVar at p
  split at p
  · rename_i t e
    obtain ⟨v,h1,h2⟩ := is.env i t e
    exact ⟨v,h1,p ι H v Gr.refl is.sim h2⟩
  · exact p.elim
theorem f_c {v : V} {t : T} (h : PE X a (tC v)) (r : ∀ ι H,Rep K ι H v t) : FJ X K W a (eC t) := Vz h fun σ H Q q => by
  obtain ⟨ι,ρ,Z,is,p⟩ := q
  exact p ι H v Gr.refl is.sim (r ι H)
theorem f_int {i j} : FJ X K W (.Constant (.int i) j pos) (eC (.int i)) := f_c pe_int fun _ _ => .int i
theorem f_bl {i j} : FJ X K W (.Constant (.bool i) j pos) (eC (.bl i)) := f_c pe_bl fun _ _ => .bl i
theorem Qq {j} : FJ X K W (.Constant .none j pos) (eC .non) := f_c pe_non fun _ _ => .non
theorem Zh {x j} (l : List Nat) (e : x = S l := by rfl) : FJ X K W (.Constant (.str x) j pos) (eC (.str l)) := f_c pe_str fun _ _ => by rw [e]; exact .str l
def rF2 (K : PySem.W.Frag) (g : T → T → Sto → Option (T × Sto)) : R2 := fun x y H Q => ∃ ι Z tx ty,Sim K ι Z H ∧ Rep K ι H x tx ∧ Rep K ι H y ty ∧ PostO (Rep K) K ι H Q (g tx ty Z)
def rFC (K : PySem.W.Frag) (g : List T → Sto → Option (T × Sto)) : List V → Hp → VK → Prop := fun xs H Q => ∃ ι Z ts,Sim K ι Z H ∧ Reps K ι H xs ts ∧ PostO (Rep K) K ι H Q (g ts Z)
theorem Zhs {r : R2} {g : T → T → Sto → Option (T × Sto)} (hr : ∀ x y H Q,rF2 K g x y H Q → r x y H Q) {σ : L2.St} {H : Hp} {Q : VK} (h : tF K W (eBin g fa fb) σ H Q) : tOp r (tF K W fa) (tF K W fb) σ H Q := by
  obtain ⟨ι,ρ,Z,is,p⟩ := h
  refine ⟨ι,ρ,Z,is,(Zo p).imp fun x H1 q => ?_⟩
  obtain ⟨ι1,Z1,tx,g1,s1,r1,p1⟩ := q
  refine ⟨ι1,ρ,Z1,is.gr g1 s1,(Zo p1).imp fun y H2 q2 => ?_⟩
  obtain ⟨ι2,Z2,ty,g2,s2,r2,p2⟩ := q2
  exact hr _ _ _ _ ⟨ι2,Z2,tx,ty,s2,r1.gr g2,r2,U6 p2⟩
def OpF (X : Cx) (K : PySem.W.Frag) (f : Value → Value → Sem Value) (g : T → T → Sto → Option (T × Sto)) : Prop := OpR X f (rF2 K g)
theorem Xz {f : Value → Value → Sem Value} {r r' : R2} (h : OpR X f r) (i : ∀ x y H Q, r' x y H Q → r x y H Q) : OpR X f r' := fun pins s σ H x y v u Q I rx ry q => h pins s σ H x y v u Q I rx ry (i _ _ _ _ q)
theorem Qg {f : Value} {r r' : List V → Hp → VK → Prop} (h : CallR X f r) (i : ∀ xs H Q, r' xs H Q → r xs H Q) : CallR X f r' := fun pins s σ H xs us Q I rs q => h pins s σ H xs us Q I rs (i _ _ _ q)
theorem Qh {f : Value → Value → Sem Value} {r r' : R2} (h : OpR X f r) (h' : OpR X f r') : OpR X f (rOr r r') := fun pins s σ H x y v u Q I rx ry q => q.elim (h pins s σ H x y v u Q I rx ry) (h' pins s σ H x y v u Q I rx ry)
theorem f_op {op : Operator} {g : T → T → Sto → Option (T × Sto)} (ho : OpF X K (binaryOp op) g) (ha : FJ X K W a fa) (hb : FJ X K W b fb) : FJ X K W (.BinOp a op b pos) (eBin g fa fb) :=
  Vz (pe_op ho ha hb) fun _ _ _ h => Zhs (fun _ _ _ _ h => h) h
theorem Um {op : CmpOp} {g : T → T → Sto → Option (T × Sto)} (ho : OpF X K (compareOp op) g) (ha : FJ X K W a fa) (hb : FJ X K W b fb) (hm : behindInMarks op b = false) : FJ X K W (.Compare a [op] [b] pos) (eBin g fa fb) :=
  Vz (pe_cmpR ho ha hb hm) fun _ _ _ h => Zhs (fun _ _ _ _ h => h) h
theorem f_ix {g : T → T → Sto → Option (T × Sto)} (hr : IxR X (rF2 K g)) (ha : FJ X K W a fa) (hb : FJ X K W b fb) (hs : PlainIx b) : FJ X K W (.Subscript a b pos) (eBin g fa fb) :=
  Vz (pe_ix hr ha hb hs) fun _ _ _ h => Zhs (fun _ _ _ _ h => h) h
theorem f_if {t : FT} (hc : FTJ X K W c t) (ha : FJ X K W a fa) (hb : FJ X K W b fb) : FJ X K W (.IfExp c a b pos) (eIf t fa fb) := Vz (pe_ifExp hc ha hb) fun σ H Q h => by
  obtain ⟨ι,ρ,Z,is,p⟩ := h
  refine ⟨ι,ρ,Z,is,(Zo p).imp fun x H1 q => ?_⟩
  obtain ⟨ι1,Z1,tx,g1,s1,r1,p1⟩ := q
  cases (show x = tx from r1)
  cases x with
  | true => exact ⟨ι1,ρ,Z1,is.gr g1 s1,p1⟩
  | false => exact ⟨ι1,ρ,Z1,is.gr g1 s1,p1⟩
theorem Zf : FAJ X K W [] aNil := Zj3 pa_nil fun σ H Q h => by
  obtain ⟨ι,ρ,Z,is,p⟩ := h
  exact p ι H [] Gr.refl is.sim .nil
theorem Z9 {es : List Expr} {fr : FA} (ha : FJ X K W a fa) (hr : FAJ X K W es fr) (hs : starEach (a :: es) X.env = (false,eval a X.env) :: starEach es X.env := by rfl) : FAJ X K W (a :: es) (aCons fa fr) := Zj3 (pa_cons ha hr hs) fun σ H Q h => by
  obtain ⟨ι,ρ,Z,is,p⟩ := h
  refine ⟨ι,ρ,Z,is,(Zo p).imp fun x H1 q => ?_⟩
  obtain ⟨ι1,Z1,tx,g1,s1,r1,p1⟩ := q
  refine ⟨ι1,ρ,Z1,is.gr g1 s1,(Zo p1).imp fun y H2 q2 => ?_⟩
  obtain ⟨ι2,Z2,ty,g2,s2,r2,p2⟩ := q2
  exact p2 ι2 H2 _ Gr.refl s2 (.cons (r1.gr g2) r2)
end
def Lim : Nat := 1000000
theorem Zbv : Lim ≤ sizeLine := by decide
@[irreducible] def Fuel : Nat := Lim + 2
theorem Z4c : Fuel = Lim + 2 := by unfold Fuel; rfl
theorem Z2b {n : Nat} (h : n ≤ Lim) : n ≤ sizeLine := Nat.le_trans h Zbv
def asList : T → Sto → Option (List T)
  | .loc i,Z => match Z[i]? with
    | some (.lst ts) => some ts
    | _ => none
  | .frl ts,_ => some ts
  | _,_ => none
theorem Ji {K : PySem.W.Frag} {ι : List Addr} {H : Hp} {Z : Sto} {v : V} {t : T} {ts : List T} (s : Sim K ι Z H) (r : Rep K ι H v t) (e : asList t Z = some ts) : ∃ a vs,v = .ref a ∧ SqL K H a vs ∧ Reps K ι H vs ts := by
  cases r with
  | loc h =>
    simp only [asList] at e
    split at e
    · rename_i ts' hz
      obtain ⟨a', h1, h2⟩ := s.at hz
      rw [h] at h1
      cases h1
      cases e
      obtain ⟨vs,h3,h4⟩ := h2
      exact ⟨_,vs,rfl,SqL.of h3,h4⟩
    · cases e
  | frl h r => cases e; exact ⟨_,_,rfl,h.sq,r⟩
  | _ => cases e
def truth : T → Sto → Option Bool
  | .bl b,_ => some b
  | .int i,_ => some (i != 0)
  | .non,_ => some false
  | .str l,_ => if l.length ≤ Lim then some (!l.isEmpty) else none
  | .tup ts,_ => some (!ts.isEmpty)
  | .loc i,Z => match Z[i]? with
    | some (.lst ts) => some (!ts.isEmpty)
    | some (.dk ts) => some (!ts.isEmpty)
    | _ => none
  | .frl ts,_ => some (!ts.isEmpty)
  | _,_ => none
theorem Z18 {α β : Type} {a : List α} {b : List β} (h : a.length = b.length) : a.isEmpty = b.isEmpty := by
  cases a <;> cases b <;> first | rfl | (simp at h)
theorem Z33 {K : PySem.W.Frag} {ι : List Addr} {H : Hp} {Z : Sto} {v : V} {t : T} {k : Bool} (s : Sim K ι Z H) (r : Rep K ι H v t) (e : truth t Z = some k) : TruV K v H k := by
  cases r with
  | non => cases e; rfl
  | bl b => cases e; rfl
  | int i => cases e; rfl
  | str l =>
    simp only [truth] at e
    split at e
    · rename_i h
      cases e
      refine ⟨by rw [S_len]; exact Z2b h,?_⟩
      rw [S_len]
      cases l with
      | nil => rfl
      | cons c l => simp; omega
    · cases e
  | tup h r => cases e; exact .inr (.inl ⟨_,h,by rw [Z18 r.length]⟩)
  | loc h =>
    simp only [truth] at e
    split at e
    · rename_i ts' hz
      obtain ⟨a', h1, h2⟩ := s.at hz
      rw [h] at h1
      cases h1
      cases e
      obtain ⟨vs,h3,h4⟩ := h2
      exact .inl ⟨vs,SqL.of h3,by rw [Z18 h4.length]⟩
    · rename_i ts' hz
      obtain ⟨a', h1, h2⟩ := s.at hz
      rw [h] at h1
      cases h1
      cases e
      obtain ⟨vs,h3,h4⟩ := h2
      exact .inr (.inr ⟨vs,h3,by rw [Z18 h4.length]⟩)
    · cases e
  | frl h r => cases e; exact .inl ⟨_,h.sq,by rw [Z18 r.length]⟩
  | ref a => cases e
  | ty n => cases e
  | lam h j => cases e
  | ktp h r => cases e
def eTru (f : FE) : FT := fun ρ Z => (f ρ Z).bind fun x Z1 => match truth x Z1 with
  | some b => .ok b Z1
  | none => .stuck
def tAnd (a b : FT) : FT := fun ρ Z => (a ρ Z).bind fun x Z1 => if x = true then b ρ Z1 else .ok false Z1
def tOr (a b : FT) : FT := fun ρ Z => (a ρ Z).bind fun x Z1 => if x = true then .ok true Z1 else b ρ Z1
def tNot (a : FT) : FT := fun ρ Z => (a ρ Z).bind fun x Z1 => .ok (!x) Z1
def eAnd (a b : FE) : FE := fun ρ Z => (a ρ Z).bind fun x Z1 => match truth x Z1 with
  | some true => b ρ Z1
  | some false => .ok x Z1
  | none => .stuck
def eOr (a b : FE) : FE := fun ρ Z => (a ρ Z).bind fun x Z1 => match truth x Z1 with
  | some true => .ok x Z1
  | some false => b ρ Z1
  | none => .stuck
def eNot (a : FE) : FE := fun ρ Z => (a ρ Z).bind fun x Z1 => match truth x Z1 with
  | some b => .ok (.bl (!b)) Z1
  | none => .stuck
section
variable {X : Cx} {K : PySem.W.Frag} {W : Wc} {a b c : Expr} {fa fb fc : FE} {ta tb : FT} {pos : Pos} {rest : List Expr}
theorem Ys (hK : X.K = K) (ha : FJ X K W a fa) (he : ∀ whole,isTrue a X.env whole = (do let v ← whole; standAt a.pos; holding [v] (truthy v)) := by intro _; rfl) : FTJ X K W a (eTru fa) := by
  subst hK
  refine Z9q (pt_truth ha he) fun σ H Q h => ?_
  obtain ⟨ι,ρ,Z,is,p⟩ := h
  refine ⟨ι,ρ,Z,is,(Zo p).imp fun x H1 q => ?_⟩
  obtain ⟨ι1,Z1,tx,g1,s1,r1,p1⟩ := q
  split at p1
  · rename_i k e
    exact ⟨k,Z33 s1 r1 e,p1 ι1 H1 k Gr.refl s1 rfl⟩
  · exact p1.elim
def eBl (f : FE) : FT := fun ρ Z => (f ρ Z).bind fun x Z1 => match x with
  | .bl b => .ok b Z1
  | _ => .stuck
theorem Zk {op : CmpOp} {g : T → T → Sto → Option (T × Sto)} (ho : OpF X K (compareOp op) g) (ha : FJ X K W a fa) (hb : FJ X K W b fb) (hm : behindInMarks op b = false) : FTJ X K W (.Compare a [op] [b] pos) (eBl (eBin g fa fb)) := by
  refine Z9q (pt_cmpR ho ha hb hm) fun σ H Q h => ?_
  obtain ⟨ι,ρ,Z,is,p⟩ := h
  refine Zhs (fun _ _ _ _ h => h) ⟨ι,ρ,Z,is,(Zo p).imp fun x H1 q => ?_⟩
  obtain ⟨ι1,Z1,tx,g1,s1,r1,p1⟩ := q
  cases r1 with
  | bl b => exact ⟨b,rfl,p1 ι1 H1 b Gr.refl s1 rfl⟩
  | _ => exact p1.elim
theorem W8 (ha : FTJ X K W a ta) : FWJ X K W (.BoolOp .And [a] pos) ta := pw_and1 ha
theorem Qi (ha : FTJ X K W a ta) : FWJ X K W (.BoolOp .Or [a] pos) ta := pw_or1 ha
theorem Vm (ha : FTJ X K W a ta) (hb : FWJ X K W (.BoolOp .And (b :: rest) pos) tb) : FWJ X K W (.BoolOp .And (a :: b :: rest) pos) (tAnd ta tb) := Zj2 (pw_and ha hb) fun σ H Q h => by
  obtain ⟨ι,ρ,Z,is,p⟩ := h
  refine ⟨ι,ρ,Z,is,(Zo p).imp fun x H1 q => ?_⟩
  obtain ⟨ι1,Z1,tx,g1,s1,r1,p1⟩ := q
  cases (show x = tx from r1)
  cases x with
  | true => exact ⟨ι1,ρ,Z1,is.gr g1 s1,p1⟩
  | false => exact p1 ι1 H1 _ Gr.refl s1 rfl
theorem Z2c (ha : FTJ X K W a ta) (hb : FWJ X K W (.BoolOp .Or (b :: rest) pos) tb) : FWJ X K W (.BoolOp .Or (a :: b :: rest) pos) (tOr ta tb) := Zj2 (pw_or ha hb) fun σ H Q h => by
  obtain ⟨ι,ρ,Z,is,p⟩ := h
  refine ⟨ι,ρ,Z,is,(Zo p).imp fun x H1 q => ?_⟩
  obtain ⟨ι1,Z1,tx,g1,s1,r1,p1⟩ := q
  cases (show x = tx from r1)
  cases x with
  | true => exact p1 ι1 H1 _ Gr.refl s1 rfl
  | false => exact ⟨ι1,ρ,Z1,is.gr g1 s1,p1⟩
theorem Vg (ha : FTJ X K W a ta) : FTJ X K W (.UnaryOp .Not a pos) (tNot ta) := Z9q (pt_not ha) fun σ H Q h => by
  obtain ⟨ι,ρ,Z,is,p⟩ := h
  refine ⟨ι,ρ,Z,is,(Zo p).imp fun x H1 q => ?_⟩
  obtain ⟨ι1,Z1,tx,g1,s1,r1,p1⟩ := q
  cases (show x = tx from r1)
  exact p1 ι1 H1 _ Gr.refl s1 rfl
theorem Z26 {op} (h : FJ X K W a fa) : FJ X K W (.BoolOp op [a] pos) fa := pe_one h
theorem Z4d (hK : X.K = K) (ha : FJ X K W a fa) (hb : FJ X K W (.BoolOp .And (b :: rest) pos) fb) : FJ X K W (.BoolOp .And (a :: b :: rest) pos) (eAnd fa fb) := by
  subst hK
  refine Vz (pe_andT ha hb) fun σ H Q h => ?_
  obtain ⟨ι,ρ,Z,is,p⟩ := h
  refine ⟨ι,ρ,Z,is,(Zo p).imp fun x H1 q => ?_⟩
  obtain ⟨ι1,Z1,tx,g1,s1,r1,p1⟩ := q
  split at p1
  · rename_i e; exact ⟨true,Z33 s1 r1 e,ι1,ρ,Z1,is.gr g1 s1,p1⟩
  · rename_i e; exact ⟨false,Z33 s1 r1 e,p1 ι1 H1 _ Gr.refl s1 r1⟩
  · exact p1.elim
theorem f_or (hK : X.K = K) (ha : FJ X K W a fa) (hb : FJ X K W (.BoolOp .Or (b :: rest) pos) fb) : FJ X K W (.BoolOp .Or (a :: b :: rest) pos) (eOr fa fb) := by
  subst hK
  refine Vz (pe_orT ha hb) fun σ H Q h => ?_
  obtain ⟨ι,ρ,Z,is,p⟩ := h
  refine ⟨ι,ρ,Z,is,(Zo p).imp fun x H1 q => ?_⟩
  obtain ⟨ι1,Z1,tx,g1,s1,r1,p1⟩ := q
  split at p1
  · rename_i e; exact ⟨true,Z33 s1 r1 e,p1 ι1 H1 _ Gr.refl s1 r1⟩
  · rename_i e; exact ⟨false,Z33 s1 r1 e,ι1,ρ,Z1,is.gr g1 s1,p1⟩
  · exact p1.elim
theorem Zfh (hK : X.K = K) (ha : FJ X K W a fa) : FJ X K W (.UnaryOp .Not a pos) (eNot fa) := by
  subst hK
  refine Vz (pe_notT ha) fun σ H Q h => ?_
  obtain ⟨ι,ρ,Z,is,p⟩ := h
  refine ⟨ι,ρ,Z,is,(Zo p).imp fun x H1 q => ?_⟩
  obtain ⟨ι1,Z1,tx,g1,s1,r1,p1⟩ := q
  split at p1
  · rename_i k e; exact ⟨k,Z33 s1 r1 e,p1 ι1 H1 _ Gr.refl s1 (.bl _)⟩
  · exact p1.elim
end
end Fx
set_option maxHeartbeats 4000000
namespace Fx
open PySem PySem.Spec PyProof.Rows L2 SX Ap
variable [Tb]
section
variable {K : PySem.W.Frag} {ι : List Addr} {H : Hp} {Q : VK} {Z : Sto} {t : T} {ts : List T} {v : V} {vs : List V}
theorem Y8 (p : PostO (Rep K) K ι H Q (some (t,Z))) (s : Sim K ι Z H) (r : Rep K ι H v t) : Q v H := p ι H v Gr.refl s r
theorem Sim.newL (s : Sim K ι Z H) (r : Reps K ι H vs ts) {p : Addr} (n : H p = none) : Sim K (ι ++ [p]) (Z ++ [.lst ts]) (upd H p (.lst vs)) := s.new n ⟨vs,upd_same,r.gr (Gr.new n)⟩
theorem Zdm (s : Sim K ι Z H) {p : Addr} {H' : Hp} : Rep K (ι ++ [p]) H' (.ref p) (.loc Z.length) := .loc (by rw [← s.len]; simp)
theorem Zac (q : PostO (Rep K) K ι H Q (some (.loc Z.length,Z ++ [.lst ts]))) (s : Sim K ι Z H) (r : Reps K ι H vs ts) : ∀ p,H p = none → Q (.ref p) (upd H p (.lst vs)) := fun p n =>
  q (ι ++ [p]) _ _ (Gr.new n) (s.newL r n) (Zdm s)
theorem Zfi (q : PostO (Rep K) K ι H Q (some (.tup ts,Z))) (s : Sim K ι Z H) (r : Reps K ι H vs ts) : ∀ p,H p = none → Q (.ref p) (upd H p (.tup vs)) := fun p n =>
  q ι _ _ (Gr.new0 n) (s.same (Z00 n)) (.tup (SqT.of upd_same) (r.gr (Gr.new0 n)))
theorem Rep.tupE (r : Rep K ι H v (.tup ts)) : ∃ a vs,v = .ref a ∧ SqT K H a vs ∧ Reps K ι H vs ts := by
  cases r with
  | tup h r => exact ⟨_,_,rfl,h,r⟩
theorem Jr {i : Nat} {ts : List T} (s : Sim K ι Z H) (e : Z[i]? = some (.lst ts)) (r : Rep K ι H v (.loc i)) : ∃ a vs,v = .ref a ∧ ι[i]? = some a ∧ H a = some (.lst vs) ∧ Reps K ι H vs ts := by
  cases r with
  | loc h =>
    obtain ⟨a,h1,vs,h2,h3⟩ := s.at e
    rw [h] at h1; cases h1
    exact ⟨_,vs,rfl,h,h2,h3⟩
end
def getL (Z : Sto) (i : Nat) : Option (List T) := match Z[i]? with
  | some (.lst ts) => some ts
  | _ => none
theorem Vh {Z : Sto} {i : Nat} {ts : List T} (h : getL Z i = some ts) : Z[i]? = some (.lst ts) := by
  unfold getL at h
  split at h
  · rename_i ts' e; cases h; exact e
  · cases h
def gAdd : T → T → Sto → Option (T × Sto)
  | .int i,.int j,Z => some (.int (i + j),Z)
  | .str a,.str b,Z => if a.length + b.length ≤ Lim then some (.str (a ++ b),Z) else none
  | .tup a,.tup b,Z => if a.length + b.length ≤ Lim then some (.tup (a ++ b),Z) else none
  | .loc i,.loc j,Z => match getL Z i,getL Z j with
    | some a,some b => if a.length + b.length ≤ Lim then some (.loc Z.length,Z ++ [.lst (a ++ b)]) else none
    | _,_ => none
  | _,_,_ => none
def gSub : T → T → Sto → Option (T × Sto)
  | .int i,.int j,Z => some (.int (i - j),Z)
  | _,_,_ => none
def mulOk (i j : Int) : Bool := (decide (-(2 ^ 64) < i) && decide (i < 2 ^ 64)) || (decide (-(2 ^ 64) < j) && decide (j < 2 ^ 64))
def gMul : T → T → Sto → Option (T × Sto)
  | .int i,.int j,Z => if mulOk i j = true then some (.int (i * j),Z) else none
  | .str l,.int k,Z => if -100000 ≤ k ∧ k ≤ 100000 ∧ l.length * k.toNat ≤ 100000 then some (.str (repL k.toNat l),Z) else none
  | .loc i,.int k,Z => match getL Z i with
    | some a => if -100000 ≤ k ∧ k ≤ 100000 ∧ a.length * k.toNat ≤ Lim then some (.loc Z.length,Z ++ [.lst (List.replicate k.toNat a).flatten]) else none
    | _ => none
  | _,_,_ => none
def gDiv : T → T → Sto → Option (T × Sto)
  | .int i,.int j,Z => if 0 < j ∧ j < 2 ^ 200 then some (.int (i / j),Z) else none
  | _,_,_ => none
def gMod : T → T → Sto → Option (T × Sto)
  | .int i,.int j,Z => if 0 < j then some (.int (i % j),Z) else none
  | _,_,_ => none
def gPow : T → T → Sto → Option (T × Sto)
  | .int i,.int j,Z => if 0 ≤ j ∧ j ≤ 1000000 ∧ i.natAbs < 2 ^ 64 then some (.int (i ^ j.toNat),Z) else none
  | _,_,_ => none
theorem Reps.replicate {K : PySem.W.Frag} {ι : List Addr} {H : Hp} {vs : List V} {ts : List T} (r : Reps K ι H vs ts) : ∀ n : Nat,Reps K ι H (List.replicate n vs).flatten (List.replicate n ts).flatten
  | 0 => .nil
  | n + 1 => by
    rw [List.replicate_succ,List.replicate_succ,List.flatten_cons,List.flatten_cons]
    exact r.append (r.replicate n)
theorem Zlb (a b : List Nat) : S a ++ S b = S (a ++ b) := by
  show (⟨a.toArray ++ b.toArray⟩ : PySem.Str) = ⟨(a ++ b).toArray⟩
  simp
section
variable {X : Cx} {K : PySem.W.Frag}
theorem Z4x : OpF X K (binaryOp .Sub) gSub := Xz op_sub fun x y H Q h => by
  obtain ⟨ι,Z,tx,ty,s,rx,ry,p⟩ := h
  unfold gSub at p
  split at p
  · cases rx; cases ry; exact ⟨_,_,rfl,rfl,Y8 p s (.int _)⟩
  · exact p.elim
theorem Zen : OpF X K (binaryOp .Mod) gMod := Xz op_mod fun x y H Q h => by
  obtain ⟨ι,Z,tx,ty,s,rx,ry,p⟩ := h
  unfold gMod at p
  split at p
  · split at p
    · cases rx; cases ry; exact ⟨_,_,rfl,rfl,by assumption,Y8 p s (.int _)⟩
    · exact p.elim
  · exact p.elim
theorem Zht : OpF X K (binaryOp .FloorDiv) gDiv := Xz op_fdivW fun x y H Q h => by
  obtain ⟨ι,Z,tx,ty,s,rx,ry,p⟩ := h
  unfold gDiv at p
  split at p
  · split at p
    · rename_i hj
      cases rx; cases ry; exact ⟨_,_,rfl,rfl,wide_div (b := 200) hj.1 (by have := hj.1; have := hj.2; omega) (by decide) (by decide),Y8 p s (.int _)⟩
    · exact p.elim
  · exact p.elim
theorem o_pow : OpF X K (binaryOp .Pow) gPow := Xz op_pow fun x y H Q h => by
  obtain ⟨ι,Z,tx,ty,s,rx,ry,p⟩ := h
  unfold gPow at p
  split at p
  · split at p
    · cases rx; cases ry; exact ⟨_,_,rfl,rfl,by assumption,Y8 p s (.int _)⟩
    · exact p.elim
  · exact p.elim
theorem Y7 (hK : X.K = K) : OpF X K (binaryOp .Add) gAdd := by
  subst hK
  refine Xz (Qh (Qh op_add op_add_str) (Qh op_catA op_cat)) fun x y H Q h => ?_
  obtain ⟨ι,Z,tx,ty,s,rx,ry,p⟩ := h
  unfold gAdd at p
  split at p
  · cases rx; cases ry; exact .inl (.inl ⟨_,_,rfl,rfl,Y8 p s (.int _)⟩)
  · split at p
    · rename_i hz
      cases rx; cases ry
      exact .inl (.inr ⟨_,_,rfl,rfl,by rw [S_len,S_len]; exact Z2b hz,by rw [Zlb]; exact Y8 p s (.str _)⟩)
    · exact p.elim
  · split at p
    · rename_i hz
      obtain ⟨a,xs,rfl,ha,ra⟩ := rx.tupE
      obtain ⟨b,ys,rfl,hb,rb⟩ := ry.tupE
      refine .inr (.inl ⟨a,b,xs,ys,rfl,rfl,ha,hb,by rw [ra.length,rb.length]; exact Z2b hz,fun e => ?_,fun _ e => ?_,fun _ _ => Zfi p s (ra.append rb)⟩)
      · subst e; cases ra; exact Y8 p s (by rw [List.nil_append]; exact ry)
      · subst e; cases rb; exact Y8 p s (by rw [List.append_nil]; exact rx)
    · exact p.elim
  · split at p
    · rename_i a b e1 e2
      split at p
      · rename_i hz
        obtain ⟨x,xs,rfl,_,hx,r1⟩ := Jr s (Vh e1) rx
        obtain ⟨y,ys,rfl,_,hy,r2⟩ := Jr s (Vh e2) ry
        exact .inr (.inr ⟨x,y,xs,ys,rfl,rfl,hx,hy,by rw [r1.length,r2.length]; exact Z2b hz,Zac p s (r1.append r2)⟩)
      · exact p.elim
    · exact p.elim
  · exact p.elim
theorem Zjs {i j : Int} (h : mulOk i j = true) : CMul i j := by
  unfold mulOk at h
  rw [Bool.or_eq_true,Bool.and_eq_true,Bool.and_eq_true] at h
  rcases h with ⟨a,b⟩ | ⟨a,b⟩
  · exact .inl ⟨of_decide_eq_true a,of_decide_eq_true b⟩
  · exact .inr ⟨of_decide_eq_true a,of_decide_eq_true b⟩
theorem Jt : OpF X K (binaryOp .Mult) gMul := by
  refine Xz (Qh op_mul (Qh Zel op_rep)) fun x y H Q h => ?_
  obtain ⟨ι,Z,tx,ty,s,rx,ry,p⟩ := h
  unfold gMul at p
  split at p
  · split at p
    · rename_i hc
      cases rx; cases ry; exact .inl ⟨_,_,rfl,rfl,Zjs hc,Y8 p s (.int _)⟩
    · exact p.elim
  · split at p
    · rename_i hz
      cases rx; cases ry
      exact .inr (.inl ⟨_,_,rfl,rfl,hz.1,hz.2.1,hz.2.2,Y8 p s (.str _)⟩)
    · exact p.elim
  · split at p
    · rename_i a e1
      split at p
      · rename_i hz
        obtain ⟨x,xs,rfl,_,hx,r1⟩ := Jr s (Vh e1) rx
        cases ry
        refine .inr (.inr ⟨x,_,xs,rfl,rfl,hx,by omega,by omega,by rw [r1.length]; exact Z2b hz.2.2,Zac p s (r1.replicate _)⟩)
      · exact p.elim
    · exact p.elim
  · exact p.elim
end
def eqS : T → T → Option Bool
  | .non,.non => some true | .non,.int _ => some false | .int _,.non => some false | .non,.bl _ => some false | .bl _,.non => some false | .non,.str _ => some false | .str _,.non => some false
  | .int a,.int b => some (decide (a = b)) | .bl a,.bl b => some (decide (a = b)) | .str a,.str b => some (decide (a = b))
  | .int _,.str _ => some false | .str _,.int _ => some false | .bl _,.str _ => some false | .str _,.bl _ => some false
  | _,_ => none
def toD : Nat → Sto → T → Option PyData
  | _,_,.non => some .none
  | _,_,.bl b => some (.bool b)
  | _,_,.int i => some (.int i)
  | _,_,.str l => some (.str (S l))
  | 0,_,_ => none
  | n + 1,Z,.tup ts => (ts.mapM (toD n Z)).map .tuple
  | n + 1,Z,.frl ts => (ts.mapM (toD n Z)).map .list
  | n + 1,Z,.loc i => (getL Z i).bind fun ts => (ts.mapM (toD n Z)).map .list
  | _ + 1,_,_ => none
theorem Z19 {α β : Type} {f : α → Option β} : ∀ {l : List α} {m : List β},l.mapM f = some m → Paired (fun a b => f a = some b) l m
  | [],m,h => by
    have : m = [] := by simpa using h.symm
    subst this; exact .nil
  | a :: l,m,h => by
    rw [List.mapM_cons] at h
    cases h1 : f a with
    | none => rw [h1] at h; cases h
    | some b =>
      rw [h1] at h
      cases h2 : l.mapM f with
      | none => rw [h2] at h; cases h
      | some m' =>
        rw [h2] at h
        have : m = b :: m' := (Option.some.inj h).symm
        subst this
        exact .cons h1 (Z19 h2)
section
variable {K : PySem.W.Frag} {ι : List Addr} {H : Hp} {Z : Sto}
theorem Zfj (s : Sim K ι Z H) : ∀ (n : Nat) {v : V} {t : T} {d : PyData},Rep K ι H v t → toD n Z t = some d → Dp K H v d
  | n,v,t,d,r,e => by
    have all : ∀ m,n = m + 1 → ∀ {vs : List V} {ts : List T} {ds : List PyData},Reps K ι H vs ts → Paired (fun a b => toD m Z a = some b) ts ds → DpAll K H vs ds := by
      intro m hm vs ts ds r p
      induction p generalizing vs with
      | nil => cases r; exact .nil
      | cons h _ ih =>
        cases r with
        | cons r1 r2 => exact .cons (Zfj s m r1 h) (ih r2)
    cases r with
    | non => simp only [toD,Option.some.injEq] at e; subst e; exact .non
    | bl b => simp only [toD,Option.some.injEq] at e; subst e; exact .bl b
    | int i => simp only [toD,Option.some.injEq] at e; subst e; exact .int i
    | str l => simp only [toD,Option.some.injEq] at e; subst e; exact .str _
    | tup h r =>
      cases n with
      | zero => simp [toD] at e
      | succ n =>
        simp only [toD] at e
        obtain ⟨ds,h1,rfl⟩ := Option.map_eq_some_iff.mp e
        exact .tup h (all n rfl r (Z19 h1))
    | frl h r =>
      cases n with
      | zero => simp [toD] at e
      | succ n =>
        simp only [toD] at e
        obtain ⟨ds,h1,rfl⟩ := Option.map_eq_some_iff.mp e
        exact .lst h.sq (all n rfl r (Z19 h1))
    | loc h =>
      cases n with
      | zero => simp [toD] at e
      | succ n =>
        simp only [toD] at e
        obtain ⟨ts,h0,e⟩ := Option.bind_eq_some_iff.mp e
        obtain ⟨ds,h1,rfl⟩ := Option.map_eq_some_iff.mp e
        obtain ⟨a,vs,hv,_,h2,r⟩ := Jr s (Vh h0) (.loc h)
        cases hv
        exact .lst (SqL.of h2) (all n rfl r (Z19 h1))
    | ref a => cases n <;> simp [toD] at e
    | ty n' => cases n <;> simp [toD] at e
    | lam h j => cases n <;> simp [toD] at e
    | ktp h r => cases n <;> simp [toD] at e
  termination_by n => n
end
def gEqD (x y : T) (Z : Sto) : Option Bool := match toD 16 Z x,toD 16 Z y with
  | some d,some e => if SeqAt.shaped d = true ∧ SeqAt.shaped e = true then some (PyData.eqv d e) else none
  | _,_ => none
def gEqB (x y : T) (Z : Sto) : Option Bool := match eqS x y with
  | some b => some b
  | none => gEqD x y Z
def gEq (x y : T) (Z : Sto) : Option (T × Sto) := (gEqB x y Z).map fun b => (.bl b,Z)
def gNe (x y : T) (Z : Sto) : Option (T × Sto) := (gEqB x y Z).map fun b => (.bl (!b),Z)
section
variable {X : Cx} {K : PySem.W.Frag} {ι : List Addr} {H : Hp}
theorem Zl7 {a b : List Nat} : decide (V.str (S a) = V.str (S b)) = decide (a = b) := by
  by_cases h : a = b
  · rw [h]; simp
  · rw [decide_eq_false h,decide_eq_false]
    intro e
    exact h (S_inj (V.str.inj e))
theorem Zj4 {x y : V} {tx ty : T} {b : Bool} (rx : Rep K ι H x tx) (ry : Rep K ι H y ty) (e : eqS tx ty = some b) : scal x y = true ∧ decide (x = y) = b := by
  cases rx <;> cases ry <;> simp only [eqS,Option.some.injEq] at e <;> first | (subst e; refine ⟨rfl,?_⟩; first | exact Zl7 | simp) | (cases e)
theorem Zj5 {x y : V} {tx ty : T} {Z : Sto} {b : Bool} (s : Sim K ι Z H) (rx : Rep K ι H x tx) (ry : Rep K ι H y ty) (e : gEqD tx ty Z = some b) : ∃ d e', Dp K H x d ∧ Dp K H y e' ∧ SeqAt.shaped d = true ∧ SeqAt.shaped e' = true ∧ PyData.eqv d e' = b := by
  unfold gEqD at e
  split at e
  · rename_i d d' h1 h2
    split at e
    · rename_i h
      cases e
      exact ⟨d, d', Zfj s 16 rx h1, Zfj s 16 ry h2, h.1, h.2, rfl⟩
    · cases e
  · cases e
theorem o_eq (hu : X.A.units + 64 < cLine) (hK : X.K = K) : OpF X K (compareOp .Eq) gEq := by
  subst hK
  refine Xz (Qh op_eq (op_eqD hu)) fun x y H Q h => ?_
  obtain ⟨ι,Z,tx,ty,s,rx,ry,p⟩ := h
  cases e : gEqB tx ty Z with
  | none => simp only [gEq,e] at p; exact p.elim
  | some b =>
    simp only [gEq,e,Option.map_some] at p
    unfold gEqB at e
    split at e
    · rename_i b' e'
      cases e
      obtain ⟨h1, h2⟩ := Zj4 rx ry e'
      exact .inl ⟨h1,by rw [h2]; exact Y8 p s (.bl _)⟩
    · obtain ⟨d, d', h1, h2, h3, h4, h5⟩ := Zj5 s rx ry e
      exact .inr ⟨d, d', h1, h2, h3, h4, by rw [h5]; exact Y8 p s (.bl _)⟩
theorem o_ne (hu : X.A.units + 64 < cLine) (hK : X.K = K) : OpF X K (compareOp .NotEq) gNe := by
  subst hK
  refine Xz (Qh op_ne (op_neD hu)) fun x y H Q h => ?_
  obtain ⟨ι,Z,tx,ty,s,rx,ry,p⟩ := h
  cases e : gEqB tx ty Z with
  | none => simp only [gNe,e] at p; exact p.elim
  | some b =>
    simp only [gNe,e,Option.map_some] at p
    unfold gEqB at e
    split at e
    · rename_i b' e'
      cases e
      obtain ⟨h1, h2⟩ := Zj4 rx ry e'
      exact .inl ⟨h1,by rw [h2]; exact Y8 p s (.bl _)⟩
    · obtain ⟨d, d', h1, h2, h3, h4, h5⟩ := Zj5 s rx ry e
      exact .inr ⟨d, d', h1, h2, h3, h4, by rw [h5]; exact Y8 p s (.bl _)⟩
end
def gLt : T → T → Sto → Option (T × Sto)
  | .int i,.int j,Z => some (.bl (decide (i < j)),Z)
  | .str a,.str b,Z => some (.bl (decide (a < b)),Z)
  | _,_,_ => none
def gLe : T → T → Sto → Option (T × Sto)
  | .int i,.int j,Z => some (.bl (decide (i ≤ j)),Z)
  | _,_,_ => none
def gGt : T → T → Sto → Option (T × Sto)
  | .int i,.int j,Z => some (.bl (decide (j < i)),Z)
  | _,_,_ => none
def gGe : T → T → Sto → Option (T × Sto)
  | .int i,.int j,Z => some (.bl (decide (j ≤ i)),Z)
  | _,_,_ => none
def isNon : T → Bool
  | .non => true
  | _ => false
def gIs : T → T → Sto → Option (T × Sto)
  | x,.non,Z => some (.bl (isNon x),Z)
  | _,_,_ => none
def gIsNot : T → T → Sto → Option (T × Sto)
  | x,.non,Z => some (.bl (!isNon x),Z)
  | _,_,_ => none
def flatT : T → Bool
  | .non => true | .bl _ => true | .int _ => true | .str _ => true | _ => false
def eqT : T → T → Bool
  | .non,.non => true
  | .bl a,.bl b => a == b
  | .bl a,.int b => (if a then 1 else 0) == b
  | .int a,.bl b => a == (if b then 1 else 0)
  | .int a,.int b => a == b
  | .str a,.str b => decide (b = a)
  | _,_ => false
def inT (x : T) (ts : List T) : Bool := ts.any fun y => eqT y x
def asSeq : T → Sto → Option (List T)
  | .tup ts,_ => some ts
  | t,Z => asList t Z
def gInB : T → T → Sto → Option Bool
  | .str [c],.str l,_ => some (decide (c ∈ l))
  | x,y,Z => match asSeq y Z with
    | some ts => if flatT x = true ∧ ts.all flatT = true then some (inT x ts) else none
    | none => none
def gIn (x y : T) (Z : Sto) : Option (T × Sto) := (gInB x y Z).map fun b => (.bl b,Z)
def gNotIn (x y : T) (Z : Sto) : Option (T × Sto) := (gInB x y Z).map fun b => (.bl (!b),Z)
section
variable {K : PySem.W.Frag} {ι : List Addr} {H : Hp} {Z : Sto}
theorem Z4y {v : V} {t : T} {ts : List T} (s : Sim K ι Z H) (r : Rep K ι H v t) (e : asSeq t Z = some ts) : ∃ a vs,v = .ref a ∧ (SqL K H a vs ∨ SqT K H a vs) ∧ Reps K ι H vs ts := by
  cases t with
  | tup us =>
    cases e
    obtain ⟨a,vs,rfl,h,r⟩ := r.tupE
    exact ⟨a,vs,rfl,.inr h,r⟩
  | _ =>
    obtain ⟨a,vs,rfl,h,r⟩ := Ji s r (by simpa [asSeq] using e)
    exact ⟨a,vs,rfl,.inl h,r⟩
theorem Zfk {v : V} {t : T} (r : Rep K ι H v t) : flatV v = flatT t := by cases r <;> rfl
theorem Zlc {v w : V} {t u : T} (r : Rep K ι H v t) (q : Rep K ι H w u) (h : flatT t = true) (h2 : flatT u = true) : eqV v w = eqT t u := by
  cases r <;> cases q <;> first | rfl | (exact eqV_S _ _) | (exact absurd h Bool.false_ne_true) | (exact absurd h2 Bool.false_ne_true)
theorem Zdn : ∀ {vs : List V} {ts : List T},Reps K ι H vs ts → vs.all flatV = ts.all flatT
  | _,_,.nil => rfl
  | _,_,.cons r q => by rw [List.all_cons,List.all_cons,Zfk r,Zdn q]
theorem Zj6 {x : V} {t : T} (r : Rep K ι H x t) (h : flatT t = true) : ∀ {vs : List V} {ts : List T},Reps K ι H vs ts → ts.all flatT = true → inV x vs = inT t ts
  | _,_,.nil,_ => rfl
  | _, _, .cons r' q, hh => by
    rw [List.all_cons,Bool.and_eq_true] at hh
    show (eqV _ x || inV x _) = (eqT _ t || inT t _)
    rw [Zlc r' r hh.1 h, Zj6 r h q hh.2]
theorem Zj7 {x y : V} {tx ty : T} {b : Bool} (s : Sim K ι Z H) (rx : Rep K ι H x tx) (ry : Rep K ι H y ty) (e : gInB tx ty Z = some b) :
    (∃ (c : Nat) (z : PySem.Str),x = .str ⟨#[c]⟩ ∧ y = .str z ∧ decide (c ∈ z.cps.toList) = b) ∨ ∃ p xs,y = .ref p ∧ (SqL K H p xs ∨ SqT K H p xs) ∧ flatV x = true ∧ xs.all flatV = true ∧ inV x xs = b := by
  unfold gInB at e
  split at e
  · cases e; cases rx; cases ry
    exact .inl ⟨_,_,rfl,rfl,by simp [S]⟩
  · split at e
    · rename_i ts h
      split at e
      · rename_i hf
        cases e
        obtain ⟨a,vs,rfl,hq,r⟩ := Z4y s ry h
        exact .inr ⟨a,vs,rfl,hq,(Zfk rx).trans hf.1,(Zdn r).trans hf.2,Zj6 rx hf.1 r hf.2⟩
      · cases e
    · cases e
end
section
variable {X : Cx} {K : PySem.W.Frag}
theorem o_lt : OpF X K (compareOp .Lt) gLt := by
  refine Xz (Qh op_lt op_lt_str) fun x y H Q h => ?_
  obtain ⟨ι,Z,tx,ty,s,rx,ry,p⟩ := h
  unfold gLt at p
  split at p
  · cases rx; cases ry; exact .inl ⟨_,_,rfl,rfl,Y8 p s (.bl _)⟩
  · cases rx; cases ry; exact .inr ⟨_,_,rfl,rfl,Y8 p s (.bl _)⟩
  · exact p.elim
theorem Zdo {ι : List Addr} {H : Hp} {v : V} {t : T} (r : Rep K ι H v t) : decide (v = .non) = isNon t := by cases r <;> rfl
theorem o_is : OpF X K (compareOp .Is) gIs := Xz op_isN fun x y H Q h => by
  obtain ⟨ι,Z,tx,ty,s,rx,ry,p⟩ := h
  unfold gIs at p
  split at p
  · cases ry; exact ⟨rfl,by rw [Zdo rx]; exact Y8 p s (.bl _)⟩
  · exact p.elim
theorem Zfl : OpF X K (compareOp .IsNot) gIsNot := Xz op_notN fun x y H Q h => by
  obtain ⟨ι,Z,tx,ty,s,rx,ry,p⟩ := h
  unfold gIsNot at p
  split at p
  · cases ry; exact ⟨rfl,by rw [Zdo rx]; exact Y8 p s (.bl _)⟩
  · exact p.elim
theorem o_in (hK : X.K = K) : OpF X K (compareOp .In) gIn := by
  subst hK
  refine Xz (Qh op_in_sign op_in_seq) fun x y H Q h => ?_
  obtain ⟨ι,Z,tx,ty,s,rx,ry,p⟩ := h
  cases e : gInB tx ty Z with
  | none => simp only [gIn,e] at p; exact p.elim
  | some b =>
    simp only [gIn,e,Option.map_some] at p
    have q := Y8 p s (.bl b)
    rcases Zj7 s rx ry e with ⟨c,z,rfl,rfl,hb⟩ | ⟨a,xs,rfl,h1,h2,h3,hb⟩
    · exact .inl ⟨c,z,rfl,rfl,by rw [hb]; exact q⟩
    · exact .inr ⟨a,xs,rfl,h1,h2,h3,by rw [hb]; exact q⟩
theorem Zjt (hK : X.K = K) : OpF X K (compareOp .NotIn) gNotIn := by
  subst hK
  refine Xz (Qh op_notIn_sign op_notIn_seq) fun x y H Q h => ?_
  obtain ⟨ι,Z,tx,ty,s,rx,ry,p⟩ := h
  cases e : gInB tx ty Z with
  | none => simp only [gNotIn,e] at p; exact p.elim
  | some b =>
    simp only [gNotIn,e,Option.map_some] at p
    have q := Y8 p s (.bl (!b))
    rcases Zj7 s rx ry e with ⟨c,z,rfl,rfl,hb⟩ | ⟨a,xs,rfl,h1,h2,h3,hb⟩
    · exact .inl ⟨c,z,rfl,rfl,by rw [hb]; exact q⟩
    · exact .inr ⟨a,xs,rfl,h1,h2,h3,by rw [hb]; exact q⟩
end
def eChain (g g' : T → T → Sto → Option (T × Sto)) (a b c : FE) : FE := fun ρ Z => (a ρ Z).bind fun x Z1 => (b ρ Z1).bind fun y Z2 => (lift (g x y Z2)).bind fun z Z3 => match z with
  | .bl true => (c ρ Z3).bind fun w Z4 => lift (g' y w Z4)
  | .bl false => .ok (.bl false) Z3
  | _ => .stuck
section
variable {X : Cx} {K : PySem.W.Frag} {W : Wc} {a b c : Expr} {fa fb fc : FE} {pos : Pos} {op op' : CmpOp} {g g' : T → T → Sto → Option (T × Sto)}
theorem Zdp {σ : L2.St} {H : Hp} {Q : VK} (h : tF K W (eChain g g' fa fb fc) σ H Q) : tChain (rF2 K g) (rF2 K g') (tF K W fa) (tF K W fb) (tF K W fc) σ H Q := by
  obtain ⟨ι,ρ,Z,is,p⟩ := h
  refine ⟨ι,ρ,Z,is,(Zo p).imp fun x H1 q => ?_⟩
  obtain ⟨ι1,Z1,tx,g1,s1,r1,p1⟩ := q
  refine ⟨ι1,ρ,Z1,is.gr g1 s1,(Zo p1).imp fun y H2 q2 => ?_⟩
  obtain ⟨ι2,Z2,ty,g2,s2,r2,p2⟩ := q2
  refine ⟨ι2,Z2,tx,ty,s2,r1.gr g2,r2,U6 (W := W.w) (σ := σ) ((Zo p2).imp fun z H3 q3 => ?_)⟩
  obtain ⟨ι3,Z3,tz,g3,s3,r3,p3⟩ := q3
  split at p3
  · cases r3
    refine ⟨true,rfl,?_⟩
    rw [if_pos rfl]
    refine ⟨ι3,ρ,Z3,is.gr ((g1.trans g2).trans g3) s3,(Zo p3).imp fun w H4 q4 => ?_⟩
    obtain ⟨ι4,Z4,tw,g4,s4,r4,p4⟩ := q4
    exact ⟨ι4,Z4,ty,tw,s4,(r2.gr g3).gr g4,r4,U6 p4⟩
  · cases r3
    refine ⟨false,rfl,?_⟩
    rw [if_neg Bool.false_ne_true]
    exact p3 ι3 H3 _ Gr.refl s3 (.bl false)
  · exact p3.elim
theorem Zad (ho : OpF X K (compareOp op) g) (ho' : OpF X K (compareOp op') g') (ha : FJ X K W a fa) (hb : FJ X K W b fb) (hc : FJ X K W c fc) (hm : lastMarks [op, op'] [b, c] = false := by with_unfolding_all rfl) :
    FJ X K W (.Compare a [op, op'] [b, c] pos) (eChain g g' fa fb fc) := Vz (pe_chain ho ho' ha hb hc hm) fun _ _ _ h => Zdp h
theorem Zhu (ho : OpF X K (compareOp op) g) (ho' : OpF X K (compareOp op') g') (ha : FJ X K W a fa) (hb : FJ X K W b fb) (hc : FJ X K W c fc) (hm : lastMarks [op, op'] [b, c] = false := by with_unfolding_all rfl) :
    FTJ X K W (.Compare a [op, op'] [b, c] pos) (eBl (eChain g g' fa fb fc)) := by
  refine Z9q (pt_chain ho ho' ha hb hc hm) fun σ H Q h => ?_
  obtain ⟨ι,ρ,Z,is,p⟩ := h
  refine Zdp ⟨ι,ρ,Z,is,(Zo p).imp fun x H1 q => ?_⟩
  obtain ⟨ι1,Z1,tx,g1,s1,r1,p1⟩ := q
  cases r1 with
  | bl b => exact ⟨b,rfl,p1 ι1 H1 b Gr.refl s1 rfl⟩
  | _ => exact p1.elim
end
def gIx : T → T → Sto → Option (T × Sto)
  | .str l,.int i,Z => if l.length ≤ Lim then (atI l i).map fun c => (.str [c],Z) else none
  | x,.int i,Z => match asSeq x Z with
    | some ts => (atI ts i).map fun t => (t,Z)
    | none => none
  | _,_,_ => none
def gSl : T → Option Int → Option Int → Sto → Option (T × Sto)
  | .str l,lo,hi,Z => if l.length ≤ Lim then some (.str (cutL l lo hi),Z) else none
  | .tup ts,lo,hi,Z => some (.tup (cutL ts lo hi),Z)
  | x,lo,hi,Z => match asList x Z with
    | some ts => some (.loc Z.length,Z ++ [.lst (cutL ts lo hi)])
    | none => none
abbrev FO := Env → Sto → R (Option Int)
def oNone : FO := fun _ Z => .ok none Z
def oSome (f : FE) : FO := fun ρ Z => (f ρ Z).bind fun x Z1 => match x with
  | .int i => .ok (some i) Z1
  | _ => .stuck
def eSl (f : FE) (lo hi : FO) : FE := fun ρ Z => (f ρ Z).bind fun x Z1 => (lo ρ Z1).bind fun l Z2 => (hi ρ Z2).bind fun h Z3 => lift (gSl x l h Z3)
def oEq (_ : List Addr) (_ : Hp) (b c : Option Int) : Prop := b = c
def tFO (K : PySem.W.Frag) (W : Wc) (f : FO) : TO := fun σ H Q => ∃ ι ρ Z,Ie K W ι H σ ρ Z ∧ Post oEq K W.w σ ι H Q (f ρ Z)
theorem Reps.cut {K : PySem.W.Frag} {ι : List Addr} {H : Hp} {vs : List V} {ts : List T} (r : Reps K ι H vs ts) (lo hi : Option Int) : Reps K ι H (cutV vs lo hi) (cutL ts lo hi) := by
  unfold cutV cutL
  rw [r.length]
  exact (r.drop _).take _
theorem Zld {K : PySem.W.Frag} {ι : List Addr} {H : Hp} {vs : List V} {ts : List T} {i : Int} {t : T} (r : Reps K ι H vs ts) (e : atI ts i = some t) : ∃ v,atI vs i = some v ∧ Rep K ι H v t := by
  unfold atI at e ⊢
  rw [r.length]
  obtain ⟨j,h1,h2⟩ := Option.bind_eq_some_iff.mp e
  rw [h1]
  exact r.get h2
section
variable {X : Cx} {K : PySem.W.Frag} {W : Wc} {a : Expr} {fa : FE} {pos p2 : Pos} {lo hi : Option Expr} {fl fh : FO}
theorem Zfm {r r' : R2} (h : IxR X r) (i : ∀ x y H Q, r' x y H Q → r x y H Q) : IxR X r' := fun value slice pins s σ H x y v u Q I rx ry q => h value slice pins s σ H x y v u Q I rx ry (i _ _ _ _ q)
theorem i_ix (hK : X.K = K) : IxR X (rF2 K gIx) := by
  subst hK
  refine Zfm ix_seq fun x y H Q h => ?_
  obtain ⟨ι,Z,tx,ty,s,rx,ry,p⟩ := h
  unfold gIx at p
  split at p
  · split at p
    · rename_i hz
      cases rx; cases ry
      cases e : atI _ _ with
      | none => rw [e] at p; exact p.elim
      | some c =>
        rw [e] at p
        exact .inr (.inr ⟨_,_,c,rfl,rfl,by rw [S_len]; exact Z2b hz,e,Y8 p s (.str [c])⟩)
    · exact p.elim
  · cases ry
    split at p
    · rename_i ts hs
      obtain ⟨a,vs,rfl,hq,r⟩ := Z4y s rx hs
      cases e : atI ts _ with
      | none => rw [e] at p; exact p.elim
      | some t =>
        rw [e] at p
        obtain ⟨v,h1,h2⟩ := Zld r e
        rcases hq with hq | hq
        · exact .inl ⟨a,vs,_,v,rfl,rfl,hq,h1,Y8 p s h2⟩
        · exact .inr (.inl ⟨a,vs,_,v,rfl,rfl,hq,h1,Y8 p s h2⟩)
    · exact p.elim
  · exact p.elim
theorem Ju : PO X none (tFO K W oNone) := ⟨fun pins s σ H Q I h => by
  obtain ⟨ι,ρ,Z,is,p⟩ := h
  exact po_none.run pins s σ H Q I (p ι H none Gr.refl is.sim rfl)⟩
theorem Xk (h : FJ X K W a fa) : PO X (some a) (tFO K W (oSome fa)) := ⟨fun pins s σ H Q I q => by
  obtain ⟨ι,ρ,Z,is,p⟩ := q
  refine (po_some h).run pins s σ H Q I ⟨ι,ρ,Z,is,(Zo p).imp fun x H1 q => ?_⟩
  obtain ⟨ι1,Z1,tx,g1,s1,r1,p1⟩ := q
  cases r1 with
  | int i => exact ⟨i,rfl,p1 ι1 H1 (some i) Gr.refl s1 rfl⟩
  | _ => exact p1.elim⟩
theorem f_sl (hK : X.K = K) (ha : FJ X K W a fa) (hl : PO X lo (tFO K W fl)) (hh : PO X hi (tFO K W fh)) : FJ X K W (.Subscript a (.Slice lo hi none p2) pos) (eSl fa fl fh) := by
  subst hK
  refine Vz (pe_slice ((sl_list (X := X)).or ((sl_tupA (X := X)).or sl_str)) ha hl hh) fun σ H Q h => ?_
  obtain ⟨ι,ρ,Z,is,p⟩ := h
  refine ⟨ι,ρ,Z,is,(Zo p).imp fun x H1 q => ?_⟩
  obtain ⟨ι1,Z1,tx,g1,s1,r1,p1⟩ := q
  refine ⟨ι1,ρ,Z1,is.gr g1 s1,(Zo p1).imp fun l H2 q2 => ?_⟩
  obtain ⟨ι2, Z2, l', g2, s2, r2, p2⟩ := q2
  cases (show l = l' from r2)
  refine ⟨ι2,ρ,Z2,is.gr (g1.trans g2) s2,(Zo p2).imp fun u H3 q3 => ?_⟩
  obtain ⟨ι3, Z3, u', g3, s3, r3, p3⟩ := q3
  cases (show u = u' from r3)
  have rx := (r1.gr g2).gr g3
  have p4 := U6 p3
  unfold gSl at p4
  split at p4
  · split at p4
    · rename_i hz
      cases rx
      exact .inr (.inr ⟨_,rfl,by rw [S_len]; exact Z2b hz,by rw [Zl5]; exact Y8 p4 s3 (.str _)⟩)
    · exact p4.elim
  · obtain ⟨a,vs,rfl,hq,r⟩ := rx.tupE
    refine .inr (.inl ⟨a,vs,rfl,hq,fun e => ?_,fun _ => Zfi p4 s3 (r.cut _ _)⟩)
    refine Y8 p4 s3 ?_
    have h := r.cut l u
    have e3 : cutV vs l u = vs := by
      unfold cutV
      rw [e.1,e.2,List.drop_zero,Nat.sub_zero]
      exact List.take_of_length_le (Nat.le_refl _)
    rw [e3] at h
    exact .tup hq h
  · split at p4
    · rename_i ts hs
      obtain ⟨a,vs,rfl,hq,r⟩ := Ji s3 rx hs
      exact .inl ⟨a,vs,rfl,hq,Zac p4 s3 (r.cut _ _)⟩
    · exact p4.elim
end
def eTup (f : FA) : FE := fun ρ Z => (f ρ Z).bind fun xs Z1 => .ok (.tup xs) Z1
def eLst (f : FA) : FE := fun ρ Z => (f ρ Z).bind fun xs Z1 => .ok (.loc Z1.length) (Z1 ++ [.lst xs])
section
variable {X : Cx} {K : PySem.W.Frag} {W : Wc} {es : List Expr} {f : FA} {pos : Pos}
def ofLen (es : List Expr) (f : FA) : Prop := ∀ ρ Z xs Z1,f ρ Z = .ok xs Z1 → xs.length = es.length
theorem Zb : ofLen [] aNil := fun ρ Z xs Z1 h => by
  unfold aNil at h
  injection h with h1 h2
  subst h1; rfl
theorem Z0 {a : Expr} {fa : FE} (h : ofLen es f) : ofLen (a :: es) (aCons fa f) := fun ρ Z xs Z1 e => by
  unfold aCons at e
  cases e1 : fa ρ Z with
  | ok x Z2 =>
    rw [e1,Yy] at e
    cases e2 : f ρ Z2 with
    | ok ys Z3 =>
      rw [e2,Yy] at e
      injection e with h1 h2
      subst h1
      rw [List.length_cons,List.length_cons,h _ _ _ _ e2]
    | exc _ _ => rw [e2] at e; cases e
    | stuck => rw [e2] at e; cases e
  | exc _ _ => rw [e1] at e; cases e
  | stuck => rw [e1] at e; cases e
theorem f_tup {k} (ha : FAJ X K W es f) (hn : ofLen es f) (hz : es.length ≤ 1000 := by decide) : FJ X K W (.Tuple es k pos) (eTup f) := by
  refine Vz (pe_tup ha) fun σ H Q h => ?_
  obtain ⟨ι,ρ,Z,is,p⟩ := h
  refine ⟨ι,ρ,Z,is,?_⟩
  unfold eTup at p
  cases e : f ρ Z with
  | ok ts Z1 =>
    rw [e,Yy] at p
    intro ι1 H1 vs g1 s1 r1
    refine ⟨?_,fun q n => ?_⟩
    · rw [r1.length,hn _ _ _ _ e]; exact Z2b (by unfold Lim; omega)
    · exact p ι1 _ _ (g1.trans (Gr.new0 n)) (s1.same (Z00 n)) (.tup (SqT.of upd_same) (r1.gr (Gr.new0 n)))
  | exc x Z1 => rw [e] at p; exact p
  | stuck => rw [e] at p; exact p
theorem Z27 (ha : FAJ X K W es f) (hn : ofLen es f) (hz : es.length ≤ 1000 := by decide) : FJ X K W (.List es pos) (eLst f) := by
  refine Vz (pe_lst ha) fun σ H Q h => ?_
  obtain ⟨ι,ρ,Z,is,p⟩ := h
  refine ⟨ι,ρ,Z,is,?_⟩
  unfold eLst at p
  cases e : f ρ Z with
  | ok ts Z1 =>
    rw [e,Yy] at p
    intro ι1 H1 vs g1 s1 r1
    refine ⟨?_,fun q n => ?_⟩
    · rw [r1.length,hn _ _ _ _ e]; exact Z2b (by unfold Lim; omega)
    · exact p (ι1 ++ [q]) _ _ (g1.trans (Gr.new n)) (s1.newL r1 n) (Zdm s1)
  | exc x Z1 => rw [e] at p; exact p
  | stuck => rw [e] at p; exact p
end
end Fx
set_option maxHeartbeats 4000000
namespace Fx
open PySem PySem.Spec PyProof.Rows L2 SX Ap
variable [Tb]
inductive RS where
  | nx (ρ : Env) (Z : Sto) | rt (t : T) (Z : Sto) | bk (ρ : Env) (Z : Sto) | ct (ρ : Env) (Z : Sto) | exc (x : Ex) (ρ : Env) (Z : Sto) | stuck
abbrev FS := Env → Sto → RS
def bS {α : Type} (ρ : Env) : R α → (α → Sto → RS) → RS
  | .ok a Z,k => k a Z
  | .exc x Z,_ => .exc x ρ Z
  | .stuck,_ => .stuck
def seqS : RS → (Env → Sto → RS) → RS
  | .nx ρ Z,k => k ρ Z
  | r,_ => r
def seqL : RS → (Env → Sto → RS) → RS
  | .nx ρ Z,k => k ρ Z
  | .ct ρ Z,k => k ρ Z
  | .bk ρ Z,_ => .nx ρ Z
  | r,_ => r
@[simp] theorem Z8m {α : Type} (ρ : Env) (a : α) (Z : Sto) (k : α → Sto → RS) : bS ρ (.ok a Z) k = k a Z := (rfl)
@[simp] theorem bS_exc {α : Type} (ρ : Env) (x : Ex) (Z : Sto) (k : α → Sto → RS) : bS ρ (.exc x Z) k = .exc x ρ Z := (rfl)
@[simp] theorem bS_stuck {α : Type} (ρ : Env) (k : α → Sto → RS) : bS ρ (.stuck : R α) k = .stuck := (rfl)
@[simp] theorem seqS_nx (ρ : Env) (Z : Sto) (k : Env → Sto → RS) : seqS (.nx ρ Z) k = k ρ Z := (rfl)
@[simp] theorem seqS_rt (t : T) (Z : Sto) (k : Env → Sto → RS) : seqS (.rt t Z) k = .rt t Z := (rfl)
@[simp] theorem seqS_bk (ρ : Env) (Z : Sto) (k : Env → Sto → RS) : seqS (.bk ρ Z) k = .bk ρ Z := (rfl)
@[simp] theorem seqS_ct (ρ : Env) (Z : Sto) (k : Env → Sto → RS) : seqS (.ct ρ Z) k = .ct ρ Z := (rfl)
@[simp] theorem seqS_exc (x : Ex) (ρ : Env) (Z : Sto) (k : Env → Sto → RS) : seqS (.exc x ρ Z) k = .exc x ρ Z := (rfl)
@[simp] theorem Z5y (ρ : Env) (Z : Sto) (k : Env → Sto → RS) : seqL (.nx ρ Z) k = k ρ Z := (rfl)
@[simp] theorem Zfn (ρ : Env) (Z : Sto) (k : Env → Sto → RS) : seqL (.ct ρ Z) k = k ρ Z := (rfl)
@[simp] theorem seqL_bk (ρ : Env) (Z : Sto) (k : Env → Sto → RS) : seqL (.bk ρ Z) k = .nx ρ Z := (rfl)
@[simp] theorem Zju (t : T) (Z : Sto) (k : Env → Sto → RS) : seqL (.rt t Z) k = .rt t Z := (rfl)
@[simp] theorem seqL_exc (x : Ex) (ρ : Env) (Z : Sto) (k : Env → Sto → RS) : seqL (.exc x ρ Z) k = .exc x ρ Z := (rfl)
structure Is (K : PySem.W.Frag) (ι : List Addr) (H : Hp) (σ : L2.St) (ρ : Env) (Z : Sto) : Prop where
  len : σ.length = ρ.length
  env : Envs K ι H σ ρ
  sim : Sim K ι Z H
theorem Is.ie {K : PySem.W.Frag} {W : WX} {ι : List Addr} {H : Hp} {σ : L2.St} {ρ : Env} {Z : Sto} (h : Is K ι H σ ρ Z) : Ie K (Wt W) ι H σ ρ Z := ⟨h.len,h.env,h.sim,trivial⟩
theorem Is.gr {K : PySem.W.Frag} {ι ι' : List Addr} {H H' : Hp} {σ : L2.St} {ρ : Env} {Z Z' : Sto} (h : Is K ι H σ ρ Z) (g : Gr ι ι' H H') (s : Sim K ι' Z' H') : Is K ι' H' σ ρ Z' := ⟨h.len, h.env.gr g, s⟩
def PostS (K : PySem.W.Frag) (W : WX) (ι : List Addr) (H : Hp) (D : Ends) : RS → Prop
  | .nx ρ' Z' => ∀ ι' H' σ', Gr ι ι' H H' → Is K ι' H' σ' ρ' Z' → D.nx σ' H'
  | .rt t Z' => ∀ ι' H' v, Gr ι ι' H H' → Sim K ι' Z' H' → Rep K ι' H' v t → D.rt v H'
  | .bk ρ' Z' => ∀ ι' H' σ', Gr ι ι' H H' → Is K ι' H' σ' ρ' Z' → D.bk σ' H'
  | .ct ρ' Z' => ∀ ι' H' σ', Gr ι ι' H H' → Is K ι' H' σ' ρ' Z' → D.ct σ' H'
  | .exc x ρ' Z' => ∀ ι' H' σ' cls d, Gr ι ι' H H' → Is K ι' H' σ' ρ' Z' → RepX K ι' H' cls d x → W cls d σ' H'
  | .stuck => False
def tS (K : PySem.W.Frag) (W : WX) (g : FS) : TS := fun D σ H => ∃ ι ρ Z,Is K ι H σ ρ Z ∧ PostS K W ι H D (g ρ Z)
abbrev FSJ (X : Cx) (K : PySem.W.Frag) (W : WX) (st : Stmt) (g : FS) : Prop := PS X st (tS K W g)
abbrev FBJ (X : Cx) (K : PySem.W.Frag) (W : WX) (st : List Stmt) (g : FS) : Prop := PSs X st (tS K W g)
section
variable {α β : Type} {K : PySem.W.Frag} {W : WX} {ι ι1 : List Addr} {H H1 : Hp} {σ : L2.St} {ρ : Env} {Z : Sto} {D : Ends}
theorem PostS.shift {r : RS} (h : PostS K W ι H D r) (g : Gr ι ι1 H H1) : PostS K W ι1 H1 D r := by
  cases r with
  | nx => exact fun ι' H' σ' g' => h ι' H' σ' (g.trans g')
  | rt => exact fun ι' H' σ' g' => h ι' H' σ' (g.trans g')
  | bk => exact fun ι' H' σ' g' => h ι' H' σ' (g.trans g')
  | ct => exact fun ι' H' σ' g' => h ι' H' σ' (g.trans g')
  | exc => exact fun ι' H' σ' c d g' => h ι' H' σ' c d (g.trans g')
  | stuck => exact h
theorem Z4e {rep : List Addr → Hp → β → α → Prop} {r : R α} {k : α → Sto → RS} (is : Is K ι H σ ρ Z) (h : PostS K W ι H D (bS ρ r k)) :
    Post rep K W σ ι H (fun b H1 => ∃ ι1 Z1 a,Gr ι ι1 H H1 ∧ Sim K ι1 Z1 H1 ∧ rep ι1 H1 b a ∧ PostS K W ι1 H1 D (k a Z1)) r := by
  cases r with
  | ok a S => exact fun ι1 H1 b g s r => ⟨ι1,S,a,g,s,r,PostS.shift h g⟩
  | exc x S => exact fun ι' H' cls d g s rx => h ι' H' σ cls d g (is.gr g s) rx
  | stuck => exact h
theorem Zhv {r : RS} {k : Env → Sto → RS} (h : PostS K W ι H D (seqS r k)) :
    PostS K W ι H { D with nx := fun σ' H' => ∃ ι' ρ' Z', Gr ι ι' H H' ∧ Is K ι' H' σ' ρ' Z' ∧ PostS K W ι' H' D (k ρ' Z') } r := by
  cases r with
  | nx ρ' Z' => exact fun ι' H' σ' g i => ⟨ι', ρ', Z', g, i, PostS.shift h g⟩
  | rt => exact h
  | bk => exact h
  | ct => exact h
  | exc => exact h
  | stuck => exact h
theorem Zbw {r : RS} {k : Env → Sto → RS} (h : PostS K W ι H D (seqL r k)) :
    PostS K W ι H { D with nx := fun σ' H' => ∃ ι' ρ' Z', Gr ι ι' H H' ∧ Is K ι' H' σ' ρ' Z' ∧ PostS K W ι' H' D (k ρ' Z'), ct := fun σ' H' => ∃ ι' ρ' Z', Gr ι ι' H H' ∧ Is K ι' H' σ' ρ' Z' ∧ PostS K W ι' H' D (k ρ' Z'), bk := D.nx } r := by
  cases r with
  | nx ρ' Z' => exact fun ι' H' σ' g i => ⟨ι', ρ', Z', g, i, PostS.shift h g⟩
  | rt => exact h
  | bk => exact h
  | ct ρ' Z' => exact fun ι' H' σ' g i => ⟨ι', ρ', Z', g, i, PostS.shift h g⟩
  | exc => exact h
  | stuck => exact h
theorem PostS.imp {r : RS} {D2 : Ends} (h : PostS K W ι H D r) (h1 : ∀ σ H,D.nx σ H → D2.nx σ H) (h2 : ∀ σ H,D.rt σ H → D2.rt σ H) (h3 : ∀ σ H,D.bk σ H → D2.bk σ H) (h4 : ∀ σ H,D.ct σ H → D2.ct σ H) : PostS K W ι H D2 r := by
  cases r with
  | nx => exact fun ι' H' σ' g i => h1 _ _ (h ι' H' σ' g i)
  | rt => exact fun ι' H' σ' g i r => h2 _ _ (h ι' H' σ' g i r)
  | bk => exact fun ι' H' σ' g i => h3 _ _ (h ι' H' σ' g i)
  | ct => exact fun ι' H' σ' g i => h4 _ _ (h ι' H' σ' g i)
  | exc => exact h
  | stuck => exact h
end
def sSet (i : Nat) (f : FE) : FS := fun ρ Z => bS ρ (f ρ Z) fun x Z1 => .nx (ρ.set i (some x)) Z1
def sRet (f : FE) : FS := fun ρ Z => bS ρ (f ρ Z) fun x Z1 => .rt x Z1
def sRetN : FS := fun _ Z => .rt .non Z
def sDrop (f : FE) : FS := fun ρ Z => bS ρ (f ρ Z) fun _ Z1 => .nx ρ Z1
def sPass : FS := fun ρ Z => .nx ρ Z
def sBrk : FS := fun ρ Z => .bk ρ Z
def sCnt : FS := fun ρ Z => .ct ρ Z
def sIf (c : FT) (a b : FS) : FS := fun ρ Z => bS ρ (c ρ Z) fun x Z1 => if x = true then a ρ Z1 else b ρ Z1
def bCons (a b : FS) : FS := fun ρ Z => seqS (a ρ Z) b
section
variable {X : Cx} {K : PySem.W.Frag} {W : WX} {e c : Expr} {fe : FE} {ft : FT} {st : Stmt} {sts a b : List Stmt} {g g' : FS} {pos : Pos} {i : Nat} {x : PySem.Str}
theorem Z8n {k : T → Sto → RS} {σ : L2.St} {ρ : Env} {ι : List Addr} {H : Hp} {Z : Sto} {D : Ends} {Q : VK} (is : Is K ι H σ ρ Z) (h : PostS K W ι H D (bS ρ (fe ρ Z) k)) (hq : ∀ v H1 ι1 Z1 t,Gr ι ι1 H H1 → Is K ι1 H1 σ ρ Z1 → Rep K ι1 H1 v t → PostS K W ι1 H1 D (k t Z1) → Q v H1) : tF K (Wt W) fe σ H Q :=
  ⟨ι,ρ,Z,is.ie,(Z4e (rep := Rep K) is h).imp fun v H1 ⟨ι1,Z1,t,g1,s1,r1,p1⟩ => hq v H1 ι1 Z1 t g1 (is.gr g1 s1) r1 p1⟩
theorem Zj8 {k : Bool → Sto → RS} {σ : L2.St} {ρ : Env} {ι : List Addr} {H : Hp} {Z : Sto} {D : Ends} {Q : Bool → Hp → Prop} (is : Is K ι H σ ρ Z) (h : PostS K W ι H D (bS ρ (ft ρ Z) k)) (hq : ∀ v H1 ι1 Z1,Gr ι ι1 H H1 → Is K ι1 H1 σ ρ Z1 → PostS K W ι1 H1 D (k v Z1) → Q v H1) : tFT K (Wt W) ft σ H Q :=
  ⟨ι,ρ,Z,is.ie,(Z4e (rep := bEq) is h).imp fun v H1 ⟨ι1,Z1,t,g1,s1,r1,p1⟩ => hq v H1 ι1 Z1 g1 (is.gr g1 s1) (by cases (show v = t from r1); exact p1)⟩
theorem Is.set {ι : List Addr} {H : Hp} {σ : L2.St} {ρ : Env} {Z : Sto} {v : V} {t : T} (h : Is K ι H σ ρ Z) (r : Rep K ι H v t) (i : Nat) : Is K ι H (σ.set i (some v)) (ρ.set i (some t)) Z :=
  ⟨by rw [List.length_set,List.length_set]; exact h.len,h.env.set r i h.len,h.sim⟩
theorem Zt {pos' : Pos} (hN : X.N.Nodup) (hi : X.N[i]? = some x) (hx : Loc X.env.scope x) (he : FJ X K (Wt W) e fe) (hs : swapsWith e (some (.Name x pos')) pos.line X.env = pure false := by rfl) (hf : X.fn x = true ∨ X.env.scope.names.lookup x = some .local := by first | exact .inl rfl | exact .inr rfl | assumption) :
    FSJ X K W (.Assign [.Name x pos'] e pos) (sSet i fe) := Jq (ps_set hN hi hx he hs hf) fun D σ H h => by
  obtain ⟨ι,ρ,Z,is,p⟩ := h
  exact Z8n is p fun v H1 ι1 Z1 t g1 i1 r1 p1 => p1 ι1 H1 _ Gr.refl (i1.set r1 i)
theorem Zq (he : FJ X K (Wt W) e fe) : FSJ X K W (.Return (some e) pos) (sRet fe) := Jq (ps_ret he) fun D σ H h => by
  obtain ⟨ι,ρ,Z,is,p⟩ := h
  exact Z8n is p fun v H1 ι1 Z1 t g1 i1 r1 p1 => p1 ι1 H1 v Gr.refl i1.sim r1
theorem Vi (he : FJ X K (Wt W) e fe) (hs : swapsWith e none pos.line X.env = pure false := by rfl) : FSJ X K W (.Expr e pos) (sDrop fe) := Jq (ps_expr he hs) fun D σ H h => by
  obtain ⟨ι,ρ,Z,is,p⟩ := h
  exact Z8n is p fun v H1 ι1 Z1 t g1 i1 r1 p1 => p1 ι1 H1 σ Gr.refl i1
theorem Zj9 : FSJ X K W (.Break pos) sBrk := Jq ps_break fun D σ H h => by
  obtain ⟨ι,ρ,Z,is,p⟩ := h
  exact p ι H σ Gr.refl is
theorem Yi (hc : FTJ X K (Wt W) c ft) (ha : FBJ X K W a g) (hb : FBJ X K W b g') : FSJ X K W (.If c a b pos) (sIf ft g g') := Jq (ps_if hc ha hb) fun D σ H h => by
  obtain ⟨ι,ρ,Z,is,p⟩ := h
  refine Zj8 is p fun v H1 ι1 Z1 g1 i1 p1 => ?_
  cases v with
  | true => exact ⟨ι1,ρ,Z1,i1,p1⟩
  | false => exact ⟨ι1,ρ,Z1,i1,p1⟩
theorem Y0 : FBJ X K W [] sPass := Zfg pss_nil fun D σ H h => by
  obtain ⟨ι,ρ,Z,is,p⟩ := h
  exact p ι H σ Gr.refl is
theorem Zg (h : FSJ X K W st g) : FBJ X K W [st] g := pss_one h
theorem Zd (h : FSJ X K W st g) (h2 : FBJ X K W sts g') : FBJ X K W (st :: sts) (bCons g g') := Zfg (pss_cons h h2) fun D σ H h => by
  obtain ⟨ι,ρ,Z,is,p⟩ := h
  refine ⟨ι, ρ, Z, is, (Zhv p).imp (fun σ' H' q => ?_) (fun _ _ q => q) (fun _ _ q => q) (fun _ _ q => q)⟩
  obtain ⟨ι', ρ', Z', _, i', p'⟩ := q
  exact ⟨ι', ρ', Z', i', p'⟩
end
def sPar (ix : List Nat) (f : FA) : FS := fun ρ Z => bS ρ (f ρ Z) fun xs Z1 => .nx ((ix.zip xs).foldl (fun r p => r.set p.1 (some p.2)) ρ) Z1
section
variable {X : Cx} {K : PySem.W.Frag} {W : WX} {fa : FA}
theorem Zfo {k : List T → Sto → RS} {σ : L2.St} {ρ : Env} {ι : List Addr} {H : Hp} {Z : Sto} {D : Ends} {Q : List V → Hp → Prop} (is : Is K ι H σ ρ Z) (h : PostS K W ι H D (bS ρ (fa ρ Z) k)) (hq : ∀ v H1 ι1 Z1 t,fa ρ Z = .ok t Z1 → Gr ι ι1 H H1 → Is K ι1 H1 σ ρ Z1 → Reps K ι1 H1 v t → PostS K W ι1 H1 D (k t Z1) → Q v H1) : tFA K (Wt W) fa σ H Q := by
  refine ⟨ι,ρ,Z,is.ie,?_⟩
  cases e : fa ρ Z with
  | ok a S =>
    rw [e] at h
    exact fun ι1 H1 b g s r => hq b H1 ι1 S a e g (is.gr g s) r (PostS.shift h g)
  | exc x S =>
    rw [e] at h
    exact fun ι' H' cls d g s rx => h ι' H' σ cls d g (is.gr g s) rx
  | stuck => rw [e] at h; exact h
theorem Zdq {i j : Nat} {x y : PySem.Str} {a b : Expr} {px py pt pos : Pos} {kt k2 pt2} (hc : X.calm = true) (hN : X.N.Nodup) (hi : X.N[i]? = some x) (hj : X.N[j]? = some y) (hij : i ≠ j)
    (hx : X.env.scope.names.lookup x = some .local) (hy : X.env.scope.names.lookup y = some .local) (ha : FAJ X K (Wt W) [a,b] fa) (hn : ofLen [a,b] fa)
    (hw : swappedStores [.Tuple [.Name x px,.Name y py] kt pt] (.Tuple [a,b] k2 pt2) X.env = pure (some [x,y]))
    (hs : swapsWithSole [.Tuple [.Name x px,.Name y py] kt pt] (.Tuple [a,b] k2 pt2) pos.line X.env = pure false := by rfl) :
    FSJ X K W (.Assign [.Tuple [.Name x px,.Name y py] kt pt] (.Tuple [a,b] k2 pt2) pos) (sPar [i,j] fa) := Jq (ps_par hc hN hi hj hij hx hy ha hw hs) fun D σ H h => by
  obtain ⟨ι,ρ,Z,is,p⟩ := h
  refine Zfo is p fun v H1 ι1 Z1 t e g1 i1 r1 p1 => ?_
  have hl := hn _ _ _ _ e
  match t,r1,hl with
  | [t1,t2],.cons r1 (.cons r2 .nil),_ => exact ⟨_,_,rfl,p1 ι1 H1 _ Gr.refl ((i1.set r1 i).set r2 j)⟩
theorem Zjv {i j l : Nat} {x y z : PySem.Str} {a b c : Expr} {px py pz pt pos : Pos} {kt k2 pt2} (hc : X.calm = true) (hN : X.N.Nodup) (hi : X.N[i]? = some x) (hj : X.N[j]? = some y) (hl : X.N[l]? = some z) (hij : i ≠ j) (hil : i ≠ l) (hjl : j ≠ l)
    (hx : X.env.scope.names.lookup x = some .local) (hy : X.env.scope.names.lookup y = some .local) (hz : X.env.scope.names.lookup z = some .local) (ha : FAJ X K (Wt W) [a,b,c] fa) (hn : ofLen [a,b,c] fa)
    (hw : swappedStores [.Tuple [.Name x px,.Name y py,.Name z pz] kt pt] (.Tuple [a,b,c] k2 pt2) X.env = pure (some [x,y,z]))
    (hs : swapsWithSole [.Tuple [.Name x px,.Name y py,.Name z pz] kt pt] (.Tuple [a,b,c] k2 pt2) pos.line X.env = pure false := by rfl) :
    FSJ X K W (.Assign [.Tuple [.Name x px,.Name y py,.Name z pz] kt pt] (.Tuple [a,b,c] k2 pt2) pos) (sPar [i,j,l] fa) := Jq (ps_par3 hc hN hi hj hl hij hil hjl hx hy hz ha hw hs) fun D σ H h => by
  obtain ⟨ι,ρ,Z,is,p⟩ := h
  refine Zfo is p fun v H1 ι1 Z1 t e g1 i1 r1 p1 => ?_
  have hl := hn _ _ _ _ e
  match t,r1,hl with
  | [t1,t2,t3],.cons r1 (.cons r2 (.cons r3 .nil)),_ => exact ⟨_,_,_,rfl,p1 ι1 H1 _ Gr.refl (((i1.set r1 i).set r2 j).set r3 _)⟩
end
abbrev FG := T → Env → Sto → R Env
abbrev FGs := List T → Env → Sto → R Env
def rEnv (K : PySem.W.Frag) (ι : List Addr) (H : Hp) (σ : L2.St) (ρ : Env) : Prop := σ.length = ρ.length ∧ Envs K ι H σ ρ
def tG (K : PySem.W.Frag) (W : WX) (g : FG) : TG := fun v σ H Q => ∃ ι ρ Z t,Is K ι H σ ρ Z ∧ Rep K ι H v t ∧ Post (rEnv K) K W σ ι H Q (g t ρ Z)
def tGs (K : PySem.W.Frag) (W : WX) (g : FGs) : TGs := fun v σ H Q => ∃ ι ρ Z t,Is K ι H σ ρ Z ∧ Reps K ι H v t ∧ Post (rEnv K) K W σ ι H Q (g t ρ Z)
def gNm (i : Nat) : FG := fun t ρ Z => .ok (ρ.set i (some t)) Z
def gsNil : FGs := fun ts ρ Z => match ts with
  | [] => .ok ρ Z
  | _ => .stuck
def noX {α : Type} : R α → R α
  | .exc _ _ => .stuck
  | r => r
def gsCons (g : FG) (r : FGs) : FGs := fun ts ρ Z => match ts with
  | t :: ts => (noX (g t ρ Z)).bind fun ρ1 Z1 => noX (r ts ρ1 Z1)
  | _ => .stuck
def gTp (n : Nat) (r : FGs) : FG := fun t ρ Z => match t with
  | .tup ts => if ts.length = n then r ts ρ Z else .stuck
  | _ => .stuck
theorem Z75 {α β : Type} {rep : List Addr → Hp → β → α → Prop} {K : PySem.W.Frag} {W W' : WX} {σ σ' : L2.St} {ι : List Addr} {H : Hp} {Q : β → Hp → Prop} {r : R α} (h : Post rep K W σ ι H Q (noX r)) : Post rep K W' σ' ι H Q r := by
  cases r with
  | ok => exact h
  | exc => exact h.elim
  | stuck => exact h
section
variable {X : Cx} {K : PySem.W.Frag} {W : WX} {pos : Pos} {e : Expr} {es : List Expr}
theorem Zdr {tg : Expr} {t t' : TG} (h : PG X tg t) (i : ∀ v σ H Q, t' v σ H Q → t v σ H Q) : PG X tg t' := ⟨fun pins s σ H v u Q I r q => h.run pins s σ H v u Q I r (i _ _ _ _ q)⟩
theorem Zfp {tg : List Expr} {t t' : TGs} (h : PGs X tg t) (i : ∀ v σ H Q, t' v σ H Q → t v σ H Q) : PGs X tg t' := ⟨fun pins s σ H v u Q I r q => h.run pins s σ H v u Q I r (i _ _ _ _ q)⟩
theorem Vj {i : Nat} {x : PySem.Str} (hN : X.N.Nodup) (hi : X.N[i]? = some x) (hx : Loc X.env.scope x) (hf : X.fn x = true ∨ X.env.scope.names.lookup x = some .local := by first | exact .inl rfl | exact .inr rfl | assumption) : PG X (.Name x pos) (tG K W (gNm i)) :=
  Zdr (pg_name hN hi hx hf) fun v σ H Q h => by
    obtain ⟨ι,ρ,Z,t,is,r,p⟩ := h
    have i2 := is.set r i
    exact p ι H _ Gr.refl is.sim ⟨i2.len,i2.env⟩
theorem Z5z : PGs X [] (tGs K W gsNil) := Zfp pgs_nil fun v σ H Q h => by
  obtain ⟨ι,ρ,Z,t,is,r,p⟩ := h
  cases r with
  | nil => exact ⟨rfl,p ι H _ Gr.refl is.sim ⟨is.len,is.env⟩⟩
  | cons _ _ => exact p.elim
theorem Vd {g : FG} {gs : FGs} (h1 : PG X e (tG K W g)) (h2 : PGs X es (tGs K W gs)) (hs : (assignEach (e :: es) X.env).map (·.2) = assign e X.env :: (assignEach es X.env).map (·.2) := by rfl) : PGs X (e :: es) (tGs K W (gsCons g gs)) := Zfp (pgs_cons h1 h2 hs) fun v σ H Q h => by
  obtain ⟨ι,ρ,Z,t,is,r,p⟩ := h
  cases r with
  | nil => exact p.elim
  | cons r1 r2 =>
    refine ⟨_,_,rfl,ι,ρ,Z,_,is,r1,Z75 (W := W) (σ := σ) ((Zo (rep := rEnv K) p).imp fun σ1 H1 q => ?_)⟩
    obtain ⟨ι1,Z1,ρ1,g1,s1,⟨hl,he⟩,p1⟩ := q
    exact ⟨ι1,ρ1,Z1,_,⟨hl,he,s1⟩,r2.gr g1,Z75 p1⟩
theorem Z9r {k : Nat} {gs : FGs} {n : Nat} (hK : X.K = K) (hc : X.calm = true) (h : PGs X es (tGs K W gs)) (hn : (assignEach es X.env).length = n := by rfl) (hst : (assignEach es X.env).findIdx? (·.1) = none := by rfl) : PG X (.Tuple es k pos) (tG K W (gTp n gs)) := by
  subst hK
  refine Zdr (pg_tup hc h hn hst) fun v σ H Q h => ?_
  obtain ⟨ι,ρ,Z,t,is,r,p⟩ := h
  cases t with
  | tup ts =>
    obtain ⟨a,vs,rfl,hq,r⟩ := r.tupE
    simp only [gTp] at p
    split at p
    · rename_i hl
      exact ⟨a,vs,rfl,hq,by rw [r.length]; exact hl,ι,ρ,Z,ts,is,r,p⟩
    · exact p.elim
  | _ => exact p.elim
def sAsg (f : FE) (g : FG) : FS := fun ρ Z => bS ρ (f ρ Z) fun x Z1 => bS ρ (g x ρ Z1) fun ρ2 Z2 => .nx ρ2 Z2
theorem Z79 {tg : Expr} {fe : FE} {g : FG} (he : FJ X K (Wt W) e fe) (hg : PG X tg (tG K W g)) (hs : swapsWithSole [tg] e pos.line X.env = pure false := by rfl) (hw : swappedStores [tg] e X.env = pure none := by rfl)
    (h1 : (assignEach [tg] X.env).map (·.2) = [assign tg X.env] := by rfl) : FSJ X K W (.Assign [tg] e pos) (sAsg fe g) := Jq (ps_asg he hg hs hw h1) fun D σ H h => by
  obtain ⟨ι,ρ,Z,is,p⟩ := h
  refine Z8n is p fun v H1 ι1 Z1 t g1 i1 r1 p1 => ?_
  refine ⟨ι1,ρ,Z1,t,i1,r1,(Z4e (rep := rEnv K) i1 p1).imp fun σ2 H2 q => ?_⟩
  obtain ⟨ι2,Z2,ρ2,g2,s2,⟨hl,he⟩,p2⟩ := q
  exact p2 ι2 H2 σ2 Gr.refl ⟨hl,he,s2⟩
end
def gSetL : T → T → T → Sto → Option Sto
  | .loc j,.int k,t,Z => match getL Z j with
    | some ts => (ixN ts.length k).map fun n => Z.set j (.lst (ts.set n t))
    | none => none
  | _,_,_,_ => none
def gSubs (fo fi : FE) : FG := fun t ρ Z => (fo ρ Z).bind fun o Z1 => (fi ρ Z1).bind fun i Z2 => match gSetL o i t Z2 with
  | some Z3 => .ok ρ Z3
  | none => .stuck
def sAug (i : Nat) (f : FE) (g : T → T → Sto → Option (T × Sto)) : FS := fun ρ Z => match ρ[i]? with
  | some (some x) => bS ρ (f ρ Z) fun y Z1 => bS ρ (lift (g x y Z1)) fun z Z2 => .nx (ρ.set i (some z)) Z2
  | _ => .stuck
section
variable {X : Cx} {K : PySem.W.Frag} {W : WX} {pos : Pos} {o e : Expr} {fo fi fe : FE}
theorem Zfq {ι : List Addr} {H : Hp} {Z Z3 : Sto} {x y v : V} {tx ty t : T} {Q : Hp → Prop} (s : Sim K ι Z H) (rx : Rep K ι H x tx) (ry : Rep K ι H y ty) (r : Rep K ι H v t) (e : gSetL tx ty t Z = some Z3) (q : ∀ H', Gr ι ι H H' → Sim K ι Z3 H' → Q H') : rSetL x y v H Q := by
  unfold gSetL at e
  split at e
  · split at e
    · rename_i ts h
      obtain ⟨n,h1,rfl⟩ := Option.map_eq_some_iff.mp e
      obtain ⟨a,vs,rfl,ha,hl,rl⟩ := Jr s (Vh h) rx
      cases ry
      refine ⟨a,vs,_,n,rfl,rfl,hl,by rw [rl.length]; exact h1,?_⟩
      have g := Gr.mut (ι := ι) (o := .lst (vs.set n v)) hl trivial (List.mem_of_getElem? ha)
      exact q _ g (s.set ha ⟨_,upd_same,(rl.gr g).set (r.gr g) n⟩)
    · cases e
  · cases e
theorem Z2d {i : Nat} {x : PySem.Str} {op : Operator} {g : T → T → Sto → Option (T × Sto)} {pos' : Pos} (hN : X.N.Nodup) (hi : X.N[i]? = some x) (hx : Loc X.env.scope x) (he : FJ X K (Wt W) e fe) (ho : PIp X op (rF2 K g)) (hf : X.fn x = true ∨ X.env.scope.names.lookup x = some .local := by first | exact .inl rfl | exact .inr rfl | assumption) :
    FSJ X K W (.AugAssign (.Name x pos') op e pos) (sAug i fe g) := Jq (ps_aug hN hi hx he ho hf) fun D σ H h => by
  obtain ⟨ι,ρ,Z,is,p⟩ := h
  unfold sAug at p
  split at p
  · rename_i t et
    obtain ⟨v,h1,h2⟩ := is.env i t et
    refine ⟨v,h1,Z8n is p fun y H1 ι1 Z1 ty g1 i1 r1 p1 => ⟨ι1,Z1,t,ty,i1.sim,h2.gr g1,r1,?_⟩⟩
    refine U6 (W := W) (σ := σ) ((Z4e (rep := Rep K) i1 p1).imp fun z H2 q => ?_)
    obtain ⟨ι2,Z2,tz,g2,s2,r2,p2⟩ := q
    exact p2 ι2 H2 _ Gr.refl ((i1.gr g2 s2).set r2 i)
  · exact p.elim
def gIAdd : T → T → Sto → Option (T × Sto)
  | .int i,.int j,Z => some (.int (i + j),Z)
  | .str a,.str b,Z => if a.length + b.length ≤ Lim then some (.str (a ++ b),Z) else none
  | _,_,_ => none
theorem Z01 : PIp X .Add (rF2 K gIAdd) := by
  intro pins s σ H x y v u Q I rx ry q
  obtain ⟨ι,Z,tx,ty,sm,hx,hy,p⟩ := q
  unfold gIAdd at p
  split at p
  · cases hx; cases hy
    exact ip_add pins s σ H _ _ v u Q I rx ry ⟨_,_,rfl,rfl,Y8 p sm (.int _)⟩
  · split at p
    · rename_i hz
      cases hx; cases hy
      exact iop_add_str pins s σ H _ _ v u Q I rx ry ⟨_,_,rfl,rfl,by rw [S_len,S_len]; exact Z2b hz,by rw [Zlb]; exact Y8 p sm (.str _)⟩
    · exact p.elim
  · exact p.elim
end
abbrev ItF := Nat → Sto → Option (Option T)
abbrev FI := Env → Sto → R ItF
def loopN (it : ItF) (body : T → FS) : Nat → Nat → Env → Sto → RS
  | 0,_,_,_ => .stuck
  | n + 1,k,ρ,Z => match it k Z with
    | none => .stuck
    | some none => .nx ρ Z
    | some (some t) => seqL (body t ρ Z) fun ρ' Z' => loopN it body n (k + 1) ρ' Z'
def sFor (it : FI) (g : FG) (b : FS) : FS := fun ρ Z => bS ρ (it ρ Z) fun j Z1 => loopN j (fun t ρ' Z' => bS ρ' (g t ρ' Z') b) Fuel 0 ρ Z1
def loopW (c : FT) (b : FS) : Nat → Env → Sto → RS
  | 0,_,_ => .stuck
  | n + 1, ρ, Z => bS ρ (c ρ Z) fun x Z1 => if x = true then seqL (b ρ Z1) fun ρ' Z' => loopW c b n ρ' Z' else .nx ρ Z1
def sWhile (fuel : Nat) (c : FT) (b : FS) : FS := fun ρ Z => loopW c b fuel ρ Z
def ItR (K : PySem.W.Frag) (ι : List Addr) (H : Hp) (J : It) (it : ItF) : Prop := ∀ k ι' H' Z', Gr ι ι' H H' → Sim K ι' Z' H' → match it k Z' with
  | none => True
  | some none => J.stop k H'
  | some (some t) => J.go k H' ∧ ∀ x H'', J.yld k H' x H'' → Gr ι' ι' H' H'' ∧ Sim K ι' Z' H'' ∧ Rep K ι' H'' x t
def tI (K : PySem.W.Frag) (W : WX) (f : FI) : TI := fun σ H Q => ∃ ι ρ Z,Is K ι H σ ρ Z ∧ Post (ItR K) K W σ ι H Q (f ρ Z)
section
variable {X : Cx} {K : PySem.W.Frag} {W : WX} {pos : Pos} {tg iter c : Expr} {body : List Stmt} {fi : FI} {g : FG} {b : FS} {ft : FT}
theorem Z3j (hp : PassesOwn (model X.prog X.w) X.A X.env X.xe) (hc : X.calm = true) (hi : PI X tg iter (tI K W fi)) (hg : PG X tg (tG K W g)) (hb : FBJ X K W body b) (hs : ∀ x,foldedSetIterable iter X.env x = pure x := by intro _; rfl) :
    FSJ X K W (.For tg iter body [] pos) (sFor fi g b) := Jq (ps_for hp hc hi hg hb hs) fun D σ H h => by
  obtain ⟨ι,ρ,Z,is,p⟩ := h
  refine ⟨ι,ρ,Z,is,(Z4e (rep := ItR K) is p).imp fun J H1 q => ?_⟩
  obtain ⟨ι1,Z1,it,g1,s1,rJ,p1⟩ := q
  refine ⟨fun k m σ' H' => ∃ ι' ρ' Z', Gr ι1 ι' H1 H' ∧ Is K ι' H' σ' ρ' Z' ∧ PostS K W ι' H' D (loopN it (fun t ρ' Z' => bS ρ' (g t ρ' Z') b) m k ρ' Z'), ⟨Fuel, ι1, ρ, Z1, Gr.refl, is.gr g1 s1, p1⟩, ?_⟩
  rintro k m σ' H' ⟨ι', ρ', Z', g', i', p'⟩
  cases m with
  | zero => exact p'.elim
  | succ m =>
    have hj := rJ k ι' H' Z' g' i'.sim
    unfold loopN at p'
    cases e : it k Z' with
    | none => rw [e] at p'; exact p'.elim
    | some o =>
      rw [e] at hj p'
      cases o with
      | none => exact .inl ⟨hj, p' ι' H' σ' Gr.refl i'⟩
      | some t =>
        refine .inr ⟨hj.1, _, fun σ2 H2 n => ⟨m, Nat.lt_succ_self m, n⟩, fun x H'' y => ?_⟩
        obtain ⟨g2, s2, r2⟩ := hj.2 x H'' y
        have i2 := i'.gr g2 s2
        have p2 := Zbw (PostS.shift p' g2)
        refine ⟨ι', ρ', Z', t, i2, r2, (Z4e (rep := rEnv K) i2 p2).imp fun σ3 H3 q => ?_⟩
        obtain ⟨ι3,Z3,ρ3,g3,s3,⟨hl,he⟩,p3⟩ := q
        have hN : ∀ σ4 H4, (∃ ι4 ρ4 Z4, Gr ι' ι4 H'' H4 ∧ Is K ι4 H4 σ4 ρ4 Z4 ∧ PostS K W ι4 H4 D (loopN it (fun t ρ' Z' => bS ρ' (g t ρ' Z') b) m (k + 1) ρ4 Z4)) → ∃ ι4 ρ4 Z4, Gr ι1 ι4 H1 H4 ∧ Is K ι4 H4 σ4 ρ4 Z4 ∧ PostS K W ι4 H4 D (loopN it (fun t ρ' Z' => bS ρ' (g t ρ' Z') b) m (k + 1) ρ4 Z4) :=
          fun σ4 H4 ⟨ι4, ρ4, Z4, g4, i4, p4⟩ => ⟨ι4, ρ4, Z4, (g'.trans g2).trans g4, i4, p4⟩
        exact ⟨ι3,ρ3,Z3,⟨hl,he,s3⟩,p3.imp hN (fun _ _ q => q) (fun _ _ q => q) hN⟩
theorem Jb {fuel : Nat} (hp : PassesOwn (model X.prog X.w) X.A X.env X.xe) (hc : FTJ X K (Wt W) c ft) (hb : FBJ X K W body b) : FSJ X K W (.While c body [] pos) (sWhile fuel ft b) := Jq (ps_while hp hc hb) fun D σ H h => by
  obtain ⟨ι,ρ,Z,is,p⟩ := h
  refine ⟨fun m σ' H' => ∃ ι' ρ' Z', Gr ι ι' H H' ∧ Is K ι' H' σ' ρ' Z' ∧ PostS K W ι' H' D (loopW ft b m ρ' Z'), ⟨fuel, ι, ρ, Z, Gr.refl, is, p⟩, ?_⟩
  rintro m σ' H' ⟨ι', ρ', Z', g', i', p'⟩
  cases m with
  | zero => exact p'.elim
  | succ m =>
    unfold loopW at p'
    refine Zj8 i' p' fun v H1 ι1 Z1 g1 i1 p1 => ?_
    cases v with
    | false => exact p1 ι1 H1 σ' Gr.refl i1
    | true =>
      rw [if_pos rfl] at p1 ⊢
      have hN : ∀ σ4 H4,(∃ ι4 ρ4 Z4,Gr ι1 ι4 H1 H4 ∧ Is K ι4 H4 σ4 ρ4 Z4 ∧ PostS K W ι4 H4 D (loopW ft b m ρ4 Z4)) → ∃ ι4 ρ4 Z4,Gr ι ι4 H H4 ∧ Is K ι4 H4 σ4 ρ4 Z4 ∧ PostS K W ι4 H4 D (loopW ft b m ρ4 Z4) :=
        fun σ4 H4 ⟨ι4, ρ4, Z4, g4, i4, p4⟩ => ⟨ι4, ρ4, Z4, (g'.trans g1).trans g4, i4, p4⟩
      exact ⟨_, fun σ2 H2 n => ⟨m, Nat.lt_succ_self m, n⟩, ι1, ρ', Z1, i1, (Zbw p1).imp hN (fun _ _ q => q) (fun _ _ q => q) hN⟩
end
def itSeq (ts : List T) : ItF := fun k _ => some ts[k]?
def itLoc (i : Nat) : ItF := fun k Z => (getL Z i).map fun ts => ts[k]?
def itEnum (it : ItF) : ItF := fun k Z => (it k Z).map fun o => o.map fun t => .tup [.int (k : Int),t]
def itRng (lo : Int) (n : Nat) : ItF := fun k _ => some (if k < n then some (.int (lo + k)) else none)
def itStr (l : List Nat) : ItF := fun k _ => some (l[k]?.map fun c => .str [c])
def iSeqT (f : FE) : FI := fun ρ Z => (f ρ Z).bind fun x Z1 => match x with
  | .tup ts => .ok (itSeq ts) Z1
  | _ => .stuck
def iSeqL (f : FE) : FI := fun ρ Z => (f ρ Z).bind fun x Z1 => match x with
  | .frl ts => .ok (itSeq ts) Z1
  | .loc i => match getL Z1 i with
    | some _ => .ok (itLoc i) Z1
    | none => .stuck
  | _ => .stuck
def iStr (f : FE) : FI := fun ρ Z => (f ρ Z).bind fun x Z1 => match x with
  | .str l => .ok (itStr l) Z1
  | _ => .stuck
def iRng (f : FA) : FI := fun ρ Z => (f ρ Z).bind fun xs Z1 => match xs with
  | [.int j] => if -(2 ^ 62) ≤ j ∧ j < 2 ^ 62 then .ok (itRng 0 j.toNat) Z1 else .stuck
  | [.int i,.int j] => if -(2 ^ 62) ≤ i ∧ i < 2 ^ 62 ∧ -(2 ^ 62) ≤ j ∧ j < 2 ^ 62 then .ok (itRng i (j - i).toNat) Z1 else .stuck
  | _ => .stuck
section
variable {X : Cx} {K : PySem.W.Frag} {W : WX} {pos p : Pos} {tg l a b : Expr} {fl : FE} {fa : FA}
theorem Z7a {t t' : TI} (h : PI X tg l t) (i : ∀ σ H Q, t' σ H Q → t σ H Q) : PI X tg l t' := ⟨fun pins s σ H R I q => h.run pins s σ H R I (i _ _ _ q)⟩
theorem Zds {ι : List Addr} {H : Hp} {Z : Sto} {v : V} {t : T} {it : ItF} (s : Sim K ι Z H) (r : Rep K ι H v t) (e : (match t with
  | .frl ts => some (itSeq ts)
  | .loc i => match getL Z i with
    | some _ => some (itLoc i)
    | none => none
  | _ => none) = some it) : ∃ a,v = .ref a ∧ (∃ xs,SqL K H a xs) ∧ ItR K ι H (Itl K a) it := by
  cases t with
  | frl ts =>
    cases e
    cases r with
    | frl hq rs =>
      refine ⟨_, rfl, ⟨_, hq.sq⟩, fun k ι' H' Z' g' s' => ?_⟩
      have hq' := (hq.gr g').sq
      show match (itSeq ts k Z') with | none => True | some none => _ | some (some t) => _
      simp only [itSeq]
      cases e : ts[k]? with
      | none => exact ⟨_, hq', by rw [rs.length]; exact List.getElem?_eq_none_iff.mp e⟩
      | some u =>
        obtain ⟨x,h1,h2⟩ := rs.get e
        refine ⟨⟨_, x, hq', h1⟩, fun y H'' hy => ?_⟩
        obtain ⟨rfl,hy⟩ := hy
        have := hy _ hq'
        rw [h1] at this; cases this
        exact ⟨Gr.refl, s', h2.gr g'⟩
  | loc i =>
    simp only at e
    split at e
    · rename_i ts hl
      cases e
      obtain ⟨a,vs,rfl,ha,h1,h2⟩ := Jr s (Vh hl) r
      refine ⟨a, rfl, ⟨vs, SqL.of h1⟩, fun k ι' H' Z' g' s' => ?_⟩
      simp only [itLoc]
      cases e : getL Z' i with
      | none => exact trivial
      | some ts' =>
        obtain ⟨a', vs', ea, ha', h1', h2'⟩ := Jr s' (Vh e) (.loc (g'.pre _ _ ha))
        cases ea
        simp only [Option.map_some]
        cases e2 : ts'[k]? with
        | none => exact ⟨_, SqL.of h1', by rw [h2'.length]; exact List.getElem?_eq_none_iff.mp e2⟩
        | some u =>
          obtain ⟨x, h3, h4⟩ := h2'.get e2
          refine ⟨⟨_, x, SqL.of h1', h3⟩, fun y H'' hy => ?_⟩
          obtain ⟨rfl,hy⟩ := hy
          have := hy _ (SqL.of h1')
          rw [h3] at this; cases this
          exact ⟨Gr.refl, s', h4⟩
    · cases e
  | _ => cases e
theorem Zjw (hK : X.K = K) (hl : FJ X K (Wt W) l fl) : PI X tg l (tI K W (iSeqL fl)) := by
  subst hK
  refine Z7a (pi_list hl) fun σ H Q h => ?_
  obtain ⟨ι,ρ,Z,is,p⟩ := h
  refine ⟨ι,ρ,Z,is.ie,(Zo (rep := Rep X.K) p).imp fun v H1 q => ?_⟩
  obtain ⟨ι1,Z1,t,g1,s1,r1,p1⟩ := q
  cases t with
  | frl ts =>
    obtain ⟨a,rfl,hx,hI⟩ := Zds (it := itSeq ts) s1 r1 rfl
    exact ⟨a,rfl,hx,p1 ι1 H1 _ Gr.refl s1 hI⟩
  | loc i =>
    simp only at p1
    split at p1
    · rename_i ts e
      obtain ⟨a,rfl,hx,hI⟩ := Zds (it := itLoc i) s1 r1 (by simp only [e])
      exact ⟨a,rfl,hx,p1 ι1 H1 _ Gr.refl s1 hI⟩
    · exact p1.elim
  | _ => exact p1.elim
theorem Zle (hK : X.K = K) (hl : FJ X K (Wt W) l fl) : PI X tg l (tI K W (iSeqT fl)) := by
  subst hK
  refine Z7a (pi_tup hl) fun σ H Q h => ?_
  obtain ⟨ι,ρ,Z,is,p⟩ := h
  refine ⟨ι,ρ,Z,is.ie,(Zo (rep := Rep X.K) p).imp fun v H1 q => ?_⟩
  obtain ⟨ι1,Z1,t,g1,s1,r1,p1⟩ := q
  cases t with
  | tup ts =>
    obtain ⟨a,vs,rfl,hq,rs⟩ := r1.tupE
    refine ⟨a, rfl, ⟨_, hq⟩, p1 ι1 H1 _ Gr.refl s1 fun k ι' H' Z' g' s' => ?_⟩
    have hq' := SqT.gr g' hq
    show match (itSeq ts k Z') with | none => True | some none => _ | some (some t) => _
    simp only [itSeq]
    cases e : ts[k]? with
    | none => exact ⟨_, hq', by rw [rs.length]; exact List.getElem?_eq_none_iff.mp e⟩
    | some u =>
      obtain ⟨x,h1,h2⟩ := rs.get e
      refine ⟨⟨_, x, hq', h1⟩, fun y H'' hy => ?_⟩
      obtain ⟨rfl,hy⟩ := hy
      have := hy _ hq'
      rw [h1] at this; cases this
      exact ⟨Gr.refl, s', h2.gr g'⟩
  | _ => exact p1.elim
theorem Zlf (hl : FJ X K (Wt W) l fl) : PI X tg l (tI K W (iStr fl)) := by
  refine Z7a (pi_str hl) fun σ H Q h => ?_
  obtain ⟨ι,ρ,Z,is,p⟩ := h
  refine ⟨ι,ρ,Z,is.ie,(Zo (rep := Rep K) p).imp fun v H1 q => ?_⟩
  obtain ⟨ι1,Z1,t,g1,s1,r1,p1⟩ := q
  cases t with
  | str u =>
    cases r1
    refine ⟨_, rfl, p1 ι1 H1 _ Gr.refl s1 fun k ι' H' Z' g' s' => ?_⟩
    simp only [itStr]
    cases e : u[k]? with
    | none => exact show (S u).cps.size ≤ k by simpa [S] using e
    | some c =>
      have hk : k < u.length := (List.getElem?_eq_some_iff.mp e).1
      refine ⟨show k < (S u).cps.size by simpa [S] using hk, fun y H'' hy => ?_⟩
      obtain ⟨rfl, c', hc', rfl⟩ := hy
      have : c' = c := by
        have h2 : u[k]? = some c' := by simpa [S] using hc'
        rw [e] at h2; exact (Option.some.inj h2).symm
      subst this
      exact ⟨Gr.refl, s', .str [c']⟩
  | _ => exact p1.elim
theorem Zlg {ι : List Addr} {H : Hp} (lo : Int) (n : Nat) : ItR K ι H (Itr lo n) (itRng lo n) := fun k ι' H' Z' g' s' => by
  simp only [itRng]
  by_cases h : k < n
  · rw [if_pos h]
    refine ⟨h, fun y H'' hy => ?_⟩
    obtain ⟨rfl,rfl⟩ := hy
    exact ⟨Gr.refl, s', .int _⟩
  · rw [if_neg h]
    exact Nat.le_of_not_lt h
theorem Z0v (hg : Gl X "range") (hm : X.mg "range" = none) (ha : FAJ X K (Wt W) [a] fa) (hn : ofLen [a] fa) (hs : starEach [a] X.env = [(false, eval a X.env)] := by rfl) : PI X tg (.Call (.Name "range" p) [a] [] pos) (tI K W (iRng fa)) := by
  refine Z7a (pi_range1 hg hm ha hs) fun σ H Q h => ?_
  obtain ⟨ι,ρ,Z,is,p⟩ := h
  refine ⟨ι,ρ,Z,is.ie,?_⟩
  unfold iRng at p
  cases e : fa ρ Z with
  | ok ts Z1 =>
    rw [e,Yy] at p
    have hl := hn _ _ _ _ e
    intro ι1 H1 vs g1 s1 r1
    match ts,r1,hl with
    | [t],.cons r .nil,_ =>
      cases t with
      | int j =>
        simp only at p
        split at p
        · rename_i hb
          cases r
          exact ⟨j,rfl,hb.1,hb.2,p ι1 H1 _ g1 s1 (Zlg _ _)⟩
        · exact p.elim
      | _ => exact p.elim
  | exc x Z1 => rw [e] at p; exact p
  | stuck => rw [e] at p; exact p
def iEnm (f : FA) : FI := fun ρ Z => (f ρ Z).bind fun xs Z1 => match xs with
  | [.frl ts] => .ok (itEnum (itSeq ts)) Z1
  | [.loc i] => match getL Z1 i with
    | some _ => .ok (itEnum (itLoc i)) Z1
    | none => .stuck
  | _ => .stuck
theorem Zja {ι : List Addr} {H : Hp} {a : Addr} {it : ItF} (h : ItR K ι H (Itl K a) it) : ItR K ι H (Ite K a) (itEnum it) := fun k ι' H' Z' g' s' => by
  have h' := h k ι' H' Z' g' s'
  simp only [itEnum]
  cases e : it k Z' with
  | none => exact trivial
  | some o =>
    rw [e] at h'
    cases o with
    | none => exact h'
    | some t =>
      refine ⟨h'.1, fun x H'' y => ?_⟩
      obtain ⟨p,v,rfl,np,rfl,hv⟩ := y
      obtain ⟨_, _, r⟩ := h'.2 v H' ⟨rfl, hv⟩
      exact ⟨Gr.new0 np, s'.same (Z00 np), .tup (SqT.of upd_same) (.cons (.int _) (.cons (r.gr (Gr.new0 np)) .nil))⟩
theorem Zjx {tpos : Pos} {elts : List Expr} {kk : Nat} (hK : X.K = K) (hg : Gl X "enumerate") (hm : X.mg "enumerate" = none) (ha : FAJ X K (Wt W) [a] fa) (hn : ofLen [a] fa) (hs : starEach [a] X.env = [(false, eval a X.env)] := by rfl) : PI X (.Tuple elts kk tpos) (.Call (.Name "enumerate" p) [a] [] pos) (tI K W (iEnm fa)) := by
  subst hK
  refine Z7a (pi_enum hg hm ha hs) fun σ H Q h => ?_
  obtain ⟨ι,ρ,Z,is,p⟩ := h
  refine ⟨ι,ρ,Z,is.ie,?_⟩
  unfold iEnm at p
  cases e : fa ρ Z with
  | ok ts Z1 =>
    rw [e,Yy] at p
    have hl := hn _ _ _ _ e
    intro ι1 H1 vs g1 s1 r1
    match ts,r1,hl with
    | [t],.cons r .nil,_ =>
      cases t with
      | frl us =>
        obtain ⟨b,rfl,⟨xs,hx⟩,hI⟩ := Zds (it := itSeq us) s1 r rfl
        exact ⟨b,xs,rfl,hx,p ι1 H1 _ g1 s1 (Zja hI)⟩
      | loc i =>
        simp only at p
        split at p
        · rename_i us e
          obtain ⟨b,rfl,⟨xs,hx⟩,hI⟩ := Zds (it := itLoc i) s1 r (by simp only [e])
          exact ⟨b,xs,rfl,hx,p ι1 H1 _ g1 s1 (Zja hI)⟩
        · exact p.elim
      | _ => exact p.elim
  | exc x Z1 => rw [e] at p; exact p
  | stuck => rw [e] at p; exact p
end
end Fx
set_option maxHeartbeats 4000000
namespace Fx
open PySem PySem.Spec PyProof.Rows L2 SX Ap
variable [Tb]
abbrev FF := List T → Sto → R T
def spF (K : PySem.W.Frag) (n : Nat) (F : FF) : Sp := fun vs H Q E => vs.length = n ∧ ∃ ι Z ts,Sim K ι Z H ∧ Reps K ι H vs ts ∧ Post (Rep K) K (fun cls d _ H => E cls d H) [] ι H Q (F ts Z)
def runF (n : Nat) (b : FS) : FF := fun ts Z => match b (ts.map some ++ List.replicate (n - ts.length) none) Z with
  | .nx _ Z' => .ok .non Z'
  | .rt t Z' => .ok t Z'
  | .exc x _ Z' => .exc x Z'
  | _ => .stuck
theorem Zeo {K : PySem.W.Frag} {ι : List Addr} {H : Hp} {vs : List V} {ts : List T} (r : Reps K ι H vs ts) (m : Nat) : Envs K ι H (vs.map some ++ List.replicate m none) (ts.map some ++ List.replicate m none) := fun i t h => by
  by_cases hi : i < ts.length
  · rw [List.getElem?_append_left (by rw [List.length_map]; exact hi),List.getElem?_map] at h
    cases e : ts[i]? with
    | none => rw [e] at h; cases h
    | some u =>
      rw [e] at h
      cases h
      obtain ⟨v,h1,h2⟩ := r.get e
      exact ⟨v,by rw [List.getElem?_append_left (by rw [List.length_map,r.length]; exact hi),List.getElem?_map,h1]; rfl,h2⟩
  · rw [List.getElem?_append_right (by rw [List.length_map]; omega)] at h
    rw [List.getElem?_replicate] at h
    split at h <;> cases h
abbrev FnG (P : Program) (w : World) (K : PySem.W.Frag) (mg : PySem.Str → Option Value) (base : Heap) (k : Nat) (f : Addr) (fd : FuncData) (ps : List PySem.Str) (sp : Sp) : Prop := GOk P w K mg base (L2.CX P w) k f fd ps sp
section
variable {P : Program} {w : World} {K : PySem.W.Frag} {mg : PySem.Str → Option Value} {base : Heap}
theorem fn_GX {k : Nat} {f : Addr} {name qual : PySem.Str} {params : Arguments} {body : List Stmt} {scope : Scope} {dV kV doc pm cdv ct oc : Value} {an od : Option Addr}
    {osl : Array (Option Value)} {N ps : List PySem.Str} {sp : Sp} (lk : K.lookup f = some ⟨oc,od,.func (PySem.W.fnOf name qual params body scope dV kV doc pm an cdv ct),osl⟩) (hcd : PySem.W.codeIn K cdv qual = true) (S : FnScope N ps scope)
    (len : ∀ vs H Q E,sp vs H Q E → vs.length = ps.length)
    (hbody : ∀ (A : Around) (outer : List PySem.Env) (s : Shared) (H : Hp) (vs : List V) (Q : VK) (E : XK),Room k (A.deeper (envOfC qual scope s.heap.objs.size f cdv)) → A.guards = some [] → sp vs H Q E →
      ∃ t, PSs (cxOf (L2.CX P w) P w K mg base N qual scope f cdv A outer s H E) body t ∧ t { nx := fun _ H' => Q .non H', rt := Q } (L2.start N vs) H) :
    FnG P w K mg base (k + 1) f (PySem.W.fnOf name qual params body scope dV kV doc pm an cdv ct) ps sp := by
  refine ⟨len,fun A outer s H args us vs Q E hr hG e0 hb r hsp => ?_⟩
  have hl := len _ _ _ _ hsp
  have KX : K.In s.heap := e0.mod.kin.keeps fun b o e => (e0.bs b o e).1
  have lim : s.heap.NoLimit := e0.mod.nolimit.keeps fun b o e => (e0.bs b o e).1
  have hkind : ∀ y ∈ ps.zip us,scope.names.lookup y.1 = some .local ∨ (scope.names.lookup y.1 = some .cell ∧ ((cellsFrom (s.heap.objs.size + 1) scope.names []).lookup y.1).isSome = true) := fun ⟨n,v⟩ hy => by
    rcases S.par n (List.of_mem_zip hy).1 with q | q
    · exact .inl q
    · exact .inr ⟨q,PySem.W.cellsFrom_some _ _ _ (.inl q)⟩
  refine codeAny_call_function hr.depth (KX _ _ lk) rfl S.co S.gen rfl (PySem.W.codeRec_of KX hcd) (hb _ _ _ _ ?_)
  refine wpAny_newFunctionEnv_cells S.kind hkind fun env he s1 x => ?_
  subst he
  refine ⟨lim.keeps x.toInCall.keep,codeAny_func ?_⟩
  obtain ⟨t,ht,hq⟩ := hbody A outer s H vs Q E (hr.deeper _) hG hsp
  have I : Inv (cxOf (L2.CX P w) P w K mg base N qual scope f cdv A outer s H E) [] (L2.start N vs) H s1 := inv_start S hr.hd e0 hl r x
  refine wpAny_mono (ht.run [] s1 (L2.start N vs) H _ I hq) (fun fl s' hs => ?_) fun e s' hs => hs
  have fin : ∀ {σ' : L2.St} {H' : Hp} {v : V} {u : Value}, Inv (cxOf (L2.CX P w) P w K mg base N qual scope f cdv A outer s H E) [] σ' H' s' → RelV v u → Q v H' → CE outer P w H s Q u s' :=
    fun {σ' H' v u} J rv q => ⟨v, H', J.os, J.bare, J.base, J.hok, rv, q⟩
  cases fl with
  | ret u =>
    obtain ⟨v, σ', H', J, rv, q⟩ := hs
    exact fin J rv q
  | next =>
    obtain ⟨σ', H', J, q⟩ := hs
    exact fin (v := V.non) (u := Value.none) J rfl q
  | brk =>
    obtain ⟨_,_,_,q⟩ := hs
    exact False.elim q
  | cont =>
    obtain ⟨_,_,_,q⟩ := hs
    exact False.elim q
def BodyJ (P : Program) (w : World) (K : PySem.W.Frag) (mg : PySem.Str → Option Value) (base : Heap) (k : Nat) (f : Addr) (N : List PySem.Str) (qual : PySem.Str) (scope : Scope) (body : List Stmt) (b : FS) : Prop :=
  ∀ (cdv : Value) (A : Around) (outer : List PySem.Env) (s : Shared) (H : Hp) (E : XK),Room k (A.deeper (envOfC qual scope s.heap.objs.size f cdv)) → A.guards = some [] →
    FBJ (cxOf (L2.CX P w) P w K mg base N qual scope f cdv A outer s H E) K (fun cls d _ H => E cls d H) body b
theorem Zlh {k : Nat} {f : Addr} {N : List PySem.Str} {qual : PySem.Str} {scope : Scope} {body : List Stmt} {b : FS} {n : Nat} (hb : BodyJ P w K mg base k f N qual scope body b) (cdv : Value) (A : Around) (outer : List PySem.Env) (s : Shared) (H : Hp) (vs : List V) (Q : VK) (E : XK) (hr : Room k (A.deeper (envOfC qual scope s.heap.objs.size f cdv))) (hG : A.guards = some []) (h : spF K n (runF N.length b) vs H Q E) :
      ∃ t, PSs (cxOf (L2.CX P w) P w K mg base N qual scope f cdv A outer s H E) body t ∧ t { nx := fun _ H' => Q .non H', rt := Q } (L2.start N vs) H := by
  refine ⟨_,hb cdv A outer s H E hr hG,?_⟩
  obtain ⟨hl,ι,Z,ts,sim,r,p⟩ := h
  have hl2 := r.length
  refine ⟨ι,ts.map some ++ List.replicate (N.length - ts.length) none,Z,⟨by simp only [L2.start,List.length_append,List.length_map,List.length_replicate]; omega,?_,sim⟩,?_⟩
  · have := Zeo r (N.length - ts.length)
    unfold L2.start
    rw [hl2]
    exact this
  · unfold runF at p
    split at p
    · rename_i e; rw [e]; exact fun ι' H' σ' g is => p ι' H' _ g is.sim .non
    · rename_i e; rw [e]; exact p
    · rename_i e; rw [e]; exact fun ι' H' σ' cls d g is rx => p ι' H' cls d g is.sim rx
    · exact p.elim
theorem fnFD {x qual : PySem.Str} {params : Arguments} {body : List Stmt} {scope : Scope} {dvs : List V} {kws : List (PySem.Str × V)} {f : Addr} {fd : FuncData} {N ps : List PySem.Str} {k : Nat} {b : FS} (F : FunD K x qual params body scope dvs kws f fd) (S : FnScope N ps scope) (hb : BodyJ P w K mg base k f N qual scope body b) :
    FnG P w K mg base (k + 1) f fd ps (spF K ps.length (runF N.length b)) := by
  obtain ⟨oc,od,dV,kV,doc,pm,an,cdv,ct,osl,rfl,lk,hcd,_,_⟩ := F.ex
  exact fn_GX lk hcd S (fun vs H Q E h => h.1) fun A outer s H vs Q E hr hG h => Zlh hb cdv A outer s H vs Q E hr hG h
end
def eCall (F : FF) (ds : List T) (fa : FA) : FE := fun ρ Z => (fa ρ Z).bind fun ts Z1 => F (ts ++ ds) Z1
def eCallB (g : List T → Sto → Option (T × Sto)) (fa : FA) : FE := fun ρ Z => (fa ρ Z).bind fun xs Z1 => lift (g xs Z1)
def Dfl (K : PySem.W.Frag) (vs : List V) (ts : List T) : Prop := ∀ ι H,Reps K ι H vs ts
theorem Dfl.nil {K : PySem.W.Frag} : Dfl K [] [] := fun _ _ => .nil
section
variable {X : Cx} {K : PySem.W.Frag} {W : Wc} {x : PySem.Str} {p pos : Pos} {e : Expr} {es : List Expr} {fa : FA} {k n : Nat} {f : Addr} {fd : FuncData} {ps : List PySem.Str} {F : FF} {dvs : List V} {ds : List Value} {dts : List T}
theorem Zjy {pins : List (Addr × Obj)} {σ : L2.St} {H : Hp} {s : Shared} {Q : VK} {us : List Value} {vs : List V} {sp : Sp} (G : FnG X.prog X.w X.K X.mg X.base k f fd ps sp) (hr : Room k X.A) (hG : X.A.guards = some []) (hb : Binds X.K fd ps ds) (hd : Vals dvs ds) (tk : Takes X W.w)
    (I : Inv X pins σ H s) (r : Vals vs us) (h : sp (vs ++ dvs) H Q (WE W.w σ)) : wpAny (model X.prog X.w) X.A (call (.ref f) us) (EP X pins σ Q) X.xe s := by
  have r2 : Vals (vs ++ dvs) (us ++ ds) := r.append hd
  have hl : (us ++ ds).length = ps.length := by rw [← r2.length]; exact G.len _ _ _ _ h
  refine wpAny_call (codeAny_mono (G.run X.A X.stack s H ⟨us, []⟩ (us ++ ds) (vs ++ dvs) Q (WE W.w σ) hr hG I.env0 (hb s us I.kIn hl) r2 h) fun r s' hq => ?_)
  cases r with
  | error e => exact passAt tk σ pins H s e s' I hq
  | ok fl =>
    cases fl with
    | ret u => exact I.after hq
    | next => exact False.elim hq
    | brk => exact False.elim hq
    | cont => exact False.elim hq
theorem Post.wx {α β : Type} {rep : List Addr → Hp → β → α → Prop} {W W' : WX} {σ σ' : L2.St} {ι : List Addr} {H : Hp} {Q : β → Hp → Prop} {r : R α} (h : Post rep K W σ ι H Q r) (i : ∀ cls d H, W cls d σ H → W' cls d σ' H) : Post rep K W' σ' ι H Q r := by
  cases r with
  | ok => exact h
  | exc => exact fun ι' H' cls d g s rx => i _ _ _ (h ι' H' cls d g s rx)
  | stuck => exact h
theorem Yd (hK : X.K = K) (G : FnG X.prog X.w X.K X.mg X.base k f fd ps (spF X.K n F)) (hr : Room k X.A) (hG : X.A.guards = some []) (hg : Gl X x) (hm : X.mg x = some (.ref f)) (hk : PySem.W.keepIn X.K (.ref f) = true) (hb : Binds X.K fd ps ds) (hd : Vals dvs ds) (hdf : Dfl K dvs dts) (tk : Takes X W.w)
    (ha : FAJ X K W (e :: es) fa) (hn : ofLen (e :: es) fa) (hln : (e :: es).length + dts.length = n := by rfl) (hdb : (x == ("__debug__" : PySem.Str)) = false := by decide) (he : starEach (e :: es) X.env = (false, eval e X.env) :: starEach es X.env := by rfl) (hpl : (backTo pos (starEach es X.env)).any (·.1) = false := by rfl) :
    FJ X K W (.Call (.Name x p) (e :: es) [] pos) (eCall F dts fa) := by
  subst hK
  refine ⟨fun pins s σ H Q I h => ?_⟩
  refine wpAny_Call_Name_kw (ld_glob I hg hm ?_ hdb)
  obtain ⟨ι,ρ,Z,is,p⟩ := h
  have t : tFA X.K W fa σ H (fun vs H1 => spF X.K n F (vs ++ dvs) H1 Q (WE W.w σ)) := by
    refine ⟨ι,ρ,Z,is,?_⟩
    unfold eCall at p
    cases e : fa ρ Z with
    | ok ts Z1 =>
      rw [e,Yy] at p
      refine fun ι1 H1 vs g1 s1 r1 => ?_
      have r2 := r1.append (hdf ι1 H1)
      refine ⟨?_,ι1,Z1,_,s1,r2,(p.shift g1).wx fun _ _ _ h => h⟩
      rw [r2.length,List.length_append,hn _ _ _ _ e]
      exact hln
    | exc y Z1 => rw [e] at p; exact p
    | stuck => rw [e] at p; exact p
  refine PySem.W.callWith_K (h₀ := X.base) I.ok.mod.kin hk (thn (ha.run pos pins s σ H _ I t) fun us s1 ⟨vs,H1,I1,r,q⟩ => ⟨I1.kIn,?_⟩) he hpl
  exact Zjy G hr hG hb hd tk I1 r q
theorem Zdt {r : List V → Hp → VK → Prop} {g : List T → Sto → Option (T × Sto)} (hr : ∀ xs H Q,rFC K g xs H Q → r xs H Q) {σ : L2.St} {H : Hp} {Q : VK} (h : tF K W (eCallB g fa) σ H Q) : tCB r (tFA K W fa) σ H Q := by
  obtain ⟨ι,ρ,Z,is,p⟩ := h
  refine ⟨ι,ρ,Z,is,(Zo (rep := Reps K) p).imp fun xs H1 q => ?_⟩
  obtain ⟨ι1,Z1,ts,g1,s1,r1,p1⟩ := q
  exact hr _ _ _ ⟨ι1,Z1,ts,s1,r1,U6 p1⟩
theorem X8 {id : String} {g : List T → Sto → Option (T × Sto)} (hc : CallR X (.builtin id) (rFC K g)) (hg : Gl X x) (hm : X.mg x = none) (hv : bootBuiltins x = some (.builtin id)) (ha : FAJ X K W (e :: es) fa) (hn : x ≠ "__name__" := by decide) (hdb : (x == ("__debug__" : PySem.Str)) = false := by decide)
    (he : starEach (e :: es) X.env = (false,eval e X.env) :: starEach es X.env := by rfl) (hpl : (backTo pos (starEach es X.env)).any (·.1) = false := by rfl) : FJ X K W (.Call (.Name x p) (e :: es) [] pos) (eCallB g fa) :=
  Vz (pe_callB hc hg hm hv ha hn hdb he hpl) fun _ _ _ h => Zdt (fun _ _ _ h => h) h
theorem Vr {id : String} {g : List T → Sto → Option (T × Sto)} (hc : CallR X (.type id) (rFC K g)) (hg : Gl X x) (hm : X.mg x = none) (hv : bootBuiltins x = some (.type id)) (ha : FAJ X K W (e :: es) fa) (hn : x ≠ "__name__" := by decide) (hdb : (x == ("__debug__" : PySem.Str)) = false := by decide)
    (he : starEach (e :: es) X.env = (false,eval e X.env) :: starEach es X.env := by rfl) (hpl : (backTo pos (starEach es X.env)).any (·.1) = false := by rfl) : FJ X K W (.Call (.Name x p) (e :: es) [] pos) (eCallB g fa) :=
  Vz (pe_callTy hc hg hm hv ha hn hdb he hpl) fun _ _ _ h => Zdt (fun _ _ _ h => h) h
end
def gLen : List T → Sto → Option (T × Sto)
  | [.str l],Z => if l.length ≤ Lim then some (.int l.length,Z) else none
  | [t],Z => (asSeq t Z).map fun ts => (.int ts.length,Z)
  | _,_ => none
def gMax : List T → Sto → Option (T × Sto)
  | [.int i,.int j],Z => some (.int (if j > i then j else i),Z)
  | _,_ => none
def gMin : List T → Sto → Option (T × Sto)
  | [.int i,.int j],Z => some (.int (if j < i then j else i),Z)
  | _,_ => none
def gAbs : List T → Sto → Option (T × Sto)
  | [.int i],Z => some (.int (if i < 0 then -i else i),Z)
  | _,_ => none
def gInt : List T → Sto → Option (T × Sto)
  | [.int i],Z => some (.int i,Z)
  | [.bl b],Z => some (.int (if b then 1 else 0),Z)
  | _,_ => none
def gTuple : List T → Sto → Option (T × Sto)
  | [.tup ts],Z => some (.tup ts,Z)
  | [t],Z => (asList t Z).map fun ts => (.tup ts,Z)
  | _,_ => none
def tyT : T → Sto → Option String
  | .non, _ => some "NoneType" | .bl _, _ => some "bool" | .int _, _ => some "int" | .str _, _ => some "str" | .tup _, _ => some "tuple" | .frl _, _ => some "list"
  | .loc i,Z => match Z[i]? with
    | some (.lst _) => some "list"
    | some (.dk _) => some "dict"
    | some (.dt _) => some "dict"
    | _ => none
  | _,_ => none
def clsT : T → Option String
  | .ty n => some n
  | _ => none
def gIsiB (t : T) (c : T) (Z : Sto) : Option Bool := match tyT t Z,clsT c with
  | some a,some b => kitB a b
  | _,_ => none
def gIsi : List T → Sto → Option (T × Sto)
  | [t,.ty n],Z => (gIsiB t (.ty n) Z).map fun b => (.bl b,Z)
  | [t,.tup cs],Z => if (tyT t Z).isSome = true then ((cs.mapM fun c => gIsiB t c Z).map fun bs => (.bl (bs.any id),Z)) else none
  | _,_ => none
section
variable {X : Cx} {K : PySem.W.Frag}
theorem Reps.one {ι : List Addr} {H : Hp} {vs : List V} {t : T} (r : Reps K ι H vs [t]) : ∃ v,vs = [v] ∧ Rep K ι H v t := by
  cases r with
  | cons r q => cases q; exact ⟨_,rfl,r⟩
theorem Reps.two {ι : List Addr} {H : Hp} {vs : List V} {t u : T} (r : Reps K ι H vs [t,u]) : ∃ v w,vs = [v,w] ∧ Rep K ι H v t ∧ Rep K ι H w u := by
  cases r with
  | cons r q =>
    obtain ⟨w,rfl,r2⟩ := q.one
    exact ⟨_,_,rfl,r,r2⟩
theorem Zae (hK : X.K = K) : CallR X (.builtin "len") (rFC K gLen) := by
  subst hK
  refine Qg (Zct call_len_str call_len_seq) fun xs H Q h => ?_
  obtain ⟨ι,Z,ts,s,r,p⟩ := h
  match ts,r,p with
  | [],_,p => exact p.elim
  | _ :: _ :: _,_,p => simp only [gLen] at p; exact p.elim
  | [t],r,p =>
    obtain ⟨v,rfl,rr⟩ := r.one
    by_cases hs : ∃ l,t = .str l
    · obtain ⟨l,rfl⟩ := hs
      simp only [gLen] at p
      split at p
      · rename_i hz
        cases rr
        exact .inl ⟨_,rfl,by rw [S_len]; exact Z2b hz,by rw [S_len]; exact Y8 p s (.int _)⟩
      · exact p.elim
    · have e0 : gLen [t] Z = (asSeq t Z).map fun ts => (.int ts.length,Z) := by
        cases t <;> first | rfl | exact absurd ⟨_,rfl⟩ hs
      rw [e0] at p
      cases e : asSeq t Z with
      | none => rw [e] at p; exact p.elim
      | some us =>
        rw [e] at p
        obtain ⟨a,vs,rfl,hq,rs⟩ := Z4y s rr e
        exact .inr ⟨a,vs,rfl,hq,by rw [rs.length]; exact Y8 p s (.int _)⟩
theorem Zep (hc : X.calm = true) : CallR X (.builtin "max") (rFC K gMax) := Qg (call_max2 hc) fun xs H Q h => by
  obtain ⟨ι,Z,ts,s,r,p⟩ := h
  unfold gMax at p
  split at p
  · obtain ⟨v,w,rfl,r1,r2⟩ := r.two
    cases r1; cases r2
    exact ⟨_,_,rfl,Y8 p s (.int _)⟩
  · exact p.elim
theorem c_min (hc : X.calm = true) : CallR X (.builtin "min") (rFC K gMin) := Qg (call_min2 hc) fun xs H Q h => by
  obtain ⟨ι,Z,ts,s,r,p⟩ := h
  unfold gMin at p
  split at p
  · obtain ⟨v,w,rfl,r1,r2⟩ := r.two
    cases r1; cases r2
    exact ⟨_,_,rfl,Y8 p s (.int _)⟩
  · exact p.elim
theorem Zjb {ι : List Addr} {H : Hp} {Z : Sto} {v : V} {t : T} {n : String} (s : Sim K ι Z H) (r : Rep K ι H v t) (e : tyT t Z = some n) : TyX K H v (.type n) := by
  cases r with
  | non => cases e; exact .base .non
  | bl b => cases e; exact .base (.bl b)
  | int i => cases e; exact .base (.int i)
  | str l => cases e; exact .base (.str _)
  | tup h r =>
    cases e
    rcases h with (h | ⟨o,h⟩) | ⟨o,its,n,h,hc,_⟩
    · exact .base (.tup h)
    · exact .fTuple h
    · exact .kTuple h hc
  | loc h =>
    simp only [tyT] at e
    split at e
    · rename_i hz
      obtain ⟨a', h1, vs, h2, _⟩ := s.at hz
      rw [h] at h1; cases h1; cases e
      exact .base (.lst h2)
    · rename_i hz
      obtain ⟨a', h1, vs, h2, _⟩ := s.at hz
      rw [h] at h1; cases h1; cases e
      exact .base (.dK h2)
    · rename_i hz
      obtain ⟨a', h1, vs, h2, _⟩ := s.at hz
      rw [h] at h1; cases h1; cases e
      exact .base (.dT h2)
    · cases e
  | frl h r =>
    cases e
    rcases h with ⟨o,h⟩ | ⟨o,its,n,h,hc,_⟩
    · exact .base (.frz h)
    · exact .kList h hc
  | ref a => cases e
  | ty m => cases e
  | lam h j => cases e
  | ktp h r => cases e
def rIsiU (K : PySem.W.Frag) : List V → Hp → VK → Prop := fun xs H Q => ∃ (x : V) (tp : Addr) (cs : List V) (t : Value) (us : List Value) (b : Bool),xs = [x,.ref tp] ∧ SqT K H tp cs ∧ Paired ClsV cs us ∧ TyX K H x t ∧ PySem.W.kitAny K t us = some b ∧ Q (.bl b) H
theorem Zfr : CallR X (.builtin "isinstance") (rIsiU X.K) := by
  intro pins s σ H xs us Q I r h
  obtain ⟨x,tp,cs,t,ws,b,rfl,hT,k,ty,e,q⟩ := h
  obtain ⟨u1,u2,rfl,r1,r2⟩ := vals2 r
  cases (show u2 = Value.ref tp from r2)
  obtain ⟨P,Z,p,hx⟩ := kit_of I r1 ty
  obtain ⟨its,rv,⟨o,h1,h2,n,h3⟩,_⟩ := I.tuple hT
  have e3 := ClsV.all k rv
  subst e3
  obtain ⟨oc,od,dt,sl⟩ := o
  simp only at h2 h3
  subst h2 h3
  exact PySem.W.kia_tup Z I.kIn p h1 e hx fun tk => ⟨.bl b,H,I.tok tk,rfl,q⟩
theorem isiAll {ι : List Addr} {H : Hp} {Z : Sto} {t : T} {n : String} (e : tyT t Z = some n) : ∀ {cs : List T} {vs : List V} {bs : List Bool},Reps K ι H vs cs → Paired (fun c b => gIsiB t c Z = some b) cs bs → ∃ us,Paired ClsV vs us ∧ PySem.W.kitAny K (.type n) us = some (bs.any id)
  | _,_,_,.nil,.nil => ⟨[],.nil,rfl⟩
  | _,_,_,.cons r q,.cons h p => by
    obtain ⟨us,h1,h2⟩ := isiAll e q p
    unfold gIsiB at h
    rw [e] at h
    rename_i v vs c cs b bs
    cases c with
    | ty m =>
      cases r
      refine ⟨.type m :: us,.cons (.ty m) h1,?_⟩
      refine kitAny_cons (kit_ty (show kitB n m = some b from h)) (fun hb => ?_) (fun hb => ?_)
      · rw [h2,List.any_cons,hb]; rfl
      · rw [List.any_cons,hb]; rfl
    | _ => cases h
theorem Zfs (hK : X.K = K) : CallR X (.builtin "isinstance") (rFC K gIsi) := by
  subst hK
  refine Qg (Zct call_isi Zfr) fun xs H Q h => ?_
  obtain ⟨ι,Z,ts,s,r,p⟩ := h
  unfold gIsi at p
  split at p
  · obtain ⟨v,w,rfl,r1,r2⟩ := r.two
    cases r2
    rename_i t n
    cases e : gIsiB t (.ty n) Z with
    | none => rw [e] at p; exact p.elim
    | some b =>
      rw [e] at p
      unfold gIsiB at e
      split at e
      · rename_i a b' e1 e2
        cases e2
        exact .inl ⟨v,_,_,_,b,rfl,.ty _,Zjb s r1 e1,kit_ty e,Y8 p s (.bl _)⟩
      · cases e
  · obtain ⟨v,w,rfl,r1,r2⟩ := r.two
    rename_i t cs
    obtain ⟨a,vs,rfl,hq,rs⟩ := r2.tupE
    split at p
    case isFalse => exact p.elim
    rename_i hty
    cases e : cs.mapM fun c => gIsiB t c Z with
    | none => rw [e] at p; exact p.elim
    | some bs =>
      rw [e] at p
      have pa := Z19 e
      cases et : tyT t Z with
      | none => rw [et] at hty; cases hty
      | some n =>
        obtain ⟨us,h1,h2⟩ := isiAll et rs pa
        exact .inr ⟨v,a,vs,_,us,_,rfl,hq,h1,Zjb s r1 et,h2,Y8 p s (.bl _)⟩
  · exact p.elim
end
end Fx
set_option maxHeartbeats 4000000
namespace Ap
open PySem PySem.Spec PyProof.Rows L2 SX
structure BaseC (K : PySem.W.Frag) (C0 : Addr) : Prop where
  ga : PySem.W.specialIn K (.ref C0) "__getattribute__" = some (some (.builtin "type.__getattribute__"))
  rd : PySem.W.readsIn K C0 (.type "type") = true
  iv : PySem.W.findCls K (.ref C0) (.type "type") "__init__" = some (.val (.builtin "ValueError.__init__"))
section
variable {X : Cx} {e : Expr} {es : List Expr} {ta : TA} {p1 p2 pos : Pos} {x : PySem.Str} {C0 : Addr}
theorem Zft {pl : Sem Bool} (hg : Gl X x) (hm : X.mg x = some (.ref C0)) (B : BaseC X.K C0) (hd : (x == ("__debug__" : PySem.Str)) = false) (ha : PA X (e :: es) ta)
    (hc : eval (.Call (.Attribute (.Name x p1) "__init__" p2) (e :: es) [] pos) X.env = (do
      let ov ← eval (.Name x p1) X.env
      standAt p2.atName
      let (f, first) ← holding [ov] (getMethod ov "__init__" pl)
      callWith pos f first (backTo pos (starEach (e :: es) X.env)) (backToKw pos (keywordEach [] X.env))) := by rfl)
    (he : starEach (e :: es) X.env = (false,eval e X.env) :: starEach es X.env := by rfl) (hpl : (backTo pos (starEach es X.env)).any (·.1) = false := by rfl) :
    PE X (.Call (.Attribute (.Name x p1) "__init__" p2) (e :: es) [] pos) (tVeI X.K ta) := by
  refine ⟨fun pins s σ H Q I h => ?_⟩
  refine PySem.W.methodCall_KW (ld_glob I hg hm ?_ hd) hc
  refine PySem.W.method_cls I.kIn B.ga (PySem.W.cls_value I.kIn B.rd B.iv (by decide +kernel) ?_)
  show wpAny _ _ (callWith pos (Value.builtin "ValueError.__init__") [] (backTo pos (starEach (e :: es) X.env)) []) _ _ _
  refine PyProof.Rows.callWith_method1 (thn (ha.run pos pins _ σ H _ (I.tok _) h) fun us s1 ⟨vs,H1,I1,r1,a,C,ws,ev,hl,T,ea,q⟩ => ?_) he hpl
  subst ev
  cases r1 with
  | @cons _ u0 _ ur ra rw' =>
    obtain rfl : u0 = Value.ref a := ra
    have hlen : ur.length ≤ sizeLine := by
      rw [← Paired.length rw', sizeLine_eq]
      omega
    exact oinit_ok T I1 ea hlen fun s' J => ⟨.non, H1, J, rfl, q⟩
end
end Ap
set_option maxHeartbeats 4000000
namespace Ap
open PySem PySem.Spec PySem.Calls PyProof.Rows PySem.W
end Ap
set_option maxHeartbeats 4000000
namespace Ap
open PySem PySem.Spec PyProof.Rows L2 SX
theorem Z6m (a b : List Nat) : Txt.startswith (S a) (S b) = b.isPrefixOf a := by
  have e : (S a).cps.toList = a := rfl
  have e2 : (S b).cps.toList = b := rfl
  unfold Txt.startswith
  rw [S_len,S_len,Nat.zero_add]
  by_cases h : b.length ≤ a.length
  · rw [decide_eq_true h,Bool.true_and]
    have : PySem.Builtin.Str.subAt (S a) (S b) 0 = true ↔ (a.drop 0).take b.length = b := by
      constructor
      · intro k
        have := PySem.StrLaws.at_take (x := S a) (y := S b) (k := 0) ⟨by rw [S_len,S_len]; omega,k⟩
        exact this
      · intro k
        by_cases hb : b = []
        · subst hb; unfold PySem.Builtin.Str.subAt; simp [S,Str.length]
        · exact (PySem.StrLaws.take_at (x := S a) (y := S b) (k := 0) (by rw [S_len]; exact List.length_pos_iff.mpr hb) k).2
    rw [Bool.eq_iff_iff,this,List.drop_zero,List.isPrefixOf_iff_prefix]
    constructor
    · intro k; have q := List.take_append_drop b.length a; rw [k] at q; exact ⟨_,q⟩
    · rintro ⟨r,rfl⟩; rw [List.take_append_of_le_length (Nat.le_refl _),List.take_of_length_le (Nat.le_refl _)]
  · rw [decide_eq_false h,Bool.false_and]
    cases hp : b.isPrefixOf a
    · rfl
    · exact absurd (List.isPrefixOf_iff_prefix.mp hp).length_le h
end Ap
set_option maxHeartbeats 4000000
namespace Fx
open PySem PySem.Spec PyProof.Rows L2 SX Ap
variable [Tb]
def isTy (n : String) : T → Sto → Bool
  | .str _, _ => n == "str"
  | .frl _, _ => n == "list"
  | .loc i,Z => match Z[i]? with
    | some (.lst _) => n == "list"
    | some (.dk _) => n == "dict"
    | some (.dt _) => n == "dict"
    | _ => false
  | _,_ => false
theorem Zjz {K : PySem.W.Frag} {ι : List Addr} {H : Hp} {Z : Sto} {v : V} {t : T} {n : String} (s : Sim K ι Z H) (r : Rep K ι H v t) (e : isTy n t Z = true) : tyV K n v H := by
  cases r with
  | str l => exact beq_iff_eq.mp e
  | frl h r => exact .inl ⟨beq_iff_eq.mp e,_,h.sq⟩
  | loc h =>
    simp only [isTy] at e
    split at e
    · rename_i hz
      obtain ⟨a', h1, vs, h2, _⟩ := s.at hz
      rw [h] at h1; cases h1
      exact .inl ⟨beq_iff_eq.mp e,_,SqL.of h2⟩
    · rename_i hz
      obtain ⟨a', h1, vs, h2, _⟩ := s.at hz
      rw [h] at h1; cases h1
      exact .inr (.inr (.inl ⟨beq_iff_eq.mp e,.inl ⟨_,h2⟩⟩))
    · rename_i hz
      obtain ⟨a', h1, vs, h2, _⟩ := s.at hz
      rw [h] at h1; cases h1
      exact .inr (.inr (.inl ⟨beq_iff_eq.mp e,.inr ⟨_,h2⟩⟩))
    · cases e
  | _ => cases e
def eBM (n : String) (g : T → List T → Sto → Option (T × Sto)) (fo : FE) (fa : FA) : FE := fun ρ Z => (fo ρ Z).bind fun x Z1 => if isTy n x Z1 = true then (fa ρ Z1).bind fun xs Z2 => lift (g x xs Z2) else .stuck
def rFM (K : PySem.W.Frag) (g : T → List T → Sto → Option (T × Sto)) : V → List V → Hp → VK → Prop := fun x xs H Q => ∃ ι Z tx ts,Sim K ι Z H ∧ Rep K ι H x tx ∧ Reps K ι H xs ts ∧ PostO (Rep K) K ι H Q (g tx ts Z)
section
variable {X : Cx} {K : PySem.W.Frag} {W : Wc} {o e : Expr} {es : List Expr} {fo : FE} {fa : FA} {name : PySem.Str} {apos cpos : Pos} {n id : String} {g : T → List T → Sto → Option (T × Sto)}
theorem Z60 {r r' : V → List V → Hp → VK → Prop} (h : MtR X id r) (i : ∀ x xs H Q, r' x xs H Q → r x xs H Q) : MtR X id r' := fun pins s σ H x xs v us Q I rx rs q => h pins s σ H x xs v us Q I rx rs (i _ _ _ _ q)
theorem f_bm (hK : X.K = K) (pa : PlainAttrs n) (slot : Slot n name id) (hty : typeOf (.builtin id) = pure (.type "method_descriptor")) (hm : MtR X id (rFM K g)) (ho : FJ X K W o fo) (ha : FAJ X K W (e :: es) fa)
    (hbase : attributeBase o name X.env (eval o X.env) = eval o X.env := by rfl)
    (hfew : ((backTo cpos (starEach (e :: es) X.env)).all (fun x => !x.1) && (backToKw cpos (keywordEach [] X.env)).all (fun x => x.1.isSome)
      && decide ((e :: es).length + ([] : List Keyword).length + (if ([] : List Keyword).isEmpty then 0 else 1) < 30)) = true := by rfl)
    (hline : (apos.endLine == cpos.line) = true := by rfl) (hs : starEach (e :: es) X.env = (false,eval e X.env) :: starEach es X.env := by rfl) (hplain : (backTo cpos (starEach es X.env)).any (·.1) = false := by rfl) :
    FJ X K W (.Call (.Attribute o name apos) (e :: es) [] cpos) (eBM n g fo fa) := by
  subst hK
  refine Vz (pe_bm pa slot hty hm ho ha hbase hfew hline hs hplain) fun σ H Q h => ?_
  obtain ⟨ι,ρ,Z,is,p⟩ := h
  refine ⟨ι,ρ,Z,is,(Zo p).imp fun x H1 q => ?_⟩
  obtain ⟨ι1,Z1,tx,g1,s1,r1,p1⟩ := q
  split at p1
  · rename_i ht
    refine ⟨Zjz s1 r1 ht,ι1,ρ,Z1,is.gr g1 s1,(Zo (rep := Reps X.K) p1).imp fun xs H2 q => ?_⟩
    obtain ⟨ι2,Z2,ts,g2,s2,r2,p2⟩ := q
    exact ⟨ι2,Z2,tx,ts,s2,r1.gr g2,r2,U6 p2⟩
  · exact p1.elim
end
def gAppend : T → List T → Sto → Option (T × Sto)
  | .loc i,[t],Z => match getL Z i with
    | some ts => if ts.length < Lim then some (.non,Z.set i (.lst (ts ++ [t]))) else none
    | none => none
  | _,_,_ => none
def asStr : T → Option (List Nat)
  | .str l => some l
  | _ => none
def gJoin : T → List T → Sto → Option (T × Sto)
  | .str a,[t],Z => match (asSeq t Z).bind fun ts => ts.mapM asStr with
    | some ys => if sumL ys + ys.length * a.length ≤ Lim then some (.str (TL.joinL a ys),Z) else none
    | none => none
  | _,_,_ => none
def gSplit : T → List T → Sto → Option (T × Sto)
  | .str a,[.str [c]],Z => if a.length ≤ 100000 ∧ c < 256 then some (.loc Z.length,Z ++ [.lst ((TL.spl [c] 0 [] a).map .str)]) else none
  | _,_,_ => none
def gStarts : T → List T → Sto → Option (T × Sto)
  | .str a,[.str b],Z => some (.bl (b.isPrefixOf a),Z)
  | .str a,[.tup ts],Z => (ts.mapM asStr).map fun ys => (.bl (ys.any fun y => y.isPrefixOf a),Z)
  | _,_,_ => none
section
variable {X : Cx} {K : PySem.W.Frag}
theorem m_append : MtR X "list.append" (rFM K gAppend) := Z60 mt_append fun x xs H Q h => by
  obtain ⟨ι,Z,tx,ts,s,rx,rs,p⟩ := h
  unfold gAppend at p
  split at p
  · obtain ⟨y,rfl,ry⟩ := rs.one
    split at p
    · rename_i us e
      split at p
      · rename_i hl
        obtain ⟨a,vs,rfl,ha,h1,r⟩ := Jr s (Vh e) rx
        refine ⟨a,vs,y,rfl,rfl,h1,by rw [r.length]; exact Nat.lt_of_lt_of_le hl Zbv,?_⟩
        have g := Gr.mut (ι := ι) (o := .lst (vs ++ [y])) h1 trivial (List.mem_of_getElem? ha)
        exact p ι _ _ g (s.set ha ⟨_,upd_same,(r.gr g).append (.cons (ry.gr g) .nil)⟩) .non
      · exact p.elim
    · exact p.elim
  · exact p.elim
theorem Zcu {ι : List Addr} {H : Hp} : ∀ {vs : List V} {ts : List T} {ys : List (List Nat)},Reps K ι H vs ts → Paired (fun t y => asStr t = some y) ts ys → vs = (ys.map S).map V.str
  | _,_,_,.nil,.nil => rfl
  | _,_,_,.cons r q,.cons h p => by
    rename_i v vs t ts y ys
    cases t with
    | str l =>
      cases h
      cases r
      rw [Zcu q p]; rfl
    | _ => cases h
theorem Zbx {ι : List Addr} {H : Hp} : ∀ ys : List (List Nat),Reps K ι H ((ys.map S).map V.str) (ys.map .str)
  | [] => .nil
  | y :: ys => .cons (.str y) (Zbx ys)
theorem m_join (hK : X.K = K) : MtR X "str.join" (rFM K gJoin) := by
  subst hK
  refine Z60 mt_join fun x xs H Q h => ?_
  obtain ⟨ι,Z,tx,ts,s,rx,rs,p⟩ := h
  unfold gJoin at p
  split at p
  · obtain ⟨y,rfl,ry⟩ := rs.one
    cases rx
    split at p
    · rename_i ys e
      split at p
      · rename_i hz
        obtain ⟨us,e1,e2⟩ := Option.bind_eq_some_iff.mp e
        obtain ⟨a,vs,rfl,hq,r⟩ := Z4y s ry e1
        have ev := Zcu r (Z19 e2)
        subst ev
        refine ⟨_,a,ys.map S,rfl,rfl,hq,?_,?_⟩
        · rw [Zl6,List.length_map,S_len]; exact Nat.le_trans hz (by decide)
        · rw [join_S]; exact Y8 p s (.str _)
      · exact p.elim
    · exact p.elim
  · exact p.elim
theorem m_split : MtR X "str.split" (rFM K gSplit) := Z60 mt_split fun x xs H Q h => by
  obtain ⟨ι,Z,tx,ts,s,rx,rs,p⟩ := h
  unfold gSplit at p
  split at p
  · obtain ⟨y,rfl,ry⟩ := rs.one
    cases rx; cases ry
    split at p
    · rename_i hz
      refine ⟨_,_,rfl,rfl,rfl,by rw [S_len]; have := sizeLine_eq; omega,?_⟩
      rw [split_S (by simp) (by simp [hz.2])]
      exact Zac p s (Zbx _)
    · exact p.elim
  · exact p.elim
theorem Zhw (hK : X.K = K) : MtR X "str.startswith" (rFM K gStarts) := by
  subst hK
  refine Z60 (mt_startswith.or Z8l) fun x xs H Q h => ?_
  obtain ⟨ι,Z,tx,ts,s,rx,rs,p⟩ := h
  unfold gStarts at p
  split at p
  · obtain ⟨y,rfl,ry⟩ := rs.one
    cases rx; cases ry
    exact .inl ⟨_,_,rfl,rfl,by rw [Z6m]; exact Y8 p s (.bl _)⟩
  · obtain ⟨y,rfl,ry⟩ := rs.one
    cases rx
    rename_i l0 us
    obtain ⟨a,vs,rfl,hq,r⟩ := ry.tupE
    cases e : us.mapM asStr with
    | none => rw [e] at p; exact p.elim
    | some ys =>
      rw [e] at p
      have ev := Zcu r (Z19 e)
      subst ev
      refine .inr ⟨_,a,ys.map S,rfl,rfl,hq,?_⟩
      have e2 : ((ys.map S).any fun y => Txt.startswith (S l0) y) = ys.any fun y => y.isPrefixOf l0 := by
        rw [List.any_map]
        congr 1
        funext y
        exact Z6m _ _
      rw [e2]
      exact Y8 p s (.bl _)
  · exact p.elim
end
end Fx
set_option maxHeartbeats 4000000
namespace Fx
open PySem PySem.Spec PyProof.Rows L2 SX Ap
variable [Tb]
def wipeR (ρ : Env) : List Nat → Env
  | [] => ρ
  | v :: vs => (wipeR ρ vs).set v none
def putN : List Nat → T → Env → Option Env
  | [j],t,ρ => some (ρ.set j (some t))
  | js,.tup ts,ρ => if ts.length = js.length then some ((js.zip ts).foldl (fun r p => r.set p.1 (some p.2)) ρ) else none
  | _,_,_ => none
def loopC (it : ItF) (D : Nat) (put : T → Option Env) (c : FT) (e : FE) : Nat → Nat → Sto → R T
  | 0,_,_ => .stuck
  | n + 1,k,Z => match it k Z with
    | none => .stuck
    | some none => .ok (.loc D) Z
    | some (some t) => match put t with
      | none => .stuck
      | some ρ => (noX (c ρ Z)).bind fun b Z1 => if b = true then (noX (e ρ Z1)).bind fun y Z2 => (match getL Z2 D with
          | some acc => if acc.length < Lim then loopC it D put c e n (k + 1) (Z2.set D (.lst (acc ++ [y]))) else .stuck
          | none => .stuck) else loopC it D put c e n (k + 1) Z1
def eLc (vs js : List Nat) (it : FI) (c : FT) (e : FE) : FE := fun ρ Z => (it ρ Z).bind fun j Z1 => loopC j Z1.length (fun t => putN js t (wipeR ρ vs)) c e Fuel 0 (Z1 ++ [.lst []])
def eYes : FT := fun _ Z => .ok true Z
section
variable {X : Cx} {K : PySem.W.Frag} {W : Wc}
theorem Z6n (ρ : Env) : ∀ vs : List Nat,(wipeR ρ vs).length = ρ.length
  | [] => rfl
  | v :: vs => by show ((wipeR ρ vs).set v none).length = _; rw [List.length_set,Z6n ρ vs]
theorem Zby {ι : List Addr} {H : Hp} {σ : L2.St} {ρ : Env} (e : Envs K ι H σ ρ) (hl : σ.length = ρ.length) : ∀ vs : List Nat,Envs K ι H (wipe σ vs) (wipeR ρ vs)
  | [] => e
  | v :: vs => fun i t h => by
    have h' : ((wipeR ρ vs).set v none)[i]? = some (some t) := h
    show ∃ w,((wipe σ vs).set v none)[i]? = some (some w) ∧ _
    by_cases hi : i = v
    · subst hi
      by_cases hlt : i < (wipeR ρ vs).length
      · rw [List.getElem?_set_self hlt] at h'; cases h'
      · rw [List.getElem?_eq_none (by rw [List.length_set]; omega)] at h'; cases h'
    · rw [List.getElem?_set_ne (Ne.symm hi)] at h'
      rw [List.getElem?_set_ne (Ne.symm hi)]
      exact Zby e hl vs i t h'
theorem Z4z (σ : L2.St) : ∀ (vs : List Nat) (i : Nat),i < σ.length → i ∈ vs → (wipe σ vs)[i]? = some none
  | v :: vs,i,hl,hm => by
    show ((wipe σ vs).set v none)[i]? = some none
    by_cases hi : i = v
    · subst hi
      rw [List.getElem?_set_self (by rw [wipe_length]; exact hl)]
    · rw [List.getElem?_set_ne (Ne.symm hi)]
      exact Z4z σ vs i hl ((List.mem_cons.mp hm).resolve_left hi)
theorem Zhx (σ : L2.St) (vs : List Nat) (x : Option V) {j : Nat} (hj : j ∈ vs) : wipe (σ.set j x) vs = wipe σ vs := by
  apply List.ext_getElem?
  intro i
  by_cases hi : i ∈ vs
  · by_cases hlt : i < σ.length
    · rw [Z4z _ vs i (by rw [List.length_set]; exact hlt) hi,Z4z σ vs i hlt hi]
    · rw [List.getElem?_eq_none (by rw [wipe_length,List.length_set]; omega),List.getElem?_eq_none (by rw [wipe_length]; omega)]
  · rw [wipe_out hi,wipe_out hi,List.getElem?_set_ne (fun e => hi (by rw [← e]; exact hj))]
theorem Zfu (σ : L2.St) (vs : List Nat) : wipe (wipe σ vs) vs = wipe σ vs := by
  apply List.ext_getElem?
  intro i
  by_cases hi : i ∈ vs
  · by_cases hlt : i < σ.length
    · rw [Z4z _ vs i (by rw [wipe_length]; exact hlt) hi,Z4z σ vs i hlt hi]
    · rw [List.getElem?_eq_none (by rw [wipe_length,wipe_length]; omega),List.getElem?_eq_none (by rw [wipe_length]; omega)]
  · rw [wipe_out hi]
abbrev W0 : Wc := Wt (fun _ _ _ _ => False)
def TgOk (K : PySem.W.Frag) (js : List Nat) (g : TG) : Prop := ∀ (x : V) (σ : L2.St) (H : Hp) (Q : L2.St → Hp → Prop) ι ρ ρ' t, σ.length = ρ.length → Envs K ι H σ ρ → Rep K ι H x t → putN js t ρ = some ρ' →
  (∀ σ', σ'.length = ρ'.length → Envs K ι H σ' ρ' → (∀ vs, (∀ j ∈ js, j ∈ vs) → wipe σ' vs = wipe σ vs) → Q σ' H) → g x σ H Q
theorem Z1a (j : Nat) (t : T) (ρ : Env) : putN [j] t ρ = some (ρ.set j (some t)) := by cases t <;> rfl
theorem Z2e (j : Nat) : TgOk K [j] (gName j) := fun x σ H Q ι ρ ρ' t hl env r e q => by
  rw [Z1a] at e
  have e' := Option.some.inj e
  subst e'
  exact q _ (by rw [List.length_set,List.length_set]; exact hl) (env.set r j hl) fun vs h => Zhx σ vs _ (h j List.mem_cons_self)
theorem Zli {fi : FI} {g : TG} {ft : FT} {fe : FE} {vs js : List Nat} (hg : TgOk K js g) (hjs : ∀ j ∈ js,j ∈ vs) {σ : L2.St} {H : Hp} {Q : VK} (hi : ∀ R,(∃ ι ρ Z,Ie K W ι H σ ρ Z ∧ Post (ItR K) K W.w σ ι H R (fi ρ Z)) → tI K W.w fi σ H R) (h : tF K W (eLc vs js fi ft fe) σ H Q) : tLc (tI K W.w fi) g (tFT K W0 ft) (tF K W0 fe) vs σ H Q := by
  obtain ⟨ι,ρ,Z,is,p⟩ := h
  refine hi _ ⟨ι,ρ,Z,is,(Zo (rep := ItR K) p).imp fun J H1 q => ?_⟩
  obtain ⟨ι1,Z1,it,g1,s1,rJ,p1⟩ := q
  intro D hD
  have is1 := is.gr g1 s1
  have sD : Sim K (ι1 ++ [D]) (Z1 ++ [.lst []]) (upd H1 D (.lst [])) := s1.newL .nil hD
  have gD : Gr ι1 (ι1 ++ [D]) H1 (upd H1 D (.lst [])) := Gr.new hD
  have hDi : (ι1 ++ [D])[Z1.length]? = some D := by rw [← s1.len]; simp
  refine ⟨fun k m H' => ∃ ι' Z', Gr (ι1 ++ [D]) ι' (upd H1 D (.lst [])) H' ∧ Sim K ι' Z' H' ∧ Post (Rep K) K W.w σ ι' H' Q (loopC it Z1.length (fun t => putN js t (wipeR ρ vs)) ft fe m k Z'), ⟨Fuel, ι1 ++ [D], _, Gr.refl, sD, p1.shift gD⟩, ?_⟩
  rintro k m H' ⟨ι', Z', g', s', p'⟩
  cases m with
  | zero => exact p'.elim
  | succ m =>
    have hj := rJ k ι' H' Z' (gD.trans g') s'
    unfold loopC at p'
    cases e : it k Z' with
    | none => rw [e] at p'; exact p'.elim
    | some o =>
      rw [e] at hj p'
      cases o with
      | none => exact .inl ⟨hj, p' ι' H' _ Gr.refl s' (.loc (g'.pre _ _ hDi))⟩
      | some t =>
        refine .inr ⟨hj.1, _, fun H2 n => ⟨m, Nat.lt_succ_self m, n⟩, fun x H'' y => ?_⟩
        obtain ⟨g2, s2, r2⟩ := hj.2 x H'' y
        simp only at p'
        cases e3 : putN js t (wipeR ρ vs) with
        | none => rw [e3] at p'; exact p'.elim
        | some ρ' =>
          rw [e3] at p'
          have env2 : Envs K ι' H'' (wipe σ vs) (wipeR ρ vs) := Zby ((is1.env.gr (gD.trans g')).gr g2) is1.len vs
          refine hg x (wipe σ vs) H'' _ ι' _ ρ' t (by rw [wipe_length, Z6n]; exact is1.len) env2 r2 e3 fun σ' hl' env' hw => ?_
          refine ⟨by rw [hw vs hjs, Zfu], ι', ρ', Z', ⟨hl', env', s2, trivial⟩, Z75 (W := W.w) (σ := σ) ((Zo (rep := bEq) (p'.shift g2)).imp fun b H3 q => ?_)⟩
          obtain ⟨ι3, Z3, b', g3, s3, rb, p3⟩ := q
          cases (show b = b' from rb)
          cases b with
          | false =>
            rw [if_neg Bool.false_ne_true] at p3 ⊢
            exact ⟨ι3, Z3, (g'.trans g2).trans g3, s3, p3⟩
          | true =>
            rw [if_pos rfl] at p3 ⊢
            refine ⟨ι3, ρ', Z3, ⟨hl', env'.gr g3, s3, trivial⟩, Z75 (W := W.w) (σ := σ) ((Zo (rep := Rep K) p3).imp fun y H4 q => ?_)⟩
            obtain ⟨ι4,Z4,ty,g4,s4,ry,p4⟩ := q
            split at p4
            · rename_i acc ea
              split at p4
              · rename_i hz
                have hD4 : ι4[Z1.length]? = some D := g4.pre _ _ (g3.pre _ _ (g'.pre _ _ hDi))
                obtain ⟨a, ws, ea', _, h1, rw1⟩ := Jr s4 (Vh ea) (.loc hD4)
                cases ea'
                have g5 := Gr.mut (ι := ι4) (o := .lst (ws ++ [y])) h1 trivial (List.mem_of_getElem? hD4)
                refine ⟨ws, h1, by rw [rw1.length]; exact Nat.lt_of_lt_of_le hz Zbv, ι4, _, (((g'.trans g2).trans g3).trans g4).trans g5, s4.set (ob := .lst (acc ++ [ty])) hD4 ⟨_, upd_same, (rw1.gr g5).append (.cons (ry.gr g5) .nil)⟩, p4.shift g5⟩
              · exact p4.elim
            · exact p4.elim
theorem Zjc {fi : FI} {σ : L2.St} {H : Hp} {R : It → Hp → Prop} (h : ∃ ι ρ Z,Ie K W ι H σ ρ Z ∧ Post (ItR K) K W.w σ ι H R (fi ρ Z)) : tI K W.w fi σ H R := by
  obtain ⟨ι,ρ,Z,is,p⟩ := h
  exact ⟨ι,ρ,Z,⟨is.len,is.env,is.sim⟩,p⟩
theorem Z4f : PTs X [] (tFT K W0 eYes) := ⟨fun pins s σ H Q I h => by
  obtain ⟨ι,ρ,Z,is,p⟩ := h
  exact pts_nil.run pins s σ H Q I (p ι H true Gr.refl is.sim rfl)⟩
theorem Zk0 {c : Expr} {ft : FT} (h : FTJ X K W0 c ft) : PTs X [c] (tFT K W0 ft) := pts_one h
theorem f_lc {elt tg iter : Expr} {ifs : List Expr} {scope : Scope} {own : List (PySem.Str × Nat)} {pos : Pos} {fi : FI} {g : TG} {ft : FT} {fe : FE} {js : List Nat} (hg0 : TgOk K js g) (hjs : ∀ j ∈ js,j ∈ own.map (·.2)) (hc : X.calm = true) (hN : X.N.Nodup) (hi : PI X tg iter (tI K W.w fi)) (ok : BlkOk X.N X.env.scope scope own)
    (hg : ∀ (s : Shared) (H : Hp) (C : Addr) (cl : List (PySem.Str × Addr)) (fp : List Addr),PG (X.blk s H scope (compEnvC scope cl C X.env) fp) tg g) (ht : ∀ (s : Shared) (H : Hp) (C : Addr) (cl : List (PySem.Str × Addr)) (fp : List Addr),PTs (X.blk s H scope (compEnvC scope cl C X.env) fp) ifs (tFT K W0 ft))
    (he : ∀ (s : Shared) (H : Hp) (C : Addr) (cl : List (PySem.Str × Addr)) (fp : List Addr),FJ (X.blk s H scope (compEnvC scope cl C X.env) fp) K W0 elt fe) (hs : ∀ x,foldedSetIterable iter X.env x = pure x := by intro _; rfl) :
    FJ X K W (.ListComp elt [⟨tg,iter,ifs,0⟩] scope pos) (eLc (own.map (·.2)) js fi ft fe) := Vz (pe_lc hc hN hi ok hg ht he hs) fun σ H Q h => Zli hg0 hjs (fun R q => Zjc q) h
theorem Zhy {W : WX} {i : Nat} {y : PySem.Str} {py : Pos} {elt tg iter : Expr} {ifs : List Expr} {scope : Scope} {own : List (PySem.Str × Nat)} {pos spos : Pos} {fi : FI} {g : TG} {ft : FT} {fe : FE} {js : List Nat} (hg0 : TgOk K js g) (hjs : ∀ j ∈ js,j ∈ own.map (·.2)) (hc : X.calm = true) (hN : X.N.Nodup) (hy : X.N[i]? = some y) (hyl : X.env.scope.names.lookup y = some .local)
    (hsw : swapsWith (.ListComp elt [⟨tg,iter,ifs,0⟩] scope pos) (some (.Name y py)) spos.line X.env = pure true) (hi : PI X tg iter (tI K W fi)) (ok : BlkOk X.N X.env.scope scope own)
    (hg : ∀ (s : Shared) (H : Hp) (C : Addr) (cl : List (PySem.Str × Addr)) (fp : List Addr),PG (X.blk s H scope (compEnvC scope cl C X.env) fp) tg g) (ht : ∀ (s : Shared) (H : Hp) (C : Addr) (cl : List (PySem.Str × Addr)) (fp : List Addr),PTs (X.blk s H scope (compEnvC scope cl C X.env) fp) ifs (tFT K W0 ft))
    (he : ∀ (s : Shared) (H : Hp) (C : Addr) (cl : List (PySem.Str × Addr)) (fp : List Addr),FJ (X.blk s H scope (compEnvC scope cl C X.env) fp) K W0 elt fe) (hs : ∀ x,foldedSetIterable iter X.env x = pure x := by intro _; rfl) :
    FSJ X K W (.Assign [.Name y py] (.ListComp elt [⟨tg,iter,ifs,0⟩] scope pos) spos) (sSet i (eLc (own.map (·.2)) js fi ft fe)) := Jq (ps_setLc hc hN hy hyl hsw hi ok hg ht he hs) fun D σ H h => by
  obtain ⟨ι,ρ,Z,is,p⟩ := h
  refine Zli (W := Wt W) hg0 hjs (fun R q => Zjc q) (Z8n is p fun v H1 ι1 Z1 t g1 i1 r1 p1 => ?_)
  exact p1 ι1 H1 _ Gr.refl (i1.set r1 i)
theorem Zhz {X : Cx} : Takes X W0.w := takes0
end
end Fx
set_option maxHeartbeats 4000000
namespace Fx
open PySem PySem.Spec PyProof.Rows L2 SX Ap
variable [Tb]
def spI (C : Addr) (f : PySem.Str) : Sp := fun vs H Q _ => ∃ (a : Addr) (v : V),vs = [.ref a,v] ∧ H a = some (exo a C none) ∧ ∀ dx,H dx = none → dx ≠ a → Q .non (upd (upd H dx (exd dx [(f,v)])) a (exo a C (some dx)))
def sRaise (nm f : PySem.Str) (ds : List T) (fa : FA) : FS := fun ρ Z => bS ρ (fa ρ Z) fun ts Z1 => match ts ++ ds with
  | [t] => .exc ⟨nm,[(f,t)]⟩ ρ Z1
  | _ => .stuck
section
variable {X : Cx} {K : PySem.W.Frag} {W : WX} {x : PySem.Str} {p pos rpos : Pos} {e : Expr} {es : List Expr} {fa : FA} {k : Nat} {C fI : Addr} {fd : FuncData} {ps : List PySem.Str} {f : PySem.Str} {dvs : List V} {ds : List Value} {dts : List T}
theorem Z34 (hK : X.K = K) (hc : X.calm = true) (tk : Takes X W) (T : OexC X.K C) (iC : PySem.W.findIn X.K (.ref C) "__init__" = some (some (.ref fI))) (tI : PySem.W.typeIn X.K (.ref fI) = some (.type "function"))
    (F1 : FnOk X.prog X.w X.K X.mg X.base CX0 k fI fd ps (spI C f)) (hr : Room (k + 1) X.A) (hb : Binds X.K fd ps ds) (hd : Vals dvs ds) (hdf : Dfl K dvs dts) (hg : Gl X x) (hm : X.mg x = some (.ref C)) (ha : FAJ X K (Wt W) (e :: es) fa) (hn : ofLen (e :: es) fa) (hns : PySem.W.nsIn X.K mainGlobals x = some (some (.ref C))) (hln : (e :: es).length + dts.length = 1 := by rfl)
    (hdb : (x == ("__debug__" : PySem.Str)) = false := by decide) (he : starEach (e :: es) X.env = (false, eval e X.env) :: starEach es X.env := by rfl) (hpl : (backTo pos (starEach es X.env)).any (·.1) = false := by rfl) :
    FSJ X K W (.Raise (some (.Call (.Name x p) (e :: es) [] pos)) none rpos) (sRaise x f dts fa) := by
  subst hK
  refine Jq (ps_raise hc tk (pmk_oex T iC tI F1 hr hb hd pass0 hg hm ha hdb he hpl)) fun D σ H h => ?_
  obtain ⟨ι,ρ,Z,is,q⟩ := h
  refine Zfo is q fun vs H1 ι1 Z1 ts e1 g1 i1 r1 p1 => ?_
  have r2 := r1.append (hdf ι1 H1)
  have hl := r2.length
  have hl2 : (ts ++ dts).length = 1 := by rw [List.length_append,hn _ _ _ _ e1]; exact hln
  refine ⟨?_,fun a na => ?_⟩
  · rw [List.length_append,r1.length] at *; omega
  match hts : ts ++ dts,r2,hl2 with
  | [t],r2,_ =>
    obtain ⟨v,ev,rv⟩ := r2.one
    rw [hts] at p1
    rw [ev]
    refine ⟨a,v,rfl,upd_same,fun dx nd ne => ⟨rfl,dx,[(f,v)],?_,?_,?_,?_⟩⟩
    · exact upd_same
    · rw [upd_ne ne,upd_same]
    · rw [upd_ne ne] at nd; exact nd
    · have hd1 : H1 dx = none := by rw [upd_ne ne] at nd; exact nd
      have eH : ∀ b,b ≠ dx → upd (del (upd (upd (upd H1 a (exo a C none)) dx (exd dx [(f,v)])) a (exo a C (some dx))) a) dx (.xd [(f,v)]) b = H1 b := fun b hb => by
        rw [upd_ne hb]
        by_cases hba : b = a
        · subst hba; rw [del_same,na]
        · rw [del_ne hba,upd_ne hba,upd_ne hb,upd_ne hba]
      have sm : Same H1 (upd (del (upd (upd (upd H1 a (exo a C none)) dx (exd dx [(f,v)])) a (exo a C (some dx))) a) dx (.xd [(f,v)])) := fun b o ho => by
        rw [eH b (ne_of_none ho hd1)]; exact ho
      refine p1 ι1 _ σ (.ref C) (some dx) (Gr.same sm) (i1.gr (Gr.same sm) (i1.sim.same sm)) ⟨⟨C,rfl,hns⟩,dx,[(f,v)],rfl,upd_same,.cons (rv.gr (Gr.same sm)) .nil⟩
end
theorem RepX.gr {K : PySem.W.Frag} {ι ι' : List Addr} {H H' : Hp} {cls : Value} {d : Option Addr} {x : Ex} (g : Gr ι ι' H H') (h : RepX K ι H cls d x) : RepX K ι' H' cls d x := by
  obtain ⟨h1,h2⟩ := h
  refine ⟨h1,?_⟩
  split at h2
  · rename_i e; exact h2
  · obtain ⟨dd,vs,e,h,r⟩ := h2
    exact ⟨dd,vs,e,g.xd _ _ h,r.gr g⟩
def eXf (x : Ex) (f : PySem.Str) : FE := fun _ Z => match x.fs.lookup f with
  | some t => .ok t Z
  | none => .stuck
theorem RepP.lookup {K : PySem.W.Frag} {ι : List Addr} {H : Hp} {f : PySem.Str} {t : T} : ∀ {vs : List (PySem.Str × V)} {fs : List (PySem.Str × T)},RepP K ι H vs fs → fs.lookup f = some t → ∃ v,vs.lookup f = some v ∧ Rep K ι H v t
  | _,_,.nil,e => by cases e
  | _,_,.cons r q,e => by
    rename_i k v vs t' ts
    rw [List.lookup_cons] at e ⊢
    cases h : f == k with
    | true => rw [h] at e; cases e; exact ⟨v,rfl,r⟩
    | false => rw [h] at e; exact RepP.lookup q e
section
variable {X : Cx} {K : PySem.W.Frag} {W : WX} {x : PySem.Str} {n : PySem.Str} {C : Addr} {i : Nat} {body : List Stmt} {e : Expr} {np pos pos' rpos : Pos} {b : FS} {fe : Ex → FE}
theorem PostS.wx {K : PySem.W.Frag} {W W' : WX} {ι : List Addr} {H : Hp} {D : Ends} {r : RS} (h : PostS K W ι H D r) (i : ∀ x ρ Z, r ≠ .exc x ρ Z) : PostS K W' ι H D r := by
  cases r with
  | nx => exact h
  | rt => exact h
  | bk => exact h
  | ct => exact h
  | exc x ρ Z => exact absurd rfl (i x ρ Z)
  | stuck => exact h
end
end Fx
set_option maxHeartbeats 4000000
namespace PySem
set_option maxHeartbeats 1000000 in
theorem Z3b (l : Addr) (items : Array Value) (n : Nat) (dct : Option Addr) (sl : Array (Option Value)) :
    Meets (Builtin.«enumerate.__new__» ⟨[.type "enumerate", .ref l], []⟩) (fun _ R s =>
      s.heap.get? l = some { cls := .type "tuple", dict := dct, data := .seq items n, slots := sl } ∧
      R (.ok (.ret (.ref (s.heap.push { cls := .type "tuple_iterator", data := .fields #[.ref l, .int 0 0] }).objs.size)))
        { s with heap := (s.heap.push { cls := .type "tuple_iterator", data := .fields #[.ref l, .int 0 0] }).push { cls := .type "enumerate", data := .fields #[.none, .bool false, .ref s.heap.objs.size, rawInt 0, .none, .none] } }) :=
  .of_wp fun prog w A R s h => by
    obtain ⟨hl,h⟩ := h
    obtain ⟨hp,g,d,tk,os⟩ := s
    have hL : hp.IsTuple l items := ⟨_,hl,rfl,n,rfl⟩
    have hsub := sub_enumerate
    wp_walk using wpAny_loadPart' hl
    refine wpAny_stack_any fun st => wpAny_pure ?_
    split
    · rename_i c _ _ _ _ _
      cases (c == Value.type "enumerate")
      · wp_walk using wpAny_loadPart' hl, wpAny_pyIter_tuple hL
        exact ⟨_,rfl,h⟩
      · wp_walk using wpAny_loadPart' hl, wpAny_pyIter_tuple hL
        exact ⟨_,rfl,h⟩
    · wp_walk using wpAny_loadPart' hl, wpAny_pyIter_tuple hL
      exact ⟨_,rfl,h⟩
end PySem
namespace PySem
section
variable {prog : Program} {w : World} {A : Around} {E : Value → Shared → Prop} {s : Shared}
theorem Z50 {l : Addr} {items : Array Value} {Q : Value → Shared → Prop} (hL : s.heap.IsTuple l items)
    (k : ∀ h', IsEnum h' (s.heap.objs.size + 1) s.heap.objs.size 0 .none → h'.IsTupleIter s.heap.objs.size l 0 → (∀ b o, s.heap.get? b = some o → h'.get? b = some o) → Q (.ref (s.heap.objs.size + 1)) { s with heap := h' }) :
    wpAny (model prog w) A (call (.type "enumerate") [.ref l]) Q E s := by
  obtain ⟨⟨c,dct,dt,sl⟩,hl,hc,n,hd⟩ := hL
  obtain rfl : c = .type "tuple" := hc
  obtain rfl : dt = .seq items n := hd
  refine callType_new F.called_enumerate (by decide) (F.typeCall_enumerate_1 _) (F.newCall_enumerate_1 _) (fun obj => F.args_object_init_2 obj _) F.entry_enumerate_new (Z3b l items n dct sl) ⟨hl,?_⟩
  have hz : (s.heap.push { cls := .type "tuple_iterator", data := .fields #[.ref l, .int 0 0] }).objs.size = s.heap.objs.size + 1 := Heap.size_push ..
  show _ ∧ _
  rw [hz]
  have he : IsEnum ((s.heap.push { cls := .type "tuple_iterator", data := .fields #[.ref l, .int 0 0] }).push
      { cls := .type "enumerate", data := .fields #[.none, .bool false, .ref s.heap.objs.size, rawInt 0, .none, .none] }) (s.heap.objs.size + 1) s.heap.objs.size 0 .none := by
    have q := Heap.get?_push_size (s.heap.push { cls := .type "tuple_iterator", data := .fields #[.ref l, .int 0 0] })
      (o := { cls := .type "enumerate", data := .fields #[.none, .bool false, .ref s.heap.objs.size, rawInt 0, .none, .none] }) rfl
    rw [hz] at q; exact q
  exact ⟨⟨_,he,rfl⟩,k _ he ⟨_,Heap.get?_push_of_some _ (Heap.get?_push_size _ rfl),rfl,rfl⟩ fun b o x => Heap.get?_push_of_some _ (Heap.get?_push_of_some _ x)⟩
end
end PySem
namespace Fx
open PySem PySem.Spec PyProof.Rows L2 SX Ap
variable [Tb]
def IteT (K : PySem.W.Frag) (a : Addr) : It :=
  ⟨fun i H => ∃ (xs : List V) (x : V), SqT K H a xs ∧ xs[i]? = some x, fun i H v H' => ∃ T x, v = .ref T ∧ H T = none ∧ H' = upd H T (.tup [.int (i : Nat), x]) ∧ ∀ xs, SqT K H a xs → xs[i]? = some x, fun i H => ∃ xs : List V, SqT K H a xs ∧ xs.length = i⟩
theorem Zeq {P : Program} {w : World} {K : PySem.W.Frag} {elts : List Expr} {kk : Nat} {tpos : Pos} (a e it : Addr) :
    Turn P w K (.Tuple elts kk tpos) (IteT K a) [e,it] e (fun i h => (∃ old,IsEnum h e it ((i : Nat) : Int) old) ∧ h.IsTupleIter it a i ∧ e ≠ it ∧ a ≠ it) where
  mem := List.mem_cons_self
  obj := by
    intro i h ⟨⟨old,he⟩,⟨o,ho,hc,hd⟩,_⟩ b hb
    rcases List.mem_cons.mp hb with rfl | hb
    · exact ⟨_,he,fun v q => nomatch q⟩
    · cases List.mem_singleton.mp hb
      exact ⟨o,ho,fun v q => by rw [hd] at q; cases q⟩
  keep := by
    intro i h h' ⟨⟨old, he⟩, ⟨o, ho, r⟩, hne⟩ k
    exact ⟨⟨old,k e List.mem_cons_self _ he⟩,⟨o,k it (List.mem_cons_of_mem _ List.mem_cons_self) o ho,r⟩,hne⟩
  item := by
    intro X hP hw hK hc i pins s σ H E I hf ⟨⟨old,he⟩,hit,hne,hai⟩ hg
    cases hP; cases hw; cases hK
    have le : e < s.heap.objs.size := Heap.lt_size he
    have li : it < s.heap.objs.size := Heap.lt_size hit.choose_spec.1
    obtain ⟨xs,x,hq,hx⟩ := hg
    obtain ⟨its,rv,pt,hz⟩ := I.tuple hq
    obtain ⟨u,hu,ru⟩ := rv.get hx
    have hil : i < its.toArray.size := by
      have := (List.getElem?_eq_some_iff.mp hu).1
      simpa using this
    have hae : a ≠ e := fun z => by
      obtain ⟨o,h1,h2,_⟩ := pt
      rw [z] at h1
      have h3 := he.symm.trans h1
      cases h3
      exact absurd (Value.type.inj h2) (by decide)
    refine wpAny_pyNext_enum_itemD (Draws.tuple (A := X.A.in1) (I.ok.hd hc) it a hai its.toArray) he ⟨hit,pt⟩ hil hne (by simp [hne,Ne.symm hae]) ?_
    rintro v h' tk hv ho ⟨st, _⟩ hT hsz hk
    have hv' : v = u := by
      have h0 : its.toArray[i]? = some v := hv
      have : its[i]? = some v := by simpa using h0
      rw [hu] at this; exact (Option.some.inj this).symm
    subst hv'
    refine ⟨_, rfl, wpAny_letOwnedTupleGo_enum (s := { s with heap := h', toks := tk + 1 }) ho ?_⟩
    intro h'' he' sb
    have hT2 := (sb.2 s.heap.objs.size (Nat.ne_of_gt le)).trans hT
    have new : ObjOk X.prog X.w (upd H s.heap.objs.size (.tup [.int (i : Nat), x])) h'' s.heap.objs.size (.tup [.int (i : Nat), x]) :=
      ⟨by show 2 ≤ sizeLine; decide,[.int i tk,v],.cons ⟨_,rfl⟩ (.cons ru .nil),⟨_,hT2,rfl,_,rfl⟩⟩
    have I1 := I.turnedNew (t' := tk + 1) (ch := [e, it]) (fun b ob hb q => (sb.2 b (fun z => hb (by simp [z]))).trans (hk b ob (fun z => hb (by simp [z])) (fun z => hb (by simp [z])) q)) hf (Nat.le_refl _) new
    refine ⟨.ref s.heap.objs.size,_,I1,rfl,⟨_,x,rfl,I.hok.fresh (Nat.le_refl _),rfl,fun ys hy => by rw [I.tuple_inj hy hq]; exact hx⟩,⟨⟨v,?_⟩,?_,hne,hai⟩,?_⟩
    · rw [show ((i + 1 : Nat) : Int) = (i : Int) + 1 by omega]; exact he'
    · obtain ⟨o,o1,o2⟩ := st
      exact ⟨o,(sb.2 it (Ne.symm hne)).trans o1,o2⟩
    · intro b hb
      have : b < s.heap.objs.size := by
        rcases List.mem_cons.mp hb with rfl | hb
        · exact le
        · cases List.mem_singleton.mp hb; exact li
      rw [upd_ne (Nat.ne_of_lt this)]
      exact (hf b hb).1
  done := by
    intro X hP hw hK hc i pins s σ H E I hf ⟨⟨old,he⟩,hit,hne,hai⟩ hg
    cases hP; cases hw; cases hK
    obtain ⟨xs,hq,rfl⟩ := hg
    obtain ⟨its,rv,pt,hz⟩ := I.tuple hq
    obtain ⟨f0,f1,f2,f3,f4,f5⟩ := hf it (List.mem_cons_of_mem _ List.mem_cons_self)
    have hsz : its.toArray.size = xs.length := by rw [List.size_toArray,rv.length]
    refine wpAny_pyNext_enum_endD (Draws.tuple (A := X.A.in1) (I.ok.hd hc) it a hai its.toArray) he (by rw [hsz]; exact ⟨hit,pt⟩) ?_
    intro h' eb
    exact ⟨rfl, I.turned (t' := s.toks) (fun b o hb q => eb b o hb q) f0 f1 f3 f4 f5⟩
  self := by
    intro A i s Q E ⟨⟨_,he⟩,_⟩ h
    exact wpAny_pyIter_enum he h
def iEnumT (K : PySem.W.Frag) (ta : TA) : TI := fun σ H R => ta σ H fun vs H1 => ∃ a xs,vs = [.ref a] ∧ SqT K H1 a xs ∧ R (IteT K a) H1
theorem Zi0 {X : Cx} {e : Expr} {ta : TA} {p pos tpos : Pos} {elts : List Expr} {kk : Nat} (hg : Gl X "enumerate") (hm : X.mg "enumerate" = none)
    (ha : PA X [e] ta) (hs : starEach [e] X.env = [(false,eval e X.env)] := by rfl) :
    PI X (.Tuple elts kk tpos) (.Call (.Name "enumerate" p) [e] [] pos) (iEnumT X.K ta) := by
  constructor
  intro pins s σ H R I h
  refine Call_ (ld_blt I hg hm boot_enumerate (PyProof.Rows.callWith_type1 ?_ hs rfl))
  refine thn (ha.run pos pins s σ H _ I h) ?_
  rintro us s1 ⟨vs,H1,I1,r1,a,xs,rfl,hq,q⟩
  obtain ⟨u,rfl,ru⟩ := vals1 r1
  cases (show u = Value.ref a from ru)
  obtain ⟨its,rv,pt,hz⟩ := I1.tuple hq
  refine Z50 (show s1.heap.IsTuple a its.toArray from pt) ?_
  intro h' he hit hk
  refine wpAny_pyIter_enum he ?_
  have I2 : Inv X pins σ H1 { s1 with heap := h' } := I1.kept (t' := s1.toks) hk
  have la : a < s1.heap.objs.size := by obtain ⟨o,h1,_⟩ := pt; exact Heap.lt_size h1
  refine ⟨s1.heap.objs.size + 1,[s1.heap.objs.size + 1,s1.heap.objs.size],_,_,H1,rfl,I2,Zeq a _ _,⟨⟨.none,he⟩,hit,Nat.succ_ne_self _,Nat.ne_of_lt la⟩,?_,q⟩
  intro b hb
  have hle : s1.heap.objs.size ≤ b := by
    rcases List.mem_cons.mp hb with rfl | hb
    · exact Nat.le_add_right _ _
    · cases List.mem_singleton.mp hb; exact Nat.le_refl _
  exact I1.fpOk hle (I1.hok.fresh hle)
def itSeqX (ts : List T) : ItF := fun k _ => if k ≤ ts.length then some ts[k]? else none
def itStrX (l : List Nat) : ItF := fun k _ => if k ≤ l.length then some (l[k]?.map fun c => .str [c]) else none
def iAny (f : FE) : FI := fun ρ Z => (f ρ Z).bind fun x Z1 => match x with
  | .frl ts => .ok (itSeq ts) Z1
  | .loc i => match getL Z1 i with
    | some _ => .ok (itLoc i) Z1
    | none => .stuck
  | .tup ts => .ok (itSeq ts) Z1
  | .str l => .ok (itStr l) Z1
  | _ => .stuck
def iEnmA (f : FA) : FI := fun ρ Z => (f ρ Z).bind fun xs Z1 => match xs with
  | [.frl ts] => .ok (itEnum (itSeq ts)) Z1
  | [.loc i] => match getL Z1 i with
    | some _ => .ok (itEnum (itLoc i)) Z1
    | none => .stuck
  | [.tup ts] => .ok (itEnum (itSeqX ts)) Z1
  | [.str l] => .ok (itEnum (itStrX l)) Z1
  | _ => .stuck
section
variable {X : Cx} {K : PySem.W.Frag} {W : WX} {pos p : Pos} {tg l a : Expr} {fl : FE} {fa : FA}
theorem Zi1 {t1 t2 : TI} (h1 : PI X tg l t1) (h2 : PI X tg l t2) : PI X tg l (fun σ H R => t1 σ H R ∨ t2 σ H R) := ⟨fun pins s σ H R I q => q.elim (h1.run pins s σ H R I) (h2.run pins s σ H R I)⟩
theorem Z3k (hK : X.K = K) (hl : FJ X K (Wt W) l fl) : PI X tg l (tI K W (iAny fl)) := by
  refine Z7a (Zi1 (Zjw hK hl) (Zi1 (Zle hK hl) (Zlf hl))) fun σ H Q h => ?_
  obtain ⟨ι,ρ,Z,is,p⟩ := h
  cases e : fl ρ Z with
  | ok t Z1 =>
    unfold iAny at p
    rw [e,Yy] at p
    cases t with
    | tup ts => exact .inr (.inl ⟨ι,ρ,Z,is,by unfold iSeqT; rw [e,Yy]; exact p⟩)
    | str u => exact .inr (.inr ⟨ι,ρ,Z,is,by unfold iStr; rw [e,Yy]; exact p⟩)
    | frl ts => exact .inl ⟨ι,ρ,Z,is,by unfold iSeqL; rw [e,Yy]; exact p⟩
    | loc i => exact .inl ⟨ι,ρ,Z,is,by unfold iSeqL; rw [e,Yy]; exact p⟩
    | _ => exact p.elim
  | exc x Z1 =>
    unfold iAny at p
    rw [e] at p
    exact .inl ⟨ι,ρ,Z,is,by unfold iSeqL; rw [e]; exact p⟩
  | stuck => unfold iAny at p; rw [e] at p; exact p.elim
theorem Zdu {tpos : Pos} {elts : List Expr} {kk : Nat} (hK : X.K = K) (hg : Gl X "enumerate") (hm : X.mg "enumerate" = none) (ha : FAJ X K (Wt W) [a] fa) (hn : ofLen [a] fa) (hs : starEach [a] X.env = [(false, eval a X.env)] := by rfl) : PI X (.Tuple elts kk tpos) (.Call (.Name "enumerate" p) [a] [] pos) (tI K W (iEnmA fa)) := by
  subst hK
  refine Z7a (Zi1 (Zjx rfl hg hm ha hn hs) (Zi1 (Zi0 hg hm ha hs) (Zhq hg hm ha hs))) fun σ H Q h => ?_
  obtain ⟨ι,ρ,Z,is,p⟩ := h
  unfold iEnmA at p
  cases e : fa ρ Z with
  | ok ts Z1 =>
    rw [e,Yy] at p
    have hl := hn _ _ _ _ e
    match ts,hl,p with
    | [t],_,p =>
      cases t with
      | frl us => exact .inl ⟨ι,ρ,Z,is,by unfold iEnm; rw [e,Yy]; exact p⟩
      | loc i => exact .inl ⟨ι,ρ,Z,is,by unfold iEnm; rw [e,Yy]; exact p⟩
      | tup us =>
        refine .inr (.inl ⟨ι,ρ,Z,is.ie,?_⟩)
        rw [e]
        intro ι1 H1 vs g1 s1 r1
        obtain ⟨v,rfl,r⟩ := r1.one
        obtain ⟨b,xs,rfl,hq,rs⟩ := r.tupE
        refine ⟨b, xs, rfl, hq, p ι1 H1 _ g1 s1 fun k ι' H' Z' g' s' => ?_⟩
        simp only [itEnum,itSeqX]
        by_cases hk : k ≤ us.length
        · rw [if_pos hk]
          simp only [Option.map_some]
          cases eu : us[k]? with
          | none => exact ⟨xs, SqT.gr g' hq, by rw [rs.length]; have := List.getElem?_eq_none_iff.mp eu; omega⟩
          | some u =>
            obtain ⟨x,h1,h2⟩ := rs.get eu
            refine ⟨⟨xs, x, SqT.gr g' hq, h1⟩, fun y H'' hy => ?_⟩
            obtain ⟨q, x', rfl, nq, rfl, hx'⟩ := hy
            have := hx' xs (SqT.gr g' hq)
            rw [h1] at this; cases this
            exact ⟨Gr.new0 nq, s'.same (Z00 nq), .tup (SqT.of upd_same) (.cons (.int _) (.cons ((h2.gr g').gr (Gr.new0 nq)) .nil))⟩
        · rw [if_neg hk]; exact trivial
      | str u =>
        refine .inr (.inr ⟨ι,ρ,Z,is.ie,?_⟩)
        rw [e]
        intro ι1 H1 vs g1 s1 r1
        obtain ⟨v,rfl,r⟩ := r1.one
        cases r
        refine ⟨S u, rfl, p ι1 H1 _ g1 s1 fun k ι' H' Z' g' s' => ?_⟩
        have hsz : (S u).cps.size = u.length := by simp [S]
        simp only [itEnum,itStrX]
        by_cases hk : k ≤ u.length
        · rw [if_pos hk]
          simp only [Option.map_some]
          cases eu : u[k]? with
          | none => exact show k = (S u).cps.size by rw [hsz]; have := List.getElem?_eq_none_iff.mp eu; omega
          | some c =>
            have hlt : k < u.length := (List.getElem?_eq_some_iff.mp eu).1
            refine ⟨show k < (S u).cps.size by rw [hsz]; exact hlt, fun y H'' hy => ?_⟩
            obtain ⟨q, c', rfl, nq, rfl, hc'⟩ := hy
            have : c' = c := by
              have h2 : u[k]? = some c' := by simpa [S] using hc'
              rw [eu] at h2; exact (Option.some.inj h2).symm
            subst this
            exact ⟨Gr.new0 nq, s'.same (Z00 nq), .tup (SqT.of upd_same) (.cons (.int _) (.cons (.str [c']) .nil))⟩
        · rw [if_neg hk]; exact trivial
      | _ => exact p.elim
  | exc x Z1 => rw [e] at p; exact .inl ⟨ι,ρ,Z,is,by unfold iEnm; rw [e]; exact p⟩
  | stuck => rw [e] at p; exact p.elim
end
end Fx
set_option maxHeartbeats 4000000
namespace Ap
open PySem PySem.Spec PyProof.Rows L2 SX
end Ap
namespace Fx
open PySem PySem.Spec PyProof.Rows L2 SX Ap
variable [Tb]
theorem Zk1 {K : PySem.W.Frag} {H : Hp} {a : Addr} {ns : List Int} (h : FrL K H a (ns.map V.int)) : Rep K [] H (.ref a) (.frl (ns.map .int)) := by
  refine .frl h ?_
  clear h
  induction ns with
  | nil => exact .nil
  | cons n ns ih => exact .cons (.int n) ih
theorem fnG_0 {P : Program} {w : World} {K : PySem.W.Frag} {mg : PySem.Str → Option Value} {base : Heap} {k : Nat} {f : Addr} {fd : FuncData} {ps : List PySem.Str} {n : Nat} {F : FF} (G : FnG P w K mg base k f fd ps (spF K n F)) : GOk P w K mg base CX0 k f fd ps (fun vs H Q _ => spF K n F vs H Q (fun _ _ _ => False)) :=
  ⟨fun vs H Q E h => G.len vs H Q _ h, fun A outer s H as us vs Q E hr hG e0 hb rv h => codeAny_mono (G.run A outer s H as us vs Q _ hr hG e0 hb rv h) fun r s' z => by
    cases r with
    | error e =>
      obtain ⟨_,_,_,_,_,_,_,_,_,_,_,_,q⟩ := z
      exact q.elim
    | ok fl => cases fl <;> exact z⟩
theorem Zk2 (z : PySem.Str) : S z.cps.toList = z := by
  show (⟨z.cps.toList.toArray⟩ : PySem.Str) = z
  rw [Array.toArray_toList]
def eDict0 : FE := fun _ Z => .ok (.loc Z.length) (Z ++ [.dk []])
def gNeg : T → Sto → Option (T × Sto)
  | .int i,Z => some (.int (-i),Z)
  | _,_ => none
theorem Zi2 {X : Cx} {K : PySem.W.Frag} {W : Wc} {a : Expr} {fa : FE} {pos : Pos} (ha : FJ X K W a fa) : FJ X K W (.UnaryOp .USub a pos) (eUn gNeg fa) := Vz (pe_un un_neg ha) fun σ H Q h => by
  obtain ⟨ι,ρ,Z,is,p⟩ := h
  refine ⟨ι,ρ,Z,is,(Zo p).imp fun x H1 q => ?_⟩
  obtain ⟨ι1,Z1,tx,g1,s1,r1,p1⟩ := q
  have p2 := U6 p1
  unfold gNeg at p2
  split at p2
  · cases r1; exact ⟨_,rfl,Y8 p2 s1 (.int _)⟩
  · exact p2.elim
end Fx
set_option maxHeartbeats 4000000
namespace Ap
open PySem PySem.Spec PyProof.Rows L2 SX
def NoDig (K : PySem.W.Frag) : Prop := PySem.W.nsIn K cStatics "sys.int_max_str_digits" = some none
theorem Zk3 {K : PySem.W.Frag} {h : Heap} {a : Addr} {mg : Str → Option Value} {n : Str} (X : K.In h) (G : h.Ns a mg) (e : PySem.W.nsIn K a n = some none) : mg n = none := by
  obtain ⟨o,es,ep,ho,hd,_,hf⟩ := G
  unfold PySem.W.nsIn at e
  split at e
  · rename_i c d es' n' sl q
    have := X _ _ q
    rw [ho] at this
    cases this
    cases hd
    split at e
    · cases e
    · rename_i he
      rw [← hf]
      unfold nsFind findBy
      rw [← Array.find?_toList,he]
      rfl
  · cases e
open PySem.NumText in
theorem wp_textB {M : Model} {A : Around} {E : Value → Shared → Prop} {s : Shared} {Q : Value → Shared → Prop} {v : Value} {text : List Nat} {n : Int} (hn : s.heap.NoDigits)
    (hs : ¬ (text.takeWhile (· != 0)).length ≤ 640) (hr : (int_private% "readNumeral") 4300 10 (text.takeWhile (· != 0)) = (int_private% "Numeral.value") n)
    (ha : ((text.takeWhile (· != 0)).length == text.length) = true) (h : Q (.int n s.toks) { s with toks := s.toks + 1 }) :
    wpAny M A ((int_private% "intFromText") v text 10) Q E s := by
  obtain ⟨mc,hns,hnone⟩ := hn
  obtain ⟨hp,g,d,tk,os⟩ := s
  wp_step
  wp_step
  unfold Builtin.intMaxStrDigits
  refine wpAny_bind (wpAny_bind (wpAny_nsGet hns ?_))
  rw [hnone]
  refine wpAny_pure ?_
  dsimp only
  rw [hr]
  dsimp only
  rw [if_pos ha]
  exact wpAny_mkInt h
open PySem.NumText PySem.W PySem.W.KIN in
theorem Zcv {x : PySem.Str} {u : Tok} {n : Int} (hs : ¬ (numSeenOf x).length ≤ 640) (hr : (int_private% "readNumeral") 4300 10 (numSeenOf x) = (int_private% "Numeral.value") n) (ha : ((numSeenOf x).length == (numTextOf x).length) = true) :
    Meets (Builtin.«int.__new__» ⟨[.type "int", .str x u], []⟩) (fun _ R s => s.heap.NoDigits ∧ R (.ok (.ret (.int n s.toks))) { s with toks := s.toks + 1 }) :=
  .of_wp fun prog w A R s hh => by
    obtain ⟨hp,g,d,tk,os⟩ := s
    have hN : hp.NoDigits := hh.1
    have h := hh.2
    clear hh
    have f1 := F.conv_sub_int
    have f2 := F.madeHere_int
    have f3 := str_int
    have f4 := str_idx
    have f5 := str_trunc
    have f6 : typeOf (.str x u) = pure (.type "str") := rfl
    have hk := Hid.mk (And.intro hs (And.intro hr (And.intro ha hN)))
    clear hs hr ha hN
    repeat (any_goals (first
      | assumption
      | ((with_reducible show wpAny _ _ ((int_private% "intFromText") _ _ _) _ _ _); refine wp_textB hk.out.2.2.2 hk.out.1 hk.out.2.1 hk.out.2.2.1 ?_)
      | wp_step))
    all_goals first | exact ⟨_,rfl,h⟩ | skip
open PySem.NumText in
theorem Zer {prog : Program} {w : World} {A : Around} {E : Value → Shared → Prop} {s : Shared} {Q : Value → Shared → Prop} {x : PySem.Str} {t : Tok} {n : Int} (hd : s.heap.NoDigits) (hA : x.cps.all (· < 128) = true) (hn : PySem.intText? x = some n) (hl : x.length ≤ sizeLine)
    (h : Q (.int n s.toks) { s with toks := s.toks + 1 }) : wpAny (model prog w) A (call (.type "int") [.str x t]) Q E s := by
  by_cases hs : (numSeenOf x).length ≤ 640
  · by_cases hl2 : x.length ≤ 640
    · exact PySem.W.KIN.call_text hn hl2 h
    · exfalso
      have e1 : numTextOf x = x.cps.toList := if_pos hA
      by_cases k : ((numSeenOf x).length == (numTextOf x).length) = true
      · have k' := beq_iff_eq.mp k
        have e2 : (numTextOf x).length = x.length := by rw [e1]; exact Array.length_toList
        rw [e2] at k'
        omega
      · unfold intText? at hn
        rw [if_neg k] at hn
        cases hn
  · rcases read4300 x hl with ⟨m,h1,h2,h3⟩ | ⟨h1,_⟩
    · rw [hn] at h1
      cases h1
      exact call_int_1 (Zcv hs h3 h2) ⟨hd,typeIs_int _ _ _,h⟩
    · rw [hn] at h1
      cases h1
section
variable {X : Cx}
theorem noDig {pins : List (Addr × Obj)} {σ : L2.St} {H : Hp} {s : Shared} (I : Inv X pins σ H s) (h : NoDig X.K) : s.heap.NoDigits := by
  obtain ⟨mc,a,_⟩ := I.nolimit
  exact ⟨mc,a,Zk3 I.kIn a h⟩
abbrev rIntStrB : List V → Hp → VK → Prop := fun xs H Q => ∃ (l : List Nat) (n : Int),xs = [.str (S l)] ∧ l.all (· < 128) = true ∧ PySem.intText? (S l) = some n ∧ l.length ≤ 100000 ∧ Q (.int n) H
theorem Zaf (hD : NoDig X.K) : CallR X (.type "int") rIntStrB := by
  intro pins s σ H xs us Q I rs h
  obtain ⟨l,n,rfl,hA,hn,hl,h⟩ := h
  cases rs with
  | cons r1 rs =>
    cases rs
    obtain ⟨t,rfl⟩ := r1
    exact Zer (noDig I hD) (by simpa [S] using hA) hn (szS hl) ⟨.int n,H,I.tok _,⟨_,rfl⟩,h⟩
end
end Ap
set_option maxHeartbeats 4000000
namespace Fx
open PySem PySem.Spec PyProof.Rows L2 SX Ap
variable [Tb]
def bools : List T → Option (List Bool)
  | [] => some []
  | .bl b :: ts => (bools ts).map (b :: ·)
  | _ :: _ => none
def gAll : List T → Sto → Option (T × Sto)
  | [t],Z => (asList t Z).bind fun ts => (bools ts).map fun bs => (.bl (bs.all id),Z)
  | _,_ => none
def gAny : List T → Sto → Option (T × Sto)
  | [t],Z => (asList t Z).bind fun ts => (bools ts).map fun bs => (.bl (bs.any id),Z)
  | _,_ => none
theorem Z7b {K : PySem.W.Frag} {ι : List Addr} {H : Hp} : ∀ {vs : List V} {ts : List T} {bs : List Bool},Reps K ι H vs ts → bools ts = some bs → vs = bs.map V.bl
  | _,[],bs,r,h => by
    cases r
    have : bs = [] := (Option.some.inj h).symm
    subst this; rfl
  | _,t :: ts,bs,r,h => by
    cases r with
    | cons r1 rs =>
      cases t with
      | bl b =>
        simp only [bools] at h
        cases e : bools ts with
        | none => rw [e] at h; cases h
        | some cs =>
          rw [e] at h
          have : bs = b :: cs := (Option.some.inj h).symm
          subst this
          cases r1
          rw [Z7b rs e]; rfl
      | _ => simp [bools] at h
theorem Zlj {X : Cx} {K : PySem.W.Frag} (hK : X.K = K) (hc : X.calm = true) : CallR X (.builtin "all") (rFC K gAll) := by
  subst hK
  refine Qg (cr_all hc) fun xs H Q h => ?_
  obtain ⟨ι,Z,ts,s,r,p⟩ := h
  match ts,r,p with
  | [],_,p => exact p.elim
  | _ :: _ :: _,_,p => simp only [gAll] at p; exact p.elim
  | [t],r,p =>
    obtain ⟨v,rfl,rr⟩ := r.one
    simp only [gAll] at p
    cases e : asList t Z with
    | none => rw [e] at p; exact p.elim
    | some us =>
      rw [e] at p
      obtain ⟨a,vs,rfl,hq,rs⟩ := Ji s rr e
      cases eb : bools us with
      | none => simp only [Option.bind_some,eb] at p; exact p.elim
      | some bs =>
        simp only [Option.bind_some,eb,Option.map_some] at p
        have := Z7b rs eb
        subst this
        exact ⟨a,bs,rfl,hq,Y8 p s (.bl _)⟩
theorem Zlk {X : Cx} {K : PySem.W.Frag} (hK : X.K = K) (hc : X.calm = true) : CallR X (.builtin "any") (rFC K gAny) := by
  subst hK
  refine Qg (cr_any hc) fun xs H Q h => ?_
  obtain ⟨ι,Z,ts,s,r,p⟩ := h
  match ts,r,p with
  | [],_,p => exact p.elim
  | _ :: _ :: _,_,p => simp only [gAny] at p; exact p.elim
  | [t],r,p =>
    obtain ⟨v,rfl,rr⟩ := r.one
    simp only [gAny] at p
    cases e : asList t Z with
    | none => rw [e] at p; exact p.elim
    | some us =>
      rw [e] at p
      obtain ⟨a,vs,rfl,hq,rs⟩ := Ji s rr e
      cases eb : bools us with
      | none => simp only [Option.bind_some,eb] at p; exact p.elim
      | some bs =>
        simp only [Option.bind_some,eb,Option.map_some] at p
        have := Z7b rs eb
        subst this
        exact ⟨a,bs,rfl,hq,Y8 p s (.bl _)⟩
def gStr : List T → Sto → Option (T × Sto)
  | [.int i],Z => if i.natAbs < 10 ^ 4300 then some (.str (dec i),Z) else none
  | _,_ => none
def gIntT : List T → Sto → Option (T × Sto)
  | [.int i],Z => some (.int i,Z)
  | [.bl b],Z => some (.int (if b then 1 else 0),Z)
  | [.str l],Z => if l.all (· < 128) = true ∧ l.length ≤ 100000 then (PySem.intText? (S l)).map fun n => (.int n,Z) else none
  | _,_ => none
theorem Z23 {X : Cx} {K : PySem.W.Frag} (hD : NoDig X.K) : CallR X (.type "int") (rFC K gIntT) := Qg (Zct call_int1 (Zaf hD)) fun xs H Q h => by
  obtain ⟨ι,Z,ts,s,r,p⟩ := h
  unfold gIntT at p
  split at p
  · obtain ⟨v,rfl,rr⟩ := r.one
    cases rr
    exact .inl (.inl ⟨_,rfl,Y8 p s (.int _)⟩)
  · obtain ⟨v,rfl,rr⟩ := r.one
    cases rr
    exact .inl (.inr ⟨_,rfl,Y8 p s (.int _)⟩)
  · obtain ⟨v,rfl,rr⟩ := r.one
    cases rr
    split at p
    · rename_i hz
      cases e : PySem.intText? (S _) with
      | none => rw [e] at p; exact p.elim
      | some n =>
        rw [e] at p
        exact .inr ⟨_,n,rfl,hz.1,e,hz.2,Y8 p s (.int _)⟩
    · exact p.elim
  · exact p.elim
end Fx
set_option maxHeartbeats 4000000
namespace Fx
open PySem PySem.Spec PyProof.Rows L2 SX Ap
variable [Tb]
def eCallK (F : FF) (g : List T → List T) (fa : FA) : FE := fun ρ Z => (fa ρ Z).bind fun ts Z1 => F (g ts) Z1
end Fx
set_option maxHeartbeats 4000000
namespace Fx
open PySem PySem.Spec PyProof.Rows L2 SX
variable [Tb]
end Fx
set_option maxHeartbeats 4000000
namespace Fx
open PySem PySem.Spec PyProof.Rows L2 SX Ap
variable [Tb]
theorem Z6o {a b : String} (h : PySem.Str.ofString a = PySem.Str.ofString b) : a = b := by
  have e : a.toList.map Char.toNat = b.toList.map Char.toNat := by rw [← signs_ofString,← signs_ofString,h]
  have key : ∀ (l m : List Char),l.map Char.toNat = m.map Char.toNat → l = m := by
    intro l
    induction l with
    | nil => intro m h; cases m with
      | nil => rfl
      | cons c m => cases h
    | cons c l ih => intro m h; cases m with
      | nil => cases h
      | cons d m =>
        rw [List.map_cons,List.map_cons] at h
        have h1 := (List.cons.inj h).1
        have h2 := ih m (List.cons.inj h).2
        have : c = d := by
          apply Char.ext
          apply UInt32.toNat_inj.mp
          exact h1
        rw [this,h2]
  exact String.toList_inj.mp (key _ _ e)
theorem Zk4 {a b : String} : (PySem.Str.ofString a == PySem.Str.ofString b) = (a == b) := by
  by_cases h : a = b
  · subst h; rw [beq_self_eq_true,beq_self_eq_true]
  · rw [beq_eq_false_iff_ne.mpr h,beq_eq_false_iff_ne.mpr fun e => h (Z6o e)]
theorem RepF.lookup {K : PySem.W.Frag} {ι : List Addr} {H : Hp} {f : String} : ∀ {vs : List (PySem.Str × V)} {fs : List (String × T)},RepF K ι H vs fs →
    (∀ t,fs.lookup f = some t → ∃ v,vs.lookup (PySem.Str.ofString f) = some v ∧ Rep K ι H v t) ∧ (fs.lookup f = none → vs.lookup (PySem.Str.ofString f) = none)
  | _,_,.nil => ⟨fun t e => (nomatch e),fun _ => rfl⟩
  | _,_,.cons r q => by
    rename_i k v vs t ts
    obtain ⟨h1,h2⟩ := RepF.lookup (f := f) q
    rw [List.lookup_cons,List.lookup_cons,Zk4]
    cases h : f == k with
    | true => exact ⟨fun u e => by cases e; exact ⟨v,rfl,r⟩,fun e => nomatch e⟩
    | false => exact ⟨h1,h2⟩
theorem RepF.length {K : PySem.W.Frag} {ι : List Addr} {H : Hp} : ∀ {vs : List (PySem.Str × V)} {fs : List (String × T)},RepF K ι H vs fs → vs.length = fs.length
  | _,_,.nil => rfl
  | _,_,.cons _ r => congrArg (· + 1) r.length
def putS (f : String) (t : T) : List (String × T) → List (String × T)
  | [] => [(f,t)]
  | (g,x) :: r => if g = f then (g,t) :: r else (g,x) :: putS f t r
theorem RepF.put {K : PySem.W.Frag} {ι : List Addr} {H : Hp} {f : String} {v : V} {t : T} (rv : Rep K ι H v t) : ∀ {vs : List (PySem.Str × V)} {fs : List (String × T)},RepF K ι H vs fs → RepF K ι H (putF (PySem.Str.ofString f) v vs) (putS f t fs)
  | _,_,.nil => .cons rv .nil
  | _,_,.cons r q => by
    rename_i k x vs u ts
    unfold putF putS
    by_cases h : k = f
    · rw [if_pos h,if_pos (by rw [h])]; exact .cons rv q
    · rw [if_neg h,if_neg fun e => h (Z6o e)]; exact .cons r (RepF.put rv q)
def getI (Z : Sto) (i : Nat) : Option (String × List (String × T)) := match Z[i]? with
  | some (.ins C fs) => some (C,fs)
  | _ => none
theorem Zag {Z : Sto} {i : Nat} {C : String} {fs : List (String × T)} (h : getI Z i = some (C,fs)) : Z[i]? = some (.ins C fs) := by
  unfold getI at h
  split at h
  · rename_i e; cases h; exact e
  · cases h
structure CF (K : PySem.W.Frag) (C : String) (Ca : Addr) : Prop where
  ns : PySem.W.nsIn K mainGlobals (PySem.Str.ofString C) = some (some (.ref Ca))
  cls : Cls K Ca
def FldOk (K : PySem.W.Frag) (cs : List String) (f : String) : Prop := ∀ C ∈ cs,∃ Ca,CF K C Ca ∧ NoAttr K Ca (PySem.Str.ofString f)
theorem FldOk.nil {K : PySem.W.Frag} {f : String} : FldOk K [] f := fun _ h => nomatch h
theorem FldOk.cons {K : PySem.W.Frag} {C : String} {Ca : Addr} {cs : List String} {f : String} (c : CF K C Ca) (n : NoAttr K Ca (PySem.Str.ofString f)) (h : FldOk K cs f) : FldOk K (C :: cs) f := fun D hD => by
  rcases List.mem_cons.mp hD with rfl | k
  · exact ⟨Ca,c,n⟩
  · exact h D k
theorem Zfv {K : PySem.W.Frag} {ι : List Addr} {H : Hp} {Z : Sto} {v : V} {i : Nat} {C : String} {fs : List (String × T)} (s : Sim K ι Z H) (r : Rep K ι H v (.loc i)) (e : getI Z i = some (C,fs)) :
    ∃ a Ca dx vs,v = .ref a ∧ ι[i]? = some a ∧ PySem.W.nsIn K mainGlobals (PySem.Str.ofString C) = some (some (.ref Ca)) ∧ H a = some (.ins Ca dx vs) ∧ RepF K ι H vs fs := by
  cases r with
  | loc h =>
    obtain ⟨a,h1,Ca,dx,vs,hn,h2,h3⟩ := s.at (Zag e)
    rw [h] at h1; cases h1
    exact ⟨_,Ca,dx,vs,rfl,h,hn,h2,h3⟩
def fldT (cs : List String) (f : String) (x : T) (Z : Sto) : Option T := match x with
  | .loc i => match getI Z i with
    | some (C,fs) => if C ∈ cs then fs.lookup f else none
    | none => none
  | _ => none
def eFld (cs : List String) (f : String) (fe : FE) : FE := fun ρ Z => (fe ρ Z).bind fun x Z1 => match fldT cs f x Z1 with
  | some t => .ok t Z1
  | none => .stuck
def setF (cs : List String) (f : String) (x y : T) (Z : Sto) : Option Sto := match x with
  | .loc i => match getI Z i with
    | some (C,fs) => if C ∈ cs ∧ fs.length < 1000 then some (Z.set i (.ins C (putS f y fs))) else none
    | none => none
  | _ => none
def sFldS (cs : List String) (f : String) (fo fv : FE) : FS := fun ρ Z => bS ρ (fv ρ Z) fun y Z1 => bS ρ (fo ρ Z1) fun x Z2 => match setF cs f x y Z2 with
  | some Z3 => .nx ρ Z3
  | none => .stuck
def gFld (cs : List String) (f : String) (fo : FE) : FG := fun y ρ Z => (fo ρ Z).bind fun x Z1 => match setF cs f x y Z1 with
  | some Z2 => .ok ρ Z2
  | none => .stuck
def insC (x : T) (Z : Sto) : Option String := match x with
  | .loc i => (getI Z i).map (·.1)
  | _ => none
def sFldA (cs : List String) (f : String) (fo fv : FE) (g : T → T → Sto → Option (T × Sto)) : FS := fun ρ Z => bS ρ (fo ρ Z) fun x Z1 => match fldT cs f x Z1 with
  | some t => bS ρ (fv ρ Z1) fun y Z2 => bS ρ (lift (g t y Z2)) fun z Z3 => if insC x Z3 = insC x Z1 then (match setF cs f x z Z3 with
    | some Z4 => .nx ρ Z4
    | none => .stuck) else .stuck
  | none => .stuck
section
variable {X : Cx} {K : PySem.W.Frag} {cs : List String} {f : String} {o e value : Expr} {pos pos' tpos : Pos} {fo fv fe : FE}
theorem Zjd {ι : List Addr} {H : Hp} {Z : Sto} {x : V} {tx t : T} (hc : FldOk K cs f) (s : Sim K ι Z H) (r : Rep K ι H x tx) (h : fldT cs f tx Z = some t) :
    ∃ a Ca dx vs v,x = .ref a ∧ H a = some (.ins Ca dx vs) ∧ Cls K Ca ∧ NoAttr K Ca (PySem.Str.ofString f) ∧ vs.lookup (PySem.Str.ofString f) = some v ∧ Rep K ι H v t ∧ ∃ C,insC tx Z = some C ∧ PySem.W.nsIn K mainGlobals (PySem.Str.ofString C) = some (some (.ref Ca)) := by
  unfold fldT at h
  split at h
  · split at h
    · rename_i C fs eg
      split at h
      · rename_i hC
        obtain ⟨a,Ca,dx,vs,rfl,hi,hn,ha,hf⟩ := Zfv s r eg
        obtain ⟨Cb,cf,na⟩ := hc C hC
        have e2 := hn.symm.trans cf.ns
        cases e2
        obtain ⟨v,hv,rv⟩ := hf.lookup.1 t h
        exact ⟨a,_,dx,vs,v,rfl,ha,cf.cls,na,hv,rv,C,by simp only [insC,eg,Option.map_some],hn⟩
      · cases h
    · cases h
  · cases h
theorem Zcw {ι : List Addr} {H : Hp} {Z Z' : Sto} {x y : V} {tx ty : T} (hc : FldOk K cs f) (s : Sim K ι Z H) (r : Rep K ι H x tx) (ry : Rep K ι H y ty) (h : setF cs f tx ty Z = some Z') :
    ∃ a Ca dx vs,x = .ref a ∧ H a = some (.ins Ca dx vs) ∧ Cls K Ca ∧ NoAttr K Ca (PySem.Str.ofString f) ∧ vs.length < 1000 ∧
      Gr ι ι H (upd H a (.ins Ca dx (putF (PySem.Str.ofString f) y vs))) ∧ Sim K ι Z' (upd H a (.ins Ca dx (putF (PySem.Str.ofString f) y vs))) ∧ ∃ C, insC tx Z = some C ∧ PySem.W.nsIn K mainGlobals (PySem.Str.ofString C) = some (some (.ref Ca)) := by
  unfold setF at h
  split at h
  · split at h
    · rename_i C fs eg
      split at h
      · rename_i hC
        cases h
        obtain ⟨a,Ca,dx,vs,rfl,hi,hn,ha,hf⟩ := Zfv s r eg
        obtain ⟨Cb,cf,na⟩ := hc C hC.1
        have e2 := hn.symm.trans cf.ns
        cases e2
        have g := Gr.mut (ι := ι) (o := .ins Ca dx (putF (PySem.Str.ofString f) y vs)) ha trivial (List.mem_of_getElem? hi)
        exact ⟨a,_,dx,vs,rfl,ha,cf.cls,na,by rw [hf.length]; exact hC.2,g,s.set hi ⟨Ca,dx,_,hn,upd_same,(hf.gr g).put (ry.gr g)⟩,C,by simp only [insC,eg,Option.map_some],hn⟩
      · cases h
    · cases h
  · cases h
theorem Xr {W : Wc} (hK : X.K = K) (hc : FldOk K cs f) (he : FJ X K W e fe) (hb : attributeBase e (PySem.Str.ofString f) X.env (eval e X.env) = eval e X.env := by rfl) : FJ X K W (.Attribute e (PySem.Str.ofString f) pos) (eFld cs f fe) := by
  subst hK
  refine Vz (pe_fld he hb) fun σ H Q h => ?_
  obtain ⟨ι,ρ,Z,is,p⟩ := h
  refine ⟨ι,ρ,Z,is,(Zo p).imp fun x H1 q => ?_⟩
  obtain ⟨ι1,Z1,tx,g1,s1,r1,p1⟩ := q
  split at p1
  · rename_i t et
    obtain ⟨a,Ca,dx,vs,v,rfl,ha,hcl,na,hv,rv,_⟩ := Zjd hc s1 r1 et
    exact ⟨a,Ca,dx,vs,v,rfl,ha,hcl,na,hv,p1 ι1 H1 _ Gr.refl s1 rv⟩
  · exact p1.elim
variable {W : WX}
theorem Z2f (hK : X.K = K) (hc : FldOk K cs f) (ho : FJ X K (Wt W) o fo) (hv : FJ X K (Wt W) value fv) (hs : swapsWith value (some (.Attribute o (PySem.Str.ofString f) pos')) pos.line X.env = pure false := by rfl) :
    FSJ X K W (.Assign [.Attribute o (PySem.Str.ofString f) pos'] value pos) (sFldS cs f fo fv) := by
  subst hK
  refine Jq (ps_fld ho hv hs) fun D σ H h => ?_
  obtain ⟨ι,ρ,Z,is,p⟩ := h
  refine Z8n is p fun y H1 ι1 Z1 ty g1 i1 r1 p1 => Z8n i1 p1 fun x H2 ι2 Z2 tx g2 i2 r2 p2 => ?_
  split at p2
  · rename_i Z3 e3
    obtain ⟨a,Ca,dx,vs,rfl,ha,hcl,na,hl,g3,s3,_⟩ := Zcw hc i2.sim r2 (r1.gr g2) e3
    exact ⟨a,Ca,dx,vs,rfl,ha,hcl,na,hl,p2 ι2 _ _ g3 (i2.gr g3 s3)⟩
  · exact p2.elim
theorem Zcx {op : Operator} {g : T → T → Sto → Option (T × Sto)} (hK : X.K = K) (hc : FldOk K cs f) (ho : FJ X K (Wt W) o fo) (hv : FJ X K (Wt W) value fv) (hop : PIp X op (rF2 K g)) :
    FSJ X K W (.AugAssign (.Attribute o (PySem.Str.ofString f) tpos) op value pos) (sFldA cs f fo fv g) := by
  subst hK
  refine Jq (ps_fldaug (rd := rF2 X.K g) ho hv hop) fun D σ H h => ?_
  obtain ⟨ι,ρ,Z,is,p⟩ := h
  refine Z8n is p fun x H1 ι1 Z1 tx g1 i1 r1 p1 => ?_
  split at p1
  · rename_i t et
    obtain ⟨a,Ca,dx,vs,v,rfl,ha,hcl,na,hv,rv,C1,ic1,nc1⟩ := Zjd hc i1.sim r1 et
    refine ⟨a,Ca,dx,vs,v,rfl,ha,hcl,na,hv,?_⟩
    refine Z8n i1 p1 fun y H2 ι2 Z2 ty g2 i2 r2 p2 => ⟨ι2,Z2,t,ty,i2.sim,rv.gr g2,r2,?_⟩
    refine U6 (W := W) (σ := σ) ((Z4e (rep := Rep X.K) i2 p2).imp fun z H3 q => ?_)
    obtain ⟨ι3,Z3,tz,g3,s3,r3,p3⟩ := q
    split at p3
    · rename_i hic
      split at p3
      · rename_i Z4 e4
        obtain ⟨a', Ca', dx', vs', ea, ha', hcl', na', hl', g4, s4, C2, ic2, nc2⟩ := Zcw hc s3 (r1.gr (g2.trans g3)) r3 e4
        cases ea
        rw [hic,ic1] at ic2
        cases ic2
        have e5 := nc1.symm.trans nc2
        cases e5
        exact ⟨dx', vs', ha', hl', p3 ι3 _ _ g4 ((i2.gr g3 s3).gr g4 s4)⟩
      · exact p3.elim
    · exact p3.elim
  · exact p1.elim
end
def methK (C m : String) (x : T) (Z : Sto) (r : Nat → R T) : R T := match x with
  | .loc i => match getI Z i with
    | some (C', fs) => if C' = C ∧ fs.lookup m = none then r i else .stuck
    | none => .stuck
  | _ => .stuck
def eMeth (C m : String) (F : FF) (ds : List T) (fo : FE) (fa : FA) : FE := fun ρ Z => (fo ρ Z).bind fun x Z1 => methK C m x Z1 fun i => (fa ρ Z1).bind fun ts Z2 => F (.loc i :: (ts ++ ds)) Z2
def eMake (C : String) (F : FF) (ds : List T) (fa : FA) : FE := fun ρ Z => (fa ρ Z).bind fun ts Z1 => (F (.loc Z1.length :: (ts ++ ds)) (Z1 ++ [.ins C []])).bind fun r Z2 => match r with
  | .non => .ok (.loc Z1.length) Z2
  | _ => .stuck
section
variable {X : Cx} {K : PySem.W.Frag} {W : Wc} {x : PySem.Str} {m C : String} {p pos apos : Pos} {o e : Expr} {es : List Expr} {fo : FE} {fa : FA} {k n : Nat} {Ca f : Addr} {fd : FuncData} {ps : List PySem.Str} {F : FF} {dvs : List V} {ds : List Value} {dts : List T}
theorem Zfw {ι : List Addr} {H : Hp} {Z : Sto} {v : V} {tx : T} {r : Nat → R T} {P : R T → Prop} (cf : CF K C Ca) (s : Sim K ι Z H) (rv : Rep K ι H v tx)
    (p : P (methK C m tx Z r)) (hP : ¬ P .stuck) : ∃ a dx vs i,v = .ref a ∧ tx = .loc i ∧ H a = some (.ins Ca dx vs) ∧ vs.lookup (PySem.Str.ofString m) = none ∧ P (r i) := by
  unfold methK at p
  cases tx with
  | loc i =>
    simp only at p
    split at p
    · rename_i C' fs eg
      split at p
      · rename_i hC
        obtain ⟨rfl,hm⟩ := hC
        obtain ⟨a,Cb,dx,vs,rfl,hi,hn,ha,hf⟩ := Zfv s rv eg
        have e2 := hn.symm.trans cf.ns
        cases e2
        exact ⟨a,dx,vs,i,rfl,rfl,ha,hf.lookup.2 hm,p⟩
      · exact (hP p).elim
    · exact (hP p).elim
  | _ => exact (hP p).elim
theorem Zv (hK : X.K = K) (cf : CF X.K C Ca) (hm : Meth X.K Ca (PySem.Str.ofString m) f) (G : FnG X.prog X.w X.K X.mg X.base k f fd ps (spF X.K n F)) (hr : Room k X.A) (hG : X.A.guards = some []) (hb : Binds X.K fd ps ds) (hd : Vals dvs ds) (hdf : Dfl K dvs dts) (tk : Takes X W.w)
    (ho : FJ X K W o fo) (ha : FAJ X K W (e :: es) fa) (hn : ofLen (e :: es) fa) (hln : (e :: es).length + dts.length + 1 = n := by rfl) {pl : Sem Bool}
    (hst : starEach (e :: es) X.env = (false,eval e X.env) :: starEach es X.env := by rfl) (hpl : (backTo pos (starEach es X.env)).any (·.1) = false := by rfl)
    (ht : eval (.Call (.Attribute o (PySem.Str.ofString m) apos) (e :: es) [] pos) X.env = (do
      let ov ← eval o X.env
      standAt apos.atName
      let (f,first) ← holding [ov] (getMethod ov (PySem.Str.ofString m) pl)
      callWith pos f first (backTo pos (starEach (e :: es) X.env)) (backToKw pos (keywordEach [] X.env))) := by rfl) :
    FJ X K W (.Call (.Attribute o (PySem.Str.ofString m) apos) (e :: es) [] pos) (eMeth C m F dts fo fa) := by
  subst hK
  refine ⟨fun pins s σ H Q I h => ?_⟩
  obtain ⟨ι,ρ,Z,is,p0⟩ := h
  have t0 : tF X.K W fo σ H (fun v H1 => ∃ ι1 Z1 tx,Gr ι ι1 H H1 ∧ Sim X.K ι1 Z1 H1 ∧ Rep X.K ι1 H1 v tx ∧ Post (Rep X.K) X.K W.w σ ι1 H1 Q (methK C m tx Z1 fun i => (fa ρ Z1).bind fun ts Z2 => F (.loc i :: (ts ++ dts)) Z2)) := ⟨ι,ρ,Z,is,Zo p0⟩
  refine PySem.W.methodCall_KW (pl := pl) (thn (ho.run pins s σ H _ I t0) fun u s1 ⟨v,H1,I1,rx,q⟩ => ?_) ht
  obtain ⟨ι1, Z1, tx, g1, s1', r1, p1⟩ := q
  obtain ⟨a, dx, vs, i, rfl, rfl, ea, l, p2⟩ := Zfw (K := X.K) (P := Post (Rep X.K) X.K W.w σ ι1 H1 Q) cf s1' r1 p1 (fun z => z)
  obtain rfl : u = Value.ref a := rx
  refine getmeth_ok I1 ea cf.cls hm l ?_
  have t : tFA X.K W fa σ H1 (fun ws H2 => spF X.K n F (.ref a :: (ws ++ dvs)) H2 Q (WE W.w σ)) := by
    refine ⟨ι1, ρ, Z1, is.gr g1 s1', ?_⟩
    cases e : fa ρ Z1 with
    | ok ts Z2 =>
      rw [e,Yy] at p2
      refine fun ι2 H2 ws g2 s2 r2 => ?_
      have r3 := r2.append (hdf ι2 H2)
      have rr : Reps X.K ι2 H2 (V.ref a :: (ws ++ dvs)) (.loc i :: (ts ++ dts)) := .cons (r1.gr g2) r3
      refine ⟨?_,ι2,Z2,_,s2,rr,(p2.shift g2).wx fun _ _ _ h => h⟩
      rw [rr.length,List.length_cons,List.length_append,hn _ _ _ _ e]
      exact hln
    | exc y Z2 => rw [e] at p2; exact p2
    | stuck => rw [e] at p2; exact p2
  refine PySem.W.callWith_K (first := [.ref a]) (h₀ := X.base) I1.ok.mod.kin hm.kp (thn (ha.run pos pins s1 σ H1 _ I1 t) fun us s2 ⟨ws,H2,I2,r,q2⟩ => ⟨I2.kIn,?_⟩) hst hpl
  exact Zjy (us := .ref a :: us) (vs := .ref a :: ws) G hr hG hb hd tk I2 (.cons rfl r) q2
theorem Zfx (hK : X.K = K) (cf : CF X.K C Ca) (hm : Meth X.K Ca (PySem.Str.ofString m) f) (G : FnG X.prog X.w X.K X.mg X.base k f fd ps (spF X.K n F)) (hr : Room k X.A) (hG : X.A.guards = some []) (hb : Binds X.K fd ps ds) (hd : Vals dvs ds) (hdf : Dfl K dvs dts) (tk : Takes X W.w)
    (ho : FJ X K W o fo) (hln : dts.length + 1 = n := by rfl) {pl : Sem Bool}
    (ht : eval (.Call (.Attribute o (PySem.Str.ofString m) apos) [] [] pos) X.env = (do
      let ov ← eval o X.env
      standAt apos.atName
      let (f,first) ← holding [ov] (getMethod ov (PySem.Str.ofString m) pl)
      callWith pos f first (backTo pos (starEach [] X.env)) (backToKw pos (keywordEach [] X.env))) := by rfl) :
    FJ X K W (.Call (.Attribute o (PySem.Str.ofString m) apos) [] [] pos) (eMeth C m F dts fo aNil) := by
  subst hK
  refine ⟨fun pins s σ H Q I h => ?_⟩
  obtain ⟨ι,ρ,Z,is,p0⟩ := h
  have t0 : tF X.K W fo σ H (fun v H1 => ∃ ι1 Z1 tx,Gr ι ι1 H H1 ∧ Sim X.K ι1 Z1 H1 ∧ Rep X.K ι1 H1 v tx ∧ Post (Rep X.K) X.K W.w σ ι1 H1 Q (methK C m tx Z1 fun i => (aNil ρ Z1).bind fun ts Z2 => F (.loc i :: (ts ++ dts)) Z2)) := ⟨ι,ρ,Z,is,Zo p0⟩
  refine PySem.W.methodCall_KW (pl := pl) (thn (ho.run pins s σ H _ I t0) fun u s1 ⟨v,H1,I1,rx,q⟩ => ?_) ht
  obtain ⟨ι1, Z1, tx, g1, s1', r1, p1⟩ := q
  obtain ⟨a, dx, vs, i, rfl, rfl, ea, l, p2⟩ := Zfw (K := X.K) (P := Post (Rep X.K) X.K W.w σ ι1 H1 Q) cf s1' r1 p1 (fun z => z)
  obtain rfl : u = Value.ref a := rx
  refine getmeth_ok I1 ea cf.cls hm l ?_
  have p3 : Post (Rep X.K) X.K W.w σ ι1 H1 Q (F (.loc i :: ([] ++ dts)) Z1) := p2
  rw [List.nil_append] at p3
  have rr : Reps X.K ι1 H1 (V.ref a :: dvs) (.loc i :: dts) := .cons r1 (hdf ι1 H1)
  exact PySem.W.callWith_K0 (first := [.ref a]) I1.kIn hm.kp (Zjy (us := [.ref a]) (vs := [.ref a]) G hr hG hb hd tk I1 (.cons rfl .nil) ⟨by rw [show [V.ref a] ++ dvs = V.ref a :: dvs from rfl, rr.length, List.length_cons]; exact hln, ι1, Z1, _, s1', rr, p3.wx fun _ _ _ h => h⟩)
theorem Zll {pins : List (Addr × Obj)} {σ : L2.St} {H : Hp} {s : Shared} {Q : VK} {us : List Value} {vs : List V} {sp : Sp} (M : Mk X.K Ca f) (G : FnG X.prog X.w X.K X.mg X.base k f fd ps sp) (hr : Room (k + 1) X.A) (hG : X.A.guards = some []) (hb : Binds X.K fd ps ds) (hd : Vals dvs ds) (tk : Takes X W.w)
    (I : Inv X pins σ H s) (r : Vals vs us)
    (h : ∀ a dx,H a = none → H dx = none → dx ≠ a → sp (.ref a :: (vs ++ dvs)) (upd (upd H dx (.own a)) a (.ins Ca dx [])) (fun v H2 => v = .non ∧ Q (.ref a) H2) (WE W.w σ)) :
    wpAny (model X.prog X.w) X.A (call (.ref Ca) us) (EP X pins σ Q) X.xe s := by
  have n1 := I.hok.fresh (Nat.le_succ s.heap.objs.size)
  have n0 := I.hok.fresh (Nat.le_refl s.heap.objs.size)
  have q0 := h _ _ n1 n0 (Nat.ne_of_lt (Nat.lt_succ_self _))
  have J := Inv.made (C := Ca) I
  have rr : Vals (V.ref (s.heap.objs.size + 1) :: (vs ++ dvs)) (Value.ref (s.heap.objs.size + 1) :: (us ++ ds)) := .cons rfl (r.append hd)
  have hl : (Value.ref (s.heap.objs.size + 1) :: us ++ ds).length = ps.length := (rr.length.symm.trans (G.len _ _ _ _ q0))
  have body := G.run (X.A.under (.builtin "type.__call__" ⟨.ref Ca :: us, []⟩)) X.stack _ _ ⟨Value.ref (s.heap.objs.size + 1) :: us, []⟩ _ _ _ _
    (hr.make Ca us []) hG (J.env0.make Ca us []) (hb _ (Value.ref (s.heap.objs.size + 1) :: us) J.kIn hl) rr q0
  refine wpAny_call (make_map (f := f) I.kIn M.makes M.init (beq_iff_eq.mp M.fn) (codeAny_mono body fun z s' hz => ?_))
  cases z with
  | error e => exact passAt tk σ pins _ _ e s' J hz
  | ok fl =>
    cases fl with
    | ret u =>
      obtain ⟨v, H', I3, rv, ev, q3⟩ := J.after hz
      subst ev
      exact ⟨rv, V.ref (s.heap.objs.size + 1), H', I3, rfl, q3⟩
    | next => exact hz.elim
    | brk => exact hz.elim
    | cont => exact hz.elim
theorem Zi3 {ι : List Addr} {H : Hp} {Z : Sto} {a dx : Addr} (cf : CF K C Ca) (s : Sim K ι Z H) (na : H a = none) (nd : H dx = none) (ne : dx ≠ a) :
    Gr ι (ι ++ [a]) H (upd (upd H dx (.own a)) a (.ins Ca dx [])) ∧ Sim K (ι ++ [a]) (Z ++ [.ins C []]) (upd (upd H dx (.own a)) a (.ins Ca dx [])) := by
  have g1 : Gr ι ι H (upd H dx (.own a)) := Gr.new0 nd
  have s1 := s.same (Z00 (o := .own a) nd)
  have na2 : upd H dx (.own a) a = none := by rw [upd_ne (Ne.symm ne)]; exact na
  exact ⟨g1.trans (Gr.new na2),s1.new na2 ⟨Ca,dx,[],cf.ns,upd_same,.nil⟩⟩
theorem made_post {ι : List Addr} {H : Hp} {Z : Sto} {Q : VK} {σ : L2.St} {a : Addr} {ts : List T} (s : Sim K ι Z H) {H2 : Hp} (g2 : Gr ι (ι ++ [a]) H H2)
    (p : Post (Rep K) K W.w σ ι H Q ((F ts (Z ++ [.ins C []])).bind fun r Z2 => match r with | .non => .ok (.loc Z.length) Z2 | _ => .stuck)) : Post (Rep K) K W.w σ (ι ++ [a]) H2 (fun v H3 => v = .non ∧ Q (.ref a) H3) (F ts (Z ++ [.ins C []])) := by
  cases e : F ts (Z ++ [.ins C []]) with
  | ok t Z2 =>
    rw [e,Yy] at p
    intro ι3 H3 v g3 s3 r3
    cases t with
    | non =>
      cases r3
      have hi : (ι ++ [a])[Z.length]? = some a := by rw [← s.len]; simp
      exact ⟨rfl,p ι3 H3 (.ref a) (g2.trans g3) s3 (.loc (g3.pre _ _ hi))⟩
    | _ => exact p.elim
  | exc x Z2 => rw [e] at p; exact fun ι3 H3 cls d g3 s3 rx => p ι3 H3 cls d (g2.trans g3) s3 rx
  | stuck => rw [e] at p; exact p
theorem Zfy (hK : X.K = K) (cf : CF X.K C Ca) (M : Mk X.K Ca f) (G : FnG X.prog X.w X.K X.mg X.base k f fd ps (spF X.K n F)) (hr : Room (k + 1) X.A) (hG : X.A.guards = some []) (hg : Gl X x) (hm : X.mg x = some (.ref Ca)) (hb : Binds X.K fd ps ds) (hd : Vals dvs ds) (hdf : Dfl K dvs dts) (tk : Takes X W.w)
    (ha : FAJ X K W (e :: es) fa) (hn : ofLen (e :: es) fa) (hln : (e :: es).length + dts.length + 1 = n := by rfl) (hdb : (x == ("__debug__" : PySem.Str)) = false := by decide) (he : starEach (e :: es) X.env = (false, eval e X.env) :: starEach es X.env := by rfl) (hpl : (backTo pos (starEach es X.env)).any (·.1) = false := by rfl) :
    FJ X K W (.Call (.Name x p) (e :: es) [] pos) (eMake C F dts fa) := by
  subst hK
  refine ⟨fun pins s σ H Q I h => ?_⟩
  refine wpAny_Call_Name_kw (ld_glob I hg hm ?_ hdb)
  obtain ⟨ι,ρ,Z,is,p⟩ := h
  have t : tFA X.K W fa σ H (fun vs H1 => ∀ a dx,H1 a = none → H1 dx = none → dx ≠ a → spF X.K n F (.ref a :: (vs ++ dvs)) (upd (upd H1 dx (.own a)) a (.ins Ca dx [])) (fun v H2 => v = .non ∧ Q (.ref a) H2) (WE W.w σ)) := by
    refine ⟨ι,ρ,Z,is,?_⟩
    unfold eMake at p
    cases e : fa ρ Z with
    | ok ts Z1 =>
      rw [e,Yy] at p
      refine fun ι1 H1 vs g1 s1 r1 a dx na nd ne => ?_
      obtain ⟨g2,s2⟩ := Zi3 cf s1 na nd ne
      have hi : (ι1 ++ [a])[Z1.length]? = some a := by rw [← s1.len]; simp
      have r2 : Reps X.K (ι1 ++ [a]) (upd (upd H1 dx (.own a)) a (.ins Ca dx [])) (V.ref a :: (vs ++ dvs)) (.loc Z1.length :: (ts ++ dts)) := .cons (.loc hi) ((r1.gr g2).append (hdf _ _))
      refine ⟨?_,_,_,_,s2,r2,(made_post s1 g2 (p.shift g1)).wx fun _ _ _ h => h⟩
      rw [r2.length,List.length_cons,List.length_append,hn _ _ _ _ e]
      exact hln
    | exc y Z1 => rw [e] at p; exact p
    | stuck => rw [e] at p; exact p
  refine PySem.W.callWith_K (h₀ := X.base) I.ok.mod.kin M.kp (thn (ha.run pos pins s σ H _ I t) fun us s1 ⟨vs,H1,I1,r,q⟩ => ⟨I1.kIn,?_⟩) he hpl
  exact Zll M G hr hG hb hd tk I1 r q
end
end Fx
set_option maxHeartbeats 4000000
namespace Fx
open PySem PySem.Spec PyProof.Rows L2 SX Ap
variable [Tb]
section
variable {X : Cx} {K : PySem.W.Frag} {W : WX} {cs : List String} {f : String} {o : Expr} {pos : Pos} {fo : FE}
def gFldV (K : PySem.W.Frag) (ta : TE) (f : PySem.Str) : TG := fun y σ H Q => ta σ H fun x H2 => ∃ a C dx fs,x = .ref a ∧ H2 a = some (.ins C dx fs) ∧ Cls K C ∧ NoAttr K C f ∧ fs.length < 1000 ∧ Q σ (upd H2 a (.ins C dx (putF f y fs)))
theorem Zlm {f : PySem.Str} {ta : TE} (ha : PE X o ta) (he : ∀ v,assign (.Attribute o f pos) X.env v = (do
    let ov ← holding [v] (eval o X.env)
    standAt pos.atName
    holding [v,ov] (setAttr ov f v)
    release [v,ov] []) := by intro _; rfl) : PG X (.Attribute o f pos) (gFldV X.K ta f) := by
  refine ⟨fun pins s σ H v u Q I r h => ?_⟩
  rw [he]
  refine wpAny_bind (wpAny_holding (thn (ha.run pins s σ H _ I h) fun ov s2 ⟨x,H2,I2,rx,a,C,dx,fs,ex,ea,c,n,l,q2⟩ => ?_))
  subst ex
  obtain rfl : ov = Value.ref a := rx
  refine wpAny_bind (wpAny_standAt (wpAny_bind (wpAny_holding (setattr_ok I2 ea c n l r fun s3 I3 => ?_))))
  exact wpAny_release ⟨σ,_,I3,q2⟩
theorem Zbz (hK : X.K = K) (hc : FldOk K cs f) (ho : FJ X K (Wt W) o fo) (he : ∀ v,assign (.Attribute o (PySem.Str.ofString f) pos) X.env v = (do
    let ov ← holding [v] (eval o X.env)
    standAt pos.atName
    holding [v,ov] (setAttr ov (PySem.Str.ofString f) v)
    release [v,ov] []) := by intro _; rfl) : PG X (.Attribute o (PySem.Str.ofString f) pos) (tG K W (gFld cs f fo)) := by
  subst hK
  refine Zdr (Zlm ho he) fun v σ H Q h => ?_
  obtain ⟨ι,ρ,Z,t,is,r,p⟩ := h
  refine ⟨ι,ρ,Z,is.ie,(Zo (rep := Rep X.K) p).imp fun x H1 q => ?_⟩
  obtain ⟨ι1,Z1,tx,g1,s1,r1,p1⟩ := q
  split at p1
  · rename_i Z2 e2
    obtain ⟨a,Ca,dx,vs,ex,ea,c,n,l,g2,s2,_⟩ := Zcw hc s1 r1 (r.gr g1) e2
    refine ⟨a,Ca,dx,vs,ex,ea,c,n,l,?_⟩
    have i2 := (is.gr g1 s1).gr g2 s2
    exact p1 ι1 _ _ g2 s2 ⟨i2.len,i2.env⟩
  · exact p1.elim
end
end Fx
set_option maxHeartbeats 4000000
namespace Fx
open PySem PySem.Spec PyProof.Rows L2 SX Ap
variable [Tb]
end Fx
set_option maxHeartbeats 4000000
namespace Fx
open PySem PySem.Spec PyProof.Rows L2 SX Ap
variable [Tb]
end Fx
set_option maxHeartbeats 4000000
namespace Fx
open PySem PySem.Spec PyProof.Rows L2 SX Ap
variable [Tb]
structure LamP (sc scope : Scope) (N : List PySem.Str) (dn : Option (PySem.Str × Int)) : Prop where
  kind : scope.kind = .function
  co : scope.isCoroutine = false
  gen : scope.isGenerator = false
  own : ∀ y ∈ scope.names,y.2 ≠ .cell
  loc : ∀ y ∈ scope.names,y.2 = .local → y.1 ∉ N
  free : ∀ y ∈ scope.names,y.2 = .free → sc.names.lookup y.1 = some .cell ∨ sc.names.lookup y.1 = some .free
  par : ∀ y i,dn = some (y,i) → scope.names.lookup y = some .local
theorem LamP.has {X : Cx} {scope : Scope} {N : List PySem.Str} {dn : Option (PySem.Str × Int)} (L : LamP X.env.scope scope N dn) (ok : X.Ok) : ∀ y ∈ scope.names,y.2 = .free → ∃ c,X.env.cells.lookup y.1 = some c := fun y hy e => by
  rcases L.free y hy e with k | k
  · exact ok.has _ (.inl k)
  · exact ok.has _ (.inr k)
open Classical in
noncomputable def eAsk (fl : Sto → R T) (lv : T) (i : Nat) : FE := fun ρ Z => if ρ[i]? = some (some lv) then fl Z else .stuck
def eLam (F : (Sto → R T) → T → FF) (fb : FE) (fa : FA) : FE := fun ρ Z => (fa ρ Z).bind fun ts Z1 => F (fun Z' => fb ρ Z') .non (.non :: ts) Z1
end Fx
set_option maxHeartbeats 4000000
namespace Ap
open PySem PySem.Spec PyProof.Rows L2 SX
end Ap
set_option maxHeartbeats 4000000
namespace Fx
open PySem PySem.Spec PyProof.Rows L2 SX Ap
variable [Tb]
def kdGet (l : List (List Nat × List Nat)) : T → Option (List Nat)
  | .str k => l.lookup k
  | _ => none
def eKdIx (l : List (List Nat × List Nat)) (fe : FE) : FE := fun ρ Z => (fe ρ Z).bind fun x Z1 => match kdGet l x with
  | some v => .ok (.str v) Z1
  | none => .stuck
def iKdItems (l : List (List Nat × List Nat)) : FI := fun _ Z => .ok (itSeq (l.map fun x => .tup [.str x.1,.str x.2])) Z
def eCallN (F : FF) (g : List T → List T → List T) (fa fk : FA) : FE := fun ρ Z => (fa ρ Z).bind fun ts Z1 => (fk ρ Z1).bind fun us Z2 => F (g ts us) Z2
def pick {α : Type} (ix : List Nat) (l : List α) : List α := ix.filterMap fun i => l[i]?
end Fx
set_option maxHeartbeats 4000000
namespace Fx
open PySem PySem.Spec PyProof.Rows L2 SX Ap
variable [Tb]
theorem Zk5 {P : Program} {w : World} {K : PySem.W.Frag} {mg mb : PySem.Str → Option Value} {k : Nat} {fa a : Addr} {cs : List (Addr × Addr)}
    {fd : FuncData} {x : PySem.Str} {sp : Sp} {s₁ : Shared} {vs : List Value} {ns : List Int}
    (KX : K.In s₁.heap) (hns : s₁.heap.Ns mainGlobals mg) (hb : s₁.heap.Ns builtinsNs mb)
    (hbb : ∀ x : PySem.Str, x ≠ "__name__" → mb x = bootBuiltins x) (hlim : s₁.heap.NoLimit) (hg : s₁.gens = #[])
    (hT : ∀ p ∈ cs,s₁.heap.get? p.2 = some { cls := .none,data := .fields #[] }) (nT : ∀ p ∈ cs,K.lookup p.2 = none) (C : ∀ p ∈ cs,PySem.W.CodeHd s₁.heap p.1 p.2)
    (hbm : ∃ (bm : Addr) (ob : Obj), mg "__builtins__" = some (.ref bm) ∧ bm ≠ builtinsNs ∧ s₁.heap.get? bm = some ob ∧ ob.cls = .type "module" ∧ ob.dict = some builtinsNs ∧ ob.data = .plain)
    (ha : s₁.heap.get? a = some { cls := .type "list", data := .seq vs.toArray }) (hi : IntsAre vs ns) (hl : ns.length ≤ sizeLine)
    (hr : Room k callerA)
    (F : ∀ base : Heap,K.In base → base.Ns mainGlobals mg → (∀ p ∈ cs,LamX.TabB base mg p.1 p.2) → GOk P w K mg base CX0 k fa fd [x] sp)
    (hbind : ∀ (s : Shared) (u : Value),BindsTo s fd ⟨[u],[]⟩ [(x,u)])
    (hsp : ∀ H : Hp,(∀ p ∈ cs,H p.2 = some (.tbl #[])) → Fx.FrL K H a (ns.map V.int) → sp [.ref a] H (fun v _ => v = .bl true) fun _ _ _ => False) :
    codeAny (model P w) callerA (.call (.ref fa) ⟨[.ref a],[]⟩)
      (fun r s' => r = .ok (.ret (.bool true)) ∧ OldK s₁.heap s'.heap ∧ s'.os = s₁.os ∧ AllBare s'.gens) s₁ := by
  have rv := vals_ints hi
  have lenV := hi.length
  have tabAt : ∀ {b : Addr},b ∈ cs.map (·.2) → s₁.heap.get? b = some { cls := .none,data := .fields #[] } := fun {b} hb => by
    obtain ⟨p,hp,rfl⟩ := List.mem_map.mp hb
    exact hT p hp
  have aNo : a ∉ cs.map (·.2) := fun z => by
    have q := tabAt z
    rw [ha] at q
    have := congrArg Obj.data (Option.some.inj q)
    cases this
  have inT : ∀ p ∈ cs,p.2 ∈ cs.map (·.2) := fun p hp => List.mem_map.mpr ⟨p,hp,rfl⟩
  suffices core : ∀ H : Hp,(∀ p ∈ cs,H p.2 = some (.tbl #[])) → Fx.FrL K H a (ns.map V.int) → HOk P w H s₁.heap →
      (∀ b u,H b = some u → (b = a ∧ K.lookup a = none ∧ ∃ o xs,u = .frz o (.lst xs)) ∨ (b ∈ cs.map (·.2) ∧ u = .tbl #[])) →
      codeAny (model P w) callerA (.call (.ref fa) ⟨[.ref a],[]⟩)
        (fun r s' => r = .ok (.ret (.bool true)) ∧ OldK s₁.heap s'.heap ∧ s'.os = s₁.os ∧ AllBare s'.gens) s₁ by
    cases hk : K.lookup a with
    | some o =>
      have e := KX a o hk
      rw [ha] at e
      cases e
      have at0 : ∀ b u,(fun b => if b ∈ cs.map (·.2) then some (.tbl #[]) else none : Hp) b = some u → b ∈ cs.map (·.2) ∧ u = .tbl #[] := by
        intro b u z
        dsimp only at z
        split at z
        · cases z; exact ⟨by assumption,rfl⟩
        · cases z
      refine core (fun b => if b ∈ cs.map (·.2) then some (.tbl #[]) else none) (fun p hp => if_pos (inT p hp)) (.inr ⟨_,vs.toArray,_,hk,rfl,rfl,rfl,?_,?_⟩) ?_ ?_
      · rw [List.size_toArray,lenV]; exact hl
      · simpa using rv
      · intro b u z
        obtain ⟨h1,rfl⟩ := at0 b u z
        exact tabAt h1
      · intro b u z
        exact .inr (at0 b u z)
    | none =>
      let o0 : HO := .frz { cls := .type "list", data := .seq vs.toArray } (.lst (ns.map V.int))
      have at0 : ∀ b u,(fun b => if b = a then some o0 else if b ∈ cs.map (·.2) then some (.tbl #[]) else none : Hp) b = some u → (b = a ∧ u = o0) ∨ (b ∈ cs.map (·.2) ∧ u = .tbl #[]) := by
        intro b u z
        dsimp only at z
        split at z
        · cases z; exact .inl ⟨by assumption,rfl⟩
        · split at z
          · cases z; exact .inr ⟨by assumption,rfl⟩
          · cases z
      refine core (fun b => if b = a then some o0 else if b ∈ cs.map (·.2) then some (.tbl #[]) else none) (fun p hp => ?_) (.inl ⟨{ cls := .type "list", data := .seq vs.toArray }, if_pos rfl⟩) ?_ ?_
      · show (if p.2 = a then some o0 else if p.2 ∈ cs.map (·.2) then some (HO.tbl #[]) else none) = _
        rw [if_neg (fun z => aNo (by rw [← z]; exact inT p hp)),if_pos (inT p hp)]
      · intro b u z
        rcases at0 b u z with ⟨rfl,rfl⟩ | ⟨h1,rfl⟩
        · exact ⟨ha,by rw [List.length_map]; exact hl,vs,_,rv,ha⟩
        · exact tabAt h1
      · intro b u z
        rcases at0 b u z with ⟨rfl,rfl⟩ | h1
        · exact .inl ⟨rfl,hk,_,_,rfl⟩
        · exact .inr h1
  intro H hH hS hok hA
  have free : ∀ {b : Addr},(∀ u,H b ≠ some u) → H b = none := fun {b} z => by
    cases q : H b with
    | none => rfl
    | some u => exact absurd q (z u)
  have noD : ∀ {b : Addr} {o : Obj},s₁.heap.get? b = some o → (∀ vs n,o.data ≠ .seq vs n) → o.data ≠ .fields #[] → H b = none := fun {b o} e h1 h2 => by
    apply free
    intro u q
    rcases hA b u q with ⟨rfl,_⟩ | ⟨h3,_⟩
    · rw [ha] at e
      cases e
      exact h1 _ _ rfl
    · rw [tabAt h3] at e
      cases e
      exact h2 rfl
  have dictFree : ∀ {b : Addr} {o : Obj} {es : Array DictEntry} {ep : Nat},s₁.heap.get? b = some o → o.data = .dict es ep → H b = none := fun e d =>
    noD e (fun vs n z => by rw [d] at z; cases z) (fun z => by rw [d] at z; cases z)
  have nsOf : ∀ {b : Addr} {m : PySem.Str → Option Value},s₁.heap.Ns b m → (hidT s₁.heap H).Ns b m := by
    intro b m ⟨o,es,ep,e,d,r⟩
    exact ⟨o,es,ep,hidT_get e (dictFree e d),d,r⟩
  have inB : K.In (hidT s₁.heap H) := by
    intro b o e
    refine hidT_get (KX b o e) (free ?_)
    intro u q
    rcases hA b u q with ⟨rfl,n,_⟩ | ⟨h3,_⟩
    · rw [n] at e
      cases e
    · obtain ⟨p,hp,rfl⟩ := List.mem_map.mp h3
      rw [nT p hp] at e
      cases e
  obtain ⟨mc,c1,c2⟩ := hlim
  have M : Mod K mg (hidT s₁.heap H) := ⟨inB,nsOf hns,⟨mb,nsOf hb,hbb⟩,⟨mc,nsOf c1,c2⟩⟩
  have e0 : Env0 P w K mg (hidT s₁.heap H) callerA [] s₁ H :=
    ⟨rfl,M,fun _ _ e => of_hidT e,Nat.le_of_eq (hidT_size _ _),trivial,fun b z => absurd (show b ∈ ([] : List Addr) from z) (by simp),hok,.of_eq hg⟩
  have TB : ∀ p ∈ cs,LamX.TabB (hidT s₁.heap H) mg p.1 p.2 := fun p hp => by
    have hTp := hT p hp
    refine ⟨?_,?_,fun z => ?_⟩
    · obtain ⟨o,us,file,tf,flags,tg,inF,text,tt,e1,r1,r2,r3,r⟩ := C p hp
      refine ⟨o,us,file,tf,flags,tg,inF,text,tt,hidT_get e1 (noD e1 (fun vs n z => ?_) fun z => ?_),r1,r2,r3,r⟩
      · rw [r2] at z; cases z
      · rw [r2] at z; cases z; simp at r3
    · obtain ⟨bm,ob,b1,b2,b3,b4,b5,b6⟩ := hbm
      have nG : bm ≠ mainGlobals := fun q => by
        obtain ⟨o,es,ep,e,hd,_⟩ := hns
        rw [q,e] at b3; cases b3; rw [hd] at b6; cases b6
      have nP : bm ≠ p.2 := fun q => by
        rw [q,hTp] at b3; cases b3; cases b6
      exact ⟨bm,ob,b1,b2,nG,nP,hidT_get b3 (noD b3 (fun vs n z => by rw [b6] at z; cases z) fun z => by rw [b6] at z; cases z),b4,b5,b6⟩
    · obtain ⟨o,es,ep,e,hd,_⟩ := hns
      rw [z,hTp] at e; cases e; cases hd
  have run := (F _ inB (nsOf hns) TB).run callerA [] s₁ H ⟨[.ref a],[]⟩ [.ref a] [.ref a] _ _ hr rfl e0 (hbind s₁ (.ref a)) (.cons rfl .nil) (hsp H hH hS)
  refine codeAny_mono run ?_
  intro r s' h
  match r,h with
  | .error e,h => exact False.elim h
  | .ok .next,h => exact False.elim h
  | .ok .brk,h => exact False.elim h
  | .ok .cont,h => exact False.elim h
  | .ok (.ret u), ⟨v, H', os, bare, un, hok', r', q⟩ =>
    cases (show v = .bl true from q)
    cases (show u = Value.bool true from r')
    have key : ∀ b o, b ∉ cs.map (·.2) → s₁.heap.get? b = some o → s'.heap.get? b = some o := fun b o nb e => by
      cases q : H b with
      | none => exact un.keep b o e q (fun z => absurd (show b ∈ ([] : List Addr) from z) (by simp)) (by simp)
      | some u =>
        rcases hA b u q with ⟨rfl,_,ob,xs,rfl⟩ | ⟨h3,_⟩
        · obtain ⟨e1,_⟩ := hok _ _ q
          obtain ⟨e2, _⟩ := hok' _ _ (un.frzs _ ob _ q)
          rw [e] at e1
          cases e1
          exact e2
        · exact absurd h3 nb
    have grown : ∀ p ∈ cs, ∃ more : Array Value, s'.heap.get? p.2 = some { cls := .none, data := .fields more } := fun p hp => by
      obtain ⟨more,z⟩ := un.tbls p.2 #[] (hH p hp)
      exact ⟨_, hok' p.2 _ z⟩
    refine ⟨rfl,⟨fun b o e => ?_,fun b o e => ?_⟩,os,bare⟩
    · by_cases hb : b ∈ cs.map (·.2)
      · obtain ⟨p,hp,rfl⟩ := List.mem_map.mp hb
        obtain ⟨more,hm⟩ := grown p hp
        rw [hT p hp] at e
        cases e
        exact .inr (.inl ⟨((C p hp).tab (hT p hp)).isCodeTable,rfl,#[],more,rfl,by rw [Array.empty_append]; exact hm⟩)
      · exact .inl (key b o hb e)
    · by_cases hb : b ∈ cs.map (·.2)
      · obtain ⟨p,hp,rfl⟩ := List.mem_map.mp hb
        obtain ⟨more,hm⟩ := grown p hp
        exact ⟨_,hm⟩
      · exact ⟨o,key b o hb e⟩
end Fx
namespace Fx
open PySem PySem.Spec PyProof.Rows L2 SX Ap
end Fx
set_option maxHeartbeats 4000000
namespace Fx
open PySem PySem.Spec PyProof.Rows L2 SX Ap
structure DefY where
  at_ : PySem.W.Frag → Addr
  name : PySem.Str
  qual : PySem.Str
  params : Arguments
  body : List Stmt
  scope : Scope
  dfl : List He.Dv := []
  kwd : List (PySem.Str × He.Dv) := []
def fnY (K : PySem.W.Frag) (a : Addr) : He.FnW := match K.lookup a with
  | some ⟨_,_,.func fd,_⟩ => some (fd.name,fd.qualname,fd.params,fd.body,fd.scope,fd.globals,fd.closure,fd.builtins)
  | _ => none
def fdOf (K : PySem.W.Frag) (a : Addr) : FuncData := match K.lookup a with
  | some ⟨_,_,.func fd,_⟩ => fd
  | _ => default
def DefY.val (d : DefY) : He.FnW := some (d.name,d.qual,d.params,.stmts d.body,d.scope,mainGlobals,[],builtinsNs)
def DefY.dvs (K : PySem.W.Frag) (d : DefY) : List V := d.dfl.map (He.Dv.v K)
def DefY.kws (K : PySem.W.Frag) (d : DefY) : List (PySem.Str × V) := d.kwd.map fun q => (q.1,q.2.v K)
def DefY.ok (K : PySem.W.Frag) (d : DefY) : Bool := PySem.W.keepIn K (.ref (d.at_ K)) && (match K.lookup (d.at_ K) with
  | some ⟨_,_,.func fd,_⟩ => PySem.W.codeIn K fd.code d.qual && (He.dflB K fd.defaults (d.dvs K) && He.kwdB K fd.kwdefaults (d.kws K))
  | _ => false)
theorem DefY.funD {K : PySem.W.Frag} {d : DefY} (e : fnY K (d.at_ K) = d.val) (c : d.ok K = true) : FunD K d.name d.qual d.params d.body d.scope (d.dvs K) (d.kws K) (d.at_ K) (fdOf K (d.at_ K)) := by
  obtain ⟨kp,c2⟩ := He.ba c
  unfold fnY at e
  unfold fdOf
  cases q : K.lookup (d.at_ K) with
  | none => rw [q] at c2; cases c2
  | some o =>
    obtain ⟨oc,od,dt,osl⟩ := o
    rw [q] at c2 e
    cases dt with
    | func fd =>
      obtain ⟨n1,n2,n3,n4,n5,n6,n7,n8,n9,n10,n11,n12,n13,n14,n15⟩ := fd
      have e2 : (some (n1,n2,n3,n4,n5,n6,n7,n15) : He.FnW) = some (d.name,d.qual,d.params,.stmts d.body,d.scope,mainGlobals,[],builtinsNs) := e
      simp only [Option.some.injEq,Prod.mk.injEq] at e2
      obtain ⟨h1,h2,h3,h4,h5,h6,h7,h8⟩ := e2
      subst h1 h2 h3 h4 h5 h6 h7 h8
      have c3 : (PySem.W.codeIn K n13 d.qual && (He.dflB K n8 (d.dvs K) && He.kwdB K n9 (d.kws K))) = true := c2
      obtain ⟨k1,k2⟩ := He.ba c3
      obtain ⟨k3,k4⟩ := He.ba k2
      exact ⟨⟨oc,od,n8,n9,n10,n11,n12,n13,n14,osl,rfl,q,k1,He.dflB_ok k3,He.kwdB_ok k4⟩,kp⟩
    | _ => cases c2
def asY (g : Addr → Option Obj) : Nat → List Addr
  | 0 => [mainGlobals,cStatics]
  | n + 1 => He.growD g (asY g n)
abbrev Exs : Type := List (PySem.W.Frag → Bool)
structure Says (fn : List DefY) (ts : List He.Tab) (ex : Exs) (w : World) (K : PySem.W.Frag) : Prop where
  df : fn.map (fun d => fnY K (d.at_ K)) = fn.map DefY.val
  dk : ts.map (fun t => He.dicW K (t.1 K)) = ts.map fun t => some (He.keysIn w.params t.2)
  ok : ((fn.all fun d => d.ok K) && ex.all fun e => e K) = true
abbrev AlY : Type := List He.FnW × List (Option (List (Option (PySem.Str × Int)))) × Bool
def obsK (fn : List DefY) (ts : List He.Tab) (ex : Exs) (K : PySem.W.Frag) : AlY := (fn.map (fun d => fnY K (d.at_ K)),ts.map (fun t => He.dicW K (t.1 K)),(fn.all fun d => d.ok K) && ex.all fun e => e K)
def valY (fn : List DefY) (ts : List He.Tab) (w : World) : AlY := (fn.map DefY.val,ts.map fun t => some (He.keysIn w.params t.2),true)
def obsY (n : Nat) (fn : List DefY) (ts : List He.Tab) (ex : Exs) (g : Addr → Option Obj) : AlY := obsK fn ts ex (He.frG g (asY g n))
def hookY (n : Nat) (fn : List DefY) (ts : List He.Tab) (ex : Exs) : PySem.W.Hook where
  α := AlY
  obs := fun s => obsY n fn ts ex s.heap.get?
  val := fun w => valY fn ts w
  says := fun w h => ∃ K : PySem.W.Frag,K.In h ∧ Says fn ts ex w K
  of := fun _ _ e => ⟨_,He.frG_in,⟨congrArg (fun z : AlY => z.1) e,congrArg (fun z : AlY => z.2.1) e,congrArg (fun z : AlY => z.2.2) e⟩⟩
  keeps := fun _ _ _ ⟨K,hK,c⟩ k => ⟨K,PySem.W.Frag.In.keeps hK k,c⟩
section
variable {fn : List DefY} {ts : List He.Tab} {ex : Exs} {w : World} {K : PySem.W.Frag}
theorem Says.fact (c : Says fn ts ex w K) (i : Nat) {e : PySem.W.Frag → Bool} (h : ex[i]? = some e := by rfl) : e K = true := by
  have := (He.ba c.ok).2
  exact List.all_eq_true.mp this e (List.mem_of_getElem? h)
theorem Says.def_ (c : Says fn ts ex w K) (i : Nat) {d : DefY} (h : fn[i]? = some d := by rfl) : FunD K d.name d.qual d.params d.body d.scope (d.dvs K) (d.kws K) (d.at_ K) (fdOf K (d.at_ K)) := by
  have h1 := List.all_eq_true.mp (He.ba c.ok).1 d (List.mem_of_getElem? h)
  refine DefY.funD ?_ h1
  have h2 := congrArg (fun l => l[i]?) c.df
  simp only [List.getElem?_map,h,Option.map_some] at h2
  exact Option.some.inj h2
theorem Says.tab (c : Says fn ts ex w K) (i : Nat) {t : He.Tab} (h : ts[i]? = some t := by rfl) : ∃ es n,KDict K w (t.1 K) es n := by
  have h2 := congrArg (fun l => l[i]?) c.dk
  simp only [List.getElem?_map,h,Option.map_some] at h2
  exact He.dicW_ok (Option.some.inj h2)
end
structure Cx5 (fn : List DefY) (ts : List He.Tab) (ex : Exs) (w : World) (K : PySem.W.Frag) (mg : PySem.Str → Option Value) : Prop where
  c : Says fn ts ex w K
  kx : ∃ h : Heap,K.In h ∧ h.Ns mainGlobals mg
section
variable {fn : List DefY} {ts : List He.Tab} {ex : Exs} {w : World} {K : PySem.W.Frag} {mg : PySem.Str → Option Value}
theorem Cx5.glo (C : Cx5 fn ts ex w K mg) (i : Nat) {x : PySem.Str} (h : ex[i]? = some (fun K => (He.Fa.glo x).ok K) := by rfl) : mg x = some (.ref (He.ga K x)) := by
  obtain ⟨h', X, G⟩ := C.kx
  exact He.glo_ok X G (C.c.fact i h)
theorem Cx5.free (C : Cx5 fn ts ex w K mg) (i : Nat) {x : PySem.Str} (h : ex[i]? = some (fun K => (He.Fa.free x).ok K) := by rfl) : mg x = none := by
  obtain ⟨h', X, G⟩ := C.kx
  exact He.free_ok X G (C.c.fact i h)
theorem Cx5.str (C : Cx5 fn ts ex w K mg) (i : Nat) {x z : PySem.Str} (h : ex[i]? = some (fun K => (He.Fa.str x z).ok K) := by rfl) : ∃ t,mg x = some (.str z t) := by
  obtain ⟨h', X, G⟩ := C.kx
  exact He.str_ok X G (C.c.fact i h)
theorem Cx5.int (C : Cx5 fn ts ex w K mg) (i : Nat) {x : PySem.Str} {z : Int} (h : ex[i]? = some (fun K => (He.Fa.int x z).ok K) := by rfl) : ∃ t,mg x = some (.int z t) := by
  obtain ⟨h', X, G⟩ := C.kx
  exact He.int_ok X G (C.c.fact i h)
theorem Cx5.ns (C : Cx5 fn ts ex w K mg) (i : Nat) {x : PySem.Str} (h : ex[i]? = some (fun K => (He.Fa.glo x).ok K) := by rfl) : PySem.W.nsIn K mainGlobals x = some (some (.ref (He.ga K x))) := He.eqO_ok (C.c.fact i h)
end
def tupAt (p : PySem.W.Frag → Addr) (vs : List He.Dv) (K : PySem.W.Frag) : Bool := match K.lookup (p K) with
  | some ⟨.type c, _, .seq its _, _⟩ => decide (c = "tuple") && (decide (its.size ≤ sizeLine) && He.relAll (vs.map (He.Dv.v K)) its.toList)
  | _ => false
theorem Z1b {K : PySem.W.Frag} {p : PySem.W.Frag → Addr} {vs : List He.Dv} (h : tupAt p vs K = true) (H : Hp) : SqT K H (p K) (vs.map (He.Dv.v K)) := by
  unfold tupAt at h
  cases q : K.lookup (p K) with
  | none => rw [q] at h; cases h
  | some o =>
    obtain ⟨oc,od,dt,osl⟩ := o
    rw [q] at h
    cases oc with
    | type c =>
      cases dt with
      | seq its n =>
        obtain ⟨h1, h2⟩ := He.ba (show (decide (c = "tuple") && (decide (its.size ≤ sizeLine) && He.relAll (vs.map (He.Dv.v K)) its.toList)) = true from h)
        obtain ⟨h3,h4⟩ := He.ba h2
        exact .inr ⟨_,its,n,q,congrArg Value.type (of_decide_eq_true h1),rfl,of_decide_eq_true h3,He.relAll_ok h4⟩
      | _ => cases h
    | _ => cases dt <;> cases h
def dflY (f : PySem.W.Frag → Addr) (i : Nat) (K : PySem.W.Frag) : Addr := match K.lookup (f K) with
  | some ⟨_,_,.func fd,_⟩ => (match fd.defaults with
    | .ref T => (match K.lookup T with
      | some ⟨_,_,.seq its _,_⟩ => (match its.toList[i]? with
        | some (.ref a) => a
        | _ => 0)
      | _ => 0)
    | _ => 0)
  | _ => 0
def gY (x : PySem.Str) (K : PySem.W.Frag) : Addr := He.ga K x
def mY (c m : PySem.Str) (K : PySem.W.Frag) : Addr := He.ma K (He.ga K c) m
def oexB (x : PySem.Str) (K : PySem.W.Frag) : Bool := (match K.lookup (He.ga K x) with
  | some ⟨.type t, _, .cls ⟨_, _, .ref C :: bm, _, _, hd, _, _, _, _, hdel⟩, ⟨[_, _, _, _, some (.builtin n), _]⟩⟩ => decide (t = "type") && (decide (C = He.ga K x) && (hd && (!hdel && (decide (n = "ValueError.__new__") && PySem.HandSPX.refsVE bm))))
  | _ => false) && (He.eqO (PySem.W.findIn K (.ref (He.ga K x)) "__setattr__") (some (some (.builtin "object.__setattr__"))) && (decide (PySem.W.subIn K (.ref (He.ga K x)) (.type "BaseException") = some true) && (decide (PySem.W.typeIn K (.ref (He.ga K x)) = some (.type "type")) && PySem.W.keepIn K (.ref (He.ga K x)))))
theorem Zk6 {x : PySem.Str} {K : PySem.W.Frag} (h : oexB x K = true) : OexC K (He.ga K x) := by
  obtain ⟨h0,h⟩ := He.ba h
  obtain ⟨h1,h⟩ := He.ba h
  obtain ⟨h2,h⟩ := He.ba h
  obtain ⟨h3,h4⟩ := He.ba h
  refine ⟨?_,He.eqO_ok h1,of_decide_eq_true h2,of_decide_eq_true h3,h4⟩
  split at h0
  · rename_i t dd nm bs C bm ns qn hd sn sub ab col hdel k0 k1 k2 k3 n k5 e
    obtain ⟨a1,h0⟩ := He.ba h0
    obtain ⟨a2,h0⟩ := He.ba h0
    obtain ⟨a3,h0⟩ := He.ba h0
    obtain ⟨a4,h0⟩ := He.ba h0
    obtain ⟨a5,a6⟩ := He.ba h0
    have b1 := of_decide_eq_true a1
    have b2 := of_decide_eq_true a2
    have b5 := of_decide_eq_true a5
    have b4 : hdel = false := by cases hdel <;> simp_all
    subst b1 b4 b5
    refine ⟨nm,qn,ns,bs,bm,sn,sub,ab,col,dd,k0,k1,k2,k3,k5,?_,a6⟩
    rw [e,b2,a3]
  · cases h0
def exCB (x : PySem.Str) (K : PySem.W.Frag) : Bool := xfB K (He.ga K x) && (He.eqO (PySem.W.findIn K (.ref (He.ga K x)) "__class__") (some (some (.builtin "object.__class__"))) && (He.eqO (PySem.W.specialIn K (.builtin "object.__class__") "__get__") (some (some (.builtin "getset_descriptor.__get__"))) && (decide (PySem.W.takesIn K (.builtin "object.__class__") = some true) && decide (PySem.W.mroIn K (He.ga K x) (.type "object") = some true))))
def baseB (x : PySem.Str) (K : PySem.W.Frag) : Bool := He.eqO (PySem.W.specialIn K (.ref (He.ga K x)) "__getattribute__") (some (some (.builtin "type.__getattribute__"))) && (PySem.W.readsIn K (He.ga K x) (.type "type") && (match PySem.W.findCls K (.ref (He.ga K x)) (.type "type") "__init__" with
  | some (.val (.builtin n)) => decide (n = "ValueError.__init__")
  | _ => false))
theorem Zi4 {x : PySem.Str} {K : PySem.W.Frag} (h : baseB x K = true) : BaseC K (He.ga K x) := by
  obtain ⟨h1,h⟩ := He.ba h
  obtain ⟨h2,h3⟩ := He.ba h
  refine ⟨He.eqO_ok h1,h2,?_⟩
  split at h3
  · rename_i n e; rw [e,of_decide_eq_true h3]
  · cases h3
def kitB2 (x : PySem.Str) (v : PySem.W.Frag → Value) (K : PySem.W.Frag) : Bool := decide (PySem.W.kitOne K (.ref (He.ga K x)) (v K) = some true)
def initB (x : PySem.Str) (K : PySem.W.Frag) : Bool := He.eqO (PySem.W.findIn K (.ref (He.ga K x)) "__init__") (some (some (.ref (mY x "__init__" K)))) && decide (PySem.W.typeIn K (.ref (mY x "__init__" K)) = some (.type "function"))
theorem Zi5 {x : PySem.Str} {K : PySem.W.Frag} (h : initB x K = true) : PySem.W.findIn K (.ref (He.ga K x)) "__init__" = some (some (.ref (mY x "__init__" K))) ∧ PySem.W.typeIn K (.ref (mY x "__init__" K)) = some (.type "function") := by
  obtain ⟨h1,h2⟩ := He.ba h
  exact ⟨He.eqO_ok h1,of_decide_eq_true h2⟩
def noDigB (K : PySem.W.Frag) : Bool := He.eqO (PySem.W.nsIn K cStatics "sys.int_max_str_digits") (some none)
theorem Zfz {K : PySem.W.Frag} (h : noDigB K = true) : NoDig K := He.eqO_ok h
theorem Zk7 (hTb : ∀ T : Tb,T = tb0 → True) {l : PySem.W.OpenLaw} {n k m : Nat} {q : Program} {loose : List PySem.Str} {XP : (PySem.Str → Option Value) → Heap → Prop} {fn : List DefY} {ts : List He.Tab} {ex : Exs} {d : DefRec} {F : FF} {x : PySem.Str}
    (hn : l.most = some n) (hn2 : n ≤ sizeLine) (hdf : d.params.defaults = []) (hr : Room k callerA)
    (hG : ∀ (w : World) (mg : PySem.Str → Option Value) (K : PySem.W.Frag),Cx5 fn ts ex w K mg → ∃ fd : FuncData,mg d.name = some (.ref (He.ga K d.name)) ∧ (∀ (s : Shared) (u : Value),BindsTo s fd ⟨[u],[]⟩ [(x,u)]) ∧
        ∀ base : Heap,FnG l.prog w K mg base k (He.ga K d.name) fd [x] (@spF tb0 K 1 F))
    (hF : ∀ ns : List Int,ns.length ≤ n → ∃ Z,F [.frl (ns.map .int)] [] = .ok (.bl true) Z) :
    PySem.W.WalkO q loose XP (hookY m fn ts ex).says l.row.toRowW d [] (fun f vs => PySem.call f vs) := by
  apply Att.attach_call hn hdf
  intro w s₀ s₁ mg mb fa o pm cd doc a vs ns G Y ho hd hcd hmg hobj hints hlen hg
  obtain ⟨K,KX,c⟩ := Y
  obtain ⟨fd,h0,hb,hf⟩ := hG w mg K ⟨c,_,KX,G.T.g⟩
  have e := hmg.symm.trans h0
  cases e
  letI tb : Tb := tb0
  refine Zk5 (cs := []) (sp := fun vs H Q _ => spF K 1 F vs H Q (fun _ _ _ => False)) KX G.T.g G.T.b G.T.builtins G.T.nolimit hg (fun p hp => by cases hp) (fun p hp => by cases hp) (fun p hp => by cases hp) G.T.bmain hobj hints (Nat.le_trans hlen hn2) hr (fun base b1 b2 b3 => ?_) hb (fun H hH hS => ?_)
  · exact fnG_0 (hf base)
  · obtain ⟨Z,e⟩ := hF ns hlen
    refine ⟨rfl,[],[],[.frl (ns.map .int)],⟨rfl,List.nodup_nil,fun i a o h => by simp at h,fun p hp => by cases hp⟩,.cons (Zk1 hS) .nil,?_⟩
    rw [e]
    intro ι' H' b g s r
    cases r
    rfl
end Fx
set_option maxHeartbeats 4000000
set_option maxHeartbeats 0
section
open PySem PySem.W PySem.Calls PyProof.Rows
theorem Ap.pre_law : (OpenLaw.row PySem.Challenge.rw_anchorpages_k29_whole_values_of_plain_te).Holds → PySem.Challenge.rw_anchorpages_k29_whole_values_of_plain_te.Holds := by
  intro h
  w_on; o_law
  exact h
end
set_option maxHeartbeats 4000000
namespace Fx
open PySem PySem.Spec PyProof.Rows L2 SX Ap
variable [Tb]
mutual
def T.mv (f : Nat → Option Nat) : T → Option T
  | .non => some .non
  | .bl b => some (.bl b)
  | .int i => some (.int i)
  | .str l => some (.str l)
  | .tup ts => (T.mvs f ts).map .tup
  | .loc i => (f i).map .loc
  | .frl ts => (T.mvs f ts).map .frl
  | .ref a => some (.ref a)
  | .ty n => some (.ty n)
  | .lam _ _ _ _ => none
  | .ktp ts => (T.mvs f ts).map .ktp
def T.mvs (f : Nat → Option Nat) : List T → Option (List T)
  | [] => some []
  | t :: ts => match T.mv f t,T.mvs f ts with
    | some u,some us => some (u :: us)
    | _,_ => none
end
def mvP {κ : Type} (f : Nat → Option Nat) : List (κ × T) → Option (List (κ × T))
  | [] => some []
  | (k,t) :: ts => match T.mv f t,mvP f ts with
    | some u,some us => some ((k,u) :: us)
    | _,_ => none
def O.mv (f : Nat → Option Nat) : O → Option O
  | .lst ts => (T.mvs f ts).map .lst
  | .dk ts => (mvP f ts).map .dk
  | .dt ts => (mvP f ts).map .dt
  | .ins C ts => (mvP f ts).map (.ins C)
section
variable {K : PySem.W.Frag} {ι ι' : List Addr} {H : Hp} {f : Nat → Option Nat}
mutual
theorem Rep.mv (hf : ∀ i j a, f i = some j → ι[i]? = some a → ι'[j]? = some a) : ∀ {v : V} {t t' : T}, Rep K ι H v t → T.mv f t = some t' → Rep K ι' H v t'
  | _,_,_,.non,e => by cases e; exact .non
  | _,_,_,.bl b,e => by cases e; exact .bl b
  | _,_,_,.int i,e => by cases e; exact .int i
  | _,_,_,.str l,e => by cases e; exact .str l
  | _,_,_,.tup h r,e => by
    simp only [T.mv] at e
    obtain ⟨us,e1,rfl⟩ := Option.map_eq_some_iff.mp e
    exact .tup h (Reps.mv hf r e1)
  | _,_,_,.loc h,e => by
    simp only [T.mv] at e
    obtain ⟨j,e1,rfl⟩ := Option.map_eq_some_iff.mp e
    exact .loc (hf _ _ _ e1 h)
  | _,_,_,.frl h r,e => by
    simp only [T.mv] at e
    obtain ⟨us,e1,rfl⟩ := Option.map_eq_some_iff.mp e
    exact .frl h (Reps.mv hf r e1)
  | _,_,_,.ref a,e => by cases e; exact .ref a
  | _,_,_,.ty n,e => by cases e; exact .ty n
  | _,_,_,.lam _ _,e => by cases e
  | _,_,_,.ktp h r,e => by
    simp only [T.mv] at e
    obtain ⟨us,e1,rfl⟩ := Option.map_eq_some_iff.mp e
    exact .ktp h (Reps.mv hf r e1)
theorem Reps.mv (hf : ∀ i j a, f i = some j → ι[i]? = some a → ι'[j]? = some a) : ∀ {vs : List V} {ts ts' : List T}, Reps K ι H vs ts → T.mvs f ts = some ts' → Reps K ι' H vs ts'
  | _,_,_,.nil,e => by cases e; exact .nil
  | _,_,_,.cons r q,e => by
    simp only [T.mvs] at e
    split at e
    · rename_i u us e1 e2
      cases e
      exact .cons (Rep.mv hf r e1) (Reps.mv hf q e2)
    · cases e
end
theorem RepP.mv {κ : Type} (hf : ∀ i j a, f i = some j → ι[i]? = some a → ι'[j]? = some a) : ∀ {vs : List (κ × V)} {ts ts' : List (κ × T)}, RepP K ι H vs ts → mvP f ts = some ts' → RepP K ι' H vs ts'
  | _,_,_,.nil,e => by cases e; exact .nil
  | _,_,_,.cons r q,e => by
    simp only [mvP] at e
    split at e
    · rename_i u us e1 e2
      cases e
      exact .cons (Rep.mv hf r e1) (RepP.mv hf q e2)
    · cases e
theorem RepF.mv (hf : ∀ i j a, f i = some j → ι[i]? = some a → ι'[j]? = some a) : ∀ {vs : List (PySem.Str × V)} {ts ts' : List (String × T)}, RepF K ι H vs ts → mvP f ts = some ts' → RepF K ι' H vs ts'
  | _,_,_,.nil,e => by cases e; exact .nil
  | _,_,_,.cons r q,e => by
    simp only [mvP] at e
    split at e
    · rename_i u us e1 e2
      cases e
      exact .cons (Rep.mv hf r e1) (RepF.mv hf q e2)
    · cases e
theorem ObR.mv (hf : ∀ i j a, f i = some j → ι[i]? = some a → ι'[j]? = some a) {a : Addr} {o o' : O} (h : ObR K ι H a o) (e : O.mv f o = some o') : ObR K ι' H a o' := by
  cases o with
  | lst ts =>
    obtain ⟨us,e1,rfl⟩ := Option.map_eq_some_iff.mp e
    obtain ⟨vs,h,r⟩ := h
    exact ⟨vs,h,r.mv hf e1⟩
  | dk ts =>
    obtain ⟨us,e1,rfl⟩ := Option.map_eq_some_iff.mp e
    obtain ⟨vs,h,r⟩ := h
    exact ⟨vs,h,r.mv hf e1⟩
  | dt ts =>
    obtain ⟨us,e1,rfl⟩ := Option.map_eq_some_iff.mp e
    obtain ⟨vs,h,r⟩ := h
    exact ⟨vs,h,r.mv hf e1⟩
  | ins C ts =>
    obtain ⟨us,e1,rfl⟩ := Option.map_eq_some_iff.mp e
    obtain ⟨Ca,dx,vs,hn,h,r⟩ := h
    exact ⟨Ca,dx,vs,hn,h,r.mv hf e1⟩
end
section
variable {K : PySem.W.Frag} {n : Nat} {F : FF}
theorem Zg0 {ι ι1 : List Addr} {H H1 : Hp} {Y Y' : Sto} (g : Gr ι ι1 H H1) (s : Sim K ι Y H) (s1 : Sim K ι1 Y' H1) : Y.length ≤ Y'.length := by
  rw [← s.len,← s1.len]
  cases h : ι.length with
  | zero => omega
  | succ m =>
    have hm : m < ι.length := by omega
    have := g.pre m _ (List.getElem?_eq_getElem hm)
    have := (List.getElem?_eq_some_iff.mp this).1
    omega
end
end Fx
set_option maxHeartbeats 4000000
namespace Fx
open PySem PySem.Spec PyProof.Rows L2 SX Ap
variable [Tb]
def gLeW : T → T → Sto → Option (T × Sto)
  | .int i,.int j,Z => some (.bl (decide (i ≤ j)),Z)
  | .str a,.str b,Z => some (.bl (!decide (b < a)),Z)
  | _,_,_ => none
def gGtW : T → T → Sto → Option (T × Sto)
  | .int i,.int j,Z => some (.bl (decide (j < i)),Z)
  | .str a,.str b,Z => some (.bl (decide (b < a)),Z)
  | _,_,_ => none
def gGeW : T → T → Sto → Option (T × Sto)
  | .int i,.int j,Z => some (.bl (decide (j ≤ i)),Z)
  | .str a,.str b,Z => some (.bl (!decide (a < b)),Z)
  | _,_,_ => none
section
variable {X : Cx} {K : PySem.W.Frag}
theorem Z61 : OpF X K (compareOp .LtE) gLeW := by
  refine Xz (Qh op_le op_le_str) fun x y H Q h => ?_
  obtain ⟨ι,Z,tx,ty,s,rx,ry,p⟩ := h
  unfold gLeW at p
  split at p
  · cases rx; cases ry; exact .inl ⟨_,_,rfl,rfl,Y8 p s (.bl _)⟩
  · cases rx; cases ry; exact .inr ⟨_,_,rfl,rfl,Y8 p s (.bl _)⟩
  · exact p.elim
theorem Zes : OpF X K (compareOp .Gt) gGtW := by
  refine Xz (Qh op_gt op_gt_str) fun x y H Q h => ?_
  obtain ⟨ι,Z,tx,ty,s,rx,ry,p⟩ := h
  unfold gGtW at p
  split at p
  · cases rx; cases ry; exact .inl ⟨_,_,rfl,rfl,Y8 p s (.bl _)⟩
  · cases rx; cases ry; exact .inr ⟨_,_,rfl,rfl,Y8 p s (.bl _)⟩
  · exact p.elim
theorem Zln : OpF X K (compareOp .GtE) gGeW := by
  refine Xz (Qh op_ge op_ge_str) fun x y H Q h => ?_
  obtain ⟨ι,Z,tx,ty,s,rx,ry,p⟩ := h
  unfold gGeW at p
  split at p
  · cases rx; cases ry; exact .inl ⟨_,_,rfl,rfl,Y8 p s (.bl _)⟩
  · cases rx; cases ry; exact .inr ⟨_,_,rfl,rfl,Y8 p s (.bl _)⟩
  · exact p.elim
end
def gExtend : T → List T → Sto → Option (T × Sto)
  | .loc n,[.loc m],Z => match getL Z n,getL Z m with
    | some ts,some us => if ts.length + us.length ≤ Lim then some (.non,Z.set n (.lst (ts ++ us))) else none
    | _,_ => none
  | _,_,_ => none
def gFind2 : T → List T → Sto → Option (T × Sto)
  | .str a,[.str b],Z => some (.int (Txt.find (S a) (S b)),Z)
  | .str a,[.str b,.int i],Z => some (.int (Txt.find3 (S a) (S b) i),Z)
  | _,_,_ => none
theorem MtM.r {X : Cx} {id : String} {r : V → List V → Hp → VK → Prop} (h : MtM X id r) : MtR X id r := h
section
variable {X : Cx} {K : PySem.W.Frag}
theorem m_extend : MtR X "list.extend" (rFM K gExtend) := Z60 (MtM.r mt_extend) fun x xs H Q h => by
  obtain ⟨ι,Z,tx,ts,s,rx,rs,p⟩ := h
  unfold gExtend at p
  split at p
  · obtain ⟨y,rfl,ry⟩ := rs.one
    split at p
    · rename_i us ws e1 e2
      split at p
      · rename_i hl
        obtain ⟨a,vs,rfl,ha,h1,r⟩ := Jr s (Vh e1) rx
        obtain ⟨b,zs,rfl,hb,h2,r2⟩ := Jr s (Vh e2) ry
        refine ⟨a,b,vs,zs,rfl,rfl,h1,h2,by rw [r.length,r2.length]; exact Nat.le_trans hl Zbv,?_⟩
        have g := Gr.mut (ι := ι) (o := .lst (vs ++ zs)) h1 trivial (List.mem_of_getElem? ha)
        exact p ι _ _ g (s.set ha ⟨_,upd_same,(r.gr g).append (r2.gr g)⟩) .non
      · exact p.elim
    · exact p.elim
  · exact p.elim
theorem Zk8 : MtR X "str.find" (rFM K gFind2) := by
  have h2 : MtR X "str.find" (fun x xs H Q => (∃ a b, x = .str a ∧ xs = [.str b] ∧ Q (.int (Txt.find a b)) H) ∨ ∃ (a b : Str) (i : Int), x = .str a ∧ xs = [.str b, .int i] ∧ Q (.int (Txt.find3 a b i)) H) := by
    intro pins s σ H x xs v us Q I rx rs h
    rcases h with h | h
    · exact mt_find pins s σ H x xs v us Q I rx rs h
    · exact mt_find3 pins s σ H x xs v us Q I rx rs h
  refine Z60 h2 fun x xs H Q h => ?_
  obtain ⟨ι,Z,tx,ts,s,rx,rs,p⟩ := h
  unfold gFind2 at p
  split at p
  · obtain ⟨y,rfl,ry⟩ := rs.one
    cases rx; cases ry
    exact .inl ⟨_,_,rfl,rfl,Y8 p s (.int _)⟩
  · obtain ⟨y,z,rfl,ry,rz⟩ := rs.two
    cases rx; cases ry; cases rz
    exact .inr ⟨_,_,_,rfl,rfl,Y8 p s (.int _)⟩
  · exact p.elim
end
def keyT : T → Option Key
  | .int i => some (.inl i)
  | .str l => some (.inr (S l))
  | _ => none
def keyEq : Key → Key → Bool
  | .inl i,.inl j => i == j
  | .inr a,.inr b => a.cps.toList == b.cps.toList
  | _,_ => false
theorem Z1c (a b : Key) : keyEq a b = decide (a = b) := by
  cases a with
  | inl i => cases b with
    | inl j => by_cases h : i = j <;> simp [keyEq,h]
    | inr y => simp [keyEq]
  | inr x => cases b with
    | inl j => simp [keyEq]
    | inr y =>
      have : (x = y) ↔ x.cps.toList = y.cps.toList := ⟨fun h => by rw [h],fun h => by
        rw [← Zk2 x,← Zk2 y,h]⟩
      by_cases h : x.cps.toList = y.cps.toList
      · simp [keyEq,h,this.mpr h]
      · have h2 : ¬ x = y := fun z => h (this.mp z)
        have e1 : (x.cps.toList == y.cps.toList) = false := by simpa using h
        show (x.cps.toList == y.cps.toList) = _
        rw [e1,decide_eq_false (fun z => h2 (Sum.inr.inj z))]
def getK : List (Key × T) → Key → Option T
  | [],_ => none
  | (k,t) :: r,x => if keyEq k x = true then some t else getK r x
def hasK (kvs : List (Key × T)) (x : Key) : Bool := kvs.any fun p => keyEq p.1 x
def putKT (kvs : List (Key × T)) (x : Key) (y : T) : List (Key × T) := if hasK kvs x = true then kvs.map (fun p => if keyEq p.1 x = true then (p.1,y) else p) else kvs ++ [(x,y)]
def getDK (Z : Sto) (i : Nat) : Option (List (Key × T)) := match Z[i]? with
  | some (.dk kvs) => some kvs
  | _ => none
theorem Zi6 {Z : Sto} {i : Nat} {kvs : List (Key × T)} (h : getDK Z i = some kvs) : Z[i]? = some (.dk kvs) := by
  unfold getDK at h
  split at h
  · rename_i e; cases h; exact e
  · cases h
section
variable {K : PySem.W.Frag} {ι : List Addr} {H : Hp} {Z : Sto}
theorem Zdv {v : V} {t : T} {k : Key} (r : Rep K ι H v t) (e : keyT t = some k) : v = kV k := by
  cases r <;> first | (cases e; rfl) | (cases e)
theorem Zg1 : ∀ {vs : List (Key × V)} {ts : List (Key × T)} {k : Key},RepP K ι H vs ts → match getK ts k with
    | some t => ∃ v,valV vs k = some v ∧ Rep K ι H v t
    | none => valV vs k = none
  | _,_,k,.nil => rfl
  | _,_,k,.cons (k := k0) (v := v) (vs := vs) (t := t) (ts := ts) r q => by
    by_cases h : k0 = k
    · have e : keyEq k0 k = true := by rw [Z1c]; exact decide_eq_true h
      simp only [getK,e,if_true]
      exact ⟨v,valV_pos (p := (k0,v)) h,r⟩
    · have e : keyEq k0 k = false := by rw [Z1c]; exact decide_eq_false h
      have e2 : valV ((k0,v) :: vs) k = valV vs k := valV_neg (p := (k0,v)) h
      simp only [getK,e,Bool.false_eq_true,if_false,e2]
      exact Zg1 q
theorem Zje : ∀ {vs : List (Key × V)} {ts : List (Key × T)} {k : Key},RepP K ι H vs ts → (vs.any fun kv => decide (kv.1 = k)) = hasK ts k
  | _,_,k,.nil => rfl
  | _,_,k,.cons r q => by
    simp only [hasK,List.any_cons,Z1c]
    congr 1
    have := Zje (k := k) q
    simpa only [hasK,Z1c] using this
theorem Zg2 {k : Key} {y : V} {t : T} (ry : Rep K ι H y t) : ∀ {vs : List (Key × V)} {ts : List (Key × T)},RepP K ι H vs ts → RepP K ι H (vs.map fun kv => if kv.1 = k then (kv.1,y) else kv) (ts.map fun p => if keyEq p.1 k = true then (p.1,t) else p)
  | _,_,.nil => .nil
  | _,_,.cons (k := k0) r q => by
    simp only [List.map_cons,Z1c]
    by_cases h : k0 = k
    · simp only [h,if_true,decide_true]
      have := Zg2 ry q (k := k)
      simp only [Z1c] at this
      exact .cons ry this
    · simp only [h,if_false,decide_false,Bool.false_eq_true]
      have := Zg2 ry q (k := k)
      simp only [Z1c] at this
      exact .cons r this
theorem app_ok {k : Key} {y : V} {t : T} (ry : Rep K ι H y t) : ∀ {vs : List (Key × V)} {ts : List (Key × T)},RepP K ι H vs ts → RepP K ι H (vs ++ [(k,y)]) (ts ++ [(k,t)])
  | _,_,.nil => .cons ry .nil
  | _,_,.cons r q => .cons r (app_ok ry q)
theorem Zlo {vs : List (Key × V)} {ts : List (Key × T)} {k : Key} {y : V} {t : T} (r : RepP K ι H vs ts) (ry : Rep K ι H y t) : RepP K ι H (putK vs k y) (putKT ts k t) := by
  unfold putK putKT
  rw [Zje r]
  split
  · exact Zg2 ry r
  · exact app_ok ry r
theorem Z76 {i : Nat} {v : V} {kvs : List (Key × T)} (s : Sim K ι Z H) (r : Rep K ι H v (.loc i)) (e : getDK Z i = some kvs) : ∃ a vs,v = .ref a ∧ ι[i]? = some a ∧ H a = some (.dK vs) ∧ RepP K ι H vs kvs := by
  cases r with
  | loc h =>
    obtain ⟨a', h1, vs, h2, h3⟩ := s.at (Zi6 e)
    rw [h] at h1; cases h1
    exact ⟨_,vs,rfl,h,h2,h3⟩
end
def gInW (x y : T) (Z : Sto) : Option (T × Sto) := match y with
  | .loc i => (match getDK Z i with
    | some kvs => (keyT x).map fun k => (.bl (getK kvs k).isSome,Z)
    | none => gIn x y Z)
  | _ => gIn x y Z
def gNotInW (x y : T) (Z : Sto) : Option (T × Sto) := match y with
  | .loc i => (match getDK Z i with
    | some kvs => (keyT x).map fun k => (.bl (!(getK kvs k).isSome),Z)
    | none => gNotIn x y Z)
  | _ => gNotIn x y Z
def gIxW (x y : T) (Z : Sto) : Option (T × Sto) := match x with
  | .loc i => (match getDK Z i with
    | some kvs => (match keyT y with
      | some k => (getK kvs k).map fun t => (t,Z)
      | none => none)
    | none => gIx x y Z)
  | _ => gIx x y Z
section
variable {X : Cx} {K : PySem.W.Frag}
theorem Zdw {ι : List Addr} {H : Hp} {vs : List (Key × V)} {ts : List (Key × T)} {k : Key} (r : RepP K ι H vs ts) : (valV vs k).isSome = (getK ts k).isSome := by
  have := Zg1 (k := k) r
  cases e : getK ts k with
  | none => rw [e] at this; rw [this]; rfl
  | some t => rw [e] at this; obtain ⟨v,h,_⟩ := this; rw [h]; rfl
theorem Zlp (hu : X.A.units + 1 < cLine) : OpR X (compareOp .In) (fun x y H Q => ∃ a o,y = .ref a ∧ DGet H a x o ∧ Q (.bl o.isSome) H) := by
  intro pins s σ H x y v u Q I rx ry h
  obtain ⟨a,o,rfl,g,q⟩ := h
  cases ry
  exact d_in hu I g rx fun s3 I3 => ⟨.bl o.isSome,H,I3,rfl,q⟩
theorem Zg3 (hu : X.A.units + 1 < cLine) : OpR X (compareOp .NotIn) (fun x y H Q => ∃ a o,y = .ref a ∧ DGet H a x o ∧ Q (.bl (!o.isSome)) H) := by
  intro pins s σ H x y v u Q I rx ry h
  obtain ⟨a,o,rfl,g,q⟩ := h
  cases ry
  exact d_notIn hu I g rx fun s3 I3 => ⟨.bl (!o.isSome),H,I3,rfl,q⟩
theorem Z0k (hu : X.A.units + 64 < cLine) (hK : X.K = K) : OpF X K (compareOp .In) gInW := by
  have h0 := o_in hK
  subst hK
  refine Xz (Qh h0 (Zlp (by omega))) fun x y H Q h => ?_
  obtain ⟨ι,Z,tx,ty,s,rx,ry,p⟩ := h
  unfold gInW at p
  split at p
  · split at p
    · rename_i i kvs e
      cases ek : keyT tx with
      | none => rw [ek] at p; exact p.elim
      | some k =>
        rw [ek,Option.map_some] at p
        obtain ⟨a,vs,rfl,_,h1,r⟩ := Z76 s ry e
        have := Zdv rx ek
        subst this
        exact .inr ⟨a,valV vs k,rfl,DGet.k h1,by rw [Zdw r]; exact Y8 p s (.bl _)⟩
    · exact .inl ⟨ι,Z,tx,_,s,rx,ry,p⟩
  · exact .inl ⟨ι,Z,tx,ty,s,rx,ry,p⟩
theorem Z51 (hu : X.A.units + 64 < cLine) (hK : X.K = K) : OpF X K (compareOp .NotIn) gNotInW := by
  have h0 := Zjt hK
  subst hK
  refine Xz (Qh h0 (Zg3 (by omega))) fun x y H Q h => ?_
  obtain ⟨ι,Z,tx,ty,s,rx,ry,p⟩ := h
  unfold gNotInW at p
  split at p
  · split at p
    · rename_i i kvs e
      cases ek : keyT tx with
      | none => rw [ek] at p; exact p.elim
      | some k =>
        rw [ek,Option.map_some] at p
        obtain ⟨a,vs,rfl,_,h1,r⟩ := Z76 s ry e
        have := Zdv rx ek
        subst this
        exact .inr ⟨a,valV vs k,rfl,DGet.k h1,by rw [Zdw r]; exact Y8 p s (.bl _)⟩
    · exact .inl ⟨ι,Z,tx,_,s,rx,ry,p⟩
  · exact .inl ⟨ι,Z,tx,ty,s,rx,ry,p⟩
theorem Zk9 (hu : X.A.units + 1 < cLine) : IxR X (fun x y H Q => ∃ a v,x = .ref a ∧ DGet H a y (some v) ∧ Q v H) := by
  intro value slice pins s σ H x y v u Q I rx ry h hs
  obtain ⟨a,r,rfl,g,q⟩ := h
  cases rx
  exact tail_any (dict_typeIs I g) slot_dict_getitem.lookup (d_getItem hu I g ry fun w' s3 I3 rw' => ⟨r, H, I3, rw', q⟩) hs
theorem Vn (hu : X.A.units + 64 < cLine) (hK : X.K = K) : IxR X (rF2 K gIxW) := by
  have h0 := i_ix hK
  subst hK
  refine Zfm (IxR.or h0 (Zk9 (by omega))) fun x y H Q h => ?_
  obtain ⟨ι,Z,tx,ty,s,rx,ry,p⟩ := h
  unfold gIxW at p
  split at p
  · split at p
    · rename_i i kvs e
      cases ek : keyT ty with
      | none => rw [ek] at p; exact p.elim
      | some k =>
        rw [ek] at p
        cases eg : getK kvs k with
        | none => simp only [eg] at p; exact p.elim
        | some t =>
          simp only [eg,Option.map_some] at p
          obtain ⟨a,vs,rfl,_,h1,r⟩ := Z76 s rx e
          have := Zdv ry ek
          subst this
          have hv := Zg1 (k := k) r
          rw [eg] at hv
          obtain ⟨v,hv,rv⟩ := hv
          exact .inr ⟨a,v,rfl,hv ▸ DGet.k h1,Y8 p s rv⟩
    · exact .inl ⟨ι,Z,_,ty,s,rx,ry,p⟩
  · exact .inl ⟨ι,Z,tx,ty,s,rx,ry,p⟩
end
def gSetW (x y t : T) (Z : Sto) : Option Sto := match x with
  | .loc i => (match getDK Z i with
    | some kvs => (match keyT y with
      | some k => if kvs.length < Lim then some (Z.set i (.dk (putKT kvs k t))) else none
      | none => none)
    | none => gSetL x y t Z)
  | _ => gSetL x y t Z
def gSubsW (fo fi : FE) : FG := fun t ρ Z => (fo ρ Z).bind fun x Z1 => (fi ρ Z1).bind fun y Z2 => match gSetW x y t Z2 with
  | some Z3 => .ok ρ Z3
  | none => .stuck
section
variable {X : Cx} {K : PySem.W.Frag} {W : WX} {o e : Expr} {pos : Pos} {fo fi : FE}
theorem Zlq {t t' : TSet} (h : PSet X t) (h' : PSet X t') : PSet X (fun o i v H Q => t o i v H Q ∨ t' o i v H Q) := fun pins s σ H o i v ov iv u Q I ro ri rv q => q.elim (h pins s σ H o i v ov iv u Q I ro ri rv) (h' pins s σ H o i v ov iv u Q I ro ri rv)
theorem Zka {ι : List Addr} {H : Hp} {Z Z3 : Sto} {x y v : V} {tx ty t : T} {Q : Hp → Prop} (s : Sim K ι Z H) (rx : Rep K ι H x tx) (ry : Rep K ι H y ty) (r : Rep K ι H v t) (e : gSetW tx ty t Z = some Z3) (q : ∀ H', Gr ι ι H H' → Sim K ι Z3 H' → Q H') : rSetL x y v H Q ∨ rSetD x y v H Q := by
  unfold gSetW at e
  split at e
  · split at e
    · rename_i i kvs eg
      split at e
      · rename_i k ek
        split at e
        · rename_i hz
          cases e
          obtain ⟨a,vs,rfl,hi,h1,rk⟩ := Z76 s rx eg
          have := Zdv ry ek
          subst this
          have g := Gr.mut (ι := ι) (o := .dK (putK vs k v)) h1 trivial (List.mem_of_getElem? hi)
          refine .inr ⟨a,_,rfl,DPut.k h1 (by rw [rk.length]; exact Nat.lt_of_lt_of_le hz Zbv),q _ g (s.set hi ⟨_,upd_same,Zlo (rk.gr g) (r.gr g)⟩)⟩
        · cases e
      · cases e
    · exact .inl (Zfq s rx ry r e q)
  · exact .inl (Zfq s rx ry r e q)
theorem Zcy (hu : X.A.units + 64 < cLine) (ho : FJ X K (Wt W) o fo) (hi : FJ X K (Wt W) e fi)
    (ha : ∀ v,assign (.Subscript o e pos) X.env v = (do
      let ov ← holding [v] (eval o X.env)
      let iv ← holding [v,ov] (eval e X.env)
      standAt pos
      holding [v,ov,iv] (setItem ov iv v)
      release [v,ov,iv] []) := by intro _; rfl) : PG X (.Subscript o e pos) (tG K W (gSubsW fo fi)) := Zdr (pg_sub ho hi (Zlq set_list (set_dict (by omega))) ha) fun v σ H Q h => by
  obtain ⟨ι,ρ,Z,t,is,r,p⟩ := h
  refine ⟨ι,ρ,Z,is.ie,(Zo (rep := Rep K) p).imp fun x H1 q => ?_⟩
  obtain ⟨ι1,Z1,tx,g1,s1,r1,p1⟩ := q
  refine ⟨ι1,ρ,Z1,(is.gr g1 s1).ie,(Zo (rep := Rep K) p1).imp fun y H2 q2 => ?_⟩
  obtain ⟨ι2,Z2,ty,g2,s2,r2,p2⟩ := q2
  split at p2
  · rename_i Z3 e3
    exact Zka s2 (r1.gr g2) r2 ((r.gr g1).gr g2) e3 fun H3 g3 s3 => p2 ι2 H3 σ g3 s3 ⟨is.len,((is.env.gr g1).gr g2).gr g3⟩
  · exact p2.elim
end
inductive RepQ (K : PySem.W.Frag) (ι : List Addr) (H : Hp) : List (V × V) → List (T × T) → Prop
  | nil : RepQ K ι H [] []
  | cons {v w : V} {vs : List (V × V)} {t u : T} {ts : List (T × T)} : Rep K ι H v t → Rep K ι H w u → RepQ K ι H vs ts → RepQ K ι H ((v,w) :: vs) ((t,u) :: ts)
theorem RepQ.gr {K : PySem.W.Frag} {ι ι' : List Addr} {H H' : Hp} (g : Gr ι ι' H H') : ∀ {vs : List (V × V)} {ts : List (T × T)}, RepQ K ι H vs ts → RepQ K ι' H' vs ts
  | _,_,.nil => .nil
  | _,_,.cons a b r => .cons (a.gr g) (b.gr g) (r.gr g)
end Fx
set_option maxHeartbeats 4000000
namespace Fx
open PySem PySem.Spec PyProof.Rows L2 SX Ap
variable [Tb]
theorem Reps.pick {K : PySem.W.Frag} {ι : List Addr} {H : Hp} {vs : List V} {ts : List T} (r : Reps K ι H vs ts) : ∀ js : List Nat,Reps K ι H (js.filterMap (vs[·]?)) (js.filterMap (ts[·]?))
  | [] => .nil
  | j :: js => by
    cases e : ts[j]? with
    | none =>
      have e2 : vs[j]? = none := by rw [List.getElem?_eq_none_iff] at e ⊢; rw [r.length]; exact e
      rw [List.filterMap_cons,List.filterMap_cons,e,e2]
      exact Reps.pick r js
    | some t =>
      obtain ⟨v,e2,rv⟩ := r.get e
      rw [List.filterMap_cons,List.filterMap_cons,e,e2]
      exact .cons rv (Reps.pick r js)
def dvT : He.Dv → Option T
  | .non => some .non
  | .bl b => some (.bl b)
  | .int i => some (.int i)
  | .str x => some (.str x.cps.toList)
  | _ => none
def GDk (K : PySem.W.Frag) (w : World) (mg : PySem.Str → Option Value) (x : PySem.Str) (l : List (List Nat × T)) : Prop :=
  ∃ a es n,mg x = some (.ref a) ∧ KDict K w a es n ∧ (∀ q ∈ l,∃ u v,PySem.W.nsIn K a (S q.1) = some (some u) ∧ RelV v u ∧ ∀ ι H,Rep K ι H v q.2) ∧ ∀ z,z ∉ l.map (·.1) → PySem.W.nsIn K a (S z) = some none
def dkB (x : PySem.Str) (l : List (List Nat × He.Dv)) (K : PySem.W.Frag) : Bool := (He.Fa.glo x).ok K && (He.valsB K (He.ga K x) (l.map fun q => (S q.1,q.2)) && decide (He.dicW K (He.ga K x) ≠ none) && (match K.lookup (He.ga K x) with
  | some ⟨_,_,.dict es _,_⟩ => es.toList.all fun e => match e.key with | .str y _ => (l.map (·.1)).any fun z => decide (y = S z) | _ => false
  | _ => false))
theorem Zlr {K : PySem.W.Frag} {d : He.Dv} {t : T} (e : dvT d = some t) (ι : List Addr) (H : Hp) : Rep K ι H (d.v K) t := by
  cases d <;> first | (cases e; done) | skip
  · cases e; exact .non
  · cases e; exact .bl _
  · cases e; exact .int _
  · rename_i x
    cases e
    show Rep K ι H (.str x) (.str x.cps.toList)
    have : V.str x = V.str (S x.cps.toList) := by rw [Zk2]
    rw [this]
    exact .str _
theorem Zg4 {fn : List DefY} {ts : List He.Tab} {ex : Exs} {w : World} {K : PySem.W.Frag} {mg : PySem.Str → Option Value} (C : Cx5 fn ts ex w K mg) {x : PySem.Str} {l : List (List Nat × He.Dv)} {lt : List (List Nat × T)} (i j : Nat) (h : ex[i]? = some (dkB x l) := by rfl)
    {ks : List PySem.Str} (ht : ts[j]? = some (fun K => He.ga K x,ks) := by rfl) (hl : l.map (fun q => (dvT q.2).map fun t => (q.1,t)) = lt.map some := by rfl) : GDk K w mg x lt := by
  have h1 := C.c.fact i h
  obtain ⟨a1,a2⟩ := He.ba h1
  obtain ⟨a2,a3⟩ := He.ba a2
  obtain ⟨a2,_⟩ := He.ba a2
  obtain ⟨es,n,D⟩ := C.c.tab j ht
  obtain ⟨h', X, G⟩ := C.kx
  refine ⟨He.ga K x,es,n,He.glo_ok X G a1,D,fun q hq => ?_,fun z hz => ?_⟩
  · obtain ⟨k,hk⟩ := List.mem_iff_getElem?.mp hq
    have e1 := congrArg (fun m => m[k]?) hl
    simp only [List.getElem?_map,hk,Option.map_some] at e1
    cases e2 : l[k]? with
    | none => rw [e2] at e1; cases e1
    | some r =>
      rw [e2] at e1
      have e3 := Option.some.inj e1
      obtain ⟨t,e4,e5⟩ := Option.map_eq_some_iff.mp e3
      have hm : (S r.1,r.2) ∈ l.map fun q => (S q.1,q.2) := List.mem_map.mpr ⟨r,List.mem_of_getElem? e2,rfl⟩
      obtain ⟨u,e6,e7⟩ := He.valsB_ok a2 hm
      refine ⟨u,r.2.v K,?_,e7,fun ι H => ?_⟩
      · rw [← e5]; exact e6
      · rw [← e5]; exact Zlr e4 ι H
  · have hlk : l.map (·.1) = lt.map (·.1) := by
      have : ∀ (l : List (List Nat × He.Dv)) (lt : List (List Nat × T)),l.map (fun q => (dvT q.2).map fun t => (q.1,t)) = lt.map some → l.map (·.1) = lt.map (·.1) := by
        intro l
        induction l with
        | nil => intro lt h; cases lt with
          | nil => rfl
          | cons _ _ => cases h
        | cons q l ih =>
          intro lt h
          cases lt with
          | nil => cases h
          | cons p lt =>
            rw [List.map_cons,List.map_cons,List.cons.injEq] at h
            obtain ⟨t,e1,e2⟩ := Option.map_eq_some_iff.mp h.1
            rw [List.map_cons,List.map_cons,ih lt h.2,← e2]
      exact this l lt hl
    rw [D.at_] at a3
    simp only at a3
    have key : ∀ e ∈ es.toList,e.key.isStr (S z) = false := fun e he => by
      have := List.all_eq_true.mp a3 e he
      split at this
      · rename_i y t ey
        obtain ⟨z', hz', ez⟩ := List.any_eq_true.mp this
        have ey' := of_decide_eq_true ez
        rw [ey]
        show (y == S z) = false
        rw [ey', S_beq_eq]
        refine decide_eq_false fun e => hz ?_
        rw [← hlk, ← e]; exact hz'
      · cases this
    have noref : es.toList.any (·.refKey) = false := by
      rw [List.any_eq_false]
      intro e he hr
      have := List.all_eq_true.mp a3 e he
      split at this
      · rename_i y t ey
        unfold DictEntry.refKey at hr
        rw [ey] at hr
        simp at hr
      · cases this
    unfold PySem.W.nsIn
    rw [D.at_]
    simp only
    have : es.toList.find? (fun e => e.key.isStr (S z)) = none := by
      rw [List.find?_eq_none]
      intro e he
      simp [key e he]
    rw [this]
    simp only [noref,Bool.false_eq_true,if_false]
def kdT (l : List (List Nat × T)) : T → Option T
  | .str z => (l.find? fun q => q.1 == z).map (·.2)
  | _ => none
def kdHas (l : List (List Nat × T)) : T → Option Bool
  | .str z => some (l.any fun q => q.1 == z)
  | _ => none
def eKdI (l : List (List Nat × T)) (fe : FE) : FE := fun ρ Z => (fe ρ Z).bind fun x Z1 => match kdT l x with
  | some t => .ok t Z1
  | none => .stuck
section
variable {X : Cx} {K : PySem.W.Frag} {W : Wc} {x : PySem.Str} {b : Expr} {fb : FE} {pos p : Pos} {l : List (List Nat × T)}
theorem Zls {a : Addr} {es : Array DictEntry} {n : Nat} {w : World} {ι : List Addr} {H : Hp} {v : V} {t t' : T} (D : KDict K w a es n) (hv : ∀ q ∈ l, ∃ u v, PySem.W.nsIn K a (S q.1) = some (some u) ∧ RelV v u ∧ ∀ ι H, Rep K ι H v q.2) (r : Rep K ι H v t) (e : kdT l t = some t') :
    ∃ z v', v = .str z ∧ KDct K w a z v' ∧ ∀ ι H, Rep K ι H v' t' := by
  cases r with
  | str z =>
    obtain ⟨q,hq,rfl⟩ := Option.map_eq_some_iff.mp e
    have hm := List.mem_of_find?_eq_some hq
    have hz := List.find?_some hq
    have hz' : q.1 = z := by simpa using hz
    obtain ⟨u, v', e1, e2, e3⟩ := hv q hm
    exact ⟨S z, v', rfl, ⟨es, n, u, D.at_, D.lit, by rw [← hz']; exact e1, e2⟩, e3⟩
  | _ => cases e
theorem Zc0 (hK : X.K = K) (hg : Gl X x) (hm : GDk X.K X.w X.mg x l) (hb : FJ X K W b fb) (hs : PlainIx b) (hdb : (x == ("__debug__" : PySem.Str)) = false := by decide) : FJ X K W (.Subscript (.Name x p) b pos) (eKdI l fb) := by
  subst hK
  obtain ⟨a,es,n,hx,D,hv,_⟩ := hm
  refine Vz (pe_ix ix_kdict (pe_glob (v := .ref a) hg hx rfl hdb) hb hs) fun σ H Q h => ?_
  obtain ⟨ι,ρ,Z,is,q⟩ := h
  show tF X.K W fb σ H _
  refine ⟨ι,ρ,Z,is,(Zo q).imp fun y H1 q1 => ?_⟩
  obtain ⟨ι1,Z1,ty,g1,s1,r1,p1⟩ := q1
  split at p1
  · rename_i t e
    obtain ⟨z, v', rfl, hd, hr⟩ := Zls D hv r1 e
    exact ⟨a, z, v', rfl, rfl, hd, p1 ι1 H1 v' Gr.refl s1 (hr _ _)⟩
  · exact p1.elim
theorem kd_in {a : Addr} {ι : List Addr} {H : Hp} {v : V} {t : T} {c : Bool} (hv : ∀ q ∈ l,∃ u v,PySem.W.nsIn K a (S q.1) = some (some u) ∧ RelV v u ∧ ∀ ι H,Rep K ι H v q.2) (hn : ∀ z,z ∉ l.map (·.1) → PySem.W.nsIn K a (S z) = some none) (r : Rep K ι H v t) (e : kdHas l t = some c) :
    ∃ z o,v = .str z ∧ PySem.W.nsIn K a z = some o ∧ o.isSome = c := by
  cases r with
  | str z =>
    have e' := Option.some.inj e
    cases c with
    | true =>
      obtain ⟨q, hq, hz⟩ := List.any_eq_true.mp e'
      have hz' : q.1 = z := by simpa using hz
      obtain ⟨u, v', e1, _, _⟩ := hv q hq
      exact ⟨S z, some u, rfl, by rw [← hz']; exact e1, rfl⟩
    | false =>
      refine ⟨S z,none,rfl,hn z fun hm => ?_,rfl⟩
      obtain ⟨q,hq,hz⟩ := List.mem_map.mp hm
      have := List.any_eq_false.mp e' q hq
      simp [hz] at this
  | _ => cases e
end
end Fx
set_option maxHeartbeats 4000000
namespace Ap
open PySem PySem.Spec PyProof.Rows L2 SX Fx
def topS (i : Nat) : Stmt := PySem.Challenge.pw_anchorpages_k29_whole_values_of_plain_te.main.body.getD i (.Pass ⟨0,0,0,0⟩)
def clsS (s : Stmt) (j : Nat) : Stmt := match s with
  | .ClassDef _ _ _ b _ _ _ _ _ _ _ => b.getD j (.Pass ⟨0,0,0,0⟩)
  | _ => .Pass ⟨0,0,0,0⟩
abbrev V4 : Stmt := topS 50
abbrev Zc1 : List Str := ["_law_state", "_law_base", "_law_found", "_law_mixed"]
abbrev Z2g : List Str := ["_law_state", "_law_base"]
theorem Jc : FnScope Zc1 Z2g (defScope V4) := ⟨rfl,rfl,rfl,by decide +kernel,rfl,by decide +kernel,by decide +kernel⟩
def Z52 : DefY := { at_ := (gY "_law_digit"), name := "_law_digit", qual := "_law_digit", params := defArgs V4, body := defBody V4, scope := defScope V4, dfl := [], kwd := [] }
abbrev Uo : Stmt := topS 51
abbrev Zet : List Str := ["_law_state", "_law_some"]
abbrev Z62 : List Str := ["_law_state", "_law_some"]
theorem Zcz : FnScope Zet Z62 (defScope Uo) := ⟨rfl,rfl,rfl,by decide +kernel,rfl,by decide +kernel,by decide +kernel⟩
def Z7c : DefY := { at_ := (gY "_law_one"), name := "_law_one", qual := "_law_one", params := defArgs Uo, body := defBody Uo, scope := defScope Uo, dfl := [], kwd := [] }
abbrev Uq : Stmt := topS 52
abbrev Zeu : List Str := ["_law_state", "_law_indent", "_law_blanks", "_law_many", "_law_text", "_law_turn"]
abbrev Z63 : List Str := ["_law_state", "_law_indent"]
theorem Ur : FnScope Zeu Z63 (defScope Uq) := ⟨rfl,rfl,rfl,by decide +kernel,rfl,by decide +kernel,by decide +kernel⟩
def Z7d : DefY := { at_ := (gY "_law_gap"), name := "_law_gap", qual := "_law_gap", params := defArgs Uq, body := defBody Uq, scope := defScope Uq, dfl := [], kwd := [] }
abbrev W9 : Stmt := topS 53
abbrev Zah : List Str := ["_law_state", "_law_indent", "_law_some", "_law_first", "_law_found", "_law_turn", "_law_word"]
abbrev Z1d : List Str := ["_law_state", "_law_indent"]
theorem Xv : FnScope Zah Z1d (defScope W9) := ⟨rfl,rfl,rfl,by decide +kernel,rfl,by decide +kernel,by decide +kernel⟩
def Z3l : DefY := { at_ := (gY "_law_pieces"), name := "_law_pieces", qual := "_law_pieces", params := defArgs W9, body := defBody W9, scope := defScope W9, dfl := [], kwd := [] }
abbrev Xu : Stmt := topS 54
abbrev Z53 : List Str := ["_law_state", "_law_pieces_here", "_law_indent", "_law_at", "_law_few", "_law_odd", "_law_texts", "_law_piece"]
abbrev Z1e : List Str := ["_law_state", "_law_pieces_here", "_law_indent"]
theorem Wv : FnScope Z53 Z1e (defScope Xu) := ⟨rfl,rfl,rfl,by decide +kernel,rfl,by decide +kernel,by decide +kernel⟩
def Z3m : DefY := { at_ := (gY "_law_spoilt"), name := "_law_spoilt", qual := "_law_spoilt", params := defArgs Xu, body := defBody Xu, scope := defScope Xu, dfl := [], kwd := [] }
abbrev Xw : Stmt := clsS (topS 3) 0
abbrev Z8o : List Str := ["self", "part"]
abbrev Q6 : List Str := ["self", "part"]
theorem Z7e : FnScope Z8o Q6 (defScope Xw) := ⟨rfl,rfl,rfl,by decide +kernel,rfl,by decide +kernel,by decide +kernel⟩
def Z2h : DefY := { at_ := (mY "NoStyle" "__init__"), name := "__init__", qual := "NoStyle.__init__", params := defArgs Xw, body := defBody Xw, scope := defScope Xw, dfl := [.non], kwd := [] }
abbrev Wb : Stmt := topS 40
abbrev Zai : List Str := ["style", "context"]
abbrev Z1f : List Str := ["style", "context"]
theorem Z8p : FnScope Zai Z1f (defScope Wb) := ⟨rfl,rfl,rfl,by decide +kernel,rfl,by decide +kernel,by decide +kernel⟩
def Z3n : DefY := { at_ := (gY "check_place"), name := "check_place", qual := "check_place", params := defArgs Wb, body := defBody Wb, scope := defScope Wb, dfl := [], kwd := [] }
abbrev V5 : Stmt := topS 38
abbrev Zc2 : List Str := ["thing", "low", "high"]
abbrev Z2i : List Str := ["thing", "low", "high"]
theorem Zaj : FnScope Zc2 Z2i (defScope V5) := ⟨rfl,rfl,rfl,by decide +kernel,rfl,by decide +kernel,by decide +kernel⟩
def Z54 : DefY := { at_ := (gY "is_from_to"), name := "is_from_to", qual := "is_from_to", params := defArgs V5, body := defBody V5, scope := defScope V5, dfl := [], kwd := [] }
abbrev Xl : Stmt := topS 41
abbrev Z7f : List Str := ["indent", "width", "deep"]
abbrev Jv : List Str := ["indent", "width", "deep"]
theorem Z6z : FnScope Z7f Jv (defScope Xl) := ⟨rfl,rfl,rfl,by decide +kernel,rfl,by decide +kernel,by decide +kernel⟩
def Z24 : DefY := { at_ := (gY "check_numbers"), name := "check_numbers", qual := "check_numbers", params := defArgs Xl, body := defBody Xl, scope := defScope Xl, dfl := [], kwd := [] }
abbrev We : Stmt := clsS (topS 11) 0
abbrev Zak : List Str := ["self", "text"]
abbrev Z1g : List Str := ["self", "text"]
theorem Z8q : FnScope Zak Z1g (defScope We) := ⟨rfl,rfl,rfl,by decide +kernel,rfl,by decide +kernel,by decide +kernel⟩
def Z3o : DefY := { at_ := (mY "Source" "__init__"), name := "__init__", qual := "Source.__init__", params := defArgs We, body := defBody We, scope := defScope We, dfl := [], kwd := [] }
abbrev Vv : Stmt := clsS (topS 11) 1
abbrev Zd0 : List Str := ["self", "i"]
abbrev Z4g : List Str := ["self", "i"]
theorem Zc3 : FnScope Zd0 Z4g (defScope Vv) := ⟨rfl,rfl,rfl,by decide +kernel,rfl,by decide +kernel,by decide +kernel⟩
def Z6p : DefY := { at_ := (mY "Source" "at"), name := "at", qual := "Source.at", params := defArgs Vv, body := defBody Vv, scope := defScope Vv, dfl := [], kwd := [] }
abbrev Yj : Stmt := clsS (topS 11) 5
abbrev Z3c : List Str := ["self", "i"]
abbrev Vk : List Str := ["self", "i"]
theorem Ql : FnScope Z3c Vk (defScope Yj) := ⟨rfl,rfl,rfl,by decide +kernel,rfl,by decide +kernel,by decide +kernel⟩
def Qm : DefY := { at_ := (mY "Source" "past_blanks"), name := "past_blanks", qual := "Source.past_blanks", params := defArgs Yj, body := defBody Yj, scope := defScope Yj, dfl := [], kwd := [] }
abbrev Yz : Stmt := clsS (topS 11) 3
abbrev Z64 : List Str := ["self", "i"]
abbrev Us : List Str := ["self", "i"]
theorem Z55 : FnScope Z64 Us (defScope Yz) := ⟨rfl,rfl,rfl,by decide +kernel,rfl,by decide +kernel,by decide +kernel⟩
def Z02 : DefY := { at_ := (mY "Source" "is_begin"), name := "is_begin", qual := "Source.is_begin", params := defArgs Yz, body := defBody Yz, scope := defScope Yz, dfl := [], kwd := [] }
abbrev Xa : Stmt := clsS (topS 11) 7
abbrev Z70 : List Str := ["self", "i", "words"]
abbrev Vs : List Str := ["self", "i", "words"]
theorem Z65 : FnScope Z70 Vs (defScope Xa) := ⟨rfl,rfl,rfl,by decide +kernel,rfl,by decide +kernel,by decide +kernel⟩
def Z0w : DefY := { at_ := (mY "Source" "is_mark"), name := "is_mark", qual := "Source.is_mark", params := defArgs Xa, body := defBody Xa, scope := defScope Xa, dfl := [(.adr (dflY (mY "Source" "is_mark") 0))], kwd := [] }
abbrev Wf : Stmt := clsS (topS 11) 2
abbrev Zal : List Str := ["self", "i"]
abbrev Z1h : List Str := ["self", "i"]
theorem Z8r : FnScope Zal Z1h (defScope Wf) := ⟨rfl,rfl,rfl,by decide +kernel,rfl,by decide +kernel,by decide +kernel⟩
def Z3p : DefY := { at_ := (mY "Source" "miss"), name := "miss", qual := "Source.miss", params := defArgs Wf, body := defBody Wf, scope := defScope Wf, dfl := [], kwd := [] }
abbrev Yu : Stmt := clsS (topS 11) 8
abbrev Z56 : List Str := ["self", "i"]
abbrev U7 : List Str := ["self", "i"]
theorem Z4h : FnScope Z56 U7 (defScope Yu) := ⟨rfl,rfl,rfl,by decide +kernel,rfl,by decide +kernel,by decide +kernel⟩
def Jw : DefY := { at_ := (mY "Source" "is_barred"), name := "is_barred", qual := "Source.is_barred", params := defArgs Yu, body := defBody Yu, scope := defScope Yu, dfl := [], kwd := [] }
abbrev Jx : Stmt := topS 10
abbrev Zg5 : List Str := ["sign", "c"]
abbrev Z7g : List Str := ["sign", "c"]
theorem Zev : FnScope Zg5 Z7g (defScope Jx) := ⟨rfl,rfl,rfl,by decide +kernel,rfl,by decide +kernel,by decide +kernel⟩
def Z9s : DefY := { at_ := (gY "is_safe"), name := "is_safe", qual := "is_safe", params := defArgs Jx, body := defBody Jx, scope := defScope Jx, dfl := [], kwd := [] }
abbrev Jy : Stmt := topS 17
abbrev Zg6 : List Str := ["source", "i", "c", "is_behind", "sign"]
abbrev Z7h : List Str := ["source", "i", "c", "is_behind"]
theorem Z9t : FnScope Zg6 Z7h (defScope Jy) := ⟨rfl,rfl,rfl,by decide +kernel,rfl,by decide +kernel,by decide +kernel⟩
def Z9u : DefY := { at_ := (gY "is_next"), name := "is_next", qual := "is_next", params := defArgs Jy, body := defBody Jy, scope := defScope Jy, dfl := [], kwd := [] }
abbrev Jz : Stmt := topS 18
abbrev Zg7 : List Str := ["source", "i", "c", "j"]
abbrev Z7i : List Str := ["source", "i", "c"]
theorem Z66 : FnScope Zg7 Z7i (defScope Jz) := ⟨rfl,rfl,rfl,by decide +kernel,rfl,by decide +kernel,by decide +kernel⟩
def Z9v : DefY := { at_ := (gY "row_end"), name := "row_end", qual := "row_end", params := defArgs Jz, body := defBody Jz, scope := defScope Jz, dfl := [], kwd := [] }
abbrev Ut : Stmt := topS 16
abbrev Zew : List Str := ["source", "i", "c", "sign"]
abbrev Z67 : List Str := ["source", "i", "c"]
theorem Z7j : FnScope Zew Z67 (defScope Ut) := ⟨rfl,rfl,rfl,by decide +kernel,rfl,by decide +kernel,by decide +kernel⟩
def Z7k : DefY := { at_ := (gY "is_first"), name := "is_first", qual := "is_first", params := defArgs Ut, body := defBody Ut, scope := defScope Ut, dfl := [], kwd := [] }
abbrev X3 : Stmt := clsS (topS 11) 10
abbrev Z68 : List Str := ["self", "i", "n", "k"]
abbrev Uu : List Str := ["self", "i", "n"]
theorem Z03 : FnScope Z68 Uu (defScope X3) := ⟨rfl,rfl,rfl,by decide +kernel,rfl,by decide +kernel,by decide +kernel⟩
def Z04 : DefY := { at_ := (mY "Source" "indented"), name := "indented", qual := "Source.indented", params := defArgs X3, body := defBody X3, scope := defScope X3, dfl := [], kwd := [] }
abbrev V6 : Stmt := topS 19
abbrev Zc4 : List Str := ["source", "i", "n", "j", "count", "k"]
abbrev Z2j : List Str := ["source", "i", "n"]
theorem Wg : FnScope Zc4 Z2j (defScope V6) := ⟨rfl,rfl,rfl,by decide +kernel,rfl,by decide +kernel,by decide +kernel⟩
def Z57 : DefY := { at_ := (gY "plain_fold"), name := "plain_fold", qual := "plain_fold", params := defArgs V6, body := defBody V6, scope := defScope V6, dfl := [], kwd := [] }
abbrev Z4i : Stmt := topS 20
abbrev Zkb : List Str := ["source", "i", "n", "c", "end", "value", "found"]
abbrev Zd1 : List Str := ["source", "i", "n", "c"]
theorem Z35 : FnScope Zkb Zd1 (defScope Z4i) := ⟨rfl,rfl,rfl,by decide +kernel,rfl,by decide +kernel,by decide +kernel⟩
def Zdx : DefY := { at_ := (gY "plain"), name := "plain", qual := "plain", params := defArgs Z4i, body := defBody Z4i, scope := defScope Z4i, dfl := [], kwd := [] }
abbrev Yo : Stmt := clsS (topS 11) 6
abbrev Z4j : List Str := ["self", "i"]
abbrev Vw : List Str := ["self", "i"]
theorem Qt : FnScope Z4j Vw (defScope Yo) := ⟨rfl,rfl,rfl,by decide +kernel,rfl,by decide +kernel,by decide +kernel⟩
def Qu : DefY := { at_ := (mY "Source" "past_white"), name := "past_white", qual := "Source.past_white", params := defArgs Yo, body := defBody Yo, scope := defScope Yo, dfl := [], kwd := [] }
abbrev V7 : Stmt := topS 21
abbrev Zc5 : List Str := ["source", "i", "n", "count", "j"]
abbrev Z2k : List Str := ["source", "i", "n"]
theorem Ve : FnScope Zc5 Z2k (defScope V7) := ⟨rfl,rfl,rfl,by decide +kernel,rfl,by decide +kernel,by decide +kernel⟩
def Z58 : DefY := { at_ := (gY "quote_fold"), name := "quote_fold", qual := "quote_fold", params := defArgs V7, body := defBody V7, scope := defScope V7, dfl := [], kwd := [] }
abbrev Wh : Stmt := topS 23
abbrev Zam : List Str := ["source", "i", "n", "c", "found"]
abbrev Z1i : List Str := ["source", "i", "n", "c"]
theorem Z3q : FnScope Zam Z1i (defScope Wh) := ⟨rfl,rfl,rfl,by decide +kernel,rfl,by decide +kernel,by decide +kernel⟩
def Z3r : DefY := { at_ := (gY "folded_part"), name := "folded_part", qual := "folded_part", params := defArgs Wh, body := defBody Wh, scope := defScope Wh, dfl := [], kwd := [] }
abbrev N5 : Stmt := topS 22
abbrev Zg8 : List Str := ["source", "i", "n", "c", "sign", "found"]
abbrev Z7l : List Str := ["source", "i", "n", "c"]
theorem Z69 : FnScope Zg8 Z7l (defScope N5) := ⟨rfl,rfl,rfl,by decide +kernel,rfl,by decide +kernel,by decide +kernel⟩
def Z9w : DefY := { at_ := (gY "escaped"), name := "escaped", qual := "escaped", params := defArgs N5, body := defBody N5, scope := defScope N5, dfl := [], kwd := [] }
abbrev Z1j : Stmt := topS 24
abbrev Zi7 : List Str := ["source", "i", "n", "c", "quote", "value", "sign", "j", "part"]
abbrev Zan : List Str := ["source", "i", "n", "c"]
theorem Wr : FnScope Zi7 Zan (defScope Z1j) := ⟨rfl,rfl,rfl,by decide +kernel,rfl,by decide +kernel,by decide +kernel⟩
def Zc6 : DefY := { at_ := (gY "quoted"), name := "quoted", qual := "quoted", params := defArgs Z1j, body := defBody Z1j, scope := defScope Z1j, dfl := [], kwd := [] }
abbrev Qn : Stmt := topS 37
abbrev Zc7 : List Str := ["thing", "sign"]
abbrev Z7m : List Str := ["thing"]
theorem Z6a : FnScope Zc7 Z7m (defScope Qn) := ⟨rfl,rfl,rfl,by decide +kernel,rfl,by decide +kernel,by decide +kernel⟩
def Z9x : DefY := { at_ := (gY "is_text"), name := "is_text", qual := "is_text", params := defArgs Qn, body := defBody Qn, scope := defScope Qn, dfl := [], kwd := [] }
abbrev V8 : Stmt := clsS (topS 5) 0
abbrev Zc8 : List Str := ["self", "source", "start", "n"]
abbrev Z2l : List Str := ["self", "source", "start", "n"]
theorem Zao : FnScope Zc8 Z2l (defScope V8) := ⟨rfl,rfl,rfl,by decide +kernel,rfl,by decide +kernel,by decide +kernel⟩
def Z59 : DefY := { at_ := (mY "Piece" "__init__"), name := "__init__", qual := "Piece.__init__", params := defArgs V8, body := defBody V8, scope := defScope V8, dfl := [], kwd := [] }
abbrev X4 : Stmt := clsS (topS 11) 4
abbrev Z6b : List Str := ["self", "i", "found"]
abbrev Uv : List Str := ["self", "i"]
theorem Z05 : FnScope Z6b Uv (defScope X4) := ⟨rfl,rfl,rfl,by decide +kernel,rfl,by decide +kernel,by decide +kernel⟩
def Z06 : DefY := { at_ := (mY "Source" "line_end"), name := "line_end", qual := "Source.line_end", params := defArgs X4, body := defBody X4, scope := defScope X4, dfl := [], kwd := [] }
abbrev Xx : Stmt := clsS (topS 11) 11
abbrev Z8s : List Str := ["self", "i", "j"]
abbrev Z0l : List Str := ["self", "i"]
theorem N6 : FnScope Z8s Z0l (defScope Xx) := ⟨rfl,rfl,rfl,by decide +kernel,rfl,by decide +kernel,by decide +kernel⟩
def Z2m : DefY := { at_ := (mY "Source" "close"), name := "close", qual := "Source.close", params := defArgs Xx, body := defBody Xx, scope := defScope Xx, dfl := [], kwd := [] }
abbrev Yp : Stmt := clsS (topS 5) 1
abbrev Z4k : List Str := ["self", "is_told", "turn", "sign"]
abbrev Vx : List Str := ["self"]
theorem Xc : FnScope Z4k Vx (defScope Yp) := ⟨rfl,rfl,rfl,by decide +kernel,rfl,by decide +kernel,by decide +kernel⟩
def Qv : DefY := { at_ := (mY "Piece" "read_header"), name := "read_header", qual := "Piece.read_header", params := defArgs Yp, body := defBody Yp, scope := defScope Yp, dfl := [], kwd := [] }
abbrev Yv : Stmt := clsS (topS 5) 4
abbrev Z5a : List Str := ["self", "own"]
abbrev U8 : List Str := ["self"]
theorem N7 : FnScope Z5a U8 (defScope Yv) := ⟨rfl,rfl,rfl,by decide +kernel,rfl,by decide +kernel,by decide +kernel⟩
def N8 : DefY := { at_ := (mY "Piece" "last_feeds"), name := "last_feeds", qual := "Piece.last_feeds", params := defArgs Yv, body := defBody Yv, scope := defScope Yv, dfl := [], kwd := [] }
abbrev Wi : Stmt := clsS (topS 5) 5
abbrev Zap : List Str := ["self", "is_folded", "found", "is_white", "k", "row", "empties", "line", "has_feed", "is_now_white"]
abbrev Z1k : List Str := ["self", "is_folded"]
theorem Yb : FnScope Zap Z1k (defScope Wi) := ⟨rfl,rfl,rfl,by decide +kernel,rfl,by decide +kernel,by decide +kernel⟩
def Z3s : DefY := { at_ := (mY "Piece" "value"), name := "value", qual := "Piece.value", params := defArgs Wi, body := defBody Wi, scope := defScope Wi, dfl := [], kwd := [] }
abbrev Yg : Stmt := clsS (topS 11) 9
abbrev Z28 : List Str := ["self", "i", "word", "k", "sign"]
abbrev Wy : List Str := ["self", "i", "word"]
theorem Wj : FnScope Z28 Wy (defScope Yg) := ⟨rfl,rfl,rfl,by decide +kernel,rfl,by decide +kernel,by decide +kernel⟩
def U9 : DefY := { at_ := (mY "Source" "expected_mark"), name := "expected_mark", qual := "Source.expected_mark", params := defArgs Yg, body := defBody Yg, scope := defScope Yg, dfl := [], kwd := [] }
abbrev Yq : Stmt := clsS (topS 5) 2
abbrev Z4l : List Str := ["self", "i", "longest", "j"]
abbrev Vy : List Str := ["self", "i"]
theorem Xd : FnScope Z4l Vy (defScope Yq) := ⟨rfl,rfl,rfl,by decide +kernel,rfl,by decide +kernel,by decide +kernel⟩
def Qw : DefY := { at_ := (mY "Piece" "indentation"), name := "indentation", qual := "Piece.indentation", params := defArgs Yq, body := defBody Yq, scope := defScope Yq, dfl := [], kwd := [] }
abbrev V9 : Stmt := clsS (topS 5) 3
abbrev Zc9 : List Str := ["self", "i", "width", "source", "j", "end", "has_feed"]
abbrev Z2n : List Str := ["self", "i", "width"]
theorem Ua : FnScope Zc9 Z2n (defScope V9) := ⟨rfl,rfl,rfl,by decide +kernel,rfl,by decide +kernel,by decide +kernel⟩
def Z5b : DefY := { at_ := (mY "Piece" "take"), name := "take", qual := "Piece.take", params := defArgs V9, body := defBody V9, scope := defScope V9, dfl := [], kwd := [] }
abbrev Wk : Stmt := topS 46
abbrev Zaq : List Str := ["text", "style", "n", "source", "piece", "i", "width"]
abbrev Z1l : List Str := ["text", "style", "n"]
theorem Vo : FnScope Zaq Z1l (defScope Wk) := ⟨rfl,rfl,rfl,by decide +kernel,rfl,by decide +kernel,by decide +kernel⟩
def Z3t : DefY := { at_ := (gY "block_value"), name := "block_value", qual := "block_value", params := defArgs Wk, body := defBody Wk, scope := defScope Wk, dfl := [], kwd := [] }
abbrev Wl : Stmt := topS 47
abbrev Zar : List Str := ["text", "style", "context", "indent", "deep", "source", "letter", "found"]
abbrev Jd : List Str := ["text", "style", "context", "indent", "deep"]
theorem Z0m : FnScope Zar Jd (defScope Wl) := ⟨rfl,rfl,rfl,by decide +kernel,rfl,by decide +kernel,by decide +kernel⟩
def Z3u : DefY := { at_ := (gY "read_scalar"), name := "read_scalar", qual := "read_scalar", params := defArgs Wl, body := defBody Wl, scope := defScope Wl, dfl := [(.int 1)], kwd := [] }
abbrev Wm : Stmt := topS 39
abbrev Zas : List Str := ["value"]
abbrev Z1m : List Str := ["value"]
theorem Z8t : FnScope Zas Z1m (defScope Wm) := ⟨rfl,rfl,rfl,by decide +kernel,rfl,by decide +kernel,by decide +kernel⟩
def Z3v : DefY := { at_ := (gY "check_value"), name := "check_value", qual := "check_value", params := defArgs Wm, body := defBody Wm, scope := defScope Wm, dfl := [], kwd := [] }
abbrev Xf : Stmt := topS 43
abbrev Z1n : List Str := ["value", "context", "rows", "row"]
abbrev Z1o : List Str := ["value", "context"]
theorem Ww : FnScope Z1n Z1o (defScope Xf) := ⟨rfl,rfl,rfl,by decide +kernel,rfl,by decide +kernel,by decide +kernel⟩
def Z3w : DefY := { at_ := (gY "fits_single"), name := "fits_single", qual := "fits_single", params := defArgs Xf, body := defBody Xf, scope := defScope Xf, dfl := [], kwd := [] }
abbrev Nb : Stmt := topS 36
abbrev Zg9 : List Str := ["sign"]
abbrev Z7n : List Str := ["sign"]
theorem Zex : FnScope Zg9 Z7n (defScope Nb) := ⟨rfl,rfl,rfl,by decide +kernel,rfl,by decide +kernel,by decide +kernel⟩
def Z9y : DefY := { at_ := (gY "is_sign"), name := "is_sign", qual := "is_sign", params := defArgs Nb, body := defBody Nb, scope := defScope Nb, dfl := [], kwd := [] }
abbrev Xy : Stmt := topS 42
abbrev Z8u : List Str := ["value", "at", "context", "sign", "ahead", "behind", "is_last"]
abbrev Z0n : List Str := ["value", "at", "context"]
theorem Nf : FnScope Z8u Z0n (defScope Xy) := ⟨rfl,rfl,rfl,by decide +kernel,rfl,by decide +kernel,by decide +kernel⟩
def Z2o : DefY := { at_ := (gY "stands_plain"), name := "stands_plain", qual := "stands_plain", params := defArgs Xy, body := defBody Xy, scope := defScope Xy, dfl := [], kwd := [] }
abbrev W6 : Stmt := topS 44
abbrev Z6q : List Str := ["value", "style", "context", "at"]
abbrev Z2p : List Str := ["value", "style", "context"]
theorem Z1p : FnScope Z6q Z2p (defScope W6) := ⟨rfl,rfl,rfl,by decide +kernel,rfl,by decide +kernel,by decide +kernel⟩
def Z5c : DefY := { at_ := (gY "is_fitting"), name := "is_fitting", qual := "is_fitting", params := defArgs W6, body := defBody W6, scope := defScope W6, dfl := [], kwd := [] }
abbrev Z7o : Stmt := topS 45
abbrev Zlt : List Str := ["value", "style", "context"]
abbrev Zga : List Str := ["value", "style", "context"]
theorem Zkc : FnScope Zlt Zga (defScope Z7o) := ⟨rfl,rfl,rfl,by decide +kernel,rfl,by decide +kernel,by decide +kernel⟩
def Zgb : DefY := { at_ := (gY "fits"), name := "fits", qual := "fits", params := defArgs Z7o, body := defBody Z7o, scope := defScope Z7o, dfl := [], kwd := [] }
abbrev Z8v : Stmt := topS 55
abbrev Zi8 : List Str := ["_law_script", "_law_cell", "_law_state", "_law_turn", "_law_indent", "_law_pieces_here", "_law_text", "_law_value", "_law_has_break", "_law_spoilt_here", "_law_has_bracket", "_law_context", "_law_is_out", "_law_found", "_law_odd", "_law_due", "_law_sign", "_law_piece"]
abbrev Zkd : List Str := ["_law_script"]
theorem U0 : FnScope Zi8 Zkd (defScope Z8v) := ⟨rfl,rfl,rfl,by decide +kernel,rfl,by decide +kernel,by decide +kernel⟩
def Zjf : DefY := { at_ := (gY "law"), name := "law", qual := "law", params := defArgs Z8v, body := defBody Z8v, scope := defScope Z8v, dfl := [], kwd := [] }
def fns : List DefY := [Z52,Z7c,Z7d,Z3l,Z3m,Z2h,Z3n,Z54,Z24,Z3o,Z6p,Qm,Z02,Z0w,Z3p,Jw,Z9s,Z9u,Z9v,Z7k,Z04,Z57,Zdx,Qu,Z58,Z3r,Z9w,Zc6,Z9x,Z59,Z06,Z2m,Qv,N8,Z3s,U9,Qw,Z5b,Z3t,Z3u,Z3v,Z3w,Z9y,Z2o,Z5c,Zgb,Zjf]
def tabs : List He.Tab := [(fun K => He.ga K "LETTERS", [(S [98,108,111,99,107]), (S [107,101,121]), (S [102,108,111,119]), (S [112,97,105,114])]), (fun K => He.ga K "ESCAPES", [(S [34]), (S [92]), (S [47]), (S [110]), (S [116]), (S [32]), (S [9])]), (fun K => He.ga K "HEADS", [(S [108,105,116,101,114,97,108]), (S [102,111,108,100,101,100])]), (fun K => He.ga K "QUOTES", [(S [112,108,97,105,110]), (S [115,105,110,103,108,101]), (S [100,111,117,98,108,101])]), (fun K => He.ga K "BEHIND", [(S [98,108,111,99,107]), (S [107,101,121]), (S [102,108,111,119]), (S [112,97,105,114])])]
def exs : Exs := [
  tupAt (dflY (mY "Source" "is_mark") 0) [(.str (S [45,45,45])), (.str (S [46,46,46]))],
  tupAt (gY "STYLES") [(.str (S [112,108,97,105,110])), (.str (S [115,105,110,103,108,101])), (.str (S [100,111,117,98,108,101])), (.str (S [108,105,116,101,114,97,108])), (.str (S [102,111,108,100,101,100]))],
  dkB "LETTERS" [([98,108,111,99,107], (.str (S [79]))), ([107,101,121], (.str (S [75]))), ([102,108,111,119], (.str (S [73]))), ([112,97,105,114], (.str (S [80])))],
  fun K => (He.Fa.int "MOST_INDENT" (100)).ok K,
  fun K => (He.Fa.int "MOST_WIDTH" (200)).ok K,
  fun K => (He.Fa.str "BRACKETS" (S [44,91,93,123,125])).ok K,
  tupAt (gY "IN_BRACKETS") [(.str (S [73])), (.str (S [80]))],
  fun K => (He.Fa.str "MAYBE_FIRST" (S [45,63,58])).ok K,
  fun K => (He.Fa.str "NOT_FIRST" (S [44,91,93,123,125,35,38,42,33,124,62,39,34,64,96])).ok K,
  tupAt (gY "ON_A_LINE") [(.str (S [75])), (.str (S [80]))],
  dkB "ESCAPES" [([34], (.str (S [34]))), ([92], (.str (S [92]))), ([47], (.str (S [47]))), ([110], (.str (S [10]))), ([116], (.str (S [9]))), ([32], (.str (S [32]))), ([9], (.str (S [9])))],
  dkB "HEADS" [([108,105,116,101,114,97,108], (.str (S [124]))), ([102,111,108,100,101,100], (.str (S [62])))],
  dkB "QUOTES" [([112,108,97,105,110], (.str (S []))), ([115,105,110,103,108,101], (.str (S [39]))), ([100,111,117,98,108,101], (.str (S [34])))],
  dkB "BEHIND" [([98,108,111,99,107], (.str (S [10]))), ([107,101,121], (.str (S [58,32]))), ([102,108,111,119], (.str (S [93]))), ([112,97,105,114], (.str (S [58,32])))],
  fun K => (He.Fa.int "MOST_SIGNS" (3000)).ok K,
  tupAt (gY "ONE_LINE") [(.str (S [107,101,121])), (.str (S [112,97,105,114]))],
  tupAt (gY "WHITE") [(.str (S [32])), (.str (S [9]))],
  fun K => (He.Fa.glo "Piece").ok K,
  fun K => (He.Fa.cls "Piece").ok K,
  fun K => (He.Fa.mkr "Piece").ok K,
  fun K => (He.Fa.meth "Piece" "read_header").ok K,
  fun K => (He.Fa.meth "Piece" "last_feeds").ok K,
  fun K => (He.Fa.meth "Piece" "value").ok K,
  fun K => (He.Fa.meth "Piece" "indentation").ok K,
  fun K => (He.Fa.meth "Piece" "take").ok K,
  fun K => (He.Fa.noat "Piece" "source").ok K,
  fun K => (He.Fa.noat "Piece" "rows").ok K,
  fun K => (He.Fa.noat "Piece" "empties").ok K,
  fun K => (He.Fa.noat "Piece" "end").ok K,
  fun K => (He.Fa.noat "Piece" "start").ok K,
  fun K => (He.Fa.noat "Piece" "n").ok K,
  fun K => (He.Fa.noat "Piece" "digit").ok K,
  fun K => (He.Fa.noat "Piece" "chomp").ok K,
  fun K => (He.Fa.glo "Source").ok K,
  fun K => (He.Fa.cls "Source").ok K,
  fun K => (He.Fa.mkr "Source").ok K,
  fun K => (He.Fa.meth "Source" "at").ok K,
  fun K => (He.Fa.meth "Source" "past_blanks").ok K,
  fun K => (He.Fa.meth "Source" "is_begin").ok K,
  fun K => (He.Fa.meth "Source" "is_mark").ok K,
  fun K => (He.Fa.meth "Source" "miss").ok K,
  fun K => (He.Fa.meth "Source" "is_barred").ok K,
  fun K => (He.Fa.meth "Source" "indented").ok K,
  fun K => (He.Fa.meth "Source" "past_white").ok K,
  fun K => (He.Fa.meth "Source" "line_end").ok K,
  fun K => (He.Fa.meth "Source" "close").ok K,
  fun K => (He.Fa.meth "Source" "expected_mark").ok K,
  fun K => (He.Fa.noat "Source" "text").ok K,
  fun K => (He.Fa.noat "Source" "length").ok K,
  fun K => (He.Fa.noat "Source" "far").ok K,
  fun K => (He.Fa.glo "NoStyle").ok K,
  oexB "NoStyle",
  exCB "NoStyle",
  fun K => (He.Fa.noat "NoStyle" "part").ok K,
  initB "NoStyle",
  fun K => (He.Fa.exm "NoStyle" "NoStyle" true).ok K,
  kitB2 "NoStyle" (fun K => .ref (He.ga K "PageError")),
  kitB2 "NoStyle" (fun _ => .type "ValueError"),
  baseB "PageError",
  noDigB,
  fun K => (He.Fa.glo "_law_digit").ok K,
  fun K => (He.Fa.glo "_law_one").ok K,
  fun K => (He.Fa.glo "_law_gap").ok K,
  fun K => (He.Fa.glo "is_from_to").ok K,
  fun K => (He.Fa.glo "is_safe").ok K,
  fun K => (He.Fa.glo "is_next").ok K,
  fun K => (He.Fa.glo "is_first").ok K,
  fun K => (He.Fa.glo "row_end").ok K,
  fun K => (He.Fa.glo "plain_fold").ok K,
  fun K => (He.Fa.glo "quote_fold").ok K,
  fun K => (He.Fa.glo "folded_part").ok K,
  fun K => (He.Fa.glo "escaped").ok K,
  fun K => (He.Fa.glo "check_place").ok K,
  fun K => (He.Fa.glo "check_numbers").ok K,
  fun K => (He.Fa.glo "is_text").ok K,
  fun K => (He.Fa.glo "block_value").ok K,
  fun K => (He.Fa.glo "plain").ok K,
  fun K => (He.Fa.glo "quoted").ok K,
  fun K => (He.Fa.glo "is_sign").ok K,
  fun K => (He.Fa.glo "stands_plain").ok K,
  fun K => (He.Fa.glo "fits_single").ok K,
  fun K => (He.Fa.glo "check_value").ok K,
  fun K => (He.Fa.glo "is_fitting").ok K,
  fun K => (He.Fa.glo "_law_pieces").ok K,
  fun K => (He.Fa.glo "_law_spoilt").ok K,
  fun K => (He.Fa.glo "read_scalar").ok K,
  fun K => (He.Fa.glo "fits").ok K,
  fun K => (He.Fa.glo "PageError").ok K,
  fun K => (He.Fa.glo "STYLES").ok K,
  fun K => (He.Fa.glo "IN_BRACKETS").ok K,
  fun K => (He.Fa.glo "ON_A_LINE").ok K,
  fun K => (He.Fa.glo "ONE_LINE").ok K,
  fun K => (He.Fa.glo "WHITE").ok K,
  fun K => (He.Fa.glo "law").ok K,
  fun K => (He.Fa.free "len").ok K,
  fun K => (He.Fa.free "int").ok K,
  fun K => (He.Fa.free "range").ok K,
  fun K => (He.Fa.free "str").ok K,
  fun K => (He.Fa.free "isinstance").ok K,
  fun K => (He.Fa.free "bool").ok K,
  fun K => (He.Fa.free "min").ok K,
  fun K => (He.Fa.free "max").ok K,
  fun K => (He.Fa.free "all").ok K,
  fun K => (He.Fa.free "enumerate").ok K,
  fun K => (He.Fa.free "any").ok K]
abbrev GT (P : Program) (w : World) (K : PySem.W.Frag) (mg : PySem.Str → Option Value) (base : Heap) (lv : Nat) (a : PySem.W.Frag → PySem.Addr) (p : List PySem.Str) (n : Nat) (F : FF) := FnG P w K mg base lv (a K) (fdOf K (a K)) p (spF K n F)
theorem tk {P : Program} {w : World} {K : PySem.W.Frag} {mg : PySem.Str → Option Value} {base : Heap} {n : List PySem.Str} {q : PySem.Str} {sc : Scope} {a : PySem.Addr} {cdv : Value} {A : Around} {outer : List PySem.Env} {s : Shared} {H : Hp} {E : XK} : Takes (cxOf (L2.CX P w) P w K mg base n q sc a cdv A outer s H E) (fun cls d _ H => E cls d H) := takes_of rfl rfl rfl rfl
end Ap
set_option maxHeartbeats 4000000
namespace Fx
open PySem PySem.Spec PyProof.Rows L2 SX Ap
def obsR (as : List Addr) (fn : List DefY) (ts : List He.Tab) (ex : Exs) (g : Addr → Option Obj) : AlY := obsK fn ts ex (He.frG g as)
def hookR (as : List Addr) (fn : List DefY) (ts : List He.Tab) (ex : Exs) : PySem.W.Hook where
  α := AlY
  obs := fun s => obsR as fn ts ex s.heap.get?
  val := fun w => valY fn ts w
  says := fun w h => ∃ K : PySem.W.Frag,K.In h ∧ Says fn ts ex w K
  of := fun _ _ e => ⟨_,He.frG_in,⟨congrArg (fun z : AlY => z.1) e,congrArg (fun z : AlY => z.2.1) e,congrArg (fun z : AlY => z.2.2) e⟩⟩
  keeps := fun _ _ _ ⟨K,hK,c⟩ k => ⟨K,PySem.W.Frag.In.keeps hK k,c⟩
theorem Zke {as : List Addr} {fn : List DefY} {ts : List He.Tab} {ex : Exs} {g : Addr → Option Obj} {s : Shared} (h : ∀ a,g a = s.heap.get? a) : obsR as fn ts ex g = (hookR as fn ts ex).obs s := by
  have e : g = s.heap.get? := funext h
  rw [e] <;> rfl
section
open HandSHeadRun PySem.W
end
end Fx
set_option maxHeartbeats 4000000
namespace Ap
open PySem PySem.W PySem.Calls PyProof.Rows
def nm0 : List PySem.Str := [PySem.Str.ofString "_wall", PySem.Str.ofString "PageError", PySem.Str.ofString "NoStyle", PySem.Str.ofString "Piece", PySem.Str.ofString "IN_BRACKETS", PySem.Str.ofString "ON_A_LINE", PySem.Str.ofString "BRACKETS", PySem.Str.ofString "is_safe", PySem.Str.ofString "Source", PySem.Str.ofString "NOT_FIRST", PySem.Str.ofString "MAYBE_FIRST", PySem.Str.ofString "ESCAPES", PySem.Str.ofString "is_first", PySem.Str.ofString "is_next", PySem.Str.ofString "row_end", PySem.Str.ofString "plain_fold", PySem.Str.ofString "plain", PySem.Str.ofString "quote_fold", PySem.Str.ofString "escaped", PySem.Str.ofString "folded_part", PySem.Str.ofString "quoted", PySem.Str.ofString "STYLES", PySem.Str.ofString "LETTERS", PySem.Str.ofString "BEHIND", PySem.Str.ofString "QUOTES", PySem.Str.ofString "HEADS", PySem.Str.ofString "ONE_LINE", PySem.Str.ofString "WHITE", PySem.Str.ofString "MOST_SIGNS", PySem.Str.ofString "MOST_INDENT", PySem.Str.ofString "MOST_WIDTH", PySem.Str.ofString "is_sign", PySem.Str.ofString "is_text", PySem.Str.ofString "is_from_to", PySem.Str.ofString "check_value"]
def nm1 : List PySem.Str := [PySem.Str.ofString "check_place", PySem.Str.ofString "check_numbers", PySem.Str.ofString "stands_plain", PySem.Str.ofString "fits_single", PySem.Str.ofString "is_fitting", PySem.Str.ofString "fits", PySem.Str.ofString "block_value", PySem.Str.ofString "read_scalar", PySem.Str.ofString "_law_cell_at", PySem.Str.ofString "_law_digit", PySem.Str.ofString "_law_one", PySem.Str.ofString "_law_gap", PySem.Str.ofString "_law_pieces", PySem.Str.ofString "_law_spoilt"]
def nms : List PySem.Str := nm0 ++ nm1
abbrev R5 : OpenRow := OpenLaw.row PySem.Challenge.rw_anchorpages_k29_whole_values_of_plain_te
def ads : List PySem.Addr := [3,1399,1398,1397,1396,1395,1394,1393,1392,1391,1390,1389,1388,1387,1386,1385,1384,1383,1382,1381,1380,1379,1378,1377,1376,1375,1374,1373,1372,1371,1370,1369,1368,1367,1366,1365,1364,1363,1362,1361,1360,1359,1358,1357,1356,1355,1354,1353,1352,1351,1350,1349,1348,1347,1346,1345,1344,1343,1342,1341,1340,1339,1338,1337,1336,1335,1334,1333,1332,1331,1330,1329,1328,1327,1326,1325,1324,1323,1322,1321,1320,1319,1318,1317,1316,1315,1314,1313,1312,1311,1310,1309,1308,1307,1306,1305,1304,1303,1302,1301,1300,1299,1298,1297,1296,1295,1294,1293,1292,1291,1290,1289,1288,1287,1286,1285,1284,1283,1282,1281,1280,1279,1278,1277,1276,1275,1274,1273,1272,1271,1270,1269,1268,1267,1266,1265,1264,1263,1262,1261,1260,1259,1258,1257,1256,1255,1254,1253,1252,1251,1250,1249,1248,1247,1246,1245,1244,1243,1242,1241,1240,1239,1238,1237,1236,1235,1234,1233,1232,1231,1230,1229,1228,1227,1226,1225,1224,1223,1222,1221,1220,1219,1218,1217,1216,1215,1214,1213,1212,1211,1210,1209,1208,1207,1206,1205,1204,1203,1202,1201,1200,1199,1198,1197,1196,1195,1194,1193,1192,1191,1190,1189,1188,1187,1186,1185,1184,1183,1182,1181,1180,1179,1178,1177,1176,1175,1174,1173,1172,1171,1170,1169,1168,1167,1166,1165,1164,1163,1162,1161,1160,1159,1158,1157,1156,1155,1154,1153,1152,1151,1150,1149,1148,1147,1146,1145,1144,1143,1142,1141,1140,1139,1138,1137,1136,1135,1134,1133,1132,1131,1130,1129,1128,1127,1126,1125,1124,1123,1122,1121,1120,1119,1118,1117,1116,1115,1114,1113,1112,1111,1110,1109,1108,1107,1106,1105,1104,1103,1102,1101,1100,1099,1098,1097,1096,1095,1094,1093,1092,1091,1090,1089,1088,1087,1086,1085,1084,1083,1082,1081,1080,1079,1078,1077,1076,1075,1074,1073,1072,1071,1070,1069,1068,1067,1066,1065,1064,1063,1062,1061,1060,1059,1058,1057,1056,1055,1054,1053,1052,1051,1050,1049,1048,1047,1046,1045,1044,1043,1042,1041,1040,1039,1038,1037,1036,1035,1034,1033,1032,1031,1030,1029,1028,1027,1026,1025,1024,1023,1022,1021,1020,1019,1018,1017,1016,1015,1014,1013,1012,1011,1010,1009,1008,1007,1006,1005,1004,1003,1002,1001,1000,999,998,997,996,995,994,993,992,991,990,989,988,987,986,985,984,983,982,981,980,979,978,977,976,975,974,973,972,971,970,969,968,967,966,965,964,963,962,961,960,959,958,957,956,955,954,953,952,951,950,949,948,947,946,945,944,943,942,941,940,939,938,937,936,935,934,933,932,931,930,929,928,927,926,925,924,923,922,921,920,919,918,917,916,915,914,913,912,911,910,909,908,907,906,905,904,903,902,901,900,899,898,897,896,895,894,893,892,891,890,889,888,887,886,885,884,883,882,881,880,879,878,877,876,875,874,873,872,871,870,869,868,867,866,865,864,863,862,861,860,859,858,857,856,855,854,853,852,851,850,849,848,847,846,845,844,843,842,841,840,839,838,837,836,835,834,833,832,831,830,829,828,827,826,825,824,823,822,821,820,819,818,817,816,815,814,813,812,811,810,809,808,807,806,805,804,803,802,801,800,799,798,797,796,795,794,793,792,791,790,789,788,787,786,785,784,783,782,781,780,779,778,777,776,775,774,773,772,771,770,769,768,767,766,765,764,763,762,761,760,759,758,757,756,755,754,753,752,751,750,749,748,747,746,745,744,743,742,741,740,739,738,737,736,735,734,733,732,731,730,729,728,727,726,725,724,723,722,721,720,719,718,717,716,715,714,713,712,711,710,709,708,707,706,705,704,703,702,701,700,699,698,697,696,695,694,693,692,691,690,689,688,687,686,685,684,683,682,681,680,679,678,677,676,675,674,673,672,671,670,669,668,667,666,665,664,663,662,661,660,659,658,657,656,655,654,653,652,651,650,649,648,647,646,645,644,643,642,641,640,639,638,637,636,635,634,633,632,631,630,629,628,627,626,625,624,623,622,621,620,619,618,617,616,615,614,613,612,611,610,609,608,607,606,605,604,603,602,601,600,599,598,597,596,595,594,593,592,591,590,589,588,587,586,585,584,583,582,581,580,579,578,577,576,575,574,573,572,571,570,569,568,567,566,565,564,563,562,561,560,559,558,557,556,555,554,553,552,551,550,549,548,547,546,545,544,543,542,541,540,539,538,537,536,535,534,533,532,531,530,529,528,527,526,525,524,523,522,521,520,519,518,517,516,515,514,513,512,511,510,509,508,507,506,505,504,503,502,501,500,499,498,497,496,495,494,493,492,491,490,489,488,487,486,485,484,483,482,481,480,479,478,477,476,475,474,473,472,471,470,469,468,467,466,465,464,463,462,461,460,459,458,457,456,455,454,453,452,451,450,449,448,447,446,445,444,443,442,441,440,439,438,437,436,435,434,433,432,431,430,429,428,427,426,425,424,423,422,421,420,419,418,417,416,415,414,413,412,411,410,409,408,407,406,405,404,403,402,401,400,399,398,397,396,395,394,393,392,391,390,389,388,387,386,385,384,383,382,381,380,379,378,377,376,375,374,373,372,371,370,369,368,367,366,365,364,363,362,361,360,359,358,357,356,355,354,353,352,351,350,349,348,347,346,345,344,343,342,341,340,339,338,337,336,335,334,333,332,331,330,329,328,327,326,325,324,323,322,321,320,319,318,317,316,315,314,313,312,311,310,309,308,307,306,305,304,303,302,301,300,299,298,297,296,295,294,293,292,291,290,289,288,287,286,285,284,283,282,281,280,279,278,277,276,275,274,273,272,271,270,269,268,267,266,265,264,263,262,261,260,259,258,257,256,255,254,253,252,251,250,249,248,247,246,245,244,243,242,241,240,239,238,237,236,235,234,233,232,231,230,229,228,227,226,225,224,223,222,221,220,219,218,217,216,215,214,213,212,211,210,209,208,207,206,205,204,203,202,201,200,199,198,197,196,195,194,193,192,191,190,189,188,187,186,185,184,183,182,181,180,179,178,177,176,175,174,173,172,171,170,169,168,167,166,165,164,163,162,161,160,159,158,157,156,155,154,153,152,151,150,149,148,147,146,145,144,143,142,141,140,139,138,137,136,135,134,133,132,131,130,129,128,127,126,125,124,123,122,121,120,119,118,117,116,115,114,113,112,111,110,109,108,107,106,105,104,103,102,101,100,99,98,97,96,95,94,93,92,91,90,89,88,87,86,85,84,83,82,81,80,79,78,77,76,75,74,73,72,71,70,69,68,67,66,65,64,63,62,61,60,59,58,57,56,55,54,53,52,51,50,49,48,47,46,45,44,43,42,41,40,39,38,37,36,35,34,33,32,31,30,29,28,27,26,25,24,23,22,21,20,19,18,17,16,15,14,13,12,11,10,9,8,7,6,5,4,2,1,0]
abbrev hk5 : PySem.W.Hook := Fx.hookR ads fns tabs exs
def ob5 (s : PySem.W.SharedT) : Fx.AlY := Fx.obsR ads fns tabs exs (HandSHeadRun.getT s)
theorem Zlu (s : PySem.W.SharedT) : ob5 s = hk5.obs s.abs := Fx.Zke (HandSHeadRun.getT_eq s)
theorem run0 (w : World) : HandSHeadRun.RunEq R5 (view R5.prog [55]) hk5 ob5 7360 nms (w.withFollow "special-get-raises" false) := by
  intro os
  kernel_rfl
theorem run1 (w : World) : HandSHeadRun.RunEq R5 (view R5.prog [55]) hk5 ob5 7360 nms (w.withFollow "special-get-raises" true) := by
  intro os
  kernel_rfl
theorem run5 (w : World) : HandSHeadRun.RunEq R5 (view R5.prog [55]) hk5 ob5 7360 nms w := byRow2 "special-get-raises" (P := fun w => HandSHeadRun.RunEq R5 (view R5.prog [55]) hk5 ob5 7360 nms w) run0 run1 w
end Ap
set_option maxHeartbeats 4000000
namespace Fx
open PySem PySem.Spec PyProof.Rows L2 SX
variable [Tb]
def gMax3 : List T → Sto → Option (T × Sto)
  | [.int a,.int b,.int c],Z => some (.int (max (max a b) c),Z)
  | _,_ => none
theorem Zlv (a b c : Int) : nuMax3 (.int a) (.int b) (.int c) = some (.int (max (max a b) c)) := by
  have e : ∀ i j : Int,nuMax2 (.int i) (.int j) = some (.int (max i j)) := fun i j => by
    show (nuLt (.int i) (.int j)).map _ = _
    have : nuLt (.int i) (.int j) = some (decide (i < j)) := rfl
    rw [this]
    by_cases h : i < j
    · rw [decide_eq_true h]
      show some (V.int j) = _
      rw [Int.max_eq_right (by omega)]
    · rw [decide_eq_false h]
      show some (V.int i) = _
      rw [Int.max_eq_left (by omega)]
  show (nuMax2 (.int a) (.int b)).bind _ = _
  rw [e]
  exact e _ _
theorem Zlw {X : Cx} {K : PySem.W.Frag} (hK : X.K = K) (hc : X.calm = true) : CallR X (.builtin "max") (rFC K gMax3) := by
  subst hK
  refine Qg (call_max3Nu hc) fun xs H Q h => ?_
  obtain ⟨ι,Z,ts,s,r,p⟩ := h
  unfold gMax3 at p
  split at p
  · cases r with
    | cons r1 rr =>
      obtain ⟨v,w,rfl,r2,r3⟩ := rr.two
      cases r1
      cases r2
      cases r3
      exact ⟨_,_,_,_,rfl,Zlv _ _ _,Y8 p s (.int _)⟩
  · exact p.elim
@[simp] theorem max3_i (a b c : Int) (Z : Sto) : gMax3 [.int a,.int b,.int c] Z = some (.int (max (max a b) c),Z) := (rfl)
end Fx
set_option maxHeartbeats 4000000
namespace Fx
open PySem PySem.Spec PyProof.Rows L2 SX Ap
variable [Tb]
def tKdIn (l : List (List Nat × T)) (neg : Bool) (fb : FE) : FT := fun ρ Z => (fb ρ Z).bind fun y Z1 => match kdHas l y with
  | some c => .ok (c != neg) Z1
  | none => .stuck
section
variable {X : Cx} {K : PySem.W.Frag} {W : Wc} {b : Expr} {fb : FE} {pos p : Pos} {x : PySem.Str} {l : List (List Nat × T)}
theorem Zkf (hK : X.K = K) (hg : Gl X x) (hm : GDk X.K X.w X.mg x l) (hb : FJ X K W b fb) (hm2 : behindInMarks .In (.Name x p) = false := by rfl) (hdb : (x == ("__debug__" : PySem.Str)) = false := by decide) : FTJ X K W (.Compare b [.In] [.Name x p] pos) (tKdIn l false fb) := by
  subst hK
  obtain ⟨a,es,n,hx,D,hv,hn⟩ := hm
  refine Z9q (pt_cmpR (op_in_kd D) hb (pe_glob (v := .ref a) hg hx rfl hdb) hm2) fun σ H Q h => ?_
  obtain ⟨ι,ρ,Z,is,q⟩ := h
  refine ⟨ι,ρ,Z,is,(Zo q).imp fun y H1 q1 => ?_⟩
  obtain ⟨ι1,Z1,ty,g1,s1,r1,p1⟩ := q1
  split at p1
  · rename_i c e
    obtain ⟨z,o,rfl,ho,hc⟩ := kd_in hv hn r1 e
    refine ⟨z,o,rfl,rfl,ho,?_⟩
    rw [hc]
    exact ⟨_,rfl,by have := p1 ι1 H1 (c != false) Gr.refl s1 rfl; simpa using this⟩
  · exact p1.elim
theorem Z9z (hK : X.K = K) (hg : Gl X x) (hm : GDk X.K X.w X.mg x l) (hb : FJ X K W b fb) (hm2 : behindInMarks .NotIn (.Name x p) = false := by rfl) (hdb : (x == ("__debug__" : PySem.Str)) = false := by decide) : FTJ X K W (.Compare b [.NotIn] [.Name x p] pos) (tKdIn l true fb) := by
  subst hK
  obtain ⟨a,es,n,hx,D,hv,hn⟩ := hm
  refine Z9q (pt_cmpR (op_notIn_kd D) hb (pe_glob (v := .ref a) hg hx rfl hdb) hm2) fun σ H Q h => ?_
  obtain ⟨ι,ρ,Z,is,q⟩ := h
  refine ⟨ι,ρ,Z,is,(Zo q).imp fun y H1 q1 => ?_⟩
  obtain ⟨ι1,Z1,ty,g1,s1,r1,p1⟩ := q1
  split at p1
  · rename_i c e
    obtain ⟨z,o,rfl,ho,hc⟩ := kd_in hv hn r1 e
    refine ⟨z,o,rfl,rfl,ho,?_⟩
    rw [hc]
    exact ⟨_,rfl,by have := p1 ι1 H1 (c != true) Gr.refl s1 rfl; simpa using this⟩
  · exact p1.elim
end
end Fx
set_option maxHeartbeats 4000000
namespace Fx
open PySem PySem.Spec PyProof.Rows L2 SX Ap
def rngOf (xs : List T) (Z1 : Sto) : R ItF := match xs with
  | [.int j] => if -(2 ^ 62) ≤ j ∧ j < 2 ^ 62 then .ok (itRng 0 j.toNat) Z1 else .stuck
  | [.int i,.int j] => if -(2 ^ 62) ≤ i ∧ i < 2 ^ 62 ∧ -(2 ^ 62) ≤ j ∧ j < 2 ^ 62 then .ok (itRng i (j - i).toNat) Z1 else .stuck
  | _ => .stuck
theorem rng1 {j : Int} {Z : Sto} (h1 : -1000000 ≤ j) (h2 : j ≤ 1000000) : rngOf [.int j] Z = .ok (itRng 0 j.toNat) Z := if_pos ⟨by omega,by omega⟩
theorem rngN {n : Nat} {Z : Sto} (h : n ≤ Lim) : rngOf [.int (n : Int)] Z = .ok (itRng 0 n) Z := by
  have h' : n ≤ 1000000 := h
  rw [rng1 (by omega) (by omega)]; rfl
section
variable (ρ : Env) (Z : Sto)
@[simp] theorem q_eC (t : T) : eC t ρ Z = .ok t Z := (rfl)
@[simp] theorem q_var0 (t : T) : eVar 0 (some t :: ρ) Z = .ok t Z := (rfl)
@[simp] theorem q_varS (i : Nat) (o : Option T) : eVar (i + 1) (o :: ρ) Z = eVar i ρ Z := (rfl)
@[simp] theorem q_var1 (o : Option T) : eVar 1 (o :: ρ) Z = eVar 0 ρ Z := (rfl)
@[simp] theorem q_var2 (o : Option T) : eVar 2 (o :: ρ) Z = eVar 1 ρ Z := (rfl)
@[simp] theorem q_var3 (o : Option T) : eVar 3 (o :: ρ) Z = eVar 2 ρ Z := (rfl)
@[simp] theorem q_var4 (o : Option T) : eVar 4 (o :: ρ) Z = eVar 3 ρ Z := (rfl)
@[simp] theorem q_var5 (o : Option T) : eVar 5 (o :: ρ) Z = eVar 4 ρ Z := (rfl)
@[simp] theorem q_var6 (o : Option T) : eVar 6 (o :: ρ) Z = eVar 5 ρ Z := (rfl)
@[simp] theorem q_var7 (o : Option T) : eVar 7 (o :: ρ) Z = eVar 6 ρ Z := (rfl)
@[simp] theorem q_var8 (o : Option T) : eVar 8 (o :: ρ) Z = eVar 7 ρ Z := (rfl)
@[simp] theorem q_var9 (o : Option T) : eVar 9 (o :: ρ) Z = eVar 8 ρ Z := (rfl)
@[simp] theorem q_var10 (o : Option T) : eVar 10 (o :: ρ) Z = eVar 9 ρ Z := (rfl)
@[simp] theorem q_var11 (o : Option T) : eVar 11 (o :: ρ) Z = eVar 10 ρ Z := (rfl)
@[simp] theorem q_var12 (o : Option T) : eVar 12 (o :: ρ) Z = eVar 11 ρ Z := (rfl)
@[simp] theorem q_var13 (o : Option T) : eVar 13 (o :: ρ) Z = eVar 12 ρ Z := (rfl)
@[simp] theorem q_var14 (o : Option T) : eVar 14 (o :: ρ) Z = eVar 13 ρ Z := (rfl)
@[simp] theorem q_bin (g : T → T → Sto → Option (T × Sto)) (a b : FE) : eBin g a b ρ Z = (a ρ Z).bind fun x Z1 => (b ρ Z1).bind fun y Z2 => lift (g x y Z2) := (rfl)
@[simp] theorem q_un (g : T → Sto → Option (T × Sto)) (a : FE) : eUn g a ρ Z = (a ρ Z).bind fun x Z1 => lift (g x Z1) := (rfl)
@[simp] theorem q_if (c : FT) (a b : FE) : eIf c a b ρ Z = (c ρ Z).bind fun x Z1 => if x = true then a ρ Z1 else b ρ Z1 := (rfl)
@[simp] theorem q_nil : aNil ρ Z = .ok [] Z := (rfl)
@[simp] theorem q_cons (a : FE) (r : FA) : aCons a r ρ Z = (a ρ Z).bind fun x Z1 => (r ρ Z1).bind fun xs Z2 => .ok (x :: xs) Z2 := (rfl)
@[simp] theorem q_tru (f : FE) : eTru f ρ Z = (f ρ Z).bind fun x Z1 => match truth x Z1 with | some b => .ok b Z1 | none => .stuck := (rfl)
@[simp] theorem q_tAnd (a b : FT) : Fx.tAnd a b ρ Z = (a ρ Z).bind fun x Z1 => if x = true then b ρ Z1 else .ok false Z1 := (rfl)
@[simp] theorem q_tOr (a b : FT) : Fx.tOr a b ρ Z = (a ρ Z).bind fun x Z1 => if x = true then .ok true Z1 else b ρ Z1 := (rfl)
@[simp] theorem q_tNot (a : FT) : Fx.tNot a ρ Z = (a ρ Z).bind fun x Z1 => .ok (!x) Z1 := (rfl)
@[simp] theorem q_and (a b : FE) : eAnd a b ρ Z = (a ρ Z).bind fun x Z1 => match truth x Z1 with | some true => b ρ Z1 | some false => .ok x Z1 | none => .stuck := (rfl)
@[simp] theorem q_or (a b : FE) : eOr a b ρ Z = (a ρ Z).bind fun x Z1 => match truth x Z1 with | some true => .ok x Z1 | some false => b ρ Z1 | none => .stuck := (rfl)
@[simp] theorem q_not (a : FE) : eNot a ρ Z = (a ρ Z).bind fun x Z1 => match truth x Z1 with | some b => .ok (.bl (!b)) Z1 | none => .stuck := (rfl)
@[simp] theorem q_bl (f : FE) : eBl f ρ Z = (f ρ Z).bind fun x Z1 => match x with | .bl b => .ok b Z1 | _ => .stuck := (rfl)
@[simp] theorem q_chain (g g' : T → T → Sto → Option (T × Sto)) (a b c : FE) : eChain g g' a b c ρ Z = (a ρ Z).bind fun x Z1 => (b ρ Z1).bind fun y Z2 => (lift (g x y Z2)).bind fun z Z3 => match z with | .bl true => (c ρ Z3).bind fun w Z4 => lift (g' y w Z4) | .bl false => .ok (.bl false) Z3 | _ => .stuck := (rfl)
@[simp] theorem q_oNone : oNone ρ Z = .ok none Z := (rfl)
@[simp] theorem q_oSome (f : FE) : oSome f ρ Z = (f ρ Z).bind fun x Z1 => match x with | .int i => .ok (some i) Z1 | _ => .stuck := (rfl)
@[simp] theorem q_sl (f : FE) (lo hi : FO) : eSl f lo hi ρ Z = (f ρ Z).bind fun x Z1 => (lo ρ Z1).bind fun l Z2 => (hi ρ Z2).bind fun h Z3 => lift (gSl x l h Z3) := (rfl)
@[simp] theorem q_tup (f : FA) : eTup f ρ Z = (f ρ Z).bind fun xs Z1 => .ok (.tup xs) Z1 := (rfl)
@[simp] theorem q_lst (f : FA) : eLst f ρ Z = (f ρ Z).bind fun xs Z1 => .ok (.loc Z1.length) (Z1 ++ [.lst xs]) := (rfl)
@[simp] theorem q_call (F : FF) (ds : List T) (fa : FA) : eCall F ds fa ρ Z = (fa ρ Z).bind fun ts Z1 => F (ts ++ ds) Z1 := (rfl)
@[simp] theorem q_callB (g : List T → Sto → Option (T × Sto)) (fa : FA) : eCallB g fa ρ Z = (fa ρ Z).bind fun xs Z1 => lift (g xs Z1) := (rfl)
@[simp] theorem q_bm (n : String) (g : T → List T → Sto → Option (T × Sto)) (fo : FE) (fa : FA) : eBM n g fo fa ρ Z = (fo ρ Z).bind fun x Z1 => if isTy n x Z1 = true then (fa ρ Z1).bind fun xs Z2 => lift (g x xs Z2) else .stuck := (rfl)
@[simp] theorem q_dict0 : eDict0 ρ Z = .ok (.loc Z.length) (Z ++ [.dk []]) := (rfl)
@[simp] theorem q_yes : eYes ρ Z = .ok true Z := (rfl)
@[simp] theorem q_set (i : Nat) (f : FE) : sSet i f ρ Z = bS ρ (f ρ Z) fun x Z1 => .nx (ρ.set i (some x)) Z1 := (rfl)
@[simp] theorem q_ret (f : FE) : sRet f ρ Z = bS ρ (f ρ Z) fun x Z1 => .rt x Z1 := (rfl)
@[simp] theorem q_retN : sRetN ρ Z = .rt .non Z := (rfl)
@[simp] theorem q_drop (f : FE) : sDrop f ρ Z = bS ρ (f ρ Z) fun _ Z1 => .nx ρ Z1 := (rfl)
@[simp] theorem q_pass : sPass ρ Z = .nx ρ Z := (rfl)
@[simp] theorem q_brk : sBrk ρ Z = .bk ρ Z := (rfl)
@[simp] theorem q_cnt : sCnt ρ Z = .ct ρ Z := (rfl)
@[simp] theorem q_sIf (c : FT) (a b : FS) : sIf c a b ρ Z = bS ρ (c ρ Z) fun x Z1 => if x = true then a ρ Z1 else b ρ Z1 := (rfl)
@[simp] theorem q_bCons (a b : FS) : bCons a b ρ Z = seqS (a ρ Z) b := (rfl)
@[simp] theorem q_par (ix : List Nat) (f : FA) : sPar ix f ρ Z = bS ρ (f ρ Z) fun xs Z1 => .nx ((ix.zip xs).foldl (fun r p => r.set p.1 (some p.2)) ρ) Z1 := (rfl)
@[simp] theorem q_asg (f : FE) (g : FG) : sAsg f g ρ Z = bS ρ (f ρ Z) fun x Z1 => bS ρ (g x ρ Z1) fun ρ2 Z2 => .nx ρ2 Z2 := (rfl)
@[simp] theorem Zlx (i : Nat) (t : T) : gNm i t ρ Z = .ok (ρ.set i (some t)) Z := (rfl)
@[simp] theorem q_gsNil : gsNil [] ρ Z = .ok ρ Z := (rfl)
@[simp] theorem q_gsCons (g : FG) (r : FGs) (t : T) (ts : List T) : gsCons g r (t :: ts) ρ Z = (noX (g t ρ Z)).bind fun ρ1 Z1 => noX (r ts ρ1 Z1) := (rfl)
@[simp] theorem q_gTp (n : Nat) (r : FGs) (ts : List T) : gTp n r (.tup ts) ρ Z = if ts.length = n then r ts ρ Z else .stuck := (rfl)
@[simp] theorem q_gSubs (fo fi : FE) (t : T) : gSubs fo fi t ρ Z = (fo ρ Z).bind fun o Z1 => (fi ρ Z1).bind fun i Z2 => match gSetL o i t Z2 with | some Z3 => .ok ρ Z3 | none => .stuck := (rfl)
@[simp] theorem Zey (it : FI) (g : FG) (b : FS) : sFor it g b ρ Z = bS ρ (it ρ Z) fun j Z1 => loopN j (fun t ρ' Z' => bS ρ' (g t ρ' Z') b) Fuel 0 ρ Z1 := (rfl)
@[simp] theorem q_raise (nm f : PySem.Str) (ds : List T) (fa : FA) : sRaise nm f ds fa ρ Z = bS ρ (fa ρ Z) fun ts Z1 => match ts ++ ds with | [t] => .exc ⟨nm,[(f,t)]⟩ ρ Z1 | _ => .stuck := (rfl)
@[simp] theorem q_iAny (f : FE) : iAny f ρ Z = (f ρ Z).bind fun x Z1 => match x with | .frl ts => .ok (itSeq ts) Z1 | .loc i => (match getL Z1 i with | some _ => .ok (itLoc i) Z1 | none => .stuck) | .tup ts => .ok (itSeq ts) Z1 | .str l => .ok (itStr l) Z1 | _ => .stuck := (rfl)
@[simp] theorem q_iEnmA (f : FA) : iEnmA f ρ Z = (f ρ Z).bind fun xs Z1 => match xs with | [.frl ts] => .ok (itEnum (itSeq ts)) Z1 | [.loc i] => (match getL Z1 i with | some _ => .ok (itEnum (itLoc i)) Z1 | none => .stuck) | [.tup ts] => .ok (itEnum (itSeqX ts)) Z1 | [.str l] => .ok (itEnum (itStrX l)) Z1 | _ => .stuck := (rfl)
@[simp] theorem q_iRng (f : FA) : iRng f ρ Z = (f ρ Z).bind fun xs Z1 => rngOf xs Z1 := (rfl)
@[simp] theorem q_lc (vs js : List Nat) (it : FI) (c : FT) (e : FE) : eLc vs js it c e ρ Z = (it ρ Z).bind fun j Z1 => loopC j Z1.length (fun t => putN js t (wipeR ρ vs)) c e Fuel 0 (Z1 ++ [.lst []]) := (rfl)
@[simp] theorem q_xf (y : Ex) (f : PySem.Str) : eXf y f ρ Z = match y.fs.lookup f with | some t => .ok t Z | none => .stuck := (rfl)
end
@[simp] theorem Zdy {α : Type} (a : α) (Z : Sto) : noX (.ok a Z) = .ok a Z := (rfl)
@[simp] theorem t_bl (b : Bool) (Z : Sto) : truth (.bl b) Z = some b := (rfl)
@[simp] theorem t_int (i : Int) (Z : Sto) : truth (.int i) Z = some (i != 0) := (rfl)
@[simp] theorem t_non (Z : Sto) : truth .non Z = some false := (rfl)
@[simp] theorem t_tup (ts : List T) (Z : Sto) : truth (.tup ts) Z = some (!ts.isEmpty) := (rfl)
@[simp] theorem add_ii (i j : Int) (Z : Sto) : gAdd (.int i) (.int j) Z = some (.int (i + j),Z) := (rfl)
@[simp] theorem Va (a b : List Nat) (Z : Sto) : gAdd (.str a) (.str b) Z = if a.length + b.length ≤ Lim then some (.str (a ++ b),Z) else none := (rfl)
@[simp] theorem add_tt (a b : List T) (Z : Sto) : gAdd (.tup a) (.tup b) Z = if a.length + b.length ≤ Lim then some (.tup (a ++ b),Z) else none := (rfl)
@[simp] theorem Za0 (i j : Nat) (Z : Sto) : gAdd (.loc i) (.loc j) Z = match getL Z i,getL Z j with | some a,some b => if a.length + b.length ≤ Lim then some (.loc Z.length,Z ++ [.lst (a ++ b)]) else none | _,_ => none := (rfl)
@[simp] theorem iadd_ii (i j : Int) (Z : Sto) : gIAdd (.int i) (.int j) Z = some (.int (i + j),Z) := (rfl)
@[simp] theorem Zkg (a b : List Nat) (Z : Sto) : gIAdd (.str a) (.str b) Z = if a.length + b.length ≤ Lim then some (.str (a ++ b),Z) else none := (rfl)
@[simp] theorem sub_ii (i j : Int) (Z : Sto) : gSub (.int i) (.int j) Z = some (.int (i - j),Z) := (rfl)
@[simp] theorem mul_ii (i j : Int) (Z : Sto) : gMul (.int i) (.int j) Z = if mulOk i j = true then some (.int (i * j),Z) else none := (rfl)
@[simp] theorem Z5d (l : List Nat) (k : Int) (Z : Sto) : gMul (.str l) (.int k) Z = if -100000 ≤ k ∧ k ≤ 100000 ∧ l.length * k.toNat ≤ 100000 then some (.str (repL k.toNat l),Z) else none := (rfl)
@[simp] theorem mul_li (i : Nat) (k : Int) (Z : Sto) : gMul (.loc i) (.int k) Z = match getL Z i with | some a => if -100000 ≤ k ∧ k ≤ 100000 ∧ a.length * k.toNat ≤ Lim then some (.loc Z.length,Z ++ [.lst (List.replicate k.toNat a).flatten]) else none | _ => none := (rfl)
@[simp] theorem div_ii (i j : Int) (Z : Sto) : gDiv (.int i) (.int j) Z = if 0 < j ∧ j < 2 ^ 200 then some (.int (i / j),Z) else none := (rfl)
@[simp] theorem mod_ii (i j : Int) (Z : Sto) : gMod (.int i) (.int j) Z = if 0 < j then some (.int (i % j),Z) else none := (rfl)
@[simp] theorem pow_ii (i j : Int) (Z : Sto) : gPow (.int i) (.int j) Z = if 0 ≤ j ∧ j ≤ 1000000 ∧ i.natAbs < 2 ^ 64 then some (.int (i ^ j.toNat),Z) else none := (rfl)
@[simp] theorem neg_i (i : Int) (Z : Sto) : gNeg (.int i) Z = some (.int (-i),Z) := (rfl)
@[simp] theorem eq_ii (i j : Int) (Z : Sto) : gEq (.int i) (.int j) Z = some (.bl (decide (i = j)),Z) := (rfl)
@[simp] theorem eq_ss (i j : List Nat) (Z : Sto) : gEq (.str i) (.str j) Z = some (.bl (decide (i = j)),Z) := (rfl)
@[simp] theorem eq_bb (i j : Bool) (Z : Sto) : gEq (.bl i) (.bl j) Z = some (.bl (decide (i = j)),Z) := (rfl)
@[simp] theorem ne_ii (i j : Int) (Z : Sto) : gNe (.int i) (.int j) Z = some (.bl (!decide (i = j)),Z) := (rfl)
@[simp] theorem ne_ss (i j : List Nat) (Z : Sto) : gNe (.str i) (.str j) Z = some (.bl (!decide (i = j)),Z) := (rfl)
@[simp] theorem ne_bb (i j : Bool) (Z : Sto) : gNe (.bl i) (.bl j) Z = some (.bl (!decide (i = j)),Z) := (rfl)
@[simp] theorem lt_ii (i j : Int) (Z : Sto) : gLt (.int i) (.int j) Z = some (.bl (decide (i < j)),Z) := (rfl)
@[simp] theorem lt_ss (i j : List Nat) (Z : Sto) : gLt (.str i) (.str j) Z = some (.bl (decide (i < j)),Z) := (rfl)
@[simp] theorem le_ii (i j : Int) (Z : Sto) : gLe (.int i) (.int j) Z = some (.bl (decide (i ≤ j)),Z) := (rfl)
@[simp] theorem gt_ii (i j : Int) (Z : Sto) : gGt (.int i) (.int j) Z = some (.bl (decide (j < i)),Z) := (rfl)
@[simp] theorem ge_ii (i j : Int) (Z : Sto) : gGe (.int i) (.int j) Z = some (.bl (decide (j ≤ i)),Z) := (rfl)
@[simp] theorem is_n (x : T) (Z : Sto) : gIs x .non Z = some (.bl (isNon x),Z) := by cases x <;> rfl
@[simp] theorem isNot_n (x : T) (Z : Sto) : gIsNot x .non Z = some (.bl (!isNon x),Z) := by cases x <;> rfl
@[simp] theorem ix_tup (ts : List T) (i : Int) (Z : Sto) : gIx (.tup ts) (.int i) Z = (atI ts i).map fun t => (t,Z) := (rfl)
@[simp] theorem ix_frl (ts : List T) (i : Int) (Z : Sto) : gIx (.frl ts) (.int i) Z = (atI ts i).map fun t => (t,Z) := (rfl)
@[simp] theorem Zly (n : Nat) (i : Int) (Z : Sto) : gIx (.loc n) (.int i) Z = match getL Z n with | some ts => (atI ts i).map fun t => (t,Z) | none => none := by
  simp only [gIx,asSeq,asList,getL]
  all_goals (cases Z[n]? with
    | none => rfl
    | some o => cases o <;> rfl)
@[simp] theorem ix_str (l : List Nat) (i : Int) (Z : Sto) : gIx (.str l) (.int i) Z = if l.length ≤ Lim then (atI l i).map fun c => (.str [c],Z) else none := (rfl)
@[simp] theorem sl_s (l : List Nat) (lo hi : Option Int) (Z : Sto) : gSl (.str l) lo hi Z = if l.length ≤ Lim then some (.str (cutL l lo hi),Z) else none := (rfl)
@[simp] theorem sl_t (l : List T) (lo hi : Option Int) (Z : Sto) : gSl (.tup l) lo hi Z = some (.tup (cutL l lo hi),Z) := (rfl)
@[simp] theorem sl_f (l : List T) (lo hi : Option Int) (Z : Sto) : gSl (.frl l) lo hi Z = some (.loc Z.length,Z ++ [.lst (cutL l lo hi)]) := (rfl)
@[simp] theorem sl_l (n : Nat) (lo hi : Option Int) (Z : Sto) : gSl (.loc n) lo hi Z = match getL Z n with | some ts => some (.loc Z.length,Z ++ [.lst (cutL ts lo hi)]) | none => none := by
  simp only [gSl,asList,getL]
  all_goals (cases Z[n]? with
    | none => rfl
    | some o => cases o <;> rfl)
@[simp] theorem Z5e (l : List Nat) (Z : Sto) : gLen [.str l] Z = if l.length ≤ Lim then some (.int l.length,Z) else none := (rfl)
@[simp] theorem len_t (l : List T) (Z : Sto) : gLen [.tup l] Z = some (.int l.length,Z) := (rfl)
@[simp] theorem len_f (l : List T) (Z : Sto) : gLen [.frl l] Z = some (.int l.length,Z) := (rfl)
@[simp] theorem len_l (n : Nat) (Z : Sto) : gLen [.loc n] Z = match getL Z n with | some ts => some (.int ts.length,Z) | none => none := by
  simp only [gLen,asSeq,asList,getL]
  cases Z[n]? with
  | none => rfl
  | some o => cases o <;> rfl
@[simp] theorem Zlz (i j : Int) (Z : Sto) : gMax [.int i,.int j] Z = some (.int (if j > i then j else i),Z) := (rfl)
@[simp] theorem min_ii (i j : Int) (Z : Sto) : gMin [.int i,.int j] Z = some (.int (if j < i then j else i),Z) := (rfl)
@[simp] theorem int_i (i : Int) (Z : Sto) : gInt [.int i] Z = some (.int i,Z) := (rfl)
@[simp] theorem int_b (b : Bool) (Z : Sto) : gInt [.bl b] Z = some (.int (if b then 1 else 0),Z) := (rfl)
@[simp] theorem tuple_l (n : Nat) (Z : Sto) : gTuple [.loc n] Z = match getL Z n with | some ts => some (.tup ts,Z) | none => none := by
  simp only [gTuple,asList,getL]
  cases Z[n]? with
  | none => rfl
  | some o => cases o <;> rfl
@[simp] theorem app_l (n : Nat) (t : T) (Z : Sto) : gAppend (.loc n) [t] Z = match getL Z n with | some ts => if ts.length < Lim then some (.non,Z.set n (.lst (ts ++ [t]))) else none | none => none := (rfl)
@[simp] theorem set_l (n : Nat) (i : Int) (t : T) (Z : Sto) : gSetL (.loc n) (.int i) t Z = match getL Z n with | some ts => (ixN ts.length i).map fun m => Z.set n (.lst (ts.set m t)) | none => none := (rfl)
theorem Z36 {Z : Sto} {i : Nat} {ts : List T} : getL Z i = some ts ↔ Z[i]? = some (.lst ts) := ⟨Vh,fun h => by unfold getL; rw [h]⟩
@[simp] theorem Xe (Z : Sto) (ts : List T) : getL (Z ++ [.lst ts]) Z.length = some ts := by simp [getL]
theorem Q7 {Z Y : Sto} {i : Nat} {ts : List T} (h : getL Z i = some ts) : getL (Z ++ Y) i = some ts := by
  rw [Z36] at h ⊢
  rw [List.getElem?_append_left (List.getElem?_eq_some_iff.mp h).1]; exact h
theorem Z1q {Z : Sto} {i : Nat} {ts us : List T} (h : getL Z i = some ts) : getL (Z.set i (.lst us)) i = some us := by
  rw [Z36] at h ⊢
  rw [List.getElem?_set_self (List.getElem?_eq_some_iff.mp h).1]
theorem Zd2 {Z : Sto} {i j : Nat} {o : O} (h : i ≠ j) : getL (Z.set i o) j = getL Z j := by unfold getL; rw [List.getElem?_set_ne h]
theorem Zat {Z : Sto} {i : Nat} {ts : List T} (h : getL Z i = some ts) : i < Z.length := (List.getElem?_eq_some_iff.mp (Vh h)).1
@[simp] theorem isTy_s (l : List Nat) (Z : Sto) : isTy "str" (.str l) Z = true := (rfl)
@[simp] theorem atI_0 {α : Type} (a : α) (l : List α) : atI (a :: l) 0 = some a := by simp [atI,ixN]
@[simp] theorem atI_1 {α : Type} (a b : α) (l : List α) : atI (a :: b :: l) 1 = some b := by
  have h : (1 : Int) < ((a :: b :: l).length : Int) := by simp; omega
  simp only [atI,ixN]
  rw [if_pos (by decide),if_pos h]; rfl
@[simp] theorem atI_2 {α : Type} (a b c : α) (l : List α) : atI (a :: b :: c :: l) 2 = some c := by
  have h : (2 : Int) < ((a :: b :: c :: l).length : Int) := by simp; omega
  simp only [atI,ixN]
  rw [if_pos (by decide),if_pos h]; rfl
@[simp] theorem atI_3 {α : Type} (a b c d : α) (l : List α) : atI (a :: b :: c :: d :: l) 3 = some d := by
  have h : (3 : Int) < ((a :: b :: c :: d :: l).length : Int) := by simp; omega
  simp only [atI,ixN]
  rw [if_pos (by decide),if_pos h]; rfl
theorem atI_nat {α : Type} {l : List α} {k : Nat} {a : α} (h : l[k]? = some a) : atI l (k : Int) = some a := by
  have hk := (List.getElem?_eq_some_iff.mp h).1
  simp only [atI,ixN]
  rw [if_pos (Int.natCast_nonneg k),if_pos (by omega)]
  exact h
section
theorem kk (n : String) : True := trivial
@[simp] theorem kit_1 : kitB "int" "int" = some true := by decide +kernel
@[simp] theorem kit_2 : kitB "bool" "int" = some true := by decide +kernel
@[simp] theorem kit_3 : kitB "str" "int" = some false := by decide +kernel
@[simp] theorem kit_4 : kitB "NoneType" "int" = some false := by decide +kernel
@[simp] theorem kit_5 : kitB "tuple" "int" = some false := by decide +kernel
@[simp] theorem kit_6 : kitB "list" "int" = some false := by decide +kernel
@[simp] theorem kit_7 : kitB "dict" "int" = some false := by decide +kernel
@[simp] theorem kit_11 : kitB "int" "bool" = some false := by decide +kernel
@[simp] theorem kit_12 : kitB "bool" "bool" = some true := by decide +kernel
@[simp] theorem kit_13 : kitB "str" "bool" = some false := by decide +kernel
@[simp] theorem kit_14 : kitB "NoneType" "bool" = some false := by decide +kernel
@[simp] theorem kit_15 : kitB "tuple" "bool" = some false := by decide +kernel
@[simp] theorem kit_16 : kitB "list" "bool" = some false := by decide +kernel
@[simp] theorem kit_17 : kitB "dict" "bool" = some false := by decide +kernel
@[simp] theorem kit_21 : kitB "int" "str" = some false := by decide +kernel
@[simp] theorem kit_22 : kitB "bool" "str" = some false := by decide +kernel
@[simp] theorem kit_23 : kitB "str" "str" = some true := by decide +kernel
@[simp] theorem kit_24 : kitB "NoneType" "str" = some false := by decide +kernel
@[simp] theorem kit_25 : kitB "tuple" "str" = some false := by decide +kernel
@[simp] theorem kit_26 : kitB "list" "str" = some false := by decide +kernel
@[simp] theorem kit_27 : kitB "dict" "str" = some false := by decide +kernel
@[simp] theorem kit_31 : kitB "int" "tuple" = some false := by decide +kernel
@[simp] theorem kit_32 : kitB "bool" "tuple" = some false := by decide +kernel
@[simp] theorem kit_33 : kitB "str" "tuple" = some false := by decide +kernel
@[simp] theorem kit_34 : kitB "NoneType" "tuple" = some false := by decide +kernel
@[simp] theorem kit_35 : kitB "tuple" "tuple" = some true := by decide +kernel
@[simp] theorem kit_36 : kitB "list" "tuple" = some false := by decide +kernel
@[simp] theorem kit_37 : kitB "dict" "tuple" = some false := by decide +kernel
@[simp] theorem kit_41 : kitB "int" "list" = some false := by decide +kernel
@[simp] theorem kit_42 : kitB "bool" "list" = some false := by decide +kernel
@[simp] theorem kit_43 : kitB "str" "list" = some false := by decide +kernel
@[simp] theorem kit_44 : kitB "NoneType" "list" = some false := by decide +kernel
@[simp] theorem kit_45 : kitB "tuple" "list" = some false := by decide +kernel
@[simp] theorem kit_46 : kitB "list" "list" = some true := by decide +kernel
@[simp] theorem kit_47 : kitB "dict" "list" = some false := by decide +kernel
@[simp] theorem kit_51 : kitB "int" "dict" = some false := by decide +kernel
@[simp] theorem kit_52 : kitB "bool" "dict" = some false := by decide +kernel
@[simp] theorem kit_53 : kitB "str" "dict" = some false := by decide +kernel
@[simp] theorem kit_54 : kitB "NoneType" "dict" = some false := by decide +kernel
@[simp] theorem kit_55 : kitB "tuple" "dict" = some false := by decide +kernel
@[simp] theorem kit_56 : kitB "list" "dict" = some false := by decide +kernel
@[simp] theorem kit_57 : kitB "dict" "dict" = some true := by decide +kernel
end
@[simp] theorem ty_non (Z : Sto) : tyT .non Z = some "NoneType" := (rfl)
@[simp] theorem ty_bl (b : Bool) (Z : Sto) : tyT (.bl b) Z = some "bool" := (rfl)
@[simp] theorem ty_int (b : Int) (Z : Sto) : tyT (.int b) Z = some "int" := (rfl)
@[simp] theorem ty_str (b : List Nat) (Z : Sto) : tyT (.str b) Z = some "str" := (rfl)
@[simp] theorem ty_tup (b : List T) (Z : Sto) : tyT (.tup b) Z = some "tuple" := (rfl)
@[simp] theorem ty_frl (b : List T) (Z : Sto) : tyT (.frl b) Z = some "list" := (rfl)
@[simp] theorem isiB (t : T) (n : String) (Z : Sto) : gIsiB t (.ty n) Z = (tyT t Z).bind fun a => kitB a n := by
  simp only [gIsiB,clsT]
  cases tyT t Z <;> rfl
@[simp] theorem isi_1 (t : T) (n : String) (Z : Sto) : gIsi [t,.ty n] Z = ((tyT t Z).bind fun a => kitB a n).map fun b => (.bl b,Z) := by
  simp only [gIsi,isiB]
@[simp] theorem isi_2 (t : T) (n m : String) (Z : Sto) : gIsi [t,.tup [.ty n,.ty m]] Z = if (tyT t Z).isSome = true then (((tyT t Z).bind fun a => kitB a n).bind fun b => ((tyT t Z).bind fun a => kitB a m).map fun c => (.bl (b || c),Z)) else none := by
  simp only [gIsi,List.mapM_cons,List.mapM_nil,isiB]
  cases tyT t Z with
  | none => rfl
  | some a =>
    simp only [Option.bind_some,Option.isSome_some,if_true]
    cases kitB a n <;> cases kitB a m <;> simp
def loopF (body : T → FS) : List T → Env → Sto → RS
  | [],ρ,Z => .nx ρ Z
  | t :: ts, ρ, Z => seqL (body t ρ Z) fun ρ' Z' => loopF body ts ρ' Z'
theorem Zca (ts : List T) (body : T → FS) : ∀ (n k : Nat) (ρ : Env) (Z : Sto),ts.length < n + k → k ≤ ts.length → loopN (itSeq ts) body n k ρ Z = loopF body (ts.drop k) ρ Z
  | 0,k,ρ,Z,h,_ => by omega
  | n + 1,k,ρ,Z,h,_ => by
    unfold loopN
    simp only [itSeq]
    cases e : ts[k]? with
    | none =>
      rw [List.drop_of_length_le (List.getElem?_eq_none_iff.mp e)]; rfl
    | some t =>
      have hk := (List.getElem?_eq_some_iff.mp e).1
      rw [List.drop_eq_getElem_cons hk]
      have e2 : ts[k] = t := (List.getElem?_eq_some_iff.mp e).2
      rw [e2]
      simp only [loopF]
      congr 1
      funext ρ' Z'
      exact Zca ts body n (k + 1) ρ' Z' (by omega) hk
theorem Zcb (lo : Int) (m : Nat) (body : T → FS) : ∀ (n k : Nat) (ρ : Env) (Z : Sto), m < n + k → k ≤ m → loopN (itRng lo m) body n k ρ Z = loopF body ((List.range' k (m - k)).map fun (i : Nat) => T.int (lo + (i : Int))) ρ Z
  | 0,k,ρ,Z,h,_ => by omega
  | n + 1,k,ρ,Z,h,_ => by
    unfold loopN
    simp only [itRng]
    by_cases hk : k < m
    · rw [if_pos hk]
      have e : m - k = (m - (k + 1)) + 1 := by omega
      rw [e, List.range'_succ, List.map_cons]
      simp only [loopF]
      congr 1
      funext ρ' Z'
      exact Zcb lo m body n (k + 1) ρ' Z' (by omega) hk
    · rw [if_neg hk]
      have : m - k = 0 := by omega
      rw [this]; rfl
theorem Z7p {body : T → FS} {ts : List T} (I : List T → Env → Sto → Prop) (Rt : T → Sto → Prop) : ∀ {pre : List T} {post : List T} {ρ : Env} {Z : Sto},ts = pre ++ post → I pre ρ Z →
    (∀ pre x post ρ Z, ts = pre ++ x :: post → I pre ρ Z → (∃ ρ' Z', (body x ρ Z = .nx ρ' Z' ∨ body x ρ Z = .ct ρ' Z') ∧ I (pre ++ [x]) ρ' Z') ∨ (∃ t Z', body x ρ Z = .rt t Z' ∧ Rt t Z')) →
    (∃ ρ' Z', loopF body post ρ Z = .nx ρ' Z' ∧ I ts ρ' Z') ∨ (∃ t Z', loopF body post ρ Z = .rt t Z' ∧ Rt t Z') := by
  intro pre post
  induction post generalizing pre with
  | nil =>
    intro ρ Z e i _
    rw [List.append_nil] at e
    exact .inl ⟨ρ,Z,rfl,by rw [e]; exact i⟩
  | cons x post ih =>
    intro ρ Z e i h
    rcases h pre x post ρ Z e i with ⟨ρ', Z', hb, i'⟩ | ⟨t, Z', hb, hr⟩
    · have e2 : loopF body (x :: post) ρ Z = loopF body post ρ' Z' := by
        rcases hb with hb | hb <;> simp only [loopF,hb,Z5y,Zfn]
      rw [e2]
      exact ih (by rw [e, List.append_assoc]; rfl) i' h
    · refine .inr ⟨t, Z', ?_, hr⟩
      simp only [loopF,hb,Zju]
theorem Zgc {body : T → FS} {ts : List T} (I : List T → Env → Sto → Prop) {ρ : Env} {Z : Sto} (h0 : I [] ρ Z) (h : ∀ pre x post ρ Z, ts = pre ++ x :: post → I pre ρ Z → ∃ ρ' Z', (body x ρ Z = .nx ρ' Z' ∨ body x ρ Z = .ct ρ' Z') ∧ I (pre ++ [x]) ρ' Z') :
    ∃ ρ' Z', loopF body ts ρ Z = .nx ρ' Z' ∧ I ts ρ' Z' := by
  rcases Z7p I (fun _ _ => False) (pre := []) (post := ts) rfl h0 (fun pre x post ρ Z e i => .inl (h pre x post ρ Z e i)) with h | ⟨_,_,_,h⟩
  · exact h
  · exact h.elim
@[simp] theorem mulOk_r (i j : Int) (h1 : -(2 ^ 64) < j) (h2 : j < 2 ^ 64) : mulOk i j = true := by simp only [mulOk,decide_eq_true h1,decide_eq_true h2,Bool.and_true,Bool.or_true]
@[simp] theorem Zkh (i j : Int) (h1 : -(2 ^ 64) < i) (h2 : i < 2 ^ 64) : mulOk i j = true := by simp only [mulOk,decide_eq_true h1,decide_eq_true h2,Bool.and_true,Bool.true_or]
@[simp] theorem Za1 (x y m : Int) (h1 : 0 < m) (h2 : m ≤ 2 ^ 64) : mulOk (x % m) y = true := Zkh _ _ (by have := Int.emod_nonneg x (Int.ne_of_gt h1); omega) (by have := Int.emod_lt_of_pos x h1; omega)
@[simp] theorem ixN3_0 : ixN 3 0 = some 0 := (rfl)
@[simp] theorem ixN3_1 : ixN 3 1 = some 1 := (rfl)
@[simp] theorem ixN3_2 : ixN 3 2 = some 2 := (rfl)
theorem modN (x : Int) {n : Nat} (h : 0 < n) : ∃ r : Nat,r < n ∧ x % (n : Int) = (r : Int) :=
  ⟨(x % n).toNat,by have := Int.emod_lt_of_pos x (by omega : (0 : Int) < n); have := Int.emod_nonneg x (by omega : (n : Int) ≠ 0); omega,by have := Int.emod_nonneg x (by omega : (n : Int) ≠ 0); omega⟩
def StayL (i : Nat) (us : List T) (body : T → FS) : List T → Env → Sto → Prop
  | [],_,Z => getL Z i = some us
  | t :: r,ρ,Z => getL Z i = some us ∧ match body t ρ Z with
    | .nx ρ' Z' => StayL i us body r ρ' Z'
    | .ct ρ' Z' => StayL i us body r ρ' Z'
    | _ => True
theorem Z6c {i : Nat} {ts : List T} {body : T → FS} : ∀ (n k : Nat) (ρ : Env) (Z : Sto),ts.length < n + k → k ≤ ts.length → StayL i ts body (ts.drop k) ρ Z → loopN (itLoc i) body n k ρ Z = loopF body (ts.drop k) ρ Z
  | 0,k,ρ,Z,h,_,_ => by omega
  | n + 1,k,ρ,Z,h,_,hs => by
    unfold loopN
    cases e : ts[k]? with
    | none =>
      rw [List.drop_of_length_le (List.getElem?_eq_none_iff.mp e)] at hs ⊢
      simp only [itLoc,show getL Z i = some ts from hs,Option.map_some,e]; rfl
    | some t =>
      have hk := (List.getElem?_eq_some_iff.mp e).1
      have e2 : ts[k] = t := (List.getElem?_eq_some_iff.mp e).2
      rw [List.drop_eq_getElem_cons hk,e2] at hs ⊢
      obtain ⟨h1,h2⟩ := hs
      simp only [itLoc,h1,Option.map_some,e,loopF]
      cases eb : body t ρ Z with
      | nx ρ' Z' => rw [eb] at h2; simp only [Z5y]; exact Z6c n (k + 1) ρ' Z' (by omega) hk h2
      | ct ρ' Z' => rw [eb] at h2; simp only [Zfn]; exact Z6c n (k + 1) ρ' Z' (by omega) hk h2
      | _ => rfl
theorem Zez {i : Nat} {ts : List T} {body : T → FS} {ρ : Env} {Z : Sto} (h : ts.length ≤ Lim) (hs : StayL i ts body ts ρ Z) : loopN (itLoc i) body Fuel 0 ρ Z = loopF body ts ρ Z := by
  rw [Z4c]; exact Z6c (ts := ts) (Lim + 2) 0 ρ Z (by omega) (Nat.zero_le _) hs
theorem Zf0 {ts : List T} {body : T → FS} {ρ : Env} {Z : Sto} (h : ts.length ≤ Lim) : loopN (itSeq ts) body Fuel 0 ρ Z = loopF body ts ρ Z := by
  rw [Z4c]; exact Zca ts body (Lim + 2) 0 ρ Z (by omega) (Nat.zero_le _)
theorem Zf1 {lo : Int} {m : Nat} {body : T → FS} {ρ : Env} {Z : Sto} (h : m ≤ Lim) : loopN (itRng lo m) body Fuel 0 ρ Z = loopF body ((List.range m).map fun (i : Nat) => T.int (lo + (i : Int))) ρ Z := by
  rw [Z4c, Zcb lo m body (Lim + 2) 0 ρ Z (by omega) (Nat.zero_le _), Nat.sub_zero, List.range_eq_range']
end Fx
set_option maxHeartbeats 4000000
namespace Fx
open PySem PySem.Spec PyProof.Rows L2 SX Ap
def Wel (Z : Sto) (w : Nat) : Prop := ∃ a b c : Int,getL Z w = some [.int a,.int b,.int c]
structure Kp (w : Nat) (Z Z' : Sto) : Prop where
  wel : Wel Z' w
  len : Z.length ≤ Z'.length
  keep : ∀ i, i < Z.length → i ≠ w → Z'[i]? = Z[i]?
theorem Wel.lt {Z : Sto} {w : Nat} (h : Wel Z w) : w < Z.length := by obtain ⟨_,_,_,h⟩ := h; exact Zat h
theorem Kp.refl {w : Nat} {Z : Sto} (h : Wel Z w) : Kp w Z Z := ⟨h,Nat.le_refl _,fun _ _ _ => rfl⟩
theorem Kp.trans {w : Nat} {Z Z1 Z2 : Sto} (a : Kp w Z Z1) (b : Kp w Z1 Z2) : Kp w Z Z2 :=
  ⟨b.wel,Nat.le_trans a.len b.len,fun i hi hn => (b.keep i (Nat.lt_of_lt_of_le hi a.len) hn).trans (a.keep i hi hn)⟩
theorem Kp.new {w : Nat} {Z Y : Sto} (h : Wel Z w) : Kp w Z (Z ++ Y) := by
  refine ⟨?_,by rw [List.length_append]; omega,fun i hi _ => List.getElem?_append_left hi⟩
  obtain ⟨a,b,c,e⟩ := h
  exact ⟨a,b,c,Q7 e⟩
theorem Kp.turn {w : Nat} {Z : Sto} {a b c : Int} (h : Wel Z w) : Kp w Z (Z.set w (.lst [.int a,.int b,.int c])) := by
  obtain ⟨x,y,z,e⟩ := h
  exact ⟨⟨a,b,c,Z1q e⟩,by rw [List.length_set]; omega,fun i _ hn => List.getElem?_set_ne (Ne.symm hn)⟩
theorem Kp.set {w i : Nat} {Z : Sto} {o : O} (h : Wel Z w) (hi : i ≠ w) : Wel (Z.set i o) w := by
  obtain ⟨x,y,z,e⟩ := h
  exact ⟨x,y,z,by rw [Zd2 hi]; exact e⟩
theorem Kp.getL {w i : Nat} {Z Z' : Sto} {ts : List T} (k : Kp w Z Z') (hn : i ≠ w) (h : getL Z i = some ts) : getL Z' i = some ts := by
  rw [Z36] at h ⊢
  rw [k.keep i (List.getElem?_eq_some_iff.mp h).1 hn]; exact h
@[simp] theorem Zi9 (Z Y : Sto) (k : Nat) : getL (Z ++ Y) (Z.length + k) = getL Y k := by
  unfold getL
  rw [List.getElem?_append_right (by omega),Nat.add_sub_cancel_left]
@[simp] theorem Zm0 (Z Y : Sto) : getL (Z ++ Y) Z.length = getL Y 0 := Zi9 Z Y 0
@[simp] theorem getL_c0 (ts : List T) (Y : Sto) : getL (.lst ts :: Y) 0 = some ts := (rfl)
@[simp] theorem getL_cS (o : O) (Y : Sto) (k : Nat) : getL (o :: Y) (k + 1) = getL Y k := (rfl)
@[simp] theorem getL_c1 (o : O) (Y : Sto) : getL (o :: Y) 1 = getL Y 0 := (rfl)
@[simp] theorem getL_c2 (o : O) (Y : Sto) : getL (o :: Y) 2 = getL Y 1 := (rfl)
@[simp] theorem getL_c3 (o : O) (Y : Sto) : getL (o :: Y) 3 = getL Y 2 := (rfl)
@[simp] theorem getL_c4 (o : O) (Y : Sto) : getL (o :: Y) 4 = getL Y 3 := (rfl)
@[simp] theorem getL_c5 (o : O) (Y : Sto) : getL (o :: Y) 5 = getL Y 4 := (rfl)
@[simp] theorem getL_c6 (o : O) (Y : Sto) : getL (o :: Y) 6 = getL Y 5 := (rfl)
@[simp] theorem getL_c7 (o : O) (Y : Sto) : getL (o :: Y) 7 = getL Y 6 := (rfl)
@[simp] theorem getL_c8 (o : O) (Y : Sto) : getL (o :: Y) 8 = getL Y 7 := (rfl)
@[simp] theorem getL_c9 (o : O) (Y : Sto) : getL (o :: Y) 9 = getL Y 8 := (rfl)
@[simp] theorem getL_c10 (o : O) (Y : Sto) : getL (o :: Y) 10 = getL Y 9 := (rfl)
@[simp] theorem getL_c11 (o : O) (Y : Sto) : getL (o :: Y) 11 = getL Y 10 := (rfl)
@[simp] theorem getL_c12 (o : O) (Y : Sto) : getL (o :: Y) 12 = getL Y 11 := (rfl)
@[simp] theorem Zki (Z Y : Sto) (k : Nat) (o : O) : (Z ++ Y).set (Z.length + k) o = Z ++ Y.set k o := by
  rw [List.set_append_right _ _ (by omega),Nat.add_sub_cancel_left]
@[simp] theorem set_add0 (Z Y : Sto) (o : O) : (Z ++ Y).set Z.length o = Z ++ Y.set 0 o := Zki Z Y 0 o
@[simp] theorem Zia (n : String) (Z Y : Sto) (k : Nat) : isTy n (.loc (Z.length + k)) (Z ++ Y) = isTy n (.loc k) Y := by
  simp only [isTy]
  rw [List.getElem?_append_right (by omega),Nat.add_sub_cancel_left]
@[simp] theorem Zm1 (n : String) (Z Y : Sto) : isTy n (.loc Z.length) (Z ++ Y) = isTy n (.loc 0) Y := Zia n Z Y 0
@[simp] theorem Zkj (Z Y : Sto) (k : Nat) : tyT (.loc (Z.length + k)) (Z ++ Y) = tyT (.loc k) Y := by
  simp only [tyT]
  rw [List.getElem?_append_right (by omega),Nat.add_sub_cancel_left]
@[simp] theorem tyT_add0 (Z Y : Sto) : tyT (.loc Z.length) (Z ++ Y) = tyT (.loc 0) Y := Zkj Z Y 0
def OkW (r : R T) (P : T → Sto → Prop) : Prop := match r with
  | .ok t Z => P t Z
  | _ => False
@[simp] theorem okW_ok (t : T) (Z : Sto) (P : T → Sto → Prop) : OkW (.ok t Z) P = P t Z := (rfl)
theorem OkW.out {r : R T} {P : T → Sto → Prop} (h : OkW r P) : ∃ t Z,r = .ok t Z ∧ P t Z := by
  cases r with
  | ok t Z => exact ⟨t,Z,rfl,h⟩
  | _ => exact h.elim
@[simp] theorem lim_0 : (0 ≤ Lim) := by decide
@[simp] theorem limlt_0 : (0 < Lim) := by decide
@[simp] theorem lim_1 : (1 ≤ Lim) := by decide
@[simp] theorem limlt_1 : (1 < Lim) := by decide
@[simp] theorem lim_2 : (2 ≤ Lim) := by decide
@[simp] theorem limlt_2 : (2 < Lim) := by decide
@[simp] theorem lim_3 : (3 ≤ Lim) := by decide
@[simp] theorem limlt_3 : (3 < Lim) := by decide
@[simp] theorem lim_4 : (4 ≤ Lim) := by decide
@[simp] theorem limlt_4 : (4 < Lim) := by decide
@[simp] theorem lim_5 : (5 ≤ Lim) := by decide
@[simp] theorem limlt_5 : (5 < Lim) := by decide
@[simp] theorem lim_6 : (6 ≤ Lim) := by decide
@[simp] theorem limlt_6 : (6 < Lim) := by decide
@[simp] theorem lim_7 : (7 ≤ Lim) := by decide
@[simp] theorem limlt_7 : (7 < Lim) := by decide
@[simp] theorem lim_8 : (8 ≤ Lim) := by decide
@[simp] theorem limlt_8 : (8 < Lim) := by decide
@[simp] theorem lim_9 : (9 ≤ Lim) := by decide
@[simp] theorem limlt_9 : (9 < Lim) := by decide
@[simp] theorem lim_10 : (10 ≤ Lim) := by decide
@[simp] theorem limlt_10 : (10 < Lim) := by decide
@[simp] theorem lim_11 : (11 ≤ Lim) := by decide
@[simp] theorem limlt_11 : (11 < Lim) := by decide
@[simp] theorem lim_12 : (12 ≤ Lim) := by decide
@[simp] theorem limlt_12 : (12 < Lim) := by decide
@[simp] theorem lim_13 : (13 ≤ Lim) := by decide
@[simp] theorem limlt_13 : (13 < Lim) := by decide
@[simp] theorem lim_14 : (14 ≤ Lim) := by decide
@[simp] theorem limlt_14 : (14 < Lim) := by decide
@[simp] theorem lim_15 : (15 ≤ Lim) := by decide
@[simp] theorem limlt_15 : (15 < Lim) := by decide
@[simp] theorem lim_16 : (16 ≤ Lim) := by decide
@[simp] theorem limlt_16 : (16 < Lim) := by decide
@[simp] theorem lim_17 : (17 ≤ Lim) := by decide
@[simp] theorem limlt_17 : (17 < Lim) := by decide
@[simp] theorem lim_18 : (18 ≤ Lim) := by decide
@[simp] theorem limlt_18 : (18 < Lim) := by decide
@[simp] theorem lim_19 : (19 ≤ Lim) := by decide
@[simp] theorem limlt_19 : (19 < Lim) := by decide
@[simp] theorem lim_20 : (20 ≤ Lim) := by decide
@[simp] theorem limlt_20 : (20 < Lim) := by decide
@[simp] theorem lim_21 : (21 ≤ Lim) := by decide
@[simp] theorem limlt_21 : (21 < Lim) := by decide
@[simp] theorem lim_22 : (22 ≤ Lim) := by decide
@[simp] theorem limlt_22 : (22 < Lim) := by decide
@[simp] theorem lim_23 : (23 ≤ Lim) := by decide
@[simp] theorem limlt_23 : (23 < Lim) := by decide
@[simp] theorem lim_24 : (24 ≤ Lim) := by decide
@[simp] theorem limlt_24 : (24 < Lim) := by decide
@[simp] theorem lim_25 : (25 ≤ Lim) := by decide
@[simp] theorem limlt_25 : (25 < Lim) := by decide
@[simp] theorem lim_26 : (26 ≤ Lim) := by decide
@[simp] theorem limlt_26 : (26 < Lim) := by decide
@[simp] theorem lim_27 : (27 ≤ Lim) := by decide
@[simp] theorem limlt_27 : (27 < Lim) := by decide
@[simp] theorem lim_28 : (28 ≤ Lim) := by decide
@[simp] theorem limlt_28 : (28 < Lim) := by decide
@[simp] theorem lim_29 : (29 ≤ Lim) := by decide
@[simp] theorem limlt_29 : (29 < Lim) := by decide
@[simp] theorem lim_30 : (30 ≤ Lim) := by decide
@[simp] theorem limlt_30 : (30 < Lim) := by decide
@[simp] theorem lim_31 : (31 ≤ Lim) := by decide
@[simp] theorem limlt_31 : (31 < Lim) := by decide
@[simp] theorem lim_32 : (32 ≤ Lim) := by decide
@[simp] theorem limlt_32 : (32 < Lim) := by decide
@[simp] theorem lim_33 : (33 ≤ Lim) := by decide
@[simp] theorem limlt_33 : (33 < Lim) := by decide
@[simp] theorem lim_34 : (34 ≤ Lim) := by decide
@[simp] theorem limlt_34 : (34 < Lim) := by decide
@[simp] theorem lim_35 : (35 ≤ Lim) := by decide
@[simp] theorem limlt_35 : (35 < Lim) := by decide
@[simp] theorem lim_36 : (36 ≤ Lim) := by decide
@[simp] theorem limlt_36 : (36 < Lim) := by decide
@[simp] theorem lim_37 : (37 ≤ Lim) := by decide
@[simp] theorem limlt_37 : (37 < Lim) := by decide
@[simp] theorem lim_38 : (38 ≤ Lim) := by decide
@[simp] theorem limlt_38 : (38 < Lim) := by decide
@[simp] theorem lim_39 : (39 ≤ Lim) := by decide
@[simp] theorem limlt_39 : (39 < Lim) := by decide
@[simp] theorem lim_40 : (40 ≤ Lim) := by decide
@[simp] theorem limlt_40 : (40 < Lim) := by decide
@[simp] theorem lim_41 : (41 ≤ Lim) := by decide
@[simp] theorem limlt_41 : (41 < Lim) := by decide
@[simp] theorem lim_42 : (42 ≤ Lim) := by decide
@[simp] theorem limlt_42 : (42 < Lim) := by decide
@[simp] theorem lim_43 : (43 ≤ Lim) := by decide
@[simp] theorem limlt_43 : (43 < Lim) := by decide
@[simp] theorem lim_44 : (44 ≤ Lim) := by decide
@[simp] theorem limlt_44 : (44 < Lim) := by decide
@[simp] theorem lim_45 : (45 ≤ Lim) := by decide
@[simp] theorem limlt_45 : (45 < Lim) := by decide
@[simp] theorem lim_46 : (46 ≤ Lim) := by decide
@[simp] theorem limlt_46 : (46 < Lim) := by decide
@[simp] theorem lim_47 : (47 ≤ Lim) := by decide
@[simp] theorem limlt_47 : (47 < Lim) := by decide
@[simp] theorem lim_48 : (48 ≤ Lim) := by decide
@[simp] theorem limlt_48 : (48 < Lim) := by decide
@[simp] theorem isTy_c1 (n : String) (o : O) (Y : Sto) : isTy n (.loc 1) (o :: Y) = isTy n (.loc 0) Y := (rfl)
@[simp] theorem isTy_c2 (n : String) (o : O) (Y : Sto) : isTy n (.loc 2) (o :: Y) = isTy n (.loc 1) Y := (rfl)
@[simp] theorem isTy_c3 (n : String) (o : O) (Y : Sto) : isTy n (.loc 3) (o :: Y) = isTy n (.loc 2) Y := (rfl)
@[simp] theorem isTy_c4 (n : String) (o : O) (Y : Sto) : isTy n (.loc 4) (o :: Y) = isTy n (.loc 3) Y := (rfl)
@[simp] theorem isTy_c5 (n : String) (o : O) (Y : Sto) : isTy n (.loc 5) (o :: Y) = isTy n (.loc 4) Y := (rfl)
@[simp] theorem isTy_c6 (n : String) (o : O) (Y : Sto) : isTy n (.loc 6) (o :: Y) = isTy n (.loc 5) Y := (rfl)
@[simp] theorem isTy_c7 (n : String) (o : O) (Y : Sto) : isTy n (.loc 7) (o :: Y) = isTy n (.loc 6) Y := (rfl)
@[simp] theorem isTy_c8 (n : String) (o : O) (Y : Sto) : isTy n (.loc 8) (o :: Y) = isTy n (.loc 7) Y := (rfl)
@[simp] theorem isTy_c9 (n : String) (o : O) (Y : Sto) : isTy n (.loc 9) (o :: Y) = isTy n (.loc 8) Y := (rfl)
@[simp] theorem isTy_c10 (n : String) (o : O) (Y : Sto) : isTy n (.loc 10) (o :: Y) = isTy n (.loc 9) Y := (rfl)
@[simp] theorem isTy_c11 (n : String) (o : O) (Y : Sto) : isTy n (.loc 11) (o :: Y) = isTy n (.loc 10) Y := (rfl)
@[simp] theorem isTy_c12 (n : String) (o : O) (Y : Sto) : isTy n (.loc 12) (o :: Y) = isTy n (.loc 11) Y := (rfl)
@[simp] theorem tyT_c1 (o : O) (Y : Sto) : tyT (.loc 1) (o :: Y) = tyT (.loc 0) Y := (rfl)
@[simp] theorem tyT_c2 (o : O) (Y : Sto) : tyT (.loc 2) (o :: Y) = tyT (.loc 1) Y := (rfl)
@[simp] theorem tyT_c3 (o : O) (Y : Sto) : tyT (.loc 3) (o :: Y) = tyT (.loc 2) Y := (rfl)
@[simp] theorem tyT_c4 (o : O) (Y : Sto) : tyT (.loc 4) (o :: Y) = tyT (.loc 3) Y := (rfl)
@[simp] theorem tyT_c5 (o : O) (Y : Sto) : tyT (.loc 5) (o :: Y) = tyT (.loc 4) Y := (rfl)
@[simp] theorem tyT_c6 (o : O) (Y : Sto) : tyT (.loc 6) (o :: Y) = tyT (.loc 5) Y := (rfl)
@[simp] theorem tyT_c7 (o : O) (Y : Sto) : tyT (.loc 7) (o :: Y) = tyT (.loc 6) Y := (rfl)
@[simp] theorem tyT_c8 (o : O) (Y : Sto) : tyT (.loc 8) (o :: Y) = tyT (.loc 7) Y := (rfl)
@[simp] theorem tyT_c9 (o : O) (Y : Sto) : tyT (.loc 9) (o :: Y) = tyT (.loc 8) Y := (rfl)
@[simp] theorem tyT_c10 (o : O) (Y : Sto) : tyT (.loc 10) (o :: Y) = tyT (.loc 9) Y := (rfl)
@[simp] theorem tyT_c11 (o : O) (Y : Sto) : tyT (.loc 11) (o :: Y) = tyT (.loc 10) Y := (rfl)
@[simp] theorem tyT_c12 (o : O) (Y : Sto) : tyT (.loc 12) (o :: Y) = tyT (.loc 11) Y := (rfl)
@[simp] theorem isTy_c0 (ts : List T) (Y : Sto) : isTy "list" (.loc 0) (.lst ts :: Y) = true := (rfl)
@[simp] theorem tyT_c0 (ts : List T) (Y : Sto) : tyT (.loc 0) (.lst ts :: Y) = some "list" := (rfl)
@[simp] theorem tyT_c0k (ts : List (Key × T)) (Y : Sto) : tyT (.loc 0) (.dk ts :: Y) = some "dict" := (rfl)
abbrev StepI (body : T → FS) (ts : List T) (I : List T → Env → Sto → Prop) (Rt : T → Sto → Prop) : Prop :=
  ∀ pre x post ρ Z, ts = pre ++ x :: post → I pre ρ Z → (∃ ρ' Z', (body x ρ Z = .nx ρ' Z' ∨ body x ρ Z = .ct ρ' Z') ∧ I (pre ++ [x]) ρ' Z') ∨ (∃ t Z', body x ρ Z = .rt t Z' ∧ Rt t Z')
theorem Zdz {i : Nat} {ts : List T} {body : T → FS} {I : List T → Env → Sto → Prop} {Rt : T → Sto → Prop} (hI : ∀ pre ρ Z,I pre ρ Z → getL Z i = some ts) (h : StepI body ts I Rt) : ∀ (post : List T) {pre : List T} {ρ : Env} {Z : Sto},ts = pre ++ post → I pre ρ Z → StayL i ts body post ρ Z
  | [],pre,ρ,Z,e,k => hI _ _ _ k
  | x :: post,pre,ρ,Z,e,k => by
    refine ⟨hI _ _ _ k,?_⟩
    rcases h pre x post ρ Z e k with ⟨ρ', Z', hb, k'⟩ | ⟨t, Z', hb, _⟩
    · have := Zdz hI h post (by rw [e, List.append_assoc]; rfl) k'
      rcases hb with hb | hb <;> rw [hb] <;> exact this
    · rw [hb]; trivial
theorem Zgd {i : Nat} {ts : List T} {body : T → FS} {ρ : Env} {Z : Sto} (I : List T → Env → Sto → Prop) (Rt : T → Sto → Prop) (hl : ts.length ≤ Lim) (hI : ∀ pre ρ Z,I pre ρ Z → getL Z i = some ts) (h0 : I [] ρ Z) (h : StepI body ts I Rt) :
    (∃ ρ' Z', loopN (itLoc i) body Fuel 0 ρ Z = .nx ρ' Z' ∧ I ts ρ' Z') ∨ (∃ t Z', loopN (itLoc i) body Fuel 0 ρ Z = .rt t Z' ∧ Rt t Z') := by
  rw [Zez hl (Zdz hI h ts rfl h0)]
  exact Z7p I Rt (pre := []) rfl h0 h
theorem Zge {ts : List T} {body : T → FS} {ρ : Env} {Z : Sto} (I : List T → Env → Sto → Prop) (Rt : T → Sto → Prop) (hl : ts.length ≤ Lim) (h0 : I [] ρ Z) (h : StepI body ts I Rt) :
    (∃ ρ' Z', loopN (itSeq ts) body Fuel 0 ρ Z = .nx ρ' Z' ∧ I ts ρ' Z') ∨ (∃ t Z', loopN (itSeq ts) body Fuel 0 ρ Z = .rt t Z' ∧ Rt t Z') := by
  rw [Zf0 hl]
  exact Z7p I Rt (pre := []) rfl h0 h
theorem Zgf {i : Nat} {ts : List T} {body : T → FS} {ρ : Env} {Z : Sto} (I : Env → Sto → Prop) (hl : ts.length ≤ Lim) (hI : ∀ ρ Z, I ρ Z → getL Z i = some ts) (h0 : I ρ Z) (h : ∀ x ∈ ts, ∀ ρ Z, I ρ Z → ∃ ρ' Z', body x ρ Z = .nx ρ' Z' ∧ I ρ' Z') :
    ∃ ρ' Z', loopN (itLoc i) body Fuel 0 ρ Z = .nx ρ' Z' ∧ I ρ' Z' := by
  rcases Zgd (ts := ts) (fun _ => I) (fun _ _ => False) hl (fun _ => hI) h0 (fun pre x post ρ Z e k => by
    obtain ⟨ρ', Z', hb, k'⟩ := h x (by rw [e]; simp) ρ Z k
    exact .inl ⟨ρ', Z', .inl hb, k'⟩) with r | ⟨_, _, _, r⟩
  · exact r
  · exact r.elim
theorem Zcc {ts : List T} {body : T → FS} {ρ : Env} {Z : Sto} (I : Env → Sto → Prop) (hl : ts.length ≤ Lim) (h0 : I ρ Z) (h : ∀ x ∈ ts, ∀ ρ Z, I ρ Z → ∃ ρ' Z', body x ρ Z = .nx ρ' Z' ∧ I ρ' Z') :
    ∃ ρ' Z', loopN (itSeq ts) body Fuel 0 ρ Z = .nx ρ' Z' ∧ I ρ' Z' := by
  rcases Zge (ts := ts) (fun _ => I) (fun _ _ => False) hl h0 (fun pre x post ρ Z e k => by
    obtain ⟨ρ', Z', hb, k'⟩ := h x (by rw [e]; simp) ρ Z k
    exact .inl ⟨ρ', Z', .inl hb, k'⟩) with r | ⟨_, _, _, r⟩
  · exact r
  · exact r.elim
theorem Zgg {m : Nat} {body : T → FS} {ρ : Env} {Z : Sto} (I : Env → Sto → Prop) (hl : m ≤ Lim) (h0 : I ρ Z) (h : ∀ k < m, ∀ ρ Z, I ρ Z → ∃ ρ' Z', body (.int (k : Int)) ρ Z = .nx ρ' Z' ∧ I ρ' Z') :
    ∃ ρ' Z', loopN (itRng 0 m) body Fuel 0 ρ Z = .nx ρ' Z' ∧ I ρ' Z' := by
  rw [Zf1 hl]
  refine Zgc (fun _ => I) h0 fun pre x post ρ Z e k => ?_
  have hx : x ∈ (List.range m).map fun (i : Nat) => T.int ((0 : Int) + (i : Int)) := by rw [e]; simp
  obtain ⟨j,hj,rfl⟩ := List.mem_map.mp hx
  obtain ⟨ρ', Z', hb, k'⟩ := h j (List.mem_range.mp hj) ρ Z k
  refine ⟨ρ', Z', .inl ?_, k'⟩
  rw [Int.zero_add]; exact hb
end Fx
set_option maxHeartbeats 4000000
namespace Fx
open PySem PySem.Spec PyProof.Rows L2 SX Ap
theorem Z6d {it : ItF} {D : Nat} {put : T → Option Env} {c : FT} {e : FE} {ts : List T} (I : List T → List T → Sto → Prop) (hit : ∀ pre acc Z,pre.length ≤ ts.length → I pre acc Z → it pre.length Z = some ts[pre.length]?) (hI : ∀ pre acc Z,I pre acc Z → getL Z D = some acc)
    (h : ∀ pre x post acc Z,ts = pre ++ x :: post → I pre acc Z → ∃ ρ,put x = some ρ ∧ ((∃ Z1,c ρ Z = .ok false Z1 ∧ I (pre ++ [x]) acc Z1) ∨ ∃ Z1 y Z2,c ρ Z = .ok true Z1 ∧ e ρ Z1 = .ok y Z2 ∧ getL Z2 D = some acc ∧ I (pre ++ [x]) (acc ++ [y]) (Z2.set D (.lst (acc ++ [y]))))) :
    ∀ (post pre acc : List T) (Z : Sto) (n : Nat), ts = pre ++ post → ts.length < n + pre.length → acc.length + post.length ≤ Lim → I pre acc Z → ∃ acc' Z', loopC it D put c e n pre.length Z = .ok (.loc D) Z' ∧ I ts acc' Z'
  | [],pre,acc,Z,n,et,hn,hl,hi => by
    rw [List.append_nil] at et
    subst et
    cases n with
    | zero => omega
    | succ n =>
      refine ⟨acc,Z,?_,hi⟩
      unfold loopC
      rw [hit _ _ _ (Nat.le_refl _) hi,List.getElem?_eq_none (Nat.le_refl _)]
  | x :: post,pre,acc,Z,n,et,hn,hl,hi => by
    cases n with
    | zero =>
      have : ts.length = pre.length + (post.length + 1) := by rw [et,List.length_append,List.length_cons]
      omega
    | succ n =>
      have hlen : ts.length = pre.length + (post.length + 1) := by rw [et,List.length_append,List.length_cons]
      have hx : ts[pre.length]? = some x := by rw [et,List.getElem?_append_right (Nat.le_refl _),Nat.sub_self]; rfl
      obtain ⟨ρ,hp,hh⟩ := h pre x post acc Z et hi
      have et2 : ts = (pre ++ [x]) ++ post := by rw [et,List.append_assoc]; rfl
      have hl2 : (pre ++ [x]).length = pre.length + 1 := by rw [List.length_append]; rfl
      unfold loopC
      rw [hit _ _ _ (by omega) hi,hx]
      simp only [hp]
      rcases hh with ⟨Z1,hc,i1⟩ | ⟨Z1,y,Z2,hc,he,hg,i1⟩
      · rw [hc]
        simp only [Zdy,Yy,Bool.false_eq_true,if_false]
        rw [List.length_cons] at hl
        have := Z6d I hit hI h post (pre ++ [x]) acc Z1 n et2 (by omega) (by omega) i1
        rw [hl2] at this
        exact this
      · rw [hc]
        rw [List.length_cons] at hl
        simp only [Zdy,Yy,if_true,he,hg]
        rw [if_pos (by omega)]
        have := Z6d I hit hI h post (pre ++ [x]) (acc ++ [y]) _ n et2 (by omega) (by rw [List.length_append,List.length_singleton]; omega) i1
        rw [hl2] at this
        exact this
theorem Zgh {it : ItF} {D : Nat} {put : T → Option Env} {c : FT} {e : FE} {ts : List T} (hit : ∀ k Z,k ≤ ts.length → it k Z = some ts[k]?) (I : List T → List T → Sto → Prop) (hI : ∀ pre acc Z,I pre acc Z → getL Z D = some acc)
    (h : ∀ pre x post acc Z, ts = pre ++ x :: post → I pre acc Z → ∃ ρ, put x = some ρ ∧ ((∃ Z1, c ρ Z = .ok false Z1 ∧ I (pre ++ [x]) acc Z1) ∨ ∃ Z1 y Z2, c ρ Z = .ok true Z1 ∧ e ρ Z1 = .ok y Z2 ∧ getL Z2 D = some acc ∧ I (pre ++ [x]) (acc ++ [y]) (Z2.set D (.lst (acc ++ [y]))))) (post pre acc : List T) (Z : Sto) (n : Nat) (e1 : ts = pre ++ post) (e2 : ts.length < n + pre.length) (e3 : acc.length + post.length ≤ Lim) (e4 : I pre acc Z) : ∃ acc' Z', loopC it D put c e n pre.length Z = .ok (.loc D) Z' ∧ I ts acc' Z' :=
  Z6d I (fun pre acc Z hl _ => hit _ _ hl) hI h post pre acc Z n e1 e2 e3 e4
theorem Zf2 {it : ItF} {put : T → Option Env} {c : FT} {e : FE} {ts : List T} {Z1 : Sto} (hit : ∀ k Z,k ≤ ts.length → it k Z = some ts[k]?) (hl : ts.length ≤ Lim) (p : T → Bool) (f : T → T)
    (h : ∀ x ∈ ts,∃ ρ,put x = some ρ ∧ ∀ acc,c ρ (Z1 ++ [.lst acc]) = .ok (p x) (Z1 ++ [.lst acc]) ∧ (p x = true → e ρ (Z1 ++ [.lst acc]) = .ok (f x) (Z1 ++ [.lst acc]))) :
    loopC it Z1.length put c e Fuel 0 (Z1 ++ [.lst []]) = .ok (.loc Z1.length) (Z1 ++ [.lst ((ts.filter p).map f)]) := by
  obtain ⟨acc, Z', e1, rfl, rfl⟩ := Zgh hit (D := Z1.length) (put := put) (c := c) (e := e) (fun pre acc Z => acc = (pre.filter p).map f ∧ Z = Z1 ++ [.lst acc]) (fun pre acc Z h => by obtain ⟨_, rfl⟩ := h; exact Xe _ _) (fun pre x post acc Z et hi => by
    obtain ⟨rfl,rfl⟩ := hi
    obtain ⟨ρ,hp,hc⟩ := h x (by rw [et]; simp)
    refine ⟨ρ,hp,?_⟩
    cases hx : p x with
    | false => exact .inl ⟨_,by rw [(hc _).1,hx],by simp [List.filter_append,hx]⟩
    | true => exact .inr ⟨_,f x,_,by rw [(hc _).1,hx],(hc _).2 hx,Xe _ _,by simp [List.filter_append,hx]⟩) ts [] [] (Z1 ++ [.lst []]) Fuel rfl (by rw [Z4c]; simp; omega) (by simpa using hl) ⟨rfl,rfl⟩
  exact e1
theorem Jj (i : Nat) (Z : Sto) : asList (.loc i) Z = getL Z i := by
  simp only [asList,getL]
  all_goals (cases Z[i]? with
    | none => rfl
    | some o => cases o <;> rfl)
@[simp] theorem all_l (n : Nat) (Z : Sto) : gAll [.loc n] Z = (getL Z n).bind fun ts => (bools ts).map fun bs => (.bl (bs.all id),Z) := by
  simp only [gAll,Jj]
@[simp] theorem any_l (n : Nat) (Z : Sto) : gAny [.loc n] Z = (getL Z n).bind fun ts => (bools ts).map fun bs => (.bl (bs.any id),Z) := by
  simp only [gAny,Jj]
theorem Z7q {α : Type} (f : α → Bool) : ∀ l : List α,bools (l.map fun x => .bl (f x)) = some (l.map f)
  | [] => rfl
  | x :: l => by simp [bools,Z7q f l]
theorem Zcd : ∀ ys : List (List Nat),(ys.map T.str).mapM asStr = some ys
  | [] => rfl
  | y :: ys => by rw [List.map_cons,List.mapM_cons,Zcd ys]; rfl
theorem Ze0 {a : List Nat} {n : Nat} {ys : List (List Nat)} {Z : Sto} (h : getL Z n = some (ys.map .str)) (hl : sumL ys + ys.length * a.length ≤ Lim) : gJoin (.str a) [.loc n] Z = some (.str (TL.joinL a ys),Z) := by
  have e : (asSeq (.loc n) Z).bind (fun ts => ts.mapM asStr) = some ys := by
    have : asSeq (.loc n) Z = asList (.loc n) Z := rfl
    rw [this,Jj,h,Option.bind_some,Zcd]
  simp only [gJoin,e,if_pos hl]
@[simp] theorem str_i (i : Int) (Z : Sto) : gStr [.int i] Z = if i.natAbs < 10 ^ 4300 then some (.str (dec i),Z) else none := (rfl)
@[simp] theorem abs_i (i : Int) (Z : Sto) : gAbs [.int i] Z = some (.int (if i < 0 then -i else i),Z) := (rfl)
@[simp] theorem intT_i (i : Int) (Z : Sto) : gIntT [.int i] Z = some (.int i,Z) := (rfl)
@[simp] theorem intT_b (b : Bool) (Z : Sto) : gIntT [.bl b] Z = some (.int (if b then 1 else 0),Z) := (rfl)
@[simp] theorem intT_s (l : List Nat) (Z : Sto) : gIntT [.str l] Z = if l.all (· < 128) = true ∧ l.length ≤ 100000 then (PySem.intText? (S l)).map fun n => (.int n,Z) else none := (rfl)
@[simp] theorem sw_s (a b : List Nat) (Z : Sto) : gStarts (.str a) [.str b] Z = some (.bl (b.isPrefixOf a),Z) := (rfl)
@[simp] theorem in_cs (c : Nat) (l : List Nat) (Z : Sto) : gIn (.str [c]) (.str l) Z = some (.bl (decide (c ∈ l)),Z) := (rfl)
@[simp] theorem nin_cs (c : Nat) (l : List Nat) (Z : Sto) : gNotIn (.str [c]) (.str l) Z = some (.bl (!decide (c ∈ l)),Z) := (rfl)
@[simp] theorem q_callK (F : FF) (g : List T → List T) (fa : FA) (ρ : Env) (Z : Sto) : eCallK F g fa ρ Z = (fa ρ Z).bind fun ts Z1 => F (g ts) Z1 := (rfl)
theorem Zgi (x : T) (ts : List T) (Z : Sto) : gInB x (.tup ts) Z = if flatT x = true ∧ ts.all flatT = true then some (inT x ts) else none := by
  cases x with
  | str l => match l with
    | [] => rfl
    | [_] => rfl
    | _ :: _ :: _ => rfl
  | _ => rfl
@[simp] theorem in_tup (x : T) (ts : List T) (Z : Sto) : gIn x (.tup ts) Z = if flatT x = true ∧ ts.all flatT = true then some (.bl (inT x ts),Z) else none := by
  simp only [gIn,Zgi]
  split <;> rfl
@[simp] theorem nin_tup (x : T) (ts : List T) (Z : Sto) : gNotIn x (.tup ts) Z = if flatT x = true ∧ ts.all flatT = true then some (.bl (!inT x ts),Z) else none := by
  simp only [gNotIn,Zgi]
  split <;> rfl
theorem Kp.put {w D : Nat} {Z Z' : Sto} {o : O} (k : Kp w Z Z') (hD : Z.length ≤ D) (hw : w < Z.length) : Kp w Z (Z'.set D o) :=
  ⟨Kp.set k.wel (by omega),by rw [List.length_set]; exact k.len,fun i hi hn => by rw [List.getElem?_set_ne (by omega)]; exact k.keep i hi hn⟩
theorem Xg (a b : List Nat) (Z : Sto) (h : a.length + b.length ≤ Lim) : gAdd (.str a) (.str b) Z = some (.str (a ++ b),Z) := if_pos h
theorem Zd3 (i j : Nat) (Z : Sto) {a b : List T} (h1 : getL Z i = some a) (h2 : getL Z j = some b) (h : a.length + b.length ≤ Lim) : gAdd (.loc i) (.loc j) Z = some (.loc Z.length,Z ++ [.lst (a ++ b)]) := by rw [Za0,h1,h2]; exact if_pos h
theorem Zib (a b : List Nat) (Z : Sto) (h : a.length + b.length ≤ Lim) : gIAdd (.str a) (.str b) Z = some (.str (a ++ b),Z) := if_pos h
theorem Zic (l : List Nat) (lo hi : Option Int) (Z : Sto) (h : l.length ≤ Lim) : gSl (.str l) lo hi Z = some (.str (cutL l lo hi),Z) := if_pos h
theorem Zkk (c : Nat) (k : Int) (Z : Sto) (h : -100000 ≤ k ∧ k ≤ 100000) : gMul (.str [c]) (.int k) Z = some (.str (List.replicate k.toNat c),Z) := by
  rw [Z5d,if_pos ⟨h.1,h.2,by simp only [List.length_singleton]; omega⟩,Zho]
end Fx
set_option maxHeartbeats 4000000
namespace Fx
open PySem PySem.Spec PyProof.Rows L2 SX
section
variable (ρ : Env) (Z : Sto)
@[simp] theorem q_callN (F : FF) (g : List T → List T → List T) (fa fk : FA) : eCallN F g fa fk ρ Z = (fa ρ Z).bind fun ts Z1 => (fk ρ Z1).bind fun us Z2 => F (g ts us) Z2 := (rfl)
@[simp] theorem q_lam (F : (Sto → R T) → T → FF) (fb : FE) (fa : FA) : eLam F fb fa ρ Z = (fa ρ Z).bind fun ts Z1 => F (fun Z' => fb ρ Z') .non (.non :: ts) Z1 := (rfl)
@[simp] theorem q_ask0 (fl : Sto → R T) (lv : T) : eAsk fl lv 0 (some lv :: ρ) Z = fl Z := by
  unfold eAsk
  exact if_pos rfl
@[simp] theorem q_kdIx (l : List (List Nat × List Nat)) (fe : FE) : eKdIx l fe ρ Z = (fe ρ Z).bind fun x Z1 => match kdGet l x with | some v => .ok (.str v) Z1 | none => .stuck := (rfl)
@[simp] theorem Zm2 (l : List (List Nat × List Nat)) : iKdItems l ρ Z = .ok (itSeq (l.map fun x => .tup [.str x.1,.str x.2])) Z := (rfl)
end
@[simp] theorem pick_nil {α : Type} (l : List α) : pick [] l = [] := (rfl)
@[simp] theorem pick_c0 {α : Type} (ix : List Nat) (a : α) (l : List α) : pick (0 :: ix) (a :: l) = a :: pick ix (a :: l) := (rfl)
@[simp] theorem ne_nn (Z : Sto) : gNe .non .non Z = some (.bl false,Z) := (rfl)
@[simp] theorem eq_nn (Z : Sto) : gEq .non .non Z = some (.bl true,Z) := (rfl)
@[simp] theorem eq_ns (l : List Nat) (Z : Sto) : gEq .non (.str l) Z = some (.bl false,Z) := (rfl)
@[simp] theorem eq_sn (l : List Nat) (Z : Sto) : gEq (.str l) .non Z = some (.bl false,Z) := (rfl)
@[simp] theorem ne_ns (l : List Nat) (Z : Sto) : gNe .non (.str l) Z = some (.bl true,Z) := (rfl)
@[simp] theorem ne_sn (l : List Nat) (Z : Sto) : gNe (.str l) .non Z = some (.bl true,Z) := (rfl)
end Fx
set_option maxHeartbeats 4000000
namespace Fx
open PySem PySem.Spec PyProof.Rows L2 SX Ap
theorem Zgj {Z : Sto} {i : Nat} {ts : List T} (h : getL Z i = some ts) : getDK Z i = none := by
  unfold getDK
  rw [Z36.mp h]
@[simp] theorem Zce (l : List Nat) (y : T) (Z : Sto) : gIxW (.str l) y Z = gIx (.str l) y Z := (rfl)
@[simp] theorem Zd4 (l : List T) (y : T) (Z : Sto) : gIxW (.tup l) y Z = gIx (.tup l) y Z := (rfl)
@[simp] theorem ixW_f (l : List T) (y : T) (Z : Sto) : gIxW (.frl l) y Z = gIx (.frl l) y Z := (rfl)
theorem ixW_l {Z : Sto} {i : Nat} {ts : List T} (y : T) (h : getL Z i = some ts) : gIxW (.loc i) y Z = gIx (.loc i) y Z := by
  simp only [gIxW,Zgj h]
theorem Z25 {Z : Sto} {i : Nat} {ts : List T} (k : Int) (h : getL Z i = some ts) : gIxW (.loc i) (.int k) Z = (atI ts k).map fun t => (t,Z) := by
  rw [ixW_l _ h,Zly,h]
theorem Zm3 {Z : Sto} {i : Nat} {ts : List T} (y t : T) (h : getL Z i = some ts) : gSetW (.loc i) y t Z = gSetL (.loc i) y t Z := by
  simp only [gSetW,Zgj h]
@[simp] theorem Z7r (x : T) (ts : List T) (Z : Sto) : gInW x (.tup ts) Z = gIn x (.tup ts) Z := (rfl)
@[simp] theorem Zf3 (x : T) (l : List Nat) (Z : Sto) : gInW x (.str l) Z = gIn x (.str l) Z := (rfl)
@[simp] theorem Vt (x : T) (ts : List T) (Z : Sto) : gNotInW x (.tup ts) Z = gNotIn x (.tup ts) Z := (rfl)
@[simp] theorem notInW_s (x : T) (l : List Nat) (Z : Sto) : gNotInW x (.str l) Z = gNotIn x (.str l) Z := (rfl)
@[simp] theorem leW_ii (i j : Int) (Z : Sto) : gLeW (.int i) (.int j) Z = some (.bl (decide (i ≤ j)),Z) := (rfl)
@[simp] theorem gtW_ii (i j : Int) (Z : Sto) : gGtW (.int i) (.int j) Z = some (.bl (decide (j < i)),Z) := (rfl)
@[simp] theorem geW_ii (i j : Int) (Z : Sto) : gGeW (.int i) (.int j) Z = some (.bl (decide (j ≤ i)),Z) := (rfl)
section
variable (ρ : Env) (Z : Sto)
@[simp] theorem q_gSubsW (fo fi : FE) (t : T) : gSubsW fo fi t ρ Z = (fo ρ Z).bind fun x Z1 => (fi ρ Z1).bind fun y Z2 => match gSetW x y t Z2 with | some Z3 => .ok ρ Z3 | none => .stuck := (rfl)
end
theorem Zm4 {Z : Sto} {i : Nat} {ts : List T} (k : Int) (t : T) (h : getL Z i = some ts) : gSetL (.loc i) (.int k) t Z = (ixN ts.length k).map fun n => Z.set i (.lst (ts.set n t)) := by
  show (match getL Z i with | some ts => _ | none => none) = _
  rw [h]
theorem Ze1 {Z : Sto} {i : Nat} {ts : List T} (k : Int) (t : T) (h : getL Z i = some ts) : gSetW (.loc i) (.int k) t Z = (ixN ts.length k).map fun n => Z.set i (.lst (ts.set n t)) := by
  rw [Zm3 _ _ h,Zm4 k t h]
end Fx
set_option maxHeartbeats 4000000
namespace Fx
open PySem PySem.Spec PyProof.Rows L2 SX Ap
variable [Tb]
end Fx
set_option maxHeartbeats 4000000
namespace Fx
open PySem PySem.Spec PyProof.Rows L2 SX Ap
variable [Tb]
end Fx
set_option maxHeartbeats 4000000
namespace Fx
open PySem PySem.Spec PyProof.Rows L2 SX Ap
variable [Tb]
def ltIx (n i : Nat) : Option Nat := if i < n then some i else none
mutual
def lcT (n : Nat) : T → Bool
  | .tup ts => lcTs n ts
  | .loc i => Nat.ble (i + 1) n
  | .frl ts => lcTs n ts
  | .lam _ _ _ _ => false
  | .ktp ts => lcTs n ts
  | .non => true
  | .bl _ => true
  | .int _ => true
  | .str _ => true
  | .ref _ => true
  | .ty _ => true
def lcTs (n : Nat) : List T → Bool
  | [] => true
  | t :: ts => lcT n t && lcTs n ts
end
mutual
theorem Zgk {n : Nat} : ∀ {t : T},lcT n t = true → T.mv (ltIx n) t = some t
  | .non,_ => rfl
  | .bl _,_ => rfl
  | .int _,_ => rfl
  | .str _,_ => rfl
  | .tup ts,h => by
    have h : lcTs n ts = true := h
    show (T.mvs (ltIx n) ts).map T.tup = _
    rw [Z7s h]; rfl
  | .loc i,h => by
    have h : i + 1 ≤ n := Nat.le_of_ble_eq_true h
    show (ltIx n i).map T.loc = _
    unfold ltIx
    rw [if_pos (show i < n from h)]; rfl
  | .frl ts,h => by
    have h : lcTs n ts = true := h
    show (T.mvs (ltIx n) ts).map T.frl = _
    rw [Z7s h]; rfl
  | .ref _,_ => rfl
  | .ty _,_ => rfl
  | .lam _ _ _ _,h => by cases h
  | .ktp ts,h => by
    have h : lcTs n ts = true := h
    show (T.mvs (ltIx n) ts).map T.ktp = _
    rw [Z7s h]; rfl
theorem Z7s {n : Nat} : ∀ {ts : List T},lcTs n ts = true → T.mvs (ltIx n) ts = some ts
  | [],_ => rfl
  | t :: ts,h => by
    have h : (lcT n t && lcTs n ts) = true := h
    rw [Bool.and_eq_true] at h
    simp only [T.mvs,Zgk h.1,Z7s h.2]
end
def lcP {κ : Type} (n : Nat) : List (κ × T) → Bool
  | [] => true
  | p :: r => lcT n p.2 && lcP n r
theorem Ze2 {κ : Type} {n : Nat} : ∀ {l : List (κ × T)},lcP n l = true → mvP (ltIx n) l = some l
  | [],_ => rfl
  | (k,t) :: r,h => by
    have h : (lcT n t && lcP n r) = true := h
    rw [Bool.and_eq_true] at h
    simp only [mvP,Zgk h.1,Ze2 h.2]
def lcO (n : Nat) : O → Bool
  | .lst ts => lcTs n ts
  | .dk l => lcP n l
  | .dt l => lcP n l
  | .ins _ l => lcP n l
theorem Zgl {n : Nat} {o : O} (h : lcO n o = true) : O.mv (ltIx n) o = some o := by
  cases o with
  | lst ts => show (T.mvs (ltIx n) ts).map O.lst = _; rw [Z7s h]; rfl
  | dk l => show (mvP (ltIx n) l).map O.dk = _; rw [Ze2 h]; rfl
  | dt l => show (mvP (ltIx n) l).map O.dt = _; rw [Ze2 h]; rfl
  | ins C l => show (mvP (ltIx n) l).map (O.ins C) = _; rw [Ze2 h]; rfl
def selE : List Nat → Env → Nat → Env
  | _,[],_ => []
  | ks,o :: ρ,i => (if i ∈ ks then o else none) :: selE ks ρ (i + 1)
theorem Ze3 (ks : List Nat) : ∀ (ρ : Env) (i : Nat),(selE ks ρ i).length = ρ.length
  | [],_ => rfl
  | _ :: ρ,i => congrArg (· + 1) (Ze3 ks ρ (i + 1))
theorem Ze4 {ks : List Nat} : ∀ {ρ : Env} {i k : Nat} {t : T},(selE ks ρ i)[k]? = some (some t) → ρ[k]? = some (some t)
  | [],_,_,_,h => by simp [selE] at h
  | o :: ρ,i,0,t,h => by
    simp only [selE,List.getElem?_cons_zero,Option.some.injEq] at h
    split at h
    · subst h; rfl
    · cases h
  | o :: ρ,i,k + 1,t,h => by
    simp only [selE,List.getElem?_cons_succ] at h
    simpa using Ze4 h
def scE (n : Nat) : Env → Bool
  | [] => true
  | none :: ρ => scE n ρ
  | some t :: ρ => lcT n t && scE n ρ
theorem Zd5 {n : Nat} : ∀ {ρ : Env} {k : Nat} {t : T},scE n ρ = true → ρ[k]? = some (some t) → lcT n t = true
  | [],_,_,_,h => by simp at h
  | none :: ρ,0,t,_,h => by simp at h
  | some u :: ρ,0,t,h0,h => by
    simp only [scE,Bool.and_eq_true] at h0
    simp at h; subst h; exact h0.1
  | none :: ρ,k + 1,t,h0,h => Zd5 (ρ := ρ) (k := k) h0 (by simpa using h)
  | some u :: ρ,k + 1,t,h0,h => by
    simp only [scE,Bool.and_eq_true] at h0
    exact Zd5 (ρ := ρ) (k := k) h0.2 (by simpa using h)
section
variable {X : Cx} {K : PySem.W.Frag} {W : WX} {ι ι1 : List Addr} {H H1 : Hp} {σ σ1 : L2.St} {ρ ρ1 : Env} {Z Y : Sto}
theorem Gr.drop (g : Gr ι ι1 H H1) : Gr ι ι H H1 := ⟨fun _ _ h => h,g.tup,g.frz,g.xd,g.ext,g.tab,fun _ _ h _ _ => h,g.out⟩
theorem drop_at (s : Sim K ι Z H) (g : Gr ι ι1 H H1) : ∀ i j a,ltIx Z.length i = some j → ι1[i]? = some a → ι[j]? = some a := fun i j a e h => by
  unfold ltIx at e
  split at e
  · rename_i hi
    cases e
    have hi : i < ι.length := by rw [s.len]; exact hi
    have h2 := g.pre i _ (List.getElem?_eq_getElem hi)
    rw [h] at h2; cases h2
    exact List.getElem?_eq_getElem hi
  · cases e
theorem Sim.drop (s : Sim K ι Z H) (g : Gr ι ι1 H H1) (s1 : Sim K ι1 Y H1) (h : (Y.take Z.length).all (lcO Z.length) = true) : Sim K ι (Y.take Z.length) H1 := by
  have hl := Zg0 g s s1
  refine ⟨by rw [List.length_take,s.len]; omega,s.nd,fun i a o ha ho => ?_,s1.tab⟩
  have h1 := g.pre i a ha
  have h2 : Y[i]? = some o := by
    rw [List.getElem?_take] at ho
    split at ho
    · exact ho
    · cases ho
  have h3 : lcO Z.length o = true := by
    rw [List.all_eq_true] at h
    exact h o (List.mem_of_getElem? ho)
  exact (s1.ob i a o h1 h2).mv (drop_at s g) (Zgl h3)
theorem Is.drop {ks : List Nat} (s : Sim K ι Z H) (g : Gr ι ι1 H H1) (is : Is K ι1 H1 σ1 ρ1 Y) (h : (Y.take Z.length).all (lcO Z.length) = true) (he : scE Z.length (selE ks ρ1 0) = true) : Is K ι H1 σ1 (selE ks ρ1 0) (Y.take Z.length) :=
  ⟨by rw [Ze3]; exact is.len,fun i t ht => by
    obtain ⟨v,h1,h2⟩ := is.env i t (Ze4 ht)
    exact ⟨v,h1,h2.mv (drop_at s g) (Zgk (Zd5 he ht))⟩,s.drop g is.sim h⟩
end
section
variable {K : PySem.W.Frag} {n : Nat} {F : FF}
theorem Gr.keep {ι ι1 : List Addr} {H H1 : Hp} {j : Nat} {a : Addr} (g : Gr ι ι1 H H1) (h : ι1[j]? = some a) : Gr ι (ι ++ [a]) H H1 :=
  ⟨fun i b hb => by rw [List.getElem?_append_left (List.getElem?_eq_some_iff.mp hb).1]; exact hb,g.tup,g.frz,g.xd,g.ext,g.tab,fun b u hb e m => (List.mem_append.mp hb).elim id fun k => g.fre b u (by rw [List.mem_singleton.mp k]; exact List.mem_of_getElem? h) e m,g.out⟩
theorem Sim.keep {ι ι1 : List Addr} {H H1 : Hp} {Z Y : Sto} {j : Nat} {a : Addr} {us : List T} (s : Sim K ι Z H) (g : Gr ι ι1 H H1) (s1 : Sim K ι1 Y H1) (h : (Y.take Z.length).all (lcO Z.length) = true) (ha : ι1[j]? = some a) (hj : Z.length ≤ j) (hy : Y[j]? = some (.lst us)) (hu : lcTs Z.length us = true) : Sim K (ι ++ [a]) (Y.take Z.length ++ [.lst us]) H1 := by
  have hl := Zg0 g s s1
  have hat := drop_at s g
  have hf : ∀ i k x,ltIx Z.length i = some k → ι1[i]? = some x → (ι ++ [a])[k]? = some x := fun i k x e hx => by
    have h2 := hat i k x e hx
    rw [List.getElem?_append_left (List.getElem?_eq_some_iff.mp h2).1]; exact h2
  have hlt : (Y.take Z.length).length = Z.length := by rw [List.length_take]; omega
  refine ⟨by rw [List.length_append,List.length_append,hlt,s.len]; rfl,?_,fun i b o hb ho => ?_,s1.tab⟩
  · rw [List.nodup_append]
    refine ⟨s.nd,by simp,fun b hb c hc e => ?_⟩
    rw [List.mem_singleton] at hc
    subst e; subst hc
    obtain ⟨i,hi⟩ := List.mem_iff_getElem?.mp hb
    have h1 := g.pre i _ hi
    obtain ⟨k1,x1⟩ := List.getElem?_eq_some_iff.mp h1
    obtain ⟨k2,x2⟩ := List.getElem?_eq_some_iff.mp ha
    have h3 := (List.getElem_inj s1.nd).mp (x1.trans x2.symm)
    have h4 := (List.getElem?_eq_some_iff.mp hi).1
    rw [s.len] at h4
    omega
  · by_cases hi : i < Z.length
    · rw [List.getElem?_append_left (by rw [s.len]; exact hi)] at hb
      rw [List.getElem?_append_left (by rw [hlt]; exact hi)] at ho
      have h2 : Y[i]? = some o := by
        have ho2 := ho
        rw [List.getElem?_take,if_pos hi] at ho2
        exact ho2
      have h3 : lcO Z.length o = true := by
        rw [List.all_eq_true] at h
        exact h o (List.mem_of_getElem? ho)
      exact (s1.ob i b o (g.pre i b hb) h2).mv hf (Zgl h3)
    · have hi' : Z.length ≤ i := Nat.le_of_not_lt hi
      rw [List.getElem?_append_right (by rw [s.len]; exact hi'), s.len] at hb
      rw [List.getElem?_append_right (by rw [hlt]; exact hi'), hlt] at ho
      have h0 : i - Z.length = 0 := by simpa using (List.getElem?_eq_some_iff.mp hb).1
      rw [h0] at hb ho
      simp at hb ho
      subst hb ho
      exact (s1.ob j a _ ha hy).mv hf (Zgl hu)
end
end Fx
set_option maxHeartbeats 4000000
namespace Fx
open PySem PySem.Spec PyProof.Rows L2 SX Ap
variable [Tb]
def lenDiff : T → T → Sto → Bool
  | .loc i,.loc j,Z => (match getL Z i,getL Z j with
    | some a,some b => !(a.length == b.length)
    | _,_ => false)
  | _,_,_ => false
def gEqL (x y : T) (Z : Sto) : Option (T × Sto) := if lenDiff x y Z = true then some (.bl false,Z) else gEq x y Z
def gNeL (x y : T) (Z : Sto) : Option (T × Sto) := if lenDiff x y Z = true then some (.bl true,Z) else gNe x y Z
section
variable {X : Cx} {K : PySem.W.Frag}
def rLen (K : PySem.W.Frag) (r : Bool) : R2 := fun x y H Q => ∃ a b xs ys,x = .ref a ∧ y = .ref b ∧ SqL K H a xs ∧ SqL K H b ys ∧ xs.length ≠ ys.length ∧ Q (.bl r) H
theorem Zid (hu : X.A.units + 64 < cLine) : OpR X (compareOp .Eq) (rLen X.K false) := by
  intro pins s σ H x y v u Q I rx ry h
  obtain ⟨a,b,xs,ys,rfl,rfl,ha,hb,hn,q⟩ := h
  cases (show v = Value.ref a from rx)
  cases (show u = Value.ref b from ry)
  obtain ⟨us,r1,p1,_⟩ := I.list ha
  obtain ⟨ws,r2,p2,_⟩ := I.list hb
  exact PySem.SeqAt.RcAt.lists_lengths p1.isList p2.isList (by rw [List.size_toArray,List.size_toArray,← r1.length,← r2.length]; simpa using hn) (by omega) X.prog X.w _ _ ⟨.bl false,H,I,rfl,q⟩
theorem Zie (hu : X.A.units + 64 < cLine) : OpR X (compareOp .NotEq) (rLen X.K true) := by
  intro pins s σ H x y v u Q I rx ry h
  obtain ⟨a,b,xs,ys,rfl,rfl,ha,hb,hn,q⟩ := h
  cases (show v = Value.ref a from rx)
  cases (show u = Value.ref b from ry)
  obtain ⟨us,r1,p1,_⟩ := I.list ha
  obtain ⟨ws,r2,p2,_⟩ := I.list hb
  exact PySem.SeqAt.RcNeAt.lists_lengths p1.isList p2.isList (by rw [List.size_toArray,List.size_toArray,← r1.length,← r2.length]; simpa using hn) (by omega) X.prog X.w _ _ ⟨.bl true,H,I,rfl,q⟩
theorem Zjg {ι : List Addr} {H : Hp} {Z : Sto} {x y : V} {tx ty : T} (s : Sim K ι Z H) (rx : Rep K ι H x tx) (ry : Rep K ι H y ty) (e : lenDiff tx ty Z = true) : ∃ a b xs ys,x = .ref a ∧ y = .ref b ∧ SqL K H a xs ∧ SqL K H b ys ∧ xs.length ≠ ys.length := by
  unfold lenDiff at e
  split at e
  · split at e
    case h_2 => cases e
    rename_i ts us h1 h2
    obtain ⟨a,xs,rfl,h3,r1⟩ := Ji s rx (show asList (.loc _) Z = some ts by simp only [asList,Vh h1])
    obtain ⟨b,ys,rfl,h4,r2⟩ := Ji s ry (show asList (.loc _) Z = some us by simp only [asList,Vh h2])
    refine ⟨a,b,xs,ys,rfl,rfl,h3,h4,?_⟩
    rw [r1.length,r2.length]
    simpa using e
  · cases e
theorem o_eqL (hu : X.A.units + 64 < cLine) (hK : X.K = K) : OpF X K (compareOp .Eq) gEqL := by
  subst hK
  refine Xz (Qh (Zid hu) (o_eq hu rfl)) fun x y H Q h => ?_
  obtain ⟨ι,Z,tx,ty,s,rx,ry,p⟩ := h
  unfold gEqL at p
  split at p
  · rename_i e
    obtain ⟨a,b,xs,ys,h1,h2,h3,h4,h5⟩ := Zjg s rx ry e
    exact .inl ⟨a,b,xs,ys,h1,h2,h3,h4,h5,Y8 p s (.bl _)⟩
  · exact .inr ⟨ι,Z,tx,ty,s,rx,ry,p⟩
theorem Zm5 (hu : X.A.units + 64 < cLine) (hK : X.K = K) : OpF X K (compareOp .NotEq) gNeL := by
  subst hK
  refine Xz (Qh (Zie hu) (o_ne hu rfl)) fun x y H Q h => ?_
  obtain ⟨ι,Z,tx,ty,s,rx,ry,p⟩ := h
  unfold gNeL at p
  split at p
  · rename_i e
    obtain ⟨a,b,xs,ys,h1,h2,h3,h4,h5⟩ := Zjg s rx ry e
    exact .inl ⟨a,b,xs,ys,h1,h2,h3,h4,h5,Y8 p s (.bl _)⟩
  · exact .inr ⟨ι,Z,tx,ty,s,rx,ry,p⟩
end
end Fx
set_option maxHeartbeats 4000000
namespace Fx
open PySem PySem.Spec PyProof.Rows L2 SX Ap
variable [Tb]
end Fx
set_option maxHeartbeats 4000000
namespace Fx
open PySem PySem.Spec PyProof.Rows L2 SX Ap
variable [Tb]
end Fx
set_option maxHeartbeats 4000000
namespace Fx
open PySem PySem.Spec PyProof.Rows L2 SX Ap
variable [Tb]
end Fx
set_option maxHeartbeats 4000000
namespace SrtO
open PySem PyProof.Rows Srt
def IsFst (h : Heap) (v : Value) (x : Int) : Prop := ∃ (a : Addr) (o : Obj) (t : Tok) (r : List Value) (n : Nat), v = .ref a ∧ h.get? a = some o ∧ o.cls = .type "tuple" ∧ o.data = .seq (Value.int x t :: r).toArray n
theorem IsFst.keeps {h h' : Heap} {v : Value} {x : Int} (p : IsFst h v x) (k : ∀ b o, h.get? b = some o → o.cls = .type "tuple" → h'.get? b = some o) : IsFst h' v x := by
  obtain ⟨a,o,t,r,n,e,ho,hc,hd⟩ := p
  exact ⟨a,o,t,r,n,e,k _ _ ho hc,hc,hd⟩
end SrtO
namespace Fx
open PySem PySem.Spec PyProof.Rows L2 SX Ap
end Fx
set_option maxHeartbeats 4000000
namespace Fx
open PySem PySem.Spec PyProof.Rows L2 SX Ap L2.DX
end Fx
set_option maxHeartbeats 4000000
namespace Fx
open PySem PySem.Spec PyProof.Rows L2 SX Ap
end Fx
set_option maxHeartbeats 4000000
namespace Fx
open PySem PySem.Spec PyProof.Rows L2 SX Ap L2.DX
variable [Tb]
end Fx
set_option maxHeartbeats 4000000
namespace Fx
open PySem PySem.Spec PyProof.Rows L2 SX Ap
variable [Tb]
end Fx
set_option maxHeartbeats 4000000
namespace Fx
open PySem PySem.Spec PyProof.Rows L2 SX Ap
variable [Tb]
end Fx
set_option maxHeartbeats 4000000
namespace Ap
open PySem PySem.Spec PyProof.Rows L2 SX Fx
noncomputable section
def Ze5 : List Fx.T := [(.str [112,108,97,105,110]),(.str [115,105,110,103,108,101]),(.str [100,111,117,98,108,101]),(.str [108,105,116,101,114,97,108]),(.str [102,111,108,100,101,100])]
def Z0x : List (List Nat × Fx.T) := [([98,108,111,99,107],(.str [79])),([107,101,121],(.str [75])),([102,108,111,119],(.str [73])),([112,97,105,114],(.str [80]))]
def Jk : List Nat := [44,91,93,123,125]
def Z1r : List Fx.T := [(.str [73]),(.str [80])]
def Zm : List Nat := [45,63,58]
def Yk : List Nat := [44,91,93,123,125,35,38,42,33,124,62,39,34,64,96]
def Xm : List Fx.T := [(.str [75]),(.str [80])]
def Z7t : List (List Nat × Fx.T) := [([34],(.str [34])),([92],(.str [92])),([47],(.str [47])),([110],(.str [10])),([116],(.str [9])),([32],(.str [32])),([9],(.str [9]))]
def Zau : List (List Nat × Fx.T) := [([108,105,116,101,114,97,108],(.str [124])),([102,111,108,100,101,100],(.str [62]))]
def Zav : List (List Nat × Fx.T) := [([112,108,97,105,110],(.str [])),([115,105,110,103,108,101],(.str [39])),([100,111,117,98,108,101],(.str [34]))]
def Z1s : List (List Nat × Fx.T) := [([98,108,111,99,107],(.str [10])),([107,101,121],(.str [58,32])),([102,108,111,119],(.str [93])),([112,97,105,114],(.str [58,32]))]
def Z0y : List Fx.T := [(.str [107,101,121]),(.str [112,97,105,114])]
def Zd6 : List Fx.T := [(.str [32]),(.str [9])]
def Z3x : FS :=
  (sRet (eBin gMod (eCallB gIntT (aCons (eBin gMod (eCallB gIntT (aCons (eBin gMul (eVar 3) (eBin gAdd (eBin gDiv (eVar 3) (eC (.int 2003))) (eC (.int 40692)))) aNil)) (eC (.int 2147483399))) aNil)) (eVar 1)))
def Z3y : FS :=
  (bCons (sSet 3 (eBin gMod (eCallB gIntT (aCons (eBin gMul (eVar 3) (eBin gAdd (eBin gDiv (eVar 3) (eC (.int 1009))) (eC (.int 69621)))) aNil)) (eC (.int 2147483647))))
    Z3x)
def Z3z : FS :=
  (bCons (sSet 3 (eBin gMod (eCallB gIntT (aCons (eBin gMul (eBin gAdd (eBin gAdd (eBin gIxW (eVar 0) (eC (.int 1))) (eBin gMul (eC (.int 7919)) (eBin gIxW (eVar 0) (eC (.int 2))))) (eC (.int 1))) (eC (.int 48271))) aNil)) (eC (.int 2147483647))))
    Z3y)
def Z40 : FS :=
  (bCons (sAsg (eBin gAdd (eBin gIxW (eVar 0) (eC (.int 2))) (eC (.int 1))) (gSubsW (eVar 0) (eC (.int 2))))
    Z3z)
def Q8 : FS :=
  (bCons (sIf (eBl (eBin gGtW (eBin gIxW (eVar 0) (eC (.int 0))) (eC (.int 0))))
      (bCons (sSet 2 (eBin gMod (eCallB gIntT (aCons (eBin gIxW (eVar 0) (eC (.int 0))) aNil)) (eVar 1)))
      (bCons (sAsg (eBin gDiv (eBin gIxW (eVar 0) (eC (.int 0))) (eVar 1)) (gSubsW (eVar 0) (eC (.int 0))))
      (sRet (eVar 2))))
      sPass)
    Z40)
def Z07 : FS :=
  (bCons (sIf (eBl (eBin gEq (eCallB gLen (aCons (eVar 0) aNil)) (eC (.int 1))))
      (bCons (sDrop (eBM "list" gExtend (eVar 0) (aCons (eLst (aCons (eBin gMod (eCallB gIntT (aCons (eBin gIxW (eVar 0) (eC (.int 0))) aNil)) (eC (.int 2147483647))) (aCons (eC (.int 0)) aNil))) aNil)))
      (sAsg (eBin gIxW (eLst (aCons (eC (.int 0)) (aCons (eBin gIxW (eVar 0) (eC (.int 0))) aNil))) (eCallB gIntT (aCons (eBin gGeW (eBin gIxW (eVar 0) (eC (.int 0))) (eBin gPow (eC (.int 10)) (eC (.int 18)))) aNil))) (gSubsW (eVar 0) (eC (.int 0)))))
      sPass)
    Q8)
def Yc : FF := runF 4 Z07
def Za2 : FS :=
  (sRet (eBin gIxW (eVar 1) (eCall Yc [] (aCons (eVar 0) (aCons (eCallB gLen (aCons (eVar 1) aNil)) aNil)))))
def Yw : FF := runF 2 Za2
def Z2q : FS :=
  (sSet 4 (eBin gAdd (eBin gAdd (eVar 4) (eBin gMul (eC (.str [32])) (eCall Yc [] (aCons (eVar 0) (aCons (eBin gAdd (eVar 1) (eC (.int 3))) aNil))))) (eC (.str [10]))))
def Z6e : FS :=
  (bCons (sIf (eBl (eBin gEq (eCall Yc [] (aCons (eVar 0) (aCons (eC (.int 2)) aNil))) (eC (.int 0))))
      (bCons (sSet 2 (eBin gMul (eC (.str [32])) (eBin gAdd (eC (.int 1)) (eCall Yc [] (aCons (eVar 0) (aCons (eC (.int 3)) aNil))))))
      (sRet (eTup (aCons (eVar 2) (aCons (eVar 2) aNil)))))
      sPass)
    (bCons (sSet 3 (eCall Yw [] (aCons (eVar 0) (aCons (eLst (aCons (eC (.int 0)) (aCons (eC (.int 0)) (aCons (eC (.int 0)) (aCons (eC (.int 1)) (aCons (eC (.int 2)) (aCons (eC (.int 3)) aNil))))))) aNil))))
    (bCons (sSet 4 (eBin gAdd (eBin gMul (eC (.str [32])) (eCall Yw [] (aCons (eVar 0) (aCons (eLst (aCons (eC (.int 0)) (aCons (eC (.int 0)) (aCons (eC (.int 1)) (aCons (eC (.int 2)) aNil))))) aNil)))) (eC (.str [10]))))
    (bCons (sFor (iRng (aCons (eVar 3) aNil)) (gNm 5) Z2q)
    (sRet (eTup (aCons (eBin gAdd (eVar 4) (eBin gMul (eC (.str [32])) (eBin gAdd (eVar 1) (eCall Yw [] (aCons (eVar 0) (aCons (eLst (aCons (eC (.int 0)) (aCons (eC (.int 0)) (aCons (eC (.int 0)) (aCons (eC (.int 1)) (aCons (eC (.int 3)) aNil)))))) aNil)))))) (aCons (eIf (eBl (eBin gGtW (eVar 3) (eC (.int 0)))) (eBin gMul (eC (.str [10])) (eVar 3)) (eC (.str [32]))) aNil))))))))
def Z0z : FF := runF 6 Z6e
def Nh : FS :=
  (bCons (sSet 6 (eCall Yw [] (aCons (eVar 0) (aCons (eVar 2) aNil))))
      (sSet 4 (eBin gAdd (eVar 4) (eLst (aCons (eCall Z0z [] (aCons (eVar 0) (aCons (eVar 1) aNil))) (aCons (eTup (aCons (eVar 6) (aCons (eVar 6) aNil))) aNil))))))
def Z5f : FS :=
  (bCons (sSet 2 (eLst (aCons (eC (.str [97])) (aCons (eC (.str [98,58,99])) (aCons (eC (.str [100,35])) (aCons (eC (.str [45])) (aCons (eC (.str [63])) (aCons (eC (.str [45,45])) (aCons (eC (.str [38,101])) (aCons (eC (.str [39])) (aCons (eC (.str [33])) (aCons (eC (.str [120,124])) (aCons (eC (.str [45,102])) (aCons (eC (.str [63,103])) (aCons (eC (.str [58,104])) (aCons (eC (.str [64])) (aCons (eC (.str [34,105,34])) (aCons (eC (.str [62])) (aCons (eC (.str [106,58,44])) (aCons (eC (.str [107,93])) aNil))))))))))))))))))))
    (bCons (sSet 3 (eCall Yw [] (aCons (eVar 0) (aCons (eLst (aCons (eC (.str [97])) (aCons (eC (.str [98,58,99])) (aCons (eC (.str [45,49])) (aCons (eC (.str [63,120])) (aCons (eC (.str [58,121])) (aCons (eC (.str [45,45])) (aCons (eC (.str [48])) (aCons (eC (.str [46,46,46])) aNil))))))))) aNil))))
    (bCons (sSet 4 (eLst (aCons (eTup (aCons (eVar 3) (aCons (eVar 3) aNil))) aNil)))
    (bCons (sFor (iRng (aCons (eCall Yc [] (aCons (eVar 0) (aCons (eC (.int 7)) aNil))) aNil)) (gNm 5) Nh)
    (sRet (eVar 4))))))
def Z1t : FF := runF 7 Z5f
def Ub : FE :=
  (eBin gIxW (eVar 7) (eC (.int 0)))
def Z5g : FS :=
  (bCons (sSet 3 (eCall Yc [] (aCons (eVar 0) (aCons (eBin gAdd (eBin gDiv (eCallB gLen (aCons (eVar 1) aNil)) (eC (.int 2))) (eC (.int 1))) aNil))))
    (bCons (sSet 4 (eIf (eBl (eBin gEq (eVar 2) (eC (.int 0)))) (eLst (aCons (eC (.str [10,45,45,45,32])) (aCons (eC (.str [10,46,46,46,10])) (aCons (eC (.str [10,35])) aNil)))) (eLst (aCons (eBin gAdd (eC (.str [10])) (eBin gMul (eC (.str [32])) (eBin gSub (eVar 2) (eC (.int 1))))) (aCons (eBin gAdd (eC (.str [10,10])) (eBin gMul (eC (.str [32])) (eBin gSub (eVar 2) (eC (.int 1))))) aNil)))))
    (bCons (sSet 5 (eCall Yw [] (aCons (eVar 0) (aCons (eBin gAdd (eVar 4) (eLst (aCons (eC (.str [32,35])) (aCons (eC (.str [58,32])) (aCons (eC (.str [9])) (aCons (eC (.str [32,9,32])) (aCons (eBin gAdd (eC (.str [58,10])) (eBin gMul (eC (.str [32])) (eVar 2))) (aCons (eBin gAdd (eBin gAdd (eC (.str [10])) (eBin gMul (eC (.str [32])) (eVar 2))) (eC (.str [9]))) aNil)))))))) aNil))))
    (bCons (sSet 6 (eLc [7] [7] (iAny (eVar 1)) eYes Ub))
    (sRet (eBin gAdd (eBin gAdd (eBin gAdd (eBM "str" gJoin (eC (.str [])) (aCons (eSl (eVar 6) oNone (oSome (eBin gAdd (eBin gMul (eC (.int 2)) (eVar 3)) (eC (.int 1))))) aNil)) (eVar 5)) (eC (.str [122]))) (eBM "str" gJoin (eC (.str [])) (aCons (eSl (eVar 6) (oSome (eBin gAdd (eBin gMul (eC (.int 2)) (eVar 3)) (eC (.int 1)))) oNone) aNil))))))))
def Z1u : FF := runF 8 Z5g
def Zaw : FS :=
  (bCons (sIf (Fx.tOr (Fx.tNot (eTru (eCallB gIsi (aCons (eVar 0) (aCons (eC (.ty "str")) aNil))))) (eBl (eBin gNotInW (eVar 0) (eC (.tup Ze5)))))
      (sRaise "NoStyle" "part" [] (aCons (eC (.str [115,116,121,108,101])) aNil))
      sPass)
    (sIf (Fx.tOr (Fx.tNot (eTru (eCallB gIsi (aCons (eVar 1) (aCons (eC (.ty "str")) aNil))))) (tKdIn Z0x true (eVar 1)))
      (sRaise "NoStyle" "part" [] (aCons (eC (.str [99,111,110,116,101,120,116])) aNil))
      sPass))
def Je : FF := runF 2 Zaw
def Z6r : FS :=
  (sRet (eAnd (eCallB gIsi (aCons (eVar 0) (aCons (eC (.ty "int")) aNil))) (eAnd (eNot (eCallB gIsi (aCons (eVar 0) (aCons (eC (.ty "bool")) aNil)))) (eChain gLeW gLeW (eVar 1) (eVar 0) (eVar 2)))))
def U3 : FF := runF 3 Z6r
def Z2r : FS :=
  (bCons (sIf (Fx.tNot (eTru (eCall U3 [] (aCons (eVar 0) (aCons (eC (.int 0)) (aCons (eC (.int (100))) aNil))))))
      (sRaise "NoStyle" "part" [] (aCons (eC (.str [105,110,100,101,110,116])) aNil))
      sPass)
    (bCons (sIf (Fx.tNot (eTru (eCall U3 [] (aCons (eVar 1) (aCons (eC (.int 0)) (aCons (eC (.int (200))) aNil))))))
      (sRaise "NoStyle" "part" [] (aCons (eC (.str [119,105,100,116,104])) aNil))
      sPass)
    (sIf (Fx.tNot (eTru (eCall U3 [] (aCons (eVar 2) (aCons (eC (.int 1)) (aCons (eCallB gMin (aCons (eC (.int 9)) (aCons (eBin gAdd (eVar 0) (eC (.int 1))) aNil))) aNil))))))
      (sRaise "NoStyle" "part" [] (aCons (eC (.str [100,101,101,112])) aNil))
      sPass)))
def Uc : FF := runF 3 Z2r
def Z5h : FS :=
  (bCons (sFldS ["Source"] "text" (eVar 0) (eVar 1))
    (bCons (sFldS ["Source"] "length" (eVar 0) (eCallB gLen (aCons (eVar 1) aNil)))
    (sFldS ["Source"] "far" (eVar 0) (eC (.int 0)))))
def Xh : FF := runF 2 Z5h
def Z7u : FS :=
  (sRet (eSl (eFld ["Source"] "text" (eVar 0)) (oSome (eVar 1)) (oSome (eBin gAdd (eVar 1) (eC (.int 1))))))
def Zi : FF := runF 2 Z7u
def Wz : FS :=
  (sAug 1 (eC (.int 1)) gIAdd)
def Qx : FS :=
  (bCons (sWhile Lim (eBl (eBin gEq (eMeth "Source" "at" Zi [] (eVar 0) (aCons (eVar 1) aNil)) (eC (.str [32])))) Wz)
    (sRet (eVar 1)))
def Zj : FF := runF 2 Qx
def Uw : FS :=
  (sRet (eOr (eBin gEq (eVar 1) (eC (.int 0))) (eBin gEq (eBin gIxW (eFld ["Source"] "text" (eVar 0)) (eBin gSub (eVar 1) (eC (.int 1)))) (eC (.str [10])))))
def Xj : FF := runF 2 Uw
def Vu : FS :=
  (sRet (eAnd (eMeth "Source" "is_begin" Xj [] (eVar 0) (aCons (eVar 1) aNil)) (eAnd (eBin gInW (eSl (eFld ["Source"] "text" (eVar 0)) (oSome (eVar 1)) (oSome (eBin gAdd (eVar 1) (eC (.int 3))))) (eVar 2)) (eBin gInW (eMeth "Source" "at" Zi [] (eVar 0) (aCons (eBin gAdd (eVar 1) (eC (.int 3))) aNil)) (eTup (aCons (eC (.str [])) (aCons (eC (.str [32])) (aCons (eC (.str [10])) aNil))))))))
def Yx : FF := runF 3 Vu
def Z5i : FS :=
  (sFldS ["Source"] "far" (eVar 0) (eCallB gMax (aCons (eFld ["Source"] "far" (eVar 0)) (aCons (eVar 1) aNil))))
def Zu : FF := runF 2 Z5i
def V3 : FS :=
  (bCons (sIf (eTru (eMeth "Source" "is_mark" Yx [(.tup [(.str [45,45,45]), (.str [46,46,46])])] (eVar 0) (aCons (eVar 1) aNil)))
      (bCons (sDrop (eMeth "Source" "miss" Zu [] (eVar 0) (aCons (eBin gAdd (eVar 1) (eC (.int 3))) aNil)))
      (sRet (eC (.bl true))))
      sPass)
    (sRet (eC (.bl false))))
def Y4 : FF := runF 2 V3
def Nk : FS :=
  (sRet (eAnd (eChain gLeW gLeW (eC (.str [33])) (eVar 0) (eC (.str [126]))) (eNot (eAnd (eBin gInW (eVar 1) (eC (.tup Z1r))) (eBin gInW (eVar 0) (eC (.str Jk)))))))
def Ym : FF := runF 2 Nk
def Ud : FS :=
  (bCons (sIf (eTru (eMeth "Source" "is_barred" Y4 [] (eVar 0) (aCons (eVar 1) aNil)))
      (sRet (eC (.bl false)))
      sPass)
    (bCons (sSet 4 (eMeth "Source" "at" Zi [] (eVar 0) (aCons (eVar 1) aNil)))
    (bCons (sIf (eBl (eBin gEq (eVar 4) (eC (.str [58]))))
      (bCons (sIf (Fx.tNot (eTru (eCall Ym [] (aCons (eMeth "Source" "at" Zi [] (eVar 0) (aCons (eBin gAdd (eVar 1) (eC (.int 1))) aNil)) (aCons (eVar 2) aNil)))))
        (bCons (sDrop (eMeth "Source" "miss" Zu [] (eVar 0) (aCons (eBin gAdd (eVar 1) (eC (.int 1))) aNil)))
        (sRet (eC (.bl false))))
        sPass)
      (sRet (eC (.bl true))))
      sPass)
    (bCons (sIf (Fx.tOr (Fx.tNot (eTru (eCall Ym [] (aCons (eVar 4) (aCons (eVar 2) aNil))))) (Fx.tAnd (eBl (eBin gEq (eVar 4) (eC (.str [35])))) (Fx.tNot (eTru (eVar 3)))))
      (bCons (sDrop (eMeth "Source" "miss" Zu [] (eVar 0) (aCons (eVar 1) aNil)))
      (sRet (eC (.bl false))))
      sPass)
    (sRet (eC (.bl true)))))))
def Ws : FF := runF 5 Ud
def Z1v : FS :=
  (bCons (sSet 3 (eMeth "Source" "past_blanks" Zj [] (eVar 0) (aCons (eVar 1) aNil)))
      (bCons (sIf (Fx.tNot (eTru (eCall Ws [] (aCons (eVar 0) (aCons (eVar 3) (aCons (eVar 2) (aCons (eBin gEq (eVar 1) (eVar 3)) aNil)))))))
        (sRet (eVar 1))
        sPass)
      (sSet 1 (eBin gAdd (eVar 3) (eC (.int 1))))))
def Zgm : FS :=
  (sWhile Lim (eTru (eC (.bl true))) Z1v)
def Z10 : FF := runF 4 Zgm
def Ux : FS :=
  (bCons (sIf (eTru (eMeth "Source" "is_barred" Y4 [] (eVar 0) (aCons (eVar 1) aNil)))
      (sRet (eC (.bl false)))
      sPass)
    (bCons (sSet 3 (eMeth "Source" "at" Zi [] (eVar 0) (aCons (eVar 1) aNil)))
    (bCons (sIf (Fx.tAnd (eBl (eBin gNe (eVar 3) (eC (.str [])))) (eBl (eBin gInW (eVar 3) (eC (.str Zm)))))
      (bCons (sIf (Fx.tNot (eTru (eCall Ym [] (aCons (eMeth "Source" "at" Zi [] (eVar 0) (aCons (eBin gAdd (eVar 1) (eC (.int 1))) aNil)) (aCons (eVar 2) aNil)))))
        (bCons (sDrop (eMeth "Source" "miss" Zu [] (eVar 0) (aCons (eBin gAdd (eVar 1) (eC (.int 1))) aNil)))
        (sRet (eC (.bl false))))
        sPass)
      (sRet (eC (.bl true))))
      sPass)
    (bCons (sIf (Fx.tOr (Fx.tNot (eTru (eCall Ym [] (aCons (eVar 3) (aCons (eVar 2) aNil))))) (eBl (eBin gInW (eVar 3) (eC (.str Yk)))))
      (bCons (sDrop (eMeth "Source" "miss" Zu [] (eVar 0) (aCons (eVar 1) aNil)))
      (sRet (eC (.bl false))))
      sPass)
    (sRet (eC (.bl true)))))))
def W3 : FF := runF 4 Ux
def Yr : FS :=
  (sIf (eBl (eBin gNe (eMeth "Source" "at" Zi [] (eVar 0) (aCons (eBin gAdd (eVar 1) (eVar 3)) aNil)) (eC (.str [32]))))
        (sRet (eMeth "Source" "miss" Zu [] (eVar 0) (aCons (eBin gAdd (eVar 1) (eVar 3)) aNil)))
        sPass)
def Uy : FS :=
  (bCons (sFor (iRng (aCons (eVar 2) aNil)) (gNm 3) Yr)
    (sRet (eBin gAdd (eVar 1) (eCallB gMax (aCons (eC (.int 0)) (aCons (eVar 2) aNil))))))
def W4 : FF := runF 4 Uy
def Q9 : FS :=
  (bCons (sSet 3 (eBin gAdd (eMeth "Source" "past_blanks" Zj [] (eVar 0) (aCons (eVar 3) aNil)) (eC (.int 1))))
      (sAug 4 (eC (.int 1)) gIAdd))
def Z08 : FS :=
  (bCons (sSet 3 (eMeth "Source" "past_blanks" Zj [] (eVar 0) (aCons (eVar 1) aNil)))
    (bCons (sIf (eBl (eBin gNe (eMeth "Source" "at" Zi [] (eVar 0) (aCons (eVar 3) aNil)) (eC (.str [10]))))
      (sRet (eMeth "Source" "miss" Zu [] (eVar 0) (aCons (eVar 3) aNil)))
      sPass)
    (bCons (sAug 3 (eC (.int 1)) gIAdd)
    (bCons (sSet 4 (eC (.int 0)))
    (bCons (sWhile Lim (eBl (eBin gEq (eMeth "Source" "at" Zi [] (eVar 0) (aCons (eMeth "Source" "past_blanks" Zj [] (eVar 0) (aCons (eVar 3) aNil)) aNil)) (eC (.str [10])))) Q9)
    (bCons (sSet 5 (eMeth "Source" "indented" W4 [] (eVar 0) (aCons (eVar 3) (aCons (eVar 2) aNil))))
    (bCons (sIf (eBl (eBin gIs (eVar 5) (eC .non)))
      (sRet (eC .non))
      sPass)
    (sRet (eTup (aCons (eMeth "Source" "past_blanks" Zj [] (eVar 0) (aCons (eVar 5) aNil)) (aCons (eIf (eTru (eVar 4)) (eBin gMul (eC (.str [10])) (eVar 4)) (eC (.str [32]))) aNil)))))))))))
def Qo : FF := runF 6 Z08
def Vp : FS :=
  (bCons (sSet 6 (eCall Qo [] (aCons (eVar 0) (aCons (eVar 4) (aCons (eVar 2) aNil)))))
      (bCons (sIf (Fx.tOr (eBl (eBin gIs (eVar 6) (eC .non))) (Fx.tNot (eTru (eCall Ws [] (aCons (eVar 0) (aCons (eBin gIxW (eVar 6) (eC (.int 0))) (aCons (eVar 3) (aCons (eC (.bl false)) aNil))))))))
        sBrk
        sPass)
      (bCons (sSet 4 (eCall Z10 [] (aCons (eVar 0) (aCons (eBin gAdd (eBin gIxW (eVar 6) (eC (.int 0))) (eC (.int 1))) (aCons (eVar 3) aNil)))))
      (sAug 5 (eBin gAdd (eBin gIxW (eVar 6) (eC (.int 1))) (eSl (eFld ["Source"] "text" (eVar 0)) (oSome (eBin gIxW (eVar 6) (eC (.int 0)))) (oSome (eVar 4)))) gIAdd))))
def Zax : FS :=
  (bCons (sIf (Fx.tNot (eTru (eCall W3 [] (aCons (eVar 0) (aCons (eVar 1) (aCons (eVar 3) aNil))))))
      (sRet (eC .non))
      sPass)
    (bCons (sSet 4 (eCall Z10 [] (aCons (eVar 0) (aCons (eBin gAdd (eVar 1) (eC (.int 1))) (aCons (eVar 3) aNil)))))
    (bCons (sSet 5 (eSl (eFld ["Source"] "text" (eVar 0)) (oSome (eVar 1)) (oSome (eVar 4))))
    (bCons (sWhile Lim (eBl (eBin gNotInW (eVar 3) (eC (.tup Xm)))) Vp)
    (sRet (eTup (aCons (eVar 4) (aCons (eVar 5) aNil))))))))
def Z7v : FF := runF 7 Zax
def Z2s : FS :=
  (sAug 1 (eC (.int 1)) gIAdd)
def Z4m : FS :=
  (bCons (sWhile Lim (eBl (eBin gInW (eMeth "Source" "at" Zi [] (eVar 0) (aCons (eVar 1) aNil)) (eTup (aCons (eC (.str [32])) (aCons (eC (.str [9])) aNil))))) Z2s)
    (sRet (eVar 1)))
def Wn : FF := runF 2 Z4m
def Z8w : FS :=
  (bCons (sSet 4 (eMeth "Source" "past_blanks" Zj [] (eVar 0) (aCons (eVar 1) aNil)))
      (bCons (sIf (Fx.tAnd (eBl (eBin gLt (eBin gSub (eVar 4) (eVar 1)) (eVar 2))) (eBl (eBin gNe (eMeth "Source" "at" Zi [] (eVar 0) (aCons (eVar 4) aNil)) (eC (.str [10])))))
        (sRet (eMeth "Source" "miss" Zu [] (eVar 0) (aCons (eVar 4) aNil)))
        sPass)
      (bCons (sIf (eBl (eBin gGeW (eBin gSub (eVar 4) (eVar 1)) (eVar 2)))
        (sSet 4 (eMeth "Source" "past_white" Wn [] (eVar 0) (aCons (eBin gAdd (eVar 1) (eVar 2)) aNil)))
        sPass)
      (bCons (sIf (eBl (eBin gNe (eMeth "Source" "at" Zi [] (eVar 0) (aCons (eVar 4) aNil)) (eC (.str [10]))))
        (sRet (eIf (eTru (eMeth "Source" "is_barred" Y4 [] (eVar 0) (aCons (eVar 1) aNil))) (eC .non) (eTup (aCons (eVar 4) (aCons (eVar 3) aNil)))))
        sPass)
      (bCons (sAug 3 (eC (.int 1)) gIAdd)
      (sSet 1 (eBin gAdd (eVar 4) (eC (.int 1)))))))))
def Zcf : FS :=
  (bCons (sSet 3 (eC (.int 0)))
    (sWhile Lim (eTru (eC (.bl true))) Z8w))
def Z2t : FF := runF 5 Zcf
def Zay : FS :=
  (bCons (sSet 4 (eIf (eBl (eBin gInW (eVar 3) (eC (.tup Xm)))) (eC .non) (eCall Z2t [] (aCons (eVar 0) (aCons (eBin gAdd (eVar 1) (eC (.int 1))) (aCons (eVar 2) aNil))))))
    (bCons (sIf (eBl (eBin gIs (eVar 4) (eC .non)))
      (sRet (eMeth "Source" "miss" Zu [] (eVar 0) (aCons (eVar 1) aNil)))
      sPass)
    (sRet (eTup (aCons (eBin gIxW (eVar 4) (eC (.int 0))) (aCons (eIf (eTru (eBin gIxW (eVar 4) (eC (.int 1)))) (eBin gMul (eC (.str [10])) (eBin gIxW (eVar 4) (eC (.int 1)))) (eC (.str [32]))) aNil))))))
def Z1w : FF := runF 5 Zay
def Zgn : FS :=
  (bCons (sSet 4 (eMeth "Source" "at" Zi [] (eVar 0) (aCons (eBin gAdd (eVar 1) (eC (.int 1))) aNil)))
    (bCons (sIf (Fx.tAnd (eBl (eBin gEq (eVar 4) (eC (.str [10])))) (eBl (eBin gNotInW (eVar 3) (eC (.tup Xm)))))
      (bCons (sSet 5 (eCall Z2t [] (aCons (eVar 0) (aCons (eBin gAdd (eVar 1) (eC (.int 2))) (aCons (eVar 2) aNil)))))
      (sRet (eIf (eBl (eBin gIs (eVar 5) (eC .non))) (eC .non) (eTup (aCons (eBin gIxW (eVar 5) (eC (.int 0))) (aCons (eBin gMul (eC (.str [10])) (eBin gIxW (eVar 5) (eC (.int 1)))) aNil))))))
      sPass)
    (bCons (sIf (tKdIn Z7t true (eVar 4))
      (sRet (eMeth "Source" "miss" Zu [] (eVar 0) (aCons (eBin gAdd (eVar 1) (eC (.int 1))) aNil)))
      sPass)
    (sRet (eTup (aCons (eBin gAdd (eVar 1) (eC (.int 2))) (aCons (eKdI Z7t (eVar 4)) aNil)))))))
def Z7w : FF := runF 6 Zgn
def Z6f : FS :=
  (bCons (sSet 6 (eMeth "Source" "at" Zi [] (eVar 0) (aCons (eVar 1) aNil)))
      (bCons (sIf (Fx.tAnd (eBl (eBin gEq (eVar 6) (eVar 4))) (Fx.tOr (eBl (eBin gEq (eVar 4) (eC (.str [34])))) (eBl (eBin gNe (eMeth "Source" "at" Zi [] (eVar 0) (aCons (eBin gAdd (eVar 1) (eC (.int 1))) aNil)) (eVar 4)))))
        (sRet (eTup (aCons (eBin gAdd (eVar 1) (eC (.int 1))) (aCons (eVar 5) aNil))))
        sPass)
      (bCons (sIf (eBl (eBin gEq (eVar 6) (eC (.str []))))
        (sRet (eMeth "Source" "miss" Zu [] (eVar 0) (aCons (eVar 1) aNil)))
        sPass)
      (bCons (sSet 7 (eMeth "Source" "past_white" Wn [] (eVar 0) (aCons (eVar 1) aNil)))
      (bCons (sSet 8 (eTup (aCons (eCallB gMax (aCons (eVar 7) (aCons (eBin gAdd (eVar 1) (eC (.int 1))) aNil))) (aCons (eSl (eFld ["Source"] "text" (eVar 0)) (oSome (eVar 1)) (oSome (eCallB gMax (aCons (eVar 7) (aCons (eBin gAdd (eVar 1) (eC (.int 1))) aNil))))) aNil))))
      (bCons (sIf (eBl (eBin gEq (eMeth "Source" "at" Zi [] (eVar 0) (aCons (eVar 7) aNil)) (eC (.str [10]))))
        (sSet 8 (eCall Z1w [] (aCons (eVar 0) (aCons (eVar 7) (aCons (eVar 2) (aCons (eVar 3) aNil))))))
        (sIf (eBl (eBin gEq (eVar 6) (eVar 4)))
          (sSet 8 (eTup (aCons (eBin gAdd (eVar 1) (eC (.int 2))) (aCons (eVar 6) aNil))))
          (sIf (Fx.tAnd (eBl (eBin gEq (eVar 6) (eC (.str [92])))) (eBl (eBin gEq (eVar 4) (eC (.str [34])))))
            (sSet 8 (eCall Z7w [] (aCons (eVar 0) (aCons (eVar 1) (aCons (eVar 2) (aCons (eVar 3) aNil))))))
            sPass)))
      (bCons (sIf (eBl (eBin gIs (eVar 8) (eC .non)))
        (sRet (eC .non))
        sPass)
      (bCons (sAug 5 (eBin gIxW (eVar 8) (eC (.int 1))) gIAdd)
      (sSet 1 (eBin gIxW (eVar 8) (eC (.int 0))))))))))))
def Zif : FS :=
  (bCons (sSet 4 (eMeth "Source" "at" Zi [] (eVar 0) (aCons (eVar 1) aNil)))
    (bCons (sSet 5 (eC (.str [])))
    (bCons (sAug 1 (eC (.int 1)) gIAdd)
    (sWhile Lim (eTru (eC (.bl true))) Z6f))))
def Ze6 : FF := runF 9 Zif
def Nm : FE :=
  (eOr (eChain gLeW gLeW (eC (.str [32])) (eVar 1) (eC (.str [126]))) (eBin gInW (eVar 1) (eC (.str [9,10]))))
def Zcg : FS :=
  (sRet (eAnd (eCallB gIsi (aCons (eVar 0) (aCons (eC (.ty "str")) aNil))) (eCallB gAll (aCons (eLc [1] [1] (iAny (eVar 0)) eYes Nm) aNil))))
def Z2u : FF := runF 2 Zcg
def Zch : FS :=
  (bCons (sFldS ["Piece"] "source" (eVar 0) (eVar 1))
    (bCons (sAsg (eTup (aCons (eVar 2) (aCons (eVar 3) aNil))) (gTp 2 (gsCons (gFld ["Piece"] "start" (eVar 0)) (gsCons (gFld ["Piece"] "n" (eVar 0)) gsNil))))
    (bCons (sFldS ["Piece"] "rows" (eVar 0) (eLst aNil))
    (bCons (sFldS ["Piece"] "empties" (eVar 0) (eC (.int 0)))
    (bCons (sAsg (eTup (aCons (eC (.int 0)) (aCons (eC (.str [])) aNil))) (gTp 2 (gsCons (gFld ["Piece"] "digit" (eVar 0)) (gsCons (gFld ["Piece"] "chomp" (eVar 0)) gsNil))))
    (sFldS ["Piece"] "end" (eVar 0) (eBin gAdd (eVar 2) (eC (.int 1)))))))))
def Z6s : FF := runF 4 Zch
def Z6g : FS :=
  (bCons (sSet 2 (eBM "str" gFind2 (eFld ["Source"] "text" (eVar 0)) (aCons (eC (.str [10])) (aCons (eVar 1) aNil))))
    (sRet (eIf (eBl (eBin gLt (eVar 2) (eC (.int 0)))) (eFld ["Source"] "length" (eVar 0)) (eVar 2))))
def Uz : FF := runF 3 Z6g
def Z8x : FS :=
  (bCons (sSet 2 (eMeth "Source" "past_blanks" Zj [] (eVar 0) (aCons (eVar 1) aNil)))
    (bCons (sIf (Fx.tAnd (eBl (eBin gEq (eMeth "Source" "at" Zi [] (eVar 0) (aCons (eVar 2) aNil)) (eC (.str [35])))) (Fx.tOr (eBl (eBin gGtW (eVar 2) (eVar 1))) (eTru (eMeth "Source" "is_begin" Xj [] (eVar 0) (aCons (eVar 1) aNil)))))
      (sSet 2 (eMeth "Source" "line_end" Uz [] (eVar 0) (aCons (eVar 2) aNil)))
      sPass)
    (bCons (sIf (eBl (eBin gEq (eVar 2) (eFld ["Source"] "length" (eVar 0))))
      (sRet (eVar 2))
      sPass)
    (sRet (eIf (eBl (eBin gEq (eMeth "Source" "at" Zi [] (eVar 0) (aCons (eVar 2) aNil)) (eC (.str [10])))) (eBin gAdd (eVar 2) (eC (.int 1))) (eMeth "Source" "miss" Zu [] (eVar 0) (aCons (eVar 2) aNil)))))))
def Z41 : FF := runF 3 Z8x
def Z2v : FS :=
  (bCons (sSet 3 (eMeth "Source" "at" Zi [] (eFld ["Piece"] "source" (eVar 0)) (aCons (eFld ["Piece"] "end" (eVar 0)) aNil)))
      (sIf (Fx.tAnd (eBl (eChain gLeW gLeW (eC (.str [49])) (eVar 3) (eC (.str [57])))) (Fx.tNot (eTru (eVar 1))))
        (bCons (sAsg (eTup (aCons (eCallB gIntT (aCons (eVar 3) aNil)) (aCons (eC (.bl true)) aNil))) (gTp 2 (gsCons (gFld ["Piece"] "digit" (eVar 0)) (gsCons (gNm 1) gsNil))))
        (sFldA ["Piece"] "end" (eVar 0) (eC (.int 1)) gIAdd))
        (sIf (Fx.tAnd (eBl (eBin gNe (eVar 3) (eC (.str [])))) (Fx.tAnd (eBl (eBin gInW (eVar 3) (eC (.str [43,45])))) (eBl (eBin gEq (eFld ["Piece"] "chomp" (eVar 0)) (eC (.str []))))))
          (bCons (sFldS ["Piece"] "chomp" (eVar 0) (eVar 3))
          (sFldA ["Piece"] "end" (eVar 0) (eC (.int 1)) gIAdd))
          sPass)))
def Z4n : FS :=
  (bCons (sSet 1 (eC (.bl false)))
    (bCons (sFor (iRng (aCons (eC (.int 2)) aNil)) (gNm 2) Z2v)
    (sRet (eMeth "Source" "close" Z41 [] (eFld ["Piece"] "source" (eVar 0)) (aCons (eFld ["Piece"] "end" (eVar 0)) aNil)))))
def Np : FF := runF 4 Z4n
def Z5j : FS :=
  (bCons (sIf (Fx.tOr (eBl (eBin gEq (eFld ["Piece"] "chomp" (eVar 0)) (eC (.str [45])))) (Fx.tAnd (eBl (eBin gEqL (eFld ["Piece"] "rows" (eVar 0)) (eLst aNil))) (eBl (eBin gEq (eFld ["Piece"] "chomp" (eVar 0)) (eC (.str []))))))
      (sRet (eC (.str [])))
      sPass)
    (bCons (sSet 1 (eCallB gIntT (aCons (eAnd (eBin gNeL (eFld ["Piece"] "rows" (eVar 0)) (eLst aNil)) (eBin gIxW (eBin gIxW (eFld ["Piece"] "rows" (eVar 0)) (eUn gNeg (eC (.int 1)))) (eC (.int 2)))) aNil)))
    (sRet (eBin gMul (eC (.str [10])) (eBin gAdd (eVar 1) (eBin gMul (eFld ["Piece"] "empties" (eVar 0)) (eCallB gIntT (aCons (eBin gEq (eFld ["Piece"] "chomp" (eVar 0)) (eC (.str [43]))) aNil))))))))
def Z09 : FF := runF 2 Z5j
def Z7x : FS :=
  (bCons (sAsg (eVar 5) (gTp 3 (gsCons (gNm 6) (gsCons (gNm 7) (gsCons (gNm 8) gsNil)))))
      (bCons (sSet 9 (eBin gInW (eSl (eVar 7) oNone (oSome (eC (.int 1)))) (eTup (aCons (eC (.str [32])) (aCons (eC (.str [9])) aNil)))))
      (bCons (sIf (eBl (eBin gEq (eVar 4) (eC (.int 0))))
        (sSet 2 (eBin gMul (eC (.str [10])) (eVar 6)))
        (sIf (Fx.tAnd (eTru (eVar 1)) (Fx.tAnd (Fx.tNot (eTru (eVar 3))) (Fx.tNot (eTru (eVar 9)))))
          (sAug 2 (eIf (eTru (eVar 6)) (eBin gMul (eC (.str [10])) (eVar 6)) (eC (.str [32]))) gIAdd)
          (sAug 2 (eBin gMul (eC (.str [10])) (eBin gAdd (eVar 6) (eC (.int 1)))) gIAdd)))
      (bCons (sAug 2 (eVar 7) gIAdd)
      (sSet 3 (eVar 9))))))
def Zaz : FS :=
  (bCons (sSet 2 (eC (.str [])))
    (bCons (sSet 3 (eC (.bl true)))
    (bCons (sFor (iEnmA (aCons (eFld ["Piece"] "rows" (eVar 0)) aNil)) (gTp 2 (gsCons (gNm 4) (gsCons (gNm 5) gsNil))) Z7x)
    (sRet (eBin gAdd (eVar 2) (eMeth "Piece" "last_feeds" Z09 [] (eVar 0) aNil))))))
def Z5k : FF := runF 10 Zaz
def Z11 : FS :=
  (sIf (eBl (eBin gNe (eMeth "Source" "at" Zi [] (eVar 0) (aCons (eBin gAdd (eVar 1) (eVar 3)) aNil)) (eVar 4)))
        (sRet (eMeth "Source" "miss" Zu [] (eVar 0) (aCons (eBin gAdd (eVar 1) (eVar 3)) aNil)))
        sPass)
def Z29 : FS :=
  (bCons (sFor (iEnmA (aCons (eVar 2) aNil)) (gTp 2 (gsCons (gNm 3) (gsCons (gNm 4) gsNil))) Z11)
    (sRet (eIf (eTru (eMeth "Source" "is_mark" Yx [(.tup [(.str [45,45,45]), (.str [46,46,46])])] (eVar 0) (aCons (eVar 1) aNil))) (eBin gAdd (eVar 1) (eC (.int 3))) (eMeth "Source" "miss" Zu [] (eVar 0) (aCons (eBin gAdd (eVar 1) (eC (.int 3))) aNil)))))
def V1 : FF := runF 5 Z29
def Z2w : FS :=
  (bCons (sSet 3 (eMeth "Source" "past_blanks" Zj [] (eFld ["Piece"] "source" (eVar 0)) (aCons (eVar 1) aNil)))
      (bCons (sIf (eBl (eBin gNe (eMeth "Source" "at" Zi [] (eFld ["Piece"] "source" (eVar 0)) (aCons (eVar 3) aNil)) (eC (.str [10]))))
        sBrk
        sPass)
      (bCons (sSet 2 (eCallB gMax (aCons (eVar 2) (aCons (eBin gSub (eVar 3) (eVar 1)) aNil))))
      (sSet 1 (eBin gAdd (eVar 3) (eC (.int 1)))))))
def Z4o : FS :=
  (bCons (sIf (eBl (eBin gGtW (eFld ["Piece"] "digit" (eVar 0)) (eC (.int 0))))
      (sRet (eBin gAdd (eFld ["Piece"] "n" (eVar 0)) (eFld ["Piece"] "digit" (eVar 0))))
      sPass)
    (bCons (sSet 2 (eC (.int 0)))
    (bCons (sWhile Lim (eTru (eC (.bl true))) Z2w)
    (bCons (sDrop (eMeth "Source" "miss" Zu [] (eFld ["Piece"] "source" (eVar 0)) (aCons (eVar 3) aNil)))
    (bCons (sIf (eBl (eBin gEq (eVar 3) (eFld ["Source"] "length" (eFld ["Piece"] "source" (eVar 0)))))
      (sRet (eCallB gMax3 (aCons (eBin gAdd (eFld ["Piece"] "n" (eVar 0)) (eC (.int 1))) (aCons (eVar 2) (aCons (eBin gSub (eVar 3) (eVar 1)) aNil)))))
      sPass)
    (bCons (sIf (Fx.tOr (eBl (eBin gLeW (eBin gSub (eVar 3) (eVar 1)) (eFld ["Piece"] "n" (eVar 0)))) (eTru (eMeth "Source" "is_barred" Y4 [] (eFld ["Piece"] "source" (eVar 0)) (aCons (eVar 1) aNil))))
      (sRet (eCallB gMax (aCons (eBin gAdd (eFld ["Piece"] "n" (eVar 0)) (eC (.int 1))) (aCons (eVar 2) aNil))))
      sPass)
    (bCons (sIf (eBl (eBin gLeW (eVar 2) (eBin gSub (eVar 3) (eVar 1))))
      (sRet (eBin gSub (eVar 3) (eVar 1)))
      sPass)
    (bCons (sIf (eBl (eBin gEq (eVar 3) (eVar 1)))
      (bCons (sDrop (eMeth "Source" "expected_mark" V1 [] (eFld ["Piece"] "source" (eVar 0)) (aCons (eVar 1) (aCons (eC (.str [45,45,45])) aNil))))
      (sDrop (eMeth "Source" "expected_mark" V1 [] (eFld ["Piece"] "source" (eVar 0)) (aCons (eVar 1) (aCons (eC (.str [46,46,46])) aNil)))))
      sPass)
    (sRet (eC .non))))))))))
def Nq : FF := runF 4 Z4o
def Z8y : FS :=
  (bCons (sPar [4,5] (aCons (eMeth "Source" "past_blanks" Zj [] (eVar 3) (aCons (eVar 1) aNil)) (aCons (eMeth "Source" "line_end" Uz [] (eVar 3) (aCons (eVar 1) aNil)) aNil)))
      (bCons (sSet 6 (eBin gLt (eVar 5) (eFld ["Source"] "length" (eVar 3))))
      (bCons (sIf (Fx.tAnd (eBl (eBin gEq (eVar 4) (eVar 5))) (eBl (eBin gLeW (eBin gSub (eVar 4) (eVar 1)) (eVar 2))))
        (sFldA ["Piece"] "empties" (eVar 0) (eCallB gIntT (aCons (eVar 6) aNil)) gIAdd)
        (sIf (Fx.tOr (eBl (eBin gLt (eBin gSub (eVar 4) (eVar 1)) (eVar 2))) (Fx.tAnd (eBl (eBin gEq (eVar 2) (eC (.int 0)))) (eTru (eMeth "Source" "is_barred" Y4 [] (eVar 3) (aCons (eVar 1) aNil)))))
          (bCons (sDrop (eMeth "Source" "miss" Zu [] (eVar 3) (aCons (eVar 4) aNil)))
          (sRet (eVar 1)))
          (bCons (sDrop (eBM "list" gAppend (eFld ["Piece"] "rows" (eVar 0)) (aCons (eTup (aCons (eFld ["Piece"] "empties" (eVar 0)) (aCons (eSl (eFld ["Source"] "text" (eVar 3)) (oSome (eBin gAdd (eVar 1) (eVar 2))) (oSome (eVar 5))) (aCons (eVar 6) aNil)))) aNil)))
          (bCons (sFldS ["Piece"] "empties" (eVar 0) (eC (.int 0)))
          (sFldS ["Piece"] "end" (eVar 0) (eVar 5))))))
      (sSet 1 (eBin gAdd (eVar 5) (eCallB gIntT (aCons (eVar 6) aNil)))))))
def Zci : FS :=
  (bCons (sSet 3 (eFld ["Piece"] "source" (eVar 0)))
    (bCons (sWhile Lim (eBl (eBin gLt (eVar 1) (eFld ["Source"] "length" (eVar 3)))) Z8y)
    (bCons (sDrop (eMeth "Source" "miss" Zu [] (eVar 3) (aCons (eVar 1) aNil)))
    (sRet (eVar 1)))))
def Z6t : FF := runF 7 Zci
def Zb0 : FS :=
  (bCons (sIf (eBl (eBin gNe (eSl (eVar 0) oNone (oSome (eC (.int 1)))) (eKdI Zau (eVar 1))))
      (sRet (eC .non))
      sPass)
    (bCons (sSet 3 (eMake "Source" Xh [] (aCons (eBin gAdd (eBin gAdd (eC (.str [32])) (eVar 0)) (eC (.str [10]))) aNil)))
    (bCons (sSet 4 (eMake "Piece" Z6s [] (aCons (eVar 3) (aCons (eC (.int 1)) (aCons (eVar 2) aNil)))))
    (bCons (sSet 5 (eMeth "Piece" "read_header" Np [] (eVar 4) aNil))
    (bCons (sSet 6 (eIf (eBl (eBin gIs (eVar 5) (eC .non))) (eC .non) (eMeth "Piece" "indentation" Nq [] (eVar 4) (aCons (eVar 5) aNil))))
    (bCons (sIf (Fx.tOr (eBl (eBin gIs (eVar 6) (eC .non))) (eBl (eBin gNe (eMeth "Piece" "take" Z6t [] (eVar 4) (aCons (eVar 5) (aCons (eVar 6) aNil))) (eFld ["Source"] "length" (eVar 3)))))
      (sRet (eC .non))
      sPass)
    (sRet (eMeth "Piece" "value" Z5k [] (eVar 4) (aCons (eBin gEq (eVar 1) (eC (.str [102,111,108,100,101,100]))) aNil)))))))))
def Z5l : FF := runF 7 Zb0
def Jf : FS :=
  (bCons (sDrop (eCall Je [] (aCons (eVar 1) (aCons (eVar 2) aNil))))
    (bCons (sDrop (eCall Uc [] (aCons (eVar 3) (aCons (eC (.int 0)) (aCons (eVar 4) aNil)))))
    (bCons (sIf (Fx.tOr (Fx.tNot (eTru (eCall Z2u [] (aCons (eVar 0) aNil)))) (eBl (eBin gEq (eVar 0) (eC (.str [])))))
      (sRet (eC .non))
      sPass)
    (bCons (sIf (tKdIn Zau false (eVar 1))
      (sRet (eIf (eBl (eBin gEq (eVar 2) (eC (.str [98,108,111,99,107])))) (eCall Z5l [] (aCons (eVar 0) (aCons (eVar 1) (aCons (eBin gSub (eVar 3) (eVar 4)) aNil)))) (eC .non)))
      sPass)
    (bCons (sIf (Fx.tNot (eTru (eBM "str" gStarts (eVar 0) (aCons (eKdI Zav (eVar 1)) aNil))))
      (sRet (eC .non))
      sPass)
    (bCons (sPar [5,6] (aCons (eMake "Source" Xh [] (aCons (eBin gAdd (eBin gAdd (eC (.str [32])) (eVar 0)) (eKdI Z1s (eVar 2))) aNil)) (aCons (eKdI Z0x (eVar 2)) aNil)))
    (bCons (sSet 7 (eIf (eBl (eBin gEq (eVar 1) (eC (.str [112,108,97,105,110])))) (eCall Z7v [] (aCons (eVar 5) (aCons (eC (.int 1)) (aCons (eVar 3) (aCons (eVar 6) aNil))))) (eCall Ze6 [] (aCons (eVar 5) (aCons (eC (.int 1)) (aCons (eVar 3) (aCons (eVar 6) aNil)))))))
    (sRet (eIf (Fx.tAnd (eBl (eBin gIsNot (eVar 7) (eC .non))) (eBl (eBin gEq (eBin gIxW (eVar 7) (eC (.int 0))) (eBin gAdd (eCallB gLen (aCons (eVar 0) aNil)) (eC (.int 1)))))) (eBin gIxW (eVar 7) (eC (.int 1))) (eC .non))))))))))
def Y9 : FF := runF 8 Jf
def Z5m : FS :=
  (sIf (Fx.tOr (Fx.tNot (eTru (eCall Z2u [] (aCons (eVar 0) aNil)))) (eBl (eBin gGtW (eCallB gLen (aCons (eVar 0) aNil)) (eC (.int (3000))))))
      (sRaise "NoStyle" "part" [] (aCons (eC (.str [118,97,108,117,101])) aNil))
      sPass)
def Jg : FF := runF 1 Z5m
def Z7y : FE :=
  (eBin gInW (eSl (eVar 3) oNone (oSome (eC (.int 1)))) (eC (.tup Zd6)))
def Z7z : FE :=
  (eBin gInW (eSl (eVar 3) (oSome (eUn gNeg (eC (.int 1)))) oNone) (eC (.tup Zd6)))
def Zb1 : FS :=
  (bCons (sSet 2 (eBM "str" gSplit (eVar 0) (aCons (eC (.str [10])) aNil)))
    (bCons (sIf (Fx.tAnd (eBl (eBin gGtW (eCallB gLen (aCons (eVar 2) aNil)) (eC (.int 1)))) (eBl (eBin gInW (eVar 1) (eC (.tup Z0y)))))
      (sRet (eC (.bl false)))
      sPass)
    (bCons (sIf (eTru (eCallB gAny (aCons (eLc [3] [3] (iAny (eSl (eVar 2) (oSome (eC (.int 1))) oNone)) eYes Z7y) aNil)))
      (sRet (eC (.bl false)))
      sPass)
    (sRet (eNot (eCallB gAny (aCons (eLc [3] [3] (iAny (eSl (eVar 2) oNone (oSome (eUn gNeg (eC (.int 1)))))) eYes Z7z) aNil)))))))
def Z5n : FF := runF 4 Zb1
def Z80 : FS :=
  (sRet (eChain gLeW gLeW (eC (.str [33])) (eVar 0) (eC (.str [126]))))
def Z12 : FF := runF 1 Z80
def X6 : FS :=
  (bCons (sPar [3,4,5] (aCons (eBin gIxW (eVar 0) (eVar 1)) (aCons (eSl (eSl (eVar 0) oNone (oSome (eVar 1))) (oSome (eUn gNeg (eC (.int 1)))) oNone) (aCons (eBin gIxW (eBin gAdd (eVar 0) (eKdI Z1s (eVar 2))) (eBin gAdd (eVar 1) (eC (.int 1)))) aNil))))
    (bCons (sSet 6 (eBin gEq (eVar 1) (eBin gSub (eCallB gLen (aCons (eVar 0) aNil)) (eC (.int 1)))))
    (bCons (sIf (eBl (eBin gEq (eVar 3) (eC (.str [32]))))
      (sRet (eAnd (eBin gNotInW (eVar 4) (eTup (aCons (eC (.str [])) (aCons (eC (.str [10])) aNil)))) (eAnd (eBin gNe (eVar 5) (eC (.str [10]))) (eNot (eVar 6)))))
      sPass)
    (bCons (sIf (eBl (eBin gEq (eVar 3) (eC (.str [10]))))
      (sRet (eAnd (eBin gNotInW (eVar 2) (eC (.tup Z0y))) (eAnd (eBin gNe (eVar 4) (eC (.str []))) (eNot (eVar 6)))))
      sPass)
    (bCons (sIf (Fx.tOr (Fx.tAnd (eBl (eBin gEq (eVar 1) (eC (.int 0)))) (eBl (eBin gInW (eVar 3) (eC (.str Zm))))) (eBl (eBin gEq (eVar 3) (eC (.str [58])))))
      (sRet (eCall Ym [] (aCons (eVar 5) (aCons (eKdI Z0x (eVar 2)) aNil))))
      sPass)
    (bCons (sIf (Fx.tOr (Fx.tAnd (eBl (eBin gEq (eVar 3) (eC (.str [35])))) (Fx.tNot (eTru (eCall Z12 [] (aCons (eVar 4) aNil))))) (Fx.tAnd (eBl (eBin gEq (eVar 1) (eC (.int 0)))) (eBl (eBin gInW (eVar 3) (eC (.str Yk))))))
      (sRet (eC (.bl false)))
      sPass)
    (sRet (eCall Ym [] (aCons (eVar 3) (aCons (eKdI Z0x (eVar 2)) aNil))))))))))
def Yn : FF := runF 7 X6
def Qa : FE :=
  (eCall Yn [] (aCons (eVar 0) (aCons (eVar 3) (aCons (eVar 2) aNil))))
def Z6u : FS :=
  (bCons (sIf (eBl (eBin gEq (eVar 1) (eC (.str [112,108,97,105,110]))))
      (sRet (eAnd (eBin gNe (eVar 0) (eC (.str []))) (eCallB gAll (aCons (eLc [3] [3] (iRng (aCons (eCallB gLen (aCons (eVar 0) aNil)) aNil)) eYes Qa) aNil))))
      sPass)
    (bCons (sIf (eBl (eBin gEq (eVar 1) (eC (.str [115,105,110,103,108,101]))))
      (sRet (eCall Z5n [] (aCons (eVar 0) (aCons (eVar 2) aNil))))
      sPass)
    (sRet (eOr (eBin gEq (eVar 1) (eC (.str [100,111,117,98,108,101]))) (eBin gEq (eVar 2) (eC (.str [98,108,111,99,107])))))))
def Z0a : FF := runF 4 Z6u
def Zjh : FS :=
  (bCons (sDrop (eCall Jg [] (aCons (eVar 0) aNil)))
    (bCons (sDrop (eCall Je [] (aCons (eVar 1) (aCons (eVar 2) aNil))))
    (sRet (eCall Z0a [] (aCons (eVar 0) (aCons (eVar 1) (aCons (eVar 2) aNil)))))))
def Z81 : FF := runF 3 Zjh
def Zb2 : FE :=
  (eBin gIxW (eVar 17) (eC (.int 1)))
def Zb3 : FE :=
  (eBin gIxW (eVar 17) (eC (.int 0)))
def Zb4 : FE :=
  (eVar 16)
def Zb5 : FT :=
  (eBl (eBin gInW (eVar 16) (eC (.str [44,91,93,123,125]))))
def Zb6 : FS :=
  (sIf (eBl (eBin gIsNot (eCall Y9 [(.int (1))] (aCons (eVar 14) (aCons (eC (.str [112,108,97,105,110])) (aCons (eVar 11) (aCons (eVar 4) aNil))))) (eC .non)))
              (sRet (eC (.bl false)))
              sPass)
def Zb7 : FS :=
  (bCons (sSet 12 (eOr (eAnd (eVar 8) (eBin gInW (eVar 11) (eTup (aCons (eC (.str [107,101,121])) (aCons (eC (.str [112,97,105,114])) aNil))))) (eAnd (eVar 10) (eBin gInW (eVar 11) (eTup (aCons (eC (.str [102,108,111,119])) (aCons (eC (.str [112,97,105,114])) aNil)))))))
          (bCons (sSet 13 (eCall Y9 [(.int (1))] (aCons (eVar 6) (aCons (eC (.str [112,108,97,105,110])) (aCons (eVar 11) (aCons (eVar 4) aNil))))))
          (bCons (sIf (Fx.tOr (eBl (eBin gNe (eVar 13) (eIf (eTru (eVar 12)) (eC .non) (eVar 7)))) (Fx.tAnd (Fx.tNot (eTru (eVar 12))) (Fx.tNot (eTru (eCall Z81 [] (aCons (eVar 7) (aCons (eC (.str [112,108,97,105,110])) (aCons (eVar 11) aNil))))))))
            (sRet (eC (.bl false)))
            sPass)
          (bCons (sFor (iAny (eTup (aCons (eVar 9) (aCons (eBin gAdd (eC (.str [32])) (eVar 6)) (aCons (eBin gAdd (eVar 6) (eC (.str [32]))) (aCons (eBin gAdd (eVar 6) (eC (.str [58,32]))) (aCons (eBin gAdd (eC (.str [38])) (eVar 6)) (aCons (eBin gAdd (eC (.str [44,32])) (eVar 6)) (aCons (eBin gAdd (eVar 6) (eC (.str [10]))) aNil))))))))) (gNm 14) Zb6)
          (bCons (sSet 15 (eIf (Fx.tOr (eTru (eVar 12)) (eBl (eBin gInW (eVar 11) (eTup (aCons (eC (.str [98,108,111,99,107])) (aCons (eC (.str [102,108,111,119])) aNil)))))) (eC .non) (eBin gAdd (eVar 7) (eC (.str [58])))))
          (sIf (eBl (eBin gNe (eCall Y9 [(.int (1))] (aCons (eBin gAdd (eVar 6) (eC (.str [58]))) (aCons (eC (.str [112,108,97,105,110])) (aCons (eVar 11) (aCons (eVar 4) aNil))))) (eVar 15)))
            (sRet (eC (.bl false)))
            sPass))))))
def Zb8 : FS :=
  (bCons (sSet 4 (eCall Yc [] (aCons (eVar 2) (aCons (eC (.int 6)) aNil))))
        (bCons (sSet 5 (eCall Z1t [] (aCons (eVar 2) (aCons (eVar 4) aNil))))
        (bCons (sPar [6,7] (aCons (eBM "str" gJoin (eC (.str [])) (aCons (eLc [17] [17] (iAny (eVar 5)) eYes Zb3) aNil)) (aCons (eBM "str" gJoin (eC (.str [])) (aCons (eLc [17] [17] (iAny (eVar 5)) eYes Zb2) aNil)) aNil)))
        (bCons (sPar [8,9] (aCons (eBin gInW (eC (.str [10])) (eVar 6)) (aCons (eCall Z1u [] (aCons (eVar 2) (aCons (eVar 5) (aCons (eVar 4) aNil)))) aNil)))
        (bCons (sSet 10 (eBin gNeL (eLc [16] [16] (iAny (eVar 7)) Zb5 Zb4) (eLst aNil)))
        (sFor (iAny (eTup (aCons (eC (.str [98,108,111,99,107])) (aCons (eC (.str [107,101,121])) (aCons (eC (.str [102,108,111,119])) (aCons (eC (.str [112,97,105,114])) aNil)))))) (gNm 11) Zb7))))))
def Z82 : FS :=
  (bCons (sSet 2 (eLst (aCons (eVar 1) aNil)))
      (sFor (iRng (aCons (eC (.int 12)) aNil)) (gNm 3) Zb8))
def Zm6 : FS :=
  (bCons (sFor (iAny (eBin gAdd (eSl (eVar 0) oNone (oSome (eC (.int 6)))) (eLst (aCons (eC (.int 0)) aNil)))) (gNm 1) Z82)
    (sRet (eC (.bl true))))
def Zkl : FF := runF 18 Zm6
end
end Ap
set_option maxHeartbeats 4000000
namespace Ap
open PySem PySem.Spec PyProof.Rows L2 SX Fx
theorem Zgo {K : PySem.W.Frag} {ι : List Addr} {H : Hp} : Reps K ι H [(.str (S [112,108,97,105,110])),(.str (S [115,105,110,103,108,101])),(.str (S [100,111,117,98,108,101])),(.str (S [108,105,116,101,114,97,108])),(.str (S [102,111,108,100,101,100]))] Ze5 := (.cons (.str _) (.cons (.str _) (.cons (.str _) (.cons (.str _) (.cons (.str _) .nil)))))
theorem Z8z {K : PySem.W.Frag} {ι : List Addr} {H : Hp} : Reps K ι H [(.str (S [73])),(.str (S [80]))] Z1r := (.cons (.str _) (.cons (.str _) .nil))
theorem Z2x {K : PySem.W.Frag} {ι : List Addr} {H : Hp} : Reps K ι H [(.str (S [75])),(.str (S [80]))] Xm := (.cons (.str _) (.cons (.str _) .nil))
theorem Z83 {K : PySem.W.Frag} {ι : List Addr} {H : Hp} : Reps K ι H [(.str (S [107,101,121])),(.str (S [112,97,105,114]))] Z0y := (.cons (.str _) (.cons (.str _) .nil))
theorem Ze7 {K : PySem.W.Frag} {ι : List Addr} {H : Hp} : Reps K ι H [(.str (S [32])),(.str (S [9]))] Zd6 := (.cons (.str _) (.cons (.str _) .nil))
section
variable {w : World} {K : PySem.W.Frag} {mg : PySem.Str → Option Value} (C : Cx5 fns tabs exs w K mg)
include C
theorem Xi  : FunD K "_law_digit" "_law_digit" (defArgs V4) (defBody V4) (defScope V4) [] [] ((gY "_law_digit") K) (fdOf K ((gY "_law_digit") K)) := C.c.def_ 0 (d := Z52)
theorem Wo  : Binds K (fdOf K ((gY "_law_digit") K)) Z2g [] := FunD.bindsN (Xi C) fun _ _ _ _ _ _ us hl => match us, hl with | [_, _], _ => rfl
theorem Vb  : FunD K "_law_one" "_law_one" (defArgs Uo) (defBody Uo) (defScope Uo) [] [] ((gY "_law_one") K) (fdOf K ((gY "_law_one") K)) := C.c.def_ 1 (d := Z7c)
theorem Q3  : Binds K (fdOf K ((gY "_law_one") K)) Z62 [] := FunD.bindsN (Vb C) fun _ _ _ _ _ _ us hl => match us, hl with | [_, _], _ => rfl
theorem Z4p  : FunD K "_law_gap" "_law_gap" (defArgs Uq) (defBody Uq) (defScope Uq) [] [] ((gY "_law_gap") K) (fdOf K ((gY "_law_gap") K)) := C.c.def_ 2 (d := Z7d)
theorem Zd7  : Binds K (fdOf K ((gY "_law_gap") K)) Z63 [] := FunD.bindsN (Z4p C) fun _ _ _ _ _ _ us hl => match us, hl with | [_, _], _ => rfl
theorem Z0o  : FunD K "_law_pieces" "_law_pieces" (defArgs W9) (defBody W9) (defScope W9) [] [] ((gY "_law_pieces") K) (fdOf K ((gY "_law_pieces") K)) := C.c.def_ 3 (d := Z3l)
theorem Z90  : Binds K (fdOf K ((gY "_law_pieces") K)) Z1d [] := FunD.bindsN (Z0o C) fun _ _ _ _ _ _ us hl => match us, hl with | [_, _], _ => rfl
theorem Z0p  : FunD K "_law_spoilt" "_law_spoilt" (defArgs Xu) (defBody Xu) (defScope Xu) [] [] ((gY "_law_spoilt") K) (fdOf K ((gY "_law_spoilt") K)) := C.c.def_ 4 (d := Z3m)
theorem Z91  : Binds K (fdOf K ((gY "_law_spoilt") K)) Z1e [] := FunD.bindsN (Z0p C) fun _ _ _ _ _ _ us hl => match us, hl with | [_, _, _], _ => rfl
theorem Z2y  : FunD K "__init__" "NoStyle.__init__" (defArgs Xw) (defBody Xw) (defScope Xw) [.non] [] ((mY "NoStyle" "__init__") K) (fdOf K ((mY "NoStyle" "__init__") K)) := C.c.def_ 5 (d := Z2h)
theorem Q4  : ∃ ds, Vals (List.drop 1 [.non]) ds ∧ Binds K (fdOf K ((mY "NoStyle" "__init__") K)) Q6 ds := FunD.binds1 (Z2y C) (ps := Q6) 2 1 (by simp) rfl fun _ _ _ _ _ _ _ us its hu hi => match us, its, hu, hi with | [_, _], [_], _, _ => ⟨_, rfl, rfl⟩
theorem Qc  : FunD K "check_place" "check_place" (defArgs Wb) (defBody Wb) (defScope Wb) [] [] ((gY "check_place") K) (fdOf K ((gY "check_place") K)) := C.c.def_ 6 (d := Z3n)
theorem Z42  : Binds K (fdOf K ((gY "check_place") K)) Z1f [] := FunD.bindsN (Qc C) fun _ _ _ _ _ _ us hl => match us, hl with | [_, _], _ => rfl
theorem Ue  : FunD K "is_from_to" "is_from_to" (defArgs V5) (defBody V5) (defScope V5) [] [] ((gY "is_from_to") K) (fdOf K ((gY "is_from_to") K)) := C.c.def_ 7 (d := Z54)
theorem Z1x  : Binds K (fdOf K ((gY "is_from_to") K)) Z2i [] := FunD.bindsN (Ue C) fun _ _ _ _ _ _ us hl => match us, hl with | [_, _, _], _ => rfl
theorem Qs  : FunD K "check_numbers" "check_numbers" (defArgs Xl) (defBody Xl) (defScope Xl) [] [] ((gY "check_numbers") K) (fdOf K ((gY "check_numbers") K)) := C.c.def_ 8 (d := Z24)
theorem Z71  : Binds K (fdOf K ((gY "check_numbers") K)) Jv [] := FunD.bindsN (Qs C) fun _ _ _ _ _ _ us hl => match us, hl with | [_, _, _], _ => rfl
theorem Z43  : FunD K "__init__" "Source.__init__" (defArgs We) (defBody We) (defScope We) [] [] ((mY "Source" "__init__") K) (fdOf K ((mY "Source" "__init__") K)) := C.c.def_ 9 (d := Z3o)
theorem Z44  : Binds K (fdOf K ((mY "Source" "__init__") K)) Z1g [] := FunD.bindsN (Z43 C) fun _ _ _ _ _ _ us hl => match us, hl with | [_, _], _ => rfl
theorem Z6v  : FunD K "at" "Source.at" (defArgs Vv) (defBody Vv) (defScope Vv) [] [] ((mY "Source" "at") K) (fdOf K ((mY "Source" "at") K)) := C.c.def_ 10 (d := Z6p)
theorem Zw  : Binds K (fdOf K ((mY "Source" "at") K)) Z4g [] := FunD.bindsN (Z6v C) fun _ _ _ _ _ _ us hl => match us, hl with | [_, _], _ => rfl
theorem Qp  : FunD K "past_blanks" "Source.past_blanks" (defArgs Yj) (defBody Yj) (defScope Yj) [] [] ((mY "Source" "past_blanks") K) (fdOf K ((mY "Source" "past_blanks") K)) := C.c.def_ 11 (d := Qm)
theorem Y5  : Binds K (fdOf K ((mY "Source" "past_blanks") K)) Vk [] := FunD.bindsN (Qp C) fun _ _ _ _ _ _ us hl => match us, hl with | [_, _], _ => rfl
theorem Z0b  : FunD K "is_begin" "Source.is_begin" (defArgs Yz) (defBody Yz) (defScope Yz) [] [] ((mY "Source" "is_begin") K) (fdOf K ((mY "Source" "is_begin") K)) := C.c.def_ 12 (d := Z02)
theorem Z0c  : Binds K (fdOf K ((mY "Source" "is_begin") K)) Us [] := FunD.bindsN (Z0b C) fun _ _ _ _ _ _ us hl => match us, hl with | [_, _], _ => rfl
theorem Z13  : FunD K "is_mark" "Source.is_mark" (defArgs Xa) (defBody Xa) (defScope Xa) [(.ref (dflY (mY "Source" "is_mark") 0 K))] [] ((mY "Source" "is_mark") K) (fdOf K ((mY "Source" "is_mark") K)) := C.c.def_ 13 (d := Z0w)
theorem Nr  : ∃ ds, Vals (List.drop 0 [(.ref (dflY (mY "Source" "is_mark") 0 K))]) ds ∧ Binds K (fdOf K ((mY "Source" "is_mark") K)) Vs ds := FunD.binds1 (Z13 C) (ps := Vs) 2 0 (by simp) rfl fun _ _ _ _ _ _ _ us its hu hi => match us, its, hu, hi with | [_, _], [_], _, _ => ⟨_, rfl, rfl⟩
theorem Z45  : FunD K "miss" "Source.miss" (defArgs Wf) (defBody Wf) (defScope Wf) [] [] ((mY "Source" "miss") K) (fdOf K ((mY "Source" "miss") K)) := C.c.def_ 14 (d := Z3p)
theorem Zy  : Binds K (fdOf K ((mY "Source" "miss") K)) Z1h [] := FunD.bindsN (Z45 C) fun _ _ _ _ _ _ us hl => match us, hl with | [_, _], _ => rfl
theorem Nt  : FunD K "is_barred" "Source.is_barred" (defArgs Yu) (defBody Yu) (defScope Yu) [] [] ((mY "Source" "is_barred") K) (fdOf K ((mY "Source" "is_barred") K)) := C.c.def_ 15 (d := Jw)
theorem Xn  : Binds K (fdOf K ((mY "Source" "is_barred") K)) U7 [] := FunD.bindsN (Nt C) fun _ _ _ _ _ _ us hl => match us, hl with | [_, _], _ => rfl
theorem U4  : FunD K "is_safe" "is_safe" (defArgs Jx) (defBody Jx) (defScope Jx) [] [] ((gY "is_safe") K) (fdOf K ((gY "is_safe") K)) := C.c.def_ 16 (d := Z9s)
theorem Jl  : Binds K (fdOf K ((gY "is_safe") K)) Z7g [] := FunD.bindsN (U4 C) fun _ _ _ _ _ _ us hl => match us, hl with | [_, _], _ => rfl
theorem Z37  : FunD K "is_next" "is_next" (defArgs Jy) (defBody Jy) (defScope Jy) [] [] ((gY "is_next") K) (fdOf K ((gY "is_next") K)) := C.c.def_ 17 (d := Z9u)
theorem Za3  : Binds K (fdOf K ((gY "is_next") K)) Z7h [] := FunD.bindsN (Z37 C) fun _ _ _ _ _ _ us hl => match us, hl with | [_, _, _, _], _ => rfl
theorem Z38  : FunD K "row_end" "row_end" (defArgs Jz) (defBody Jz) (defScope Jz) [] [] ((gY "row_end") K) (fdOf K ((gY "row_end") K)) := C.c.def_ 18 (d := Z9v)
theorem Za4  : Binds K (fdOf K ((gY "row_end") K)) Z7i [] := FunD.bindsN (Z38 C) fun _ _ _ _ _ _ us hl => match us, hl with | [_, _, _], _ => rfl
theorem Z4q  : FunD K "is_first" "is_first" (defArgs Ut) (defBody Ut) (defScope Ut) [] [] ((gY "is_first") K) (fdOf K ((gY "is_first") K)) := C.c.def_ 19 (d := Z7k)
theorem Zd8  : Binds K (fdOf K ((gY "is_first") K)) Z67 [] := FunD.bindsN (Z4q C) fun _ _ _ _ _ _ us hl => match us, hl with | [_, _, _], _ => rfl
theorem Z0d  : FunD K "indented" "Source.indented" (defArgs X3) (defBody X3) (defScope X3) [] [] ((mY "Source" "indented") K) (fdOf K ((mY "Source" "indented") K)) := C.c.def_ 20 (d := Z04)
theorem Z5o  : Binds K (fdOf K ((mY "Source" "indented") K)) Uu [] := FunD.bindsN (Z0d C) fun _ _ _ _ _ _ us hl => match us, hl with | [_, _, _], _ => rfl
theorem Z1y  : FunD K "plain_fold" "plain_fold" (defArgs V6) (defBody V6) (defScope V6) [] [] ((gY "plain_fold") K) (fdOf K ((gY "plain_fold") K)) := C.c.def_ 21 (d := Z57)
theorem Zb9  : Binds K (fdOf K ((gY "plain_fold") K)) Z2j [] := FunD.bindsN (Z1y C) fun _ _ _ _ _ _ us hl => match us, hl with | [_, _, _], _ => rfl
theorem fd_plain  : FunD K "plain" "plain" (defArgs Z4i) (defBody Z4i) (defScope Z4i) [] [] ((gY "plain") K) (fdOf K ((gY "plain") K)) := C.c.def_ 22 (d := Zdx)
theorem Zig  : Binds K (fdOf K ((gY "plain") K)) Zd1 [] := FunD.bindsN (fd_plain C) fun _ _ _ _ _ _ us hl => match us, hl with | [_, _, _, _], _ => rfl
theorem Qy  : FunD K "past_white" "Source.past_white" (defArgs Yo) (defBody Yo) (defScope Yo) [] [] ((mY "Source" "past_white") K) (fdOf K ((mY "Source" "past_white") K)) := C.c.def_ 23 (d := Qu)
theorem Qz  : Binds K (fdOf K ((mY "Source" "past_white") K)) Vw [] := FunD.bindsN (Qy C) fun _ _ _ _ _ _ us hl => match us, hl with | [_, _], _ => rfl
theorem Jh  : FunD K "quote_fold" "quote_fold" (defArgs V7) (defBody V7) (defScope V7) [] [] ((gY "quote_fold") K) (fdOf K ((gY "quote_fold") K)) := C.c.def_ 24 (d := Z58)
theorem Z5p  : Binds K (fdOf K ((gY "quote_fold") K)) Z2k [] := FunD.bindsN (Jh C) fun _ _ _ _ _ _ us hl => match us, hl with | [_, _, _], _ => rfl
theorem Z0q  : FunD K "folded_part" "folded_part" (defArgs Wh) (defBody Wh) (defScope Wh) [] [] ((gY "folded_part") K) (fdOf K ((gY "folded_part") K)) := C.c.def_ 25 (d := Z3r)
theorem Z92  : Binds K (fdOf K ((gY "folded_part") K)) Z1i [] := FunD.bindsN (Z0q C) fun _ _ _ _ _ _ us hl => match us, hl with | [_, _, _, _], _ => rfl
theorem Z6h  : FunD K "escaped" "escaped" (defArgs N5) (defBody N5) (defScope N5) [] [] ((gY "escaped") K) (fdOf K ((gY "escaped") K)) := C.c.def_ 26 (d := Z9w)
theorem Zf4  : Binds K (fdOf K ((gY "escaped") K)) Z7l [] := FunD.bindsN (Z6h C) fun _ _ _ _ _ _ us hl => match us, hl with | [_, _, _, _], _ => rfl
theorem Z84  : FunD K "quoted" "quoted" (defArgs Z1j) (defBody Z1j) (defScope Z1j) [] [] ((gY "quoted") K) (fdOf K ((gY "quoted") K)) := C.c.def_ 27 (d := Zc6)
theorem Zgp  : Binds K (fdOf K ((gY "quoted") K)) Zan [] := FunD.bindsN (Z84 C) fun _ _ _ _ _ _ us hl => match us, hl with | [_, _, _, _], _ => rfl
theorem Z39  : FunD K "is_text" "is_text" (defArgs Qn) (defBody Qn) (defScope Qn) [] [] ((gY "is_text") K) (fdOf K ((gY "is_text") K)) := C.c.def_ 28 (d := Z9x)
theorem Za5  : Binds K (fdOf K ((gY "is_text") K)) Z7m [] := FunD.bindsN (Z39 C) fun _ _ _ _ _ _ us hl => match us, hl with | [_], _ => rfl
theorem Z5q  : FunD K "__init__" "Piece.__init__" (defArgs V8) (defBody V8) (defScope V8) [] [] ((mY "Piece" "__init__") K) (fdOf K ((mY "Piece" "__init__") K)) := C.c.def_ 29 (d := Z59)
theorem Zba  : Binds K (fdOf K ((mY "Piece" "__init__") K)) Z2l [] := FunD.bindsN (Z5q C) fun _ _ _ _ _ _ us hl => match us, hl with | [_, _, _, _], _ => rfl
theorem Z0e  : FunD K "line_end" "Source.line_end" (defArgs X4) (defBody X4) (defScope X4) [] [] ((mY "Source" "line_end") K) (fdOf K ((mY "Source" "line_end") K)) := C.c.def_ 30 (d := Z06)
theorem Z0f  : Binds K (fdOf K ((mY "Source" "line_end") K)) Uv [] := FunD.bindsN (Z0e C) fun _ _ _ _ _ _ us hl => match us, hl with | [_, _], _ => rfl
theorem Z2z  : FunD K "close" "Source.close" (defArgs Xx) (defBody Xx) (defScope Xx) [] [] ((mY "Source" "close") K) (fdOf K ((mY "Source" "close") K)) := C.c.def_ 31 (d := Z2m)
theorem Z85  : Binds K (fdOf K ((mY "Source" "close") K)) Z0l [] := FunD.bindsN (Z2z C) fun _ _ _ _ _ _ us hl => match us, hl with | [_, _], _ => rfl
theorem J5  : FunD K "read_header" "Piece.read_header" (defArgs Yp) (defBody Yp) (defScope Yp) [] [] ((mY "Piece" "read_header") K) (fdOf K ((mY "Piece" "read_header") K)) := C.c.def_ 32 (d := Qv)
theorem Z3d  : Binds K (fdOf K ((mY "Piece" "read_header") K)) Vx [] := FunD.bindsN (J5 C) fun _ _ _ _ _ _ us hl => match us, hl with | [_], _ => rfl
theorem Nu  : FunD K "last_feeds" "Piece.last_feeds" (defArgs Yv) (defBody Yv) (defScope Yv) [] [] ((mY "Piece" "last_feeds") K) (fdOf K ((mY "Piece" "last_feeds") K)) := C.c.def_ 33 (d := N8)
theorem Z4r  : Binds K (fdOf K ((mY "Piece" "last_feeds") K)) U8 [] := FunD.bindsN (Nu C) fun _ _ _ _ _ _ us hl => match us, hl with | [_], _ => rfl
theorem Z46  : FunD K "value" "Piece.value" (defArgs Wi) (defBody Wi) (defScope Wi) [] [] ((mY "Piece" "value") K) (fdOf K ((mY "Piece" "value") K)) := C.c.def_ 34 (d := Z3s)
theorem Z93  : Binds K (fdOf K ((mY "Piece" "value") K)) Z1k [] := FunD.bindsN (Z46 C) fun _ _ _ _ _ _ us hl => match us, hl with | [_, _], _ => rfl
theorem Ug  : FunD K "expected_mark" "Source.expected_mark" (defArgs Yg) (defBody Yg) (defScope Yg) [] [] ((mY "Source" "expected_mark") K) (fdOf K ((mY "Source" "expected_mark") K)) := C.c.def_ 35 (d := U9)
theorem Uh  : Binds K (fdOf K ((mY "Source" "expected_mark") K)) Wy [] := FunD.bindsN (Ug C) fun _ _ _ _ _ _ us hl => match us, hl with | [_, _, _], _ => rfl
theorem J8  : FunD K "indentation" "Piece.indentation" (defArgs Yq) (defBody Yq) (defScope Yq) [] [] ((mY "Piece" "indentation") K) (fdOf K ((mY "Piece" "indentation") K)) := C.c.def_ 36 (d := Qw)
theorem Z3e  : Binds K (fdOf K ((mY "Piece" "indentation") K)) Vy [] := FunD.bindsN (J8 C) fun _ _ _ _ _ _ us hl => match us, hl with | [_, _], _ => rfl
theorem Z5r  : FunD K "take" "Piece.take" (defArgs V9) (defBody V9) (defScope V9) [] [] ((mY "Piece" "take") K) (fdOf K ((mY "Piece" "take") K)) := C.c.def_ 37 (d := Z5b)
theorem Zbb  : Binds K (fdOf K ((mY "Piece" "take") K)) Z2n [] := FunD.bindsN (Z5r C) fun _ _ _ _ _ _ us hl => match us, hl with | [_, _, _], _ => rfl
theorem Z0r  : FunD K "block_value" "block_value" (defArgs Wk) (defBody Wk) (defScope Wk) [] [] ((gY "block_value") K) (fdOf K ((gY "block_value") K)) := C.c.def_ 38 (d := Z3t)
theorem Z94  : Binds K (fdOf K ((gY "block_value") K)) Z1l [] := FunD.bindsN (Z0r C) fun _ _ _ _ _ _ us hl => match us, hl with | [_, _, _], _ => rfl
theorem Vq  : FunD K "read_scalar" "read_scalar" (defArgs Wl) (defBody Wl) (defScope Wl) [(.int 1)] [] ((gY "read_scalar") K) (fdOf K ((gY "read_scalar") K)) := C.c.def_ 39 (d := Z3u)
theorem Z72  : ∃ ds, Vals (List.drop 0 [(.int 1)]) ds ∧ Binds K (fdOf K ((gY "read_scalar") K)) Jd ds := FunD.binds1 (Vq C) (ps := Jd) 4 0 (by simp) rfl fun _ _ _ _ _ _ _ us its hu hi => match us, its, hu, hi with | [_, _, _, _], [_], _, _ => ⟨_, rfl, rfl⟩
theorem Z0s  : FunD K "check_value" "check_value" (defArgs Wm) (defBody Wm) (defScope Wm) [] [] ((gY "check_value") K) (fdOf K ((gY "check_value") K)) := C.c.def_ 40 (d := Z3v)
theorem Z95  : Binds K (fdOf K ((gY "check_value") K)) Z1m [] := FunD.bindsN (Z0s C) fun _ _ _ _ _ _ us hl => match us, hl with | [_], _ => rfl
theorem Z0t  : FunD K "fits_single" "fits_single" (defArgs Xf) (defBody Xf) (defScope Xf) [] [] ((gY "fits_single") K) (fdOf K ((gY "fits_single") K)) := C.c.def_ 41 (d := Z3w)
theorem Z96  : Binds K (fdOf K ((gY "fits_single") K)) Z1o [] := FunD.bindsN (Z0t C) fun _ _ _ _ _ _ us hl => match us, hl with | [_, _], _ => rfl
theorem Z6i  : FunD K "is_sign" "is_sign" (defArgs Nb) (defBody Nb) (defScope Nb) [] [] ((gY "is_sign") K) (fdOf K ((gY "is_sign") K)) := C.c.def_ 42 (d := Z9y)
theorem Zf5  : Binds K (fdOf K ((gY "is_sign") K)) Z7n [] := FunD.bindsN (Z6i C) fun _ _ _ _ _ _ us hl => match us, hl with | [_], _ => rfl
theorem Nv  : FunD K "stands_plain" "stands_plain" (defArgs Xy) (defBody Xy) (defScope Xy) [] [] ((gY "stands_plain") K) (fdOf K ((gY "stands_plain") K)) := C.c.def_ 43 (d := Z2o)
theorem Z86  : Binds K (fdOf K ((gY "stands_plain") K)) Z0n [] := FunD.bindsN (Nv C) fun _ _ _ _ _ _ us hl => match us, hl with | [_, _, _], _ => rfl
theorem Z1z  : FunD K "is_fitting" "is_fitting" (defArgs W6) (defBody W6) (defScope W6) [] [] ((gY "is_fitting") K) (fdOf K ((gY "is_fitting") K)) := C.c.def_ 44 (d := Z5c)
theorem Zbc  : Binds K (fdOf K ((gY "is_fitting") K)) Z2p [] := FunD.bindsN (Z1z C) fun _ _ _ _ _ _ us hl => match us, hl with | [_, _, _], _ => rfl
theorem Zd9  : FunD K "fits" "fits" (defArgs Z7o) (defBody Z7o) (defScope Z7o) [] [] ((gY "fits") K) (fdOf K ((gY "fits") K)) := C.c.def_ 45 (d := Zgb)
theorem Zkm  : Binds K (fdOf K ((gY "fits") K)) Zga [] := FunD.bindsN (Zd9 C) fun _ _ _ _ _ _ us hl => match us, hl with | [_, _, _], _ => rfl
theorem Zji  : FunD K "law" "law" (defArgs Z8v) (defBody Z8v) (defScope Z8v) [] [] ((gY "law") K) (fdOf K ((gY "law") K)) := C.c.def_ 46 (d := Zjf)
theorem Zgq  (H : Hp) : SqT K H (He.ga K "STYLES") [(.str (S [112,108,97,105,110])), (.str (S [115,105,110,103,108,101])), (.str (S [100,111,117,98,108,101])), (.str (S [108,105,116,101,114,97,108])), (.str (S [102,111,108,100,101,100]))] := Z1b (C.c.fact 1) H
theorem Z6j  : GDk K w mg "LETTERS" Z0x := Zg4 C 2 0
theorem Z97  : ∃ t, mg "MOST_INDENT" = some (.int (100) t) := C.int 3
theorem Zbd  : ∃ t, mg "MOST_WIDTH" = some (.int (200) t) := C.int 4
theorem Zda  : ∃ t, mg "BRACKETS" = some (.str (S Jk) t) := C.str 5
theorem Z98  (H : Hp) : SqT K H (He.ga K "IN_BRACKETS") [(.str (S [73])), (.str (S [80]))] := Z1b (C.c.fact 6) H
theorem Z47  : ∃ t, mg "MAYBE_FIRST" = some (.str (S Zm) t) := C.str 7
theorem Z6w  : ∃ t, mg "NOT_FIRST" = some (.str (S Yk) t) := C.str 8
theorem Z30  (H : Hp) : SqT K H (He.ga K "ON_A_LINE") [(.str (S [75])), (.str (S [80]))] := Z1b (C.c.fact 9) H
theorem Zf6  : GDk K w mg "ESCAPES" Z7t := Zg4 C 10 1
theorem Ze8  : GDk K w mg "HEADS" Zau := Zg4 C 11 2
theorem Zgr  : GDk K w mg "QUOTES" Zav := Zg4 C 12 3
theorem Zcj  : GDk K w mg "BEHIND" Z1s := Zg4 C 13 4
theorem Zbe  : ∃ t, mg "MOST_SIGNS" = some (.int (3000) t) := C.int 14
theorem Z87  (H : Hp) : SqT K H (He.ga K "ONE_LINE") [(.str (S [107,101,121])), (.str (S [112,97,105,114]))] := Z1b (C.c.fact 15) H
theorem Zih  (H : Hp) : SqT K H (He.ga K "WHITE") [(.str (S [32])), (.str (S [9]))] := Z1b (C.c.fact 16) H
theorem Zr  : CF K "Piece" (He.ga K "Piece") := ⟨C.ns 17, He.cls_ok (C.c.fact 18)⟩
theorem Zii  : Mk K (He.ga K "Piece") (mY "Piece" "__init__" K) := He.mkr_ok (C.c.fact 19)
theorem Z3f  : Meth K (He.ga K "Piece") "read_header" (mY "Piece" "read_header" K) := He.meth_ok (C.c.fact 20)
theorem Z4s  : Meth K (He.ga K "Piece") "last_feeds" (mY "Piece" "last_feeds" K) := He.meth_ok (C.c.fact 21)
theorem Z99  : Meth K (He.ga K "Piece") "value" (mY "Piece" "value" K) := He.meth_ok (C.c.fact 22)
theorem Z3g  : Meth K (He.ga K "Piece") "indentation" (mY "Piece" "indentation" K) := He.meth_ok (C.c.fact 23)
theorem Zbf  : Meth K (He.ga K "Piece") "take" (mY "Piece" "take" K) := He.meth_ok (C.c.fact 24)
theorem Yh  : NoAttr K (He.ga K "Piece") "source" := He.noat_ok (C.c.fact 25)
theorem Vf  : NoAttr K (He.ga K "Piece") "rows" := He.noat_ok (C.c.fact 26)
theorem Wu  : NoAttr K (He.ga K "Piece") "empties" := He.noat_ok (C.c.fact 27)
theorem U5  : NoAttr K (He.ga K "Piece") "end" := He.noat_ok (C.c.fact 28)
theorem Z9a  : NoAttr K (He.ga K "Piece") "start" := He.noat_ok (C.c.fact 29)
theorem Z14  : NoAttr K (He.ga K "Piece") "n" := He.noat_ok (C.c.fact 30)
theorem Qe  : NoAttr K (He.ga K "Piece") "digit" := He.noat_ok (C.c.fact 31)
theorem Wx  : NoAttr K (He.ga K "Piece") "chomp" := He.noat_ok (C.c.fact 32)
theorem Ze  : CF K "Source" (He.ga K "Source") := ⟨C.ns 33, He.cls_ok (C.c.fact 34)⟩
theorem Zck  : Mk K (He.ga K "Source") (mY "Source" "__init__" K) := He.mkr_ok (C.c.fact 35)
theorem Zx  : Meth K (He.ga K "Source") "at" (mY "Source" "at" K) := He.meth_ok (C.c.fact 36)
theorem Y6  : Meth K (He.ga K "Source") "past_blanks" (mY "Source" "past_blanks" K) := He.meth_ok (C.c.fact 37)
theorem Z0g  : Meth K (He.ga K "Source") "is_begin" (mY "Source" "is_begin" K) := He.meth_ok (C.c.fact 38)
theorem Z15  : Meth K (He.ga K "Source") "is_mark" (mY "Source" "is_mark" K) := He.meth_ok (C.c.fact 39)
theorem Zz  : Meth K (He.ga K "Source") "miss" (mY "Source" "miss" K) := He.meth_ok (C.c.fact 40)
theorem Xo  : Meth K (He.ga K "Source") "is_barred" (mY "Source" "is_barred" K) := He.meth_ok (C.c.fact 41)
theorem Z5s  : Meth K (He.ga K "Source") "indented" (mY "Source" "indented" K) := He.meth_ok (C.c.fact 42)
theorem J9  : Meth K (He.ga K "Source") "past_white" (mY "Source" "past_white" K) := He.meth_ok (C.c.fact 43)
theorem Z0h  : Meth K (He.ga K "Source") "line_end" (mY "Source" "line_end" K) := He.meth_ok (C.c.fact 44)
theorem Z88  : Meth K (He.ga K "Source") "close" (mY "Source" "close" K) := He.meth_ok (C.c.fact 45)
theorem Ui  : Meth K (He.ga K "Source") "expected_mark" (mY "Source" "expected_mark" K) := He.meth_ok (C.c.fact 46)
theorem X7  : NoAttr K (He.ga K "Source") "text" := He.noat_ok (C.c.fact 47)
theorem Xb  : NoAttr K (He.ga K "Source") "length" := He.noat_ok (C.c.fact 48)
theorem Z20  : NoAttr K (He.ga K "Source") "far" := He.noat_ok (C.c.fact 49)
theorem Jm  : PySem.W.nsIn K mainGlobals "NoStyle" = some (some (.ref (He.ga K "NoStyle"))) := C.ns 50
theorem Vc  : OexC K (He.ga K "NoStyle") := Zk6 (C.c.fact 51)
theorem Zf7  : PySem.W.findIn K (.ref (He.ga K "NoStyle")) "part" = some none := He.noat_ok (C.c.fact 53)
theorem Xq  : PySem.W.findIn K (.ref (He.ga K "NoStyle")) "__init__" = some (some (.ref (mY "NoStyle" "__init__" K))) ∧ PySem.W.typeIn K (.ref (mY "NoStyle" "__init__" K)) = some (.type "function") := Zi5 (C.c.fact 54)
theorem bs_  : BaseC K (He.ga K "PageError") := Zi4 (C.c.fact 58)
theorem nd_  : NoDig K := Zfz (C.c.fact 59)
theorem Wq  : mg "_law_digit" = some (.ref (He.ga K "_law_digit")) := C.glo 60
theorem Q5  : mg "_law_one" = some (.ref (He.ga K "_law_one")) := C.glo 61
theorem Zdb  : mg "_law_gap" = some (.ref (He.ga K "_law_gap")) := C.glo 62
theorem Jo  : mg "NoStyle" = some (.ref (He.ga K "NoStyle")) := C.glo 50
theorem Z21  : mg "is_from_to" = some (.ref (He.ga K "is_from_to")) := C.glo 63
theorem Jp  : mg "is_safe" = some (.ref (He.ga K "is_safe")) := C.glo 64
theorem Za6  : mg "is_next" = some (.ref (He.ga K "is_next")) := C.glo 65
theorem Zdc  : mg "is_first" = some (.ref (He.ga K "is_first")) := C.glo 66
theorem Za7  : mg "row_end" = some (.ref (He.ga K "row_end")) := C.glo 67
theorem Zbg  : mg "plain_fold" = some (.ref (He.ga K "plain_fold")) := C.glo 68
theorem Z5t  : mg "quote_fold" = some (.ref (He.ga K "quote_fold")) := C.glo 69
theorem Z9b  : mg "folded_part" = some (.ref (He.ga K "folded_part")) := C.glo 70
theorem Zf8  : mg "escaped" = some (.ref (He.ga K "escaped")) := C.glo 71
theorem Zcl  : mg "Source" = some (.ref (He.ga K "Source")) := C.glo 33
theorem Zij  : mg "Piece" = some (.ref (He.ga K "Piece")) := C.glo 17
theorem Z48  : mg "check_place" = some (.ref (He.ga K "check_place")) := C.glo 72
theorem Z73  : mg "check_numbers" = some (.ref (He.ga K "check_numbers")) := C.glo 73
theorem Za8  : mg "is_text" = some (.ref (He.ga K "is_text")) := C.glo 74
theorem Z9c  : mg "block_value" = some (.ref (He.ga K "block_value")) := C.glo 75
theorem Zik  : mg "plain" = some (.ref (He.ga K "plain")) := C.glo 76
theorem Zgs  : mg "quoted" = some (.ref (He.ga K "quoted")) := C.glo 77
theorem Zf9  : mg "is_sign" = some (.ref (He.ga K "is_sign")) := C.glo 78
theorem Z89  : mg "stands_plain" = some (.ref (He.ga K "stands_plain")) := C.glo 79
theorem Z9d  : mg "fits_single" = some (.ref (He.ga K "fits_single")) := C.glo 80
theorem Z9e  : mg "check_value" = some (.ref (He.ga K "check_value")) := C.glo 81
theorem Zbh  : mg "is_fitting" = some (.ref (He.ga K "is_fitting")) := C.glo 82
theorem Z9f  : mg "_law_pieces" = some (.ref (He.ga K "_law_pieces")) := C.glo 83
theorem Z9g  : mg "_law_spoilt" = some (.ref (He.ga K "_law_spoilt")) := C.glo 84
theorem Z0u  : mg "read_scalar" = some (.ref (He.ga K "read_scalar")) := C.glo 85
theorem Zkn  : mg "fits" = some (.ref (He.ga K "fits")) := C.glo 86
theorem Zcm  : mg "PageError" = some (.ref (He.ga K "PageError")) := C.glo 87
theorem Zgt  : mg "STYLES" = some (.ref (He.ga K "STYLES")) := C.glo 88
theorem Z9h  : mg "IN_BRACKETS" = some (.ref (He.ga K "IN_BRACKETS")) := C.glo 89
theorem Z31  : mg "ON_A_LINE" = some (.ref (He.ga K "ON_A_LINE")) := C.glo 90
theorem Z8a  : mg "ONE_LINE" = some (.ref (He.ga K "ONE_LINE")) := C.glo 91
theorem Zil  : mg "WHITE" = some (.ref (He.ga K "WHITE")) := C.glo 92
theorem Zm7  : mg "law" = some (.ref (He.ga K "law")) := C.glo 93
theorem Z5u  : mg "len" = none := C.free 94
theorem Z16  : mg "int" = none := C.free 95
theorem Z3a  : mg "range" = none := C.free 96
theorem Zgu  : mg "str" = none := C.free 97
theorem Uj  : mg "isinstance" = none := C.free 98
theorem Zko  : mg "bool" = none := C.free 99
theorem Zm8  : mg "min" = none := C.free 100
theorem Z8b  : mg "max" = none := C.free 101
theorem fr_all  : mg "all" = none := C.free 102
theorem Z6x  : mg "enumerate" = none := C.free 103
theorem Zjj  : mg "any" = none := C.free 104
end
section
variable {P : Program} {base : Heap}
variable {w : World} {K : PySem.W.Frag} {mg : PySem.Str → Option Value} (C : Cx5 fns tabs exs w K mg)
include C
theorem Uk : GT P w K mg base 1 (gY "_law_digit") Z2g 2 Yc := by
  refine fnFD (Xi C) Jc fun cdv A outer s H E hr hG => ?_
  exact (Zd (Yi (Zk (o_eq hr.units rfl) (X8 (Zae rfl) (by rfl) (Z5u C) (by decide +kernel) (Z9 (Za (pv 0)) Zf)) f_int (nomark _))
      (Zd (Vi (f_bm rfl PySem.F.plainAttrs_list PySem.F.slot_list_extend PySem.F.type_list_extend m_extend (Za (pv 0)) (Z9 (Z27 (Z9 (f_op Zen (Vr (Z23 (nd_ C)) (by rfl) (Z16 C) (by decide +kernel) (Z9 (f_ix (Vn hr.units rfl) (Za (pv 0)) f_int (fun _ _ => rfl)) Zf)) f_int) (Z9 f_int Zf)) (Z0 (Z0 Zb))) Zf)))
      (Zg (Z79 (f_ix (Vn hr.units rfl) (Z27 (Z9 f_int (Z9 (f_ix (Vn hr.units rfl) (Za (pv 0)) f_int (fun _ _ => rfl)) Zf)) (Z0 (Z0 Zb))) (Vr (Z23 (nd_ C)) (by rfl) (Z16 C) (by decide +kernel) (Z9 (Um Zln (f_ix (Vn hr.units rfl) (Za (pv 0)) f_int (fun _ _ => rfl)) (f_op o_pow f_int f_int) (nomark _)) Zf)) (fun _ _ => rfl)) (Zcy hr.units (Za (pv 0)) f_int))))
      Y0)
    (Zd (Yi (Zk Zes (f_ix (Vn hr.units rfl) (Za (pv 0)) f_int (fun _ _ => rfl)) f_int (nomark _))
      (Zd (Zt (i := 2) Jc.nd rfl (Or.inl rfl) (f_op Zen (Vr (Z23 (nd_ C)) (by rfl) (Z16 C) (by decide +kernel) (Z9 (f_ix (Vn hr.units rfl) (Za (pv 0)) f_int (fun _ _ => rfl)) Zf)) (Za (pv 1))))
      (Zd (Z79 (f_op Zht (f_ix (Vn hr.units rfl) (Za (pv 0)) f_int (fun _ _ => rfl)) (Za (pv 1))) (Zcy hr.units (Za (pv 0)) f_int))
      (Zg (Zq (Za (pv 2))))))
      Y0)
    (Zd (Z79 (f_op (Y7 rfl) (f_ix (Vn hr.units rfl) (Za (pv 0)) f_int (fun _ _ => rfl)) f_int) (Zcy hr.units (Za (pv 0)) f_int))
    (Zd (Zt (i := 3) Jc.nd rfl (Or.inl rfl) (f_op Zen (Vr (Z23 (nd_ C)) (by rfl) (Z16 C) (by decide +kernel) (Z9 (f_op Jt (f_op (Y7 rfl) (f_op (Y7 rfl) (f_ix (Vn hr.units rfl) (Za (pv 0)) f_int (fun _ _ => rfl)) (f_op Jt f_int (f_ix (Vn hr.units rfl) (Za (pv 0)) f_int (fun _ _ => rfl)))) f_int) f_int) Zf)) f_int))
    (Zd (Zt (i := 3) Jc.nd rfl (Or.inl rfl) (f_op Zen (Vr (Z23 (nd_ C)) (by rfl) (Z16 C) (by decide +kernel) (Z9 (f_op Jt (Za (pv 3)) (f_op (Y7 rfl) (f_op Zht (Za (pv 3)) f_int) f_int)) Zf)) f_int))
    (Zg (Zq (f_op Zen (Vr (Z23 (nd_ C)) (by rfl) (Z16 C) (by decide +kernel) (Z9 (f_op Zen (Vr (Z23 (nd_ C)) (by rfl) (Z16 C) (by decide +kernel) (Z9 (f_op Jt (Za (pv 3)) (f_op (Y7 rfl) (f_op Zht (Za (pv 3)) f_int) f_int)) Zf)) f_int) Zf)) (Za (pv 1))))))))))
theorem Z4t : GT P w K mg base 2 (gY "_law_one") Z62 2 Yw := by
  have G__law_digit := @Uk P base w K mg C
  refine fnFD (Vb C) Zcz fun cdv A outer s H E hr hG => ?_
  exact (Zg (Zq (f_ix (Vn hr.units rfl) (Za (pv 1)) (Yd rfl G__law_digit (hr.mono (by omega)) hG (by rfl) (Wq C) (Xi C).kp (Wo C) .nil Dfl.nil tk (Z9 (Za (pv 0)) (Z9 (X8 (Zae rfl) (by rfl) (Z5u C) (by decide +kernel) (Z9 (Za (pv 1)) Zf)) Zf)) (Z0 (Z0 Zb))) (fun _ _ => rfl))))
theorem Zdd : GT P w K mg base 3 (gY "_law_gap") Z63 2 Z0z := by
  have G__law_one := @Z4t P base w K mg C
  have G__law_digit := @Uk P base w K mg C
  refine fnFD (Z4p C) Ur fun cdv A outer s H E hr hG => ?_
  exact (Zd (Yi (Zk (o_eq hr.units rfl) (Yd rfl G__law_digit (hr.mono (by omega)) hG (by rfl) (Wq C) (Xi C).kp (Wo C) .nil Dfl.nil tk (Z9 (Za (pv 0)) (Z9 f_int Zf)) (Z0 (Z0 Zb))) f_int (nomark _))
      (Zd (Zt (i := 2) Ur.nd rfl (Or.inl rfl) (f_op Jt (Zh [32]) (f_op (Y7 rfl) f_int (Yd rfl G__law_digit (hr.mono (by omega)) hG (by rfl) (Wq C) (Xi C).kp (Wo C) .nil Dfl.nil tk (Z9 (Za (pv 0)) (Z9 f_int Zf)) (Z0 (Z0 Zb))))))
      (Zg (Zq (f_tup (Z9 (Za (pv 2)) (Z9 (Za (pv 2)) Zf)) (Z0 (Z0 Zb))))))
      Y0)
    (Zd (Zt (i := 3) Ur.nd rfl (Or.inl rfl) (Yd rfl G__law_one (hr.mono (by omega)) hG (by rfl) (Q5 C) (Vb C).kp (Q3 C) .nil Dfl.nil tk (Z9 (Za (pv 0)) (Z9 (Z27 (Z9 f_int (Z9 f_int (Z9 f_int (Z9 f_int (Z9 f_int (Z9 f_int Zf)))))) (Z0 (Z0 (Z0 (Z0 (Z0 (Z0 Zb))))))) Zf)) (Z0 (Z0 Zb))))
    (Zd (Zt (i := 4) Ur.nd rfl (Or.inl rfl) (f_op (Y7 rfl) (f_op Jt (Zh [32]) (Yd rfl G__law_one (hr.mono (by omega)) hG (by rfl) (Q5 C) (Vb C).kp (Q3 C) .nil Dfl.nil tk (Z9 (Za (pv 0)) (Z9 (Z27 (Z9 f_int (Z9 f_int (Z9 f_int (Z9 f_int Zf)))) (Z0 (Z0 (Z0 (Z0 Zb))))) Zf)) (Z0 (Z0 Zb)))) (Zh [10])))
    (Zd (Z3j (passes_of rfl) rfl (Z0v (by rfl) (Z3a C) (Z9 (Za (pv 3)) Zf) (Z0 Zb)) (Vj (i := 5) Ur.nd rfl (Or.inl rfl))
      (Zg (Zt (i := 4) Ur.nd rfl (Or.inl rfl) (f_op (Y7 rfl) (f_op (Y7 rfl) (Za (pv 4)) (f_op Jt (Zh [32]) (Yd rfl G__law_digit (hr.mono (by omega)) hG (by rfl) (Wq C) (Xi C).kp (Wo C) .nil Dfl.nil tk (Z9 (Za (pv 0)) (Z9 (f_op (Y7 rfl) (Za (pv 1)) f_int) Zf)) (Z0 (Z0 Zb))))) (Zh [10])))))
    (Zg (Zq (f_tup (Z9 (f_op (Y7 rfl) (Za (pv 4)) (f_op Jt (Zh [32]) (f_op (Y7 rfl) (Za (pv 1)) (Yd rfl G__law_one (hr.mono (by omega)) hG (by rfl) (Q5 C) (Vb C).kp (Q3 C) .nil Dfl.nil tk (Z9 (Za (pv 0)) (Z9 (Z27 (Z9 f_int (Z9 f_int (Z9 f_int (Z9 f_int (Z9 f_int Zf))))) (Z0 (Z0 (Z0 (Z0 (Z0 Zb)))))) Zf)) (Z0 (Z0 Zb)))))) (Z9 (f_if (Zk Zes (Za (pv 3)) f_int (nomark _)) (f_op Jt (Zh [10]) (Za (pv 3))) (Zh [32])) Zf)) (Z0 (Z0 Zb)))))))))
theorem Z9i : GT P w K mg base 4 (gY "_law_pieces") Z1d 2 Z1t := by
  have G__law_one := @Z4t P base w K mg C
  have G__law_digit := @Uk P base w K mg C
  have G__law_gap := @Zdd P base w K mg C
  refine fnFD (Z0o C) Xv fun cdv A outer s H E hr hG => ?_
  exact (Zd (Zt (i := 2) Xv.nd rfl (Or.inl rfl) (Z27 (Z9 (Zh [97]) (Z9 (Zh [98,58,99]) (Z9 (Zh [100,35]) (Z9 (Zh [45]) (Z9 (Zh [63]) (Z9 (Zh [45,45]) (Z9 (Zh [38,101]) (Z9 (Zh [39]) (Z9 (Zh [33]) (Z9 (Zh [120,124]) (Z9 (Zh [45,102]) (Z9 (Zh [63,103]) (Z9 (Zh [58,104]) (Z9 (Zh [64]) (Z9 (Zh [34,105,34]) (Z9 (Zh [62]) (Z9 (Zh [106,58,44]) (Z9 (Zh [107,93]) Zf)))))))))))))))))) (Z0 (Z0 (Z0 (Z0 (Z0 (Z0 (Z0 (Z0 (Z0 (Z0 (Z0 (Z0 (Z0 (Z0 (Z0 (Z0 (Z0 (Z0 Zb))))))))))))))))))))
    (Zd (Zt (i := 3) Xv.nd rfl (Or.inl rfl) (Yd rfl G__law_one (hr.mono (by omega)) hG (by rfl) (Q5 C) (Vb C).kp (Q3 C) .nil Dfl.nil tk (Z9 (Za (pv 0)) (Z9 (Z27 (Z9 (Zh [97]) (Z9 (Zh [98,58,99]) (Z9 (Zh [45,49]) (Z9 (Zh [63,120]) (Z9 (Zh [58,121]) (Z9 (Zh [45,45]) (Z9 (Zh [48]) (Z9 (Zh [46,46,46]) Zf)))))))) (Z0 (Z0 (Z0 (Z0 (Z0 (Z0 (Z0 (Z0 Zb))))))))) Zf)) (Z0 (Z0 Zb))))
    (Zd (Zt (i := 4) Xv.nd rfl (Or.inl rfl) (Z27 (Z9 (f_tup (Z9 (Za (pv 3)) (Z9 (Za (pv 3)) Zf)) (Z0 (Z0 Zb))) Zf) (Z0 Zb)))
    (Zd (Z3j (passes_of rfl) rfl (Z0v (by rfl) (Z3a C) (Z9 (Yd rfl G__law_digit (hr.mono (by omega)) hG (by rfl) (Wq C) (Xi C).kp (Wo C) .nil Dfl.nil tk (Z9 (Za (pv 0)) (Z9 f_int Zf)) (Z0 (Z0 Zb))) Zf) (Z0 Zb)) (Vj (i := 5) Xv.nd rfl (Or.inl rfl))
      (Zd (Zt (i := 6) Xv.nd rfl (Or.inl rfl) (Yd rfl G__law_one (hr.mono (by omega)) hG (by rfl) (Q5 C) (Vb C).kp (Q3 C) .nil Dfl.nil tk (Z9 (Za (pv 0)) (Z9 (Za (pv 2)) Zf)) (Z0 (Z0 Zb))))
      (Zg (Zt (i := 4) Xv.nd rfl (Or.inl rfl) (f_op (Y7 rfl) (Za (pv 4)) (Z27 (Z9 (Yd rfl G__law_gap (hr.mono (by omega)) hG (by rfl) (Zdb C) (Z4p C).kp (Zd7 C) .nil Dfl.nil tk (Z9 (Za (pv 0)) (Z9 (Za (pv 1)) Zf)) (Z0 (Z0 Zb))) (Z9 (f_tup (Z9 (Za (pv 6)) (Z9 (Za (pv 6)) Zf)) (Z0 (Z0 Zb))) Zf)) (Z0 (Z0 Zb))))))))
    (Zg (Zq (Za (pv 4))))))))
theorem Z9j : GT P w K mg base 3 (gY "_law_spoilt") Z1e 3 Z1u := by
  have G__law_digit := @Uk P base w K mg C
  have G__law_one := @Z4t P base w K mg C
  refine fnFD (Z0p C) Wv fun cdv A outer s H E hr hG => ?_
  exact (Zd (Zt (i := 3) Wv.nd rfl (Or.inl rfl) (Yd rfl G__law_digit (hr.mono (by omega)) hG (by rfl) (Wq C) (Xi C).kp (Wo C) .nil Dfl.nil tk (Z9 (Za (pv 0)) (Z9 (f_op (Y7 rfl) (f_op Zht (X8 (Zae rfl) (by rfl) (Z5u C) (by decide +kernel) (Z9 (Za (pv 1)) Zf)) f_int) f_int) Zf)) (Z0 (Z0 Zb))))
    (Zd (Zt (i := 4) Wv.nd rfl (Or.inl rfl) (f_if (Zk (o_eq hr.units rfl) (Za (pv 2)) f_int (nomark _)) (Z27 (Z9 (Zh [10,45,45,45,32]) (Z9 (Zh [10,46,46,46,10]) (Z9 (Zh [10,35]) Zf))) (Z0 (Z0 (Z0 Zb)))) (Z27 (Z9 (f_op (Y7 rfl) (Zh [10]) (f_op Jt (Zh [32]) (f_op Z4x (Za (pv 2)) f_int))) (Z9 (f_op (Y7 rfl) (Zh [10,10]) (f_op Jt (Zh [32]) (f_op Z4x (Za (pv 2)) f_int))) Zf)) (Z0 (Z0 Zb)))))
    (Zd (Zt (i := 5) Wv.nd rfl (Or.inl rfl) (Yd rfl G__law_one (hr.mono (by omega)) hG (by rfl) (Q5 C) (Vb C).kp (Q3 C) .nil Dfl.nil tk (Z9 (Za (pv 0)) (Z9 (f_op (Y7 rfl) (Za (pv 4)) (Z27 (Z9 (Zh [32,35]) (Z9 (Zh [58,32]) (Z9 (Zh [9]) (Z9 (Zh [32,9,32]) (Z9 (f_op (Y7 rfl) (Zh [58,10]) (f_op Jt (Zh [32]) (Za (pv 2)))) (Z9 (f_op (Y7 rfl) (f_op (Y7 rfl) (Zh [10]) (f_op Jt (Zh [32]) (Za (pv 2)))) (Zh [9])) Zf)))))) (Z0 (Z0 (Z0 (Z0 (Z0 (Z0 Zb)))))))) Zf)) (Z0 (Z0 Zb))))
    (Zd (Zhy (i := 6) (own := [("_law_piece", 7)]) (Z2e 7) (by decide) rfl Wv.nd rfl rfl (sw_true rfl rfl rfl (by decide +kernel)) (Z3k rfl (Za (pv 1))) (blkOk_by (N := Z53) (sc := defScope Xu) (by decide +kernel)) (fun _ _ _ _ _ => (pg_name (i := 7) Wv.nd rfl (Or.inl rfl))) (fun _ _ _ _ _ => Z4f) (fun _ _ _ _ _ => (f_ix (Vn hr.units rfl) (Za (pv 7)) f_int (fun _ _ => rfl))))
    (Zg (Zq (f_op (Y7 rfl) (f_op (Y7 rfl) (f_op (Y7 rfl) (f_bm rfl PySem.F.plainAttrs_str PySem.F.slot_str_join PySem.F.type_str_join (m_join rfl) (Zh []) (Z9 (f_sl rfl (Za (pv 6)) Ju (Xk (f_op (Y7 rfl) (f_op Jt f_int (Za (pv 3))) f_int))) Zf)) (Za (pv 5))) (Zh [122])) (f_bm rfl PySem.F.plainAttrs_str PySem.F.slot_str_join PySem.F.type_str_join (m_join rfl) (Zh []) (Z9 (f_sl rfl (Za (pv 6)) (Xk (f_op (Y7 rfl) (f_op Jt f_int (Za (pv 3))) f_int)) Ju) Zf)))))))))
theorem Ny : FnOk P w K mg base CX0 1 ((mY "NoStyle" "__init__") K) (fdOf K ((mY "NoStyle" "__init__") K)) Q6 (spI (He.ga K "NoStyle") "part") := by
  refine Zl8 (Z2y C) Z7e (fun vs H Q E h => ?_) (fun cdv A outer s H vs Q E hr h => ?_)
  · obtain ⟨a,v,rfl,_⟩ := h; rfl
  · obtain ⟨a,v,rfl,ha,hq⟩ := h
    exact ⟨_, (pss_cons (ps_expr (Zft (by rfl) (Zcm C) (bs_ C) (by decide) (pa_cons (pv 0) (pa_cons pe_str pa_nil)))) (pss_one (ps_ost (pv 0) (pv 1)))), ⟨_, rfl, ⟨a, He.ga K "NoStyle", _, rfl, by decide, Vc C, ha, ⟨v, rfl, _, rfl, a, He.ga K "NoStyle", rfl, Vc C, Zf7 C, .inl ⟨ha, fun dx nd ne => hq dx nd ne⟩⟩⟩⟩⟩
theorem Z49 : GT P w K mg base 3 (gY "check_place") Z1f 2 Je := by
  have I_NoStyle_init := @Ny P base w K mg C
  obtain ⟨ds_NoStyle_init_1,dv_NoStyle_init_1,db_NoStyle_init_1⟩ := Q4 C
  have g_STYLES := Zgt C
  have q_STYLES := Zgq C
  have g_LETTERS := Z6j C
  refine fnFD (Qc C) Z8p fun cdv A outer s H E hr hG => ?_
  exact (Zd (Yi (PW.pt (Z2c (Vg (Ys rfl (X8 (Zfs rfl) (by rfl) (Uj C) (by decide +kernel) (Z9 (Za (pv 0)) (Z9 (f_c (pe_bltn (v := .ty "str") (by rfl) (Zgu C) (by decide +kernel) rfl) (fun _ _ => .ty _)) Zf))))) (Qi (Zk (Z51 hr.units rfl) (Za (pv 0)) (f_c (pe_glob (v := .ref (He.ga _ "STYLES")) rfl g_STYLES rfl) (fun _ H => .tup (q_STYLES H) Zgo)) rfl))))
      (Zg (Z34 rfl rfl tk (Vc C) (Xq C).1 (Xq C).2 I_NoStyle_init (hr.mono (by omega)) db_NoStyle_init_1 dv_NoStyle_init_1 (fun _ _ => .nil) (by rfl) (Jo C) (Z9 (Zh [115,116,121,108,101]) Zf) (Z0 Zb) (Jm C)))
      Y0)
    (Zg (Yi (PW.pt (Z2c (Vg (Ys rfl (X8 (Zfs rfl) (by rfl) (Uj C) (by decide +kernel) (Z9 (Za (pv 1)) (Z9 (f_c (pe_bltn (v := .ty "str") (by rfl) (Zgu C) (by decide +kernel) rfl) (fun _ _ => .ty _)) Zf))))) (Qi (Z9z rfl (by rfl) g_LETTERS (Za (pv 1))))))
      (Zg (Z34 rfl rfl tk (Vc C) (Xq C).1 (Xq C).2 I_NoStyle_init (hr.mono (by omega)) db_NoStyle_init_1 dv_NoStyle_init_1 (fun _ _ => .nil) (by rfl) (Jo C) (Z9 (Zh [99,111,110,116,101,120,116]) Zf) (Z0 Zb) (Jm C)))
      Y0)))
theorem Zbi : GT P w K mg base 1 (gY "is_from_to") Z2i 3 U3 := by
  refine fnFD (Ue C) Zaj fun cdv A outer s H E hr hG => ?_
  exact (Zg (Zq (Z4d rfl (X8 (Zfs rfl) (by rfl) (Uj C) (by decide +kernel) (Z9 (Za (pv 0)) (Z9 (f_c (pe_bltn (v := .ty "int") (by rfl) (Z16 C) (by decide +kernel) rfl) (fun _ _ => .ty _)) Zf))) (Z4d rfl (Zfh rfl (X8 (Zfs rfl) (by rfl) (Uj C) (by decide +kernel) (Z9 (Za (pv 0)) (Z9 (f_c (pe_bltn (v := .ty "bool") (by rfl) (Zko C) (by decide +kernel) rfl) (fun _ _ => .ty _)) Zf)))) (Z26 (Zad Z61 Z61 (Za (pv 1)) (Za (pv 0)) (Za (pv 2))))))))
theorem Z74 : GT P w K mg base 3 (gY "check_numbers") Jv 3 Uc := by
  have G_is_from_to := @Zbi P base w K mg C
  have I_NoStyle_init := @Ny P base w K mg C
  obtain ⟨ds_NoStyle_init_1,dv_NoStyle_init_1,db_NoStyle_init_1⟩ := Q4 C
  obtain ⟨t_MOST_INDENT,g_MOST_INDENT⟩ := Z97 C
  obtain ⟨t_MOST_WIDTH,g_MOST_WIDTH⟩ := Zbd C
  refine fnFD (Qs C) Z6z fun cdv A outer s H E hr hG => ?_
  exact (Zd (Yi (Vg (Ys rfl (Yd rfl G_is_from_to (hr.mono (by omega)) hG (by rfl) (Z21 C) (Ue C).kp (Z1x C) .nil Dfl.nil tk (Z9 (Za (pv 0)) (Z9 f_int (Z9 (f_c (pe_glob (v := .int (100)) rfl g_MOST_INDENT ⟨_,rfl⟩) (fun _ _ => .int _)) Zf))) (Z0 (Z0 (Z0 Zb))))))
      (Zg (Z34 rfl rfl tk (Vc C) (Xq C).1 (Xq C).2 I_NoStyle_init (hr.mono (by omega)) db_NoStyle_init_1 dv_NoStyle_init_1 (fun _ _ => .nil) (by rfl) (Jo C) (Z9 (Zh [105,110,100,101,110,116]) Zf) (Z0 Zb) (Jm C)))
      Y0)
    (Zd (Yi (Vg (Ys rfl (Yd rfl G_is_from_to (hr.mono (by omega)) hG (by rfl) (Z21 C) (Ue C).kp (Z1x C) .nil Dfl.nil tk (Z9 (Za (pv 1)) (Z9 f_int (Z9 (f_c (pe_glob (v := .int (200)) rfl g_MOST_WIDTH ⟨_,rfl⟩) (fun _ _ => .int _)) Zf))) (Z0 (Z0 (Z0 Zb))))))
      (Zg (Z34 rfl rfl tk (Vc C) (Xq C).1 (Xq C).2 I_NoStyle_init (hr.mono (by omega)) db_NoStyle_init_1 dv_NoStyle_init_1 (fun _ _ => .nil) (by rfl) (Jo C) (Z9 (Zh [119,105,100,116,104]) Zf) (Z0 Zb) (Jm C)))
      Y0)
    (Zg (Yi (Vg (Ys rfl (Yd rfl G_is_from_to (hr.mono (by omega)) hG (by rfl) (Z21 C) (Ue C).kp (Z1x C) .nil Dfl.nil tk (Z9 (Za (pv 2)) (Z9 f_int (Z9 (X8 (c_min rfl) (by rfl) (Zm8 C) (by decide +kernel) (Z9 f_int (Z9 (f_op (Y7 rfl) (Za (pv 0)) f_int) Zf))) Zf))) (Z0 (Z0 (Z0 Zb))))))
      (Zg (Z34 rfl rfl tk (Vc C) (Xq C).1 (Xq C).2 I_NoStyle_init (hr.mono (by omega)) db_NoStyle_init_1 dv_NoStyle_init_1 (fun _ _ => .nil) (by rfl) (Jo C) (Z9 (Zh [100,101,101,112]) Zf) (Z0 Zb) (Jm C)))
      Y0))))
theorem Z4a : GT P w K mg base 1 (mY "Source" "__init__") Z1g 2 Xh := by
  refine fnFD (Z43 C) Z8q fun cdv A outer s H E hr hG => ?_
  exact (Zd (Z2f rfl (Fx.FldOk.cons (Ze C) (X7 C) .nil) (Za (pv 0)) (Za (pv 1)))
    (Zd (Z2f rfl (Fx.FldOk.cons (Ze C) (Xb C) .nil) (Za (pv 0)) (X8 (Zae rfl) (by rfl) (Z5u C) (by decide +kernel) (Z9 (Za (pv 1)) Zf)))
    (Zg (Z2f rfl (Fx.FldOk.cons (Ze C) (Z20 C) .nil) (Za (pv 0)) f_int))))
theorem Yl : GT P w K mg base 1 (mY "Source" "at") Z4g 2 Zi := by
  refine fnFD (Z6v C) Zc3 fun cdv A outer s H E hr hG => ?_
  exact (Zg (Zq (f_sl rfl (Xr rfl (Fx.FldOk.cons (Ze C) (X7 C) .nil) (Za (pv 0))) (Xk (Za (pv 1))) (Xk (f_op (Y7 rfl) (Za (pv 1)) f_int)))))
theorem Yt : GT P w K mg base 2 (mY "Source" "past_blanks") Vk 2 Zj := by
  have G_Source_at := @Yl P base w K mg C
  refine fnFD (Qp C) Ql fun cdv A outer s H E hr hG => ?_
  exact (Zd (Jb (passes_of rfl) (Zk (o_eq hr.units rfl) (Zv rfl (Ze C) (Zx C) G_Source_at (hr.mono (by omega)) hG (Zw C) .nil Dfl.nil tk (Za (pv 0)) (Z9 (Za (pv 1)) Zf) (Z0 Zb)) (Zh [32]) (nomark _))
      (Zg (Z2d (i := 1) Ql.nd rfl (Or.inl rfl) f_int Z01)))
    (Zg (Zq (Za (pv 1)))))
theorem Z0i : GT P w K mg base 1 (mY "Source" "is_begin") Us 2 Xj := by
  refine fnFD (Z0b C) Z55 fun cdv A outer s H E hr hG => ?_
  exact (Zg (Zq (f_or rfl (Um (o_eq hr.units rfl) (Za (pv 1)) f_int (nomark _)) (Z26 (Um (o_eq hr.units rfl) (f_ix (Vn hr.units rfl) (Xr rfl (Fx.FldOk.cons (Ze C) (X7 C) .nil) (Za (pv 0))) (f_op Z4x (Za (pv 1)) f_int) (fun _ _ => rfl)) (Zh [10]) (nomark _))))))
theorem Z17 : GT P w K mg base 2 (mY "Source" "is_mark") Vs 3 Yx := by
  have G_Source_is_begin := @Z0i P base w K mg C
  have G_Source_at := @Yl P base w K mg C
  refine fnFD (Z13 C) Z65 fun cdv A outer s H E hr hG => ?_
  exact (Zg (Zq (Z4d rfl (Zv rfl (Ze C) (Z0g C) G_Source_is_begin (hr.mono (by omega)) hG (Z0c C) .nil Dfl.nil tk (Za (pv 0)) (Z9 (Za (pv 1)) Zf) (Z0 Zb)) (Z4d rfl (Um (Z0k hr.units rfl) (f_sl rfl (Xr rfl (Fx.FldOk.cons (Ze C) (X7 C) .nil) (Za (pv 0))) (Xk (Za (pv 1))) (Xk (f_op (Y7 rfl) (Za (pv 1)) f_int))) (Za (pv 2)) rfl) (Z26 (Um (Z0k hr.units rfl) (Zv rfl (Ze C) (Zx C) G_Source_at (hr.mono (by omega)) hG (Zw C) .nil Dfl.nil tk (Za (pv 0)) (Z9 (f_op (Y7 rfl) (Za (pv 1)) f_int) Zf) (Z0 Zb)) (f_tup (Z9 (Zh []) (Z9 (Zh [32]) (Z9 (Zh [10]) Zf))) (Z0 (Z0 (Z0 Zb)))) rfl))))))
theorem Ye : GT P w K mg base 1 (mY "Source" "miss") Z1h 2 Zu := by
  refine fnFD (Z45 C) Z8r fun cdv A outer s H E hr hG => ?_
  exact (Zg (Z2f rfl (Fx.FldOk.cons (Ze C) (Z20 C) .nil) (Za (pv 0)) (X8 (Zep rfl) (by rfl) (Z8b C) (by decide +kernel) (Z9 (Xr rfl (Fx.FldOk.cons (Ze C) (Z20 C) .nil) (Za (pv 0))) (Z9 (Za (pv 1)) Zf)))))
theorem Xp : GT P w K mg base 3 (mY "Source" "is_barred") U7 2 Y4 := by
  have G_Source_is_mark := @Z17 P base w K mg C
  obtain ⟨ds_Source_is_mark_0,dv_Source_is_mark_0,db_Source_is_mark_0⟩ := Nr C
  have G_Source_miss := @Ye P base w K mg C
  refine fnFD (Nt C) Z4h fun cdv A outer s H E hr hG => ?_
  exact (Zd (Yi (Ys rfl (Zv rfl (Ze C) (Z15 C) G_Source_is_mark (hr.mono (by omega)) hG db_Source_is_mark_0 dv_Source_is_mark_0 (fun _ _ => (.cons (.tup (Z1b (C.c.fact 0) _) (.cons (.str _) (.cons (.str _) .nil))) .nil)) tk (Za (pv 0)) (Z9 (Za (pv 1)) Zf) (Z0 Zb)))
      (Zd (Vi (Zv rfl (Ze C) (Zz C) G_Source_miss (hr.mono (by omega)) hG (Zy C) .nil Dfl.nil tk (Za (pv 0)) (Z9 (f_op (Y7 rfl) (Za (pv 1)) f_int) Zf) (Z0 Zb)))
      (Zg (Zq f_bl)))
      Y0)
    (Zg (Zq f_bl)))
theorem Z6k : GT P w K mg base 1 (gY "is_safe") Z7g 2 Ym := by
  have g_IN_BRACKETS := Z9h C
  have q_IN_BRACKETS := Z98 C
  obtain ⟨t_BRACKETS,g_BRACKETS⟩ := Zda C
  refine fnFD (U4 C) Zev fun cdv A outer s H E hr hG => ?_
  exact (Zg (Zq (Z4d rfl (Zad Z61 Z61 (Zh [33]) (Za (pv 0)) (Zh [126])) (Z26 (Zfh rfl (Z4d rfl (Um (Z0k hr.units rfl) (Za (pv 1)) (f_c (pe_glob (v := .ref (He.ga _ "IN_BRACKETS")) rfl g_IN_BRACKETS rfl) (fun _ H => .tup (q_IN_BRACKETS H) Z8z)) rfl) (Z26 (Um (Z0k hr.units rfl) (Za (pv 0)) (f_c (pe_glob (v := .str (S Jk)) rfl g_BRACKETS ⟨_, rfl⟩) (fun _ _ => .str _)) rfl))))))))
theorem Za9 : GT P w K mg base 4 (gY "is_next") Z7h 4 Ws := by
  have G_Source_is_barred := @Xp P base w K mg C
  have G_Source_at := @Yl P base w K mg C
  have G_Source_miss := @Ye P base w K mg C
  have G_is_safe := @Z6k P base w K mg C
  refine fnFD (Z37 C) Z9t fun cdv A outer s H E hr hG => ?_
  exact (Zd (Yi (Ys rfl (Zv rfl (Ze C) (Xo C) G_Source_is_barred (hr.mono (by omega)) hG (Xn C) .nil Dfl.nil tk (Za (pv 0)) (Z9 (Za (pv 1)) Zf) (Z0 Zb)))
      (Zg (Zq f_bl))
      Y0)
    (Zd (Zt (i := 4) Z9t.nd rfl (Or.inl rfl) (Zv rfl (Ze C) (Zx C) G_Source_at (hr.mono (by omega)) hG (Zw C) .nil Dfl.nil tk (Za (pv 0)) (Z9 (Za (pv 1)) Zf) (Z0 Zb)))
    (Zd (Yi (Zk (o_eq hr.units rfl) (Za (pv 4)) (Zh [58]) (nomark _))
      (Zd (Yi (Vg (Ys rfl (Yd rfl G_is_safe (hr.mono (by omega)) hG (by rfl) (Jp C) (U4 C).kp (Jl C) .nil Dfl.nil tk (Z9 (Zv rfl (Ze C) (Zx C) G_Source_at (hr.mono (by omega)) hG (Zw C) .nil Dfl.nil tk (Za (pv 0)) (Z9 (f_op (Y7 rfl) (Za (pv 1)) f_int) Zf) (Z0 Zb)) (Z9 (Za (pv 2)) Zf)) (Z0 (Z0 Zb)))))
        (Zd (Vi (Zv rfl (Ze C) (Zz C) G_Source_miss (hr.mono (by omega)) hG (Zy C) .nil Dfl.nil tk (Za (pv 0)) (Z9 (f_op (Y7 rfl) (Za (pv 1)) f_int) Zf) (Z0 Zb)))
        (Zg (Zq f_bl)))
        Y0)
      (Zg (Zq f_bl)))
      Y0)
    (Zd (Yi (PW.pt (Z2c (Vg (Ys rfl (Yd rfl G_is_safe (hr.mono (by omega)) hG (by rfl) (Jp C) (U4 C).kp (Jl C) .nil Dfl.nil tk (Z9 (Za (pv 4)) (Z9 (Za (pv 2)) Zf)) (Z0 (Z0 Zb))))) (Qi (PW.pt (Vm (Zk (o_eq hr.units rfl) (Za (pv 4)) (Zh [35]) (nomark _)) (W8 (Vg (Ys rfl (Za (pv 3))))))))))
      (Zd (Vi (Zv rfl (Ze C) (Zz C) G_Source_miss (hr.mono (by omega)) hG (Zy C) .nil Dfl.nil tk (Za (pv 0)) (Z9 (Za (pv 1)) Zf) (Z0 Zb)))
      (Zg (Zq f_bl)))
      Y0)
    (Zg (Zq f_bl))))))
theorem Zfa : GT P w K mg base 5 (gY "row_end") Z7i 3 Z10 := by
  have G_Source_past_blanks := @Yt P base w K mg C
  have G_is_next := @Za9 P base w K mg C
  refine fnFD (Z38 C) Z66 fun cdv A outer s H E hr hG => ?_
  exact (Zg (Jb (passes_of rfl) (Ys rfl f_bl)
      (Zd (Zt (i := 3) Z66.nd rfl (Or.inl rfl) (Zv rfl (Ze C) (Y6 C) G_Source_past_blanks (hr.mono (by omega)) hG (Y5 C) .nil Dfl.nil tk (Za (pv 0)) (Z9 (Za (pv 1)) Zf) (Z0 Zb)))
      (Zd (Yi (Vg (Ys rfl (Yd rfl G_is_next (hr.mono (by omega)) hG (by rfl) (Za6 C) (Z37 C).kp (Za3 C) .nil Dfl.nil tk (Z9 (Za (pv 0)) (Z9 (Za (pv 3)) (Z9 (Za (pv 2)) (Z9 (Um (o_eq hr.units rfl) (Za (pv 1)) (Za (pv 3)) (nomark _)) Zf)))) (Z0 (Z0 (Z0 (Z0 Zb)))))))
        (Zg (Zq (Za (pv 1))))
        Y0)
      (Zg (Zt (i := 1) Z66.nd rfl (Or.inl rfl) (f_op (Y7 rfl) (Za (pv 3)) f_int)))))))
theorem Zde : GT P w K mg base 4 (gY "is_first") Z67 3 W3 := by
  have G_Source_is_barred := @Xp P base w K mg C
  have G_Source_at := @Yl P base w K mg C
  have G_Source_miss := @Ye P base w K mg C
  have G_is_safe := @Z6k P base w K mg C
  obtain ⟨t_MAYBE_FIRST,g_MAYBE_FIRST⟩ := Z47 C
  obtain ⟨t_NOT_FIRST,g_NOT_FIRST⟩ := Z6w C
  refine fnFD (Z4q C) Z7j fun cdv A outer s H E hr hG => ?_
  exact (Zd (Yi (Ys rfl (Zv rfl (Ze C) (Xo C) G_Source_is_barred (hr.mono (by omega)) hG (Xn C) .nil Dfl.nil tk (Za (pv 0)) (Z9 (Za (pv 1)) Zf) (Z0 Zb)))
      (Zg (Zq f_bl))
      Y0)
    (Zd (Zt (i := 3) Z7j.nd rfl (Or.inl rfl) (Zv rfl (Ze C) (Zx C) G_Source_at (hr.mono (by omega)) hG (Zw C) .nil Dfl.nil tk (Za (pv 0)) (Z9 (Za (pv 1)) Zf) (Z0 Zb)))
    (Zd (Yi (PW.pt (Vm (Zk (o_ne hr.units rfl) (Za (pv 3)) (Zh []) (nomark _)) (W8 (Zk (Z0k hr.units rfl) (Za (pv 3)) (f_c (pe_glob (v := .str (S Zm)) rfl g_MAYBE_FIRST ⟨_,rfl⟩) (fun _ _ => .str _)) rfl))))
      (Zd (Yi (Vg (Ys rfl (Yd rfl G_is_safe (hr.mono (by omega)) hG (by rfl) (Jp C) (U4 C).kp (Jl C) .nil Dfl.nil tk (Z9 (Zv rfl (Ze C) (Zx C) G_Source_at (hr.mono (by omega)) hG (Zw C) .nil Dfl.nil tk (Za (pv 0)) (Z9 (f_op (Y7 rfl) (Za (pv 1)) f_int) Zf) (Z0 Zb)) (Z9 (Za (pv 2)) Zf)) (Z0 (Z0 Zb)))))
        (Zd (Vi (Zv rfl (Ze C) (Zz C) G_Source_miss (hr.mono (by omega)) hG (Zy C) .nil Dfl.nil tk (Za (pv 0)) (Z9 (f_op (Y7 rfl) (Za (pv 1)) f_int) Zf) (Z0 Zb)))
        (Zg (Zq f_bl)))
        Y0)
      (Zg (Zq f_bl)))
      Y0)
    (Zd (Yi (PW.pt (Z2c (Vg (Ys rfl (Yd rfl G_is_safe (hr.mono (by omega)) hG (by rfl) (Jp C) (U4 C).kp (Jl C) .nil Dfl.nil tk (Z9 (Za (pv 3)) (Z9 (Za (pv 2)) Zf)) (Z0 (Z0 Zb))))) (Qi (Zk (Z0k hr.units rfl) (Za (pv 3)) (f_c (pe_glob (v := .str (S Yk)) rfl g_NOT_FIRST ⟨_,rfl⟩) (fun _ _ => .str _)) rfl))))
      (Zd (Vi (Zv rfl (Ze C) (Zz C) G_Source_miss (hr.mono (by omega)) hG (Zy C) .nil Dfl.nil tk (Za (pv 0)) (Z9 (Za (pv 1)) Zf) (Z0 Zb)))
      (Zg (Zq f_bl)))
      Y0)
    (Zg (Zq f_bl))))))
theorem Z5v : GT P w K mg base 2 (mY "Source" "indented") Uu 3 W4 := by
  have G_Source_at := @Yl P base w K mg C
  have G_Source_miss := @Ye P base w K mg C
  refine fnFD (Z0d C) Z03 fun cdv A outer s H E hr hG => ?_
  exact (Zd (Z3j (passes_of rfl) rfl (Z0v (by rfl) (Z3a C) (Z9 (Za (pv 2)) Zf) (Z0 Zb)) (Vj (i := 3) Z03.nd rfl (Or.inl rfl))
      (Zg (Yi (Zk (o_ne hr.units rfl) (Zv rfl (Ze C) (Zx C) G_Source_at (hr.mono (by omega)) hG (Zw C) .nil Dfl.nil tk (Za (pv 0)) (Z9 (f_op (Y7 rfl) (Za (pv 1)) (Za (pv 3))) Zf) (Z0 Zb)) (Zh [32]) (nomark _))
        (Zg (Zq (Zv rfl (Ze C) (Zz C) G_Source_miss (hr.mono (by omega)) hG (Zy C) .nil Dfl.nil tk (Za (pv 0)) (Z9 (f_op (Y7 rfl) (Za (pv 1)) (Za (pv 3))) Zf) (Z0 Zb))))
        Y0)))
    (Zg (Zq (f_op (Y7 rfl) (Za (pv 1)) (X8 (Zep rfl) (by rfl) (Z8b C) (by decide +kernel) (Z9 f_int (Z9 (Za (pv 2)) Zf)))))))
theorem Zbj : GT P w K mg base 3 (gY "plain_fold") Z2j 3 Qo := by
  have G_Source_past_blanks := @Yt P base w K mg C
  have G_Source_indented := @Z5v P base w K mg C
  have G_Source_at := @Yl P base w K mg C
  have G_Source_miss := @Ye P base w K mg C
  refine fnFD (Z1y C) Wg fun cdv A outer s H E hr hG => ?_
  exact (Zd (Zt (i := 3) Wg.nd rfl (Or.inl rfl) (Zv rfl (Ze C) (Y6 C) G_Source_past_blanks (hr.mono (by omega)) hG (Y5 C) .nil Dfl.nil tk (Za (pv 0)) (Z9 (Za (pv 1)) Zf) (Z0 Zb)))
    (Zd (Yi (Zk (o_ne hr.units rfl) (Zv rfl (Ze C) (Zx C) G_Source_at (hr.mono (by omega)) hG (Zw C) .nil Dfl.nil tk (Za (pv 0)) (Z9 (Za (pv 3)) Zf) (Z0 Zb)) (Zh [10]) (nomark _))
      (Zg (Zq (Zv rfl (Ze C) (Zz C) G_Source_miss (hr.mono (by omega)) hG (Zy C) .nil Dfl.nil tk (Za (pv 0)) (Z9 (Za (pv 3)) Zf) (Z0 Zb))))
      Y0)
    (Zd (Z2d (i := 3) Wg.nd rfl (Or.inl rfl) f_int Z01)
    (Zd (Zt (i := 4) Wg.nd rfl (Or.inl rfl) f_int)
    (Zd (Jb (passes_of rfl) (Zk (o_eq hr.units rfl) (Zv rfl (Ze C) (Zx C) G_Source_at (hr.mono (by omega)) hG (Zw C) .nil Dfl.nil tk (Za (pv 0)) (Z9 (Zv rfl (Ze C) (Y6 C) G_Source_past_blanks (hr.mono (by omega)) hG (Y5 C) .nil Dfl.nil tk (Za (pv 0)) (Z9 (Za (pv 3)) Zf) (Z0 Zb)) Zf) (Z0 Zb)) (Zh [10]) (nomark _))
      (Zd (Zt (i := 3) Wg.nd rfl (Or.inl rfl) (f_op (Y7 rfl) (Zv rfl (Ze C) (Y6 C) G_Source_past_blanks (hr.mono (by omega)) hG (Y5 C) .nil Dfl.nil tk (Za (pv 0)) (Z9 (Za (pv 3)) Zf) (Z0 Zb)) f_int))
      (Zg (Z2d (i := 4) Wg.nd rfl (Or.inl rfl) f_int Z01))))
    (Zd (Zt (i := 5) Wg.nd rfl (Or.inl rfl) (Zv rfl (Ze C) (Z5s C) G_Source_indented (hr.mono (by omega)) hG (Z5o C) .nil Dfl.nil tk (Za (pv 0)) (Z9 (Za (pv 3)) (Z9 (Za (pv 2)) Zf)) (Z0 (Z0 Zb))))
    (Zd (Yi (Zk o_is (Za (pv 5)) Qq (nomark _))
      (Zg (Zq Qq))
      Y0)
    (Zg (Zq (f_tup (Z9 (Zv rfl (Ze C) (Y6 C) G_Source_past_blanks (hr.mono (by omega)) hG (Y5 C) .nil Dfl.nil tk (Za (pv 0)) (Z9 (Za (pv 5)) Zf) (Z0 Zb)) (Z9 (f_if (Ys rfl (Za (pv 4))) (f_op Jt (Zh [10]) (Za (pv 4))) (Zh [32])) Zf)) (Z0 (Z0 Zb))))))))))))
theorem Zim : GT P w K mg base 6 (gY "plain") Zd1 4 Z7v := by
  have G_row_end := @Zfa P base w K mg C
  have G_is_first := @Zde P base w K mg C
  have G_plain_fold := @Zbj P base w K mg C
  have G_is_next := @Za9 P base w K mg C
  have g_ON_A_LINE := Z31 C
  have q_ON_A_LINE := Z30 C
  refine fnFD (fd_plain C) Z35 fun cdv A outer s H E hr hG => ?_
  exact (Zd (Yi (Vg (Ys rfl (Yd rfl G_is_first (hr.mono (by omega)) hG (by rfl) (Zdc C) (Z4q C).kp (Zd8 C) .nil Dfl.nil tk (Z9 (Za (pv 0)) (Z9 (Za (pv 1)) (Z9 (Za (pv 3)) Zf))) (Z0 (Z0 (Z0 Zb))))))
      (Zg (Zq Qq))
      Y0)
    (Zd (Zt (i := 4) Z35.nd rfl (Or.inl rfl) (Yd rfl G_row_end (hr.mono (by omega)) hG (by rfl) (Za7 C) (Z38 C).kp (Za4 C) .nil Dfl.nil tk (Z9 (Za (pv 0)) (Z9 (f_op (Y7 rfl) (Za (pv 1)) f_int) (Z9 (Za (pv 3)) Zf))) (Z0 (Z0 (Z0 Zb)))))
    (Zd (Zt (i := 5) Z35.nd rfl (Or.inl rfl) (f_sl rfl (Xr rfl (Fx.FldOk.cons (Ze C) (X7 C) .nil) (Za (pv 0))) (Xk (Za (pv 1))) (Xk (Za (pv 4)))))
    (Zd (Jb (passes_of rfl) (Zk (Z51 hr.units rfl) (Za (pv 3)) (f_c (pe_glob (v := .ref (He.ga _ "ON_A_LINE")) rfl g_ON_A_LINE rfl) (fun _ H => .tup (q_ON_A_LINE H) Z2x)) rfl)
      (Zd (Zt (i := 6) Z35.nd rfl (Or.inl rfl) (Yd rfl G_plain_fold (hr.mono (by omega)) hG (by rfl) (Zbg C) (Z1y C).kp (Zb9 C) .nil Dfl.nil tk (Z9 (Za (pv 0)) (Z9 (Za (pv 4)) (Z9 (Za (pv 2)) Zf))) (Z0 (Z0 (Z0 Zb)))))
      (Zd (Yi (PW.pt (Z2c (Zk o_is (Za (pv 6)) Qq (nomark _)) (Qi (Vg (Ys rfl (Yd rfl G_is_next (hr.mono (by omega)) hG (by rfl) (Za6 C) (Z37 C).kp (Za3 C) .nil Dfl.nil tk (Z9 (Za (pv 0)) (Z9 (f_ix (Vn hr.units rfl) (Za (pv 6)) f_int (fun _ _ => rfl)) (Z9 (Za (pv 3)) (Z9 f_bl Zf)))) (Z0 (Z0 (Z0 (Z0 Zb))))))))))
        (Zg Zj9)
        Y0)
      (Zd (Zt (i := 4) Z35.nd rfl (Or.inl rfl) (Yd rfl G_row_end (hr.mono (by omega)) hG (by rfl) (Za7 C) (Z38 C).kp (Za4 C) .nil Dfl.nil tk (Z9 (Za (pv 0)) (Z9 (f_op (Y7 rfl) (f_ix (Vn hr.units rfl) (Za (pv 6)) f_int (fun _ _ => rfl)) f_int) (Z9 (Za (pv 3)) Zf))) (Z0 (Z0 (Z0 Zb)))))
      (Zg (Z2d (i := 5) Z35.nd rfl (Or.inl rfl) (f_op (Y7 rfl) (f_ix (Vn hr.units rfl) (Za (pv 6)) f_int (fun _ _ => rfl)) (f_sl rfl (Xr rfl (Fx.FldOk.cons (Ze C) (X7 C) .nil) (Za (pv 0))) (Xk (f_ix (Vn hr.units rfl) (Za (pv 6)) f_int (fun _ _ => rfl))) (Xk (Za (pv 4))))) Z01))))))
    (Zg (Zq (f_tup (Z9 (Za (pv 4)) (Z9 (Za (pv 5)) Zf)) (Z0 (Z0 Zb)))))))))
theorem Ja : GT P w K mg base 2 (mY "Source" "past_white") Vw 2 Wn := by
  have G_Source_at := @Yl P base w K mg C
  refine fnFD (Qy C) Qt fun cdv A outer s H E hr hG => ?_
  exact (Zd (Jb (passes_of rfl) (Zk (Z0k hr.units rfl) (Zv rfl (Ze C) (Zx C) G_Source_at (hr.mono (by omega)) hG (Zw C) .nil Dfl.nil tk (Za (pv 0)) (Z9 (Za (pv 1)) Zf) (Z0 Zb)) (f_tup (Z9 (Zh [32]) (Z9 (Zh [9]) Zf)) (Z0 (Z0 Zb))) rfl)
      (Zg (Z2d (i := 1) Qt.nd rfl (Or.inl rfl) f_int Z01)))
    (Zg (Zq (Za (pv 1)))))
theorem Z5w : GT P w K mg base 4 (gY "quote_fold") Z2k 3 Z2t := by
  have G_Source_past_blanks := @Yt P base w K mg C
  have G_Source_miss := @Ye P base w K mg C
  have G_Source_past_white := @Ja P base w K mg C
  have G_Source_at := @Yl P base w K mg C
  have G_Source_is_barred := @Xp P base w K mg C
  refine fnFD (Jh C) Ve fun cdv A outer s H E hr hG => ?_
  exact (Zd (Zt (i := 3) Ve.nd rfl (Or.inl rfl) f_int)
    (Zg (Jb (passes_of rfl) (Ys rfl f_bl)
      (Zd (Zt (i := 4) Ve.nd rfl (Or.inl rfl) (Zv rfl (Ze C) (Y6 C) G_Source_past_blanks (hr.mono (by omega)) hG (Y5 C) .nil Dfl.nil tk (Za (pv 0)) (Z9 (Za (pv 1)) Zf) (Z0 Zb)))
      (Zd (Yi (PW.pt (Vm (Zk o_lt (f_op Z4x (Za (pv 4)) (Za (pv 1))) (Za (pv 2)) (nomark _)) (W8 (Zk (o_ne hr.units rfl) (Zv rfl (Ze C) (Zx C) G_Source_at (hr.mono (by omega)) hG (Zw C) .nil Dfl.nil tk (Za (pv 0)) (Z9 (Za (pv 4)) Zf) (Z0 Zb)) (Zh [10]) (nomark _)))))
        (Zg (Zq (Zv rfl (Ze C) (Zz C) G_Source_miss (hr.mono (by omega)) hG (Zy C) .nil Dfl.nil tk (Za (pv 0)) (Z9 (Za (pv 4)) Zf) (Z0 Zb))))
        Y0)
      (Zd (Yi (Zk Zln (f_op Z4x (Za (pv 4)) (Za (pv 1))) (Za (pv 2)) (nomark _))
        (Zg (Zt (i := 4) Ve.nd rfl (Or.inl rfl) (Zv rfl (Ze C) (J9 C) G_Source_past_white (hr.mono (by omega)) hG (Qz C) .nil Dfl.nil tk (Za (pv 0)) (Z9 (f_op (Y7 rfl) (Za (pv 1)) (Za (pv 2))) Zf) (Z0 Zb))))
        Y0)
      (Zd (Yi (Zk (o_ne hr.units rfl) (Zv rfl (Ze C) (Zx C) G_Source_at (hr.mono (by omega)) hG (Zw C) .nil Dfl.nil tk (Za (pv 0)) (Z9 (Za (pv 4)) Zf) (Z0 Zb)) (Zh [10]) (nomark _))
        (Zg (Zq (f_if (Ys rfl (Zv rfl (Ze C) (Xo C) G_Source_is_barred (hr.mono (by omega)) hG (Xn C) .nil Dfl.nil tk (Za (pv 0)) (Z9 (Za (pv 1)) Zf) (Z0 Zb))) Qq (f_tup (Z9 (Za (pv 4)) (Z9 (Za (pv 3)) Zf)) (Z0 (Z0 Zb))))))
        Y0)
      (Zd (Z2d (i := 3) Ve.nd rfl (Or.inl rfl) f_int Z01)
      (Zg (Zt (i := 1) Ve.nd rfl (Or.inl rfl) (f_op (Y7 rfl) (Za (pv 4)) f_int)))))))))))
theorem Z9k : GT P w K mg base 5 (gY "folded_part") Z1i 4 Z1w := by
  have G_quote_fold := @Z5w P base w K mg C
  have G_Source_miss := @Ye P base w K mg C
  have g_ON_A_LINE := Z31 C
  have q_ON_A_LINE := Z30 C
  refine fnFD (Z0q C) Z3q fun cdv A outer s H E hr hG => ?_
  exact (Zd (Zt (i := 4) Z3q.nd rfl (Or.inl rfl) (f_if (Zk (Z0k hr.units rfl) (Za (pv 3)) (f_c (pe_glob (v := .ref (He.ga _ "ON_A_LINE")) rfl g_ON_A_LINE rfl) (fun _ H => .tup (q_ON_A_LINE H) Z2x)) rfl) Qq (Yd rfl G_quote_fold (hr.mono (by omega)) hG (by rfl) (Z5t C) (Jh C).kp (Z5p C) .nil Dfl.nil tk (Z9 (Za (pv 0)) (Z9 (f_op (Y7 rfl) (Za (pv 1)) f_int) (Z9 (Za (pv 2)) Zf))) (Z0 (Z0 (Z0 Zb))))))
    (Zd (Yi (Zk o_is (Za (pv 4)) Qq (nomark _))
      (Zg (Zq (Zv rfl (Ze C) (Zz C) G_Source_miss (hr.mono (by omega)) hG (Zy C) .nil Dfl.nil tk (Za (pv 0)) (Z9 (Za (pv 1)) Zf) (Z0 Zb))))
      Y0)
    (Zg (Zq (f_tup (Z9 (f_ix (Vn hr.units rfl) (Za (pv 4)) f_int (fun _ _ => rfl)) (Z9 (f_if (Ys rfl (f_ix (Vn hr.units rfl) (Za (pv 4)) f_int (fun _ _ => rfl))) (f_op Jt (Zh [10]) (f_ix (Vn hr.units rfl) (Za (pv 4)) f_int (fun _ _ => rfl))) (Zh [32])) Zf)) (Z0 (Z0 Zb)))))))
theorem Zfb : GT P w K mg base 5 (gY "escaped") Z7l 4 Z7w := by
  have G_Source_at := @Yl P base w K mg C
  have G_quote_fold := @Z5w P base w K mg C
  have G_Source_miss := @Ye P base w K mg C
  have g_ESCAPES := Zf6 C
  have g_ON_A_LINE := Z31 C
  have q_ON_A_LINE := Z30 C
  refine fnFD (Z6h C) Z69 fun cdv A outer s H E hr hG => ?_
  exact (Zd (Zt (i := 4) Z69.nd rfl (Or.inl rfl) (Zv rfl (Ze C) (Zx C) G_Source_at (hr.mono (by omega)) hG (Zw C) .nil Dfl.nil tk (Za (pv 0)) (Z9 (f_op (Y7 rfl) (Za (pv 1)) f_int) Zf) (Z0 Zb)))
    (Zd (Yi (PW.pt (Vm (Zk (o_eq hr.units rfl) (Za (pv 4)) (Zh [10]) (nomark _)) (W8 (Zk (Z51 hr.units rfl) (Za (pv 3)) (f_c (pe_glob (v := .ref (He.ga _ "ON_A_LINE")) rfl g_ON_A_LINE rfl) (fun _ H => .tup (q_ON_A_LINE H) Z2x)) rfl))))
      (Zd (Zt (i := 5) Z69.nd rfl (Or.inl rfl) (Yd rfl G_quote_fold (hr.mono (by omega)) hG (by rfl) (Z5t C) (Jh C).kp (Z5p C) .nil Dfl.nil tk (Z9 (Za (pv 0)) (Z9 (f_op (Y7 rfl) (Za (pv 1)) f_int) (Z9 (Za (pv 2)) Zf))) (Z0 (Z0 (Z0 Zb)))))
      (Zg (Zq (f_if (Zk o_is (Za (pv 5)) Qq (nomark _)) Qq (f_tup (Z9 (f_ix (Vn hr.units rfl) (Za (pv 5)) f_int (fun _ _ => rfl)) (Z9 (f_op Jt (Zh [10]) (f_ix (Vn hr.units rfl) (Za (pv 5)) f_int (fun _ _ => rfl))) Zf)) (Z0 (Z0 Zb)))))))
      Y0)
    (Zd (Yi (Z9z rfl (by rfl) g_ESCAPES (Za (pv 4)))
      (Zg (Zq (Zv rfl (Ze C) (Zz C) G_Source_miss (hr.mono (by omega)) hG (Zy C) .nil Dfl.nil tk (Za (pv 0)) (Z9 (f_op (Y7 rfl) (Za (pv 1)) f_int) Zf) (Z0 Zb))))
      Y0)
    (Zg (Zq (f_tup (Z9 (f_op (Y7 rfl) (Za (pv 1)) f_int) (Z9 (Zc0 rfl (by rfl) g_ESCAPES (Za (pv 4)) (fun _ _ => rfl)) Zf)) (Z0 (Z0 Zb))))))))
theorem Zgv : GT P w K mg base 6 (gY "quoted") Zan 4 Ze6 := by
  have G_Source_at := @Yl P base w K mg C
  have G_Source_past_white := @Ja P base w K mg C
  have G_Source_miss := @Ye P base w K mg C
  have G_folded_part := @Z9k P base w K mg C
  have G_escaped := @Zfb P base w K mg C
  refine fnFD (Z84 C) Wr fun cdv A outer s H E hr hG => ?_
  exact (Zd (Zt (i := 4) Wr.nd rfl (Or.inl rfl) (Zv rfl (Ze C) (Zx C) G_Source_at (hr.mono (by omega)) hG (Zw C) .nil Dfl.nil tk (Za (pv 0)) (Z9 (Za (pv 1)) Zf) (Z0 Zb)))
    (Zd (Zt (i := 5) Wr.nd rfl (Or.inl rfl) (Zh []))
    (Zd (Z2d (i := 1) Wr.nd rfl (Or.inl rfl) f_int Z01)
    (Zg (Jb (passes_of rfl) (Ys rfl f_bl)
      (Zd (Zt (i := 6) Wr.nd rfl (Or.inl rfl) (Zv rfl (Ze C) (Zx C) G_Source_at (hr.mono (by omega)) hG (Zw C) .nil Dfl.nil tk (Za (pv 0)) (Z9 (Za (pv 1)) Zf) (Z0 Zb)))
      (Zd (Yi (PW.pt (Vm (Zk (o_eq hr.units rfl) (Za (pv 6)) (Za (pv 4)) (nomark _)) (W8 (PW.pt (Z2c (Zk (o_eq hr.units rfl) (Za (pv 4)) (Zh [34]) (nomark _)) (Qi (Zk (o_ne hr.units rfl) (Zv rfl (Ze C) (Zx C) G_Source_at (hr.mono (by omega)) hG (Zw C) .nil Dfl.nil tk (Za (pv 0)) (Z9 (f_op (Y7 rfl) (Za (pv 1)) f_int) Zf) (Z0 Zb)) (Za (pv 4)) (nomark _))))))))
        (Zg (Zq (f_tup (Z9 (f_op (Y7 rfl) (Za (pv 1)) f_int) (Z9 (Za (pv 5)) Zf)) (Z0 (Z0 Zb)))))
        Y0)
      (Zd (Yi (Zk (o_eq hr.units rfl) (Za (pv 6)) (Zh []) (nomark _))
        (Zg (Zq (Zv rfl (Ze C) (Zz C) G_Source_miss (hr.mono (by omega)) hG (Zy C) .nil Dfl.nil tk (Za (pv 0)) (Z9 (Za (pv 1)) Zf) (Z0 Zb))))
        Y0)
      (Zd (Zt (i := 7) Wr.nd rfl (Or.inl rfl) (Zv rfl (Ze C) (J9 C) G_Source_past_white (hr.mono (by omega)) hG (Qz C) .nil Dfl.nil tk (Za (pv 0)) (Z9 (Za (pv 1)) Zf) (Z0 Zb)))
      (Zd (Zt (i := 8) Wr.nd rfl (Or.inl rfl) (f_tup (Z9 (X8 (Zep rfl) (by rfl) (Z8b C) (by decide +kernel) (Z9 (Za (pv 7)) (Z9 (f_op (Y7 rfl) (Za (pv 1)) f_int) Zf))) (Z9 (f_sl rfl (Xr rfl (Fx.FldOk.cons (Ze C) (X7 C) .nil) (Za (pv 0))) (Xk (Za (pv 1))) (Xk (X8 (Zep rfl) (by rfl) (Z8b C) (by decide +kernel) (Z9 (Za (pv 7)) (Z9 (f_op (Y7 rfl) (Za (pv 1)) f_int) Zf))))) Zf)) (Z0 (Z0 Zb))))
      (Zd (Yi (Zk (o_eq hr.units rfl) (Zv rfl (Ze C) (Zx C) G_Source_at (hr.mono (by omega)) hG (Zw C) .nil Dfl.nil tk (Za (pv 0)) (Z9 (Za (pv 7)) Zf) (Z0 Zb)) (Zh [10]) (nomark _))
        (Zg (Zt (i := 8) Wr.nd rfl (Or.inl rfl) (Yd rfl G_folded_part (hr.mono (by omega)) hG (by rfl) (Z9b C) (Z0q C).kp (Z92 C) .nil Dfl.nil tk (Z9 (Za (pv 0)) (Z9 (Za (pv 7)) (Z9 (Za (pv 2)) (Z9 (Za (pv 3)) Zf)))) (Z0 (Z0 (Z0 (Z0 Zb)))))))
        (Zg (Yi (Zk (o_eq hr.units rfl) (Za (pv 6)) (Za (pv 4)) (nomark _))
          (Zg (Zt (i := 8) Wr.nd rfl (Or.inl rfl) (f_tup (Z9 (f_op (Y7 rfl) (Za (pv 1)) f_int) (Z9 (Za (pv 6)) Zf)) (Z0 (Z0 Zb)))))
          (Zg (Yi (PW.pt (Vm (Zk (o_eq hr.units rfl) (Za (pv 6)) (Zh [92]) (nomark _)) (W8 (Zk (o_eq hr.units rfl) (Za (pv 4)) (Zh [34]) (nomark _)))))
            (Zg (Zt (i := 8) Wr.nd rfl (Or.inl rfl) (Yd rfl G_escaped (hr.mono (by omega)) hG (by rfl) (Zf8 C) (Z6h C).kp (Zf4 C) .nil Dfl.nil tk (Z9 (Za (pv 0)) (Z9 (Za (pv 1)) (Z9 (Za (pv 2)) (Z9 (Za (pv 3)) Zf)))) (Z0 (Z0 (Z0 (Z0 Zb)))))))
            Y0)))))
      (Zd (Yi (Zk o_is (Za (pv 8)) Qq (nomark _))
        (Zg (Zq Qq))
        Y0)
      (Zd (Z2d (i := 5) Wr.nd rfl (Or.inl rfl) (f_ix (Vn hr.units rfl) (Za (pv 8)) f_int (fun _ _ => rfl)) Z01)
      (Zg (Zt (i := 1) Wr.nd rfl (Or.inl rfl) (f_ix (Vn hr.units rfl) (Za (pv 8)) f_int (fun _ _ => rfl)))))))))))))))))
theorem Zaa : GT P w K mg base 1 (gY "is_text") Z7m 1 Z2u := by
  refine fnFD (Z39 C) Z6a fun cdv A outer s H E hr hG => ?_
  exact (Zg (Zq (Z4d rfl (X8 (Zfs rfl) (by rfl) (Uj C) (by decide +kernel) (Z9 (Za (pv 0)) (Z9 (f_c (pe_bltn (v := .ty "str") (by rfl) (Zgu C) (by decide +kernel) rfl) (fun _ _ => .ty _)) Zf))) (Z26 (X8 (Zlj rfl rfl) (by rfl) (fr_all C) (by decide +kernel) (Z9 (f_lc (own := [("sign", 1)]) (Z2e 1) (by decide) rfl Z6a.nd (Z3k rfl (Za (pv 0))) (blkOk_by (N := Zc7) (sc := defScope Qn) (by decide +kernel)) (fun _ _ _ _ _ => (pg_name (i := 1) Z6a.nd rfl (Or.inl rfl))) (fun _ _ _ _ _ => Z4f) (fun _ _ _ _ _ => (f_or rfl (Zad Z61 Z61 (Zh [32]) (Za (pv 1)) (Zh [126])) (Z26 (Um (Z0k hr.units rfl) (Za (pv 1)) (Zh [9,10]) rfl))))) Zf))))))
theorem Zbk : GT P w K mg base 1 (mY "Piece" "__init__") Z2l 4 Z6s := by
  refine fnFD (Z5q C) Zao fun cdv A outer s H E hr hG => ?_
  exact (Zd (Z2f rfl (Fx.FldOk.cons (Zr C) (Yh C) .nil) (Za (pv 0)) (Za (pv 1)))
    (Zd (Z79 (f_tup (Z9 (Za (pv 2)) (Z9 (Za (pv 3)) Zf)) (Z0 (Z0 Zb))) (Z9r rfl rfl (Vd (Zbz rfl (Fx.FldOk.cons (Zr C) (Z9a C) .nil) (Za (pv 0))) (Vd (Zbz rfl (Fx.FldOk.cons (Zr C) (Z14 C) .nil) (Za (pv 0))) Z5z))))
    (Zd (Z2f rfl (Fx.FldOk.cons (Zr C) (Vf C) .nil) (Za (pv 0)) (Z27 Zf Zb))
    (Zd (Z2f rfl (Fx.FldOk.cons (Zr C) (Wu C) .nil) (Za (pv 0)) f_int)
    (Zd (Z79 (f_tup (Z9 f_int (Z9 (Zh []) Zf)) (Z0 (Z0 Zb))) (Z9r rfl rfl (Vd (Zbz rfl (Fx.FldOk.cons (Zr C) (Qe C) .nil) (Za (pv 0))) (Vd (Zbz rfl (Fx.FldOk.cons (Zr C) (Wx C) .nil) (Za (pv 0))) Z5z))))
    (Zg (Z2f rfl (Fx.FldOk.cons (Zr C) (U5 C) .nil) (Za (pv 0)) (f_op (Y7 rfl) (Za (pv 2)) f_int))))))))
theorem Z0j : GT P w K mg base 1 (mY "Source" "line_end") Uv 2 Uz := by
  refine fnFD (Z0e C) Z05 fun cdv A outer s H E hr hG => ?_
  exact (Zd (Zt (i := 2) Z05.nd rfl (Or.inl rfl) (f_bm rfl PySem.F.plainAttrs_str PySem.F.slot_str_find PySem.F.type_str_find Zk8 (Xr rfl (Fx.FldOk.cons (Ze C) (X7 C) .nil) (Za (pv 0))) (Z9 (Zh [10]) (Z9 (Za (pv 1)) Zf))))
    (Zg (Zq (f_if (Zk o_lt (Za (pv 2)) f_int (nomark _)) (Xr rfl (Fx.FldOk.cons (Ze C) (Xb C) .nil) (Za (pv 0))) (Za (pv 2))))))
theorem Z8c : GT P w K mg base 3 (mY "Source" "close") Z0l 2 Z41 := by
  have G_Source_past_blanks := @Yt P base w K mg C
  have G_Source_line_end := @Z0j P base w K mg C
  have G_Source_miss := @Ye P base w K mg C
  have G_Source_at := @Yl P base w K mg C
  have G_Source_is_begin := @Z0i P base w K mg C
  refine fnFD (Z2z C) N6 fun cdv A outer s H E hr hG => ?_
  exact (Zd (Zt (i := 2) N6.nd rfl (Or.inl rfl) (Zv rfl (Ze C) (Y6 C) G_Source_past_blanks (hr.mono (by omega)) hG (Y5 C) .nil Dfl.nil tk (Za (pv 0)) (Z9 (Za (pv 1)) Zf) (Z0 Zb)))
    (Zd (Yi (PW.pt (Vm (Zk (o_eq hr.units rfl) (Zv rfl (Ze C) (Zx C) G_Source_at (hr.mono (by omega)) hG (Zw C) .nil Dfl.nil tk (Za (pv 0)) (Z9 (Za (pv 2)) Zf) (Z0 Zb)) (Zh [35]) (nomark _)) (W8 (PW.pt (Z2c (Zk Zes (Za (pv 2)) (Za (pv 1)) (nomark _)) (Qi (Ys rfl (Zv rfl (Ze C) (Z0g C) G_Source_is_begin (hr.mono (by omega)) hG (Z0c C) .nil Dfl.nil tk (Za (pv 0)) (Z9 (Za (pv 1)) Zf) (Z0 Zb)))))))))
      (Zg (Zt (i := 2) N6.nd rfl (Or.inl rfl) (Zv rfl (Ze C) (Z0h C) G_Source_line_end (hr.mono (by omega)) hG (Z0f C) .nil Dfl.nil tk (Za (pv 0)) (Z9 (Za (pv 2)) Zf) (Z0 Zb))))
      Y0)
    (Zd (Yi (Zk (o_eq hr.units rfl) (Za (pv 2)) (Xr rfl (Fx.FldOk.cons (Ze C) (Xb C) .nil) (Za (pv 0))) (nomark _))
      (Zg (Zq (Za (pv 2))))
      Y0)
    (Zg (Zq (f_if (Zk (o_eq hr.units rfl) (Zv rfl (Ze C) (Zx C) G_Source_at (hr.mono (by omega)) hG (Zw C) .nil Dfl.nil tk (Za (pv 0)) (Z9 (Za (pv 2)) Zf) (Z0 Zb)) (Zh [10]) (nomark _)) (f_op (Y7 rfl) (Za (pv 2)) f_int) (Zv rfl (Ze C) (Zz C) G_Source_miss (hr.mono (by omega)) hG (Zy C) .nil Dfl.nil tk (Za (pv 0)) (Z9 (Za (pv 2)) Zf) (Z0 Zb))))))))
theorem Z3h : GT P w K mg base 4 (mY "Piece" "read_header") Vx 1 Np := by
  have G_Source_close := @Z8c P base w K mg C
  have G_Source_at := @Yl P base w K mg C
  refine fnFD (J5 C) Xc fun cdv A outer s H E hr hG => ?_
  exact (Zd (Zt (i := 1) Xc.nd rfl (Or.inl rfl) f_bl)
    (Zd (Z3j (passes_of rfl) rfl (Z0v (by rfl) (Z3a C) (Z9 f_int Zf) (Z0 Zb)) (Vj (i := 2) Xc.nd rfl (Or.inl rfl))
      (Zd (Zt (i := 3) Xc.nd rfl (Or.inl rfl) (Zv rfl (Ze C) (Zx C) G_Source_at (hr.mono (by omega)) hG (Zw C) .nil Dfl.nil tk (Xr rfl (Fx.FldOk.cons (Zr C) (Yh C) .nil) (Za (pv 0))) (Z9 (Xr rfl (Fx.FldOk.cons (Zr C) (U5 C) .nil) (Za (pv 0))) Zf) (Z0 Zb)))
      (Zg (Yi (PW.pt (Vm (Zhu Z61 Z61 (Zh [49]) (Za (pv 3)) (Zh [57])) (W8 (Vg (Ys rfl (Za (pv 1)))))))
        (Zd (Z79 (f_tup (Z9 (Vr (Z23 (nd_ C)) (by rfl) (Z16 C) (by decide +kernel) (Z9 (Za (pv 3)) Zf)) (Z9 f_bl Zf)) (Z0 (Z0 Zb))) (Z9r rfl rfl (Vd (Zbz rfl (Fx.FldOk.cons (Zr C) (Qe C) .nil) (Za (pv 0))) (Vd (Vj (i := 1) Xc.nd rfl (Or.inl rfl)) Z5z))))
        (Zg (Zcx rfl (Fx.FldOk.cons (Zr C) (U5 C) .nil) (Za (pv 0)) f_int Z01)))
        (Zg (Yi (PW.pt (Vm (Zk (o_ne hr.units rfl) (Za (pv 3)) (Zh []) (nomark _)) (Vm (Zk (Z0k hr.units rfl) (Za (pv 3)) (Zh [43,45]) rfl) (W8 (Zk (o_eq hr.units rfl) (Xr rfl (Fx.FldOk.cons (Zr C) (Wx C) .nil) (Za (pv 0))) (Zh []) (nomark _))))))
          (Zd (Z2f rfl (Fx.FldOk.cons (Zr C) (Wx C) .nil) (Za (pv 0)) (Za (pv 3)))
          (Zg (Zcx rfl (Fx.FldOk.cons (Zr C) (U5 C) .nil) (Za (pv 0)) f_int Z01)))
          Y0))))))
    (Zg (Zq (Zv rfl (Ze C) (Z88 C) G_Source_close (hr.mono (by omega)) hG (Z85 C) .nil Dfl.nil tk (Xr rfl (Fx.FldOk.cons (Zr C) (Yh C) .nil) (Za (pv 0))) (Z9 (Xr rfl (Fx.FldOk.cons (Zr C) (U5 C) .nil) (Za (pv 0))) Zf) (Z0 Zb))))))
theorem Z4u : GT P w K mg base 1 (mY "Piece" "last_feeds") U8 1 Z09 := by
  refine fnFD (Nu C) N7 fun cdv A outer s H E hr hG => ?_
  exact (Zd (Yi (PW.pt (Z2c (Zk (o_eq hr.units rfl) (Xr rfl (Fx.FldOk.cons (Zr C) (Wx C) .nil) (Za (pv 0))) (Zh [45]) (nomark _)) (Qi (PW.pt (Vm (Zk (o_eqL hr.units rfl) (Xr rfl (Fx.FldOk.cons (Zr C) (Vf C) .nil) (Za (pv 0))) (Z27 Zf Zb) (nomark _)) (W8 (Zk (o_eq hr.units rfl) (Xr rfl (Fx.FldOk.cons (Zr C) (Wx C) .nil) (Za (pv 0))) (Zh []) (nomark _))))))))
      (Zg (Zq (Zh [])))
      Y0)
    (Zd (Zt (i := 1) N7.nd rfl (Or.inl rfl) (Vr (Z23 (nd_ C)) (by rfl) (Z16 C) (by decide +kernel) (Z9 (Z4d rfl (Um (Zm5 hr.units rfl) (Xr rfl (Fx.FldOk.cons (Zr C) (Vf C) .nil) (Za (pv 0))) (Z27 Zf Zb) (nomark _)) (Z26 (f_ix (Vn hr.units rfl) (f_ix (Vn hr.units rfl) (Xr rfl (Fx.FldOk.cons (Zr C) (Vf C) .nil) (Za (pv 0))) (Zi2 f_int) (fun _ _ => rfl)) f_int (fun _ _ => rfl)))) Zf)))
    (Zg (Zq (f_op Jt (Zh [10]) (f_op (Y7 rfl) (Za (pv 1)) (f_op Jt (Xr rfl (Fx.FldOk.cons (Zr C) (Wu C) .nil) (Za (pv 0))) (Vr (Z23 (nd_ C)) (by rfl) (Z16 C) (by decide +kernel) (Z9 (Um (o_eq hr.units rfl) (Xr rfl (Fx.FldOk.cons (Zr C) (Wx C) .nil) (Za (pv 0))) (Zh [43]) (nomark _)) Zf)))))))))
theorem Z9l : GT P w K mg base 2 (mY "Piece" "value") Z1k 2 Z5k := by
  have G_Piece_last_feeds := @Z4u P base w K mg C
  refine fnFD (Z46 C) Yb fun cdv A outer s H E hr hG => ?_
  exact (Zd (Zt (i := 2) Yb.nd rfl (Or.inl rfl) (Zh []))
    (Zd (Zt (i := 3) Yb.nd rfl (Or.inl rfl) f_bl)
    (Zd (Z3j (passes_of rfl) rfl (Zdu rfl (by rfl) (Z6x C) (Z9 (Xr rfl (Fx.FldOk.cons (Zr C) (Vf C) .nil) (Za (pv 0))) Zf) (Z0 Zb)) (Z9r rfl rfl (Vd (Vj (i := 4) Yb.nd rfl (Or.inl rfl)) (Vd (Vj (i := 5) Yb.nd rfl (Or.inl rfl)) Z5z)))
      (Zd (Z79 (Za (pv 5)) (Z9r rfl rfl (Vd (Vj (i := 6) Yb.nd rfl (Or.inl rfl)) (Vd (Vj (i := 7) Yb.nd rfl (Or.inl rfl)) (Vd (Vj (i := 8) Yb.nd rfl (Or.inl rfl)) Z5z)))))
      (Zd (Zt (i := 9) Yb.nd rfl (Or.inl rfl) (Um (Z0k hr.units rfl) (f_sl rfl (Za (pv 7)) Ju (Xk f_int)) (f_tup (Z9 (Zh [32]) (Z9 (Zh [9]) Zf)) (Z0 (Z0 Zb))) rfl))
      (Zd (Yi (Zk (o_eq hr.units rfl) (Za (pv 4)) f_int (nomark _))
        (Zg (Zt (i := 2) Yb.nd rfl (Or.inl rfl) (f_op Jt (Zh [10]) (Za (pv 6)))))
        (Zg (Yi (PW.pt (Vm (Ys rfl (Za (pv 1))) (Vm (Vg (Ys rfl (Za (pv 3)))) (W8 (Vg (Ys rfl (Za (pv 9))))))))
          (Zg (Z2d (i := 2) Yb.nd rfl (Or.inl rfl) (f_if (Ys rfl (Za (pv 6))) (f_op Jt (Zh [10]) (Za (pv 6))) (Zh [32])) Z01))
          (Zg (Z2d (i := 2) Yb.nd rfl (Or.inl rfl) (f_op Jt (Zh [10]) (f_op (Y7 rfl) (Za (pv 6)) f_int)) Z01)))))
      (Zd (Z2d (i := 2) Yb.nd rfl (Or.inl rfl) (Za (pv 7)) Z01)
      (Zg (Zt (i := 3) Yb.nd rfl (Or.inl rfl) (Za (pv 9)))))))))
    (Zg (Zq (f_op (Y7 rfl) (Za (pv 2)) (Zfx rfl (Zr C) (Z4s C) G_Piece_last_feeds (hr.mono (by omega)) hG (Z4r C) .nil Dfl.nil tk (Za (pv 0)))))))))
theorem Z22 : GT P w K mg base 3 (mY "Source" "expected_mark") Wy 3 V1 := by
  have G_Source_is_mark := @Z17 P base w K mg C
  obtain ⟨ds_Source_is_mark_0,dv_Source_is_mark_0,db_Source_is_mark_0⟩ := Nr C
  have G_Source_miss := @Ye P base w K mg C
  have G_Source_at := @Yl P base w K mg C
  refine fnFD (Ug C) Wj fun cdv A outer s H E hr hG => ?_
  exact (Zd (Z3j (passes_of rfl) rfl (Zdu rfl (by rfl) (Z6x C) (Z9 (Za (pv 2)) Zf) (Z0 Zb)) (Z9r rfl rfl (Vd (Vj (i := 3) Wj.nd rfl (Or.inl rfl)) (Vd (Vj (i := 4) Wj.nd rfl (Or.inl rfl)) Z5z)))
      (Zg (Yi (Zk (o_ne hr.units rfl) (Zv rfl (Ze C) (Zx C) G_Source_at (hr.mono (by omega)) hG (Zw C) .nil Dfl.nil tk (Za (pv 0)) (Z9 (f_op (Y7 rfl) (Za (pv 1)) (Za (pv 3))) Zf) (Z0 Zb)) (Za (pv 4)) (nomark _))
        (Zg (Zq (Zv rfl (Ze C) (Zz C) G_Source_miss (hr.mono (by omega)) hG (Zy C) .nil Dfl.nil tk (Za (pv 0)) (Z9 (f_op (Y7 rfl) (Za (pv 1)) (Za (pv 3))) Zf) (Z0 Zb))))
        Y0)))
    (Zg (Zq (f_if (Ys rfl (Zv rfl (Ze C) (Z15 C) G_Source_is_mark (hr.mono (by omega)) hG db_Source_is_mark_0 dv_Source_is_mark_0 (fun _ _ => (.cons (.tup (Z1b (C.c.fact 0) _) (.cons (.str _) (.cons (.str _) .nil))) .nil)) tk (Za (pv 0)) (Z9 (Za (pv 1)) Zf) (Z0 Zb))) (f_op (Y7 rfl) (Za (pv 1)) f_int) (Zv rfl (Ze C) (Zz C) G_Source_miss (hr.mono (by omega)) hG (Zy C) .nil Dfl.nil tk (Za (pv 0)) (Z9 (f_op (Y7 rfl) (Za (pv 1)) f_int) Zf) (Z0 Zb))))))
theorem Z3i : GT P w K mg base 4 (mY "Piece" "indentation") Vy 2 Nq := by
  have G_Source_miss := @Ye P base w K mg C
  have G_Source_past_blanks := @Yt P base w K mg C
  have G_Source_is_barred := @Xp P base w K mg C
  have G_Source_expected_mark := @Z22 P base w K mg C
  have G_Source_at := @Yl P base w K mg C
  refine fnFD (J8 C) Xd fun cdv A outer s H E hr hG => ?_
  exact (Zd (Yi (Zk Zes (Xr rfl (Fx.FldOk.cons (Zr C) (Qe C) .nil) (Za (pv 0))) f_int (nomark _))
      (Zg (Zq (f_op (Y7 rfl) (Xr rfl (Fx.FldOk.cons (Zr C) (Z14 C) .nil) (Za (pv 0))) (Xr rfl (Fx.FldOk.cons (Zr C) (Qe C) .nil) (Za (pv 0))))))
      Y0)
    (Zd (Zt (i := 2) Xd.nd rfl (Or.inl rfl) f_int)
    (Zd (Jb (passes_of rfl) (Ys rfl f_bl)
      (Zd (Zt (i := 3) Xd.nd rfl (Or.inl rfl) (Zv rfl (Ze C) (Y6 C) G_Source_past_blanks (hr.mono (by omega)) hG (Y5 C) .nil Dfl.nil tk (Xr rfl (Fx.FldOk.cons (Zr C) (Yh C) .nil) (Za (pv 0))) (Z9 (Za (pv 1)) Zf) (Z0 Zb)))
      (Zd (Yi (Zk (o_ne hr.units rfl) (Zv rfl (Ze C) (Zx C) G_Source_at (hr.mono (by omega)) hG (Zw C) .nil Dfl.nil tk (Xr rfl (Fx.FldOk.cons (Zr C) (Yh C) .nil) (Za (pv 0))) (Z9 (Za (pv 3)) Zf) (Z0 Zb)) (Zh [10]) (nomark _))
        (Zg Zj9)
        Y0)
      (Zd (Zt (i := 2) Xd.nd rfl (Or.inl rfl) (X8 (Zep rfl) (by rfl) (Z8b C) (by decide +kernel) (Z9 (Za (pv 2)) (Z9 (f_op Z4x (Za (pv 3)) (Za (pv 1))) Zf))))
      (Zg (Zt (i := 1) Xd.nd rfl (Or.inl rfl) (f_op (Y7 rfl) (Za (pv 3)) f_int)))))))
    (Zd (Vi (Zv rfl (Ze C) (Zz C) G_Source_miss (hr.mono (by omega)) hG (Zy C) .nil Dfl.nil tk (Xr rfl (Fx.FldOk.cons (Zr C) (Yh C) .nil) (Za (pv 0))) (Z9 (Za (pv 3)) Zf) (Z0 Zb)))
    (Zd (Yi (Zk (o_eq hr.units rfl) (Za (pv 3)) (Xr rfl (Fx.FldOk.cons (Ze C) (Xb C) .nil) (Xr rfl (Fx.FldOk.cons (Zr C) (Yh C) .nil) (Za (pv 0)))) (nomark _))
      (Zg (Zq (X8 (Zlw rfl rfl) (by rfl) (Z8b C) (by decide +kernel) (Z9 (f_op (Y7 rfl) (Xr rfl (Fx.FldOk.cons (Zr C) (Z14 C) .nil) (Za (pv 0))) f_int) (Z9 (Za (pv 2)) (Z9 (f_op Z4x (Za (pv 3)) (Za (pv 1))) Zf))))))
      Y0)
    (Zd (Yi (PW.pt (Z2c (Zk Z61 (f_op Z4x (Za (pv 3)) (Za (pv 1))) (Xr rfl (Fx.FldOk.cons (Zr C) (Z14 C) .nil) (Za (pv 0))) (nomark _)) (Qi (Ys rfl (Zv rfl (Ze C) (Xo C) G_Source_is_barred (hr.mono (by omega)) hG (Xn C) .nil Dfl.nil tk (Xr rfl (Fx.FldOk.cons (Zr C) (Yh C) .nil) (Za (pv 0))) (Z9 (Za (pv 1)) Zf) (Z0 Zb))))))
      (Zg (Zq (X8 (Zep rfl) (by rfl) (Z8b C) (by decide +kernel) (Z9 (f_op (Y7 rfl) (Xr rfl (Fx.FldOk.cons (Zr C) (Z14 C) .nil) (Za (pv 0))) f_int) (Z9 (Za (pv 2)) Zf)))))
      Y0)
    (Zd (Yi (Zk Z61 (Za (pv 2)) (f_op Z4x (Za (pv 3)) (Za (pv 1))) (nomark _))
      (Zg (Zq (f_op Z4x (Za (pv 3)) (Za (pv 1)))))
      Y0)
    (Zd (Yi (Zk (o_eq hr.units rfl) (Za (pv 3)) (Za (pv 1)) (nomark _))
      (Zd (Vi (Zv rfl (Ze C) (Ui C) G_Source_expected_mark (hr.mono (by omega)) hG (Uh C) .nil Dfl.nil tk (Xr rfl (Fx.FldOk.cons (Zr C) (Yh C) .nil) (Za (pv 0))) (Z9 (Za (pv 1)) (Z9 (Zh [45,45,45]) Zf)) (Z0 (Z0 Zb))))
      (Zg (Vi (Zv rfl (Ze C) (Ui C) G_Source_expected_mark (hr.mono (by omega)) hG (Uh C) .nil Dfl.nil tk (Xr rfl (Fx.FldOk.cons (Zr C) (Yh C) .nil) (Za (pv 0))) (Z9 (Za (pv 1)) (Z9 (Zh [46,46,46]) Zf)) (Z0 (Z0 Zb))))))
      Y0)
    (Zg (Zq Qq))))))))))
theorem Zbl : GT P w K mg base 4 (mY "Piece" "take") Z2n 3 Z6t := by
  have G_Source_miss := @Ye P base w K mg C
  have G_Source_past_blanks := @Yt P base w K mg C
  have G_Source_line_end := @Z0j P base w K mg C
  have G_Source_is_barred := @Xp P base w K mg C
  refine fnFD (Z5r C) Ua fun cdv A outer s H E hr hG => ?_
  exact (Zd (Zt (i := 3) Ua.nd rfl (Or.inl rfl) (Xr rfl (Fx.FldOk.cons (Zr C) (Yh C) .nil) (Za (pv 0))))
    (Zd (Jb (passes_of rfl) (Zk o_lt (Za (pv 1)) (Xr rfl (Fx.FldOk.cons (Ze C) (Xb C) .nil) (Za (pv 3))) (nomark _))
      (Zd (Zdq (i := 4) (j := 5) rfl Ua.nd rfl rfl (by decide) rfl rfl (Z9 (Zv rfl (Ze C) (Y6 C) G_Source_past_blanks (hr.mono (by omega)) hG (Y5 C) .nil Dfl.nil tk (Za (pv 3)) (Z9 (Za (pv 1)) Zf) (Z0 Zb)) (Z9 (Zv rfl (Ze C) (Z0h C) G_Source_line_end (hr.mono (by omega)) hG (Z0f C) .nil Dfl.nil tk (Za (pv 3)) (Z9 (Za (pv 1)) Zf) (Z0 Zb)) Zf)) (Z0 (Z0 Zb)) (by rfl))
      (Zd (Zt (i := 6) Ua.nd rfl (Or.inl rfl) (Um o_lt (Za (pv 5)) (Xr rfl (Fx.FldOk.cons (Ze C) (Xb C) .nil) (Za (pv 3))) (nomark _)))
      (Zd (Yi (PW.pt (Vm (Zk (o_eq hr.units rfl) (Za (pv 4)) (Za (pv 5)) (nomark _)) (W8 (Zk Z61 (f_op Z4x (Za (pv 4)) (Za (pv 1))) (Za (pv 2)) (nomark _)))))
        (Zg (Zcx rfl (Fx.FldOk.cons (Zr C) (Wu C) .nil) (Za (pv 0)) (Vr (Z23 (nd_ C)) (by rfl) (Z16 C) (by decide +kernel) (Z9 (Za (pv 6)) Zf)) Z01))
        (Zg (Yi (PW.pt (Z2c (Zk o_lt (f_op Z4x (Za (pv 4)) (Za (pv 1))) (Za (pv 2)) (nomark _)) (Qi (PW.pt (Vm (Zk (o_eq hr.units rfl) (Za (pv 2)) f_int (nomark _)) (W8 (Ys rfl (Zv rfl (Ze C) (Xo C) G_Source_is_barred (hr.mono (by omega)) hG (Xn C) .nil Dfl.nil tk (Za (pv 3)) (Z9 (Za (pv 1)) Zf) (Z0 Zb)))))))))
          (Zd (Vi (Zv rfl (Ze C) (Zz C) G_Source_miss (hr.mono (by omega)) hG (Zy C) .nil Dfl.nil tk (Za (pv 3)) (Z9 (Za (pv 4)) Zf) (Z0 Zb)))
          (Zg (Zq (Za (pv 1)))))
          (Zd (Vi (f_bm rfl PySem.F.plainAttrs_list PySem.F.slot_list_append PySem.F.type_list_append m_append (Xr rfl (Fx.FldOk.cons (Zr C) (Vf C) .nil) (Za (pv 0))) (Z9 (f_tup (Z9 (Xr rfl (Fx.FldOk.cons (Zr C) (Wu C) .nil) (Za (pv 0))) (Z9 (f_sl rfl (Xr rfl (Fx.FldOk.cons (Ze C) (X7 C) .nil) (Za (pv 3))) (Xk (f_op (Y7 rfl) (Za (pv 1)) (Za (pv 2)))) (Xk (Za (pv 5)))) (Z9 (Za (pv 6)) Zf))) (Z0 (Z0 (Z0 Zb)))) Zf)))
          (Zd (Z2f rfl (Fx.FldOk.cons (Zr C) (Wu C) .nil) (Za (pv 0)) f_int)
          (Zg (Z2f rfl (Fx.FldOk.cons (Zr C) (U5 C) .nil) (Za (pv 0)) (Za (pv 5)))))))))
      (Zg (Zt (i := 1) Ua.nd rfl (Or.inl rfl) (f_op (Y7 rfl) (Za (pv 5)) (Vr (Z23 (nd_ C)) (by rfl) (Z16 C) (by decide +kernel) (Z9 (Za (pv 6)) Zf)))))))))
    (Zd (Vi (Zv rfl (Ze C) (Zz C) G_Source_miss (hr.mono (by omega)) hG (Zy C) .nil Dfl.nil tk (Za (pv 3)) (Z9 (Za (pv 1)) Zf) (Z0 Zb)))
    (Zg (Zq (Za (pv 1)))))))
theorem Z9m : GT P w K mg base 5 (gY "block_value") Z1l 3 Z5l := by
  have G_Source_init := @Z4a P base w K mg C
  have G_Piece_init := @Zbk P base w K mg C
  have G_Piece_read_header := @Z3h P base w K mg C
  have G_Piece_value := @Z9l P base w K mg C
  have G_Piece_indentation := @Z3i P base w K mg C
  have G_Piece_take := @Zbl P base w K mg C
  have g_HEADS := Ze8 C
  refine fnFD (Z0r C) Vo fun cdv A outer s H E hr hG => ?_
  exact (Zd (Yi (Zk (o_ne hr.units rfl) (f_sl rfl (Za (pv 0)) Ju (Xk f_int)) (Zc0 rfl (by rfl) g_HEADS (Za (pv 1)) (fun _ _ => rfl)) (nomark _))
      (Zg (Zq Qq))
      Y0)
    (Zd (Zt (i := 3) Vo.nd rfl (Or.inl rfl) (Zfy rfl (Ze C) (Zck C) G_Source_init (hr.mono (by omega)) hG (by rfl) (Zcl C) (Z44 C) .nil Dfl.nil tk (Z9 (f_op (Y7 rfl) (f_op (Y7 rfl) (Zh [32]) (Za (pv 0))) (Zh [10])) Zf) (Z0 Zb)))
    (Zd (Zt (i := 4) Vo.nd rfl (Or.inl rfl) (Zfy rfl (Zr C) (Zii C) G_Piece_init (hr.mono (by omega)) hG (by rfl) (Zij C) (Zba C) .nil Dfl.nil tk (Z9 (Za (pv 3)) (Z9 f_int (Z9 (Za (pv 2)) Zf))) (Z0 (Z0 (Z0 Zb)))))
    (Zd (Zt (i := 5) Vo.nd rfl (Or.inl rfl) (Zfx rfl (Zr C) (Z3f C) G_Piece_read_header (hr.mono (by omega)) hG (Z3d C) .nil Dfl.nil tk (Za (pv 4))))
    (Zd (Zt (i := 6) Vo.nd rfl (Or.inl rfl) (f_if (Zk o_is (Za (pv 5)) Qq (nomark _)) Qq (Zv rfl (Zr C) (Z3g C) G_Piece_indentation (hr.mono (by omega)) hG (Z3e C) .nil Dfl.nil tk (Za (pv 4)) (Z9 (Za (pv 5)) Zf) (Z0 Zb))))
    (Zd (Yi (PW.pt (Z2c (Zk o_is (Za (pv 6)) Qq (nomark _)) (Qi (Zk (o_ne hr.units rfl) (Zv rfl (Zr C) (Zbf C) G_Piece_take (hr.mono (by omega)) hG (Zbb C) .nil Dfl.nil tk (Za (pv 4)) (Z9 (Za (pv 5)) (Z9 (Za (pv 6)) Zf)) (Z0 (Z0 Zb))) (Xr rfl (Fx.FldOk.cons (Ze C) (Xb C) .nil) (Za (pv 3))) (nomark _)))))
      (Zg (Zq Qq))
      Y0)
    (Zg (Zq (Zv rfl (Zr C) (Z99 C) G_Piece_value (hr.mono (by omega)) hG (Z93 C) .nil Dfl.nil tk (Za (pv 4)) (Z9 (Um (o_eq hr.units rfl) (Za (pv 1)) (Zh [102,111,108,100,101,100]) (nomark _)) Zf) (Z0 Zb))))))))))
theorem Z9n : GT P w K mg base 7 (gY "read_scalar") Jd 5 Y9 := by
  have G_check_place := @Z49 P base w K mg C
  have G_check_numbers := @Z74 P base w K mg C
  have G_Source_init := @Z4a P base w K mg C
  have G_plain := @Zim P base w K mg C
  have G_quoted := @Zgv P base w K mg C
  have G_is_text := @Zaa P base w K mg C
  have G_block_value := @Z9m P base w K mg C
  have g_HEADS := Ze8 C
  have g_LETTERS := Z6j C
  have g_QUOTES := Zgr C
  have g_BEHIND := Zcj C
  refine fnFD (Vq C) Z0m fun cdv A outer s H E hr hG => ?_
  exact (Zd (Vi (Yd rfl G_check_place (hr.mono (by omega)) hG (by rfl) (Z48 C) (Qc C).kp (Z42 C) .nil Dfl.nil tk (Z9 (Za (pv 1)) (Z9 (Za (pv 2)) Zf)) (Z0 (Z0 Zb))))
    (Zd (Vi (Yd rfl G_check_numbers (hr.mono (by omega)) hG (by rfl) (Z73 C) (Qs C).kp (Z71 C) .nil Dfl.nil tk (Z9 (Za (pv 3)) (Z9 f_int (Z9 (Za (pv 4)) Zf))) (Z0 (Z0 (Z0 Zb)))))
    (Zd (Yi (PW.pt (Z2c (Vg (Ys rfl (Yd rfl G_is_text (hr.mono (by omega)) hG (by rfl) (Za8 C) (Z39 C).kp (Za5 C) .nil Dfl.nil tk (Z9 (Za (pv 0)) Zf) (Z0 Zb)))) (Qi (Zk (o_eq hr.units rfl) (Za (pv 0)) (Zh []) (nomark _)))))
      (Zg (Zq Qq))
      Y0)
    (Zd (Yi (Zkf rfl (by rfl) g_HEADS (Za (pv 1)))
      (Zg (Zq (f_if (Zk (o_eq hr.units rfl) (Za (pv 2)) (Zh [98,108,111,99,107]) (nomark _)) (Yd rfl G_block_value (hr.mono (by omega)) hG (by rfl) (Z9c C) (Z0r C).kp (Z94 C) .nil Dfl.nil tk (Z9 (Za (pv 0)) (Z9 (Za (pv 1)) (Z9 (f_op Z4x (Za (pv 3)) (Za (pv 4))) Zf))) (Z0 (Z0 (Z0 Zb)))) Qq)))
      Y0)
    (Zd (Yi (Vg (Ys rfl (f_bm rfl PySem.F.plainAttrs_str PySem.F.slot_str_startswith PySem.F.type_str_startswith (Zhw rfl) (Za (pv 0)) (Z9 (Zc0 rfl (by rfl) g_QUOTES (Za (pv 1)) (fun _ _ => rfl)) Zf))))
      (Zg (Zq Qq))
      Y0)
    (Zd (Zdq (i := 5) (j := 6) rfl Z0m.nd rfl rfl (by decide) rfl rfl (Z9 (Zfy rfl (Ze C) (Zck C) G_Source_init (hr.mono (by omega)) hG (by rfl) (Zcl C) (Z44 C) .nil Dfl.nil tk (Z9 (f_op (Y7 rfl) (f_op (Y7 rfl) (Zh [32]) (Za (pv 0))) (Zc0 rfl (by rfl) g_BEHIND (Za (pv 2)) (fun _ _ => rfl))) Zf) (Z0 Zb)) (Z9 (Zc0 rfl (by rfl) g_LETTERS (Za (pv 2)) (fun _ _ => rfl)) Zf)) (Z0 (Z0 Zb)) (by rfl))
    (Zd (Zt (i := 7) Z0m.nd rfl (Or.inl rfl) (f_if (Zk (o_eq hr.units rfl) (Za (pv 1)) (Zh [112,108,97,105,110]) (nomark _)) (Yd rfl G_plain (hr.mono (by omega)) hG (by rfl) (Zik C) (fd_plain C).kp (Zig C) .nil Dfl.nil tk (Z9 (Za (pv 5)) (Z9 f_int (Z9 (Za (pv 3)) (Z9 (Za (pv 6)) Zf)))) (Z0 (Z0 (Z0 (Z0 Zb))))) (Yd rfl G_quoted (hr.mono (by omega)) hG (by rfl) (Zgs C) (Z84 C).kp (Zgp C) .nil Dfl.nil tk (Z9 (Za (pv 5)) (Z9 f_int (Z9 (Za (pv 3)) (Z9 (Za (pv 6)) Zf)))) (Z0 (Z0 (Z0 (Z0 Zb)))))))
    (Zg (Zq (f_if (PW.pt (Vm (Zk Zfl (Za (pv 7)) Qq (nomark _)) (W8 (Zk (o_eq hr.units rfl) (f_ix (Vn hr.units rfl) (Za (pv 7)) f_int (fun _ _ => rfl)) (f_op (Y7 rfl) (X8 (Zae rfl) (by rfl) (Z5u C) (by decide +kernel) (Z9 (Za (pv 0)) Zf)) f_int) (nomark _))))) (f_ix (Vn hr.units rfl) (Za (pv 7)) f_int (fun _ _ => rfl)) Qq))))))))))
theorem Z9o : GT P w K mg base 3 (gY "check_value") Z1m 1 Jg := by
  have I_NoStyle_init := @Ny P base w K mg C
  obtain ⟨ds_NoStyle_init_1,dv_NoStyle_init_1,db_NoStyle_init_1⟩ := Q4 C
  have G_is_text := @Zaa P base w K mg C
  obtain ⟨t_MOST_SIGNS,g_MOST_SIGNS⟩ := Zbe C
  refine fnFD (Z0s C) Z8t fun cdv A outer s H E hr hG => ?_
  exact (Zg (Yi (PW.pt (Z2c (Vg (Ys rfl (Yd rfl G_is_text (hr.mono (by omega)) hG (by rfl) (Za8 C) (Z39 C).kp (Za5 C) .nil Dfl.nil tk (Z9 (Za (pv 0)) Zf) (Z0 Zb)))) (Qi (Zk Zes (X8 (Zae rfl) (by rfl) (Z5u C) (by decide +kernel) (Z9 (Za (pv 0)) Zf)) (f_c (pe_glob (v := .int (3000)) rfl g_MOST_SIGNS ⟨_,rfl⟩) (fun _ _ => .int _)) (nomark _)))))
      (Zg (Z34 rfl rfl tk (Vc C) (Xq C).1 (Xq C).2 I_NoStyle_init (hr.mono (by omega)) db_NoStyle_init_1 dv_NoStyle_init_1 (fun _ _ => .nil) (by rfl) (Jo C) (Z9 (Zh [118,97,108,117,101]) Zf) (Z0 Zb) (Jm C)))
      Y0))
theorem Z9p : GT P w K mg base 1 (gY "fits_single") Z1o 2 Z5n := by
  have g_ONE_LINE := Z8a C
  have q_ONE_LINE := Z87 C
  have g_WHITE := Zil C
  have q_WHITE := Zih C
  refine fnFD (Z0t C) Ww fun cdv A outer s H E hr hG => ?_
  exact (Zd (Zt (i := 2) Ww.nd rfl (Or.inl rfl) (f_bm rfl PySem.F.plainAttrs_str PySem.F.slot_str_split PySem.F.type_str_split m_split (Za (pv 0)) (Z9 (Zh [10]) Zf)))
    (Zd (Yi (PW.pt (Vm (Zk Zes (X8 (Zae rfl) (by rfl) (Z5u C) (by decide +kernel) (Z9 (Za (pv 2)) Zf)) f_int (nomark _)) (W8 (Zk (Z0k hr.units rfl) (Za (pv 1)) (f_c (pe_glob (v := .ref (He.ga _ "ONE_LINE")) rfl g_ONE_LINE rfl) (fun _ H => .tup (q_ONE_LINE H) Z83)) rfl))))
      (Zg (Zq f_bl))
      Y0)
    (Zd (Yi (Ys rfl (X8 (Zlk rfl rfl) (by rfl) (Zjj C) (by decide +kernel) (Z9 (f_lc (own := [("row", 3)]) (Z2e 3) (by decide) rfl Ww.nd (Z3k rfl (f_sl rfl (Za (pv 2)) (Xk f_int) Ju)) (blkOk_by (N := Z1n) (sc := defScope Xf) (by decide +kernel)) (fun _ _ _ _ _ => (pg_name (i := 3) Ww.nd rfl (Or.inl rfl))) (fun _ _ _ _ _ => Z4f) (fun _ _ _ _ _ => (Um (Z0k hr.units rfl) (f_sl rfl (Za (pv 3)) Ju (Xk f_int)) (f_c (pe_glob (v := .ref (He.ga _ "WHITE")) rfl g_WHITE rfl) (fun _ H => .tup (q_WHITE H) Ze7)) rfl))) Zf)))
      (Zg (Zq f_bl))
      Y0)
    (Zg (Zq (Zfh rfl (X8 (Zlk rfl rfl) (by rfl) (Zjj C) (by decide +kernel) (Z9 (f_lc (own := [("row", 3)]) (Z2e 3) (by decide) rfl Ww.nd (Z3k rfl (f_sl rfl (Za (pv 2)) Ju (Xk (Zi2 f_int)))) (blkOk_by (N := Z1n) (sc := defScope Xf) (by decide +kernel)) (fun _ _ _ _ _ => (pg_name (i := 3) Ww.nd rfl (Or.inl rfl))) (fun _ _ _ _ _ => Z4f) (fun _ _ _ _ _ => (Um (Z0k hr.units rfl) (f_sl rfl (Za (pv 3)) (Xk (Zi2 f_int)) Ju) (f_c (pe_glob (v := .ref (He.ga _ "WHITE")) rfl g_WHITE rfl) (fun _ H => .tup (q_WHITE H) Ze7)) rfl))) Zf))))))))
theorem Zfc : GT P w K mg base 1 (gY "is_sign") Z7n 1 Z12 := by
  refine fnFD (Z6i C) Zex fun cdv A outer s H E hr hG => ?_
  exact (Zg (Zq (Zad Z61 Z61 (Zh [33]) (Za (pv 0)) (Zh [126]))))
theorem Z8d : GT P w K mg base 2 (gY "stands_plain") Z0n 3 Yn := by
  have G_is_safe := @Z6k P base w K mg C
  have G_is_sign := @Zfc P base w K mg C
  have g_LETTERS := Z6j C
  have g_ONE_LINE := Z8a C
  have q_ONE_LINE := Z87 C
  obtain ⟨t_MAYBE_FIRST,g_MAYBE_FIRST⟩ := Z47 C
  obtain ⟨t_NOT_FIRST,g_NOT_FIRST⟩ := Z6w C
  have g_BEHIND := Zcj C
  refine fnFD (Nv C) Nf fun cdv A outer s H E hr hG => ?_
  exact (Zd (Zjv (i := 3) (j := 4) (l := 5) rfl Nf.nd rfl rfl rfl (by decide) (by decide) (by decide) rfl rfl rfl (Z9 (f_ix (Vn hr.units rfl) (Za (pv 0)) (Za (pv 1)) (fun _ _ => rfl)) (Z9 (f_sl rfl (f_sl rfl (Za (pv 0)) Ju (Xk (Za (pv 1)))) (Xk (Zi2 f_int)) Ju) (Z9 (f_ix (Vn hr.units rfl) (f_op (Y7 rfl) (Za (pv 0)) (Zc0 rfl (by rfl) g_BEHIND (Za (pv 2)) (fun _ _ => rfl))) (f_op (Y7 rfl) (Za (pv 1)) f_int) (fun _ _ => rfl)) Zf))) (Z0 (Z0 (Z0 Zb))) (by rfl))
    (Zd (Zt (i := 6) Nf.nd rfl (Or.inl rfl) (Um (o_eq hr.units rfl) (Za (pv 1)) (f_op Z4x (X8 (Zae rfl) (by rfl) (Z5u C) (by decide +kernel) (Z9 (Za (pv 0)) Zf)) f_int) (nomark _)))
    (Zd (Yi (Zk (o_eq hr.units rfl) (Za (pv 3)) (Zh [32]) (nomark _))
      (Zg (Zq (Z4d rfl (Um (Z51 hr.units rfl) (Za (pv 4)) (f_tup (Z9 (Zh []) (Z9 (Zh [10]) Zf)) (Z0 (Z0 Zb))) rfl) (Z4d rfl (Um (o_ne hr.units rfl) (Za (pv 5)) (Zh [10]) (nomark _)) (Z26 (Zfh rfl (Za (pv 6))))))))
      Y0)
    (Zd (Yi (Zk (o_eq hr.units rfl) (Za (pv 3)) (Zh [10]) (nomark _))
      (Zg (Zq (Z4d rfl (Um (Z51 hr.units rfl) (Za (pv 2)) (f_c (pe_glob (v := .ref (He.ga _ "ONE_LINE")) rfl g_ONE_LINE rfl) (fun _ H => .tup (q_ONE_LINE H) Z83)) rfl) (Z4d rfl (Um (o_ne hr.units rfl) (Za (pv 4)) (Zh []) (nomark _)) (Z26 (Zfh rfl (Za (pv 6))))))))
      Y0)
    (Zd (Yi (PW.pt (Z2c (PW.pt (Vm (Zk (o_eq hr.units rfl) (Za (pv 1)) f_int (nomark _)) (W8 (Zk (Z0k hr.units rfl) (Za (pv 3)) (f_c (pe_glob (v := .str (S Zm)) rfl g_MAYBE_FIRST ⟨_,rfl⟩) (fun _ _ => .str _)) rfl)))) (Qi (Zk (o_eq hr.units rfl) (Za (pv 3)) (Zh [58]) (nomark _)))))
      (Zg (Zq (Yd rfl G_is_safe (hr.mono (by omega)) hG (by rfl) (Jp C) (U4 C).kp (Jl C) .nil Dfl.nil tk (Z9 (Za (pv 5)) (Z9 (Zc0 rfl (by rfl) g_LETTERS (Za (pv 2)) (fun _ _ => rfl)) Zf)) (Z0 (Z0 Zb)))))
      Y0)
    (Zd (Yi (PW.pt (Z2c (PW.pt (Vm (Zk (o_eq hr.units rfl) (Za (pv 3)) (Zh [35]) (nomark _)) (W8 (Vg (Ys rfl (Yd rfl G_is_sign (hr.mono (by omega)) hG (by rfl) (Zf9 C) (Z6i C).kp (Zf5 C) .nil Dfl.nil tk (Z9 (Za (pv 4)) Zf) (Z0 Zb))))))) (Qi (PW.pt (Vm (Zk (o_eq hr.units rfl) (Za (pv 1)) f_int (nomark _)) (W8 (Zk (Z0k hr.units rfl) (Za (pv 3)) (f_c (pe_glob (v := .str (S Yk)) rfl g_NOT_FIRST ⟨_,rfl⟩) (fun _ _ => .str _)) rfl)))))))
      (Zg (Zq f_bl))
      Y0)
    (Zg (Zq (Yd rfl G_is_safe (hr.mono (by omega)) hG (by rfl) (Jp C) (U4 C).kp (Jl C) .nil Dfl.nil tk (Z9 (Za (pv 3)) (Z9 (Zc0 rfl (by rfl) g_LETTERS (Za (pv 2)) (fun _ _ => rfl)) Zf)) (Z0 (Z0 Zb)))))))))))
theorem Zbm : GT P w K mg base 3 (gY "is_fitting") Z2p 3 Z0a := by
  have G_fits_single := @Z9p P base w K mg C
  have G_stands_plain := @Z8d P base w K mg C
  refine fnFD (Z1z C) Z1p fun cdv A outer s H E hr hG => ?_
  exact (Zd (Yi (Zk (o_eq hr.units rfl) (Za (pv 1)) (Zh [112,108,97,105,110]) (nomark _))
      (Zg (Zq (Z4d rfl (Um (o_ne hr.units rfl) (Za (pv 0)) (Zh []) (nomark _)) (Z26 (X8 (Zlj rfl rfl) (by rfl) (fr_all C) (by decide +kernel) (Z9 (f_lc (own := [("at", 3)]) (Z2e 3) (by decide) rfl Z1p.nd (Z0v (by rfl) (Z3a C) (Z9 (X8 (Zae rfl) (by rfl) (Z5u C) (by decide +kernel) (Z9 (Za (pv 0)) Zf)) Zf) (Z0 Zb)) (blkOk_by (N := Z6q) (sc := defScope W6) (by decide +kernel)) (fun _ _ _ _ _ => (pg_name (i := 3) Z1p.nd rfl (Or.inl rfl))) (fun _ _ _ _ _ => Z4f) (fun _ _ _ _ _ => (Yd rfl G_stands_plain (hr.mono (by omega)) hG (by rfl) (Z89 C) (Nv C).kp (Z86 C) .nil Dfl.nil Zhz (Z9 (Za (pv 0)) (Z9 (Za (pv 3)) (Z9 (Za (pv 2)) Zf))) (Z0 (Z0 (Z0 Zb)))))) Zf))))))
      Y0)
    (Zd (Yi (Zk (o_eq hr.units rfl) (Za (pv 1)) (Zh [115,105,110,103,108,101]) (nomark _))
      (Zg (Zq (Yd rfl G_fits_single (hr.mono (by omega)) hG (by rfl) (Z9d C) (Z0t C).kp (Z96 C) .nil Dfl.nil tk (Z9 (Za (pv 0)) (Z9 (Za (pv 2)) Zf)) (Z0 (Z0 Zb)))))
      Y0)
    (Zg (Zq (f_or rfl (Um (o_eq hr.units rfl) (Za (pv 1)) (Zh [100,111,117,98,108,101]) (nomark _)) (Z26 (Um (o_eq hr.units rfl) (Za (pv 2)) (Zh [98,108,111,99,107]) (nomark _))))))))
theorem Zkp : GT P w K mg base 4 (gY "fits") Zga 3 Z81 := by
  have G_check_value := @Z9o P base w K mg C
  have G_check_place := @Z49 P base w K mg C
  have G_is_fitting := @Zbm P base w K mg C
  refine fnFD (Zd9 C) Zkc fun cdv A outer s H E hr hG => ?_
  exact (Zd (Vi (Yd rfl G_check_value (hr.mono (by omega)) hG (by rfl) (Z9e C) (Z0s C).kp (Z95 C) .nil Dfl.nil tk (Z9 (Za (pv 0)) Zf) (Z0 Zb)))
    (Zd (Vi (Yd rfl G_check_place (hr.mono (by omega)) hG (by rfl) (Z48 C) (Qc C).kp (Z42 C) .nil Dfl.nil tk (Z9 (Za (pv 1)) (Z9 (Za (pv 2)) Zf)) (Z0 (Z0 Zb))))
    (Zg (Zq (Yd rfl G_is_fitting (hr.mono (by omega)) hG (by rfl) (Zbh C) (Z1z C).kp (Zbc C) .nil Dfl.nil tk (Z9 (Za (pv 0)) (Z9 (Za (pv 1)) (Z9 (Za (pv 2)) Zf))) (Z0 (Z0 (Z0 Zb))))))))
theorem Zm9 : GT P w K mg base 8 (gY "law") Zkd 1 Zkl := by
  have G__law_digit := @Uk P base w K mg C
  have G__law_pieces := @Z9i P base w K mg C
  have G__law_spoilt := @Z9j P base w K mg C
  have G_read_scalar := @Z9n P base w K mg C
  obtain ⟨ds_read_scalar_0,dv_read_scalar_0,db_read_scalar_0⟩ := Z72 C
  have G_fits := @Zkp P base w K mg C
  refine fnFD (Zji C) U0 fun cdv A outer s H E hr hG => ?_
  exact (Zd (Z3j (passes_of rfl) rfl (Z3k rfl (f_op (Y7 rfl) (f_sl rfl (Za (pv 0)) Ju (Xk f_int)) (Z27 (Z9 f_int Zf) (Z0 Zb)))) (Vj (i := 1) U0.nd rfl (Or.inl rfl))
      (Zd (Zt (i := 2) U0.nd rfl (Or.inl rfl) (Z27 (Z9 (Za (pv 1)) Zf) (Z0 Zb)))
      (Zg (Z3j (passes_of rfl) rfl (Z0v (by rfl) (Z3a C) (Z9 f_int Zf) (Z0 Zb)) (Vj (i := 3) U0.nd rfl (Or.inl rfl))
        (Zd (Zt (i := 4) U0.nd rfl (Or.inl rfl) (Yd rfl G__law_digit (hr.mono (by omega)) hG (by rfl) (Wq C) (Xi C).kp (Wo C) .nil Dfl.nil tk (Z9 (Za (pv 2)) (Z9 f_int Zf)) (Z0 (Z0 Zb))))
        (Zd (Zt (i := 5) U0.nd rfl (Or.inl rfl) (Yd rfl G__law_pieces (hr.mono (by omega)) hG (by rfl) (Z9f C) (Z0o C).kp (Z90 C) .nil Dfl.nil tk (Z9 (Za (pv 2)) (Z9 (Za (pv 4)) Zf)) (Z0 (Z0 Zb))))
        (Zd (Zdq (i := 6) (j := 7) rfl U0.nd rfl rfl (by decide) rfl rfl (Z9 (f_bm rfl PySem.F.plainAttrs_str PySem.F.slot_str_join PySem.F.type_str_join (m_join rfl) (Zh []) (Z9 (f_lc (own := [("_law_piece", 17)]) (Z2e 17) (by decide) rfl U0.nd (Z3k rfl (Za (pv 5))) (blkOk_by (N := Zi8) (sc := defScope Z8v) (by decide +kernel)) (fun _ _ _ _ _ => (pg_name (i := 17) U0.nd rfl (Or.inl rfl))) (fun _ _ _ _ _ => Z4f) (fun _ _ _ _ _ => (f_ix (Vn hr.units rfl) (Za (pv 17)) f_int (fun _ _ => rfl)))) Zf)) (Z9 (f_bm rfl PySem.F.plainAttrs_str PySem.F.slot_str_join PySem.F.type_str_join (m_join rfl) (Zh []) (Z9 (f_lc (own := [("_law_piece", 17)]) (Z2e 17) (by decide) rfl U0.nd (Z3k rfl (Za (pv 5))) (blkOk_by (N := Zi8) (sc := defScope Z8v) (by decide +kernel)) (fun _ _ _ _ _ => (pg_name (i := 17) U0.nd rfl (Or.inl rfl))) (fun _ _ _ _ _ => Z4f) (fun _ _ _ _ _ => (f_ix (Vn hr.units rfl) (Za (pv 17)) f_int (fun _ _ => rfl)))) Zf)) Zf)) (Z0 (Z0 Zb)) (by rfl))
        (Zd (Zdq (i := 8) (j := 9) rfl U0.nd rfl rfl (by decide) rfl rfl (Z9 (Um (Z0k hr.units rfl) (Zh [10]) (Za (pv 6)) rfl) (Z9 (Yd rfl G__law_spoilt (hr.mono (by omega)) hG (by rfl) (Z9g C) (Z0p C).kp (Z91 C) .nil Dfl.nil tk (Z9 (Za (pv 2)) (Z9 (Za (pv 5)) (Z9 (Za (pv 4)) Zf))) (Z0 (Z0 (Z0 Zb)))) Zf)) (Z0 (Z0 Zb)) (by rfl))
        (Zd (Zt (i := 10) U0.nd rfl (Or.inl rfl) (Um (Zm5 hr.units rfl) (f_lc (own := [("_law_sign", 16)]) (Z2e 16) (by decide) rfl U0.nd (Z3k rfl (Za (pv 7))) (blkOk_by (N := Zi8) (sc := defScope Z8v) (by decide +kernel)) (fun _ _ _ _ _ => (pg_name (i := 16) U0.nd rfl (Or.inl rfl))) (fun _ _ _ _ _ => (Zk0 (Zk (Z0k hr.units rfl) (Za (pv 16)) (Zh [44,91,93,123,125]) rfl))) (fun _ _ _ _ _ => (Za (pv 16)))) (Z27 Zf Zb) (nomark _)))
        (Zg (Z3j (passes_of rfl) rfl (Z3k rfl (f_tup (Z9 (Zh [98,108,111,99,107]) (Z9 (Zh [107,101,121]) (Z9 (Zh [102,108,111,119]) (Z9 (Zh [112,97,105,114]) Zf)))) (Z0 (Z0 (Z0 (Z0 Zb)))))) (Vj (i := 11) U0.nd rfl (Or.inl rfl))
          (Zd (Zt (i := 12) U0.nd rfl (Or.inl rfl) (f_or rfl (Z4d rfl (Za (pv 8)) (Z26 (Um (Z0k hr.units rfl) (Za (pv 11)) (f_tup (Z9 (Zh [107,101,121]) (Z9 (Zh [112,97,105,114]) Zf)) (Z0 (Z0 Zb))) rfl))) (Z26 (Z4d rfl (Za (pv 10)) (Z26 (Um (Z0k hr.units rfl) (Za (pv 11)) (f_tup (Z9 (Zh [102,108,111,119]) (Z9 (Zh [112,97,105,114]) Zf)) (Z0 (Z0 Zb))) rfl))))))
          (Zd (Zt (i := 13) U0.nd rfl (Or.inl rfl) (Yd rfl G_read_scalar (hr.mono (by omega)) hG (by rfl) (Z0u C) (Vq C).kp db_read_scalar_0 dv_read_scalar_0 (fun _ _ => (.cons (.int _) .nil)) tk (Z9 (Za (pv 6)) (Z9 (Zh [112,108,97,105,110]) (Z9 (Za (pv 11)) (Z9 (Za (pv 4)) Zf)))) (Z0 (Z0 (Z0 (Z0 Zb))))))
          (Zd (Yi (PW.pt (Z2c (Zk (o_ne hr.units rfl) (Za (pv 13)) (f_if (Ys rfl (Za (pv 12))) Qq (Za (pv 7))) (nomark _)) (Qi (PW.pt (Vm (Vg (Ys rfl (Za (pv 12)))) (W8 (Vg (Ys rfl (Yd rfl G_fits (hr.mono (by omega)) hG (by rfl) (Zkn C) (Zd9 C).kp (Zkm C) .nil Dfl.nil tk (Z9 (Za (pv 7)) (Z9 (Zh [112,108,97,105,110]) (Z9 (Za (pv 11)) Zf))) (Z0 (Z0 (Z0 Zb))))))))))))
            (Zg (Zq f_bl))
            Y0)
          (Zd (Z3j (passes_of rfl) rfl (Z3k rfl (f_tup (Z9 (Za (pv 9)) (Z9 (f_op (Y7 rfl) (Zh [32]) (Za (pv 6))) (Z9 (f_op (Y7 rfl) (Za (pv 6)) (Zh [32])) (Z9 (f_op (Y7 rfl) (Za (pv 6)) (Zh [58,32])) (Z9 (f_op (Y7 rfl) (Zh [38]) (Za (pv 6))) (Z9 (f_op (Y7 rfl) (Zh [44,32]) (Za (pv 6))) (Z9 (f_op (Y7 rfl) (Za (pv 6)) (Zh [10])) Zf))))))) (Z0 (Z0 (Z0 (Z0 (Z0 (Z0 (Z0 Zb))))))))) (Vj (i := 14) U0.nd rfl (Or.inl rfl))
            (Zg (Yi (Zk Zfl (Yd rfl G_read_scalar (hr.mono (by omega)) hG (by rfl) (Z0u C) (Vq C).kp db_read_scalar_0 dv_read_scalar_0 (fun _ _ => (.cons (.int _) .nil)) tk (Z9 (Za (pv 14)) (Z9 (Zh [112,108,97,105,110]) (Z9 (Za (pv 11)) (Z9 (Za (pv 4)) Zf)))) (Z0 (Z0 (Z0 (Z0 Zb))))) Qq (nomark _))
              (Zg (Zq f_bl))
              Y0)))
          (Zd (Zt (i := 15) U0.nd rfl (Or.inl rfl) (f_if (PW.pt (Z2c (Ys rfl (Za (pv 12))) (Qi (Zk (Z0k hr.units rfl) (Za (pv 11)) (f_tup (Z9 (Zh [98,108,111,99,107]) (Z9 (Zh [102,108,111,119]) Zf)) (Z0 (Z0 Zb))) rfl)))) Qq (f_op (Y7 rfl) (Za (pv 7)) (Zh [58]))))
          (Zg (Yi (Zk (o_ne hr.units rfl) (Yd rfl G_read_scalar (hr.mono (by omega)) hG (by rfl) (Z0u C) (Vq C).kp db_read_scalar_0 dv_read_scalar_0 (fun _ _ => (.cons (.int _) .nil)) tk (Z9 (f_op (Y7 rfl) (Za (pv 6)) (Zh [58])) (Z9 (Zh [112,108,97,105,110]) (Z9 (Za (pv 11)) (Z9 (Za (pv 4)) Zf)))) (Z0 (Z0 (Z0 (Z0 Zb))))) (Za (pv 15)) (nomark _))
            (Zg (Zq f_bl))
            Y0))))))))))))))))))
    (Zg (Zq f_bl)))
end
end Ap
set_option maxHeartbeats 4000000
namespace Ap
open PySem PySem.Spec PyProof.Rows L2 SX
end Ap
set_option maxHeartbeats 4000000
namespace Ap
open PySem PySem.Spec PyProof.Rows L2 SX
def zs (k : Nat) : List Nat := List.replicate k 48
end Ap
set_option maxHeartbeats 4000000
namespace Ap
open PySem PySem.Spec PyProof.Rows L2 SX
end Ap
set_option maxHeartbeats 4000000
namespace Ap
open PySem PySem.Spec PyProof.Rows L2 SX Fx
end Ap
set_option maxHeartbeats 8000000
namespace Ap
open PySem PySem.Spec PyProof.Rows L2 SX Fx
theorem X5 {a b : FS} {ρ ρ' : Fx.Env} {Z Z' : Sto} {r : RS} (h : a ρ Z = .nx ρ' Z') (h2 : b ρ' Z' = r) : bCons a b ρ Z = r := by
  show seqS (a ρ Z) b = r
  rw [h]; exact h2
theorem b_rt {a b : FS} {ρ : Fx.Env} {Z Z' : Sto} {t : Fx.T} (h : a ρ Z = .rt t Z') : bCons a b ρ Z = .rt t Z' := by
  show seqS (a ρ Z) b = _
  rw [h]; rfl
theorem Nz {n : Nat} {B : FS} {as : List Fx.T} {Z Z' : Sto} {t : Fx.T} (h : B (as.map some ++ List.replicate (n - as.length) none) Z = .rt t Z') : runF n B as Z = .ok t Z' := by
  unfold runF
  rw [h]
def bl : List Nat → Nat
  | [] => 0
  | c :: l => if c = 32 then bl l + 1 else 0
theorem Zbn : ∀ l : List Nat,bl l ≤ l.length
  | [] => Nat.le_refl _
  | c :: l => by
    have := Zbn l
    unfold bl
    split <;> simp <;> omega
theorem Zgw : ∀ l : List Nat,(l.drop (bl l)).head? ≠ some 32
  | [] => by simp [bl]
  | c :: l => by
    unfold bl
    split
    · rw [List.drop_succ_cons]; exact Zgw l
    · rename_i h
      simpa using h
def srF (s : List Nat) (f : Int) : List (String × Fx.T) := [("text", .str s), ("length", .int (s.length : Int)), ("far", .int f)]
def Src (Z : Sto) (si : Nat) (s : List Nat) : Prop := ∃ f : Int, getI Z si = some ("Source", srF s f)
def SK (si : Nat) (s : List Nat) (Z Z' : Sto) : Prop := ∃ f : Int, Z' = Z.set si (.ins "Source" (srF s f))
section
variable {Z Z' Z1 : Sto} {si : Nat} {s : List Nat}
theorem Src.lt (h : Src Z si s) : si < Z.length := by
  obtain ⟨f,h⟩ := h
  have := Zag h
  exact (List.getElem?_eq_some_iff.mp this).1
theorem SK.refl (h : Src Z si s) : SK si s Z Z := by
  obtain ⟨f,h⟩ := h
  refine ⟨f,?_⟩
  have h1 := Zag h
  obtain ⟨h2,h3⟩ := List.getElem?_eq_some_iff.mp h1
  apply List.ext_getElem?
  intro j
  by_cases hj : j = si
  · subst hj; rw [List.getElem?_set_self h2,h1]
  · rw [List.getElem?_set_ne (Ne.symm hj)]
theorem SK.trans (h : SK si s Z Z1) (h2 : SK si s Z1 Z') : SK si s Z Z' := by
  obtain ⟨f,rfl⟩ := h
  obtain ⟨g,rfl⟩ := h2
  exact ⟨g,by rw [List.set_set]⟩
theorem SK.src (h : Src Z si s) (k : SK si s Z Z') : Src Z' si s := by
  obtain ⟨f,rfl⟩ := k
  refine ⟨f,?_⟩
  unfold getI
  rw [List.getElem?_set_self h.lt]
theorem SK.len (k : SK si s Z Z') : Z'.length = Z.length := by
  obtain ⟨f,rfl⟩ := k
  exact List.length_set
theorem SK.at (k : SK si s Z Z') {j : Nat} (hj : j ≠ si) : Z'[j]? = Z[j]? := by
  obtain ⟨f,rfl⟩ := k
  exact List.getElem?_set_ne (Ne.symm hj)
theorem Z8e (h : Src Z si s) : fldT ["Source"] "text" (.loc si) Z = some (.str s) := by
  obtain ⟨f,h⟩ := h
  simp [fldT,h,srF]
theorem W7 (h : Src Z si s) {m : String} (hm : m ≠ "text" ∧ m ≠ "length" ∧ m ≠ "far") (r : Nat → Fx.R Fx.T) : methK "Source" m (.loc si) Z r = r si := by
  obtain ⟨f,h⟩ := h
  obtain ⟨h1,h2,h3⟩ := hm
  have k1 : (m == "text") = false := beq_eq_false_iff_ne.mpr h1
  have k2 : (m == "length") = false := beq_eq_false_iff_ne.mpr h2
  have k3 : (m == "far") = false := beq_eq_false_iff_ne.mpr h3
  have : (srF s f).lookup m = none := by simp [srF,List.lookup_cons,k1,k2,k3]
  simp [methK,h,this]
theorem f_at (h : Src Z si s) (hl : s.length ≤ Lim) (i : Nat) : Zi [.loc si,.int (i : Int)] Z = .ok (.str ((s.drop i).take 1)) Z := by
  have e := Z8e h
  have c := Zcs s i (i + 1)
  rw [List.drop_take,show i + 1 - i = 1 by omega] at c
  have hc : ((i + 1 : Nat) : Int) = (i : Int) + 1 := by omega
  rw [hc] at c
  simp [Zi,runF,Z7u,eFld,e,Zic _ _ _ _ hl,c,oSome]
theorem Z6y (h : Src Z si s) (i : Int) : ∃ Z', Zu [.loc si, .int i] Z = .ok .non Z' ∧ SK si s Z Z' := by
  obtain ⟨f,h⟩ := h
  refine ⟨Z.set si (.ins "Source" (srF s (if f < i then i else f))), ?_, _, rfl⟩
  have e : fldT ["Source"] "far" (.loc si) Z = some (.int f) := by simp [fldT, h, srF, List.lookup_cons]
  have p : putS "far" (.int (if f < i then i else f)) (srF s f) = srF s (if f < i then i else f) := by simp [putS, srF]
  have l : (srF s f).length < 1000 := by simp [srF]
  simp [Zu,runF,Z5i,eFld,e,sFldS,setF,h,p,l]
theorem Zgx (h : Src Z si s) (hl : s.length ≤ Lim) : ∀ (u : List Nat) (i n : Nat), s.drop i = u → u.length < n → loopW (eBl (eBin gEq (eMeth "Source" "at" Zi [] (eVar 0) (aCons (eVar 1) aNil)) (eC (.str [32])))) Wz n [some (.loc si), some (.int (i : Int))] Z = .nx [some (.loc si), some (.int ((i + bl u : Nat) : Int))] Z
  | u,i,n + 1,hu,hn => by
    have e := f_at h hl i
    rw [hu] at e
    have m := W7 h (m := "at") (by decide)
    unfold loopW
    cases u with
    | nil => simp [eMeth,m,e,bl]
    | cons c u =>
      by_cases hc : c = 32
      · subst hc
        have hu2 : s.drop (i + 1) = u := by rw [← List.drop_drop,hu]; rfl
        have ih := Zgx h hl u (i + 1) n hu2 (by simp at hn; omega)
        have hci : ((i + 1 : Nat) : Int) = (i : Int) + 1 := by omega
        have hb : bl (32 :: u) = bl u + 1 := by simp [bl]
        rw [hb,show i + (bl u + 1) = i + 1 + bl u by omega,← ih,hci]
        simp [eMeth,m,e,Wz,sAug]
      · simp [eMeth,m,e,bl,hc]
theorem f_pb (h : Src Z si s) (hl : s.length < Lim) (i : Nat) : Zj [.loc si,.int (i : Int)] Z = .ok (.int ((i + bl (s.drop i) : Nat) : Int)) Z := by
  have e := Zgx h (by omega) (s.drop i) i Lim rfl (by rw [List.length_drop]; omega)
  simp [Zj,runF,Qx,sWhile,e]
theorem Z8f (A a b : List Nat) (Z : Sto) : gInW (.str A) (.tup [.str a,.str b]) Z = some (.bl (decide (A = a) || decide (A = b)),Z) := by
  by_cases h1 : A = a <;> by_cases h2 : A = b <;> simp [gInW,gIn,gInB,asSeq,flatT,inT,Fx.eqT,h1,h2,eq_comm]
theorem Zin (A a b c : List Nat) (Z : Sto) : gInW (.str A) (.tup [.str a,.str b,.str c]) Z = some (.bl (decide (A = a) || (decide (A = b) || decide (A = c))),Z) := by
  by_cases h1 : A = a <;> by_cases h2 : A = b <;> by_cases h3 : A = c <;> simp [gInW,gIn,gInB,asSeq,flatT,inT,Fx.eqT,h1,h2,h3,eq_comm]
def Beg (s : List Nat) (i : Nat) : Bool := decide (i = 0) || decide (s[i - 1]? = some 10)
theorem Zgy (h : Src Z si s) (hl : s.length ≤ Lim) {i : Nat} (hi : i ≤ s.length) : Xj [.loc si,.int (i : Int)] Z = .ok (.bl (Beg s i)) Z := by
  have e := Z8e h
  unfold Beg
  by_cases h0 : i = 0
  · subst h0
    simp [Xj,runF,Uw]
  · have h1 : i - 1 < s.length := by omega
    have hx : s[i - 1]? = some s[i - 1] := List.getElem?_eq_getElem h1
    have hc : (i : Int) - 1 = ((i - 1 : Nat) : Int) := by omega
    have a : atI s ((i : Int) - 1) = some s[i - 1] := by rw [hc]; exact Fx.atI_nat hx
    have h0' : ¬ (i : Int) = 0 := by omega
    rw [hx]
    simp [Xj, runF, Uw, h0, h0', eFld, e, hl, a]
end
end Ap
set_option maxHeartbeats 8000000
namespace Ap
open PySem PySem.Spec PyProof.Rows L2 SX Fx
def Pos (s : List Nat) (i : Nat) (u : List Nat) : Prop := s.drop i = u ∧ i + u.length = s.length
theorem Pos.drop {s u : List Nat} {i : Nat} (p : Pos s i u) {k : Nat} (hk : k ≤ u.length) : Pos s (i + k) (u.drop k) := by
  refine ⟨by rw [← List.drop_drop,p.1],?_⟩
  have := p.2
  rw [List.length_drop]; omega
theorem Pos.cons {s r : List Nat} {x i : Nat} (p : Pos s i (x :: r)) : Pos s (i + 1) r := p.drop (k := 1) (by simp)
theorem Pos.le {s u : List Nat} {i : Nat} (p : Pos s i u) : i ≤ s.length := by have := p.2; omega
theorem Pos.beg {s r : List Nat} {i : Nat} (p : Pos s i (10 :: r)) : Beg s (i + 1) = true := by
  unfold Beg
  have h : (s.drop i)[0]? = some 10 := by rw [p.1]; rfl
  rw [List.getElem?_drop] at h
  rw [show i + 1 - 1 = i + 0 by omega,h]
  simp
theorem drop_cons {u r : List Nat} {x k : Nat} (h : u.drop k = x :: r) : k < u.length ∧ u.drop (k + 1) = r := by
  constructor
  · apply Nat.lt_of_not_le
    intro hle
    rw [List.drop_eq_nil_of_le hle] at h
    cases h
  · rw [← List.drop_drop,h]; rfl
def isW (c : Nat) : Bool := decide (c = 32) || decide (c = 9)
def wl : List Nat → Nat
  | [] => 0
  | c :: l => if isW c = true then wl l + 1 else 0
def isMk (u : List Nat) : Bool := (decide (u.take 3 = [45,45,45]) || decide (u.take 3 = [46,46,46])) && (decide ((u.drop 3).take 1 = []) || (decide ((u.drop 3).take 1 = [32]) || decide ((u.drop 3).take 1 = [10])))
section
variable {Z Z' Z1 : Sto} {si : Nat} {s : List Nat}
theorem p_at (h : Src Z si s) (hl : s.length ≤ Lim) {i : Nat} {u : List Nat} (p : Pos s i u) : Zi [.loc si,.int (i : Int)] Z = .ok (.str (u.take 1)) Z := by
  have e := f_at h hl i
  rw [p.1] at e
  exact e
theorem p_pb (h : Src Z si s) (hl : s.length < Lim) {i : Nat} {u : List Nat} (p : Pos s i u) : Zj [.loc si,.int (i : Int)] Z = .ok (.int ((i + bl u : Nat) : Int)) Z := by
  have e := f_pb h hl i
  rw [p.1] at e
  exact e
theorem Zma (h : Src Z si s) (hl : s.length ≤ Lim) {u : List Nat} {i : Nat} (p : Pos s i u) (hb : Beg s i = true) : Yx [.loc si,.int (i : Int),.tup [.str [45,45,45],.str [46,46,46]]] Z = .ok (.bl (isMk u)) Z := by
  have e := Z8e h
  have e1 := Zgy h hl p.le
  rw [hb] at e1
  have e2 := f_at h hl (i + 3)
  have hd3 : s.drop (i + 3) = u.drop 3 := by rw [← List.drop_drop,p.1]
  rw [hd3] at e2
  have m1 := W7 h (m := "is_begin") (by decide)
  have m2 := W7 h (m := "at") (by decide)
  have c := Zcs s i (i + 3)
  rw [List.drop_take,show i + 3 - i = 3 by omega,p.1] at c
  have hc : ((i + 3 : Nat) : Int) = (i : Int) + 3 := by omega
  rw [hc] at c e2
  unfold isMk
  have gA := Z8f (u.take 3) [45,45,45] [46,46,46] Z
  have gB := Zin ((u.drop 3).take 1) [] [32] [10] Z
  generalize u.take 3 = A at *
  generalize (u.drop 3).take 1 = B at *
  cases hA : (decide (A = [45,45,45]) || decide (A = [46,46,46])) with
  | false =>
    rw [hA] at gA
    simp [-Z7r,Yx,runF,Vu,eMeth,m1,e1,eFld,e,Zic _ _ _ _ hl,c,oSome,gA]
  | true =>
    rw [hA] at gA
    simp only [Bool.true_and]
    generalize (decide (B = []) || (decide (B = [32]) || decide (B = [10]))) = bb at *
    simp [-Z7r,Yx,runF,Vu,eMeth,m1,m2,e1,e2,eFld,e,Zic _ _ _ _ hl,c,oSome,gA,gB]
theorem p_bar (hs : Src Z si s) (hl : s.length ≤ Lim) {u : List Nat} {i : Nat} (p : Pos s i u) (hb : Beg s i = true) : ∃ Z', Y4 [.loc si, .int (i : Int)] Z = .ok (.bl (isMk u)) Z' ∧ SK si s Z Z' := by
  have e := Zma hs hl p hb
  have m1 := W7 hs (m := "is_mark") (by decide)
  have m2 := W7 hs (m := "miss") (by decide)
  obtain ⟨Z', e2, k⟩ := Z6y hs ((i : Int) + 3)
  cases hm : isMk u with
  | false =>
    rw [hm] at e
    exact ⟨Z,by simp [Y4,runF,V3,eMeth,m1,e],SK.refl hs⟩
  | true =>
    rw [hm] at e
    exact ⟨Z', by simp [Y4, runF, V3, eMeth, m1, m2, e, e2], k⟩
end
theorem Z32 (c k : Nat) (Z : Sto) (h : k ≤ 100000) : gMul (.str [c]) (.int (k : Int)) Z = some (.str (List.replicate k c),Z) := by
  have := Zkk c (k : Int) Z ⟨by omega,by omega⟩
  rw [this,show ((k : Int)).toNat = k by omega]
def upC (x : Option (List Nat × Nat)) : Option (List Nat × Nat) := x.map fun p => (p.1,p.2 + 1)
inductive QF (n : Nat) : List Nat → Option (List Nat × Nat) → Prop
  | few (u : List Nat) : bl u < n → (u.drop (bl u)).head? ≠ some 10 → QF n u none
  | stop (u : List Nat) : n ≤ bl u → (u.drop (n + wl (u.drop n))).head? ≠ some 10 → QF n u (if isMk u = true then none else some (u.drop (n + wl (u.drop n)),0))
  | empW (u r : List Nat) (res : Option (List Nat × Nat)) : n ≤ bl u → u.drop (n + wl (u.drop n)) = 10 :: r → QF n r res → QF n u (upC res)
  | empB (u r : List Nat) (res : Option (List Nat × Nat)) : bl u < n → u.drop (bl u) = 10 :: r → QF n r res → QF n u (upC res)
section
variable {si : Nat} {s : List Nat}
theorem Zgz {u : List Nat} : (u.head? = some 10) ↔ u.take 1 = [10] := by
  cases u <;> simp
end
end Ap
set_option maxHeartbeats 8000000
namespace Ap
open PySem PySem.Spec PyProof.Rows L2 SX Fx
def pre (v : List Nat) (res : Option (List Nat × List Nat)) : Option (List Nat × List Nat) := res.map fun p => (v ++ p.1,p.2)
def sep (c : Nat) : List Nat := if c = 0 then [32] else List.replicate c 10
theorem QF.len {n : Nat} {u : List Nat} {res : Option (List Nat × Nat)} (h : QF n u res) : ∀ r c,res = some (r,c) → r.length + c ≤ u.length := by
  induction h with
  | few u _ _ => intro r c h; cases h
  | stop u h1 h2 =>
    intro r c h
    split at h
    · cases h
    · cases h
      rw [List.length_drop]; omega
  | empW u r res h1 h2 _ ih =>
    intro r' c h
    cases res with
    | none => cases h
    | some p =>
      cases h
      have a := ih p.1 p.2 rfl
      obtain ⟨h3,h4⟩ := drop_cons h2
      have := congrArg List.length h4
      rw [List.length_drop] at this
      omega
  | empB u r res h1 h2 _ ih =>
    intro r' c h
    cases res with
    | none => cases h
    | some p =>
      cases h
      have a := ih p.1 p.2 rfl
      obtain ⟨h3,h4⟩ := drop_cons h2
      have := congrArg List.length h4
      rw [List.length_drop] at this
      omega
def lineL (lc : Nat) : Bool := decide (lc = 75) || decide (lc = 80)
theorem Zio (a b : Fx.T) (Z : Sto) : gIxW (.tup [a,b]) (.int 0) Z = some (a,Z) := rfl
theorem Ziq (a b : Fx.T) (Z : Sto) : gIxW (.tup [a,b]) (.int 1) Z = some (b,Z) := rfl
theorem Zkq (lc : Nat) (Z : Sto) : gInW (.str [lc]) (.tup Xm) Z = some (.bl (lineL lc),Z) := by
  have := Z8f [lc] [75] [80] Z
  have hd : (decide (([lc] : List Nat) = [75]) || decide (([lc] : List Nat) = [80])) = lineL lc := by simp [lineL]
  rw [hd] at this
  exact this
theorem Zab (lc : Nat) (Z : Sto) : gNotInW (.str [lc]) (.tup Xm) Z = some (.bl (!lineL lc),Z) := by
  have h1 := Zkq lc Z
  rw [Z7r] at h1
  rw [Vt]
  unfold gIn at h1
  unfold gNotIn
  cases hb : gInB (.str [lc]) (.tup Xm) Z with
  | none => rw [hb] at h1; cases h1
  | some b => rw [hb] at h1; cases h1; rfl
section
variable {si : Nat} {s : List Nat} {n lc : Nat}
theorem Zmb {i : Nat} {u : List Nat} (p : Pos s i u) (hl : s.length ≤ Lim) (k : Nat) (Z : Sto) : gSl (.str s) (some (i : Int)) (some ((i + k : Nat) : Int)) Z = some (.str (u.take k),Z) := by
  have c := Zcs s i (i + k)
  rw [List.drop_take,show i + k - i = k by omega,p.1] at c
  rw [Zic _ _ _ _ hl,c]
end
end Ap
set_option maxHeartbeats 8000000
namespace Ap
open PySem PySem.Spec PyProof.Rows L2 SX Fx
def qE (si i n lc q : Nat) (v : List Nat) (o6 o7 o8 : Option Fx.T) : Fx.Env := [some (.loc si),some (.int (i : Int)),some (.int (n : Int)),some (.str [lc]),some (.str [q]),some (.str v),o6,o7,o8]
def Q_1 : FS := (sSet 6 (eMeth "Source" "at" Zi [] (eVar 0) (aCons (eVar 1) aNil)))
def Q_2 : FS := (sIf (Fx.tAnd (eBl (eBin gEq (eVar 6) (eVar 4))) (Fx.tOr (eBl (eBin gEq (eVar 4) (eC (.str [34])))) (eBl (eBin gNe (eMeth "Source" "at" Zi [] (eVar 0) (aCons (eBin gAdd (eVar 1) (eC (.int 1))) aNil)) (eVar 4))))) (sRet (eTup (aCons (eBin gAdd (eVar 1) (eC (.int 1))) (aCons (eVar 5) aNil)))) sPass)
def Q_3 : FS := (sIf (eBl (eBin gEq (eVar 6) (eC (.str [])))) (sRet (eMeth "Source" "miss" Zu [] (eVar 0) (aCons (eVar 1) aNil))) sPass)
def Q_4 : FS := (sSet 7 (eMeth "Source" "past_white" Wn [] (eVar 0) (aCons (eVar 1) aNil)))
def Q_5 : FS := (sSet 8 (eTup (aCons (eCallB gMax (aCons (eVar 7) (aCons (eBin gAdd (eVar 1) (eC (.int 1))) aNil))) (aCons (eSl (eFld ["Source"] "text" (eVar 0)) (oSome (eVar 1)) (oSome (eCallB gMax (aCons (eVar 7) (aCons (eBin gAdd (eVar 1) (eC (.int 1))) aNil))))) aNil))))
def Q_6 : FS := (sIf (eBl (eBin gEq (eMeth "Source" "at" Zi [] (eVar 0) (aCons (eVar 7) aNil)) (eC (.str [10])))) (sSet 8 (eCall Z1w [] (aCons (eVar 0) (aCons (eVar 7) (aCons (eVar 2) (aCons (eVar 3) aNil)))))) (sIf (eBl (eBin gEq (eVar 6) (eVar 4))) (sSet 8 (eTup (aCons (eBin gAdd (eVar 1) (eC (.int 2))) (aCons (eVar 6) aNil)))) (sIf (Fx.tAnd (eBl (eBin gEq (eVar 6) (eC (.str [92])))) (eBl (eBin gEq (eVar 4) (eC (.str [34]))))) (sSet 8 (eCall Z7w [] (aCons (eVar 0) (aCons (eVar 1) (aCons (eVar 2) (aCons (eVar 3) aNil)))))) sPass)))
def Q_7 : FS := (sIf (eBl (eBin gIs (eVar 8) (eC .non))) (sRet (eC .non)) sPass)
def Q_8 : FS := (sAug 5 (eBin gIxW (eVar 8) (eC (.int 1))) gIAdd)
def Q_9 : FS := (sSet 1 (eBin gIxW (eVar 8) (eC (.int 0))))
theorem Q_eq : Z6f = bCons Q_1 (bCons Q_2 (bCons Q_3 (bCons Q_4 (bCons Q_5 (bCons Q_6 (bCons Q_7 (bCons Q_8 (Q_9)))))))) := rfl
section
variable {si : Nat} {s : List Nat} {n lc : Nat}
theorem q_nil (hl : s.length ≤ 20000) {q i : Nat} {v : List Nat} {o6 o7 o8 : Option Fx.T} {Z : Sto} (hs : Src Z si s) (p : Pos s i []) : ∃ Z', Z6f (qE si i n lc q v o6 o7 o8) Z = .rt .non Z' ∧ SK si s Z Z' := by
  have hlim : s.length ≤ Lim := by unfold Lim; omega
  have e1 := p_at hs hlim p
  replace e1 : Zi [.loc si,.int (i : Int)] Z = .ok (.str []) Z := e1
  have m1 := W7 hs (m := "at") (by decide)
  have m2 := W7 hs (m := "miss") (by decide)
  obtain ⟨Z', e2, k2⟩ := Z6y hs (i : Int)
  refine ⟨Z', ?_, k2⟩
  rw [Q_eq]
  refine X5 (ρ' := qE si i n lc q v (some (.str [])) o7 o8) (Z' := Z) (by simp [Q_1, qE, eMeth, m1, e1]) (X5 (ρ' := qE si i n lc q v (some (.str [])) o7 o8) (Z' := Z) (by simp [Q_2, qE]) (b_rt ?_))
  simp [Q_3,qE,eMeth,m2,e2]
end
end Ap
set_option maxHeartbeats 8000000
namespace Ap
open PySem PySem.Spec PyProof.Rows L2 SX Fx
section
variable {si : Nat} {s : List Nat} {n lc : Nat}
theorem Zmc {c m : Nat} (h : c + 1 ≤ m) : (sep c).length ≤ m := by
  unfold sep
  split
  · simp; omega
  · rw [List.length_replicate]; omega
theorem Zkr {m : Nat} {ρ : Fx.Env} {Z Z' : Sto} {t : Fx.T} {b : FS} (h : b ρ Z = .rt t Z') : loopW (eTru (eC (.bl true))) b (m + 1) ρ Z = .rt t Z' := by
  conv => lhs; unfold loopW
  simp [h]
theorem Zks {m : Nat} {ρ ρ' : Fx.Env} {Z Z' : Sto} {b : FS} (h : b ρ Z = .nx ρ' Z') : loopW (eTru (eC (.bl true))) b (m + 1) ρ Z = loopW (eTru (eC (.bl true))) b m ρ' Z' := by
  conv => lhs; unfold loopW
  simp [h]
end
end Ap
set_option maxHeartbeats 8000000
namespace Ap
open PySem PySem.Spec PyProof.Rows L2 SX Fx
end Ap
set_option maxHeartbeats 8000000
namespace Ap
open PySem PySem.Spec PyProof.Rows L2 SX Fx
def Ext (Z Z' : Sto) : Prop := ∃ Y, Z' = Z ++ Y
theorem Ext.refl (Z : Sto) : Ext Z Z := ⟨[],(List.append_nil _).symm⟩
theorem Ext.app {Z Z' : Sto} (h : Ext Z Z') (Y : Sto) : Ext Z (Z' ++ Y) := by
  obtain ⟨X,rfl⟩ := h
  exact ⟨X ++ Y,List.append_assoc _ _ _⟩
theorem Ext.trans {Z Z1 Z2 : Sto} (h : Ext Z Z1) (h2 : Ext Z1 Z2) : Ext Z Z2 := by
  obtain ⟨X,rfl⟩ := h2
  exact h.app X
theorem Ext.set {Z Z' : Sto} (h : Ext Z Z') {i : Nat} {o : O} (hi : Z.length ≤ i) : Ext Z (Z'.set i o) := by
  obtain ⟨X,rfl⟩ := h
  exact ⟨X.set (i - Z.length) o,List.set_append_right _ _ hi⟩
theorem Ext.len {Z Z' : Sto} (h : Ext Z Z') : Z.length ≤ Z'.length := by
  obtain ⟨X,rfl⟩ := h
  rw [List.length_append]; omega
theorem Ext.getL {Z Z' : Sto} (h : Ext Z Z') {i : Nat} {ts : List Fx.T} (e : Fx.getL Z i = some ts) : Fx.getL Z' i = some ts := by
  obtain ⟨X,rfl⟩ := h
  exact Q7 e
theorem Ze9 {Z : Sto} {i : Nat} {C : String} {fs : List (String × Fx.T)} : getI Z i = some (C,fs) ↔ Z[i]? = some (.ins C fs) := by
  constructor
  · exact Zag
  · intro h; unfold getI; rw [h]
theorem lt1 (x y : Nat) : (([x] : List Nat) < [y]) ↔ x < y := by simp [List.cons_lt_cons_iff]
def okC (c : Nat) : Bool := (decide (32 ≤ c) && decide (c ≤ 126)) || decide (c = 9) || decide (c = 10)
theorem Zmd (l : List Nat) : ∀ k Z,k ≤ (l.map fun c => Fx.T.str [c]).length → itStr l k Z = some (l.map fun c => Fx.T.str [c])[k]? := fun k Z _ => by
  simp [itStr]
theorem Zcn {t : List Nat} (hl : t.length ≤ Lim) (h : t.all okC = true) (Z : Sto) : ∃ Y,Z2u [.str t] Z = .ok (.bl true) (Z ++ Y) := by
  have e := Zf2 (Z1 := Z) (it := itStr t) (ts := t.map fun c => Fx.T.str [c]) (put := fun x => putN [1] x (wipeR [some (.str t),none] [1])) (c := eYes) (e := Nm) (Zmd t) (by rw [List.length_map]; exact hl) (fun _ => true) (fun _ => .bl true) (fun x hx => by
    obtain ⟨c,hc,rfl⟩ := List.mem_map.mp hx
    refine ⟨[some (.str t),some (.str [c])],by rw [Z1a]; rfl,fun acc => ⟨rfl,fun _ => ?_⟩⟩
    have hok := List.all_eq_true.mp h c hc
    have k1 : ∀ Z,gLeW (.str [32]) (.str [c]) Z = some (.bl (decide (32 ≤ c)),Z) := fun Z => by
      show some (Fx.T.bl (!decide (([c] : List Nat) < [32])),Z) = _
      by_cases h1 : c < 32
      · rw [decide_eq_true ((lt1 _ _).mpr h1),decide_eq_false (by omega)]; rfl
      · rw [decide_eq_false (fun hh => h1 ((lt1 _ _).mp hh)),decide_eq_true (by omega)]; rfl
    have k2 : ∀ Z,gLeW (.str [c]) (.str [126]) Z = some (.bl (decide (c ≤ 126)),Z) := fun Z => by
      show some (Fx.T.bl (!decide (([126] : List Nat) < [c])),Z) = _
      by_cases h1 : 126 < c
      · rw [decide_eq_true ((lt1 _ _).mpr h1),decide_eq_false (by omega)]; rfl
      · rw [decide_eq_false (fun hh => h1 ((lt1 _ _).mp hh)),decide_eq_true (by omega)]; rfl
    have k3 : ∀ Z,gInW (.str [c]) (.str [9,10]) Z = some (.bl (decide (c = 9) || decide (c = 10)),Z) := fun Z => by
      have : gInB (.str [c]) (.str [9,10]) Z = some (decide (c = 9) || decide (c = 10)) := by simp [gInB]
      rw [Zf3]
      unfold gIn
      rw [this]; rfl
    unfold okC at hok
    cases h1 : decide (32 ≤ c) with
    | false =>
      have h3 : (decide (c = 9) || decide (c = 10)) = true := by simpa [h1] using hok
      rw [h3] at k3
      generalize Z ++ [O.lst acc] = ZZ
      simp [-Zf3,Nm,k1,h1,k3]
    | true =>
      cases h2 : decide (c ≤ 126) with
      | true =>
        generalize Z ++ [O.lst acc] = ZZ
        simp [-Zf3,Nm,k1,h1,k2,h2]
      | false =>
        have h3 : (decide (c = 9) || decide (c = 10)) = true := by simpa [h1,h2] using hok
        rw [h3] at k3
        generalize Z ++ [O.lst acc] = ZZ
        simp [-Zf3,Nm,k1,h1,k2,h2,k3])
  have em : ((t.map fun c => Fx.T.str [c]).filter (fun _ => true)).map (fun _ => Fx.T.bl true) = t.map fun c => Fx.T.bl ((fun _ => true) c) := by
    rw [List.filter_eq_self.mpr (fun _ _ => rfl),List.map_map]; rfl
  rw [em] at e
  have hb := Z7q (fun _ : Nat => true) t
  refine ⟨[.lst (t.map fun c => Fx.T.bl ((fun _ => true) c))],?_⟩
  have hall : (t.map fun _ : Nat => true).all id = true := by
    rw [List.all_eq_true]
    intro b hb
    obtain ⟨_,_,rfl⟩ := List.mem_map.mp hb
    rfl
  generalize (t.map fun c => Fx.T.bl ((fun _ => true) c)) = BL at *
  generalize (t.map fun _ : Nat => true) = BB at *
  have gi : ∀ Z, gIsi [.str t, .ty "str"] Z = some (.bl true, Z) := fun Z => rfl
  simp [Z2u,runF,Zcg,gi,e,hb,hall]
theorem Zbo {a b c : Int} (h1 : b ≤ a) (h2 : a ≤ c) (Z : Sto) : U3 [.int a,.int b,.int c] Z = .ok (.bl true) Z := by
  have g1 : ∀ Z, gIsi [.int a, .ty "int"] Z = some (.bl true, Z) := fun Z => rfl
  have g2 : ∀ Z, gIsi [.int a, .ty "bool"] Z = some (.bl false, Z) := fun Z => rfl
  simp [U3,runF,Z6r,g1,g2,h1,h2]
theorem Zh0 {i d : Int} (h0 : 0 ≤ i) (h1 : i ≤ 100) (h2 : 1 ≤ d) (h3 : d ≤ 9) (h4 : d ≤ i + 1) (Z : Sto) : Uc [.int i,.int 0,.int d] Z = .ok .non Z := by
  have a := Zbo h0 h1 Z
  have b := Zbo (a := 0) (b := 0) (c := 200) (by omega) (by omega) Z
  have c := Zbo (a := d) (b := 1) (c := (if i + 1 < 9 then i + 1 else 9)) h2 (by split <;> omega) Z
  simp [Uc,runF,Z2r,a,b,c]
theorem Zbp {Z Y : Sto} {C f : String} {y : Fx.T} {fs : List (String × Fx.T)} (hf : fs.length < 1000) : setF [C] f (.loc Z.length) y (Z ++ .ins C fs :: Y) = some (Z ++ .ins C (putS f y fs) :: Y) := by
  have g : getI (Z ++ .ins C fs :: Y) Z.length = some (C,fs) := by
    rw [Ze9]; simp
  simp [setF,g,hf]
theorem Zme {fa : FA} {ρ : Fx.Env} {Z : Sto} {s : List Nat} (ha : fa ρ Z = .ok [.str s] Z) (hl : s.length ≤ Lim) : eMake "Source" Xh [] fa ρ Z = .ok (.loc Z.length) (Z ++ [.ins "Source" (srF s 0)]) := by
  have s1 := Zbp (Z := Z) (Y := []) (C := "Source") (f := "text") (y := .str s) (fs := []) (by simp)
  have s2 := Zbp (Z := Z) (Y := []) (C := "Source") (f := "length") (y := .int (s.length : Int)) (fs := [("text", .str s)]) (by simp)
  have s3 := Zbp (Z := Z) (Y := []) (C := "Source") (f := "far") (y := .int 0) (fs := [("text", .str s), ("length", .int (s.length : Int))]) (by simp)
  have p1 : putS "text" (.str s) [] = [("text", Fx.T.str s)] := rfl
  have p2 : putS "length" (.int (s.length : Int)) [("text", .str s)] = [("text", Fx.T.str s), ("length", .int (s.length : Int))] := by simp [putS]
  have p3 : putS "far" (.int 0) [("text", .str s), ("length", .int (s.length : Int))] = srF s 0 := by simp [putS, srF]
  rw [p1] at s1
  rw [p2] at s2
  rw [p3] at s3
  have e : Xh [.loc Z.length, .str s] (Z ++ [.ins "Source" []]) = .ok .non (Z ++ [.ins "Source" (srF s 0)]) := by
    simp [Xh,runF,Z5h,sFldS,s1,s2,s3,hl]
  unfold eMake
  rw [ha]
  show (Xh [.loc Z.length, .str s] (Z ++ [.ins "Source" []])).bind _ = _
  rw [e]; rfl
theorem Ext.sk {Z Z' : Sto} {s : List Nat} {X : Sto} {si : Nat} (hi : Z.length ≤ si) (k : SK si s (Z ++ X) Z') : Ext Z Z' := by
  obtain ⟨f,rfl⟩ := k
  exact Ext.set ⟨X,rfl⟩ hi
def cts : List (List Nat × Nat × List Nat) := [([98,108,111,99,107],79,[10]),([107,101,121],75,[58,32]),([102,108,111,119],73,[93]),([112,97,105,114],80,[58,32])]
theorem Zjk {ct : List Nat × Nat × List Nat} (hct : ct ∈ cts) : kdT Z0x (.str ct.1) = some (.str [ct.2.1]) ∧ kdT Z1s (.str ct.1) = some (.str ct.2.2) ∧ ct.2.2.length ≤ 2 := by
  simp only [cts,List.mem_cons,List.not_mem_nil,or_false] at hct
  rcases hct with rfl | rfl | rfl | rfl <;> exact ⟨rfl,rfl,by decide⟩
end Ap
set_option maxHeartbeats 8000000
namespace Ap
open PySem PySem.Spec PyProof.Rows L2 SX Fx
def brL (lc : Nat) : Bool := decide (lc = 73) || decide (lc = 80)
def isBr (x : Nat) : Bool := decide (x ∈ Jk)
def sf (lc x : Nat) : Bool := decide (33 ≤ x) && decide (x ≤ 126) && !(brL lc && isBr x)
def sfH (lc : Nat) : List Nat → Bool
  | [] => false
  | x :: _ => sf lc x
def NX (lc : Nat) (b : Bool) : List Nat → Bool
  | [] => false
  | x :: r => if x = 58 then sfH lc r else sf lc x && (decide (x ≠ 35) || b)
def FI (lc : Nat) : List Nat → Bool
  | [] => false
  | x :: r => if x ∈ Zm then sfH lc r else sf lc x && !decide (x ∈ Yk)
def re (lc : Nat) : Nat → List Nat → Nat
  | _,[] => 0
  | b,x :: r => if x = 32 then re lc (b + 1) r else if NX lc (decide (b = 0)) (x :: r) = true then b + 1 + re lc 0 r else 0
theorem lt_1 (a b : Nat) : decide (([a] : List Nat) < [b]) = decide (a < b) := by
  by_cases h : a < b
  · have : ([a] : List Nat) < [b] := (lt1 a b).mpr h
    simp [h,this]
  · have : ¬ ([a] : List Nat) < [b] := fun e => h ((lt1 a b).mp e)
    simp [h,this]
theorem in_br (lc : Nat) (Z : Sto) : gInW (.str [lc]) (.tup Z1r) Z = some (.bl (brL lc),Z) := by
  have := Z8f [lc] [73] [80] Z
  have hd : (decide (([lc] : List Nat) = [73]) || decide (([lc] : List Nat) = [80])) = brL lc := by simp [brL]
  rw [hd] at this
  exact this
theorem Zh1 (x : Nat) (l : List Nat) (Z : Sto) : gInW (.str [x]) (.str l) Z = some (.bl (decide (x ∈ l)),Z) := by
  simp
theorem Zea (lc : Nat) (u : List Nat) (Z : Sto) : Ym [.str (u.take 1),.str [lc]] Z = .ok (.bl (sfH lc u)) Z := by
  cases u with
  | nil => simp [Ym,runF,Nk,sfH,gLeW]
  | cons x r =>
    have k1 : gLeW (.str [33]) (.str [x]) Z = some (.bl (decide (33 ≤ x)),Z) := by
      show some (Fx.T.bl (!decide (([x] : List Nat) < [33])),Z) = _
      rw [lt_1]
      by_cases h : x < 33
      · rw [decide_eq_true h,decide_eq_false (by omega)]; rfl
      · rw [decide_eq_false h,decide_eq_true (by omega)]; rfl
    have k2 : gLeW (.str [x]) (.str [126]) Z = some (.bl (decide (x ≤ 126)),Z) := by
      show some (Fx.T.bl (!decide (([126] : List Nat) < [x])),Z) = _
      rw [lt_1]
      by_cases h : 126 < x
      · rw [decide_eq_true h,decide_eq_false (by omega)]; rfl
      · rw [decide_eq_false h,decide_eq_true (by omega)]; rfl
    have hb := in_br lc Z
    have hi := Zh1 x Jk Z
    show Ym [.str [x],.str [lc]] Z = .ok (.bl (sf lc x)) Z
    unfold sf isBr
    by_cases h1 : 33 ≤ x
    · by_cases h2 : x ≤ 126
      · cases hB : brL lc with
        | false =>
          rw [hB] at hb
          simp [-Z7r,Ym,runF,Nk,k1,k2,h1,h2,hb]
        | true =>
          rw [hB] at hb
          by_cases h3 : x ∈ Jk
          · simp [-Z7r,Ym,runF,Nk,k1,k2,h1,h2,hb,h3]
          · simp [-Z7r,Ym,runF,Nk,k1,k2,h1,h2,hb,h3]
      · simp [-Z7r,Ym,runF,Nk,k1,k2,h1,h2]
    · simp [-Z7r,Ym,runF,Nk,k1,h1]
section
variable {Z Z' Z1 : Sto} {si lc : Nat} {s : List Nat}
theorem Zjl (hs : Src Z si s) (hl : s.length ≤ Lim) {u : List Nat} {i : Nat} (p : Pos s i u) : ∃ Z', Y4 [.loc si, .int (i : Int)] Z = .ok (.bl (Beg s i && isMk u)) Z' ∧ SK si s Z Z' := by
  cases hb : Beg s i with
  | true => rw [Bool.true_and]; exact p_bar hs hl p hb
  | false =>
    rw [Bool.false_and]
    have e1 := Zgy hs hl p.le
    rw [hb] at e1
    have m1 := W7 hs (m := "is_begin") (by decide)
    have m2 := W7 hs (m := "is_mark") (by decide)
    have e : Yx [.loc si,.int (i : Int),.tup [.str [45,45,45],.str [46,46,46]]] Z = .ok (.bl false) Z := by
      simp [Yx,runF,Vu,eMeth,m1,e1]
    exact ⟨Z,by simp [Y4,runF,V3,eMeth,m2,e],SK.refl hs⟩
theorem Zh2 (hs : Src Z si s) (hl : s.length ≤ Lim) {u : List Nat} {i : Nat} (p : Pos s i u) (b : Bool) : ∃ Z', Ws [.loc si, .int (i : Int), .str [lc], .bl b] Z = .ok (.bl (!(Beg s i && isMk u) && NX lc b u)) Z' ∧ SK si s Z Z' := by
  obtain ⟨Z1,e1,k1⟩ := Zjl hs hl p
  have s1 := k1.src hs
  have m0 := W7 hs (m := "is_barred") (by decide)
  have m1 := W7 s1 (m := "at") (by decide)
  have m2 := W7 s1 (m := "miss") (by decide)
  generalize (Beg s i && isMk u) = B at *
  cases B with
  | true => exact ⟨Z1,by simp [Ws,runF,Ud,eMeth,m0,e1],k1⟩
  | false =>
    rw [Bool.not_false,Bool.true_and]
    have a0 := p_at s1 hl p
    have fs := fun v Z => Zea lc v Z
    obtain ⟨Z2,e2,k2⟩ := Z6y s1 (i : Int)
    obtain ⟨Z3,e3,k3⟩ := Z6y s1 ((i : Int) + 1)
    cases u with
    | nil =>
      have f0 := fs [] Z1
      simp only [List.take_nil] at a0 f0
      refine ⟨Z2,?_,k1.trans k2⟩
      show _ = R.ok (Fx.T.bl false) Z2
      have f0' : Ym [.str [], .str [lc]] Z1 = .ok (.bl false) Z1 := f0
      simp [Ws, runF, Ud, eMeth, m0, e1, m1, m2, a0, f0', e2]
    | cons x r =>
      have a0' : Zi [.loc si, .int (i : Int)] Z1 = .ok (.str [x]) Z1 := a0
      have f0 : Ym [.str [x],.str [lc]] Z1 = .ok (.bl (sf lc x)) Z1 := fs (x :: r) Z1
      by_cases hx : x = 58
      · subst hx
        have a1 := p_at s1 hl p.cons
        have hc : ((i + 1 : Nat) : Int) = (i : Int) + 1 := by omega
        rw [hc] at a1
        have f1 := fs r Z1
        generalize r.take 1 = R1 at *
        have hnx : NX lc b (58 :: r) = sfH lc r := by simp [NX]
        rw [hnx]
        cases hS : sfH lc r with
        | true =>
          rw [hS] at f1
          exact ⟨Z1, by simp [Ws, runF, Ud, eMeth, m0, e1, m1, m2, a0', a1, f1], k1⟩
        | false =>
          rw [hS] at f1
          exact ⟨Z3, by simp [Ws, runF, Ud, eMeth, m0, e1, m1, m2, a0', a1, f1, e3], k1.trans k3⟩
      · have hn : NX lc b (x :: r) = (sf lc x && (decide (x ≠ 35) || b)) := if_neg hx
        rw [hn]
        cases hS : sf lc x with
        | false =>
          rw [hS] at f0
          exact ⟨Z2, by simp [Ws, runF, Ud, eMeth, m0, e1, m1, m2, a0', hx, f0, e2], k1.trans k2⟩
        | true =>
          rw [hS] at f0
          by_cases h35 : x = 35
          · subst h35
            cases b with
            | true => exact ⟨Z1, by simp [Ws, runF, Ud, eMeth, m0, e1, m1, m2, a0', f0], k1⟩
            | false => exact ⟨Z2, by simp [Ws, runF, Ud, eMeth, m0, e1, m1, m2, a0', f0, e2], k1.trans k2⟩
          · exact ⟨Z1, by simp [Ws, runF, Ud, eMeth, m0, e1, m1, m2, a0', hx, f0, h35], k1⟩
theorem Zh3 (hs : Src Z si s) (hl : s.length ≤ Lim) {u : List Nat} {i : Nat} (p : Pos s i u) (hb : Beg s i = false) : ∃ Z', W3 [.loc si, .int (i : Int), .str [lc]] Z = .ok (.bl (FI lc u)) Z' ∧ SK si s Z Z' := by
  obtain ⟨Z1,e1,k1⟩ := Zjl hs hl p
  rw [hb,Bool.false_and] at e1
  have s1 := k1.src hs
  have m0 := W7 hs (m := "is_barred") (by decide)
  have m1 := W7 s1 (m := "at") (by decide)
  have m2 := W7 s1 (m := "miss") (by decide)
  have a0 := p_at s1 hl p
  have fs := fun v Z => Zea lc v Z
  obtain ⟨Z2,e2,k2⟩ := Z6y s1 (i : Int)
  obtain ⟨Z3,e3,k3⟩ := Z6y s1 ((i : Int) + 1)
  cases u with
  | nil =>
    have f0 := fs [] Z1
    simp only [List.take_nil] at a0 f0
    refine ⟨Z2,?_,k1.trans k2⟩
    show _ = R.ok (Fx.T.bl false) Z2
    have f0' : Ym [.str [], .str [lc]] Z1 = .ok (.bl false) Z1 := f0
    simp [W3, runF, Ux, eMeth, m0, e1, m1, m2, a0, f0', e2]
  | cons x r =>
    have a0' : Zi [.loc si, .int (i : Int)] Z1 = .ok (.str [x]) Z1 := a0
    have f0 : Ym [.str [x],.str [lc]] Z1 = .ok (.bl (sf lc x)) Z1 := fs (x :: r) Z1
    have i1 := fun Z => Zh1 x Zm Z
    have i2 := fun Z => Zh1 x Yk Z
    have hFI : FI lc (x :: r) = if x ∈ Zm then sfH lc r else sf lc x && !decide (x ∈ Yk) := rfl
    rw [hFI]
    by_cases hx : x ∈ Zm
    · have a1 := p_at s1 hl p.cons
      have hc : ((i + 1 : Nat) : Int) = (i : Int) + 1 := by omega
      rw [hc] at a1
      have f1 := fs r Z1
      generalize r.take 1 = R1 at *
      rw [if_pos hx]
      cases hS : sfH lc r with
      | true =>
        rw [hS] at f1
        exact ⟨Z1, by simp [W3, runF, Ux, eMeth, m0, e1, m1, m2, a0', hx, a1, f1], k1⟩
      | false =>
        rw [hS] at f1
        exact ⟨Z3, by simp [W3, runF, Ux, eMeth, m0, e1, m1, m2, a0', hx, a1, f1, e3], k1.trans k3⟩
    · rw [if_neg hx]
      cases hS : sf lc x with
      | false =>
        rw [hS] at f0
        exact ⟨Z2, by simp [W3, runF, Ux, eMeth, m0, e1, m1, m2, a0', hx, f0, e2], k1.trans k2⟩
      | true =>
        rw [hS] at f0
        by_cases hy : x ∈ Yk
        · exact ⟨Z2, by simp [W3, runF, Ux, eMeth, m0, e1, m1, m2, a0', hx, f0, hy, e2], k1.trans k2⟩
        · exact ⟨Z1, by simp [W3, runF, Ux, eMeth, m0, e1, m1, m2, a0', hx, f0, hy], k1⟩
theorem Zh4 (lc : Nat) : ∀ (u : List Nat) (b : Nat),re lc b u = if NX lc (decide (b + bl u = 0)) (u.drop (bl u)) = true then b + bl u + 1 + re lc 0 (u.drop (bl u + 1)) else 0
  | [],b => by simp [re,NX]
  | x :: r,b => by
    by_cases h : x = 32
    · subst h
      have e : bl (32 :: r) = bl r + 1 := by simp [bl]
      have ih := Zh4 lc r (b + 1)
      have h1 : re lc b (32 :: r) = re lc (b + 1) r := by
        conv => lhs; unfold re
        rw [if_pos rfl]
      rw [h1,ih,e,List.drop_succ_cons,List.drop_succ_cons,show b + 1 + bl r = b + (bl r + 1) by omega]
    · have e : bl (x :: r) = 0 := by simp [bl,h]
      conv => lhs; unfold re
      rw [if_neg h,e]
      simp
theorem Zh5 {b : Bool} {u : List Nat} (h : NX lc b u = true) : ∃ x r,u = x :: r ∧ x ≠ 10 ∧ x ≠ 32 := by
  cases u with
  | nil => cases h
  | cons x r =>
    refine ⟨x,r,rfl,?_,?_⟩ <;> rintro rfl <;> simp [NX,sf] at h
theorem Zco {i x : Nat} {r : List Nat} (p : Pos s i (x :: r)) (hx : x ≠ 10) : Beg s (i + 1) = false := by
  have h := p.1
  have : s[i]? = some x := by
    have := congrArg (fun l : List Nat => l[0]?) h
    simpa using this
  unfold Beg
  rw [Nat.add_sub_cancel,this]
  simp [hx]
theorem Zh6 : ∀ (u : List Nat) (i : Nat),Pos s i u → Beg s i = false → Beg s (i + bl u) = false
  | [],i,p,h => h
  | x :: r,i,p,h => by
    by_cases hx : x = 32
    · subst hx
      have e : bl (32 :: r) = bl r + 1 := by simp [bl]
      rw [e,show i + (bl r + 1) = i + 1 + bl r by omega]
      exact Zh6 r (i + 1) p.cons (Zco p (by decide))
    · have e : bl (x :: r) = 0 := by simp [bl,hx]
      rw [e]; exact h
theorem Zeb (hl : s.length < Lim) : ∀ (m : Nat) (u : List Nat) (i : Nat) (o3 : Option Fx.T) (Z : Sto),u.length < m → Src Z si s → Pos s i u → Beg s i = false →
    ∃ Z', loopW (eTru (eC (.bl true))) Z1v m [some (.loc si), some (.int (i : Int)), some (.str [lc]), o3] Z = .rt (.int ((i + re lc 0 u : Nat) : Int)) Z' ∧ SK si s Z Z'
  | 0,u,i,o3,Z,h,_,_,_ => absurd h (Nat.not_lt_zero _)
  | m + 1,u,i,o3,Z,hm,hs,p,hb => by
    have e1 := p_pb hs hl p
    have hbl := Zbn u
    have p2 := p.drop hbl
    obtain ⟨Z1,e2,k1⟩ := Zh2 (lc := lc) hs (by omega) p2 (decide (bl u = 0))
    rw [Zh6 u i p hb,Bool.false_and,Bool.not_false,Bool.true_and] at e2
    have m0 := W7 hs (m := "past_blanks") (by decide)
    have hq : ((i : Int) = ((i + bl u : Nat) : Int)) = (bl u = 0) := by rw [eq_iff_iff]; omega
    have st := Zh4 lc u 0
    rw [Nat.zero_add] at st
    cases hN : NX lc (decide (bl u = 0)) (u.drop (bl u)) with
    | false =>
      rw [hN] at e2 st
      rw [st,if_neg (by decide)]
      refine ⟨Z1,Zkr ?_,k1⟩
      generalize ((i + bl u : Nat) : Int) = J at *
      simp [Z1v,eMeth,m0,e1,hq,e2]
    | true =>
      rw [hN] at e2 st
      rw [if_pos rfl] at st
      obtain ⟨x,r,hx,h10,h32⟩ := Zh5 hN
      have p2' := p2
      rw [hx] at p2'
      have hd : u.drop (bl u + 1) = r := by rw [← List.drop_drop,hx]; rfl
      have hrl : r.length < m := by
        have : (u.drop (bl u)).length = r.length + 1 := by rw [hx]; rfl
        rw [List.length_drop] at this
        omega
      obtain ⟨Z2, e3, k2⟩ := Zeb hl m r (i + bl u + 1) (some (.int ((i + bl u : Nat) : Int))) Z1 hrl (k1.src hs) p2'.cons (Zco p2' h10)
      refine ⟨Z2,?_,k1.trans k2⟩
      rw [hd] at st
      rw [st,show i + (bl u + 1 + re lc 0 r) = i + bl u + 1 + re lc 0 r by omega]
      rw [← e3]
      have hc : ((i + bl u + 1 : Nat) : Int) = ((i + bl u : Nat) : Int) + 1 := by omega
      rw [hc]
      refine Zks ?_
      generalize ((i + bl u : Nat) : Int) = J at *
      simp [Z1v,eMeth,m0,e1,hq,e2]
theorem Zmf (hl : s.length < Lim) {u : List Nat} {i : Nat} (hs : Src Z si s) (p : Pos s i u) (hb : Beg s i = false) : ∃ Z', Z10 [.loc si, .int (i : Int), .str [lc]] Z = .ok (.int ((i + re lc 0 u : Nat) : Int)) Z' ∧ SK si s Z Z' := by
  obtain ⟨Z', e, k⟩ := Zeb (lc := lc) hl Lim u i none Z (by have := p.2; omega) hs p hb
  exact ⟨Z', Nz (n := 4) (as := [.loc si, .int (i : Int), .str [lc]]) e, k⟩
end
end Ap
set_option maxHeartbeats 8000000
namespace Ap
open PySem PySem.Spec PyProof.Rows L2 SX Fx
inductive PF (n : Nat) : List Nat → Nat → Option (List Nat × Nat × Bool) → Prop
  | more {r r1 : List Nat} {c : Nat} {res : Option (List Nat × Nat × Bool)} : r.drop (bl r) = 10 :: r1 → PF n r1 (c + 1) res → PF n r c res
  | bad {r : List Nat} {c : Nat} : (r.drop (bl r)).head? ≠ some 10 → bl r < n → PF n r c none
  | ok {r : List Nat} {c : Nat} : (r.drop (bl r)).head? ≠ some 10 → n ≤ bl r → PF n r c (some (r.drop (bl r),c,decide (bl r = 0)))
section
variable {Z Z' Z1 : Sto} {si lc n : Nat} {s : List Nat}
theorem Z8g : ∀ (u : List Nat) (k : Nat),k < bl u → (u.drop k).take 1 = [32]
  | [],k,h => by simp [bl] at h
  | x :: r,k,h => by
    by_cases hx : x = 32
    · subst hx
      have e : bl (32 :: r) = bl r + 1 := by simp [bl]
      cases k with
      | zero => rfl
      | succ k =>
        rw [List.drop_succ_cons]
        exact Z8g r k (by omega)
    · have e : bl (x :: r) = 0 := by simp [bl,hx]
      omega
theorem Zh7 (u : List Nat) : (u.drop (bl u)).take 1 ≠ [32] := by
  have := Zgw u
  intro h
  cases e : u.drop (bl u) with
  | nil => rw [e] at h; cases h
  | cons x r =>
    rw [e] at h this
    simp at h this
    exact this h
theorem Zec (hs : Src Z si s) (hl : s.length < Lim) {u : List Nat} {i : Nat} (p : Pos s i u) : ∀ (m k f : Nat) (o : Option Fx.T),k + m = n → k ≤ bl u → m < f →
    (n ≤ bl u → ∃ o', loopN (itRng 0 n) (fun t ρ' Z' => bS ρ' (gNm 3 t ρ' Z') Yr) f k [some (.loc si), some (.int (i : Int)), some (.int (n : Int)), o] Z = .nx [some (.loc si), some (.int (i : Int)), some (.int (n : Int)), o'] Z) ∧
    (bl u < n → ∃ Z', loopN (itRng 0 n) (fun t ρ' Z' => bS ρ' (gNm 3 t ρ' Z') Yr) f k [some (.loc si), some (.int (i : Int)), some (.int (n : Int)), o] Z = .rt .non Z' ∧ SK si s Z Z')
  | 0,k,f,o,h,hk,hf => by
    obtain ⟨f, rfl⟩ : ∃ f', f = f' + 1 := ⟨f - 1, by omega⟩
    refine ⟨fun _ => ⟨o,?_⟩,fun h2 => by omega⟩
    unfold loopN
    have : itRng 0 n k Z = some none := by
      simp only [itRng]
      rw [if_neg (by omega)]
    rw [this]
  | m + 1,k,f,o,h,hk,hf => by
    obtain ⟨f, rfl⟩ : ∃ f', f = f' + 1 := ⟨f - 1, by omega⟩
    have hit : itRng 0 n k Z = some (some (.int (k : Int))) := by
      simp only [itRng]
      rw [if_pos (by omega),Int.zero_add]
    have m0 := W7 hs (m := "at") (by decide)
    have m1 := W7 hs (m := "miss") (by decide)
    have hc : ((i + k : Nat) : Int) = (i : Int) + (k : Int) := by omega
    have hbl := Zbn u
    have a0 := p_at hs (by omega) (p.drop (k := k) (by omega))
    rw [hc] at a0
    by_cases hkb : k < bl u
    · have ih := Zec hs hl p m (k + 1) f (some (.int (k : Int))) (by omega) (by omega) (by omega)
      rw [Z8g u k hkb] at a0
      have st : bS [some (.loc si),some (.int (i : Int)),some (.int (n : Int)),o] (gNm 3 (.int (k : Int)) [some (.loc si),some (.int (i : Int)),some (.int (n : Int)),o] Z) Yr = .nx [some (.loc si),some (.int (i : Int)),some (.int (n : Int)),some (.int (k : Int))] Z := by
        simp [Yr,eMeth,m0,a0]
      refine ⟨fun h2 => ?_,fun h2 => ?_⟩
      · obtain ⟨o', e⟩ := ih.1 h2
        refine ⟨o', ?_⟩
        conv => lhs; unfold loopN
        rw [hit]
        simp only [st,Z5y]
        exact e
      · obtain ⟨Z', e, kk⟩ := ih.2 h2
        refine ⟨Z', ?_, kk⟩
        conv => lhs; unfold loopN
        rw [hit]
        simp only [st,Z5y]
        exact e
    · have hke : k = bl u := by omega
      obtain ⟨Z2,e2,k2⟩ := Z6y hs ((i : Int) + (k : Int))
      have hne : (u.drop k).take 1 ≠ [32] := by rw [hke]; exact Zh7 u
      refine ⟨fun h2 => by omega,fun _ => ⟨Z2,?_,k2⟩⟩
      conv => lhs; unfold loopN
      rw [hit]
      generalize (u.drop k).take 1 = A at *
      have st : bS [some (.loc si),some (.int (i : Int)),some (.int (n : Int)),o] (gNm 3 (.int (k : Int)) [some (.loc si),some (.int (i : Int)),some (.int (n : Int)),o] Z) Yr = .rt .non Z2 := by
        simp [Yr,eMeth,m0,m1,a0,hne,e2]
      simp only [st]
      rfl
theorem f_ind (hs : Src Z si s) (hl : s.length < Lim) {u : List Nat} {i : Nat} (p : Pos s i u) (hn : n ≤ 100) : (n ≤ bl u → W4 [.loc si,.int (i : Int),.int (n : Int)] Z = .ok (.int ((i + n : Nat) : Int)) Z) ∧
    (bl u < n → ∃ Z', W4 [.loc si, .int (i : Int), .int (n : Int)] Z = .ok .non Z' ∧ SK si s Z Z') := by
  have il := Zec (n := n) hs hl p n 0 Fuel none (by omega) (by omega) (by rw [Z4c]; unfold Lim; omega)
  have hr : iRng (aCons (eVar 2) aNil) [some (.loc si),some (.int (i : Int)),some (.int (n : Int)),none] Z = .ok (itRng 0 n) Z := by
    have := rngN (n := n) (Z := Z) (by unfold Lim; omega)
    simp [this]
  refine ⟨fun h => ?_,fun h => ?_⟩
  · obtain ⟨o', e⟩ := il.1 h
    refine Nz (n := 4) (as := [.loc si,.int (i : Int),.int (n : Int)]) ?_
    unfold Uy
    refine X5 (ρ' := [some (.loc si), some (.int (i : Int)), some (.int (n : Int)), o']) (Z' := Z) ?_ ?_
    · show sFor _ _ _ [some (.loc si),some (.int (i : Int)),some (.int (n : Int)),none] Z = _
      rw [Zey,hr,Z8m]; exact e
    · have h0 : (if (n : Int) > 0 then (n : Int) else 0) = (n : Int) := by
        split <;> omega
      have hc : (i : Int) + (n : Int) = ((i + n : Nat) : Int) := by omega
      have gm : gMax [.int 0,.int (n : Int)] Z = some (.int (n : Int),Z) := by
        show some (Fx.T.int (if (n : Int) > 0 then (n : Int) else 0),Z) = _
        rw [h0]
      rw [← hc]
      simp [-Zlz,gm]
  · obtain ⟨Z', e, k⟩ := il.2 h
    refine ⟨Z', Nz (n := 4) (as := [.loc si, .int (i : Int), .int (n : Int)]) ?_, k⟩
    unfold Uy
    refine b_rt ?_
    show sFor _ _ _ [some (.loc si),some (.int (i : Int)),some (.int (n : Int)),none] Z = _
    rw [Zey,hr,Z8m]; exact e
def pfE (si i n j c : Nat) (o5 : Option Fx.T) : Fx.Env := [some (.loc si),some (.int (i : Int)),some (.int (n : Int)),some (.int (j : Int)),some (.int (c : Int)),o5]
theorem Zkt (hs : Src Z si s) (hl : s.length < Lim) {i : Nat} {r : List Nat} {c : Nat} {res : Option (List Nat × Nat × Bool)} (h : PF n r c res) : ∀ (j m : Nat) (o5 : Option Fx.T),Pos s j r → Beg s j = true → r.length < m →
    ∃ j' r' c', loopW (eBl (eBin gEq (eMeth "Source" "at" Zi [] (eVar 0) (aCons (eMeth "Source" "past_blanks" Zj [] (eVar 0) (aCons (eVar 3) aNil)) aNil)) (eC (.str [10])))) Q9 m (pfE si i n j c o5) Z = .nx (pfE si i n j' c' o5) Z ∧ Pos s j' r' ∧ Beg s j' = true ∧ c' ≤ c + r.length ∧
      res = if n ≤ bl r' then some (r'.drop (bl r'), c', decide (bl r' = 0)) else none := by
  have m0 := W7 hs (m := "at") (by decide)
  have m1 := W7 hs (m := "past_blanks") (by decide)
  have stop : ∀ {r : List Nat} {c : Nat}, (r.drop (bl r)).head? ≠ some 10 → ∀ (j m : Nat) (o5 : Option Fx.T), Pos s j r → r.length < m → loopW (eBl (eBin gEq (eMeth "Source" "at" Zi [] (eVar 0) (aCons (eMeth "Source" "past_blanks" Zj [] (eVar 0) (aCons (eVar 3) aNil)) aNil)) (eC (.str [10])))) Q9 m (pfE si i n j c o5) Z = .nx (pfE si i n j c o5) Z := fun {r c} h1 j m o5 p hm => by
    obtain ⟨m, rfl⟩ : ∃ m', m = m' + 1 := ⟨m - 1, by omega⟩
    have e1 := p_pb hs hl p
    have a1 := p_at hs (by omega) (p.drop (Zbn r))
    have hne : (r.drop (bl r)).take 1 ≠ [10] := fun e => h1 (Zgz.mpr e)
    generalize (r.drop (bl r)).take 1 = A at *
    generalize ((j + bl r : Nat) : Int) = J at *
    unfold loopW
    simp [pfE,eMeth,m0,m1,e1,a1,hne]
  induction h with
  | @more r r1 c res hd _ ih =>
    intro j m o5 p hb hm
    obtain ⟨m, rfl⟩ : ∃ m', m = m' + 1 := ⟨m - 1, by omega⟩
    have hbl := Zbn r
    have e1 := p_pb hs hl p
    have p1 := p.drop hbl
    rw [hd] at p1
    have a1 := p_at hs (by omega) p1
    have hlr : bl r + 1 + r1.length = r.length := by
      have := congrArg List.length hd
      rw [List.length_drop,List.length_cons] at this
      omega
    obtain ⟨j', r', c', e, q1, q2, q3, q4⟩ := ih (j + bl r + 1) m o5 p1.cons p1.beg (by omega)
    refine ⟨j', r', c', ?_, q1, q2, by omega, q4⟩
    rw [← e]
    have hc : ((j + bl r + 1 : Nat) : Int) = ((j + bl r : Nat) : Int) + 1 := by omega
    have hc2 : ((c + 1 : Nat) : Int) = (c : Int) + 1 := by omega
    have a1' : Zi [.loc si, .int ((j + bl r : Nat) : Int)] Z = .ok (.str [10]) Z := a1
    conv => lhs; unfold loopW
    unfold pfE
    rw [hc,hc2]
    generalize ((j + bl r : Nat) : Int) = J at *
    simp [eMeth, m0, m1, e1, a1', Q9, sAug]
  | @bad r c h1 h2 =>
    intro j m o5 p hb hm
    exact ⟨j,r,c,stop h1 j m o5 p hm,p,hb,by omega,by rw [if_neg (by omega)]⟩
  | @ok r c h1 h2 =>
    intro j m o5 p hb hm
    exact ⟨j,r,c,stop h1 j m o5 p hm,p,hb,by omega,by rw [if_pos h2]⟩
def pfR (s : List Nat) (res : Option (List Nat × Nat × Bool)) (t : Fx.T) : Prop := match res with
  | none => t = .non
  | some (r,c,b) => ∃ j,Pos s j r ∧ Beg s j = b ∧ t = .tup [.int ((j : Nat) : Int),.str (sep c)]
theorem Zh8 : ∀ (u : List Nat) (i : Nat),Pos s i u → 0 < bl u → Beg s (i + bl u) = false
  | [],i,p,h => by simp [bl] at h
  | x :: r,i,p,h => by
    by_cases hx : x = 32
    · subst hx
      have e : bl (32 :: r) = bl r + 1 := by simp [bl]
      rw [e,show i + (bl r + 1) = i + 1 + bl r by omega]
      exact Zh6 r (i + 1) p.cons (Zco p (by decide))
    · have e : bl (x :: r) = 0 := by simp [bl,hx]
      omega
theorem Zdf (hs : Src Z si s) (hl : s.length < 30000) (hn : n ≤ 100) {i : Nat} {u r : List Nat} (p : Pos s i u) (hd : u.drop (bl u) = 10 :: r) {res : Option (List Nat × Nat × Bool)} (h : PF n r 0 res) :
    ∃ t Z', Qo [.loc si, .int (i : Int), .int (n : Int)] Z = .ok t Z' ∧ SK si s Z Z' ∧ pfR s res t := by
  have hL : s.length < Lim := by unfold Lim; omega
  have m0 := W7 hs (m := "at") (by decide)
  have m1 := W7 hs (m := "past_blanks") (by decide)
  have m2 := W7 hs (m := "indented") (by decide)
  have e1 := p_pb hs hL p
  have p1 := p.drop (Zbn u)
  rw [hd] at p1
  have a1 : Zi [.loc si,.int ((i + bl u : Nat) : Int)] Z = .ok (.str [10]) Z := p_at hs (by omega) p1
  have hpl := p1.2
  rw [List.length_cons] at hpl
  obtain ⟨j', r', c', e2, q1, q2, q3, q4⟩ := Zkt (i := i) hs hL h (i + bl u + 1) Lim none p1.cons p1.beg (by unfold Lim; omega)
  have hc : ((i + bl u + 1 : Nat) : Int) = ((i + bl u : Nat) : Int) + 1 := by omega
  have head : ∀ R, bCons (sSet 5 (eMeth "Source" "indented" W4 [] (eVar 0) (aCons (eVar 3) (aCons (eVar 2) aNil)))) (bCons (sIf (eBl (eBin gIs (eVar 5) (eC .non))) (sRet (eC .non)) sPass) (sRet (eTup (aCons (eMeth "Source" "past_blanks" Zj [] (eVar 0) (aCons (eVar 5) aNil)) (aCons (eIf (eTru (eVar 4)) (eBin gMul (eC (.str [10])) (eVar 4)) (eC (.str [32]))) aNil))))) (pfE si i n j' c' none) Z = R →
      Z08 [some (.loc si),some (.int (i : Int)),some (.int (n : Int)),none,none,none] Z = R := fun R hR => by
    unfold Z08
    refine X5 (ρ' := [some (.loc si), some (.int (i : Int)), some (.int (n : Int)), some (.int ((i + bl u : Nat) : Int)), none, none]) (Z' := Z) (by clear hR; simp [eMeth, m1, e1]) ?_
    refine X5 (ρ' := [some (.loc si), some (.int (i : Int)), some (.int (n : Int)), some (.int ((i + bl u : Nat) : Int)), none, none]) (Z' := Z) ?_ ?_
    · clear hR
      generalize ((i + bl u : Nat) : Int) = J at *
      simp [eMeth,m0,a1]
    refine X5 (ρ' := [some (.loc si), some (.int (i : Int)), some (.int (n : Int)), some (.int ((i + bl u + 1 : Nat) : Int)), none, none]) (Z' := Z) ?_ ?_
    · clear hR
      rw [hc]
      generalize ((i + bl u : Nat) : Int) = J at *
      simp [sAug]
    refine X5 (ρ' := pfE si i n (i + bl u + 1) 0 none) (Z' := Z) (by clear hR; simp [pfE]) ?_
    exact X5 e2 hR
  have fi := f_ind (n := n) hs hL q1 hn
  by_cases hb : n ≤ bl r'
  · rw [if_pos hb] at q4
    subst q4
    have e3 := fi.1 hb
    have p3 := q1.drop (k := n) (Nat.le_trans hb (Zbn r'))
    have e4 := p_pb hs hL p3
    have hbd : n + bl (r'.drop n) = bl r' := by
      have : ∀ (k : Nat) (l : List Nat),k ≤ bl l → k + bl (l.drop k) = bl l := fun k => by
        induction k with
        | zero => intro l _; simp
        | succ k ih =>
          intro l hk
          cases l with
          | nil => simp [bl] at hk
          | cons x l =>
            by_cases hx : x = 32
            · subst hx
              have e : bl (32 :: l) = bl l + 1 := by simp [bl]
              rw [List.drop_succ_cons]
              have := ih l (by omega)
              omega
            · have e : bl (x :: l) = 0 := by simp [bl,hx]
              omega
      exact this n r' hb
    rw [show j' + n + bl (r'.drop n) = j' + bl r' by omega] at e4
    refine ⟨.tup [.int ((j' + bl r' : Nat) : Int), .str (sep c')], Z, Nz (n := 6) (as := [.loc si, .int (i : Int), .int (n : Int)]) (head _ ?_), SK.refl hs, j' + bl r', q1.drop (Zbn r'), ?_, rfl⟩
    · have hcl : c' ≤ 100000 := by omega
      have mu := Z32 10 c' Z hcl
      unfold pfE sep
      generalize ((j' + n : Nat) : Int) = JN at *
      generalize ((j' + bl r' : Nat) : Int) = JB at *
      by_cases h0 : c' = 0
      · subst h0
        simp [eMeth,m1,m2,e3,e4,Fx.isNon]
      · have h0' : ¬ (c' : Int) = 0 := by omega
        simp [-Z5d, eMeth, m1, m2, e3, e4, Fx.isNon, h0, h0', mu]
    · by_cases hz : bl r' = 0
      · rw [hz,Nat.add_zero,q2]; rfl
      · rw [Zh8 r' j' q1 (by omega)]
        exact (decide_eq_false hz).symm
  · rw [if_neg hb] at q4
    subst q4
    obtain ⟨Z2,e3,k3⟩ := fi.2 (by omega)
    refine ⟨.non,Z2,Nz (n := 6) (as := [.loc si,.int (i : Int),.int (n : Int)]) (head _ ?_),k3,rfl⟩
    simp [pfE,eMeth,m2,e3,Fx.isNon]
theorem Zfd (hs : Src Z si s) (hl : s.length < Lim) {i : Nat} {u : List Nat} (p : Pos s i u) (hd : ∀ r, u.drop (bl u) ≠ 10 :: r) : ∃ Z', Qo [.loc si, .int (i : Int), .int (n : Int)] Z = .ok .non Z' ∧ SK si s Z Z' := by
  have m0 := W7 hs (m := "at") (by decide)
  have m1 := W7 hs (m := "past_blanks") (by decide)
  have m2 := W7 hs (m := "miss") (by decide)
  have e1 := p_pb hs hl p
  have a1 := p_at hs (by omega) (p.drop (Zbn u))
  obtain ⟨Z2,e2,k2⟩ := Z6y hs ((i + bl u : Nat) : Int)
  have hne : (u.drop (bl u)).take 1 ≠ [10] := fun e => by
    cases h : u.drop (bl u) with
    | nil => rw [h] at e; cases e
    | cons x r =>
      rw [h] at e
      simp at e
      subst e
      exact hd r h
  generalize (u.drop (bl u)).take 1 = A at *
  generalize ((i + bl u : Nat) : Int) = J at *
  refine ⟨Z2,?_,k2⟩
  simp [Qo,runF,Z08,eMeth,m0,m1,m2,e1,a1,hne,e2]
end
end Ap
set_option maxHeartbeats 8000000
namespace Ap
open PySem PySem.Spec PyProof.Rows L2 SX Fx
inductive PL (n lc : Nat) : List Nat → List Nat → List Nat → Prop
  | no {u : List Nat} : (∀ r,u.drop (bl u) ≠ 10 :: r) → PL n lc u [] u
  | bad {u r : List Nat} : u.drop (bl u) = 10 :: r → PF n r 0 none → PL n lc u [] u
  | stop {u r r' : List Nat} {c : Nat} {b : Bool} : u.drop (bl u) = 10 :: r → PF n r 0 (some (r', c, b)) → (!(b && isMk r') && NX lc false r') = false → PL n lc u [] u
  | go {u r r' v fin : List Nat} {x c : Nat} {b : Bool} : u.drop (bl u) = 10 :: r → PF n r 0 (some (x :: r', c, b)) → (!(b && isMk (x :: r')) && NX lc false (x :: r')) = true → PL n lc (r'.drop (re lc 0 r')) v fin → PL n lc u (sep c ++ (x :: r'.take (re lc 0 r')) ++ v) fin
theorem Zir (lc : Nat) : ∀ (u : List Nat) (b : Nat),re lc b u ≤ b + u.length
  | [],b => by simp [re]
  | x :: r,b => by
    unfold re
    have h1 := Zir lc r (b + 1)
    have h2 := Zir lc r 0
    rw [List.length_cons]
    split
    · omega
    · split <;> omega
theorem PF.len {n : Nat} {r : List Nat} {c : Nat} {res : Option (List Nat × Nat × Bool)} (h : PF n r c res) : ∀ r' c' b, res = some (r', c', b) → r'.length ≤ r.length ∧ r'.length + c' ≤ r.length + c := by
  induction h with
  | @more r r1 c res hd _ ih =>
    intro r' c' b e
    have := ih r' c' b e
    have hl := congrArg List.length hd
    rw [List.length_drop,List.length_cons] at hl
    omega
  | bad => intro r' c' b e; cases e
  | ok =>
    intro r' c' b e
    cases e
    rw [List.length_drop]
    omega
section
variable {Z Z' Z1 : Sto} {si lc n : Nat} {s : List Nat}
def plE (si n lc j : Nat) (v : List Nat) (o6 : Option Fx.T) : Fx.Env := [some (.loc si),some (.int 1),some (.int (n : Int)),some (.str [lc]),some (.int (j : Int)),some (.str v),o6]
theorem Zku (hl : s.length < 30000) (hn : n ≤ 100) (hline : lineL lc = false) {u v fin : List Nat} (h : PL n lc u v fin) : ∀ (i m : Nat) (w : List Nat) (o6 : Option Fx.T) (Z : Sto),Src Z si s → Pos s i u → u.length < m → w.length + 2 * u.length ≤ 100000 →
    ∃ j o6' Z', loopW (eBl (eBin gNotInW (eVar 3) (eC (.tup Xm)))) Vp m (plE si n lc i w o6) Z = .nx (plE si n lc j (w ++ v) o6') Z' ∧ SK si s Z Z' ∧ Pos s j fin := by
  have hL : s.length < Lim := by unfold Lim; omega
  have tst : ∀ (i : Nat) (w : List Nat) (o6 : Option Fx.T) (Z : Sto),eBl (eBin gNotInW (eVar 3) (eC (.tup Xm))) (plE si n lc i w o6) Z = .ok true Z := fun i w o6 Z => by
    have := Zab lc Z
    rw [hline] at this
    simp [-Vt,plE,this]
  have brk : ∀ (m i : Nat) (w : List Nat) (o6 o6' : Option Fx.T) (Z Z' : Sto), Vp (plE si n lc i w o6) Z = .bk (plE si n lc i w o6') Z' → loopW (eBl (eBin gNotInW (eVar 3) (eC (.tup Xm)))) Vp (m + 1) (plE si n lc i w o6) Z = .nx (plE si n lc i w o6') Z' := fun m i w o6 o6' Z Z' e => by
    conv => lhs; unfold loopW
    rw [tst,Z8m,if_pos rfl,e]
    rfl
  induction h with
  | @no u hd =>
    intro i m w o6 Z hs p hm hw
    obtain ⟨m, rfl⟩ : ∃ m', m = m' + 1 := ⟨m - 1, by omega⟩
    obtain ⟨Z1,e1,k1⟩ := Zfd (n := n) hs hL p hd
    refine ⟨i,some .non,Z1,?_,k1,p⟩
    rw [List.append_nil]
    refine brk m i w o6 (some .non) Z Z1 ?_
    simp [Vp,plE,e1,Fx.isNon]
  | @bad u r hd hp =>
    intro i m w o6 Z hs p hm hw
    obtain ⟨m, rfl⟩ : ∃ m', m = m' + 1 := ⟨m - 1, by omega⟩
    obtain ⟨t,Z1,e1,k1,r1⟩ := Zdf hs hl hn p hd hp
    replace r1 : t = .non := r1
    subst r1
    refine ⟨i,some .non,Z1,?_,k1,p⟩
    rw [List.append_nil]
    refine brk m i w o6 (some .non) Z Z1 ?_
    simp [Vp,plE,e1,Fx.isNon]
  | @stop u r r' c b hd hp hno =>
    intro i m w o6 Z hs p hm hw
    obtain ⟨m, rfl⟩ : ∃ m', m = m' + 1 := ⟨m - 1, by omega⟩
    obtain ⟨t,Z1,e1,k1,j,pj,bj,rfl⟩ := Zdf hs hl hn p hd hp
    obtain ⟨Z2,e2,k2⟩ := Zh2 (lc := lc) (k1.src hs) (by omega) pj false
    rw [bj,hno] at e2
    refine ⟨i,some (.tup [.int (j : Int),.str (sep c)]),Z2,?_,k1.trans k2,p⟩
    rw [List.append_nil]
    refine brk m i w o6 _ Z Z2 ?_
    generalize sep c = SC at *
    simp [-Zd4,Zio,Ziq,Vp,plE,e1,e2,Fx.isNon]
  | @go u r r' v fin x c b hd hp hyes _ ih =>
    intro i m w o6 Z hs p hm hw
    obtain ⟨m, rfl⟩ : ∃ m', m = m' + 1 := ⟨m - 1, by omega⟩
    obtain ⟨t,Z1,e1,k1,j,pj,bj,rfl⟩ := Zdf hs hl hn p hd hp
    have s1 := k1.src hs
    obtain ⟨Z2,e2,k2⟩ := Zh2 (lc := lc) s1 (by omega) pj false
    rw [bj,hyes] at e2
    have s2 := k2.src s1
    have hnx : NX lc false (x :: r') = true := by
      rw [Bool.and_eq_true] at hyes
      exact hyes.2
    obtain ⟨x', r'', hx, h10, _⟩ := Zh5 hnx
    cases hx
    obtain ⟨Z3,e3,k3⟩ := Zmf (lc := lc) hL s2 pj.cons (Zco pj h10)
    have s3 := k3.src s2
    have hre := Zir lc r' 0
    rw [Nat.zero_add] at hre
    have pe := pj.cons.drop hre
    have ft := Z8e s3
    have cu := Zmb pj (by omega) (1 + re lc 0 r') Z3
    have hpl := hp.len _ _ _ rfl
    rw [List.length_cons] at hpl
    have hrl : r.length < u.length := by
      have := congrArg List.length hd
      rw [List.length_drop,List.length_cons] at this
      omega
    have hsc : (sep c).length ≤ c + 1 := Zmc (by omega)
    have htk : (x :: r').take (1 + re lc 0 r') = x :: r'.take (re lc 0 r') := by rw [Nat.add_comm, List.take_succ_cons]
    rw [htk] at cu
    have htl : (x :: r'.take (re lc 0 r')).length ≤ r'.length + 1 := by rw [List.length_cons, List.length_take]; omega
    have a1 := Xg (sep c) (x :: r'.take (re lc 0 r')) Z3 (by unfold Lim; omega)
    have hal : (sep c ++ (x :: r'.take (re lc 0 r'))).length ≤ r.length + 1 := by
      rw [List.length_append,List.length_cons,List.length_take]; omega
    have a2 := Zib w (sep c ++ (x :: r'.take (re lc 0 r'))) Z3 (by unfold Lim; omega)
    have hdl : (r'.drop (re lc 0 r')).length = r'.length - re lc 0 r' := List.length_drop
    have hz : (sep c ++ (x :: r'.take (re lc 0 r'))).length ≤ c + 2 + re lc 0 r' := by
      rw [List.length_append,List.length_cons,List.length_take]; omega
    have hpos : j + 1 + re lc 0 r' = j + (1 + re lc 0 r') := by omega
    obtain ⟨j', o6', Z4, e4, k4, p4⟩ := ih (j + 1 + re lc 0 r') m (w ++ (sep c ++ (x :: r'.take (re lc 0 r')))) (some (.tup [.int (j : Int), .str (sep c)])) Z3 s3 pe (by omega) (by rw [List.length_append]; omega)
    refine ⟨j', o6', Z4, ?_, k1.trans (k2.trans (k3.trans k4)), p4⟩
    rw [← List.append_assoc,← e4]
    conv => lhs; unfold loopW
    rw [tst,Z8m,if_pos rfl]
    have hc : ((j + 1 : Nat) : Int) = (j : Int) + 1 := by omega
    rw [hc] at e3
    have hb1 : Vp (plE si n lc i w o6) Z = .nx (plE si n lc (j + 1 + re lc 0 r') (w ++ (sep c ++ (x :: r'.take (re lc 0 r')))) (some (.tup [.int (j : Int), .str (sep c)]))) Z3 := by
      unfold plE
      rw [hpos] at e3 ⊢
      generalize ((j + (1 + re lc 0 r') : Nat) : Int) = JE at *
      generalize sep c ++ (x :: r'.take (re lc 0 r')) = SA at *
      generalize x :: r'.take (re lc 0 r') = SX at *
      generalize sep c = SC at *
      simp [-Va,-Zkg,-Zd4,-sl_s,Zio,Ziq,Vp,e1,e2,e3,Fx.isNon,eFld,ft,oSome,cu,a1,a2,sAug]
    rw [hb1,Z5y]
def PLr (n lc : Nat) (u v fin : List Nat) : Prop := (lineL lc = true ∧ v = [] ∧ fin = u) ∨ (lineL lc = false ∧ PL n lc u v fin)
def RD (n lc : Nat) (u v fin : List Nat) : Prop := ∃ v2,PLr n lc (u.drop (re lc 0 u)) v2 fin ∧ v = u.take (re lc 0 u) ++ v2
theorem Zkv (hl : s.length < 30000) (hn : n ≤ 100) {x : Nat} {u v fin : List Nat} (hf : FI lc (x :: u) = true) (h : RD n lc u v fin) {Z : Sto} (hs : Src Z si s) (p : Pos s 1 (x :: u)) (h0 : s.head? = some 32) :
    ∃ j Z', Z7v [.loc si, .int 1, .int (n : Int), .str [lc]] Z = .ok (.tup [.int ((j : Nat) : Int), .str (x :: v)]) Z' ∧ SK si s Z Z' ∧ Pos s j fin := by
  have hL : s.length < Lim := by unfold Lim; omega
  have hb : Beg s 1 = false := by
    unfold Beg
    have : s[0]? = some 32 := by rw [← List.head?_eq_getElem?]; exact h0
    simp [this]
  obtain ⟨Z1,e1,k1⟩ := Zh3 (lc := lc) hs (by omega) p hb
  rw [hf] at e1
  have s1 := k1.src hs
  have h10 : x ≠ 10 := by
    rintro rfl
    simp [FI,sf,Zm] at hf
  obtain ⟨Z2,e2,k2⟩ := Zmf (lc := lc) hL s1 p.cons (Zco p h10)
  have s2 := k2.src s1
  have hre := Zir lc u 0
  rw [Nat.zero_add] at hre
  have pe := p.cons.drop hre
  have ft := Z8e s2
  have cu := Zmb p (by omega) (1 + re lc 0 u) Z2
  have htk : (x :: u).take (1 + re lc 0 u) = x :: u.take (re lc 0 u) := by rw [Nat.add_comm,List.take_succ_cons]
  rw [htk] at cu
  have hpos : 1 + 1 + re lc 0 u = 1 + (1 + re lc 0 u) := by omega
  have hul := p.2
  rw [List.length_cons] at hul
  obtain ⟨v2,hpl,rfl⟩ := h
  have e1' : W3 [.loc si, .int 1, .str [lc]] Z = .ok (.bl true) Z1 := e1
  have e2' : Z10 [.loc si, .int (1 + 1), .str [lc]] Z1 = .ok (.int ((1 + (1 + re lc 0 u) : Nat) : Int)) Z2 := by rw [← hpos]; exact e2
  have cu' : gSl (.str s) (some 1) (some ((1 + (1 + re lc 0 u) : Nat) : Int)) Z2 = some (.str (x :: u.take (re lc 0 u)), Z2) := cu
  have head : ∀ R,bCons (sWhile Lim (eBl (eBin gNotInW (eVar 3) (eC (.tup Xm)))) Vp) (sRet (eTup (aCons (eVar 4) (aCons (eVar 5) aNil)))) (plE si n lc (1 + (1 + re lc 0 u)) (x :: u.take (re lc 0 u)) none) Z2 = R → Zax [some (.loc si),some (.int 1),some (.int (n : Int)),some (.str [lc]),none,none,none] Z = R := fun R hR => by
    unfold Zax
    refine X5 (ρ' := [some (.loc si), some (.int 1), some (.int (n : Int)), some (.str [lc]), none, none, none]) (Z' := Z1) (by clear hR; simp [e1']) ?_
    refine X5 (ρ' := [some (.loc si), some (.int 1), some (.int (n : Int)), some (.str [lc]), some (.int ((1 + (1 + re lc 0 u) : Nat) : Int)), none, none]) (Z' := Z2) ?_ ?_
    · clear hR
      have e2'' : Z10 [.loc si, .int 2, .str [lc]] Z1 = .ok (.int ((1 + (1 + re lc 0 u) : Nat) : Int)) Z2 := e2'
      generalize ((1 + (1 + re lc 0 u) : Nat) : Int) = JE at *
      simp [e2'']
    refine X5 (ρ' := plE si n lc (1 + (1 + re lc 0 u)) (x :: u.take (re lc 0 u)) none) (Z' := Z2) ?_ hR
    clear hR
    unfold plE
    generalize ((1 + (1 + re lc 0 u) : Nat) : Int) = JE at *
    generalize x :: u.take (re lc 0 u) = SX at *
    simp [-sl_s, eFld, ft, oSome, cu']
  rcases hpl with ⟨hline,rfl,rfl⟩ | ⟨hline,hpl⟩
  · refine ⟨1 + (1 + re lc 0 u),Z2,Nz (n := 7) (as := [.loc si,.int 1,.int (n : Int),.str [lc]]) (head _ ?_),k1.trans k2,by rw [← hpos]; exact pe⟩
    have nl := Zab lc Z2
    rw [hline] at nl
    refine X5 (ρ' := plE si n lc (1 + (1 + re lc 0 u)) (x :: u.take (re lc 0 u)) none) (Z' := Z2) ?_ ?_
    · show loopW _ _ Lim _ _ = _
      rw [show Lim = (Lim - 1) + 1 by unfold Lim; omega]
      unfold loopW
      simp [-Vt,plE,nl]
    · rw [List.append_nil]
      simp [plE]
  · obtain ⟨j, o6', Z3, e3, k3, p3⟩ := Zku hl hn hline hpl (1 + (1 + re lc 0 u)) Lim (x :: u.take (re lc 0 u)) none Z2 s2 (by rw [← hpos]; exact pe) (by rw [List.length_drop]; omega) (by
      rw [List.length_cons,List.length_take,List.length_drop]; omega)
    refine ⟨j,Z3,Nz (n := 7) (as := [.loc si,.int 1,.int (n : Int),.str [lc]]) (head _ ?_),k1.trans (k2.trans k3),p3⟩
    refine X5 e3 ?_
    simp [plE]
theorem Zfe (hl : s.length < 30000) {u : List Nat} (hf : FI lc u = false) {Z : Sto} (hs : Src Z si s) (p : Pos s 1 u) (h0 : s.head? = some 32) :
    ∃ Z', Z7v [.loc si, .int 1, .int (n : Int), .str [lc]] Z = .ok .non Z' ∧ SK si s Z Z' := by
  have hb : Beg s 1 = false := by
    unfold Beg
    have : s[0]? = some 32 := by rw [← List.head?_eq_getElem?]; exact h0
    simp [this]
  obtain ⟨Z1,e1,k1⟩ := Zh3 (lc := lc) hs (by unfold Lim; omega) p hb
  rw [hf] at e1
  have e1' : W3 [.loc si, .int 1, .str [lc]] Z = .ok (.bl false) Z1 := e1
  exact ⟨Z1, by simp [Z7v, runF, Zax, e1'], k1⟩
end
end Ap
set_option maxHeartbeats 8000000
namespace Ap
open PySem PySem.Spec PyProof.Rows L2 SX Fx
def pln : List Nat := [112,108,97,105,110]
theorem Zed {ct : List Nat × Nat × List Nat} (hct : ct ∈ cts) (Z : Sto) : Je [.str pln,.str ct.1] Z = .ok .non Z := by
  simp only [cts,List.mem_cons,List.not_mem_nil,or_false] at hct
  rcases hct with rfl | rfl | rfl | rfl <;> rfl
section
variable {ct : List Nat × Nat × List Nat} {n : Nat} {Z : Sto}
theorem Zdg (hct : ct ∈ cts) {x : Nat} {u : List Nat} (hn : n ≤ 100) (hok : (x :: u).all okC = true) (hl : u.length ≤ 19000) :
    (∀ v fin, FI ct.2.1 (x :: (u ++ ct.2.2)) = true → RD n ct.2.1 (u ++ ct.2.2) v fin → ∃ Z', Y9 [.str (x :: u), .str pln, .str ct.1, .int (n : Int), .int 1] Z = .ok (if fin.length = ct.2.2.length then .str (x :: v) else .non) Z' ∧ Ext Z Z') ∧
    (FI ct.2.1 (x :: (u ++ ct.2.2)) = false → ∃ Z', Y9 [.str (x :: u), .str pln, .str ct.1, .int (n : Int), .int 1] Z = .ok .non Z' ∧ Ext Z Z') := by
  obtain ⟨ck1,ck2,ck3⟩ := Zjk hct
  obtain ⟨Y,et⟩ := Zcn (t := x :: u) (by rw [List.length_cons]; unfold Lim; omega) hok Z
  obtain ⟨Z1,hZ1⟩ : ∃ Z1,Z1 = Z ++ Y := ⟨_,rfl⟩
  rw [← hZ1] at et
  have x1 : Ext Z Z1 := by rw [hZ1]; exact (Ext.refl Z).app _
  obtain ⟨s,hs⟩ : ∃ s,s = 32 :: x :: (u ++ ct.2.2) := ⟨_,rfl⟩
  obtain ⟨Z2, hZ2⟩ : ∃ Z2, Z2 = Z1 ++ [O.ins "Source" (srF s 0)] := ⟨_, rfl⟩
  have hsl : s.length = u.length + ct.2.2.length + 2 := by rw [hs]; simp
  have hsrc : Src Z2 Z1.length s := ⟨0,by rw [Ze9,hZ2]; simp⟩
  have hp : Pos s 1 (x :: (u ++ ct.2.2)) := ⟨by rw [hs]; rfl,by rw [hsl]; simp; omega⟩
  have h0 : s.head? = some 32 := by rw [hs]; rfl
  have en := Zh0 (i := (n : Int)) (d := 1) (by omega) (by omega) (by omega) (by omega) (by omega) Z
  have hh : kdHas Zau (.str pln) = some false := rfl
  have hqd : kdT Zav (.str pln) = some (.str []) := rfl
  have hst : gStarts (.str (x :: u)) [.str []] Z1 = some (.bl true,Z1) := by simp [gStarts]
  have pB := Zed hct Z
  have hlen : ((x :: u).length : Int) + 1 = ((u.length + 2 : Nat) : Int) := by simp; omega
  have hmk : ∀ {fa : FA} {ρ : Fx.Env}, fa ρ Z1 = .ok [.str s] Z1 → eMake "Source" Xh [] fa ρ Z1 = .ok (.loc Z1.length) Z2 := fun ha => by
    rw [hZ2]; exact Zme ha (by unfold Lim; omega)
  have a1 := Xg [32] (x :: u) Z1 (by simp; unfold Lim; omega)
  have a2 := Xg ([32] ++ (x :: u)) ct.2.2 Z1 (by simp; unfold Lim; omega)
  have hcat : [32] ++ (x :: u) ++ ct.2.2 = s := by rw [hs]; simp
  rw [hcat] at a2
  have hT : (x :: u) ≠ [] := by simp
  have hmk2 : eMake "Source" Xh [] (aCons (eBin gAdd (eBin gAdd (eC (.str [32])) (eVar 0)) (eKdI Z1s (eVar 2))) aNil) [some (.str (x :: u)), some (.str pln), some (.str ct.1), some (.int (n : Int)), some (.int 1), none, none, none] Z1 = .ok (.loc Z1.length) Z2 := by
    refine hmk ?_
    generalize x :: u = T at *
    generalize [32] ++ T = T2 at *
    generalize pln = PP at *
    simp [-Va,a1,eKdI,ck2,a2]
  have hlenT : ∀ Z,gLen [.str (x :: u)] Z = some (.int ((x :: u).length : Int),Z) := fun Z => by
    have : (x :: u).length ≤ Lim := by rw [List.length_cons]; unfold Lim; omega
    rw [Z5e,if_pos this]
  refine ⟨fun v fin hf h => ?_,fun hf => ?_⟩
  · obtain ⟨j,Z3,e3,k3,p3⟩ := Zkv (n := n) (lc := ct.2.1) (by omega) hn hf h hsrc hp h0
    have x3 : Ext Z Z3 := by
      rw [hZ2] at k3
      exact x1.trans (Ext.sk (Nat.le_refl _) k3)
    have hj := p3.2
    have hjc : ((j : Int) = ((x :: u).length : Int) + 1) = (fin.length = ct.2.2.length) := by
      rw [hlen,eq_iff_iff]; omega
    refine ⟨Z3,?_,x3⟩
    generalize x :: v = VV at *
    clear hst hok hcat
    have hst : gStarts (.str (x :: u)) [.str []] Z1 = some (.bl true,Z1) := by simp [gStarts]
    generalize x :: u = T at *
    generalize ct.1 = CC at *
    generalize (T.length : Int) = TL at *
    have hpp : (pln = [112,108,97,105,110]) = True := eq_true rfl
    generalize pln = PP at *
    by_cases hc : fin.length = ct.2.2.length
    · have hjc2 : (j : Int) = TL + 1 := by rw [hjc]; exact hc
      rw [if_pos hc]
      simp [-Va,-Zd4,Zio,Ziq,Y9,runF,Jf,pB,en,et,hT,tKdIn,hh,eKdI,hqd,hst,hpp,hmk2,ck1,e3,Fx.isNon,hlenT,← hjc2]
    · have hjc2 : ¬ (j : Int) = TL + 1 := by rw [hjc]; exact hc
      rw [if_neg hc]
      simp [-Va,-Zd4,Zio,Ziq,Y9,runF,Jf,pB,en,et,hT,tKdIn,hh,eKdI,hqd,hst,hpp,hmk2,ck1,e3,Fx.isNon,hlenT,hjc2]
  · obtain ⟨Z3,e3,k3⟩ := Zfe (n := n) (lc := ct.2.1) (by omega) hf hsrc hp h0
    have x3 : Ext Z Z3 := by
      rw [hZ2] at k3
      exact x1.trans (Ext.sk (Nat.le_refl _) k3)
    refine ⟨Z3,?_,x3⟩
    generalize x :: u = T at *
    generalize ct.1 = CC at *
    have hpp : (pln = [112,108,97,105,110]) = True := eq_true rfl
    generalize pln = PP at *
    simp [-Va,Y9,runF,Jf,pB,en,et,hT,tKdIn,hh,eKdI,hqd,hst,hpp,hmk2,ck1,e3,Fx.isNon]
end
end Ap
set_option maxHeartbeats 8000000
namespace Ap
open PySem PySem.Spec PyProof.Rows L2 SX Fx
section
variable {n lc : Nat}
theorem Zh9 (m : Nat) : ∀ (b : Nat) (w : List Nat),re lc b (List.replicate m 32 ++ w) = re lc (b + m) w := by
  induction m with
  | zero => intro b w; rfl
  | succ m ih =>
    intro b w
    rw [List.replicate_succ,List.cons_append]
    conv => lhs; unfold re
    rw [if_pos rfl,ih,show b + 1 + m = b + (m + 1) by omega]
theorem Zha {b x : Nat} {r : List Nat} (hx : x ≠ 32) (h : NX lc (decide (b = 0)) (x :: r) = true) : re lc b (x :: r) = b + 1 + re lc 0 r := by
  conv => lhs; unfold re
  rw [if_neg hx,if_pos h]
theorem Zmg {b x : Nat} {r : List Nat} (hx : x ≠ 32) (h : NX lc (decide (b = 0)) (x :: r) = false) : re lc b (x :: r) = 0 := by
  conv => lhs; unfold re
  rw [if_neg hx,if_neg (by rw [h]; decide)]
theorem Z4v (m : Nat) {x : Nat} {r : List Nat} (hx : x ≠ 32) : bl (List.replicate m 32 ++ x :: r) = m := by
  induction m with
  | zero => simp [bl,hx]
  | succ m ih => rw [List.replicate_succ,List.cons_append]; simp [bl,ih]
theorem Ul (m : Nat) (r : List Nat) : (List.replicate m 32 ++ r).drop m = r := by
  rw [List.drop_append_of_le_length (by rw [List.length_replicate]; omega),List.drop_of_length_le (by rw [List.length_replicate]; omega)]; rfl
theorem Zhb {x : Nat} {u v fin : List Nat} (hx : x ≠ 32) (h : NX lc true (x :: u) = true) (r : RD n lc u v fin) : RD n lc (x :: u) (x :: v) fin := by
  obtain ⟨v2,p,rfl⟩ := r
  have e : re lc 0 (x :: u) = re lc 0 u + 1 := by rw [Zha hx h]; omega
  exact ⟨v2,by rw [e,List.drop_succ_cons]; exact p,by rw [e,List.take_succ_cons]; rfl⟩
theorem Zee {m x : Nat} {u v fin : List Nat} (hx : x ≠ 32) (h : NX lc false (x :: u) = true) (r : RD n lc u v fin) : RD n lc (List.replicate (m + 1) 32 ++ x :: u) (List.replicate (m + 1) 32 ++ x :: v) fin := by
  obtain ⟨v2,p,rfl⟩ := r
  have e : re lc 0 (List.replicate (m + 1) 32 ++ x :: u) = (m + 1) + (1 + re lc 0 u) := by
    rw [Zh9,Nat.zero_add,Zha hx (by rw [decide_eq_false (by omega)]; exact h)]; omega
  have hd : (List.replicate (m + 1) 32 ++ x :: u).drop ((m + 1) + (1 + re lc 0 u)) = u.drop (re lc 0 u) := by
    rw [← List.drop_drop, Ul, Nat.add_comm 1, List.drop_succ_cons]
  have ht : (List.replicate (m + 1) 32 ++ x :: u).take ((m + 1) + (1 + re lc 0 u)) = List.replicate (m + 1) 32 ++ x :: u.take (re lc 0 u) := by
    rw [List.take_append,List.length_replicate,List.take_of_length_le (by rw [List.length_replicate]; omega),show m + 1 + (1 + re lc 0 u) - (m + 1) = re lc 0 u + 1 by omega,List.take_succ_cons]
  refine ⟨v2,by rw [e,hd]; exact p,by rw [e,ht,List.append_assoc]; rfl⟩
theorem nx_10 {b : Bool} {r : List Nat} : NX lc b (10 :: r) = false := by simp [NX,sf]
theorem Z77 (a : Nat) (r : List Nat) : re lc 0 (List.replicate a 32 ++ 10 :: r) = 0 := by
  rw [Zh9]
  exact Zmg (by decide) nx_10
theorem Zef {a x c : Nat} {b : Bool} {r r' v fin : List Nat} (hl : lineL lc = false) (hp : PF n r 0 (some (x :: r', c, b))) (hok : (!(b && isMk (x :: r')) && NX lc false (x :: r')) = true) (h : RD n lc r' v fin) : RD n lc (List.replicate a 32 ++ 10 :: r) (sep c ++ x :: v) fin := by
  obtain ⟨v2,p,rfl⟩ := h
  have hb : (List.replicate a 32 ++ 10 :: r).drop (bl (List.replicate a 32 ++ 10 :: r)) = 10 :: r := by rw [Z4v a (by decide), Ul]
  rcases p with ⟨h1,_⟩ | ⟨_,p⟩
  · rw [hl] at h1; cases h1
  · refine ⟨sep c ++ (x :: r'.take (re lc 0 r')) ++ v2, .inr ⟨hl, ?_⟩, ?_⟩
    · rw [Z77]
      exact .go hb hp hok p
    · rw [Z77,List.take_zero,List.nil_append,List.append_assoc]; rfl
def SS (n lc : Nat) (u : List Nat) : Prop := RD n lc u [] u
theorem Zkw {u : List Nat} (h0 : re lc 0 u = 0) (h : lineL lc = false → PL n lc u [] u) : SS n lc u := by
  refine ⟨[],?_,by rw [h0]; rfl⟩
  rw [h0]
  cases hl : lineL lc with
  | true => exact .inl ⟨hl,rfl,rfl⟩
  | false => exact .inr ⟨hl,h hl⟩
theorem Vl {a x : Nat} {r : List Nat} (h32 : x ≠ 32) (h10 : x ≠ 10) (h : NX lc (decide (a = 0)) (x :: r) = false) : SS n lc (List.replicate a 32 ++ x :: r) := by
  refine Zkw ?_ fun _ => .no fun r' e => ?_
  · rw [Zh9,Nat.zero_add]; exact Zmg h32 h
  · rw [Z4v a h32, Ul] at e
    cases e
    exact h10 rfl
theorem Z8h {a : Nat} {r : List Nat} (h : lineL lc = false → PF n r 0 none) : SS n lc (List.replicate a 32 ++ 10 :: r) :=
  Zkw (Z77 a r) fun hl => .bad (by rw [Z4v a (by decide), Ul]) (h hl)
theorem Z6l {a c : Nat} {b : Bool} {r r' : List Nat} (h : lineL lc = false → PF n r 0 (some (r', c, b))) (hno : lineL lc = false → (!(b && isMk r') && NX lc false r') = false) : SS n lc (List.replicate a 32 ++ 10 :: r) :=
  Zkw (Z77 a r) fun hl => .stop (by rw [Z4v a (by decide), Ul]) (h hl) (hno hl)
theorem PF.lines {x e : Nat} {r : List Nat} (h32 : x ≠ 32) (h10 : x ≠ 10) : ∀ (ks : List Nat) (c : Nat),PF n ((ks.flatMap fun k => List.replicate k 32 ++ [10]) ++ (List.replicate (n + e) 32 ++ x :: r)) c (some (x :: r,c + ks.length,decide (n + e = 0)))
  | [],c => by
    have e1 : bl (List.replicate (n + e) 32 ++ x :: r) = n + e := Z4v _ h32
    have := PF.ok (n := n) (r := List.replicate (n + e) 32 ++ x :: r) (c := c) (by rw [e1, Ul]; simp [h10]) (by rw [e1]; omega)
    rw [e1, Ul] at this
    exact this
  | k :: ks,c => by
    have ih := PF.lines h32 h10 ks (c + 1) (e := e) (r := r)
    rw [List.flatMap_cons,List.append_assoc,List.append_assoc,List.length_cons,show c + (ks.length + 1) = c + 1 + ks.length by omega]
    refine .more ?_ ih
    show (List.replicate k 32 ++ 10 :: _).drop (bl (List.replicate k 32 ++ 10 :: _)) = _
    rw [Z4v k (by decide), Ul]
    rfl
def chk (lc : Nat) : List Nat → Bool
  | [] => true
  | [c] => sf lc c && decide (c ≠ 58)
  | c :: d :: r => sf lc c && chk lc (d :: r)
theorem Z5x {c : Nat} {r : List Nat} (h : chk lc (c :: r) = true) : sf lc c = true ∧ chk lc r = true ∧ (c = 58 → ∃ d r', r = d :: r' ∧ sf lc d = true) := by
  cases r with
  | nil =>
    have h : (sf lc c && decide (c ≠ 58)) = true := h
    rw [Bool.and_eq_true] at h
    exact ⟨h.1,rfl,fun e => absurd e (of_decide_eq_true h.2)⟩
  | cons d r =>
    have h : (sf lc c && chk lc (d :: r)) = true := h
    rw [Bool.and_eq_true] at h
    refine ⟨h.1,h.2,fun _ => ⟨d,r,rfl,?_⟩⟩
    have h2 := h.2
    cases r with
    | nil =>
      have h2 : (sf lc d && decide (d ≠ 58)) = true := h2
      rw [Bool.and_eq_true] at h2
      exact h2.1
    | cons e r =>
      have h2 : (sf lc d && chk lc (e :: r)) = true := h2
      rw [Bool.and_eq_true] at h2
      exact h2.1
theorem Z4b {c : Nat} (h : sf lc c = true) : c ≠ 32 ∧ c ≠ 10 := by
  refine ⟨?_,?_⟩ <;> rintro rfl <;> simp [sf] at h
theorem Zjm {c : Nat} {r rest : List Nat} (h : chk lc (c :: r) = true) (b : Bool) (hb : b = true ∨ c ≠ 35) : NX lc b (c :: (r ++ rest)) = true := by
  obtain ⟨h1,h2,h3⟩ := Z5x h
  show (if c = 58 then sfH lc (r ++ rest) else sf lc c && (decide (c ≠ 35) || b)) = true
  by_cases hc : c = 58
  · rw [if_pos hc]
    obtain ⟨d, r', rfl, hd⟩ := h3 hc
    exact hd
  · rw [if_neg hc,h1,Bool.true_and]
    rcases hb with rfl | hb
    · rw [Bool.or_true]
    · rw [decide_eq_true hb]; rfl
theorem Zbq : ∀ {w rest v fin : List Nat},chk lc w = true → RD n lc rest v fin → RD n lc (w ++ rest) (w ++ v) fin
  | [],_,_,_,_,h => h
  | c :: w,rest,v,fin,hw,h => by
    obtain ⟨h1,h2,_⟩ := Z5x hw
    exact Zhb (Z4b h1).1 (Zjm hw true (.inl rfl)) (Zbq h2 h)
inductive Gp where
  | bl (m : Nat)
  | br (a : Nat) (ks : List Nat) (e : Nat)
def gT (n : Nat) : Gp → List Nat
  | .bl m => List.replicate (m + 1) 32
  | .br a ks e => List.replicate a 32 ++ 10 :: ((ks.flatMap fun k => List.replicate k 32 ++ [10]) ++ List.replicate (n + e) 32)
def gV : Gp → List Nat
  | .bl m => List.replicate (m + 1) 32
  | .br _ ks _ => sep ks.length
def gB : Gp → Bool
  | .bl _ => false
  | .br _ _ _ => true
def TG (n lc : Nat) (t v : List Nat) : Prop := ∀ rest w fin,rest.head? ≠ some 45 → RD n lc rest w fin → RD n lc (t ++ rest) (v ++ w) fin
def TB (n lc : Nat) (t : List Nat) : Prop := ∀ rest,rest.head? ≠ some 45 → ∃ w fin,RD n lc (t ++ rest) w fin ∧ rest.length < fin.length
def WL : List (List Nat) := [[97],[98,58,99],[100,35],[45],[63],[45,45],[38,101],[39],[33],[120,124],[45,102],[63,103],[58,104],[64],[34,105,34],[62],[106,58,44],[107,93]]
def FL : List (List Nat) := [[97],[98,58,99],[45,49],[63,120],[58,121],[45,45],[48],[46,46,46]]
theorem wl_mk {w : List Nat} (hw : w ∈ WL) (rest : List Nat) (h : rest.head? ≠ some 45) : isMk (w ++ rest) = false := by
  have h1 : ∀ x r,x ≠ 45 → x ≠ 46 → isMk (x :: r) = false := fun x r a b => by simp [isMk,a,b]
  simp only [WL,List.mem_cons,List.not_mem_nil,or_false] at hw
  rcases hw with rfl | rfl | rfl | rfl | rfl | rfl | rfl | rfl | rfl | rfl | rfl | rfl | rfl | rfl | rfl | rfl | rfl | rfl
  case inr.inr.inr.inl =>
    cases rest with
    | nil => simp [isMk]
    | cons y r =>
      have : y ≠ 45 := fun e => h (by rw [e]; rfl)
      simp [isMk,this]
  case inr.inr.inr.inr.inr.inl =>
    cases rest with
    | nil => simp [isMk]
    | cons y r =>
      have : y ≠ 45 := fun e => h (by rw [e]; rfl)
      simp [isMk,this]
  case inr.inr.inr.inr.inr.inr.inr.inr.inr.inr.inl => simp [isMk]
  all_goals exact h1 _ _ (by decide) (by decide)
theorem Zmh {lc lc' : Nat} (h : brL lc = brL lc') (x : Nat) : sf lc x = sf lc' x := by unfold sf; rw [h]
theorem Zcp {lc lc' : Nat} (h : brL lc = brL lc') : ∀ w, chk lc w = chk lc' w
  | [] => rfl
  | [c] => by show (sf lc c && _) = (sf lc' c && _); rw [Zmh h]
  | c :: d :: r => by show (sf lc c && chk lc (d :: r)) = (sf lc' c && chk lc' (d :: r)); rw [Zmh h, Zcp h (d :: r)]
theorem Zjn {w : List Nat} (hw : w ∈ WL) (h : (brL lc && w.any isBr) = false) : chk lc w = true ∧ w.head? ≠ some 35 ∧ w ≠ [] := by
  have k0 : ∀ w ∈ WL,chk 79 w = true ∧ w.head? ≠ some 35 ∧ w ≠ [] := by decide
  have k1 : ∀ w ∈ WL,w.any isBr = false → chk 73 w = true := by decide
  obtain ⟨a,b,c⟩ := k0 w hw
  refine ⟨?_,b,c⟩
  cases hb : brL lc with
  | false => rw [Zcp (lc' := 79) (by rw [hb]; rfl)]; exact a
  | true =>
    rw [hb,Bool.true_and] at h
    rw [Zcp (lc' := 73) (by rw [hb]; rfl)]
    exact k1 w hw h
theorem Zcq {g : Gp} {w : List Nat} (hw : w ∈ WL) (h1 : (brL lc && w.any isBr) = false) (h2 : (gB g && lineL lc) = false) : TG n lc (gT n g ++ w) (gV g ++ w) := by
  intro rest v fin hr h
  obtain ⟨c1,c2,c3⟩ := Zjn hw h1
  cases w with
  | nil => exact absurd rfl c3
  | cons x w =>
    have hx35 : x ≠ 35 := fun e => c2 (by rw [e]; rfl)
    obtain ⟨s1,s2,_⟩ := Z5x c1
    have hn := Zjm (rest := rest) c1 false (.inr hx35)
    have hwd := Zbq s2 h
    cases g with
    | bl m =>
      show RD n lc (List.replicate (m + 1) 32 ++ (x :: w) ++ rest) (List.replicate (m + 1) 32 ++ (x :: w) ++ v) fin
      rw [List.append_assoc,List.append_assoc]
      exact Zee (Z4b s1).1 hn hwd
    | br a ks e =>
      have hl : lineL lc = false := by simpa [gB] using h2
      have hm := wl_mk hw rest hr
      have pf := PF.lines (n := n) (e := e) (r := w ++ rest) (Z4b s1).1 (Z4b s1).2 ks 0
      rw [Nat.zero_add] at pf
      have := Zef (a := a) hl pf (by
        have hm' : isMk (x :: (w ++ rest)) = false := hm
        rw [hm', Bool.and_false, hn]; rfl) hwd
      show RD n lc (List.replicate a 32 ++ 10 :: ((ks.flatMap fun k => List.replicate k 32 ++ [10]) ++ List.replicate (n + e) 32) ++ (x :: w) ++ rest) (sep ks.length ++ (x :: w) ++ v) fin
      have e1 : List.replicate a 32 ++ 10 :: ((ks.flatMap fun k => List.replicate k 32 ++ [10]) ++ List.replicate (n + e) 32) ++ (x :: w) ++ rest = List.replicate a 32 ++ 10 :: ((ks.flatMap fun k => List.replicate k 32 ++ [10]) ++ (List.replicate (n + e) 32 ++ x :: (w ++ rest))) := by simp
      rw [e1,List.append_assoc]
      exact this
theorem Zis {g : Gp} {w : List Nat} (hw : w ∈ WL) (h : (gB g && lineL lc) = true ∨ (brL lc && w.any isBr) = true) : TB n lc (gT n g ++ w) := by
  intro rest hr
  by_cases hline : (gB g && lineL lc) = true
  · rw [Bool.and_eq_true] at hline
    cases g with
    | bl m => cases hline.1
    | br a ks e =>
      have : SS n lc (List.replicate a 32 ++ 10 :: (((ks.flatMap fun k => List.replicate k 32 ++ [10]) ++ List.replicate (n + e) 32) ++ w ++ rest)) := Z8h fun hl => by rw [hline.2] at hl; cases hl
      have e1 : gT n (.br a ks e) ++ w ++ rest = List.replicate a 32 ++ 10 :: (((ks.flatMap fun k => List.replicate k 32 ++ [10]) ++ List.replicate (n + e) 32) ++ w ++ rest) := by simp [gT]
      rw [e1]
      exact ⟨_,_,this,by simp only [List.length_append,List.length_cons]; omega⟩
  · have hb : (brL lc && w.any isBr) = true := by
      rcases h with h | h
      · exact absurd h hline
      · exact h
    rw [Bool.and_eq_true] at hb
    have hsf : ∀ x,isBr x = true → sf lc x = false := fun x hx => by unfold sf; rw [hb.1,hx]; simp
    have hs2 : ∀ x,(decide (33 ≤ x) && decide (x ≤ 126) && !isBr x) = true → sf lc x = true := fun x hx => by
      rw [Bool.and_eq_true] at hx
      unfold sf
      rw [hx.1,hb.1,Bool.true_and,Bool.true_and]; exact hx.2
    have key : ∀ (x : Nat) (tl : List Nat),x ≠ 35 → x ≠ 58 → x ≠ 45 → x ≠ 46 → sf lc x = true → SS n lc (tl ++ rest) → tl ≠ [] → ∃ v fin,RD n lc (gT n g ++ (x :: tl) ++ rest) v fin ∧ rest.length < fin.length := fun x tl hx hx2 hx3 hx4 hs ss ht => by
      have hn : NX lc false (x :: (tl ++ rest)) = true := by simp [NX,hx2,hs,hx]
      have hlen : rest.length < (tl ++ rest).length := by
        rw [List.length_append]
        have := List.length_pos_iff.mpr ht
        omega
      cases g with
      | bl m =>
        have e1 : gT n (.bl m) ++ (x :: tl) ++ rest = List.replicate (m + 1) 32 ++ x :: (tl ++ rest) := by simp [gT]
        rw [e1]
        exact ⟨_,_,Zee (Z4b hs).1 hn ss,hlen⟩
      | br a ks e =>
        have hl : lineL lc = false := by
          cases h : lineL lc with
          | false => rfl
          | true => rw [h] at hline; exact absurd rfl hline
        have pf := PF.lines (n := n) (e := e) (r := tl ++ rest) (Z4b hs).1 (Z4b hs).2 ks 0
        rw [Nat.zero_add] at pf
        have hm : isMk (x :: (tl ++ rest)) = false := by simp [isMk,hx3,hx4]
        have := Zef (a := a) hl pf (by rw [hm,Bool.and_false,hn]; rfl) ss
        have e1 : gT n (.br a ks e) ++ (x :: tl) ++ rest = List.replicate a 32 ++ 10 :: ((ks.flatMap fun k => List.replicate k 32 ++ [10]) ++ (List.replicate (n + e) 32 ++ x :: (tl ++ rest))) := by simp [gT]
        rw [e1]
        exact ⟨_,_,this,hlen⟩
    have two : w = [106,58,44] ∨ w = [107,93] := by
      have k : ∀ w ∈ WL,w.any isBr = true → w = [106,58,44] ∨ w = [107,93] := by decide
      exact k w hw hb.2
    rcases two with rfl | rfl
    · refine key 106 [58,44] (by decide) (by decide) (by decide) (by decide) (hs2 _ (by decide)) ?_ (by simp)
      refine Vl (a := 0) (by decide) (by decide) ?_
      exact hsf 44 (by decide)
    · refine key 107 [93] (by decide) (by decide) (by decide) (by decide) (hs2 _ (by decide)) ?_ (by simp)
      refine Vl (a := 0) (by decide) (by decide) ?_
      have h93 := hsf 93 (by decide)
      simp [NX,h93]
def uT (n : Nat) (us : List (Gp × List Nat)) : List Nat := us.flatMap fun p => gT n p.1 ++ p.2
def uV (us : List (Gp × List Nat)) : List Nat := us.flatMap fun p => gV p.1 ++ p.2
def uO (lc : Nat) (us : List (Gp × List Nat)) : Bool := us.any fun p => (gB p.1 && lineL lc) || (brL lc && p.2.any isBr)
def UOk (us : List (Gp × List Nat)) : Prop := ∀ p ∈ us,p.2 ∈ WL
theorem Zkx (g : Gp) (r : List Nat) : (gT n g ++ r).head? ≠ some 45 := by
  cases g with
  | bl m => show (List.replicate (m + 1) 32 ++ r).head? ≠ _; rw [List.replicate_succ]; simp
  | br a ks e =>
    cases a with
    | zero => simp [gT]
    | succ a => simp [gT,List.replicate_succ]
theorem Zdh {us : List (Gp × List Nat)} {rest : List Nat} (h : rest.head? ≠ some 45) : (uT n us ++ rest).head? ≠ some 45 := by
  cases us with
  | nil => exact h
  | cons p us =>
    show (gT n p.1 ++ p.2 ++ uT n us ++ rest).head? ≠ _
    rw [List.append_assoc,List.append_assoc]
    exact Zkx p.1 _
theorem Zbr : ∀ {us : List (Gp × List Nat)},UOk us → uO lc us = false → TG n lc (uT n us) (uV us)
  | [],_,_ => fun rest w fin _ h => h
  | p :: us,hu,ho => fun rest w fin hr h => by
    have ho' : ((((gB p.1 && lineL lc) || (brL lc && p.2.any isBr)) || uO lc us)) = false := ho
    rw [Bool.or_eq_false_iff, Bool.or_eq_false_iff] at ho'
    have ih := Zbr (fun q hq => hu q (List.mem_cons_of_mem _ hq)) ho'.2 rest w fin hr h
    have := Zcq (n := n) (hu p List.mem_cons_self) ho'.1.2 ho'.1.1 (uT n us ++ rest) _ fin (Zdh hr) ih
    show RD n lc (gT n p.1 ++ p.2 ++ uT n us ++ rest) (gV p.1 ++ p.2 ++ uV us ++ w) fin
    rw [List.append_assoc (gT n p.1 ++ p.2),List.append_assoc (gV p.1 ++ p.2)]
    exact this
theorem Zjo : ∀ {us : List (Gp × List Nat)},UOk us → uO lc us = true → TB n lc (uT n us)
  | [],_,h => by cases h
  | p :: us,hu,ho => fun rest hr => by
    have hu2 : UOk us := fun q hq => hu q (List.mem_cons_of_mem _ hq)
    have e1 : uT n (p :: us) ++ rest = (gT n p.1 ++ p.2) ++ (uT n us ++ rest) := by
      show gT n p.1 ++ p.2 ++ uT n us ++ rest = _
      rw [List.append_assoc (gT n p.1 ++ p.2)]
    rw [e1]
    by_cases hp : ((gB p.1 && lineL lc) || (brL lc && p.2.any isBr)) = true
    · rw [Bool.or_eq_true] at hp
      obtain ⟨v,fin,a,b⟩ := Zis (n := n) (hu p List.mem_cons_self) hp (uT n us ++ rest) (Zdh hr)
      rw [List.length_append] at b
      exact ⟨v,fin,a,by omega⟩
    · have hp' : ((gB p.1 && lineL lc) || (brL lc && p.2.any isBr)) = false := by simpa using hp
      have ho' : ((((gB p.1 && lineL lc) || (brL lc && p.2.any isBr)) || uO lc us)) = true := ho
      rw [hp', Bool.false_or] at ho'
      obtain ⟨v, fin, a, b⟩ := Zjo hu2 ho' rest hr
      rw [Bool.or_eq_false_iff] at hp'
      exact ⟨_, fin, Zcq (n := n) (hu p List.mem_cons_self) hp'.2 hp'.1 (uT n us ++ rest) v fin (Zdh hr) a, b⟩
end
end Ap
set_option maxHeartbeats 8000000
namespace Ap
open PySem PySem.Spec PyProof.Rows L2 SX Fx
theorem sfN (lc : Nat) {x : Nat} (h : (decide (33 ≤ x) && decide (x ≤ 126) && !isBr x) = true) : sf lc x = true := by
  rw [Bool.and_eq_true] at h
  unfold sf
  rw [h.1,Bool.true_and]
  have h2 : isBr x = false := by simpa using h.2
  rw [h2,Bool.and_false]; rfl
theorem Zky {f : List Nat} (hf : f ∈ FL) (lc : Nat) (rest : List Nat) : FI lc (f ++ rest) = true := by
  have k : ∀ x y r,x ∈ Zm → (decide (33 ≤ y) && decide (y ≤ 126) && !isBr y) = true → FI lc (x :: y :: r) = true := fun x y r h1 h2 => by
    show (if x ∈ Zm then sf lc y else _) = true
    rw [if_pos h1]; exact sfN lc h2
  have k2 : ∀ x r,x ∉ Zm → (decide (33 ≤ x) && decide (x ≤ 126) && !isBr x) = true → x ∉ Yk → FI lc (x :: r) = true := fun x r h1 h2 h3 => by
    show (if x ∈ Zm then _ else sf lc x && !decide (x ∈ Yk)) = true
    rw [if_neg h1,sfN lc h2,decide_eq_false h3]; rfl
  simp only [FL,List.mem_cons,List.not_mem_nil,or_false] at hf
  rcases hf with rfl | rfl | rfl | rfl | rfl | rfl | rfl | rfl
  · exact k2 _ _ (by decide) (by decide) (by decide)
  · exact k2 _ _ (by decide) (by decide) (by decide)
  · exact k _ _ _ (by decide) (by decide)
  · exact k _ _ _ (by decide) (by decide)
  · exact k _ _ _ (by decide) (by decide)
  · exact k _ _ _ (by decide) (by decide)
  · exact k2 _ _ (by decide) (by decide) (by decide)
  · exact k2 _ _ (by decide) (by decide) (by decide)
theorem Zhc {f : List Nat} (hf : f ∈ FL) (lc : Nat) : ∃ x w,f = x :: w ∧ chk lc w = true := by
  have k0 : ∀ f ∈ FL,chk 79 (f.drop 1) = true ∧ f ≠ [] := by decide
  have k1 : ∀ f ∈ FL,chk 73 (f.drop 1) = true := by decide
  obtain ⟨a,b⟩ := k0 f hf
  cases f with
  | nil => exact absurd rfl b
  | cons x w =>
    refine ⟨x,w,rfl,?_⟩
    cases hb : brL lc with
    | false => rw [Zcp (lc' := 79) (by rw [hb]; rfl)]; exact a
    | true => rw [Zcp (lc' := 73) (by rw [hb]; rfl)]; exact k1 _ hf
def okT (t : List Nat) : Prop := t.all okC = true ∧ t.length ≤ 19000
section
variable {ct : List Nat × Nat × List Nat} {n : Nat}
def RN (ct : List Nat × Nat × List Nat) (n : Nat) (t : List Nat) : Prop := ∀ Z, ∃ Z', Y9 [.str t, .str pln, .str ct.1, .int (n : Int), .int 1] Z = .ok .non Z' ∧ Ext Z Z'
def RV (ct : List Nat × Nat × List Nat) (n : Nat) (t v : List Nat) : Prop := ∀ Z, ∃ Z', Y9 [.str t, .str pln, .str ct.1, .int (n : Int), .int 1] Z = .ok (.str v) Z' ∧ Ext Z Z'
theorem Zjp (hct : ct ∈ cts) (hn : n ≤ 100) {f U w fin : List Nat} (hf : f ∈ FL) (hok : okT (f ++ U)) (h : RD n ct.2.1 (U ++ ct.2.2) w fin) (hl : ct.2.2.length < fin.length) : RN ct n (f ++ U) := fun Z => by
  obtain ⟨x,w0,rfl,hc⟩ := Zhc hf ct.2.1
  have hfi := Zky hf ct.2.1 (U ++ ct.2.2)
  have hrd := Zbq hc h
  obtain ⟨Z', e, xx⟩ := (Zdg (Z := Z) hct hn (x := x) (u := w0 ++ U) hok.1 (by have := hok.2; simp at this ⊢; omega)).1 _ _ (by rw [List.append_assoc]; exact hfi) (by rw [List.append_assoc]; exact hrd)
  rw [if_neg (by omega)] at e
  exact ⟨Z', e, xx⟩
theorem Zhd (hct : ct ∈ cts) (hn : n ≤ 100) {f U w fin : List Nat} (hf : f ∈ FL) (hok : okT (f ++ U)) (h : RD n ct.2.1 (U ++ ct.2.2) w fin) (hl : fin.length = ct.2.2.length) : RV ct n (f ++ U) (f ++ w) := fun Z => by
  obtain ⟨x,w0,rfl,hc⟩ := Zhc hf ct.2.1
  have hfi := Zky hf ct.2.1 (U ++ ct.2.2)
  have hrd := Zbq hc h
  obtain ⟨Z', e, xx⟩ := (Zdg (Z := Z) hct hn (x := x) (u := w0 ++ U) hok.1 (by have := hok.2; simp at this ⊢; omega)).1 _ _ (by rw [List.append_assoc]; exact hfi) (by rw [List.append_assoc]; exact hrd)
  rw [if_pos hl] at e
  exact ⟨Z', e, xx⟩
theorem Zbs (hct : ct ∈ cts) (hn : n ≤ 100) {x : Nat} {u : List Nat} (hx : x = 32 ∨ x = 38 ∨ x = 44) (hok : okT (x :: u)) : RN ct n (x :: u) := fun Z => by
  have hfi : ∀ r,FI ct.2.1 (x :: r) = false := fun r => by
    rcases hx with rfl | rfl | rfl
    · simp [FI,Zm,sf]
    · simp [FI,Zm,Yk]
    · simp [FI,Zm,Yk]
  exact (Zdg (Z := Z) hct hn (x := x) (u := u) hok.1 (by have := hok.2; simp at this; omega)).2 (hfi _)
theorem Zmi (lc c : Nat) : ∃ res,PF n [] c res ∧ (res = none ∨ ∃ b,res = some ([],c,b)) := by
  by_cases h : n = 0
  · exact ⟨_,.ok (by simp) (by rw [h]; exact Nat.zero_le _),.inr ⟨_,rfl⟩⟩
  · exact ⟨_,.bad (by simp) (by show (0 : Nat) < n; omega),.inl rfl⟩
theorem Zhe {lc a c : Nat} {r : List Nat} (h : ∀ res,PF n [] c res → PF n r 0 res) : SS n lc (List.replicate a 32 ++ 10 :: r) := by
  obtain ⟨res,h1,h2⟩ := Zmi (n := n) lc c
  rcases h2 with rfl | ⟨b,rfl⟩
  · exact Z8h fun _ => h _ h1
  · exact Z6l (fun _ => h _ h1) fun _ => by simp [NX]
theorem Zjq (hct : ct ∈ cts) : SS n ct.2.1 ct.2.2 := by
  simp only [cts,List.mem_cons,List.not_mem_nil,or_false] at hct
  rcases hct with rfl | rfl | rfl | rfl
  · exact Zhe (a := 0) (c := 0) fun res h => h
  · exact Vl (a := 0) (by decide) (by decide) (by decide)
  · exact Vl (a := 0) (by decide) (by decide) (by decide)
  · exact Vl (a := 0) (by decide) (by decide) (by decide)
theorem Zeg (hct : ct ∈ cts) : ct.2.2.head? ≠ some 45 := by
  simp only [cts,List.mem_cons,List.not_mem_nil,or_false] at hct
  rcases hct with rfl | rfl | rfl | rfl <;> decide
variable {us : List (Gp × List Nat)} {f : List Nat}
theorem Zmj (hct : ct ∈ cts) (hn : n ≤ 100) (hf : f ∈ FL) (hu : UOk us) (ho : uO ct.2.1 us = false) (hok : okT (f ++ uT n us)) : RV ct n (f ++ uT n us) (f ++ uV us) := by
  have := Zbr (n := n) hu ho ct.2.2 [] ct.2.2 (Zeg hct) (Zjq hct)
  rw [List.append_nil] at this
  exact Zhd hct hn hf hok this rfl
theorem Zkz (hct : ct ∈ cts) (hn : n ≤ 100) (hf : f ∈ FL) (hu : UOk us) (ho : uO ct.2.1 us = true) {o : List Nat} (hoh : (o ++ ct.2.2).head? ≠ some 45) (hok : okT (f ++ (uT n us ++ o))) : RN ct n (f ++ (uT n us ++ o)) := by
  obtain ⟨w,fin,a,b⟩ := Zjo (n := n) hu ho (o ++ ct.2.2) hoh
  rw [List.length_append] at b
  exact Zjp hct hn hf hok (by rw [List.append_assoc]; exact a) (by omega)
theorem Zl0 (hct : ct ∈ cts) (hn : n ≤ 100) (hf : f ∈ FL) (hu : UOk us) {o : List Nat} (hoh : (o ++ ct.2.2).head? ≠ some 45) (ho : o ≠ []) (hss : SS n ct.2.1 (o ++ ct.2.2)) (hok : okT (f ++ (uT n us ++ o))) : RN ct n (f ++ (uT n us ++ o)) := by
  cases hout : uO ct.2.1 us with
  | true => exact Zkz hct hn hf hu hout hoh hok
  | false =>
    have := Zbr (n := n) hu hout (o ++ ct.2.2) [] _ hoh hss
    have hp := List.length_pos_iff.mpr ho
    exact Zjp hct hn hf hok (by rw [List.append_assoc]; exact this) (by rw [List.length_append]; omega)
def oddA (n : Nat) : List (List Nat) := if n = 0 then [[10,45,45,45,32],[10,46,46,46,10],[10,35]] else [10 :: List.replicate (n - 1) 32,10 :: 10 :: List.replicate (n - 1) 32]
def oddB (n : Nat) : List (List Nat) := [[32,35],[58,32],[9],[32,9,32],58 :: 10 :: List.replicate n 32,10 :: (List.replicate n 32 ++ [9])]
def oddL (n : Nat) : List (List Nat) := oddA n ++ oddB n
theorem Zmk {lc : Nat} {o : List Nat} (ho : o ∈ oddL n) (rest : List Nat) : SS n lc (o ++ 122 :: rest) ∧ (o ++ 122 :: rest).head? ≠ some 45 := by
  unfold oddL at ho
  rcases List.mem_append.mp ho with ho | ho
  · unfold oddA at ho
    by_cases h0 : n = 0
    · have hA : o ∈ ([[10,45,45,45,32],[10,46,46,46,10],[10,35]] : List (List Nat)) := by rw [if_pos h0] at ho; exact ho
      subst h0
      simp only [List.mem_cons,List.not_mem_nil,or_false] at hA
      rcases hA with rfl | rfl | rfl
      · refine ⟨Z6l (a := 0) (c := 0) (b := true) (r' := 45 :: 45 :: 45 :: 32 :: 122 :: rest) (fun _ => .ok (by simp [bl]) (Nat.zero_le _)) (fun _ => ?_), by simp⟩
        simp [isMk]
      · refine ⟨Z6l (a := 0) (c := 0) (b := true) (r' := 46 :: 46 :: 46 :: 10 :: 122 :: rest) (fun _ => .ok (by simp [bl]) (Nat.zero_le _)) (fun _ => ?_), by simp⟩
        simp [isMk]
      · refine ⟨Z6l (a := 0) (c := 0) (b := true) (r' := 35 :: 122 :: rest) (fun _ => .ok (by simp [bl]) (Nat.zero_le _)) (fun _ => ?_), by simp⟩
        simp [NX]
    · rw [if_neg h0] at ho
      simp only [List.mem_cons,List.not_mem_nil,or_false] at ho
      have e1 : bl (List.replicate (n - 1) 32 ++ 122 :: rest) = n - 1 := Z4v _ (by decide)
      have hb : ∀ c, PF n (List.replicate (n - 1) 32 ++ 122 :: rest) c none := fun c => .bad (by rw [e1, Ul]; simp) (by rw [e1]; omega)
      rcases ho with rfl | rfl
      · exact ⟨Z8h (a := 0) fun _ => hb 0,by simp⟩
      · exact ⟨Z8h (a := 0) fun _ => .more (by simp [bl]) (hb 1),by simp⟩
  · simp only [oddB,List.mem_cons,List.not_mem_nil,or_false] at ho
    rcases ho with rfl | rfl | rfl | rfl | rfl | rfl
    · exact ⟨Vl (a := 1) (x := 35) (by decide) (by decide) (by simp [NX]),by simp⟩
    · exact ⟨Vl (a := 0) (x := 58) (by decide) (by decide) (by simp [NX,sfH,sf]),by simp⟩
    · exact ⟨Vl (a := 0) (x := 9) (by decide) (by decide) (by simp [NX,sf]),by simp⟩
    · exact ⟨Vl (a := 1) (x := 9) (by decide) (by decide) (by simp [NX,sf]),by simp⟩
    · exact ⟨Vl (a := 0) (x := 58) (by decide) (by decide) (by simp [NX,sfH,sf]),by simp⟩
    · refine ⟨?_,by simp⟩
      have pf := PF.lines (n := n) (x := 9) (e := 0) (r := 122 :: rest) (by decide) (by decide) [] 0
      have := Z6l (n := n) (lc := lc) (a := 0) (fun _ => pf) (fun _ => by simp [NX,sf])
      have e1 : (10 :: (List.replicate n 32 ++ [9])) ++ 122 :: rest = List.replicate 0 32 ++ 10 :: (([] : List Nat).flatMap (fun k => List.replicate k 32 ++ [10]) ++ (List.replicate (n + 0) 32 ++ 9 :: 122 :: rest)) := by simp
      rw [e1]; exact this
theorem Zl1 (hct : ct ∈ cts) {o : List Nat} (ho : o ∈ ([[32],[58,32],[10]] : List (List Nat))) : SS n ct.2.1 (o ++ ct.2.2) ∧ (o ++ ct.2.2).head? ≠ some 45 ∧ o ≠ [] := by
  simp only [cts,List.mem_cons,List.not_mem_nil,or_false] at hct ho
  rcases ho with rfl | rfl | rfl
  · rcases hct with rfl | rfl | rfl | rfl
    · exact ⟨Zhe (a := 1) (c := 0) fun res h => h,by simp,by simp⟩
    · exact ⟨Vl (a := 1) (by decide) (by decide) (by decide),by simp,by simp⟩
    · exact ⟨Vl (a := 1) (by decide) (by decide) (by decide),by simp,by simp⟩
    · exact ⟨Vl (a := 1) (by decide) (by decide) (by decide),by simp,by simp⟩
  · exact ⟨Vl (a := 0) (x := 58) (by decide) (by decide) (by simp [NX,sfH,sf]),by simp,by simp⟩
  · rcases hct with rfl | rfl | rfl | rfl
    · exact ⟨Zhe (a := 0) (c := 1) fun res h => .more (by simp [bl]) h,by simp,by simp⟩
    · exact ⟨Z8h (a := 0) (fun h => (by cases h)),by simp,by simp⟩
    · refine ⟨?_,by simp,by simp⟩
      by_cases h : n = 0
      · subst h
        exact Z6l (a := 0) (c := 0) (b := true) (r' := [93]) (fun _ => .ok (by simp [bl]) (Nat.zero_le _)) (fun _ => by decide)
      · exact Z8h (a := 0) fun _ => .bad (by simp [bl]) (by show (0 : Nat) < n; omega)
    · exact ⟨Z8h (a := 0) (fun h => (by cases h)),by simp,by simp⟩
theorem Zhf (hct : ct ∈ cts) (hn : n ≤ 100) (hf : f ∈ FL) (hu : UOk us) {o : List Nat} (ho : o ∈ ([[32],[58,32],[10]] : List (List Nat))) (hok : okT (f ++ (uT n us ++ o))) : RN ct n (f ++ (uT n us ++ o)) := by
  obtain ⟨a,b,c⟩ := Zl1 (n := n) hct ho
  exact Zl0 hct hn hf hu b c a hok
theorem Zit (hct : ct ∈ cts) (hn : n ≤ 100) (hf : f ∈ FL) (hu : UOk us) {o rest : List Nat} (ho : o ∈ oddL n) (hok : okT (f ++ (uT n us ++ (o ++ 122 :: rest)))) : RN ct n (f ++ (uT n us ++ (o ++ 122 :: rest))) := by
  obtain ⟨a,b⟩ := Zmk (lc := ct.2.1) ho (rest ++ ct.2.2)
  refine Zl0 hct hn hf hu ?_ (by simp) ?_ hok
  · rw [List.append_assoc]; exact b
  · rw [List.append_assoc]; exact a
theorem Zl2 (hct : ct ∈ cts) (hn : n ≤ 100) (hf : f ∈ FL) (hu : UOk us) (hok : okT (f ++ (uT n us ++ [58]))) :
    (uO ct.2.1 us = false → lineL ct.2.1 = true → RV ct n (f ++ (uT n us ++ [58])) (f ++ (uV us ++ [58]))) ∧ ((uO ct.2.1 us = true ∨ lineL ct.2.1 = false) → RN ct n (f ++ (uT n us ++ [58]))) := by
  have hh : ([58] ++ ct.2.2).head? ≠ some 45 := by simp
  refine ⟨fun ho hl => ?_,fun h => ?_⟩
  · have hs : RD n ct.2.1 (58 :: ct.2.2) [58] ct.2.2 := by
      refine Zhb (by decide) ?_ (Zjq hct)
      simp only [cts,List.mem_cons,List.not_mem_nil,or_false] at hct
      rcases hct with rfl | rfl | rfl | rfl
      · cases hl
      · decide
      · cases hl
      · decide
    have := Zbr (n := n) hu ho ([58] ++ ct.2.2) [58] ct.2.2 hh hs
    exact Zhd hct hn hf hok (by rw [List.append_assoc]; exact this) rfl
  · rcases h with ho | hl
    · exact Zkz hct hn hf hu ho hh hok
    · refine Zl0 hct hn hf hu hh (by simp) ?_ hok
      simp only [cts,List.mem_cons,List.not_mem_nil,or_false] at hct
      rcases hct with rfl | rfl | rfl | rfl
      · exact Vl (a := 0) (by decide) (by decide) (by decide)
      · cases hl
      · exact Vl (a := 0) (by decide) (by decide) (by decide)
      · cases hl
end
end Ap
set_option maxHeartbeats 8000000
namespace Ap
open PySem PySem.Spec PyProof.Rows L2 SX Fx
def sgn (c : Nat) : Prop := 33 ≤ c ∧ c ≤ 126
inductive St (lc : Nat) (beh : List Nat) : Option Nat → Nat → List Nat → Prop
  | blank {c y : Nat} {r : List Nat} : c ≠ 10 → y ≠ 10 → St lc beh (some c) 32 (y :: r)
  | feed {c y : Nat} {r : List Nat} : lineL lc = false → St lc beh (some c) 10 (y :: r)
  | next {p : Option Nat} {x : Nat} {r : List Nat} : x ≠ 32 → x ≠ 10 → ((p = none ∧ x ∈ Zm) ∨ x = 58) → sfH lc (r ++ beh) = true → St lc beh p x r
  | sign {p : Option Nat} {x : Nat} {r : List Nat} : x ≠ 32 → x ≠ 10 → ¬ ((p = none ∧ x ∈ Zm) ∨ x = 58) → sf lc x = true → (x = 35 → ∃ c,p = some c ∧ sgn c) → (p = none → x ∉ Yk) → St lc beh p x r
theorem Zml (A : List Nat) (Z : Sto) : Z12 [.str A] Z = .ok (.bl (!decide (A < [33]) && !decide ([126] < A))) Z := by
  cases h : decide (A < [33]) with
  | true =>
    have k1 : gLeW (.str [33]) (.str A) Z = some (.bl false,Z) := by
      show some (Fx.T.bl (!decide (A < [33])),Z) = _
      rw [h]; rfl
    simp [Z12,runF,Z80,k1]
  | false =>
    have k1 : gLeW (.str [33]) (.str A) Z = some (.bl true,Z) := by
      show some (Fx.T.bl (!decide (A < [33])),Z) = _
      rw [h]; rfl
    have k2 : gLeW (.str A) (.str [126]) Z = some (.bl (!decide ([126] < A)),Z) := rfl
    simp [Z12,runF,Z80,k1,k2]
theorem f_sgn {c : Nat} (h : sgn c) (Z : Sto) : Z12 [.str [c]] Z = .ok (.bl true) Z := by
  rw [Zml,lt_1,lt_1,decide_eq_false (by have := h.1; omega),decide_eq_false (by have := h.2; omega)]; rfl
theorem Zhg (A a b : List Nat) (Z : Sto) : gNotInW (.str A) (.tup [.str a,.str b]) Z = some (.bl (!(decide (A = a) || decide (A = b))),Z) := by
  have h1 := Z8f A a b Z
  rw [Z7r] at h1
  rw [Vt]
  unfold gIn at h1
  unfold gNotIn
  cases hb : gInB (.str A) (.tup [.str a,.str b]) Z with
  | none => rw [hb] at h1; cases h1
  | some c =>
    rw [hb] at h1
    simp only [Option.map_some,Option.some.injEq,Prod.mk.injEq,Fx.T.bl.injEq,and_true] at h1 ⊢
    rw [h1]
theorem loopCL {α : Type} {it : ItF} {put : Fx.T → Option Fx.Env} {c : FT} {e : FE} {l : List α} {u : α → Fx.T} {p : α → Bool} {fv : α → Fx.T} {Z1 : Sto} (hl : l.length ≤ Lim) (hit : ∀ k Z,Ext Z1 Z → k ≤ l.length → it k Z = some ((l[k]?).map u))
    (h : ∀ x ∈ l,∀ Z,Ext Z1 Z → ∃ ρ Z2,put (u x) = some ρ ∧ c ρ Z = .ok (p x) Z2 ∧ Ext Z Z2 ∧ (p x = true → ∃ Z3,e ρ Z2 = .ok (fv x) Z3 ∧ Ext Z2 Z3)) :
    ∃ Z', loopC it Z1.length put c e Fuel 0 (Z1 ++ [.lst []]) = .ok (.loc Z1.length) Z' ∧ Ext Z1 Z' ∧ getL Z' Z1.length = some ((l.filter p).map fv) := by
  have key : ∀ (post pre : List α) (n : Nat) (acc : List Fx.T) (Z : Sto), l = pre ++ post → post.length < n → Ext Z1 Z → getL Z Z1.length = some acc → acc.length ≤ pre.length → ∃ Z', loopC it Z1.length put c e n pre.length Z = .ok (.loc Z1.length) Z' ∧ Ext Z1 Z' ∧ getL Z' Z1.length = some (acc ++ (post.filter p).map fv) := by
    intro post
    induction post with
    | nil =>
      intro pre n acc Z hp hn hx hg ha
      obtain ⟨n, rfl⟩ : ∃ n', n = n' + 1 := ⟨n - 1, by omega⟩
      refine ⟨Z,?_,hx,by rw [hg]; simp⟩
      unfold loopC
      rw [hit _ Z hx (by rw [hp]; simp),hp]
      simp
    | cons x post ih =>
      intro pre n acc Z hp hn hx hg ha
      obtain ⟨n, rfl⟩ : ∃ n', n = n' + 1 := ⟨n - 1, by omega⟩
      rw [List.length_cons] at hn
      obtain ⟨ρ,Z2,h1,h2,h3,h4⟩ := h x (by rw [hp]; simp) Z hx
      have hx2 := hx.trans h3
      have hg2 := h3.getL hg
      have hpl : pre.length < l.length := by rw [hp]; simp
      have e0 : it pre.length Z = some (some (u x)) := by
        rw [hit _ Z hx (by omega),hp]; simp
      have hp2 : l = (pre ++ [x]) ++ post := by rw [hp]; simp
      unfold loopC
      simp only [e0,h1,h2,Zdy,Yy]
      cases hpx : p x with
      | false =>
        rw [if_neg Bool.false_ne_true]
        obtain ⟨Z', e1, x1, g1⟩ := ih (pre ++ [x]) n acc Z2 hp2 (by omega) hx2 hg2 (by rw [List.length_append]; omega)
        rw [List.length_append] at e1
        exact ⟨Z', e1, x1, by rw [g1, List.filter_cons_of_neg (by rw [hpx]; exact Bool.false_ne_true)]⟩
      | true =>
        rw [if_pos rfl]
        obtain ⟨Z3,h5,h6⟩ := h4 hpx
        have hx3 := hx2.trans h6
        have hg3 := h6.getL hg2
        obtain ⟨Z', e1, x1, g1⟩ := ih (pre ++ [x]) n (acc ++ [fv x]) (Z3.set Z1.length (.lst (acc ++ [fv x]))) hp2 (by omega) (hx3.set (Nat.le_refl _)) (Z1q hg3) (by rw [List.length_append, List.length_append, List.length_singleton, List.length_singleton]; omega)
        rw [List.length_append] at e1
        refine ⟨Z', ?_, x1, by rw [g1, List.filter_cons_of_pos hpx]; simp⟩
        simp only [h5,Zdy,Yy,hg3]
        rw [if_pos (by omega)]
        exact e1
  obtain ⟨Z', e1, x1, g1⟩ := key l [] Fuel [] (Z1 ++ [.lst []]) rfl (by rw [Z4c]; omega) ((Ext.refl Z1).app _) (Xe _ _) (Nat.le_refl _)
  exact ⟨Z', e1, x1, by rw [g1, List.nil_append]⟩
section
variable {ct : List Nat × Nat × List Nat} {Z : Sto}
theorem Ziu (hct : ct ∈ cts) (Z : Sto) : gNotInW (.str ct.1) (.tup Z0y) Z = some (.bl (!lineL ct.2.1),Z) := by
  simp only [cts,List.mem_cons,List.not_mem_nil,or_false] at hct
  rcases hct with rfl | rfl | rfl | rfl <;> rfl
theorem Ziv (hct : ct ∈ cts) {pre post : List Nat} {x : Nat} (hl : (pre ++ x :: post).length ≤ 3000) (h : St ct.2.1 ct.2.2 pre.getLast? x post) : Yn [.str (pre ++ x :: post),.int (pre.length : Int),.str ct.1] Z = .ok (.bl true) Z := by
  obtain ⟨ck1,ck2,ck3⟩ := Zjk hct
  have hbne : ct.2.2 ≠ [] := by
    simp only [cts,List.mem_cons,List.not_mem_nil,or_false] at hct
    rcases hct with rfl | rfl | rfl | rfl <;> simp
  have hol := Ziu hct
  have hlL : (pre ++ x :: post).length ≤ Lim := by unfold Lim; omega
  have hix : gIxW (.str (pre ++ x :: post)) (.int (pre.length : Int)) Z = some (.str [x],Z) := by
    have : atI (pre ++ x :: post) (pre.length : Int) = some x := Fx.atI_nat (by rw [List.getElem?_append_right (Nat.le_refl _),Nat.sub_self]; rfl)
    show (if (pre ++ x :: post).length ≤ Lim then (atI (pre ++ x :: post) (pre.length : Int)).map fun c => (Fx.T.str [c],Z) else none) = _
    rw [if_pos hlL,this]; rfl
  have hs1 : gSl (.str (pre ++ x :: post)) none (some (pre.length : Int)) Z = some (.str pre,Z) := by
    show (if (pre ++ x :: post).length ≤ Lim then some (Fx.T.str (cutL (pre ++ x :: post) none (some (pre.length : Int))),Z) else none) = _
    rw [if_pos hlL,Zff,List.take_left]
  have hpl : pre.length ≤ Lim := by rw [List.length_append] at hlL; omega
  have hs2 : gSl (.str pre) (some (-1)) none Z = some (.str pre.getLast?.toList,Z) := by
    show (if pre.length ≤ Lim then some (Fx.T.str (cutL pre (some (-1)) none),Z) else none) = _
    rw [if_pos hpl,Zhm]
  have ad := Xg (pre ++ x :: post) ct.2.2 Z (by unfold Lim; omega)
  obtain ⟨b,r,hbr⟩ : ∃ b r,post ++ ct.2.2 = b :: r := by
    cases post with
    | nil =>
      cases hb : ct.2.2 with
      | nil => exact absurd hb hbne
      | cons b r => exact ⟨b,r,rfl⟩
    | cons b r => exact ⟨b,_,rfl⟩
  have hix2 : gIxW (.str (pre ++ x :: post ++ ct.2.2)) (.int ((pre.length : Int) + 1)) Z = some (.str [b],Z) := by
    have hc : (pre.length : Int) + 1 = ((pre.length + 1 : Nat) : Int) := by omega
    have : atI (pre ++ x :: post ++ ct.2.2) ((pre.length + 1 : Nat) : Int) = some b := Fx.atI_nat (by
      rw [List.append_assoc,List.getElem?_append_right (by omega),Nat.add_sub_cancel_left,List.cons_append,hbr]; rfl)
    show (if (pre ++ x :: post ++ ct.2.2).length ≤ Lim then (atI (pre ++ x :: post ++ ct.2.2) ((pre.length : Int) + 1)).map fun c => (Fx.T.str [c],Z) else none) = _
    rw [if_pos (by rw [List.length_append]; unfold Lim; omega),hc,this]; rfl
  have hlen : gLen [.str (pre ++ x :: post)] Z = some (.int ((pre ++ x :: post).length : Int),Z) := by rw [Z5e,if_pos hlL]
  have hlast : ((pre.length : Int) = ((pre ++ x :: post).length : Int) - 1) = (post = []) := by
    rw [eq_iff_iff,List.length_append,List.length_cons]
    constructor
    · intro h
      exact List.eq_nil_of_length_eq_zero (by omega)
    · rintro rfl
      simp
  have hz : ((pre.length : Int) = 0) = (pre.getLast? = none) := by
    rw [eq_iff_iff,List.getLast?_eq_none_iff]
    constructor
    · intro h
      exact List.eq_nil_of_length_eq_zero (by omega)
    · rintro rfl
      rfl
  have hsfb : sfH ct.2.1 (post ++ ct.2.2) = sf ct.2.1 b := by rw [hbr]; rfl
  have fsb : Ym [.str [b],.str [ct.2.1]] Z = .ok (.bl (sf ct.2.1 b)) Z := Zea ct.2.1 [b] Z
  have fsx : Ym [.str [x],.str [ct.2.1]] Z = .ok (.bl (sf ct.2.1 x)) Z := Zea ct.2.1 [x] Z
  have ek : eKdI Z1s (eVar 2) = eKdI Z1s (eVar 2) := rfl
  clear ek
  generalize hT : pre ++ x :: post = T at *
  generalize hTB : T ++ ct.2.2 = TB at *
  generalize hK : (pre.length : Int) = K at *
  generalize hTL : (T.length : Int) = TL at *
  generalize hP : pre.getLast? = P at *
  generalize hC : ct.1 = CC at *
  clear hTL hlL hl hpl hT hTB
  cases h with
  | @blank c y r hc hy =>
    have hy' : b = y := by
      have : (y :: r) ++ ct.2.2 = y :: (r ++ ct.2.2) := rfl
      rw [this] at hbr
      exact (List.cons.inj hbr).1.symm
    subst hy'
    have hn := Zhg [c] [] [10] Z
    have hn' : gNotInW (.str [c]) (.tup [.str [], .str [10]]) Z = some (.bl true, Z) := by rw [hn]; simp [hc]
    have hlast' : (K = TL - 1) = False := by rw [hlast]; simp
    simp [-Va, -Zce, -sl_s, -Z5e, -Vt, Yn, runF, X6, hix, oNone, oSome, hs1, hs2, eKdI, ck2, ad, hix2, hlen, hlast', hn', hy]
  | @feed c y r hl =>
    rw [hl] at hol
    have hol' : ∀ Z, gNotInW (.str CC) (.tup Z0y) Z = some (.bl true, Z) := hol
    have hlast' : (K = TL - 1) = False := by rw [hlast]; simp
    simp [-Va, -Zce, -sl_s, -Z5e, -Vt, Yn, runF, X6, hix, oNone, oSome, hs1, hs2, eKdI, ck2, ad, hix2, hlen, hlast', hol']
  | next h1 h2 h3 h4 =>
    rw [hsfb] at h4
    rw [h4] at fsb
    by_cases h58 : x = 58
    · subst h58
      have hm : 58 ∈ Zm := by decide
      by_cases hk : K = 0
      · have hk' : (K = 0) = True := eq_true hk
        simp [-Va, -Zce, -sl_s, -Z5e, -Vt, Yn, runF, X6, hix, oNone, oSome, hs1, hs2, eKdI, ck1, ck2, ad, hix2, hlen, fsb, hk', hm]
      · have hk' : (K = 0) = False := eq_false hk
        simp [-Va, -Zce, -sl_s, -Z5e, -Vt, Yn, runF, X6, hix, oNone, oSome, hs1, hs2, eKdI, ck1, ck2, ad, hix2, hlen, fsb, hk', hm]
    · have h3' : P = none ∧ x ∈ Zm := by
        rcases h3 with h | h
        · exact h
        · exact absurd h h58
      have hz' : (K = 0) = True := by rw [hz]; exact eq_true h3'.1
      simp [-Va, -Zce, -sl_s, -Z5e, -Vt, Yn, runF, X6, hix, oNone, oSome, hs1, hs2, eKdI, ck1, ck2, ad, hix2, hlen, fsb, h1, h2, hz', h3'.2]
  | sign h1 h2 h3 h4 h5 h6 =>
    rw [h4] at fsx
    have h58 : x ≠ 58 := fun e => h3 (.inr e)
    by_cases hp : P = none
    · have hz' : (K = 0) = True := by rw [hz]; exact eq_true hp
      have hm : x ∉ Zm := fun e => h3 (.inl ⟨hp,e⟩)
      have h35 : x ≠ 35 := fun e => by
        obtain ⟨c,hc,_⟩ := h5 e
        rw [hp] at hc; cases hc
      have hnf := h6 hp
      simp [-Va, -Zce, -sl_s, -Z5e, -Vt, Yn, runF, X6, hix, oNone, oSome, hs1, hs2, eKdI, ck1, ck2, ad, hix2, hlen, fsx, h1, h2, h58, hz', hm, h35, hnf]
    · have hz' : (K = 0) = False := by rw [hz]; exact eq_false hp
      by_cases h35 : x = 35
      · obtain ⟨c,rfl,hs⟩ := h5 h35
        subst h35
        have fs := f_sgn hs Z
        simp [-Va, -Zce, -sl_s, -Z5e, -Vt, Yn, runF, X6, hix, oNone, oSome, hs1, hs2, eKdI, ck1, ck2, ad, hix2, hlen, fsx, hz', fs]
      · simp [-Va, -Zce, -sl_s, -Z5e, -Vt, Yn, runF, X6, hix, oNone, oSome, hs1, hs2, eKdI, ck1, ck2, ad, hix2, hlen, fsx, h1, h2, h58, hz', h35]
def AO (lc : Nat) (beh : List Nat) : Option Nat → List Nat → Prop
  | _,[] => True
  | p,x :: r => St lc beh p x r ∧ AO lc beh (some x) r
theorem Zeh {lc : Nat} {beh : List Nat} : ∀ (a : List Nat) (p : Option Nat) (x : Nat) (b : List Nat),AO lc beh p (a ++ x :: b) → St lc beh (match a.getLast? with | some c => some c | none => p) x b
  | [],p,x,b,h => h.1
  | c :: a,p,x,b,h => by
    have ih := Zeh a (some c) x b h.2
    have : (match (c :: a).getLast? with | some c => some c | none => p) = (match a.getLast? with | some c => some c | none => some c) := by
      rw [List.getLast?_cons]
      cases a.getLast? <;> rfl
    rw [this]; exact ih
theorem Zmm (hct : ct ∈ cts) {v : List Nat} (hok : v.all okC = true) (hl : v.length ≤ 3000) (hne : v ≠ []) (h : AO ct.2.1 ct.2.2 none v) : ∃ Z', Z81 [.str v, .str pln, .str ct.1] Z = .ok (.bl true) Z' ∧ Ext Z Z' := by
  obtain ⟨Y,et⟩ := Zcn (t := v) (by unfold Lim; omega) hok Z
  obtain ⟨Z1,hZ1⟩ : ∃ Z1,Z1 = Z ++ Y := ⟨_,rfl⟩
  rw [← hZ1] at et
  have x1 : Ext Z Z1 := by rw [hZ1]; exact (Ext.refl Z).app _
  have hlen : ∀ Z,gLen [.str v] Z = some (.int ((v.length : Nat) : Int),Z) := fun Z => by rw [Z5e,if_pos (by unfold Lim; omega)]
  have hgt : ¬ (3000 : Int) < ((v.length : Nat) : Int) := by omega
  have ev : Jg [.str v] Z = .ok .non Z1 := by
    generalize ((v.length : Nat) : Int) = VL at *
    simp [-Z5e,Jg,runF,Z5m,et,hlen,gGtW,hgt]
  have pB := Zed hct Z1
  obtain ⟨Z2,e2,x2,g2⟩ := loopCL (it := itRng 0 v.length) (put := fun t => putN [3] t (wipeR [some (.str v),some (.str pln),some (.str ct.1),none] [3])) (c := eYes) (e := Qa) (l := List.range v.length) (u := fun (i : Nat) => Fx.T.int (i : Int)) (p := fun _ => true) (fv := fun _ => Fx.T.bl true) (Z1 := Z1) (by rw [List.length_range]; unfold Lim; omega) (fun k Z _ _ => by
      simp only [itRng]
      by_cases h : k < v.length
      · rw [if_pos h,List.getElem?_range h,Int.zero_add]; rfl
      · rw [if_neg h,List.getElem?_eq_none (by rw [List.length_range]; omega)]; rfl)
    (fun i hi Zc x => ⟨[some (.str v),some (.str pln),some (.str ct.1),some (.int (i : Int))],Zc,by rw [Z1a]; rfl,rfl,Ext.refl Zc,fun _ => ⟨Zc,by
      have hi' := List.mem_range.mp hi
      have hv : v = v.take i ++ v[i] :: v.drop (i + 1) := by
        conv => lhs; rw [← List.take_append_drop i v]
        rw [List.drop_eq_getElem_cons hi']
      have hs := Zeh (v.take i) none v[i] (v.drop (i + 1)) (by rw [← hv]; exact h)
      have hm : (match (v.take i).getLast? with | some c => some c | none => (none : Option Nat)) = (v.take i).getLast? := by cases (v.take i).getLast? <;> rfl
      rw [hm] at hs
      have := Ziv (Z := Zc) hct (by rw [← hv]; exact hl) hs
      rw [← hv,List.length_take,Nat.min_eq_left (by omega)] at this
      simp [Qa,this],Ext.refl Zc⟩⟩)
  have em : ((List.range v.length).filter fun _ => true) = List.range v.length := List.filter_eq_self.mpr fun _ _ => rfl
  rw [em] at g2
  have hb := Z7q (fun _ : Nat => true) (List.range v.length)
  have hall : ((List.range v.length).map fun _ : Nat => true).all id = true := by
    rw [List.all_eq_true]
    intro b hb
    obtain ⟨_,_,rfl⟩ := List.mem_map.mp hb
    rfl
  refine ⟨Z2,?_,x1.trans x2⟩
  have hr : iRng (aCons (eCallB gLen (aCons (eVar 0) aNil)) aNil) [some (.str v),some (.str pln),some (.str ct.1),none] Z1 = .ok (itRng 0 v.length) Z1 := by
    have := rngN (n := v.length) (Z := Z1) (by unfold Lim; omega)
    generalize ((v.length : Nat) : Int) = VL at *
    simp [-Z5e,hlen,this]
  have hc : eLc [3] [3] (iRng (aCons (eCallB gLen (aCons (eVar 0) aNil)) aNil)) eYes Qa [some (.str v),some (.str pln),some (.str ct.1),none] Z1 = .ok (.loc Z1.length) Z2 := by rw [q_lc,hr,Yy]; exact e2
  have ga : gAll [.loc Z1.length] Z2 = some (.bl true,Z2) := by
    show ((asList (.loc Z1.length) Z2).bind fun ts => (bools ts).map fun bs => (Fx.T.bl (bs.all id),Z2)) = _
    rw [Jj,g2]
    show ((bools ((List.range v.length).map fun _ => Fx.T.bl true)).map fun bs => (Fx.T.bl (bs.all id),Z2)) = _
    rw [hb,Option.map_some,hall]
  have ef : Z0a [.str v,.str pln,.str ct.1] Z1 = .ok (.bl true) Z2 := by
    have hpp : (pln = [112,108,97,105,110]) = True := eq_true rfl
    generalize pln = PP at *
    simp [-q_lc,-Z5e,Z0a,runF,Z6u,hpp,hne,hc,ga]
  simp [Z81,runF,Zjh,ev,pB,ef]
end
end Ap
set_option maxHeartbeats 8000000
namespace Ap
open PySem PySem.Spec PyProof.Rows L2 SX Fx
section
variable {lc : Nat} {beh : List Nat}
theorem Zhh {x : Nat} (h : sf lc x = true) : sgn x := by
  unfold sf at h
  rw [Bool.and_eq_true,Bool.and_eq_true] at h
  exact ⟨of_decide_eq_true h.1.1,of_decide_eq_true h.1.2⟩
theorem Zdi : ∀ (w : List Nat) (c0 : Nat) (r : List Nat),chk lc w = true → w ≠ [] → (w.head? = some 35 → sgn c0) → (∀ c,sgn c → AO lc beh (some c) r) → AO lc beh (some c0) (w ++ r)
  | [],_,_,_,h,_,_ => absurd rfl h
  | x :: w,c0,r,hc,_,hh,hr => by
    obtain ⟨h1,h2,h3⟩ := Z5x hc
    obtain ⟨n1,n2⟩ := Z4b h1
    refine ⟨?_,?_⟩
    · by_cases h58 : x = 58
      · obtain ⟨d, r', rfl, hd⟩ := h3 h58
        exact .next n1 n2 (.inr h58) hd
      · exact .sign n1 n2 (fun e => by
          rcases e with ⟨e,_⟩ | e
          · cases e
          · exact h58 e) h1 (fun e => ⟨c0,rfl,hh (by rw [e]; rfl)⟩) (fun e => by cases e)
    · cases w with
      | nil => exact hr x (Zhh h1)
      | cons y w => exact Zdi (y :: w) x r h2 (by simp) (fun _ => Zhh h1) hr
theorem Ziw {f r : List Nat} (hf : f ∈ FL) (hr : ∀ c,sgn c → AO lc beh (some c) r) : AO lc beh none (f ++ r) := by
  obtain ⟨x,w,rfl,hc⟩ := Zhc hf lc
  have hfi := Zky hf lc (r ++ beh)
  have hfi : (if x ∈ Zm then sfH lc (w ++ (r ++ beh)) else sf lc x && !decide (x ∈ Yk)) = true := hfi
  have hsg : sgn x ∧ x ≠ 32 ∧ x ≠ 10 ∧ St lc beh none x (w ++ r) := by
    by_cases hm : x ∈ Zm
    · rw [if_pos hm] at hfi
      have hx : sgn x ∧ x ≠ 32 ∧ x ≠ 10 := by
        simp only [Zm,List.mem_cons,List.not_mem_nil,or_false] at hm
        rcases hm with rfl | rfl | rfl <;> exact ⟨⟨by decide,by decide⟩,by decide,by decide⟩
      exact ⟨hx.1,hx.2.1,hx.2.2,.next hx.2.1 hx.2.2 (.inl ⟨rfl,hm⟩) (by rw [List.append_assoc]; exact hfi)⟩
    · rw [if_neg hm,Bool.and_eq_true] at hfi
      obtain ⟨n1,n2⟩ := Z4b hfi.1
      have hnf : x ∉ Yk := by simpa using hfi.2
      refine ⟨Zhh hfi.1,n1,n2,.sign n1 n2 (fun e => ?_) hfi.1 (fun e => ?_) fun _ => hnf⟩
      · rcases e with ⟨_,e⟩ | e
        · exact hm e
        · exact hm (by rw [e]; decide)
      · exact absurd (by rw [e]; decide) hnf
  refine ⟨hsg.2.2.2,?_⟩
  cases w with
  | nil => exact hr x hsg.1
  | cons y w => exact Zdi (y :: w) x r hc (by simp) (fun _ => hsg.1) hr
theorem Z8i {y : Nat} {t : List Nat} (hy : y ≠ 10) (h : ∀ c,AO lc beh (some c) (y :: t)) : ∀ (k c : Nat),c ≠ 10 → AO lc beh (some c) (List.replicate k 32 ++ y :: t)
  | 0,c,_ => h c
  | k + 1,c,hc => by
    rw [List.replicate_succ,List.cons_append]
    refine ⟨?_,Z8i hy h k 32 (by decide)⟩
    cases k with
    | zero => exact .blank hc hy
    | succ k => rw [List.replicate_succ,List.cons_append]; exact .blank hc (by decide)
theorem Zei {y : Nat} {t : List Nat} (hl : lineL lc = false) (h : ∀ c,AO lc beh (some c) (y :: t)) : ∀ (k c : Nat),AO lc beh (some c) (List.replicate k 10 ++ y :: t)
  | 0,c => h c
  | k + 1,c => by
    rw [List.replicate_succ,List.cons_append]
    refine ⟨?_,Zei hl h k 10⟩
    cases k with
    | zero => exact .feed hl
    | succ k => rw [List.replicate_succ,List.cons_append]; exact .feed hl
theorem Zmn : ∀ (us : List (Gp × List Nat)) (c : Nat),sgn c → UOk us → uO lc us = false → AO lc beh (some c) (uV us)
  | [],_,_,_,_ => trivial
  | p :: us,c,hc,hu,ho => by
    have ho' : ((((gB p.1 && lineL lc) || (brL lc && p.2.any isBr)) || uO lc us)) = false := ho
    rw [Bool.or_eq_false_iff, Bool.or_eq_false_iff] at ho'
    obtain ⟨c1, c2, c3⟩ := Zjn (hu p List.mem_cons_self) ho'.1.2
    have ih := fun c hc => Zmn us c hc (fun q hq => hu q (List.mem_cons_of_mem _ hq)) ho'.2
    have hw : ∀ c,AO lc beh (some c) (p.2 ++ uV us) := fun c => Zdi p.2 c _ c1 c3 (fun e => absurd e c2) ih
    have hc10 : c ≠ 10 := by have := hc.1; omega
    show AO lc beh (some c) (gV p.1 ++ p.2 ++ uV us)
    rw [List.append_assoc]
    cases hp : p.2 with
    | nil => exact absurd hp c3
    | cons y w =>
      rw [hp] at hw c1
      have hy := (Z4b (Z5x c1).1).2
      cases hg : p.1 with
      | bl m => exact Z8i hy hw (m + 1) c hc10
      | br a ks e =>
        have hl : lineL lc = false := by
          have := ho'.1.1
          rw [hg] at this
          simpa [gB] using this
        show AO lc beh (some c) (sep ks.length ++ (y :: w ++ uV us))
        unfold sep
        by_cases h0 : ks.length = 0
        · rw [if_pos h0]
          exact Z8i hy hw 1 c hc10
        · rw [if_neg h0]
          exact Zei hl hw ks.length c
end
def GpK (n : Nat) : Gp → Prop
  | .bl m => m ≤ 2
  | .br a ks e => a ≤ 2 ∧ ks.length ≤ 3 ∧ (∀ k ∈ ks,k ≤ n + 2) ∧ e ≤ 3
theorem Zmo {n : Nat} {g : Gp} (hn : n ≤ 5) (h : GpK n g) : (gT n g).all okC = true ∧ (gT n g).length ≤ 40 := by
  cases g with
  | bl m =>
    have hm : m ≤ 2 := h
    refine ⟨?_,by show (List.replicate (m + 1) 32).length ≤ 40; rw [List.length_replicate]; omega⟩
    rw [List.all_eq_true]
    intro c hc
    rw [(List.mem_replicate.mp hc).2]; rfl
  | br a ks e =>
    obtain ⟨h1,h2,h3,h4⟩ := h
    have hl : ∀ ks : List Nat,(∀ k ∈ ks,k ≤ n + 2) → (ks.flatMap fun k => List.replicate k 32 ++ [10]).length ≤ 8 * ks.length := fun ks => by
      induction ks with
      | nil => intro _; exact Nat.le_refl _
      | cons k ks ih =>
        intro hk
        have h1 := ih fun k hk' => hk k (List.mem_cons_of_mem _ hk')
        have h2 := hk k List.mem_cons_self
        rw [List.flatMap_cons,List.length_append,List.length_append,List.length_replicate,List.length_singleton,List.length_cons]
        omega
    have h5 := hl ks h3
    refine ⟨?_,?_⟩
    · rw [List.all_eq_true]
      intro c hc
      have : c = 32 ∨ c = 10 := by
        rcases List.mem_append.mp hc with hc | hc
        · exact .inl (List.mem_replicate.mp hc).2
        · rcases List.mem_cons.mp hc with hc | hc
          · exact .inr hc
          · rcases List.mem_append.mp hc with hc | hc
            · obtain ⟨k,_,hc⟩ := List.mem_flatMap.mp hc
              rcases List.mem_append.mp hc with hc | hc
              · exact .inl (List.mem_replicate.mp hc).2
              · exact .inr (List.mem_singleton.mp hc)
            · exact .inl (List.mem_replicate.mp hc).2
      rcases this with rfl | rfl <;> rfl
    · show (List.replicate a 32 ++ 10 :: ((ks.flatMap fun k => List.replicate k 32 ++ [10]) ++ List.replicate (n + e) 32)).length ≤ 40
      rw [List.length_append,List.length_cons,List.length_append,List.length_replicate,List.length_replicate]
      omega
theorem gV_ok {n : Nat} {g : Gp} (h : GpK n g) : (gV g).all okC = true ∧ (gV g).length ≤ 3 := by
  cases g with
  | bl m =>
    have hm : m ≤ 2 := h
    refine ⟨?_,by show (List.replicate (m + 1) 32).length ≤ 3; rw [List.length_replicate]; omega⟩
    rw [List.all_eq_true]
    intro c hc
    rw [(List.mem_replicate.mp hc).2]; rfl
  | br a ks e =>
    obtain ⟨h1,h2,h3,h4⟩ := h
    show (sep ks.length).all okC = true ∧ (sep ks.length).length ≤ 3
    unfold sep
    split
    · exact ⟨rfl,by decide⟩
    · refine ⟨?_,by rw [List.length_replicate]; exact h2⟩
      rw [List.all_eq_true]
      intro c hc
      rw [(List.mem_replicate.mp hc).2]; rfl
theorem Zmp : ∀ w ∈ WL,w.all okC = true ∧ w.length ≤ 4 := by decide
theorem Zix : ∀ f ∈ FL,f.all okC = true ∧ f.length ≤ 4 ∧ f ≠ [] := by decide
def USk (n : Nat) (us : List (Gp × List Nat)) : Prop := ∀ p ∈ us,p.2 ∈ WL ∧ GpK n p.1
theorem USk.ok {n : Nat} {us : List (Gp × List Nat)} (h : USk n us) : UOk us := fun p hp => (h p hp).1
theorem Zdj {n : Nat} (hn : n ≤ 5) : ∀ {us : List (Gp × List Nat)},USk n us → (uT n us).all okC = true ∧ (uT n us).length ≤ 44 * us.length
  | [],_ => ⟨rfl,Nat.le_refl _⟩
  | p :: us,h => by
    obtain ⟨a1,a2⟩ := Zdj hn (us := us) fun q hq => h q (List.mem_cons_of_mem _ hq)
    obtain ⟨h1,h2⟩ := h p List.mem_cons_self
    obtain ⟨b1,b2⟩ := Zmo hn h2
    obtain ⟨c1,c2⟩ := Zmp _ h1
    show ((gT n p.1 ++ p.2 ++ uT n us).all okC = true ∧ (gT n p.1 ++ p.2 ++ uT n us).length ≤ _)
    rw [List.all_append,List.all_append,b1,c1,a1,List.length_append,List.length_append,List.length_cons]
    exact ⟨rfl,by omega⟩
theorem Ziy {n : Nat} : ∀ {us : List (Gp × List Nat)},USk n us → (uV us).all okC = true ∧ (uV us).length ≤ 7 * us.length
  | [],_ => ⟨rfl,Nat.le_refl _⟩
  | p :: us,h => by
    obtain ⟨a1,a2⟩ := Ziy (n := n) (us := us) fun q hq => h q (List.mem_cons_of_mem _ hq)
    obtain ⟨h1,h2⟩ := h p List.mem_cons_self
    obtain ⟨b1,b2⟩ := gV_ok h2
    obtain ⟨c1,c2⟩ := Zmp _ h1
    show ((gV p.1 ++ p.2 ++ uV us).all okC = true ∧ (gV p.1 ++ p.2 ++ uV us).length ≤ _)
    rw [List.all_append,List.all_append,b1,c1,a1,List.length_append,List.length_append,List.length_cons]
    exact ⟨rfl,by omega⟩
theorem Zmq {ct : List Nat × Nat × List Nat} (hct : ct ∈ cts) {n : Nat} {f : List Nat} {us : List (Gp × List Nat)} (hf : f ∈ FL) (hu : USk n us) (hl : us.length ≤ 6) (ho : uO ct.2.1 us = false) (Z : Sto) : ∃ Z', Z81 [.str (f ++ uV us), .str pln, .str ct.1] Z = .ok (.bl true) Z' ∧ Ext Z Z' := by
  obtain ⟨a1,a2⟩ := Ziy hu
  obtain ⟨b1,b2,b3⟩ := Zix f hf
  refine Zmm hct ?_ ?_ ?_ (Ziw hf fun c hc => Zmn us c hc hu.ok ho)
  · rw [List.all_append,b1,a1]; rfl
  · rw [List.length_append]; omega
  · intro e
    exact b3 (List.append_eq_nil_iff.mp e).1
end Ap
set_option maxHeartbeats 4000000
namespace Ap
open PySem PySem.Spec PyProof.Rows L2 SX Fx
def Wd (Z : Sto) (w : Nat) : Prop := (∃ a : Int,getL Z w = some [.int a]) ∨ ∃ a b c : Int,getL Z w = some [.int a,.int b,.int c]
structure Kd (w : Nat) (Z Z' : Sto) : Prop where
  wel : Wd Z' w
  len : Z.length ≤ Z'.length
  keep : ∀ i, i < Z.length → i ≠ w → Z'[i]? = Z[i]?
theorem Kd.trans {w : Nat} {Z Z1 Z2 : Sto} (a : Kd w Z Z1) (b : Kd w Z1 Z2) : Kd w Z Z2 :=
  ⟨b.wel,Nat.le_trans a.len b.len,fun i hi hn => (b.keep i (Nat.lt_of_lt_of_le hi a.len) hn).trans (a.keep i hi hn)⟩
theorem Kd.new {w : Nat} {Z Y : Sto} (h : Wd Z w) : Kd w Z (Z ++ Y) := by
  refine ⟨?_,by rw [List.length_append]; omega,fun i hi _ => List.getElem?_append_left hi⟩
  rcases h with ⟨a,e⟩ | ⟨a,b,c,e⟩
  · exact .inl ⟨a,Q7 e⟩
  · exact .inr ⟨a,b,c,Q7 e⟩
theorem Kd.getL {w i : Nat} {Z Z' : Sto} {ts : List Fx.T} (k : Kd w Z Z') (hn : i ≠ w) (h : getL Z i = some ts) : getL Z' i = some ts := by
  rw [Z36] at h ⊢
  rw [k.keep i (List.getElem?_eq_some_iff.mp h).1 hn]; exact h
theorem Kd.getDK {w i : Nat} {Z Z' : Sto} {ts : List (Key × Fx.T)} (k : Kd w Z Z') (hn : i ≠ w) (h : getDK Z i = some ts) : getDK Z' i = some ts := by
  unfold Fx.getDK at h ⊢
  cases e : Z[i]? with
  | none => rw [e] at h; cases h
  | some o => rw [k.keep i (List.getElem?_eq_some_iff.mp e).1 hn,e]; rw [e] at h; exact h
theorem Zej {Z : Sto} {w : Nat} {a b c : Int} (hw : getL Z w = some [.int a,.int b,.int c]) (n : Nat) (h0 : 0 < n) (h1 : n < 2 ^ 200) (o2 o3 : Option Fx.T) :
    ∃ (r : Nat) (a' b' c' : Int), r < n ∧ Q8 [some (.loc w), some (.int n), o2, o3] Z = .rt (.int r) (Z.set w (.lst [.int a', .int b', .int c'])) := by
  have hn : (0 : Int) < (n : Int) := by omega
  have hn2 : ((n : Int) < 1606938044258990275541962092341162602522202993782792835301376) := by omega
  by_cases ha : (0 : Int) < a
  · obtain ⟨r,hr,e⟩ := modN a h0
    refine ⟨r,a / n,b,c,hr,?_⟩
    simp [Q8,Z25 _ hw,Ze1 _ _ hw,hw,ha,h0,h1,hn2,e,ixN]
  · have e1 := Z1q (us := [.int a,.int b,.int (c + 1)]) hw
    generalize hx : ((b + 7919 * (c + 1) + 1) * 48271 : Int) % 2147483647 = x
    generalize hy : (x * (x / 1009 + 69621) : Int) % 2147483647 = y
    have mx : ∀ z,mulOk x z = true := fun z => hx ▸ Za1 _ _ _ (by decide) (by decide)
    have my : ∀ z,mulOk y z = true := fun z => hy ▸ Za1 _ _ _ (by decide) (by decide)
    obtain ⟨r,hr,e⟩ := modN (y * (y / 2003 + 40692) % 2147483399) h0
    refine ⟨r,a,b,c + 1,hr,?_⟩
    simp [Q8,Z40,Z3z,Z3y,Z3x,Z25 _ hw,Ze1 _ _ hw,Z25 _ e1,hw,ha,h0,h1,hn2,e,e1,hx,hy,mx,my,ixN]
theorem Z4w {Z : Sto} {w : Nat} (hw : Wd Z w) (n : Nat) (h0 : 0 < n) (h1 : n < 2 ^ 200) :
    ∃ (r : Nat) (Z' : Sto), r < n ∧ Yc [.loc w, .int n] Z = .ok (.int r) Z' ∧ Kd w Z Z' := by
  rcases hw with ⟨a,hw⟩ | ⟨a,b,c,hw⟩
  · have hlt := Zat hw
    have hne : Z.length ≠ w := by omega
    have e0 : getL (Z ++ [.lst [.int (a % 2147483647),.int 0]]) w = some [.int a] := Q7 hw
    have e00 : getL (Z ++ [.lst [.int (a % 2147483647),.int 0]]) Z.length = some [.int (a % 2147483647),.int 0] := by simp
    generalize hZ1 : Z ++ [O.lst [.int (a % 2147483647),.int 0]] = Z1 at e0 e00
    have e1 : getL (Z1.set w (.lst [.int a,.int (a % 2147483647),.int 0])) w = some [.int a,.int (a % 2147483647),.int 0] := Z1q e0
    generalize hZ2 : Z1.set w (.lst [.int a,.int (a % 2147483647),.int 0]) = Z2 at e1
    have e2 : getL (Z2 ++ [.lst [.int 0,.int a]]) w = some [.int a,.int (a % 2147483647),.int 0] := Q7 e1
    have e3 : ∃ q : Int,(if (1000000000000000000 : Int) ≤ a then a else 0) = q := ⟨_,rfl⟩
    obtain ⟨q,hq⟩ := e3
    have e4 := Z1q (us := [.int q,.int (a % 2147483647),.int 0]) e2
    obtain ⟨r, a', b', c', hr, ed⟩ := Zej e4 n h0 h1 none none
    have e22 : getL (Z2 ++ [O.lst [.int 0,.int a]]) Z2.length = some [.int 0,.int a] := by simp
    refine ⟨r, ((Z2 ++ [O.lst [.int 0, .int a]]).set w (.lst [.int q, .int (a % 2147483647), .int 0])).set w (.lst [.int a', .int b', .int c']), hr, ?_, ?_⟩
    · have e5 : isTy "list" (.loc w) Z = true := by
        have := Vh hw
        simp [isTy,this]
      by_cases hb : (1000000000000000000 : Int) ≤ a
      · rw [if_pos hb] at hq; subst hq
        simp [Yc,runF,Z07,hw,Z25 _ hw,e5,hZ1,e0,e00,hZ2,Z25 _ e1,e1,hb,Ze1 _ _ e2,ixN,gExtend,ed,Z25 _ e2,Z25 _ e22]
      · rw [if_neg hb] at hq; subst hq
        simp [Yc,runF,Z07,hw,Z25 _ hw,e5,hZ1,e0,e00,hZ2,Z25 _ e1,e1,hb,Ze1 _ _ e2,ixN,gExtend,ed,Z25 _ e2,Z25 _ e22]
    · refine ⟨.inr ⟨a', b', c', Z1q e4⟩, by subst hZ2 hZ1; simp; omega, fun i hi hn => ?_⟩
      subst hZ2 hZ1
      rw [List.getElem?_set_ne (Ne.symm hn),List.getElem?_set_ne (Ne.symm hn),List.getElem?_append_left (by simp; omega),List.getElem?_set_ne (Ne.symm hn),List.getElem?_append_left hi]
  · obtain ⟨r, a', b', c', hr, ed⟩ := Zej hw n h0 h1 none none
    refine ⟨r, _, hr, ?_, ⟨.inr ⟨a', b', c', Z1q hw⟩, by rw [List.length_set]; omega, fun i _ hn => List.getElem?_set_ne (Ne.symm hn)⟩⟩
    simp [Yc,runF,Z07,hw,ed]
theorem Z26 {Z : Sto} {w l : Nat} {ts : List Fx.T} (hw : Wd Z w) (hl : getL Z l = some ts) (hn : l ≠ w) (h0 : 0 < ts.length) (h1 : ts.length ≤ Lim) :
    ∃ (t : Fx.T) (Z' : Sto), t ∈ ts ∧ Yw [.loc w, .loc l] Z = .ok t Z' ∧ Kd w Z Z' := by
  obtain ⟨r, Z', hr, e, k⟩ := Z4w hw ts.length h0 (Nat.lt_of_le_of_lt h1 (by decide))
  have hl' := k.getL hn hl
  refine ⟨ts[r], Z', List.getElem_mem hr, ?_, k⟩
  have e2 := Fx.atI_nat (l := ts) (k := r) (a := ts[r]) (List.getElem?_eq_getElem hr)
  simp [Yw, runF, Za2, hl, e, Z25 _ hl', e2]
end Ap
set_option maxHeartbeats 8000000
namespace Ap
open PySem PySem.Spec PyProof.Rows L2 SX Fx
theorem Ziz {it : ItF} {m : Nat} {u : Nat → Fx.T} {body : Fx.T → FS} {ρ : Fx.Env} {Z : Sto} (I : Nat → Fx.Env → Sto → Prop) (hl : m ≤ Lim) (hit : ∀ k ρ Z, I k ρ Z → k ≤ m → it k Z = some (if k < m then some (u k) else none)) (h0 : I 0 ρ Z) (h : ∀ k < m, ∀ ρ Z, I k ρ Z → ∃ ρ' Z', body (u k) ρ Z = .nx ρ' Z' ∧ I (k + 1) ρ' Z') :
    ∃ ρ' Z', loopN it body Fuel 0 ρ Z = .nx ρ' Z' ∧ I m ρ' Z' := by
  have key : ∀ n k ρ Z, I k ρ Z → k ≤ m → m < n + k → ∃ ρ' Z', loopN it body n k ρ Z = .nx ρ' Z' ∧ I m ρ' Z' := by
    intro n
    induction n with
    | zero => intro k ρ Z _ h1 h2; omega
    | succ n ih =>
      intro k ρ Z hi h1 h2
      by_cases hk : k < m
      · obtain ⟨ρ', Z', e, hi'⟩ := h k hk ρ Z hi
        obtain ⟨ρ2, Z2, e2, hi2⟩ := ih (k + 1) ρ' Z' hi' (by omega) (by omega)
        refine ⟨ρ2,Z2,?_,hi2⟩
        rw [← e2]
        conv => lhs; unfold loopN
        rw [hit k ρ Z hi h1,if_pos hk]
        simp only [e,Z5y]
      · have : k = m := by omega
        subst this
        refine ⟨ρ,Z,?_,hi⟩
        unfold loopN
        rw [hit k ρ Z hi h1,if_neg hk]
  exact key Fuel 0 ρ Z h0 (Nat.zero_le _) (by rw [Z4c]; omega)
theorem Zcr {m : Nat} {body : Fx.T → FS} {ρ : Fx.Env} {Z : Sto} (I : Nat → Fx.Env → Sto → Prop) (hl : m ≤ Lim) (h0 : I 0 ρ Z) (h : ∀ k < m, ∀ ρ Z, I k ρ Z → ∃ ρ' Z', body (.int (k : Int)) ρ Z = .nx ρ' Z' ∧ I (k + 1) ρ' Z') :
    ∃ ρ' Z', loopN (itRng 0 m) body Fuel 0 ρ Z = .nx ρ' Z' ∧ I m ρ' Z' :=
  Ziz (u := fun k => .int (k : Int)) I hl (fun k ρ Z _ hk => by
    simp only [itRng]
    by_cases h : k < m
    · rw [if_pos h,if_pos h,Int.zero_add]
    · rw [if_neg h,if_neg h]) h0 h
theorem Wd.lt {Z : Sto} {w : Nat} (h : Wd Z w) : w < Z.length := by
  rcases h with ⟨_,h⟩ | ⟨_,_,_,h⟩ <;> exact Zat h
theorem Z8j {w : Nat} {Z Z1 Z2 : Sto} (k : Kd w Z Z1) (x : Ext Z1 Z2) : Kd w Z Z2 := by
  obtain ⟨Y,rfl⟩ := x
  exact k.trans (Kd.new k.wel)
theorem Zbt {w : Nat} {Z : Sto} (h : Wd Z w) : Kd w Z Z := ⟨h,Nat.le_refl _,fun _ _ _ => rfl⟩
theorem Zhi {Z : Sto} {w : Nat} (hw : Wd Z w) (ts : List Fx.T) (h0 : 0 < ts.length) (h1 : ts.length ≤ Lim) : ∃ t Z', t ∈ ts ∧ Yw [.loc w, .loc Z.length] (Z ++ [.lst ts]) = .ok t Z' ∧ Kd w Z Z' := by
  have hlt := hw.lt
  have k0 := Z8j (Zbt hw) ((Ext.refl Z).app [.lst ts])
  obtain ⟨t, Z', ht, e, k⟩ := Z26 (l := Z.length) k0.wel (Xe _ _) (by omega) h0 h1
  exact ⟨t, Z', ht, e, k0.trans k⟩
theorem Zdk {Z : Sto} {w : Nat} (hw : Wd Z w) (ns : List Nat) (h0 : 0 < ns.length) (h1 : ns.length ≤ 100) : ∃ k Z', k ∈ ns ∧ Yw [.loc w, .loc Z.length] (Z ++ [.lst (ns.map fun (k : Nat) => Fx.T.int (k : Int))]) = .ok (.int ((k : Nat) : Int)) Z' ∧ Kd w Z Z' := by
  obtain ⟨t, Z', ht, e, k⟩ := Zhi hw (ns.map fun (k : Nat) => Fx.T.int (k : Int)) (by rw [List.length_map]; exact h0) (by rw [List.length_map]; unfold Lim; omega)
  obtain ⟨m,hm,rfl⟩ := List.mem_map.mp ht
  exact ⟨m, Z', hm, e, k⟩
theorem Zhj {Z : Sto} {w : Nat} (hw : Wd Z w) (ns : List (List Nat)) (h0 : 0 < ns.length) (h1 : ns.length ≤ 100) : ∃ s Z', s ∈ ns ∧ Yw [.loc w, .loc Z.length] (Z ++ [.lst (ns.map .str)]) = .ok (.str s) Z' ∧ Kd w Z Z' := by
  obtain ⟨t, Z', ht, e, k⟩ := Zhi hw (ns.map .str) (by rw [List.length_map]; exact h0) (by rw [List.length_map]; unfold Lim; omega)
  obtain ⟨m,hm,rfl⟩ := List.mem_map.mp ht
  exact ⟨m, Z', hm, e, k⟩
def gaE (w n : Nat) (o2 o3 o4 o5 : Option Fx.T) : Fx.Env := [some (.loc w),some (.int (n : Int)),o2,o3,o4,o5]
theorem f_gap {Z : Sto} {w n : Nat} (hw : Wd Z w) (hn : n ≤ 5) : ∃ g Z', GpK n g ∧ Z0z [.loc w, .int (n : Int)] Z = .ok (.tup [.str (gT n g), .str (gV g)]) Z' ∧ Kd w Z Z' := by
  obtain ⟨d,Z1,hd,e1,k1⟩ := Z4w hw 2 (by decide) (by decide)
  replace e1 : Yc [.loc w,.int 2] Z = .ok (.int (d : Int)) Z1 := e1
  by_cases h0 : d = 0
  · subst h0
    obtain ⟨m,Z2,hm,e2,k2⟩ := Z4w k1.wel 3 (by decide) (by decide)
    replace e2 : Yc [.loc w,.int 3] Z1 = .ok (.int (m : Int)) Z2 := e2
    have hc : 1 + (m : Int) = ((m + 1 : Nat) : Int) := by omega
    have mu := Z32 32 (m + 1) Z2 (by omega)
    refine ⟨.bl m,Z2,by show m ≤ 2; omega,?_,k1.trans k2⟩
    show _ = R.ok (Fx.T.tup [.str (List.replicate (m + 1) 32),.str (List.replicate (m + 1) 32)]) Z2
    generalize ((m + 1 : Nat) : Int) = M1 at *
    generalize List.replicate (m + 1) 32 = RR at *
    simp [-Z5d,Z0z,runF,Z6e,e1,e2,hc,mu]
  · obtain ⟨q,Z2,hq,e2,k2⟩ := Zdk k1.wel [0,0,0,1,2,3] (by decide) (by decide)
    have hq3 : q ≤ 3 := by
      have : ∀ x ∈ ([0,0,0,1,2,3] : List Nat),x ≤ 3 := by decide
      exact this q hq
    obtain ⟨a,Z3,ha,e3,k3⟩ := Zdk k2.wel [0,0,1,2] (by decide) (by decide)
    have ha2 : a ≤ 2 := by
      have : ∀ x ∈ ([0,0,1,2] : List Nat),x ≤ 2 := by decide
      exact this a ha
    have hd0 : ¬ (d : Int) = 0 := by omega
    have mu3 := Z32 32 a Z3 (by omega)
    have ad3 := Xg (List.replicate a 32) [10] Z3 (by rw [List.length_replicate,List.length_singleton]; unfold Lim; omega)
    obtain ⟨ρ4, Z4, e4, ks, o5, hkl, hks, rfl, k4⟩ := Zcr (m := q) (body := fun t ρ' Z' => bS ρ' (gNm 5 t ρ' Z') Z2q) (Z := Z3) (ρ := gaE w n none (some (.int (q : Int))) (some (.str (List.replicate a 32 ++ [10]))) none)
      (fun j ρ Z' => ∃ (ks : List Nat) (o5 : Option Fx.T), ks.length = j ∧ (∀ k ∈ ks, k ≤ n + 2) ∧ ρ = gaE w n none (some (.int (q : Int))) (some (.str (List.replicate a 32 ++ [10] ++ (ks.flatMap fun k => List.replicate k 32 ++ [10])))) o5 ∧ Kd w Z3 Z')
      (by unfold Lim; omega) ⟨[],none,rfl,(fun k h => (by cases h)),by rw [List.flatMap_nil,List.append_nil],Zbt k3.wel⟩
      (fun j hj ρ Z' h => by
        obtain ⟨ks,o5,hkl,hks,rfl,kk⟩ := h
        obtain ⟨c,Z5,hc,e5,k5⟩ := Z4w kk.wel (n + 3) (by omega) (Nat.lt_of_le_of_lt (by omega : n + 3 ≤ 8) (by decide))
        have hcc : ((n + 3 : Nat) : Int) = (n : Int) + 3 := by omega
        rw [hcc] at e5
        have hfl : (ks.flatMap fun k => List.replicate k 32 ++ [10]).length ≤ 100 := by
          have : ∀ ks : List Nat,(∀ k ∈ ks,k ≤ n + 2) → (ks.flatMap fun k => List.replicate k 32 ++ [10]).length ≤ 8 * ks.length := fun ks => by
            induction ks with
            | nil => intro _; exact Nat.le_refl _
            | cons k ks ih =>
              intro hk
              have h1 := ih fun k hk' => hk k (List.mem_cons_of_mem _ hk')
              have h2 := hk k List.mem_cons_self
              rw [List.flatMap_cons,List.length_append,List.length_append,List.length_replicate,List.length_singleton,List.length_cons]
              omega
          have := this ks hks
          omega
        have mu := Z32 32 c Z5 (by omega)
        obtain ⟨T,hT⟩ : ∃ T,T = List.replicate a 32 ++ [10] ++ (ks.flatMap fun k => List.replicate k 32 ++ [10]) := ⟨_,rfl⟩
        have hTl : T.length ≤ 200 := by rw [hT,List.length_append,List.length_append,List.length_replicate,List.length_singleton]; omega
        have a1 := Xg T (List.replicate c 32) Z5 (by rw [List.length_replicate]; unfold Lim; omega)
        have a2 := Xg (T ++ List.replicate c 32) [10] Z5 (by rw [List.length_append,List.length_replicate,List.length_singleton]; unfold Lim; omega)
        refine ⟨gaE w n none (some (.int (q : Int))) (some (.str (T ++ List.replicate c 32 ++ [10]))) (some (.int (j : Int))),Z5,?_,ks ++ [c],some (.int (j : Int)),by rw [List.length_append,hkl]; rfl,?_,?_,kk.trans k5⟩
        · rw [← hT]
          generalize T ++ List.replicate c 32 ++ [10] = T2 at *
          generalize T ++ List.replicate c 32 = T1 at *
          generalize List.replicate c 32 = RC at *
          simp [-Va,-Z5d,Z2q,gaE,e5,mu,a1,a2]
        · intro k hk
          rcases List.mem_append.mp hk with h | h
          · exact hks k h
          · rw [List.mem_singleton.mp h]; omega
        · rw [hT,List.flatMap_append]
          simp)
    obtain ⟨e,Z5,he,e5,k5⟩ := Zdk k4.wel [0,0,0,1,3] (by decide) (by decide)
    have he3 : e ≤ 3 := by
      have : ∀ x ∈ ([0,0,0,1,3] : List Nat),x ≤ 3 := by decide
      exact this e he
    have gk : GpK n (.br a ks e) := ⟨ha2,by omega,hks,he3⟩
    obtain ⟨_,gl⟩ := Zmo hn gk
    have hTT : gT n (.br a ks e) = List.replicate a 32 ++ [10] ++ (ks.flatMap fun k => List.replicate k 32 ++ [10]) ++ List.replicate (n + e) 32 := by simp [gT]
    refine ⟨.br a ks e,Z5,gk,?_,k1.trans (k2.trans (k3.trans (k4.trans k5)))⟩
    have hce : (n : Int) + (e : Int) = ((n + e : Nat) : Int) := by omega
    have mu5 := Z32 32 (n + e) Z5 (by omega)
    have mu6 := Z32 10 q Z5 (by omega)
    rw [hTT] at gl
    have a5 := Xg (List.replicate a 32 ++ [10] ++ (ks.flatMap fun k => List.replicate k 32 ++ [10])) (List.replicate (n + e) 32) Z5 (by rw [List.length_append] at gl; unfold Lim; omega)
    have hr : ∀ Z,rngOf [.int (q : Int)] Z = .ok (itRng 0 q) Z := fun Z => rngN (n := q) (by unfold Lim; omega)
    have hgv : gV (.br a ks e) = if q = 0 then [32] else List.replicate q 10 := by
      show sep ks.length = _
      rw [hkl]; rfl
    simp only [List.map_cons,List.map_nil] at e2 e3 e5
    refine Nz (n := 6) (as := [.loc w,.int (n : Int)]) ?_
    unfold Z6e
    refine X5 (ρ' := gaE w n none none none none) (Z' := Z1) (by simp [gaE, e1, h0]) ?_
    refine X5 (ρ' := gaE w n none (some (.int (q : Int))) none none) (Z' := Z2) ?_ ?_
    · have e2' : Yw [.loc w, .loc Z1.length] (Z1 ++ [O.lst [.int 0, .int 0, .int 0, .int 1, .int 2, .int 3]]) = .ok (.int (q : Int)) Z2 := e2
      simp [gaE, e2']
    refine X5 (ρ' := gaE w n none (some (.int (q : Int))) (some (.str (List.replicate a 32 ++ [10]))) none) (Z' := Z3) ?_ ?_
    · have e3' : Yw [.loc w, .loc Z2.length] (Z2 ++ [O.lst [.int 0, .int 0, .int 1, .int 2]]) = .ok (.int (a : Int)) Z3 := e3
      generalize List.replicate a 32 ++ [10] = T1 at *
      generalize List.replicate a 32 = RA at *
      simp [-Va, -Z5d, gaE, e3', mu3, ad3]
    refine X5 (ρ' := gaE w n none (some (.int (q : Int))) (some (.str (List.replicate a 32 ++ [10] ++ (ks.flatMap fun k => List.replicate k 32 ++ [10])))) o5) (Z' := Z4) ?_ ?_
    · have hi : iRng (aCons (eVar 3) aNil) (gaE w n none (some (.int (q : Int))) (some (.str (List.replicate a 32 ++ [10]))) none) Z3 = .ok (itRng 0 q) Z3 := by simp [gaE,hr]
      rw [Zey,hi,Z8m]
      exact e4
    have e5' : Yw [.loc w, .loc Z4.length] (Z4 ++ [O.lst [.int 0, .int 0, .int 0, .int 1, .int 3]]) = .ok (.int (e : Int)) Z5 := e5
    rw [hgv,hTT]
    generalize List.replicate a 32 ++ [10] ++ (ks.flatMap fun k => List.replicate k 32 ++ [10]) ++ List.replicate (n + e) 32 = T2 at *
    generalize List.replicate a 32 ++ [10] ++ (ks.flatMap fun k => List.replicate k 32 ++ [10]) = T1 at *
    generalize List.replicate (n + e) 32 = RE at *
    generalize ((n + e : Nat) : Int) = NE at *
    by_cases hq0 : q = 0
    · subst hq0
      have hg : ¬ (0 : Int) < ((0 : Nat) : Int) := by omega
      simp [-Va, -Z5d, gaE, e5', hce, mu5, a5, gGtW]
    · have hg : (0 : Int) < (q : Int) := by omega
      rw [if_neg hq0]
      generalize List.replicate q 10 = RQ at *
      simp [-Va, -Z5d, gaE, e5', hce, mu5, a5, gGtW, hg, hq0, show 0 < q by omega, mu6]
end Ap
set_option maxHeartbeats 8000000
namespace Ap
open PySem PySem.Spec PyProof.Rows L2 SX Fx
def pT (p : List Nat × List Nat) : Fx.T := .tup [.str p.1,.str p.2]
def uL (n : Nat) (us : List (Gp × List Nat)) : List (List Nat × List Nat) := us.flatMap fun p => [(gT n p.1,gV p.1),(p.2,p.2)]
def pcL (n : Nat) (f : List Nat) (us : List (Gp × List Nat)) : List (List Nat × List Nat) := (f,f) :: uL n us
theorem Zek (n : Nat) : ∀ us : List (Gp × List Nat),(uL n us).length = 2 * us.length
  | [] => rfl
  | p :: us => by
    show ([(gT n p.1,gV p.1),(p.2,p.2)] ++ uL n us).length = _
    rw [List.length_append,Zek n us,List.length_cons]
    simp only [List.length_cons,List.length_nil]; omega
theorem uL_1 (n : Nat) : ∀ us : List (Gp × List Nat),((uL n us).map (·.1)).flatten = uT n us
  | [] => rfl
  | p :: us => by
    show (([(gT n p.1,gV p.1),(p.2,p.2)] ++ uL n us).map (·.1)).flatten = gT n p.1 ++ p.2 ++ uT n us
    rw [List.map_append,List.flatten_append,uL_1 n us]; simp
theorem uL_2 (n : Nat) : ∀ us : List (Gp × List Nat),((uL n us).map (·.2)).flatten = uV us
  | [] => rfl
  | p :: us => by
    show (([(gT n p.1,gV p.1),(p.2,p.2)] ++ uL n us).map (·.2)).flatten = gV p.1 ++ p.2 ++ uV us
    rw [List.map_append,List.flatten_append,uL_2 n us]; simp
theorem Zhk (n : Nat) : ∀ (us : List (Gp × List Nat)) (k : Nat),(uL n us).take (2 * k) = uL n (us.take k) ∧ (uL n us).drop (2 * k) = uL n (us.drop k)
  | [],k => by simp [uL]
  | p :: us,0 => ⟨rfl,rfl⟩
  | p :: us,k + 1 => by
    obtain ⟨a,b⟩ := Zhk n us k
    refine ⟨?_,?_⟩
    · show (((gT n p.1,gV p.1) :: (p.2,p.2) :: uL n us)).take (2 * k + 2) = (gT n p.1,gV p.1) :: (p.2,p.2) :: uL n (us.take k)
      rw [List.take_succ_cons,List.take_succ_cons,a]
    · show (((gT n p.1,gV p.1) :: (p.2,p.2) :: uL n us)).drop (2 * k + 2) = uL n (us.drop k)
      rw [List.drop_succ_cons,List.drop_succ_cons,b]
theorem Zl3 {α : Type} {u : α → Fx.T} {l : List α} {Z1 : Sto} {j : Nat} (h : getL Z1 j = some (l.map u)) : ∀ k Z,Ext Z1 Z → k ≤ l.length → itLoc j k Z = some ((l[k]?).map u) := fun k Z x _ => by
  simp only [itLoc,x.getL h,Option.map_some]
  rw [List.getElem?_map]
def piE (w n S : Nat) (o3 : Option Fx.T) (o4 o5 o6 : Option Fx.T) : Fx.Env := [some (.loc w),some (.int (n : Int)),some (.loc S),o3,o4,o5,o6]
theorem Zj0 {Z : Sto} {w n : Nat} (hw : Wd Z w) (hn : n ≤ 5) : ∃ f us L Z', f ∈ FL ∧ USk n us ∧ us.length ≤ 6 ∧ Z1t [.loc w, .int (n : Int)] Z = .ok (.loc L) Z' ∧ Kd w Z Z' ∧ Z.length ≤ L ∧ getL Z' L = some ((pcL n f us).map pT) := by
  have hwl := hw.lt
  obtain ⟨Z1,hZ1⟩ : ∃ Z1,Z1 = Z ++ [O.lst (WL.map .str)] := ⟨_,rfl⟩
  have k1 : Kd w Z Z1 := by rw [hZ1]; exact Kd.new hw
  have s1 : getL Z1 Z.length = some (WL.map .str) := by rw [hZ1]; exact Xe _ _
  have z1 : Z1.length = Z.length + 1 := by rw [hZ1,List.length_append]; rfl
  obtain ⟨f,Z2,hf,e2,k2⟩ := Zhj k1.wel FL (by decide) (by decide)
  obtain ⟨Z3,hZ3⟩ : ∃ Z3,Z3 = Z2 ++ [O.lst [pT (f,f)]] := ⟨_,rfl⟩
  have k3 : Kd w Z2 Z3 := by rw [hZ3]; exact Kd.new k2.wel
  have l3 : getL Z3 Z2.length = some [pT (f,f)] := by rw [hZ3]; exact Xe _ _
  have k12 := k1.trans k2
  have hz2 := k12.len
  obtain ⟨m,Z4,hm,e4,k4⟩ := Z4w k3.wel 7 (by decide) (by decide)
  replace e4 : Yc [.loc w,.int 7] Z3 = .ok (.int (m : Int)) Z4 := e4
  have k14 := k12.trans (k3.trans k4)
  have l4 : getL Z4 Z2.length = some ((pcL n f []).map pT) := k4.getL (by omega) l3
  obtain ⟨ρ5, Z5, e5, us, L, o5, o6, hul, hus, rfl, hL, l5, k5⟩ := Zcr (m := m) (body := fun t ρ' Z' => bS ρ' (gNm 5 t ρ' Z') Nh) (Z := Z4) (ρ := piE w n Z.length (some (.str f)) (some (.loc Z2.length)) none none)
    (fun j ρ Z' => ∃ (us : List (Gp × List Nat)) (L : Nat) (o5 o6 : Option Fx.T), us.length = j ∧ USk n us ∧ ρ = piE w n Z.length (some (.str f)) (some (.loc L)) o5 o6 ∧ Z.length < L ∧ getL Z' L = some ((pcL n f us).map pT) ∧ Kd w Z4 Z')
    (by unfold Lim; omega) ⟨[],Z2.length,none,none,rfl,(fun p h => (by cases h)),rfl,by have := k2.len; omega,l4,Zbt k4.wel⟩
    (fun j hj ρ Z' h => by
      obtain ⟨us,L,o5,o6,hul,hus,rfl,hL,lL,kk⟩ := h
      have sS : getL Z' Z.length = some (WL.map .str) := kk.getL (by omega) ((k2.trans (k3.trans k4)).getL (by omega) s1)
      obtain ⟨t,Z6,ht,e6,k6⟩ := Z26 kk.wel sS (by omega) (by decide) (by decide)
      obtain ⟨wd,hwd,rfl⟩ := List.mem_map.mp ht
      obtain ⟨g,Z7,hg,e7,k7⟩ := f_gap k6.wel hn
      have lL7 := (k6.trans k7).getL (by omega) lL
      have hpl : ((pcL n f us).map pT).length ≤ 100 := by rw [List.length_map]; show (uL n us).length + 1 ≤ 100; rw [Zek]; omega
      have ad := Zd3 L Z7.length (Z7 ++ [O.lst [pT (gT n g,gV g),pT (wd,wd)]]) (Q7 lL7) (Xe _ _) (by show _ + 2 ≤ Lim; unfold Lim; omega)
      have er : (pcL n f us).map pT ++ [pT (gT n g,gV g),pT (wd,wd)] = (pcL n f (us ++ [(g,wd)])).map pT := by
        unfold pcL uL
        rw [List.flatMap_append]
        simp
      rw [er] at ad
      have hz7 := (kk.trans (k6.trans k7)).len
      have hz4 := k14.len
      refine ⟨piE w n Z.length (some (.str f)) (some (.loc (Z7 ++ [O.lst [pT (gT n g,gV g),pT (wd,wd)]]).length)) (some (.int (j : Int))) (some (.str wd)),Z7 ++ [O.lst [pT (gT n g,gV g),pT (wd,wd)]] ++ [.lst ((pcL n f (us ++ [(g,wd)])).map pT)],?_,us ++ [(g,wd)],_,_,_,by rw [List.length_append,hul]; rfl,?_,rfl,?_,Xe _ _,?_⟩
      · generalize (pcL n f (us ++ [(g,wd)])).map pT = M at *
        have e7' : Z0z [.loc w, .int (n : Int)] Z6 = .ok (pT (gT n g, gV g)) Z7 := e7
        generalize pT (gT n g,gV g) = PG at *
        simp only [pT] at ad ⊢
        simp [-Za0, Nh, piE, e6, e7']
        simp [-Za0] at ad
        simp [-Za0,ad]
      · intro p hp
        rcases List.mem_append.mp hp with h | h
        · exact hus p h
        · rw [List.mem_singleton.mp h]; exact ⟨hwd,hg⟩
      · rw [List.length_append,List.length_singleton]; omega
      · exact kk.trans (k6.trans (k7.trans ((Kd.new k7.wel).trans (Kd.new (Kd.new k7.wel).wel))))
    )
  refine ⟨f,us,L,Z5,hf,hus,by omega,?_,k14.trans k5,by omega,l5⟩
  refine Nz (n := 7) (as := [.loc w,.int (n : Int)]) ?_
  unfold Z5f
  refine X5 (ρ' := piE w n Z.length none none none none) (Z' := Z1) (by rw [hZ1]; simp [piE, WL]) ?_
  refine X5 (ρ' := piE w n Z.length (some (.str f)) none none none) (Z' := Z2) ?_ ?_
  · have e2' : Yw [.loc w, .loc Z1.length] (Z1 ++ [O.lst [.str [97], .str [98,58,99], .str [45,49], .str [63,120], .str [58,121], .str [45,45], .str [48], .str [46,46,46]]]) = .ok (.str f) Z2 := e2
    simp [piE, e2']
  refine X5 (ρ' := piE w n Z.length (some (.str f)) (some (.loc Z2.length)) none none) (Z' := Z3) (by rw [hZ3]; simp [piE, pT]) ?_
  refine X5 (ρ' := piE w n Z.length (some (.str f)) (some (.loc L)) o5 o6) (Z' := Z5) ?_ (by simp [piE])
  have hr := rngN (n := m) (Z := Z4) (by unfold Lim; omega)
  have hi : iRng (aCons (eCall Yc [] (aCons (eVar 0) (aCons (eC (.int 7)) aNil))) aNil) (piE w n Z.length (some (.str f)) (some (.loc Z2.length)) none none) Z3 = .ok (itRng 0 m) Z4 := by simp [piE,e4,hr]
  rw [Zey,hi,Z8m]
  exact e5
theorem Z8k {put : Fx.T → Option Fx.Env} {e : FE} {sel : List Nat × List Nat → List Nat} {Z1 : Sto} {L : Nat} {ps : List (List Nat × List Nat)} (hl : ps.length ≤ 100) (h : getL Z1 L = some (ps.map pT)) (he : ∀ p Zc,∃ ρ,put (pT p) = some ρ ∧ e ρ Zc = .ok (.str (sel p)) Zc) :
    ∃ Z', loopC (itLoc L) Z1.length put eYes e Fuel 0 (Z1 ++ [.lst []]) = .ok (.loc Z1.length) Z' ∧ Ext Z1 Z' ∧ getL Z' Z1.length = some ((ps.map sel).map .str) := by
  obtain ⟨Z', e1, x1, g1⟩ := loopCL (it := itLoc L) (put := put) (c := eYes) (e := e) (l := ps) (u := pT) (p := fun _ => true) (fv := fun p => Fx.T.str (sel p)) (Z1 := Z1) (by unfold Lim; omega) (Zl3 h) (fun p hp Zc x => by
    obtain ⟨ρ,h1,h2⟩ := he p Zc
    exact ⟨ρ,Zc,h1,rfl,Ext.refl Zc,fun _ => ⟨Zc,h2,Ext.refl Zc⟩⟩)
  have em : (ps.filter fun _ => true) = ps := List.filter_eq_self.mpr fun _ _ => rfl
  rw [em] at g1
  exact ⟨Z', e1, x1, by rw [g1, List.map_map]; rfl⟩
end Ap
set_option maxHeartbeats 8000000
namespace Ap
open PySem PySem.Spec PyProof.Rows L2 SX Fx
theorem Z78 (ys : List (List Nat)) : sumL ys = ys.flatten.length := by
  unfold sumL
  rw [List.length_flatten]
theorem sl_list {Z : Sto} {i : Nat} {ts : List Fx.T} (h : getL Z i = some ts) (a b : Option Int) : gSl (.loc i) a b Z = some (.loc Z.length,Z ++ [.lst (cutL ts a b)]) := by
  show (match asList (.loc i) Z with | some ts => some (Fx.T.loc Z.length,Z ++ [O.lst (cutL ts a b)]) | none => none) = _
  rw [Jj,h]
theorem Zj1 {Z : Sto} {w n L : Nat} (hw : Wd Z w) (hn : n ≤ 5) {f : List Nat} {us : List (Gp × List Nat)} (hf : f ∈ FL) (hu : USk n us) (hl : us.length ≤ 6) (hg : getL Z L = some ((pcL n f us).map pT)) (hLw : L ≠ w) :
    ∃ k o Z', k ≤ us.length ∧ o ∈ oddL n ∧ Z1u [.loc w, .loc L, .int (n : Int)] Z = .ok (.str (f ++ uT n (us.take k) ++ o ++ [122] ++ uT n (us.drop k))) Z' ∧ Kd w Z Z' := by
  have hpl : (pcL n f us).length = 2 * us.length + 1 := by show (uL n us).length + 1 = _; rw [Zek]
  obtain ⟨k,Z1,hk,e1,k1⟩ := Z4w hw (us.length + 1) (by omega) (Nat.lt_of_le_of_lt (by omega : us.length + 1 ≤ 8) (by decide))
  have hlen : gLen [.loc L] Z = some (.int ((2 * us.length + 1 : Nat) : Int),Z) := by
    have e : gLen [.loc L] Z = (asSeq (.loc L) Z).map fun ts => (.int ts.length,Z) := rfl
    have : asSeq (.loc L) Z = some ((pcL n f us).map pT) := by simp [asSeq,Jj,hg]
    rw [e,this,Option.map_some,List.length_map,hpl]
  have hdv : gDiv (.int ((2 * us.length + 1 : Nat) : Int)) (.int 2) Z = some (.int ((us.length : Nat) : Int),Z) := by
    show (if (0 : Int) < 2 ∧ (2 : Int) < 2 ^ 200 then some (Fx.T.int (((2 * us.length + 1 : Nat) : Int) / 2),Z) else none) = _
    rw [if_pos ⟨by decide,by decide⟩,show ((2 * us.length + 1 : Nat) : Int) / 2 = ((us.length : Nat) : Int) by omega]
  have hc1 : ((us.length : Nat) : Int) + 1 = ((us.length + 1 : Nat) : Int) := by omega
  -- few
  obtain ⟨l2,Z2,e2,g2,x2⟩ : ∃ l2 Z2,sSet 4 (eIf (eBl (eBin gEq (eVar 2) (eC (.int 0)))) (eLst (aCons (eC (.str [10,45,45,45,32])) (aCons (eC (.str [10,46,46,46,10])) (aCons (eC (.str [10,35])) aNil)))) (eLst (aCons (eBin gAdd (eC (.str [10])) (eBin gMul (eC (.str [32])) (eBin gSub (eVar 2) (eC (.int 1))))) (aCons (eBin gAdd (eC (.str [10,10])) (eBin gMul (eC (.str [32])) (eBin gSub (eVar 2) (eC (.int 1))))) aNil)))) [some (.loc w),some (.loc L),some (.int (n : Int)),some (.int (k : Int)),none,none,none,none] Z1 = .nx [some (.loc w),some (.loc L),some (.int (n : Int)),some (.int (k : Int)),some (.loc l2),none,none,none] Z2 ∧ getL Z2 l2 = some ((oddA n).map .str) ∧ Ext Z1 Z2 := by
    by_cases h0 : n = 0
    · subst h0
      refine ⟨Z1.length,Z1 ++ [.lst ((oddA 0).map .str)],?_,Xe _ _,(Ext.refl Z1).app _⟩
      simp [oddA]
    · have hz : ¬ (n : Int) = 0 := by omega
      have hs : (n : Int) - 1 = ((n - 1 : Nat) : Int) := by omega
      have mu := Z32 32 (n - 1) Z1 (by omega)
      have a1 := Xg [10] (List.replicate (n - 1) 32) Z1 (by rw [List.length_replicate,List.length_singleton]; unfold Lim; omega)
      have a2 := Xg [10,10] (List.replicate (n - 1) 32) Z1 (by rw [List.length_replicate]; show 2 + _ ≤ _; unfold Lim; omega)
      refine ⟨Z1.length,Z1 ++ [.lst ((oddA n).map .str)],?_,Xe _ _,(Ext.refl Z1).app _⟩
      have ho : (oddA n).map Fx.T.str = [.str ([10] ++ List.replicate (n - 1) 32),.str ([10,10] ++ List.replicate (n - 1) 32)] := by
        unfold oddA
        rw [if_neg h0]; rfl
      rw [ho]
      generalize [10] ++ List.replicate (n - 1) 32 = A1 at *
      generalize [10,10] ++ List.replicate (n - 1) 32 = A2 at *
      generalize List.replicate (n - 1) 32 = RR at *
      rw [← hs] at mu
      simp [-Va,-Z5d,h0,mu,a1,a2]
  -- the odd one
  have hk2 := Z8j k1 x2
  obtain ⟨Z3,hZ3⟩ : ∃ Z3,Z3 = Z2 ++ [O.lst ((oddB n).map .str)] := ⟨_,rfl⟩
  have k3 : Kd w Z2 Z3 := by rw [hZ3]; exact Kd.new hk2.wel
  have l3 : getL Z3 Z2.length = some ((oddB n).map .str) := by rw [hZ3]; exact Xe _ _
  have g3 : getL Z3 l2 = some ((oddA n).map .str) := by rw [hZ3]; exact Q7 g2
  have hAl : (oddA n).length ≤ 3 := by unfold oddA; split <;> simp
  have hBl : (oddB n).length = 6 := rfl
  have ad := Zd3 l2 Z2.length Z3 g3 l3 (by rw [List.length_map,List.length_map,hBl]; unfold Lim; omega)
  have eA : (oddA n).map Fx.T.str ++ (oddB n).map .str = (oddL n).map .str := by unfold oddL; rw [List.map_append]
  rw [eA] at ad
  have hOl : (oddL n).length ≤ 9 := by unfold oddL; rw [List.length_append,hBl]; omega
  have hO0 : 0 < (oddL n).length := by unfold oddL; rw [List.length_append,hBl]; omega
  obtain ⟨o,Z4,ho,e4,k4⟩ := Zhj k3.wel (oddL n) hO0 (by omega)
  have k04 := hk2.trans (k3.trans k4)
  have hsix : ∀ Z,eLst (aCons (eC (.str [32,35])) (aCons (eC (.str [58,32])) (aCons (eC (.str [9])) (aCons (eC (.str [32,9,32])) (aCons (eBin gAdd (eC (.str [58,10])) (eBin gMul (eC (.str [32])) (eVar 2))) (aCons (eBin gAdd (eBin gAdd (eC (.str [10])) (eBin gMul (eC (.str [32])) (eVar 2))) (eC (.str [9]))) aNil)))))) [some (.loc w),some (.loc L),some (.int (n : Int)),some (.int (k : Int)),some (.loc l2),none,none,none] Z = .ok (.loc Z.length) (Z ++ [.lst ((oddB n).map .str)]) := fun Z => by
    have mu := Z32 32 n Z (by omega)
    have a1 := Xg [58,10] (List.replicate n 32) Z (by rw [List.length_replicate]; show 2 + _ ≤ _; unfold Lim; omega)
    have a2 := Xg [10] (List.replicate n 32) Z (by rw [List.length_replicate,List.length_singleton]; unfold Lim; omega)
    have a3 := Xg ([10] ++ List.replicate n 32) [9] Z (by rw [List.length_append,List.length_replicate,List.length_singleton]; show _ + 1 ≤ _; unfold Lim; omega)
    have hb : (oddB n).map Fx.T.str = [.str [32,35],.str [58,32],.str [9],.str [32,9,32],.str ([58,10] ++ List.replicate n 32),.str ([10] ++ List.replicate n 32 ++ [9])] := rfl
    rw [hb]
    generalize [58,10] ++ List.replicate n 32 = A1 at *
    generalize [10] ++ List.replicate n 32 ++ [9] = A3 at *
    generalize [10] ++ List.replicate n 32 = A2 at *
    generalize List.replicate n 32 = RR at *
    simp [-Va,-Z5d,mu,a1,a2,a3]
  -- the texts
  have g4 : getL Z4 L = some ((pcL n f us).map pT) := k04.getL hLw hg
  obtain ⟨Z5,e5,x5,g5⟩ := Z8k (put := fun t => putN [7] t (wipeR [some (.loc w),some (.loc L),some (.int (n : Int)),some (.int (k : Int)),some (.loc l2),some (.str o),none,none] [7])) (e := Ub) (sel := fun p => p.1) (by rw [hpl]; omega) g4 (fun p Zc => ⟨[some (.loc w),some (.loc L),some (.int (n : Int)),some (.int (k : Int)),some (.loc l2),some (.str o),none,some (pT p)],by rw [Z1a]; rfl,by
    have h2 : gIxW (pT p) (.int 0) Zc = some (.str p.1,Zc) := rfl
    generalize pT p = P at *
    simp [-Zd4,Ub,h2]⟩)
  have hc5 : 2 * (k : Int) + 1 = ((2 * k + 1 : Nat) : Int) := by omega
  obtain ⟨hA,hB⟩ := Zhk n us k
  have cu1 : cutL (((pcL n f us).map fun p => p.1).map Fx.T.str) none (some ((2 * k + 1 : Nat) : Int)) = (f :: (uL n (us.take k)).map fun p => p.1).map .str := by
    rw [Zff,← List.map_take,← List.map_take]
    show ((((f,f) :: uL n us).take (2 * k + 1)).map fun p => p.1).map Fx.T.str = _
    rw [List.take_succ_cons,hA]; rfl
  have cu2 : cutL (((pcL n f us).map fun p => p.1).map Fx.T.str) (some ((2 * k + 1 : Nat) : Int)) none = ((uL n (us.drop k)).map fun p => p.1).map .str := by
    rw [Zhl,← List.map_drop,← List.map_drop]
    show ((((f,f) :: uL n us).drop (2 * k + 1)).map fun p => p.1).map Fx.T.str = _
    rw [List.drop_succ_cons,hB]
  have ut1 := Zdj hn (us := us.take k) fun p hp => hu p (List.mem_of_mem_take hp)
  have ut2 := Zdj hn (us := us.drop k) fun p hp => hu p (List.mem_of_mem_drop hp)
  have hl1 : (us.take k).length ≤ 6 := by rw [List.length_take]; omega
  have hl2 : (us.drop k).length ≤ 6 := by rw [List.length_drop]; omega
  obtain ⟨_,ff2,_⟩ := Zix f hf
  have s1 := sl_list g5 none (some ((2 * k + 1 : Nat) : Int))
  rw [cu1] at s1
  obtain ⟨Z6,hZ6⟩ : ∃ Z6,Z6 = Z5 ++ [O.lst ((f :: (uL n (us.take k)).map fun p => p.1).map .str)] := ⟨_,rfl⟩
  rw [← hZ6] at s1
  have l6 : getL Z6 Z5.length = some ((f :: (uL n (us.take k)).map fun p => p.1).map .str) := by rw [hZ6]; exact Xe _ _
  have fl1 : (f :: (uL n (us.take k)).map fun p => p.1).flatten = f ++ uT n (us.take k) := by rw [List.flatten_cons,uL_1]
  have j1 := Ze0 (a := []) l6 (by rw [Z78,fl1,List.length_append,List.length_nil,Nat.mul_zero]; unfold Lim; omega)
  rw [Z2a,fl1] at j1
  have g6 : getL Z6 Z4.length = some (((pcL n f us).map fun p => p.1).map .str) := by rw [hZ6]; exact Q7 g5
  have s2 := sl_list g6 (some ((2 * k + 1 : Nat) : Int)) none
  rw [cu2] at s2
  obtain ⟨Z7,hZ7⟩ : ∃ Z7,Z7 = Z6 ++ [O.lst (((uL n (us.drop k)).map fun p => p.1).map .str)] := ⟨_,rfl⟩
  rw [← hZ7] at s2
  have l7 : getL Z7 Z6.length = some (((uL n (us.drop k)).map fun p => p.1).map .str) := by rw [hZ7]; exact Xe _ _
  have j2 := Ze0 (a := []) l7 (by rw [Z78,uL_1,List.length_nil,Nat.mul_zero]; unfold Lim; omega)
  rw [Z2a,uL_1] at j2
  have hol : o.length ≤ 20 := by
    have : ∀ o ∈ oddL n,o.length ≤ 20 := fun o ho => by
      unfold oddL at ho
      rcases List.mem_append.mp ho with h | h
      · unfold oddA at h
        split at h
        · simp only [List.mem_cons,List.not_mem_nil,or_false] at h
          rcases h with rfl | rfl | rfl <;> simp
        · simp only [List.mem_cons,List.not_mem_nil,or_false] at h
          rcases h with rfl | rfl <;> simp <;> omega
      · simp only [oddB,List.mem_cons,List.not_mem_nil,or_false] at h
        rcases h with rfl | rfl | rfl | rfl | rfl | rfl <;> simp <;> omega
    exact this o ho
  have a1 := Xg (f ++ uT n (us.take k)) o Z6 (by rw [List.length_append]; unfold Lim; omega)
  have a2 := Xg (f ++ uT n (us.take k) ++ o) [122] Z6 (by rw [List.length_append,List.length_append,List.length_singleton]; unfold Lim; omega)
  have a3 := Xg (f ++ uT n (us.take k) ++ o ++ [122]) (uT n (us.drop k)) Z7 (by rw [List.length_append,List.length_append,List.length_append,List.length_singleton]; unfold Lim; omega)
  have x57 : Ext Z4 Z7 := by
    rw [hZ7,hZ6]
    exact (x5.app _).app _
  refine ⟨k,o,Z7,by omega,ho,?_,Z8j k04 x57⟩
  refine Nz (n := 8) (as := [.loc w,.loc L,.int (n : Int)]) ?_
  unfold Z5g
  refine X5 (ρ' := [some (.loc w), some (.loc L), some (.int (n : Int)), some (.int (k : Int)), none, none, none, none]) (Z' := Z1) ?_ ?_
  · generalize ((2 * us.length + 1 : Nat) : Int) = LL at *
    generalize ((us.length + 1 : Nat) : Int) = L1 at *
    generalize ((us.length : Nat) : Int) = L0 at *
    have hl' : ∀ ρ, ρ = [some (.loc w), some (.loc L), some (.int (n : Int)), none, none, none, none, none] → eCallB gLen (aCons (eVar 1) aNil) ρ Z = .ok (.int LL) Z := fun ρ e => by
      subst e
      have : eCallB gLen (aCons (eVar 1) aNil) [some (.loc w),some (.loc L),some (.int (n : Int)),none,none,none,none,none] Z = lift (gLen [.loc L] Z) := by rfl
      rw [this,hlen]; rfl
    have hl2 := hl' _ rfl
    generalize eCallB gLen (aCons (eVar 1) aNil) = E at *
    simp [-div_ii,hl2,hdv,hc1,e1]
  refine X5 e2 ?_
  refine X5 (ρ' := [some (.loc w), some (.loc L), some (.int (n : Int)), some (.int (k : Int)), some (.loc l2), some (.str o), none, none]) (Z' := Z4) ?_ ?_
  · have h6 := hsix Z2
    rw [← hZ3] at h6
    generalize eLst (aCons (eC (.str [32,35])) (aCons (eC (.str [58,32])) (aCons (eC (.str [9])) (aCons (eC (.str [32,9,32])) (aCons (eBin gAdd (eC (.str [58,10])) (eBin gMul (eC (.str [32])) (eVar 2))) (aCons (eBin gAdd (eBin gAdd (eC (.str [10])) (eBin gMul (eC (.str [32])) (eVar 2))) (eC (.str [9]))) aNil)))))) = E at *
    simp [-Za0,h6,ad,e4]
  refine X5 (ρ' := [some (.loc w), some (.loc L), some (.int (n : Int)), some (.int (k : Int)), some (.loc l2), some (.str o), some (.loc Z4.length), none]) (Z' := Z5) ?_ ?_
  · have hi : iAny (eVar 1) [some (.loc w),some (.loc L),some (.int (n : Int)),some (.int (k : Int)),some (.loc l2),some (.str o),none,none] Z4 = .ok (itLoc L) Z4 := by simp [g4]
    have hc : eLc [7] [7] (iAny (eVar 1)) eYes Ub [some (.loc w),some (.loc L),some (.int (n : Int)),some (.int (k : Int)),some (.loc l2),some (.str o),none,none] Z4 = .ok (.loc Z4.length) Z5 := by rw [q_lc,hi,Yy]; exact e5
    rw [q_set,hc]; rfl
  generalize f ++ uT n (us.take k) ++ o ++ [122] ++ uT n (us.drop k) = T4 at *
  generalize f ++ uT n (us.take k) ++ o ++ [122] = T3 at *
  generalize f ++ uT n (us.take k) ++ o = T2 at *
  generalize f ++ uT n (us.take k) = T1 at *
  generalize uT n (us.drop k) = T0 at *
  rw [← hc5] at s1 s2
  have iss : ∀ Z, isTy "str" (.str []) Z = true := fun Z => rfl
  simp [-Va,-sl_s,-sl_l,oNone,oSome,s1,s2,j1,j2,a1,a2,a3,iss]
end Ap
set_option maxHeartbeats 8000000
namespace Ap
open PySem PySem.Spec PyProof.Rows L2 SX Fx
theorem Zmr (lc : Nat) : ∀ us : List (Gp × List Nat),uO lc us = ((us.any fun p => gB p.1) && lineL lc || (us.any fun p => p.2.any isBr) && brL lc)
  | [] => rfl
  | p :: us => by
    show (((gB p.1 && lineL lc) || (brL lc && p.2.any isBr)) || uO lc us) = _
    rw [Zmr lc us,List.any_cons,List.any_cons]
    cases gB p.1 <;> cases lineL lc <;> cases brL lc <;> cases (p.2.any isBr) <;> cases (us.any fun p => gB p.1) <;> cases (us.any fun p => p.2.any isBr) <;> rfl
theorem Zms {ct : List Nat × Nat × List Nat} (hct : ct ∈ cts) (Z : Sto) : gInW (.str ct.1) (.tup [.str [107,101,121],.str [112,97,105,114]]) Z = some (.bl (lineL ct.2.1),Z) := by
  rw [Z8f]
  simp only [cts,List.mem_cons,List.not_mem_nil,or_false] at hct
  rcases hct with rfl | rfl | rfl | rfl <;> rfl
theorem Zmt {ct : List Nat × Nat × List Nat} (hct : ct ∈ cts) (Z : Sto) : gInW (.str ct.1) (.tup [.str [102,108,111,119],.str [112,97,105,114]]) Z = some (.bl (brL ct.2.1),Z) := by
  rw [Z8f]
  simp only [cts,List.mem_cons,List.not_mem_nil,or_false] at hct
  rcases hct with rfl | rfl | rfl | rfl <;> rfl
theorem Zmu {ct : List Nat × Nat × List Nat} (hct : ct ∈ cts) (Z : Sto) : gInW (.str ct.1) (.tup [.str [98,108,111,99,107],.str [102,108,111,119]]) Z = some (.bl (!lineL ct.2.1),Z) := by
  rw [Z8f]
  simp only [cts,List.mem_cons,List.not_mem_nil,or_false] at hct
  rcases hct with rfl | rfl | rfl | rfl <;> rfl
def cE (o0 o1 : Option Fx.T) (w : Nat) (o3 : Option Fx.T) (n L : Nat) (t v : List Nat) (hb : Bool) (sp : List Nat) (hr : Bool) (o11 o12 o13 o14 o15 o16 o17 : Option Fx.T) : Fx.Env := [o0,o1,some (.loc w),o3,some (.int (n : Int)),some (.loc L),some (.str t),some (.str v),some (.bl hb),some (.str sp),some (.bl hr),o11,o12,o13,o14,o15,o16,o17]
section
variable {ct : List Nat × Nat × List Nat} {n L w : Nat} {f : List Nat} {us : List (Gp × List Nat)} {o0 o1 o3 o12 o13 o14 o15 o16 o17 : Option Fx.T} {Z : Sto}
theorem f_odd {t v sp : List Nat} {hb hr : Bool} {x : List Nat} (h : RN ct n x) : ∃ Z', Zb6 (cE o0 o1 w o3 n L t v hb sp hr (some (.str ct.1)) o12 o13 (some (.str x)) o15 o16 o17) Z = .nx (cE o0 o1 w o3 n L t v hb sp hr (some (.str ct.1)) o12 o13 (some (.str x)) o15 o16 o17) Z' ∧ Ext Z Z' := by
  obtain ⟨Z', e, xx⟩ := h Z
  refine ⟨Z', ?_, xx⟩
  replace e : Y9 [.str x, .str [112,108,97,105,110], .str ct.1, .int (n : Int), .int 1] Z = .ok .non Z' := e
  simp [Zb6,cE,e,Fx.isNon]
theorem f_ctx (hct : ct ∈ cts) (hn : n ≤ 5) (hf : f ∈ FL) (hu : USk n us) (hl : us.length ≤ 6) {k : Nat} {o : List Nat} (ho : o ∈ oddL n) :
    ∃ p12 p13 p14 p15 Z', Zb7 (cE o0 o1 w o3 n L (f ++ uT n us) (f ++ uV us) (us.any fun p => gB p.1) (f ++ uT n (us.take k) ++ o ++ [122] ++ uT n (us.drop k)) (us.any fun p => p.2.any isBr) (some (.str ct.1)) o12 o13 o14 o15 o16 o17) Z = .nx (cE o0 o1 w o3 n L (f ++ uT n us) (f ++ uV us) (us.any fun p => gB p.1) (f ++ uT n (us.take k) ++ o ++ [122] ++ uT n (us.drop k)) (us.any fun p => p.2.any isBr) (some (.str ct.1)) p12 p13 p14 p15 o16 o17) Z' ∧ Ext Z Z' := by
  have hn1 : n ≤ 100 := by omega
  obtain ⟨f1,f2,f3⟩ := Zix f hf
  obtain ⟨t1,t2⟩ := Zdj hn hu
  obtain ⟨v1,v2⟩ := Ziy hu
  have hut : UOk (us.take k) := fun p hp => (hu p (List.mem_of_mem_take hp)).1
  obtain ⟨a1,a2⟩ := Zdj hn (us := us.take k) fun p hp => hu p (List.mem_of_mem_take hp)
  obtain ⟨b1,b2⟩ := Zdj hn (us := us.drop k) fun p hp => hu p (List.mem_of_mem_drop hp)
  have hl1 : (us.take k).length ≤ 6 := by rw [List.length_take]; omega
  have hl2 : (us.drop k).length ≤ 6 := by rw [List.length_drop]; omega
  have hoc : o.all okC = true ∧ o.length ≤ 20 := by
    unfold oddL at ho
    rcases List.mem_append.mp ho with h | h
    · unfold oddA at h
      split at h
      · simp only [List.mem_cons,List.not_mem_nil,or_false] at h
        rcases h with rfl | rfl | rfl <;> exact ⟨rfl,by simp⟩
      · simp only [List.mem_cons,List.not_mem_nil,or_false] at h
        rcases h with rfl | rfl <;> exact ⟨by simp [okC],by simp; omega⟩
    · simp only [oddB,List.mem_cons,List.not_mem_nil,or_false] at h
      rcases h with rfl | rfl | rfl | rfl | rfl | rfl
      · exact ⟨rfl,by simp⟩
      · exact ⟨rfl,by simp⟩
      · exact ⟨rfl,by simp⟩
      · exact ⟨rfl,by simp⟩
      · exact ⟨by simp [okC],by simp; omega⟩
      · exact ⟨by simp [okC],by simp; omega⟩
  have okt : ∀ a b : List Nat,a.all okC = true → b.all okC = true → a.length ≤ 20 → b.length ≤ 20 → okT (a ++ (f ++ uT n us) ++ b) := fun a b h1 h2 h3 h4 => by
    refine ⟨?_,?_⟩
    · rw [List.all_append,List.all_append,List.all_append,h1,h2,f1,t1]; rfl
    · rw [List.length_append,List.length_append,List.length_append]; omega
  have ok0 : okT (f ++ uT n us) := by have := okt [] [] rfl rfl (by simp) (by simp); simpa using this
  have okr : ∀ b : List Nat,b.all okC = true → b.length ≤ 20 → okT (f ++ (uT n us ++ b)) := fun b h1 h2 => by
    have := okt [] b rfl h1 (by simp) h2
    simpa using this
  have okl : ∀ x b,okC x = true → b.all okC = true → b.length ≤ 10 → okT (x :: (b ++ (f ++ uT n us))) := fun x b h1 h2 h3 => by
    have := okt (x :: b) [] (by rw [List.all_cons,h1,h2]; rfl) rfl (by rw [List.length_cons]; omega) (by simp)
    simpa using this
  have oksp : okT (f ++ (uT n (us.take k) ++ (o ++ 122 :: uT n (us.drop k)))) := by
    refine ⟨?_,?_⟩
    · rw [List.all_append,List.all_append,List.all_append,List.all_cons,f1,a1,hoc.1,b1]; rfl
    · rw [List.length_append,List.length_append,List.length_append,List.length_cons]; omega
  have hsp : f ++ uT n (us.take k) ++ o ++ [122] ++ uT n (us.drop k) = f ++ (uT n (us.take k) ++ (o ++ 122 :: uT n (us.drop k))) := by simp
  -- the odd ones
  have r1 : RN ct n (f ++ uT n (us.take k) ++ o ++ [122] ++ uT n (us.drop k)) := by rw [hsp]; exact Zit hct hn1 hf hut ho oksp
  have r2 : RN ct n ([32] ++ (f ++ uT n us)) := Zbs hct hn1 (.inl rfl) (okl 32 [] rfl rfl (by simp))
  have r3 : RN ct n (f ++ uT n us ++ [32]) := by rw [List.append_assoc]; exact Zhf hct hn1 hf hu.ok (by simp) (okr [32] rfl (by simp))
  have r4 : RN ct n (f ++ uT n us ++ [58,32]) := by rw [List.append_assoc]; exact Zhf hct hn1 hf hu.ok (by simp) (okr [58,32] rfl (by simp))
  have r5 : RN ct n ([38] ++ (f ++ uT n us)) := Zbs hct hn1 (.inr (.inl rfl)) (okl 38 [] rfl rfl (by simp))
  have r6 : RN ct n ([44,32] ++ (f ++ uT n us)) := Zbs hct hn1 (.inr (.inr rfl)) (okl 44 [32] rfl rfl (by simp))
  have r7 : RN ct n (f ++ uT n us ++ [10]) := by rw [List.append_assoc]; exact Zhf hct hn1 hf hu.ok (by simp) (okr [10] rfl (by simp))
  have rg := fun ho => Zmj hct hn1 hf hu.ok ho ok0
  have rb : uO ct.2.1 us = true → RN ct n (f ++ uT n us) := fun ho => by
    have := Zkz (o := []) hct hn1 hf hu.ok ho (by simpa using Zeg hct) (by simpa using ok0)
    simpa using this
  have rc := Zl2 hct hn1 hf hu.ok (okr [58] rfl (by simp))
  have fit := fun ho Z => Zmq hct hf hu hl ho Z
  have hout := Zmr ct.2.1 us
  have hTl : (f ++ uT n us).length ≤ 1000 := by rw [List.length_append]; omega
  have hVl : (f ++ uV us).length ≤ 1000 := by rw [List.length_append]; omega
  rw [← List.append_assoc,← List.append_assoc] at rc
  have rcl := rc
  clear rc
  generalize hOut : uO ct.2.1 us = out at *
  generalize (us.any fun p => gB p.1) = hb at *
  generalize (us.any fun p => p.2.any isBr) = hr at *
  generalize f ++ uT n (us.take k) ++ o ++ [122] ++ uT n (us.drop k) = sp at *
  generalize f ++ uT n us = t at *
  generalize f ++ uV us = v at *
  have c1 := fun Z => Zms hct Z
  have c2 := fun Z => Zmt hct Z
  have c3 := fun Z => Zmu hct Z
  -- first
  obtain ⟨Z1,e1,x1⟩ : ∃ Z1,Y9 [.str t,.str pln,.str ct.1,.int (n : Int),.int 1] Z = .ok (if out = true then .non else .str v) Z1 ∧ Ext Z Z1 := by
    cases out with
    | true => exact rb rfl Z
    | false => exact rg rfl Z
  replace e1 : Y9 [.str t,.str [112,108,97,105,110],.str ct.1,.int (n : Int),.int 1] Z = .ok (if out = true then .non else .str v) Z1 := e1
  obtain ⟨Z2,e2,x2⟩ : ∃ Z2,sIf (Fx.tOr (eBl (eBin gNe (eVar 13) (eIf (eTru (eVar 12)) (eC .non) (eVar 7)))) (Fx.tAnd (Fx.tNot (eTru (eVar 12))) (Fx.tNot (eTru (eCall Z81 [] (aCons (eVar 7) (aCons (eC (.str [112,108,97,105,110])) (aCons (eVar 11) aNil)))))))) (sRet (eC (.bl false))) sPass (cE o0 o1 w o3 n L t v hb sp hr (some (.str ct.1)) (some (.bl out)) (some (if out = true then .non else .str v)) o14 o15 o16 o17) Z1 = .nx (cE o0 o1 w o3 n L t v hb sp hr (some (.str ct.1)) (some (.bl out)) (some (if out = true then .non else .str v)) o14 o15 o16 o17) Z2 ∧ Ext Z1 Z2 := by
    cases out with
    | true => exact ⟨Z1,by simp [cE],Ext.refl _⟩
    | false =>
      obtain ⟨Z2,e,x⟩ := fit rfl Z1
      replace e : Z81 [.str v,.str [112,108,97,105,110],.str ct.1] Z1 = .ok (.bl true) Z2 := e
      exact ⟨Z2,by simp [cE,e],x⟩
  -- the odd ones
  obtain ⟨ρ3, Z3, e3, p14, rfl, x3⟩ := Zcc (ts := [.str sp, .str ([32] ++ t), .str (t ++ [32]), .str (t ++ [58,32]), .str ([38] ++ t), .str ([44,32] ++ t), .str (t ++ [10])]) (body := fun x ρ' Z' => bS ρ' (gNm 14 x ρ' Z') Zb6) (ρ := cE o0 o1 w o3 n L t v hb sp hr (some (.str ct.1)) (some (.bl out)) (some (if out = true then .non else .str v)) o14 o15 o16 o17) (Z := Z2)
    (fun ρ Z' => ∃ p14, ρ = cE o0 o1 w o3 n L t v hb sp hr (some (.str ct.1)) (some (.bl out)) (some (if out = true then .non else .str v)) p14 o15 o16 o17 ∧ Ext Z2 Z') (by show 7 ≤ Lim; unfold Lim; omega) ⟨_, rfl, Ext.refl _⟩
    (fun x hx ρ Z' hI => by
      obtain ⟨p14,rfl,xe⟩ := hI
      obtain ⟨y,rfl,hy⟩ : ∃ y,x = .str y ∧ RN ct n y := by
        simp only [List.mem_cons,List.not_mem_nil,or_false] at hx
        rcases hx with rfl | rfl | rfl | rfl | rfl | rfl | rfl
        · exact ⟨_,rfl,r1⟩
        · exact ⟨_,rfl,r2⟩
        · exact ⟨_,rfl,r3⟩
        · exact ⟨_,rfl,r4⟩
        · exact ⟨_,rfl,r5⟩
        · exact ⟨_,rfl,r6⟩
        · exact ⟨_,rfl,r7⟩
      obtain ⟨Z'', e, xz⟩ := f_odd (o0 := o0) (o1 := o1) (w := w) (o3 := o3) (L := L) (t := t) (v := v) (hb := hb) (sp := sp) (hr := hr) (o12 := some (.bl out)) (o13 := some (if out = true then .non else .str v)) (o15 := o15) (o16 := o16) (o17 := o17) (Z := Z') hy
      exact ⟨_, Z'', e, some (.str y), rfl, xe.trans xz⟩)
  -- a colon
  obtain ⟨due,hdue⟩ : ∃ due,due = (if (out || !lineL ct.2.1) = true then Fx.T.non else .str (v ++ [58])) := ⟨_,rfl⟩
  obtain ⟨Z4,e4,x4⟩ : ∃ Z4,Y9 [.str (t ++ [58]),.str pln,.str ct.1,.int (n : Int),.int 1] Z3 = .ok due Z4 ∧ Ext Z3 Z4 := by
    cases out with
    | true =>
      subst hdue
      exact rcl.2 (.inl rfl) Z3
    | false =>
      cases hL : lineL ct.2.1 with
      | true =>
        rw [hL] at hdue
        subst hdue
        exact rcl.1 rfl hL Z3
      | false =>
        rw [hL] at hdue
        subst hdue
        exact rcl.2 (.inr hL) Z3
  replace e4 : Y9 [.str (t ++ [58]),.str [112,108,97,105,110],.str ct.1,.int (n : Int),.int 1] Z3 = .ok due Z4 := e4
  have s1 := fun Z => Xg [32] t Z (by show 1 + _ ≤ _; unfold Lim; omega)
  have s2 := fun Z => Xg t [32] Z (by show _ + 1 ≤ _; unfold Lim; omega)
  have s3 := fun Z => Xg t [58,32] Z (by show _ + 2 ≤ _; unfold Lim; omega)
  have s4 := fun Z => Xg [38] t Z (by show 1 + _ ≤ _; unfold Lim; omega)
  have s5 := fun Z => Xg [44,32] t Z (by show 2 + _ ≤ _; unfold Lim; omega)
  have s6 := fun Z => Xg t [10] Z (by show _ + 1 ≤ _; unfold Lim; omega)
  have s7 := fun Z => Xg t [58] Z (by show _ + 1 ≤ _; unfold Lim; omega)
  have s8 := fun Z => Xg v [58] Z (by show _ + 1 ≤ _; unfold Lim; omega)
  refine ⟨some (.bl out),some (if out = true then .non else .str v),p14,some due,Z4,?_,x1.trans (x2.trans (x3.trans x4))⟩
  unfold Zb7
  refine X5 (ρ' := cE o0 o1 w o3 n L t v hb sp hr (some (.str ct.1)) (some (.bl out)) o13 o14 o15 o16 o17) (Z' := Z) ?_ ?_
  · rw [hout]
    generalize ct.1 = CC at *
    generalize lineL ct.2.1 = LL at *
    generalize brL ct.2.1 = BB at *
    cases hb <;> cases LL <;> cases hr <;> cases BB <;> simp [-Z7r,cE,c1,c2]
  refine X5 (ρ' := cE o0 o1 w o3 n L t v hb sp hr (some (.str ct.1)) (some (.bl out)) (some (if out = true then .non else .str v)) o14 o15 o16 o17) (Z' := Z1) ?_ ?_
  · generalize (if out = true then Fx.T.non else .str v) = FF at *
    generalize ct.1 = CC at *
    simp [cE,e1]
  refine X5 e2 ?_
  refine X5 (ρ' := cE o0 o1 w o3 n L t v hb sp hr (some (.str ct.1)) (some (.bl out)) (some (if out = true then .non else .str v)) p14 o15 o16 o17) (Z' := Z3) ?_ ?_
  · generalize (if out = true then Fx.T.non else .str v) = FF at *
    generalize ct.1 = CC at *
    have hi : iAny (eTup (aCons (eVar 9) (aCons (eBin gAdd (eC (.str [32])) (eVar 6)) (aCons (eBin gAdd (eVar 6) (eC (.str [32]))) (aCons (eBin gAdd (eVar 6) (eC (.str [58,32]))) (aCons (eBin gAdd (eC (.str [38])) (eVar 6)) (aCons (eBin gAdd (eC (.str [44,32])) (eVar 6)) (aCons (eBin gAdd (eVar 6) (eC (.str [10]))) aNil)))))))) (cE o0 o1 w o3 n L t v hb sp hr (some (.str CC)) (some (.bl out)) (some FF) o14 o15 o16 o17) Z2 = .ok (itSeq [.str sp,.str ([32] ++ t),.str (t ++ [32]),.str (t ++ [58,32]),.str ([38] ++ t),.str ([44,32] ++ t),.str (t ++ [10])]) Z2 := by
      generalize [32] ++ t = T1 at *
      generalize t ++ [32] = T2 at *
      generalize t ++ [58,32] = T3 at *
      generalize [38] ++ t = T4 at *
      generalize [44,32] ++ t = T5 at *
      generalize t ++ [10] = T6 at *
      simp [-Va,cE,s1,s2,s3,s4,s5,s6]
    rw [Zey,hi,Z8m]
    exact e3
  refine X5 (ρ' := cE o0 o1 w o3 n L t v hb sp hr (some (.str ct.1)) (some (.bl out)) (some (if out = true then .non else .str v)) p14 (some due) o16 o17) (Z' := Z3) ?_ ?_
  · rw [hdue]
    generalize (if out = true then Fx.T.non else .str v) = FF at *
    generalize ct.1 = CC at *
    generalize lineL ct.2.1 = LL at *
    generalize v ++ [58] = V2 at *
    cases out <;> cases LL <;> simp [-Va,-Z7r,cE,c3,s8]
  · have nd : gNe due due Z4 = some (.bl false,Z4) := by
      rw [hdue]
      split <;> simp
    clear hdue
    generalize (if out = true then Fx.T.non else .str v) = FF at *
    generalize ct.1 = CC at *
    generalize t ++ [58] = T8 at *
    simp [-Va,cE,s7,e4,nd]
end
end Ap
set_option maxHeartbeats 8000000
namespace Ap
open PySem PySem.Spec PyProof.Rows L2 SX Fx
theorem Zmv {Z : Sto} {i j : Nat} {ts : List Fx.T} (h : getL Z i = some ts) (h2 : getL Z j = some []) : gNeL (.loc i) (.loc j) Z = some (.bl (!decide (ts = [])), Z) := by
  by_cases h0 : ts = []
  · subst h0
    have e1 : toD 16 Z (.loc i) = some (.list []) := by
      show ((getL Z i).bind fun ts => (ts.mapM (toD 15 Z)).map PyData.list) = _
      rw [h]; rfl
    have e2 : toD 16 Z (.loc j) = some (.list []) := by
      show ((getL Z j).bind fun ts => (ts.mapM (toD 15 Z)).map PyData.list) = _
      rw [h2]; rfl
    have e : gEqB (.loc i) (.loc j) Z = some true := by
      show gEqD _ _ _ = _
      have sh : SeqAt.shaped (.list []) = true := by decide
      simp only [gEqD,e1,e2,sh,and_self,if_true]
      rfl
    have hd : lenDiff (.loc i) (.loc j) Z = false := by simp [lenDiff,h,h2]
    unfold gNeL
    rw [hd]
    simp only [gNe,e,Option.map_some]
    rfl
  · have hd : lenDiff (.loc i) (.loc j) Z = true := by
      cases ts with
      | nil => exact absurd rfl h0
      | cons a l => simp [lenDiff,h,h2]
    unfold gNeL
    rw [hd,if_pos rfl,decide_eq_false h0]
    rfl
theorem gp_10 (n : Nat) (g : Gp) : decide (10 ∈ gT n g) = gB g := by
  cases g with
  | bl m =>
    refine decide_eq_false fun h => ?_
    have := (List.mem_replicate.mp h).2
    omega
  | br a ks e => exact decide_eq_true (by simp [gT])
theorem Zmw (n : Nat) : ∀ {us : List (Gp × List Nat)},USk n us → decide (10 ∈ uT n us) = us.any fun p => gB p.1
  | [],_ => rfl
  | p :: us,h => by
    have ih := Zmw n (us := us) fun q hq => h q (List.mem_cons_of_mem _ hq)
    have hw : ∀ w ∈ WL,10 ∉ w := by decide
    have h1 := hw _ (h p List.mem_cons_self).1
    have h2 := gp_10 n p.1
    rw [List.any_cons,← ih,← h2]
    show decide (10 ∈ gT n p.1 ++ p.2 ++ uT n us) = _
    rw [← Bool.decide_or]
    refine decide_eq_decide.mpr ?_
    rw [List.mem_append,List.mem_append]
    constructor
    · rintro ((h | h) | h)
      · exact .inl h
      · exact absurd h h1
      · exact .inr h
    · rintro (h | h)
      · exact .inl (.inl h)
      · exact .inr h
theorem t_10 {n : Nat} {f : List Nat} {us : List (Gp × List Nat)} (hf : f ∈ FL) (h : USk n us) : decide (10 ∈ f ++ uT n us) = us.any fun p => gB p.1 := by
  have hw : ∀ w ∈ FL,10 ∉ w := by decide
  rw [← Zmw n h]
  refine decide_eq_decide.mpr ?_
  rw [List.mem_append]
  exact ⟨fun e => e.elim (fun e => absurd e (hw f hf)) id,.inr⟩
theorem gV_br (g : Gp) : (gV g).any isBr = false := by
  have h1 : ∀ k,(List.replicate k 32).any isBr = false := fun k => by
    rw [List.any_eq_false]
    intro c hc
    rw [(List.mem_replicate.mp hc).2]; decide
  have h2 : ∀ k,(List.replicate k 10).any isBr = false := fun k => by
    rw [List.any_eq_false]
    intro c hc
    rw [(List.mem_replicate.mp hc).2]; decide
  cases g with
  | bl m => exact h1 _
  | br a ks e =>
    show (sep ks.length).any isBr = false
    unfold sep
    split
    · decide
    · exact h2 _
theorem Zmx : ∀ us : List (Gp × List Nat),(uV us).any isBr = us.any fun p => p.2.any isBr
  | [] => rfl
  | p :: us => by
    show (gV p.1 ++ p.2 ++ uV us).any isBr = _
    rw [List.any_append,List.any_append,gV_br,Bool.false_or,Zmx us,List.any_cons]
theorem v_br {f : List Nat} (hf : f ∈ FL) (us : List (Gp × List Nat)) : (f ++ uV us).any isBr = us.any fun p => p.2.any isBr := by
  have hw : ∀ w ∈ FL,w.any isBr = false := by decide
  rw [List.any_append,hw f hf,Bool.false_or,Zmx]
section
variable {w : Nat} {o0 o1 o3 o4 o5 o6 o7 o8 o9 o10 o11 o12 o13 o14 o15 o16 o17 : Option Fx.T} {Z : Sto}
theorem Zmy (hw : Wd Z w) : ∃ p4 p5 p6 p7 p8 p9 p10 p11 p12 p13 p14 p15 p16 p17 Z', Kd w Z Z' ∧ Zb8 [o0, o1, some (.loc w), o3, o4, o5, o6, o7, o8, o9, o10, o11, o12, o13, o14, o15, o16, o17] Z = .nx [o0, o1, some (.loc w), o3, p4, p5, p6, p7, p8, p9, p10, p11, p12, p13, p14, p15, p16, p17] Z' := by
  have hwl := hw.lt
  obtain ⟨n,Z1,hn6,e1,k1⟩ := Z4w hw 6 (by decide) (by decide)
  replace e1 : Yc [.loc w,.int 6] Z = .ok (.int (n : Int)) Z1 := e1
  have hn : n ≤ 5 := by omega
  obtain ⟨f,us,L,Z2,hf,hu,hl,e2,k2,hL,g2⟩ := Zj0 k1.wel hn
  have hLw : L ≠ w := by have := k1.len; omega
  have hpl : (pcL n f us).length = 2 * us.length + 1 := by show (uL n us).length + 1 = _; rw [Zek]
  obtain ⟨f1,f2,f3⟩ := Zix f hf
  obtain ⟨t1,t2⟩ := Zdj hn hu
  obtain ⟨v1,v2⟩ := Ziy hu
  -- the joins
  obtain ⟨Z3,e3,x3,g3⟩ := Z8k (put := fun t => putN [17] t (wipeR [o0,o1,some (.loc w),o3,some (.int (n : Int)),some (.loc L),o6,o7,o8,o9,o10,o11,o12,o13,o14,o15,o16,o17] [17])) (e := Zb3) (sel := fun p => p.1) (by rw [hpl]; omega) g2 (fun p Zc => ⟨[o0,o1,some (.loc w),o3,some (.int (n : Int)),some (.loc L),o6,o7,o8,o9,o10,o11,o12,o13,o14,o15,o16,some (pT p)],by rw [Z1a]; rfl,by
    have h2 : gIxW (pT p) (.int 0) Zc = some (.str p.1,Zc) := rfl
    generalize pT p = P at *
    simp [-Zd4,Zb3,h2]⟩)
  have fl1 : ((pcL n f us).map fun p => p.1).flatten = f ++ uT n us := by
    show (f :: (uL n us).map fun p => p.1).flatten = _
    rw [List.flatten_cons,uL_1]
  have j1 := Ze0 (a := []) g3 (by rw [Z78,fl1,List.length_append,List.length_nil,Nat.mul_zero]; unfold Lim; omega)
  rw [Z2a,fl1] at j1
  obtain ⟨Z4,e4,x4,g4⟩ := Z8k (put := fun t => putN [17] t (wipeR [o0,o1,some (.loc w),o3,some (.int (n : Int)),some (.loc L),o6,o7,o8,o9,o10,o11,o12,o13,o14,o15,o16,o17] [17])) (e := Zb2) (sel := fun p => p.2) (by rw [hpl]; omega) (x3.getL g2) (fun p Zc => ⟨[o0,o1,some (.loc w),o3,some (.int (n : Int)),some (.loc L),o6,o7,o8,o9,o10,o11,o12,o13,o14,o15,o16,some (pT p)],by rw [Z1a]; rfl,by
    have h2 : gIxW (pT p) (.int 1) Zc = some (.str p.2,Zc) := rfl
    generalize pT p = P at *
    simp [-Zd4,Zb2,h2]⟩)
  have fl2 : ((pcL n f us).map fun p => p.2).flatten = f ++ uV us := by
    show (f :: (uL n us).map fun p => p.2).flatten = _
    rw [List.flatten_cons,uL_2]
  have j2 := Ze0 (a := []) g4 (by rw [Z78,fl2,List.length_append,List.length_nil,Nat.mul_zero]; unfold Lim; omega)
  rw [Z2a,fl2] at j2
  have k4 := Z8j (Z8j (k1.trans k2) x3) x4
  -- spoilt
  obtain ⟨k,o,Z5,hk,ho,e5,k5⟩ := Zj1 k4.wel hn hf hu hl (x4.getL (x3.getL g2)) hLw
  -- brackets
  obtain ⟨Z6,e6,x6,g6⟩ := loopCL (it := itStr (f ++ uV us)) (put := fun t => putN [16] t (wipeR [o0,o1,some (.loc w),o3,some (.int (n : Int)),some (.loc L),some (.str (f ++ uT n us)),some (.str (f ++ uV us)),some (.bl (us.any fun p => gB p.1)),some (.str (f ++ uT n (us.take k) ++ o ++ [122] ++ uT n (us.drop k))),o10,o11,o12,o13,o14,o15,o16,o17] [16])) (c := Zb5) (e := Zb4) (l := f ++ uV us) (u := fun c => Fx.T.str [c]) (p := isBr) (fv := fun c => Fx.T.str [c]) (Z1 := Z5) (by rw [List.length_append]; unfold Lim; omega) (fun k Z _ hk => by
      have := Zmd (f ++ uV us) k Z (by rw [List.length_map]; exact hk)
      rw [List.getElem?_map] at this
      exact this)
    (fun c hc Zc x => ⟨[o0,o1,some (.loc w),o3,some (.int (n : Int)),some (.loc L),some (.str (f ++ uT n us)),some (.str (f ++ uV us)),some (.bl (us.any fun p => gB p.1)),some (.str (f ++ uT n (us.take k) ++ o ++ [122] ++ uT n (us.drop k))),o10,o11,o12,o13,o14,o15,some (.str [c]),o17],Zc,by rw [Z1a]; rfl,by
      have hb : gInW (.str [c]) (.str [44,91,93,123,125]) Zc = some (.bl (isBr c),Zc) := Zh1 c _ Zc
      generalize isBr c = b at *
      simp [-Zf3,Zb5,hb],Ext.refl Zc,fun _ => ⟨Zc,by simp [Zb4],Ext.refl Zc⟩⟩)
  have hne : (!decide (((f ++ uV us).filter isBr).map (fun c => Fx.T.str [c]) = [])) = us.any fun p => p.2.any isBr := by
    rw [← v_br hf us]
    cases h : (f ++ uV us).any isBr with
    | true =>
      rw [List.any_eq_true] at h
      obtain ⟨c,hc,hb⟩ := h
      rw [decide_eq_false]
      · rfl
      · intro e
        have : c ∈ (f ++ uV us).filter isBr := List.mem_filter.mpr ⟨hc,hb⟩
        rw [List.map_eq_nil_iff] at e
        rw [e] at this; cases this
    | false =>
      rw [List.any_eq_false] at h
      have : (f ++ uV us).filter isBr = [] := List.filter_eq_nil_iff.mpr h
      rw [this]; rfl
  have nl : gNeL (.loc Z5.length) (.loc Z6.length) (Z6 ++ [O.lst []]) = some (.bl (us.any fun p => p.2.any isBr),Z6 ++ [O.lst []]) := by
    rw [← hne]
    exact Zmv (Q7 g6) (Xe _ _)
  have h10 := t_10 hf hu
  obtain ⟨Z7,hZ7⟩ : ∃ Z7,Z7 = Z6 ++ [O.lst []] := ⟨_,rfl⟩
  have x7 : Ext Z5 Z7 := by rw [hZ7]; exact x6.app _
  -- the contexts
  obtain ⟨ρ8, Z8, e8, p11, p12, p13, p14, p15, rfl, x8⟩ := Zcc (ts := cts.map fun c => .str c.1) (body := fun t ρ' Z' => bS ρ' (gNm 11 t ρ' Z') Zb7) (ρ := cE o0 o1 w o3 n L (f ++ uT n us) (f ++ uV us) (us.any fun p => gB p.1) (f ++ uT n (us.take k) ++ o ++ [122] ++ uT n (us.drop k)) (us.any fun p => p.2.any isBr) o11 o12 o13 o14 o15 o16 o17) (Z := Z7)
    (fun ρ Z' => ∃ p11 p12 p13 p14 p15, ρ = cE o0 o1 w o3 n L (f ++ uT n us) (f ++ uV us) (us.any fun p => gB p.1) (f ++ uT n (us.take k) ++ o ++ [122] ++ uT n (us.drop k)) (us.any fun p => p.2.any isBr) p11 p12 p13 p14 p15 o16 o17 ∧ Ext Z7 Z') (by decide) ⟨_, _, _, _, _, rfl, Ext.refl _⟩
    (fun x hx ρ Z' hI => by
      obtain ⟨p11,p12,p13,p14,p15,rfl,xe⟩ := hI
      obtain ⟨c,hc,rfl⟩ := List.mem_map.mp hx
      obtain ⟨q12, q13, q14, q15, Z'', e, xz⟩ := f_ctx (o0 := o0) (o1 := o1) (w := w) (o3 := o3) (L := L) (o12 := p12) (o13 := p13) (o14 := p14) (o15 := p15) (o16 := o16) (o17 := o17) (Z := Z') (k := k) hc hn hf hu hl ho
      exact ⟨_, Z'', e, some (.str c.1), q12, q13, q14, q15, rfl, xe.trans xz⟩)
  simp only [Zlx,Z8m] at e8
  refine ⟨some (.int (n : Int)),some (.loc L),some (.str (f ++ uT n us)),some (.str (f ++ uV us)),some (.bl (us.any fun p => gB p.1)),some (.str (f ++ uT n (us.take k) ++ o ++ [122] ++ uT n (us.drop k))),some (.bl (us.any fun p => p.2.any isBr)),p11,p12,p13,p14,p15,o16,o17,Z8,Z8j (Z8j (k4.trans k5) x7) x8,?_⟩
  unfold Zb8
  refine X5 (ρ' := [o0, o1, some (.loc w), o3, some (.int (n : Int)), o5, o6, o7, o8, o9, o10, o11, o12, o13, o14, o15, o16, o17]) (Z' := Z1) (by simp [e1]) ?_
  refine X5 (ρ' := [o0, o1, some (.loc w), o3, some (.int (n : Int)), some (.loc L), o6, o7, o8, o9, o10, o11, o12, o13, o14, o15, o16, o17]) (Z' := Z2) (by simp [e2]) ?_
  refine X5 (ρ' := [o0, o1, some (.loc w), o3, some (.int (n : Int)), some (.loc L), some (.str (f ++ uT n us)), some (.str (f ++ uV us)), o8, o9, o10, o11, o12, o13, o14, o15, o16, o17]) (Z' := Z4) ?_ ?_
  · have hi : iAny (eVar 5) [o0,o1,some (.loc w),o3,some (.int (n : Int)),some (.loc L),o6,o7,o8,o9,o10,o11,o12,o13,o14,o15,o16,o17] Z2 = .ok (itLoc L) Z2 := by simp [g2]
    have hi2 : iAny (eVar 5) [o0,o1,some (.loc w),o3,some (.int (n : Int)),some (.loc L),o6,o7,o8,o9,o10,o11,o12,o13,o14,o15,o16,o17] Z3 = .ok (itLoc L) Z3 := by simp [x3.getL g2]
    have h1 : eLc [17] [17] (iAny (eVar 5)) eYes Zb3 [o0,o1,some (.loc w),o3,some (.int (n : Int)),some (.loc L),o6,o7,o8,o9,o10,o11,o12,o13,o14,o15,o16,o17] Z2 = .ok (.loc Z2.length) Z3 := by rw [q_lc,hi,Yy]; exact e3
    have h2 : eLc [17] [17] (iAny (eVar 5)) eYes Zb2 [o0,o1,some (.loc w),o3,some (.int (n : Int)),some (.loc L),o6,o7,o8,o9,o10,o11,o12,o13,o14,o15,o16,o17] Z3 = .ok (.loc Z3.length) Z4 := by rw [q_lc,hi2,Yy]; exact e4
    have iss : ∀ Z, isTy "str" (.str []) Z = true := fun Z => rfl
    generalize f ++ uT n us = T at *
    generalize f ++ uV us = V at *
    simp [-q_lc,h1,h2,iss,j1,j2]
  refine X5 (ρ' := [o0, o1, some (.loc w), o3, some (.int (n : Int)), some (.loc L), some (.str (f ++ uT n us)), some (.str (f ++ uV us)), some (.bl (us.any fun p => gB p.1)), some (.str (f ++ uT n (us.take k) ++ o ++ [122] ++ uT n (us.drop k))), o10, o11, o12, o13, o14, o15, o16, o17]) (Z' := Z5) ?_ ?_
  · have hin : gInW (.str [10]) (.str (f ++ uT n us)) Z4 = some (.bl (us.any fun p => gB p.1),Z4) := by rw [Zh1,h10]
    generalize (us.any fun p => gB p.1) = HB at *
    generalize f ++ uT n (us.take k) ++ o ++ [122] ++ uT n (us.drop k) = SP at *
    generalize f ++ uT n us = T at *
    generalize f ++ uV us = V at *
    simp [-Zf3,hin,e5]
  have hVl : (f ++ uV us).length ≤ Lim := by rw [List.length_append]; unfold Lim; omega
  generalize (us.any fun p => gB p.1) = HB at *
  generalize f ++ uT n (us.take k) ++ o ++ [122] ++ uT n (us.drop k) = SP at *
  generalize f ++ uT n us = T at *
  generalize f ++ uV us = V at *
  generalize (us.any fun p => p.2.any isBr) = HR at *
  refine X5 (ρ' := cE o0 o1 w o3 n L T V HB SP HR o11 o12 o13 o14 o15 o16 o17) (Z' := Z7) ?_ ?_
  · have hi : iAny (eVar 7) [o0,o1,some (.loc w),o3,some (.int (n : Int)),some (.loc L),some (.str T),some (.str V),some (.bl HB),some (.str SP),o10,o11,o12,o13,o14,o15,o16,o17] Z5 = .ok (itStr V) Z5 := by
      simp [hVl]
    have hc : eLc [16] [16] (iAny (eVar 7)) Zb5 Zb4 [o0,o1,some (.loc w),o3,some (.int (n : Int)),some (.loc L),some (.str T),some (.str V),some (.bl HB),some (.str SP),o10,o11,o12,o13,o14,o15,o16,o17] Z5 = .ok (.loc Z5.length) Z6 := by rw [q_lc,hi,Yy]; exact e6
    rw [← hZ7] at nl
    simp [-q_lc,hc,← hZ7,nl,cE]
  simp only [cts,List.map_cons,List.map_nil] at e8
  simp only [cE] at e8 ⊢
  simp [e8]
end
theorem Zmz {Z : Sto} (c : Int) (o0 : Option Fx.T) (o2 o3 o4 o5 o6 o7 o8 o9 o10 o11 o12 o13 o14 o15 o16 o17 : Option Fx.T) : ∃ q2 q3 q4 q5 q6 q7 q8 q9 q10 q11 q12 q13 q14 q15 q16 q17 Z', (∀ j < Z.length, Z'[j]? = Z[j]?) ∧ Z82 [o0, some (.int c), o2, o3, o4, o5, o6, o7, o8, o9, o10, o11, o12, o13, o14, o15, o16, o17] Z = .nx [o0, some (.int c), q2, q3, q4, q5, q6, q7, q8, q9, q10, q11, q12, q13, q14, q15, q16, q17] Z' := by
  obtain ⟨Z1,hZ1⟩ : ∃ Z1,Z1 = Z ++ [O.lst [.int c]] := ⟨_,rfl⟩
  have hw : Wd Z1 Z.length := .inl ⟨c,by rw [hZ1]; exact Xe _ _⟩
  obtain ⟨ρ3, Z3, e3, k3, r3, r4, r5, r6, r7, r8, r9, r10, r11, r12, r13, r14, r15, r16, r17, rfl⟩ := Zgg (m := 12) (body := fun t ρ' Z' => bS ρ' (gNm 3 t ρ' Z') Zb8) (Z := Z1) (ρ := [o0, some (.int c), some (.loc Z.length), o3, o4, o5, o6, o7, o8, o9, o10, o11, o12, o13, o14, o15, o16, o17])
    (fun ρ Z' => Kd Z.length Z1 Z' ∧ ∃ r3 r4 r5 r6 r7 r8 r9 r10 r11 r12 r13 r14 r15 r16 r17, ρ = [o0, some (.int c), some (.loc Z.length), r3, r4, r5, r6, r7, r8, r9, r10, r11, r12, r13, r14, r15, r16, r17]) (by unfold Lim; omega) ⟨Zbt hw, o3, o4, o5, o6, o7, o8, o9, o10, o11, o12, o13, o14, o15, o16, o17, rfl⟩
    (fun j hj ρ Z' h => by
      obtain ⟨x,r3,r4,r5,r6,r7,r8,r9,r10,r11,r12,r13,r14,r15,r16,r17,rfl⟩ := h
      obtain ⟨s4, s5, s6, s7, s8, s9, s10, s11, s12, s13, s14, s15, s16, s17, Z'', k', er⟩ := Zmy (o0 := o0) (o1 := some (.int c)) (o3 := some (.int (j : Int))) (o4 := r4) (o5 := r5) (o6 := r6) (o7 := r7) (o8 := r8) (o9 := r9) (o10 := r10) (o11 := r11) (o12 := r12) (o13 := r13) (o14 := r14) (o15 := r15) (o16 := r16) (o17 := r17) x.wel
      exact ⟨[o0, some (.int c), some (.loc Z.length), some (.int (j : Int)), s4, s5, s6, s7, s8, s9, s10, s11, s12, s13, s14, s15, s16, s17], Z'', by simp [er], x.trans k', some (.int (j : Int)), s4, s5, s6, s7, s8, s9, s10, s11, s12, s13, s14, s15, s16, s17, rfl⟩)
  simp only [Zlx,Z8m] at e3
  refine ⟨some (.loc Z.length),r3,r4,r5,r6,r7,r8,r9,r10,r11,r12,r13,r14,r15,r16,r17,Z3,fun j hj => ?_,?_⟩
  · rw [k3.keep j (by rw [hZ1]; simp; omega) (by omega),hZ1,List.getElem?_append_left hj]
  · have r3' : ∀ Z, rngOf [.int 12] Z = .ok (itRng 0 12) Z := fun Z => rngN (n := 12) (by unfold Lim; omega)
    simp [Z82, ← hZ1, r3', e3]
section
variable {o1 o2 o3 o4 o5 o6 o7 o8 o9 o10 o11 o12 o13 o14 o15 o16 o17 : Option Fx.T}
theorem law_0 {Z : Sto} (ns : List Int) : ∃ Z', Zm6 [some (.frl (ns.map .int)), o1, o2, o3, o4, o5, o6, o7, o8, o9, o10, o11, o12, o13, o14, o15, o16, o17] Z = .rt (.bl true) Z' := by
  obtain ⟨s,hs⟩ : ∃ s,s = some (Fx.T.frl (ns.map .int)) := ⟨_,rfl⟩
  have cu : cutL (ns.map Fx.T.int) none (some 6) = (ns.take 6).map .int := by
    have := Zff (ns.map Fx.T.int) 6
    rw [List.map_take]
    exact this
  have ad := Zd3 Z.length (Z.length + 1) (Z ++ [O.lst ((ns.take 6).map .int)] ++ [O.lst [.int 0]]) (a := (ns.take 6).map .int) (b := [.int 0]) (by simp [getL]) (by simp [getL]) (by simp [Lim]; omega)
  obtain ⟨Z1,hZ1⟩ : ∃ Z1,Z1 = Z ++ [O.lst ((ns.take 6).map .int)] ++ [O.lst [.int 0]] ++ [O.lst ((ns.take 6).map .int ++ [.int 0])] := ⟨_,rfl⟩
  have hl : (Z ++ [O.lst ((ns.take 6).map Fx.T.int)] ++ [O.lst [.int 0]]).length = Z.length + 2 := by simp
  have g1 : getL Z1 (Z.length + 2) = some ((ns.take 6).map .int ++ [.int 0]) := by
    rw [hZ1,← hl]; exact Xe _ _
  obtain ⟨ρ2, Z2, e2, p1, p2, p3, p4, p5, p6, p7, p8, p9, p10, p11, p12, p13, p14, p15, p16, p17, rfl, _⟩ := Zgf (i := Z.length + 2) (ts := (ns.take 6).map .int ++ [.int 0]) (body := fun t ρ' Z' => bS ρ' (gNm 1 t ρ' Z') Z82) (ρ := [s, o1, o2, o3, o4, o5, o6, o7, o8, o9, o10, o11, o12, o13, o14, o15, o16, o17]) (Z := Z1)
    (fun ρ Z' => ∃ p1 p2 p3 p4 p5 p6 p7 p8 p9 p10 p11 p12 p13 p14 p15 p16 p17, ρ = [s, p1, p2, p3, p4, p5, p6, p7, p8, p9, p10, p11, p12, p13, p14, p15, p16, p17] ∧ getL Z' (Z.length + 2) = some ((ns.take 6).map .int ++ [.int 0])) (by simp [Lim]; omega) (fun ρ Z' h => by obtain ⟨_, _, _, _, _, _, _, _, _, _, _, _, _, _, _, _, _, _, h⟩ := h; exact h) ⟨o1, o2, o3, o4, o5, o6, o7, o8, o9, o10, o11, o12, o13, o14, o15, o16, o17, rfl, g1⟩
    (fun x hx ρ Z' h => by
      obtain ⟨p1,p2,p3,p4,p5,p6,p7,p8,p9,p10,p11,p12,p13,p14,p15,p16,p17,rfl,g⟩ := h
      obtain ⟨c,rfl⟩ : ∃ c,x = .int c := by
        rcases List.mem_append.mp hx with h | h
        · obtain ⟨c,_,rfl⟩ := List.mem_map.mp h
          exact ⟨c,rfl⟩
        · exact ⟨0,List.mem_singleton.mp h⟩
      obtain ⟨q2, q3, q4, q5, q6, q7, q8, q9, q10, q11, q12, q13, q14, q15, q16, q17, Z'', hk, e⟩ := Zmz (Z := Z') c s p2 p3 p4 p5 p6 p7 p8 p9 p10 p11 p12 p13 p14 p15 p16 p17
      refine ⟨[s, some (.int c), q2, q3, q4, q5, q6, q7, q8, q9, q10, q11, q12, q13, q14, q15, q16, q17], Z'', by simp [e], some (.int c), q2, q3, q4, q5, q6, q7, q8, q9, q10, q11, q12, q13, q14, q15, q16, q17, rfl, ?_⟩
      have hlt := Zat g
      rw [Z36] at g ⊢
      rw [hk _ hlt]; exact g)
  refine ⟨Z2,?_⟩
  have hf : sFor (iAny (eBin gAdd (eSl (eVar 0) oNone (oSome (eC (.int 6)))) (eLst (aCons (eC (.int 0)) aNil)))) (gNm 1) Z82 [s,o1,o2,o3,o4,o5,o6,o7,o8,o9,o10,o11,o12,o13,o14,o15,o16,o17] Z = .nx [s,p1,p2,p3,p4,p5,p6,p7,p8,p9,p10,p11,p12,p13,p14,p15,p16,p17] Z2 := by
    have hi : iAny (eBin gAdd (eSl (eVar 0) oNone (oSome (eC (.int 6)))) (eLst (aCons (eC (.int 0)) aNil))) [s,o1,o2,o3,o4,o5,o6,o7,o8,o9,o10,o11,o12,o13,o14,o15,o16,o17] Z = .ok (itLoc (Z.length + 2)) Z1 := by
      rw [hl] at ad
      rw [hZ1] at g1 ⊢
      generalize (ns.take 6).map Fx.T.int = M at *
      generalize ns.map Fx.T.int = N at *
      simp only [List.append_assoc,List.cons_append,List.nil_append] at ad g1 ⊢
      simp [-Za0,hs,cu,ad,g1]
    rw [Zey,hi,Z8m]
    exact e2
  rw [← hs]
  exact X5 hf rfl
end
theorem law_true (ns : List Int) (hn : ns.length ≤ 63) : ∃ Z,Zkl [.frl (ns.map .int)] [] = .ok (.bl true) Z := by
  obtain ⟨Z1,e1⟩ := law_0 (o1 := none) (o2 := none) (o3 := none) (o4 := none) (o5 := none) (o6 := none) (o7 := none) (o8 := none) (o9 := none) (o10 := none) (o11 := none) (o12 := none) (o13 := none) (o14 := none) (o15 := none) (o16 := none) (o17 := none) (Z := []) ns
  exact ⟨Z1,Nz (n := 18) (as := [.frl (ns.map .int)]) e1⟩
end Ap
set_option maxHeartbeats 4000000
open PySem PySem.W PySem.Calls PyProof.Rows
set_option maxHeartbeats 0 in
theorem PySem.Challenge.cw_anchorpages_k29_whole_values_of_plain_te_holds : PySem.Challenge.rw_anchorpages_k29_whole_values_of_plain_te.Holds := by
  refine Ap.pre_law ?_
  refine HandSHeadRun.head_any (r := OpenLaw.row PySem.Challenge.rw_anchorpages_k29_whole_values_of_plain_te) (q := view (OpenLaw.row PySem.Challenge.rw_anchorpages_k29_whole_values_of_plain_te).prog [55]) (H := Ap.hk5) (ob := Ap.ob5) (M := 7360) (loose := Ap.nms) (d := HandSHeadRun.topDef (OpenLaw.row PySem.Challenge.rw_anchorpages_k29_whole_values_of_plain_te).prog 55) (kwd := []) Ap.Zlu
    (by kernel_rfl) (fun s => by kernel_rfl) Ap.run5 (by kernel_rfl) (by kernel_rfl) (by kernel_rfl) (by rfl) (by first | assumption | decide +kernel) (by decide +kernel) ⟨rfl,rfl,rfl,rfl,rfl,by decide +kernel⟩ ?hw ?hc
  case hw => w_witness2
  case hc =>
    refine Fx.Zk7 (m := 0) (l := PySem.Challenge.rw_anchorpages_k29_whole_values_of_plain_te) (n := 63) (k := 8) (x := "_law_script") (F := Ap.Zkl) (fun _ _ => trivial) rfl (by decide) (by kernel_rfl) ⟨rfl, by decide, by decide⟩ ?F Ap.law_true
    intro w mg K C
    have e : (HandSHeadRun.topDef (OpenLaw.row PySem.Challenge.rw_anchorpages_k29_whole_values_of_plain_te).prog 55).name = ("law" : PySem.Str) := by kernel_rfl
    rw [e]
    exact ⟨_,Ap.Zm7 C,fun s v => L2.FunD.bindsA (ps := Ap.Zkd) (Ap.Zji C) (fun _ _ _ _ _ _ us hl => match us,hl with | [_],_ => rfl) s [v] rfl,fun base => Ap.Zm9 C⟩
#print axioms PySem.Challenge.cw_anchorpages_k29_whole_values_of_plain_te_holds

